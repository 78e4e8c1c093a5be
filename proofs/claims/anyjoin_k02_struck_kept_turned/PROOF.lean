import PyProof.Rows.All
import Wide.All
import OpenK.AllK
import Wide.FinOn
import KE.KStateDown
import Lean
import HandS.ForMost
import HandS.ForExc
import HandS.HeadHook2
import HandS.TupAny
import HandS.TupMul
import HandS.Style
import HandS.Flow
import HandS.Star
import HandS.CallSlots
import HandS.Wide
import HandS.IsInst
import HandS.Deep
import HandS.Defaults
import HandS.ExcInit
import HandS.TupLen
import HandS.TryOnly
import HandS.Rev
import HandS.Zip
import HandS.Iter
import HandS.NoneIn
import HandS.TryMany
import HandS.ExcOwn
import HandS.ClsMeth
import HandS.Lambda
import HandS.Head0
import HandS.Head1
import HandS.Head2
import HandS.HeadEnd
import HandS.HeadHook1
import HandS.Dict
import HandS.DictComp
import PySem.Challenge.RW_anyjoin_k02_struck_kept_turned
set_option Elab.async false
set_option linter.all false
set_option maxRecDepth 100000
set_option maxHeartbeats 4000000
/-! DL1: data by value over the hand layer: D, what a value stands for, the lifted readings. -/
namespace DL
open PySem PySem.Spec PyProof.Rows L2
abbrev Frag := PySem.W.Frag
abbrev St := L2.St

/-- data: tuples, lists that nobody changes any more, dicts and instances likewise, by value; ref: an object that may be changed -/
inductive D where
  | non | bl (b : Bool) | int (i : Int) | str (x : Str) | ty (n : String) | glo (x : Str)
  | tup (xs : List D) | ktp (xs : List D) | lst (xs : List D) | fz (xs : List D) | dic (t : Nat) (ks vs : List D) | ins (C : Str) (ns : List Str) (xs : List D) | exn (a d : Addr) (ns : List Str) (xs : List D) | ref (a : Addr)
/-- what may be changed -/
inductive DO where
  | lst (xs : List D) | dic (t : Nat) (ks vs : List D) | ldc (t : Nat) (ks vs : List D) | ins (C : Str) (ns : List Str) (xs : List D)
/-- a dict that is locked -/
def DO.isL : DO → Bool
  | .ldc _ _ _ => true
  | _ => false
abbrev DHp := Addr → Option DO
def updD (G : DHp) (a : Addr) (o : DO) : DHp := fun b => if b = a then some o else G b
theorem updD_same {G : DHp} {a : Addr} {o : DO} : updD G a o a = some o := if_pos rfl
theorem updD_ne {G : DHp} {a b : Addr} {o : DO} (h : b ≠ a) : updD G a o b = G b := if_neg h
theorem updD_updD {G : DHp} {a : Addr} {o u : DO} : updD (updD G a o) a u = updD G a u := by
  funext b; unfold updD; split <;> rfl
def keyD : Key → D
  | .inl i => .int i
  | .inr x => .str x

def isDct : HO → Bool
  | .dK _ | .dT _ => true
  | _ => false
/-- stands at a: a dict also while it is locked, other things as themselves -/
def Sd (H : Hp) (a : Addr) (u : HO) : Prop := H a = some u ∨ (isDct u = true ∧ ∃ o, H a = some (.frz o u))
theorem Sd.rd {H : Hp} {a : Addr} {u : HO} (h : Sd H a u) : Rd H a u := h.elim .inl fun h => .inr h.2
theorem Sd.ex {H : Hp} {a : Addr} {u : HO} (h : Sd H a u) (n : isDct u = false) : H a = some u := h.elim id fun h => by rw [n] at h; cases h.1
def Im : HO → Prop
  | .lst _ | .dK _ | .dT _ | .ins _ _ _ | .xd _ => True
  | _ => False
/-- a list of the script's kind, or of the module's top: it is read alone -/
def FzS (K : Frag) (H : Hp) (a : Addr) (vs : List V) : Prop :=
  (∃ o, H a = some (.frz o (.lst vs))) ∨ ∃ (o : Obj) (its : Array Value) (n : Nat), K.lookup a = some o ∧ o.cls = .type "list" ∧ o.dict = none ∧ o.data = .seq its n ∧ its.size ≤ sizeLine ∧ Vals vs its.toList
theorem FzS.sq {K : Frag} {H : Hp} {a : Addr} {vs : List V} (h : FzS K H a vs) : SqL K H a vs := h.elim (fun h => .inl (.inr h)) .inr
/-- a tuple of the module's top -/
def TupK (K : Frag) (a : Addr) (vs : List V) : Prop := ∃ (o : Obj) (its : Array Value) (n : Nat), K.lookup a = some o ∧ o.cls = .type "tuple" ∧ o.data = .seq its n ∧ its.size ≤ sizeLine ∧ Vals vs its.toList
mutual
/-- v stands for d -/
def RD (K : Frag) (G : DHp) (H : Hp) : D → V → Prop
  | .non, v => v = .non
  | .bl b, v => v = .bl b
  | .int i, v => v = .int i
  | .str x, v => v = .str x
  | .ty n, v => v = .ty n
  | .glo x, v => v = .ref (He.ga K x)
  | .ref a, v => v = .ref a
  | .tup xs, v => ∃ a vs, v = .ref a ∧ H a = some (.tup vs) ∧ vs.length ≤ sizeLine ∧ RDs K G H xs vs
  | .ktp xs, v => ∃ a vs, v = .ref a ∧ TupK K a vs ∧ vs.length ≤ sizeLine ∧ RDs K G H xs vs
  | .lst xs, v => ∃ a vs, v = .ref a ∧ G a = none ∧ H a = some (.lst vs) ∧ vs.length ≤ sizeLine ∧ RDs K G H xs vs
  | .fz xs, v => ∃ a vs, v = .ref a ∧ FzS K H a vs ∧ vs.length ≤ sizeLine ∧ RDs K G H xs vs
  | .dic t ks xs, v => ∃ a, v = .ref a ∧ G a = none ∧ ((t = 0 ∧ ∃ kvs : List (Key × V), Sd H a (.dK kvs) ∧ ks = kvs.map (fun p => keyD p.1) ∧ kvs.length ≤ sizeLine ∧ RDs K G H xs (kvs.map (·.2))) ∨
      t = 1 ∧ ∃ kvs : List (List Key × V), Sd H a (.dT kvs) ∧ ks = kvs.map (fun p => .tup (p.1.map keyD)) ∧ kvs.length ≤ sizeLine ∧ RDs K G H xs (kvs.map (·.2)))
  | .ins C ns xs, v => ∃ a dx fvs, v = .ref a ∧ G a = none ∧ Sd H a (.ins (He.ga K C) dx fvs) ∧ fvs.map (·.1) = ns ∧ RDs K G H xs (fvs.map (·.2))
  | .exn a d ns xs, v => v = .ref a ∧ G d = none ∧ ∃ fvs : List (Str × V), H d = some (.xd fvs) ∧ fvs.map (·.1) = ns ∧ RDs K G H xs (fvs.map (·.2))
def RDs (K : Frag) (G : DHp) (H : Hp) : List D → List V → Prop
  | [], vs => vs = []
  | x :: xs, vs => ∃ v r, vs = v :: r ∧ RD K G H x v ∧ RDs K G H xs r
end
def RO (K : Frag) (G : DHp) (H : Hp) (a : Addr) : DO → Prop
  | .lst xs => ∃ vs, H a = some (.lst vs) ∧ vs.length ≤ sizeLine ∧ RDs K G H xs vs
  | .dic t ks xs => (t = 0 ∧ ∃ kvs : List (Key × V), H a = some (.dK kvs) ∧ ks = kvs.map (fun p => keyD p.1) ∧ kvs.length ≤ sizeLine ∧ RDs K G H xs (kvs.map (·.2))) ∨
      t = 1 ∧ ∃ kvs : List (List Key × V), H a = some (.dT kvs) ∧ ks = kvs.map (fun p => .tup (p.1.map keyD)) ∧ kvs.length ≤ sizeLine ∧ RDs K G H xs (kvs.map (·.2))
  | .ldc t ks xs => (t = 0 ∧ ∃ (ob : Obj) (kvs : List (Key × V)), H a = some (.frz ob (.dK kvs)) ∧ ks = kvs.map (fun p => keyD p.1) ∧ kvs.length ≤ sizeLine ∧ RDs K G H xs (kvs.map (·.2))) ∨
      t = 1 ∧ ∃ (ob : Obj) (kvs : List (List Key × V)), H a = some (.frz ob (.dT kvs)) ∧ ks = kvs.map (fun p => .tup (p.1.map keyD)) ∧ kvs.length ≤ sizeLine ∧ RDs K G H xs (kvs.map (·.2))
  | .ins C ns xs => ∃ dx fvs, H a = some (.ins (He.ga K C) dx fvs) ∧ fvs.map (·.1) = ns ∧ RDs K G H xs (fvs.map (·.2))
def HR (K : Frag) (G : DHp) (H : Hp) : Prop := ∀ a o, G a = some o → RO K G H a o
/-- what nobody may change stands as it was -/
structure ExtR (G : DHp) (H : Hp) (G' : DHp) (H' : Hp) : Prop where
  tup : ∀ a vs, H a = some (.tup vs) → H' a = some (.tup vs)
  imm : ∀ a u, Im u → G a = none → Sd H a u → Sd H' a u ∧ G' a = none
  frl : ∀ a o vs, H a = some (.frz o (.lst vs)) → H' a = some (.frz o (.lst vs))
structure Ext (G : DHp) (H : Hp) (G' : DHp) (H' : Hp) : Prop where
  tup : ∀ a vs, H a = some (.tup vs) → H' a = some (.tup vs)
  imm : ∀ a u, Im u → G a = none → Sd H a u → Sd H' a u ∧ G' a = none
  frz : ∀ a o u, H a = some (.frz o u) → H' a = some (.frz o u)
theorem Ext.toR {G G' : DHp} {H H' : Hp} (e : Ext G H G' H') : ExtR G H G' H' := ⟨e.tup, e.imm, fun a o vs h => e.frz a o (.lst vs) h⟩
section
variable {K : Frag} {G G1 G2 G' : DHp} {H H1 H2 H' : Hp}
theorem Ext.refl : Ext G H G H := ⟨fun _ _ h => h, fun _ _ _ g h => ⟨h, g⟩, fun _ _ _ h => h⟩
theorem Ext.trans (a : Ext G H G1 H1) (b : Ext G1 H1 G2 H2) : Ext G H G2 H2 :=
  ⟨fun c vs h => b.tup c vs (a.tup c vs h), fun c u i g h => let ⟨h1, g1⟩ := a.imm c u i g h; b.imm c u i g1 h1, fun c o vs h => b.frz c o vs (a.frz c o vs h)⟩
theorem fzs_ext (e : ExtR G H G' H') {a : Addr} {vs : List V} (h : FzS K H a vs) : FzS K H' a vs := h.imp (fun ⟨o, h⟩ => ⟨o, e.frl a o vs h⟩) id
mutual
theorem RD.extR (e : ExtR G H G' H') : ∀ {d : D} {v : V}, RD K G H d v → RD K G' H' d v
  | .non, _, h => h
  | .bl _, _, h => h
  | .int _, _, h => h
  | .str _, _, h => h
  | .ty _, _, h => h
  | .glo _, _, h => h
  | .ref _, _, h => h
  | .tup xs, v, h => by
    unfold RD at h ⊢
    obtain ⟨a, vs, e1, e2, e3, e4⟩ := h
    exact ⟨a, vs, e1, e.tup a vs e2, e3, RDs.extR e e4⟩
  | .ktp xs, v, h => by
    unfold RD at h ⊢
    obtain ⟨a, vs, e1, e2, e3, e4⟩ := h
    exact ⟨a, vs, e1, e2, e3, RDs.extR e e4⟩
  | .lst xs, v, h => by
    unfold RD at h ⊢
    obtain ⟨a, vs, e1, g, e2, e3, e4⟩ := h
    obtain ⟨h', g'⟩ := e.imm a (.lst vs) True.intro g (.inl e2)
    exact ⟨a, vs, e1, g', h'.ex rfl, e3, RDs.extR e e4⟩
  | .fz xs, v, h => by
    unfold RD at h ⊢
    obtain ⟨a, vs, e1, e2, e3, e4⟩ := h
    exact ⟨a, vs, e1, fzs_ext e e2, e3, RDs.extR e e4⟩
  | .dic t ks xs, v, h => by
    unfold RD at h ⊢
    obtain ⟨a, e1, g, h⟩ := h
    rcases h with ⟨et, kvs, e2, e3, e4, e5⟩ | ⟨et, kvs, e2, e3, e4, e5⟩
    · obtain ⟨h', g'⟩ := e.imm a (.dK kvs) True.intro g e2
      exact ⟨a, e1, g', .inl ⟨et, kvs, h', e3, e4, RDs.extR e e5⟩⟩
    · obtain ⟨h', g'⟩ := e.imm a (.dT kvs) True.intro g e2
      exact ⟨a, e1, g', .inr ⟨et, kvs, h', e3, e4, RDs.extR e e5⟩⟩
  | .ins C ns xs, v, h => by
    unfold RD at h ⊢
    obtain ⟨a, dx, fvs, e1, g, e2, e3, e4⟩ := h
    obtain ⟨h', g'⟩ := e.imm a (.ins (He.ga K C) dx fvs) True.intro g e2
    exact ⟨a, dx, fvs, e1, g', h', e3, RDs.extR e e4⟩
  | .exn a d ns xs, v, h => by
    unfold RD at h ⊢
    obtain ⟨e1, g, fvs, e2, e3, e4⟩ := h
    obtain ⟨h', g'⟩ := e.imm d (.xd fvs) True.intro g (.inl e2)
    exact ⟨e1, g', fvs, h'.ex rfl, e3, RDs.extR e e4⟩
theorem RDs.extR (e : ExtR G H G' H') : ∀ {ds : List D} {vs : List V}, RDs K G H ds vs → RDs K G' H' ds vs
  | [], _, h => h
  | x :: xs, vs, h => by
    unfold RDs at h ⊢
    obtain ⟨v, r, e1, e2, e3⟩ := h
    exact ⟨v, r, e1, RD.extR e e2, RDs.extR e e3⟩
end
theorem RD.ext (e : Ext G H G' H') {d : D} {v : V} (h : RD K G H d v) : RD K G' H' d v := RD.extR e.toR h
theorem RDs.ext (e : Ext G H G' H') {ds : List D} {vs : List V} (h : RDs K G H ds vs) : RDs K G' H' ds vs := RDs.extR e.toR h
theorem RDs.cons {x : D} {xs : List D} {v : V} {vs : List V} (h : RD K G H x v) (t : RDs K G H xs vs) : RDs K G H (x :: xs) (v :: vs) := by
  unfold RDs; exact ⟨v, vs, rfl, h, t⟩
theorem RDs.nil : RDs K G H [] [] := by unfold RDs; rfl
theorem RDs.nil_inv {vs : List V} (h : RDs K G H [] vs) : vs = [] := by unfold RDs at h; exact h
theorem RDs.cons_inv {x : D} {xs : List D} {vs : List V} (h : RDs K G H (x :: xs) vs) : ∃ v r, vs = v :: r ∧ RD K G H x v ∧ RDs K G H xs r := by unfold RDs at h; exact h
theorem RDs.length : ∀ {ds : List D} {vs : List V}, RDs K G H ds vs → ds.length = vs.length
  | [], _, h => by rw [h.nil_inv]; rfl
  | x :: xs, vs, h => by
    obtain ⟨v, r, e1, _, e3⟩ := h.cons_inv
    rw [e1]
    exact congrArg (· + 1) (RDs.length e3)
theorem RDs.nil_of {ds : List D} (h : RDs K G H ds []) : ds = [] := List.length_eq_zero_iff.mp h.length
theorem RDs.get : ∀ {ds : List D} {vs : List V} {i : Nat} {d : D}, RDs K G H ds vs → ds[i]? = some d → ∃ v, vs[i]? = some v ∧ RD K G H d v
  | [], _, _, _, _, e => by simp at e
  | x :: xs, vs, 0, d, h, e => by
    obtain ⟨v, r, e1, e2, e3⟩ := h.cons_inv
    cases Option.some.inj e
    exact ⟨v, by rw [e1]; rfl, e2⟩
  | x :: xs, vs, i + 1, d, h, e => by
    obtain ⟨v, r, e1, e2, e3⟩ := h.cons_inv
    obtain ⟨u, h1, h2⟩ := RDs.get (i := i) e3 e
    exact ⟨u, by rw [e1]; exact h1, h2⟩
theorem RDs.getV : ∀ {ds : List D} {vs : List V} {i : Nat} {v : V}, RDs K G H ds vs → vs[i]? = some v → ∃ d, ds[i]? = some d ∧ RD K G H d v := fun {ds vs i v} h e => by
  have hl := h.length
  have hi : i < ds.length := by rw [hl]; exact (List.getElem?_eq_some_iff.mp e).1
  obtain ⟨u, h1, h2⟩ := h.get (List.getElem?_eq_getElem hi)
  rw [e] at h1
  cases h1
  exact ⟨_, List.getElem?_eq_getElem hi, h2⟩
theorem RDs.append : ∀ {ds es : List D} {vs ws : List V}, RDs K G H ds vs → RDs K G H es ws → RDs K G H (ds ++ es) (vs ++ ws)
  | [], _, _, _, h, t => by rw [h.nil_inv]; exact t
  | x :: xs, _, vs, _, h, t => by
    obtain ⟨v, r, e1, e2, e3⟩ := h.cons_inv
    rw [e1]
    exact .cons e2 (RDs.append e3 t)
theorem RDs.take : ∀ {ds : List D} {vs : List V} (n : Nat), RDs K G H ds vs → RDs K G H (ds.take n) (vs.take n)
  | _, _, 0, _ => .nil
  | [], _, n + 1, h => by rw [h.nil_inv]; exact .nil
  | x :: xs, vs, n + 1, h => by
    obtain ⟨v, r, e1, e2, e3⟩ := h.cons_inv
    rw [e1]
    exact .cons e2 (RDs.take n e3)
theorem RDs.drop : ∀ {ds : List D} {vs : List V} (n : Nat), RDs K G H ds vs → RDs K G H (ds.drop n) (vs.drop n)
  | _, _, 0, h => h
  | [], _, n + 1, h => by rw [h.nil_inv]; exact .nil
  | x :: xs, vs, n + 1, h => by
    obtain ⟨v, r, e1, e2, e3⟩ := h.cons_inv
    rw [e1]
    exact RDs.drop n e3
theorem RDs.reverse : ∀ {ds : List D} {vs : List V}, RDs K G H ds vs → RDs K G H ds.reverse vs.reverse
  | [], _, h => by rw [h.nil_inv]; exact .nil
  | x :: xs, vs, h => by
    obtain ⟨v, r, e1, e2, e3⟩ := h.cons_inv
    rw [e1, List.reverse_cons, List.reverse_cons]
    exact (RDs.reverse e3).append (.cons e2 .nil)
theorem RDs.set : ∀ {ds : List D} {vs : List V} {d : D} {v : V} (i : Nat), RDs K G H ds vs → RD K G H d v → RDs K G H (ds.set i d) (vs.set i v)
  | [], _, _, _, _, h, _ => by rw [h.nil_inv]; exact .nil
  | x :: xs, vs, d, v, 0, h, r => by
    obtain ⟨v', r', e1, e2, e3⟩ := h.cons_inv
    rw [e1]
    exact .cons r e3
  | x :: xs, vs, d, v, i + 1, h, r => by
    obtain ⟨v', r', e1, e2, e3⟩ := h.cons_inv
    rw [e1]
    exact .cons e2 (RDs.set i e3 r)
theorem RDs.none_of {ds : List D} {vs : List V} {i : Nat} (h : RDs K G H ds vs) (e : ds[i]? = none) : vs[i]? = none := by
  have := h.length
  have h2 := List.getElem?_eq_none_iff.mp e
  exact List.getElem?_eq_none_iff.mpr (by omega)
theorem RDs.ints : ∀ {ns : List Int}, RDs K G H (ns.map D.int) (ns.map V.int)
  | [] => .nil
  | _ :: _ => .cons (by unfold RD; rfl) RDs.ints
theorem RDs.ints_inv : ∀ {ns : List Int} {vs : List V}, RDs K G H (ns.map D.int) vs → vs = ns.map V.int
  | [], _, h => h.nil_inv
  | n :: ns, vs, h => by
    obtain ⟨v, r, e1, e2, e3⟩ := RDs.cons_inv (x := .int n) (xs := ns.map D.int) h
    unfold RD at e2
    rw [e1, e2, RDs.ints_inv e3]
    rfl
theorem RDs.replicate {d : D} {v : V} (h : RD K G H d v) : ∀ n : Nat, RDs K G H (List.replicate n d) (List.replicate n v)
  | 0 => .nil
  | n + 1 => .cons h (RDs.replicate h n)
theorem RDs.flatten : ∀ {n : Nat} {ds : List D} {vs : List V}, RDs K G H ds vs → RDs K G H (List.replicate n ds).flatten (List.replicate n vs).flatten
  | 0, _, _, _ => .nil
  | n + 1, ds, vs, h => by
    show RDs K G H (ds ++ (List.replicate n ds).flatten) (vs ++ (List.replicate n vs).flatten)
    exact h.append (RDs.flatten h)
theorem RO.extR (e : ExtR G H G' H') {a : Addr} {o : DO} (h : RO K G H a o) (hs : H' a = H a) : RO K G' H' a o := by
  cases o with
  | lst xs => obtain ⟨vs, e1, e2, e3⟩ := h; exact ⟨vs, hs.trans e1, e2, e3.extR e⟩
  | dic t ks xs =>
    rcases h with ⟨et, kvs, e1, e2, e3, e4⟩ | ⟨et, kvs, e1, e2, e3, e4⟩
    · exact .inl ⟨et, kvs, hs.trans e1, e2, e3, e4.extR e⟩
    · exact .inr ⟨et, kvs, hs.trans e1, e2, e3, e4.extR e⟩
  | ldc t ks xs =>
    rcases h with ⟨et, ob, kvs, e1, e2, e3, e4⟩ | ⟨et, ob, kvs, e1, e2, e3, e4⟩
    · exact .inl ⟨et, ob, kvs, hs.trans e1, e2, e3, e4.extR e⟩
    · exact .inr ⟨et, ob, kvs, hs.trans e1, e2, e3, e4.extR e⟩
  | ins C ns xs => obtain ⟨dx, fvs, e1, e2, e3⟩ := h; exact ⟨dx, fvs, hs.trans e1, e2, e3.extR e⟩
theorem RO.ext (e : Ext G H G' H') {a : Addr} {o : DO} (h : RO K G H a o) (hs : H' a = H a) : RO K G' H' a o := h.extR e.toR hs
theorem RO.some {a : Addr} {o : DO} (h : RO K G H a o) : ∃ u, H a = some u ∧ (∀ xs, u ≠ .tup xs) ∧ (o.isL = false → ∀ ob w, u ≠ .frz ob w) := by
  cases o with
  | lst xs => obtain ⟨vs, e1, _⟩ := h; exact ⟨_, e1, (fun _ z => by cases z), (fun _ _ _ z => by cases z)⟩
  | dic t ks xs =>
    rcases h with ⟨_, kvs, e1, _⟩ | ⟨_, kvs, e1, _⟩
    · exact ⟨_, e1, (fun _ z => by cases z), (fun _ _ _ z => by cases z)⟩
    · exact ⟨_, e1, (fun _ z => by cases z), (fun _ _ _ z => by cases z)⟩
  | ldc t ks xs =>
    rcases h with ⟨_, ob, kvs, e1, _⟩ | ⟨_, ob, kvs, e1, _⟩
    · exact ⟨_, e1, (fun _ z => by cases z), (fun q => by cases q)⟩
    · exact ⟨_, e1, (fun _ z => by cases z), (fun q => by cases q)⟩
  | ins C ns xs => obtain ⟨dx, fvs, e1, _⟩ := h; exact ⟨_, e1, (fun _ z => by cases z), (fun _ _ _ z => by cases z)⟩
theorem HR.none (h : HR K G H) {p : Addr} (hp : H p = Option.none) : G p = Option.none := by
  cases e : G p with
  | none => rfl
  | some o =>
    obtain ⟨u, e1, _⟩ := (h p o e).some
    rw [hp] at e1; cases e1
/-- a new thing in H, not told in G -/
theorem Ext.new {p : Addr} {u : HO} (hp : H p = Option.none) : Ext G H G (upd H p u) := by
  refine ⟨fun a vs h => ?_, fun a w i g h => ⟨?_, g⟩, fun a o vs h => (upd_ne fun z => by subst z; rw [hp] at h; cases h).trans h⟩
  · have ne : a ≠ p := fun z => by subst z; rw [hp] at h; cases h
    exact (upd_ne ne).trans h
  · have ne : a ≠ p := fun z => by subst z; rcases h with h | ⟨_, _, h⟩ <;> (rw [hp] at h; cases h)
    rcases h with h | ⟨n, o, h⟩
    · exact .inl ((upd_ne ne).trans h)
    · exact .inr ⟨n, o, (upd_ne ne).trans h⟩
theorem HR.keep (h : HR K G H) (e : Ext G H G' H') (k : ∀ a o, G' a = some o → (G a = some o ∧ H' a = H a) ∨ RO K G' H' a o) : HR K G' H' := fun a o g => by
  rcases k a o g with ⟨g0, hs⟩ | r
  · exact (h a o g0).ext e hs
  · exact r
theorem HR.new (h : HR K G H) {p : Addr} {u : HO} (hp : H p = Option.none) : HR K G (upd H p u) :=
  h.keep (Ext.new hp) fun a o g => .inl ⟨g, upd_ne fun z => by subst z; rw [h.none hp] at g; cases g⟩
/-- a new thing, told -/
theorem Ext.newT {p : Addr} {u : HO} {o : DO} (h : HR K G H) (hp : H p = Option.none) : Ext G H (updD G p o) (upd H p u) := by
  refine ⟨(Ext.new (G := G) (u := u) hp).tup, fun a w i g hs => ?_, (Ext.new (G := G) (u := u) hp).frz⟩
  have ne : a ≠ p := fun z => by subst z; rcases hs with h | ⟨_, _, h⟩ <;> (rw [hp] at h; cases h)
  exact ⟨((Ext.new (G := G) (u := u) hp).imm a w i g hs).1, (updD_ne ne).trans g⟩
theorem HR.newT (h : HR K G H) {p : Addr} {u : HO} {o : DO} (hp : H p = Option.none) (r : RO K (updD G p o) (upd H p u) p o) : HR K (updD G p o) (upd H p u) :=
  h.keep (Ext.newT h hp) fun a o' g => by
    by_cases c : a = p
    · subst c
      rw [updD_same] at g
      cases g
      exact .inr r
    · rw [updD_ne c] at g
      exact .inl ⟨g, upd_ne c⟩
/-- a told thing changed -/
theorem Ext.put {p : Addr} {u : HO} {o o' : DO} (h : HR K G H) (hg : G p = some o) (nl : o.isL = false := by rfl) : Ext G H (updD G p o') (upd H p u) := by
  obtain ⟨w, e1, n1, n2⟩ := (h p o hg).some
  refine ⟨fun a vs hr => ?_, fun a w' i g hs => ?_, fun a o vs hf => (upd_ne fun z => by subst z; rw [e1] at hf; exact n2 nl _ _ (Option.some.inj hf)).trans hf⟩
  · have ne : a ≠ p := fun z => by subst z; rw [e1] at hr; exact n1 _ (Option.some.inj hr)
    exact (upd_ne ne).trans hr
  · have ne : a ≠ p := fun z => by subst z; rw [hg] at g; cases g
    refine ⟨?_, (updD_ne ne).trans g⟩
    rcases hs with hs | ⟨n, ob, hs⟩
    · exact .inl ((upd_ne ne).trans hs)
    · exact .inr ⟨n, ob, (upd_ne ne).trans hs⟩
theorem HR.put (h : HR K G H) {p : Addr} {u : HO} {o o' : DO} (hg : G p = some o) (nl : o.isL = false) (r : RO K (updD G p o') (upd H p u) p o') : HR K (updD G p o') (upd H p u) :=
  h.keep (Ext.put h hg nl) fun a o2 g => by
    by_cases c : a = p
    · subst c
      rw [updD_same] at g
      cases g
      exact .inr r
    · rw [updD_ne c] at g
      exact .inl ⟨g, upd_ne c⟩
/-- a thing no longer told: from now on by value -/
def delD (G : DHp) (p : Addr) : DHp := fun b => if b = p then none else G b
theorem delD_ne {G : DHp} {p b : Addr} (h : b ≠ p) : delD G p b = G b := if_neg h
theorem delD_same {G : DHp} {p : Addr} : delD G p p = none := if_pos rfl
theorem Ext.del {p : Addr} : Ext G H (delD G p) H := ⟨fun _ _ h => h, fun a u i g h => ⟨h, by unfold delD; split <;> first | rfl | exact g⟩, fun _ _ _ h => h⟩
theorem HR.del (h : HR K G H) {p : Addr} : HR K (delD G p) H := h.keep Ext.del fun a o g => .inl ⟨by
  unfold delD at g
  split at g
  · cases g
  · exact g, rfl⟩
end

/-! ### slots -/
abbrev DSt := List (Option D)
structure Rel (K : Frag) (δ : DSt) (G : DHp) (σ : St) (H : Hp) : Prop where
  len : δ.length = σ.length
  sl : ∀ (i : Nat) (d : D), δ[i]? = some (some d) → ∃ v, σ[i]? = some (some v) ∧ RD K G H d v
  hr : HR K G H
theorem Rel.ext {K : Frag} {δ : DSt} {G G' : DHp} {σ : St} {H H' : Hp} (r : Rel K δ G σ H) (e : Ext G H G' H') (h : HR K G' H') : Rel K δ G' σ H' :=
  ⟨r.len, fun i d q => let ⟨v, e1, e2⟩ := r.sl i d q; ⟨v, e1, e2.ext e⟩, h⟩
theorem Rel.set {K : Frag} {δ : DSt} {G : DHp} {σ : St} {H : Hp} (r : Rel K δ G σ H) {d : D} {v : V} (i : Nat) (h : RD K G H d v) : Rel K (δ.set i (some d)) G (σ.set i (some v)) H := by
  refine ⟨by rw [List.length_set, List.length_set]; exact r.len, fun j d' q => ?_, r.hr⟩
  by_cases c : i = j
  · subst c
    have hlt : i < δ.length := by have := (List.getElem?_eq_some_iff.mp q).1; rwa [List.length_set] at this
    rw [List.getElem?_set_self hlt] at q
    cases q
    exact ⟨v, List.getElem?_set_self (by rw [← r.len]; exact hlt), h⟩
  · rw [List.getElem?_set_ne c] at q
    obtain ⟨u, e1, e2⟩ := r.sl j d' q
    exact ⟨u, by rw [List.getElem?_set_ne c]; exact e1, e2⟩
theorem Rel.unset {K : Frag} {δ : DSt} {G : DHp} {σ : St} {H : Hp} (r : Rel K δ G σ H) (i : Nat) : Rel K (δ.set i none) G (σ.set i none) H := by
  refine ⟨by rw [List.length_set, List.length_set]; exact r.len, fun j d' q => ?_, r.hr⟩
  by_cases c : i = j
  · subst c
    have hlt : i < δ.length := by have := (List.getElem?_eq_some_iff.mp q).1; rwa [List.length_set] at this
    rw [List.getElem?_set_self hlt] at q
    cases q
  · rw [List.getElem?_set_ne c] at q
    obtain ⟨u, e1, e2⟩ := r.sl j d' q
    exact ⟨u, by rw [List.getElem?_set_ne c]; exact e1, e2⟩
/-! ### lifted readings -/
abbrev DK := D → DHp → Prop
/-- what is wanted of an exception: its class's name, its fields, the slots, the heap -/
abbrev DXW := Str → List (Str × D) → DSt → DHp → Prop
abbrev DTE := DXW → DSt → DHp → DK → Prop
abbrev DTT := DXW → DSt → DHp → (Bool → DHp → Prop) → Prop
abbrev DTA := DXW → DSt → DHp → (List D → DHp → Prop) → Prop
structure DEnds where
  nx : DSt → DHp → Prop
  rt : DK
  xc : DXW
  bk : DSt → DHp → Prop := fun _ _ => False
  ct : DSt → DHp → Prop := fun _ _ => False
abbrev DTS := DEnds → DSt → DHp → Prop
def upE (K : Frag) (G : DHp) (H : Hp) (Q : VK) : DK := fun d G' => ∀ v H', Ext G H G' H' → HR K G' H' → RD K G' H' d v → Q v H'
def upT (K : Frag) (G : DHp) (H : Hp) (Q : Bool → Hp → Prop) : Bool → DHp → Prop := fun b G' => ∀ H', Ext G H G' H' → HR K G' H' → Q b H'
def upA (K : Frag) (G : DHp) (H : Hp) (Q : List V → Hp → Prop) : List D → DHp → Prop := fun ds G' => ∀ vs H', Ext G H G' H' → HR K G' H' → RDs K G' H' ds vs → Q vs H'
def upN (K : Frag) (G : DHp) (H : Hp) (Q : St → Hp → Prop) : DSt → DHp → Prop := fun δ G' => ∀ σ' H', Ext G H G' H' → Rel K δ G' σ' H' → Q σ' H'
/-- the fields of an exception at d -/
def Xd (K : Frag) (G : DHp) (H : Hp) (d : Addr) (fs : List (Str × D)) : Prop := G d = none ∧ ∃ vfs, H d = some (.xd vfs) ∧ vfs.map (·.1) = fs.map (·.1) ∧ RDs K G H (fs.map (·.2)) (vfs.map (·.2))
def upW (K : Frag) (G : DHp) (H : Hp) (W : WX) : DXW := fun C fs δ G' => ∀ d σ' H', Ext G H G' H' → Rel K δ G' σ' H' → Xd K G' H' d fs → W (.ref (He.ga K C)) (some d) σ' H'
def upD (K : Frag) (G : DHp) (H : Hp) (W : WX) (D : Ends) : DEnds := ⟨upN K G H D.nx, upE K G H D.rt, upW K G H W, upN K G H D.bk, upN K G H D.ct⟩
def liftE (K : Frag) (W : WX) (t : DTE) : TE := fun σ H Q => ∃ δ G, Rel K δ G σ H ∧ t (upW K G H W) δ G (upE K G H Q)
def liftT (K : Frag) (W : WX) (t : DTT) : TT := fun σ H Q => ∃ δ G, Rel K δ G σ H ∧ t (upW K G H W) δ G (upT K G H Q)
def liftA (K : Frag) (W : WX) (t : DTA) : TA := fun σ H Q => ∃ δ G, Rel K δ G σ H ∧ t (upW K G H W) δ G (upA K G H Q)
def liftS (K : Frag) (W : WX) (t : DTS) : TS := fun D σ H => ∃ δ G, Rel K δ G σ H ∧ t (upD K G H W D) δ G
def DXW.le (E E' : DXW) : Prop := ∀ C fs δ G, E C fs δ G → E' C fs δ G
section
variable {K : Frag} {G G' : DHp} {H H' : Hp} {W : WX}
theorem upE.shift {Q : VK} {d : D} {G2 : DHp} (e : Ext G H G' H') (h : upE K G H Q d G2) : upE K G' H' Q d G2 := fun v H2 e2 hr r => h v H2 (e.trans e2) hr r
theorem upT.shift {Q : Bool → Hp → Prop} {b : Bool} {G2 : DHp} (e : Ext G H G' H') (h : upT K G H Q b G2) : upT K G' H' Q b G2 := fun H2 e2 hr => h H2 (e.trans e2) hr
theorem upA.shift {Q : List V → Hp → Prop} {ds : List D} {G2 : DHp} (e : Ext G H G' H') (h : upA K G H Q ds G2) : upA K G' H' Q ds G2 := fun v H2 e2 hr r => h v H2 (e.trans e2) hr r
theorem upN.shift {Q : St → Hp → Prop} {δ : DSt} {G2 : DHp} (e : Ext G H G' H') (h : upN K G H Q δ G2) : upN K G' H' Q δ G2 := fun σ H2 e2 r => h σ H2 (e.trans e2) r
theorem upW.shift (e : Ext G H G' H') : (upW K G H W).le (upW K G' H' W) := fun C fs δ G2 h d σ' H2 e2 r x => h d σ' H2 (e.trans e2) r x
theorem DXW.le_refl {E : DXW} : E.le E := fun _ _ _ _ h => h
theorem DXW.le.trans {E E' E2 : DXW} (a : E.le E') (b : E'.le E2) : E.le E2 := fun _ _ _ _ h => b _ _ _ _ (a _ _ _ _ h)
end
def DEnds.le (D D' : DEnds) : Prop := (∀ δ G, D.nx δ G → D'.nx δ G) ∧ (∀ d G, D.rt d G → D'.rt d G) ∧ D.xc.le D'.xc ∧ (∀ δ G, D.bk δ G → D'.bk δ G) ∧ ∀ δ G, D.ct δ G → D'.ct δ G
theorem DEnds.le_refl {D : DEnds} : D.le D := ⟨fun _ _ h => h, fun _ _ h => h, DXW.le_refl, fun _ _ h => h, fun _ _ h => h⟩
theorem upD.shift {K : Frag} {G G' : DHp} {H H' : Hp} {W : WX} {D : Ends} (e : Ext G H G' H') : (upD K G H W D).le (upD K G' H' W D) :=
  ⟨fun _ _ h => h.shift e, fun _ _ h => h.shift e, upW.shift e, fun _ _ h => h.shift e, fun _ _ h => h.shift e⟩
/-! ### judgements -/
def MonE (t : DTE) : Prop := ∀ E E' δ G (Q Q' : DK), E.le E' → (∀ d G', Q d G' → Q' d G') → t E δ G Q → t E' δ G Q'
def MonT (t : DTT) : Prop := ∀ E E' δ G (Q Q' : Bool → DHp → Prop), E.le E' → (∀ d G', Q d G' → Q' d G') → t E δ G Q → t E' δ G Q'
def MonA (t : DTA) : Prop := ∀ E E' δ G (Q Q' : List D → DHp → Prop), E.le E' → (∀ d G', Q d G' → Q' d G') → t E δ G Q → t E' δ G Q'
def MonS (t : DTS) : Prop := ∀ δ G (D D' : DEnds), D.le D' → t D δ G → t D' δ G
/-- the reading t of e: W is what the context wants of exceptions -/
structure DE (X : Cx) (W : WX) (e : Expr) (t : DTE) : Prop where
  mono : MonE t
  pe : PE X e (liftE X.K W t)
structure DT (X : Cx) (W : WX) (e : Expr) (t : DTT) : Prop where
  mono : MonT t
  pt : PT X e (liftT X.K W t)
structure DA (X : Cx) (W : WX) (es : List Expr) (t : DTA) : Prop where
  mono : MonA t
  pa : PA X es (liftA X.K W t)
structure DS (X : Cx) (W : WX) (st : Stmt) (t : DTS) : Prop where
  mono : MonS t
  ps : PS X st (liftS X.K W t)
structure DSs (X : Cx) (W : WX) (st : List Stmt) (t : DTS) : Prop where
  mono : MonS t
  pss : PSs X st (liftS X.K W t)
theorem pe_imp {X : Cx} {e : Expr} {t t' : TE} (h : PE X e t) (i : ∀ σ H Q, t' σ H Q → t σ H Q) : PE X e t' := ⟨fun pins s σ H Q I q => h.run pins s σ H Q I (i _ _ _ q)⟩
theorem pt_imp {X : Cx} {e : Expr} {t t' : TT} (h : PT X e t) (i : ∀ σ H Q, t' σ H Q → t σ H Q) : PT X e t' := ⟨fun pins s σ H Q I q => h.run pins s σ H Q I (i _ _ _ q)⟩
theorem pw_imp {X : Cx} {e : Expr} {t t' : TT} (h : PW X e t) (i : ∀ σ H Q, t' σ H Q → t σ H Q) : PW X e t' := ⟨fun w pins s σ H Q I q => h.run w pins s σ H Q I (i _ _ _ q)⟩
theorem pa_imp {X : Cx} {es : List Expr} {t t' : TA} (h : PA X es t) (i : ∀ σ H Q, t' σ H Q → t σ H Q) : PA X es t' := ⟨fun pos pins s σ H Q I q => h.run pos pins s σ H Q I (i _ _ _ q)⟩
theorem ps_imp {X : Cx} {st : Stmt} {t t' : TS} (h : PS X st t) (i : ∀ D σ H, t' D σ H → t D σ H) : PS X st t' := ⟨fun pins s σ H D I q => h.run pins s σ H D I (i _ _ _ q)⟩
theorem pss_imp {X : Cx} {st : List Stmt} {t t' : TS} (h : PSs X st t) (i : ∀ D σ H, t' D σ H → t D σ H) : PSs X st t' := ⟨fun pins s σ H D I q => h.run pins s σ H D I (i _ _ _ q)⟩
end DL
set_option Elab.async false
set_option linter.all false
set_option maxRecDepth 100000
set_option maxHeartbeats 4000000
/-! DL2: rules for expressions: names, constants, operators, comparisons, tests, displays, subscripts. -/
namespace DL
open PySem PySem.Spec PyProof.Rows L2
section
variable {X : Cx} {W : WX} {pos : Pos}
theorem de_of {e : Expr} {t : DTE} {te : TE} (m : MonE t) (h : PE X e te) (i : ∀ σ H Q δ G, Rel X.K δ G σ H → t (upW X.K G H W) δ G (upE X.K G H Q) → te σ H Q) : DE X W e t := ⟨m, pe_imp h fun σ H Q ⟨δ, G, r, q⟩ => i σ H Q δ G r q⟩
theorem dt_of {e : Expr} {t : DTT} {te : TT} (m : MonT t) (h : PT X e te) (i : ∀ σ H Q δ G, Rel X.K δ G σ H → t (upW X.K G H W) δ G (upT X.K G H Q) → te σ H Q) : DT X W e t := ⟨m, pt_imp h fun σ H Q ⟨δ, G, r, q⟩ => i σ H Q δ G r q⟩
theorem da_of {e : List Expr} {t : DTA} {te : TA} (m : MonA t) (h : PA X e te) (i : ∀ σ H Q δ G, Rel X.K δ G σ H → t (upW X.K G H W) δ G (upA X.K G H Q) → te σ H Q) : DA X W e t := ⟨m, pa_imp h fun σ H Q ⟨δ, G, r, q⟩ => i σ H Q δ G r q⟩
theorem ds_of {e : Stmt} {t : DTS} {te : TS} (m : MonS t) (h : PS X e te) (i : ∀ D σ H δ G, Rel X.K δ G σ H → t (upD X.K G H W D) δ G → te D σ H) : DS X W e t := ⟨m, ps_imp h fun D σ H ⟨δ, G, r, q⟩ => i D σ H δ G r q⟩
theorem dss_of {e : List Stmt} {t : DTS} {te : TS} (m : MonS t) (h : PSs X e te) (i : ∀ D σ H δ G, Rel X.K δ G σ H → t (upD X.K G H W D) δ G → te D σ H) : DSs X W e t := ⟨m, pss_imp h fun D σ H ⟨δ, G, r, q⟩ => i D σ H δ G r q⟩
/-- the use of a lifted part: what follows is shown at what it hands on -/
theorem DE.use {e : Expr} {t : DTE} (h : DE X W e t) {σ : St} {H : Hp} {δ : DSt} {G : DHp} {E : DXW} {Qd : DK} {Q : VK} (j : E.le (upW X.K G H W)) (r : Rel X.K δ G σ H) (q : t E δ G Qd) (k : ∀ d G' v H', Qd d G' → Ext G H G' H' → Rel X.K δ G' σ H' → RD X.K G' H' d v → Q v H') : liftE X.K W t σ H Q :=
  ⟨δ, G, r, h.mono _ _ _ _ _ _ j (fun d G' qd v H' e hr rd => k d G' v H' qd e (r.ext e hr) rd) q⟩
theorem DT.use {e : Expr} {t : DTT} (h : DT X W e t) {σ : St} {H : Hp} {δ : DSt} {G : DHp} {E : DXW} {Qd : Bool → DHp → Prop} {Q : Bool → Hp → Prop} (j : E.le (upW X.K G H W)) (r : Rel X.K δ G σ H) (q : t E δ G Qd) (k : ∀ b G' H', Qd b G' → Ext G H G' H' → Rel X.K δ G' σ H' → Q b H') : liftT X.K W t σ H Q :=
  ⟨δ, G, r, h.mono _ _ _ _ _ _ j (fun d G' qd H' e hr => k d G' H' qd e (r.ext e hr)) q⟩
theorem DA.use {e : List Expr} {t : DTA} (h : DA X W e t) {σ : St} {H : Hp} {δ : DSt} {G : DHp} {E : DXW} {Qd : List D → DHp → Prop} {Q : List V → Hp → Prop} (j : E.le (upW X.K G H W)) (r : Rel X.K δ G σ H) (q : t E δ G Qd) (k : ∀ d G' v H', Qd d G' → Ext G H G' H' → Rel X.K δ G' σ H' → RDs X.K G' H' d v → Q v H') : liftA X.K W t σ H Q :=
  ⟨δ, G, r, h.mono _ _ _ _ _ _ j (fun d G' qd v H' e hr rd => k d G' v H' qd e (r.ext e hr) rd) q⟩
/-! ### names, constants -/
def dVar (i : Nat) : DTE := fun E δ G Q => match δ[i]? with | some (some d) => Q d G | _ => False
theorem dVar_mono {i : Nat} : MonE (dVar i) := fun E E' δ G Q Q' j i h => by
  unfold dVar at h ⊢
  split <;> rename_i e <;> simp only [e] at h
  · exact i _ _ h
theorem dv (i : Nat) {x : Str} (hN : X.N[i]? = some x := by rfl) (hv : Vis X.env.scope x := by first | exact Or.inl rfl | exact Or.inr (Or.inl rfl) | exact Or.inr (Or.inr rfl)) (hd : (x == ("__debug__" : Str)) = false := by decide)
    (hcd : (x == ("__classdict__" : Str)) = false := by decide) : DE X W (.Name x pos) (dVar i) := de_of dVar_mono (pe_var hN hv hd hcd) fun σ H Q δ G r h => by
  unfold dVar at h
  split at h
  · rename_i d e
    obtain ⟨v, e1, e2⟩ := r.sl _ _ e
    exact ⟨v, e1, h v H .refl r.hr e2⟩
  · exact h.elim
def dC (d : D) : DTE := fun E _ G Q => Q d G
theorem dC_mono {d : D} : MonE (dC d) := fun _ _ _ _ _ _ _ i h => i _ _ h
theorem dC_of {e : Expr} {d : D} {v : V} (h : PE X e (tC v)) (r : ∀ G H, RD X.K G H d v) : DE X W e (dC d) := de_of dC_mono h fun σ H Q δ G rl h => h v H .refl rl.hr (r G H)
theorem d_int {i j} : DE X W (.Constant (.int i) j pos) (dC (.int i)) := dC_of pe_int fun _ _ => by unfold RD; rfl
theorem d_bl {i j} : DE X W (.Constant (.bool i) j pos) (dC (.bl i)) := dC_of pe_bl fun _ _ => by unfold RD; rfl
theorem d_non {j} : DE X W (.Constant .none j pos) (dC .non) := dC_of pe_non fun _ _ => by unfold RD; rfl
theorem d_str {x j} : DE X W (.Constant (.str x) j pos) (dC (.str x)) := dC_of pe_str fun _ _ => by unfold RD; rfl
/-- a module's constant: an int, a text -/
def GC (X : Cx) (x : Str) (d : D) : Prop := ∃ v u, X.mg x = some u ∧ RelV v u ∧ ∀ G H, RD X.K G H d v
theorem d_glob {x : Str} {d : D} (h : GC X x d) (hg : Gl X x := by rfl) (hd : (x == ("__debug__" : Str)) = false := by decide) : DE X W (.Name x pos) (dC d) := by
  obtain ⟨v, u, h1, h2, h3⟩ := h
  exact dC_of (pe_glob hg h1 h2 hd) h3
/-- a built-in class as a value -/
theorem d_blt {x : Str} (n : String) (hm : X.mg x = none) (hv : bootBuiltins x = some (.type n)) (hg : Gl X x := by rfl) (hn : x ≠ "__name__" := by decide) (hd : (x == ("__debug__" : Str)) = false := by decide) : DE X W (.Name x pos) (dC (.ty n)) :=
  dC_of (pe_bltn (v := .ty n) hg hm hv rfl hn hd) fun _ _ => by unfold RD; rfl
/-! ### operators -/
abbrev DR2 := D → D → DHp → DK → Prop
/-- what an operator's rule over data asks, against one over values -/
structure OpD (K : Frag) (rD : DR2) (rV : R2) : Prop where
  mono : ∀ x y G (Q Q' : DK), (∀ d G', Q d G' → Q' d G') → rD x y G Q → rD x y G Q'
  link : ∀ G H x y v w (Q : VK), HR K G H → RD K G H x v → RD K G H y w → rD x y G (upE K G H Q) → rV v w H Q
def dOp (r : DR2) (ta tb : DTE) : DTE := fun E δ G Q => ta E δ G fun x G1 => tb E δ G1 fun y G2 => r x y G2 Q
variable {a b c e o i : Expr} {ta tb tc te to ti : DTE}
theorem dOp_mono {K : Frag} {rD : DR2} {rV : R2} (l : OpD K rD rV) (ma : MonE ta) (mb : MonE tb) : MonE (dOp rD ta tb) := fun E E' δ G Q Q' j i h => ma _ _ _ _ _ _ j (fun x G1 h1 => mb _ _ _ _ _ _ j (fun y G2 h2 => l.mono _ _ _ _ _ i h2) h1) h
theorem dOp_link {rD : DR2} {rV : R2} (l : OpD X.K rD rV) (ha : DE X W a ta) (hb : DE X W b tb) {σ : St} {H : Hp} {Q : VK} {δ : DSt} {G : DHp} (r : Rel X.K δ G σ H) (h : dOp rD ta tb (upW X.K G H W) δ G (upE X.K G H Q)) :
    tOp rV (liftE X.K W ta) (liftE X.K W tb) σ H Q := by
  refine ha.use DXW.le_refl r h fun x G1 v H1 h1 e1 r1 d1 => hb.use (upW.shift e1) r1 h1 fun y G2 w H2 h2 e2 r2 d2 => ?_
  exact l.link _ _ _ _ _ _ _ r2.hr (d1.ext e2) d2 (l.mono _ _ _ _ _ (fun _ _ q => q.shift (e1.trans e2)) h2)
theorem de_op {op : Operator} {rD : DR2} {rV : R2} (ho : OpR X (binaryOp op) rV) (l : OpD X.K rD rV) (ha : DE X W a ta) (hb : DE X W b tb) : DE X W (.BinOp a op b pos) (dOp rD ta tb) :=
  de_of (dOp_mono l ha.mono hb.mono) (pe_op ho ha.pe hb.pe) fun σ H Q δ G r h => dOp_link l ha hb r h
theorem de_cmp {op : CmpOp} {rD : DR2} {rV : R2} (ho : OpR X (compareOp op) rV) (l : OpD X.K rD rV) (ha : DE X W a ta) (hb : DE X W b tb) (hm : behindInMarks op b = false) : DE X W (.Compare a [op] [b] pos) (dOp rD ta tb) :=
  de_of (dOp_mono l ha.mono hb.mono) (pe_cmpR ho ha.pe hb.pe hm) fun σ H Q δ G r h => dOp_link l ha hb r h
/-- a value as a test -/
def dB (t : DTE) : DTT := fun E δ G Q => t E δ G fun d G' => match d with | .bl b => Q b G' | _ => False
theorem dB_mono (m : MonE te) : MonT (dB te) := fun E E' δ G Q Q' j i h => m _ _ _ _ _ _ j (fun d G' q => by
  cases d with
  | bl b => exact i _ _ q
  | _ => exact q.elim) h
theorem dB_link (h : DE X W e te) {t : TE} (hl : ∀ σ H Q δ G, Rel X.K δ G σ H → te (upW X.K G H W) δ G (upE X.K G H Q) → t σ H Q) {σ : St} {H : Hp} {Q : Bool → Hp → Prop} {δ : DSt} {G : DHp} (r : Rel X.K δ G σ H) (q : dB te (upW X.K G H W) δ G (upT X.K G H Q)) :
    t σ H fun x H' => ∃ k, x = .bl k ∧ Q k H' := hl _ _ _ _ _ r (h.mono _ _ _ _ _ _ DXW.le_refl (fun d G' qd v H' e hr rd => by
  cases d with
  | bl b => unfold RD at rd; exact ⟨b, rd, qd H' e hr⟩
  | _ => exact qd.elim) q)
theorem dt_val (h : DE X W e te) (he : ∀ whole, isTrue e X.env whole = (do let v ← whole; standAt e.pos; holding [v] (truthy v)) := by intro _; rfl) : DT X W e (dB te) :=
  dt_of (dB_mono h.mono) (pt_val h.pe he) fun σ H Q δ G r q => dB_link h (t := liftE X.K W te) (fun σ H Q δ G r q => ⟨δ, G, r, q⟩) r q
theorem dt_cmp {op : CmpOp} {rD : DR2} {rV : R2} (ho : OpR X (compareOp op) rV) (l : OpD X.K rD rV) (ha : DE X W a ta) (hb : DE X W b tb) (hm : behindInMarks op b = false) : DT X W (.Compare a [op] [b] pos) (dB (dOp rD ta tb)) :=
  dt_of (dB_mono (dOp_mono l ha.mono hb.mono)) (pt_cmpR ho ha.pe hb.pe hm) fun σ H Q δ G r q => dB_link (X := X) (e := .Compare a [op] [b] pos) (de_cmp ho l ha hb hm) (fun σ H Q δ G r q => dOp_link l ha hb r q) r q
def dChain (r r' : DR2) (ta tb tc : DTE) : DTE := fun E δ G Q => ta E δ G fun x G1 => tb E δ G1 fun y G2 => r x y G2 fun z G3 => match z with
  | .bl true => tc E δ G3 fun w G4 => r' y w G4 Q
  | .bl false => Q (.bl false) G3
  | _ => False
theorem dChain_mono {K : Frag} {r r' : DR2} {rV rV' : R2} (l : OpD K r rV) (l' : OpD K r' rV') (ma : MonE ta) (mb : MonE tb) (mc : MonE tc) : MonE (dChain r r' ta tb tc) := fun E E' δ G Q Q' j i h =>
  ma _ _ _ _ _ _ j (fun x G1 h1 => mb _ _ _ _ _ _ j (fun y G2 h2 => l.mono _ _ _ _ _ (fun z G3 h3 => by
    split at h3
    · exact mc _ _ _ _ _ _ j (fun w G4 h4 => l'.mono _ _ _ _ _ i h4) h3
    · exact i _ _ h3
    · exact h3.elim) h2) h1) h
theorem dChain_link {r r' : DR2} {rV rV' : R2} (l : OpD X.K r rV) (l' : OpD X.K r' rV') (ha : DE X W a ta) (hb : DE X W b tb) (hc : DE X W c tc) {σ : St} {H : Hp} {Q : VK} {δ : DSt} {G : DHp} (rl : Rel X.K δ G σ H) (h : dChain r r' ta tb tc (upW X.K G H W) δ G (upE X.K G H Q)) :
    tChain rV rV' (liftE X.K W ta) (liftE X.K W tb) (liftE X.K W tc) σ H Q := by
  refine ha.use DXW.le_refl rl h fun x G1 v H1 h1 e1 r1 d1 => hb.use (upW.shift e1) r1 h1 fun y G2 w H2 h2 e2 r2 d2 => ?_
  refine l.link _ _ _ _ _ _ _ r2.hr (d1.ext e2) d2 (l.mono _ _ _ _ _ (fun z G3 q3 => ?_) h2)
  intro zv H3 e3 hr3 rd
  split at q3
  · unfold RD at rd
    refine ⟨true, rd, ?_⟩
    rw [if_pos rfl]
    have r3 := r2.ext e3 hr3
    refine hc.use (upW.shift ((e1.trans e2).trans e3)) r3 q3 fun w2 G4 wv H4 h4 e4 r4 d4 => ?_
    exact l'.link _ _ _ _ _ _ _ r4.hr ((d2.ext e3).ext e4) d4 (l'.mono _ _ _ _ _ (fun _ _ q => q.shift (((e1.trans e2).trans e3).trans e4)) h4)
  · unfold RD at rd
    refine ⟨false, rd, ?_⟩
    rw [if_neg Bool.false_ne_true]
    exact q3 _ _ ((e1.trans e2).trans e3) hr3 (by unfold RD; rfl)
  · exact q3.elim
theorem de_chain {op op' : CmpOp} {r r' : DR2} {rV rV' : R2} (ho : OpR X (compareOp op) rV) (l : OpD X.K r rV) (ho' : OpR X (compareOp op') rV') (l' : OpD X.K r' rV') (ha : DE X W a ta) (hb : DE X W b tb) (hc : DE X W c tc)
    (hm : lastMarks [op, op'] [b, c] = false := by with_unfolding_all rfl) : DE X W (.Compare a [op, op'] [b, c] pos) (dChain r r' ta tb tc) :=
  de_of (dChain_mono l l' ha.mono hb.mono hc.mono) (pe_chain ho ho' ha.pe hb.pe hc.pe hm) fun σ H Q δ G rl h => dChain_link l l' ha hb hc rl h
theorem dt_chain {op op' : CmpOp} {r r' : DR2} {rV rV' : R2} (ho : OpR X (compareOp op) rV) (l : OpD X.K r rV) (ho' : OpR X (compareOp op') rV') (l' : OpD X.K r' rV') (ha : DE X W a ta) (hb : DE X W b tb) (hc : DE X W c tc)
    (hm : lastMarks [op, op'] [b, c] = false := by with_unfolding_all rfl) : DT X W (.Compare a [op, op'] [b, c] pos) (dB (dChain r r' ta tb tc)) :=
  dt_of (dB_mono (dChain_mono l l' ha.mono hb.mono hc.mono)) (pt_chain ho ho' ha.pe hb.pe hc.pe hm) fun σ H Q δ G rl q => dB_link (X := X) (e := .Compare a [op, op'] [b, c] pos) (de_chain ho l ho' l' ha hb hc hm) (fun σ H Q δ G r q => dChain_link l l' ha hb hc r q) rl q
/-! ### and, or, not -/
def dAnd (t u : DTT) : DTT := fun E δ G Q => t E δ G fun c G1 => if c = true then u E δ G1 Q else Q false G1
def dOr (t u : DTT) : DTT := fun E δ G Q => t E δ G fun c G1 => if c = true then Q true G1 else u E δ G1 Q
def dNot (t : DTT) : DTT := fun E δ G Q => t E δ G fun c G1 => Q (!c) G1
/-- a test whatever its whole is -/
structure DW (X : Cx) (W : WX) (e : Expr) (t : DTT) : Prop where
  mono : MonT t
  pw : PW X e (liftT X.K W t)
variable {tA tB : DTT} {rest : List Expr}
theorem DW.dt (h : DW X W e tA) : DT X W e tA := ⟨h.mono, h.pw.pt⟩
theorem dAnd_mono (m : MonT tA) (n : MonT tB) : MonT (dAnd tA tB) := fun E E' δ G Q Q' j i h => m _ _ _ _ _ _ j (fun c G1 h1 => by
  cases c with
  | true => rw [if_pos rfl] at h1 ⊢; exact n _ _ _ _ _ _ j i h1
  | false => rw [if_neg Bool.false_ne_true] at h1 ⊢; exact i _ _ h1) h
theorem dOr_mono (m : MonT tA) (n : MonT tB) : MonT (dOr tA tB) := fun E E' δ G Q Q' j i h => m _ _ _ _ _ _ j (fun c G1 h1 => by
  cases c with
  | false => rw [if_neg Bool.false_ne_true] at h1 ⊢; exact n _ _ _ _ _ _ j i h1
  | true => rw [if_pos rfl] at h1 ⊢; exact i _ _ h1) h
theorem dw_and1 (h : DT X W a tA) : DW X W (.BoolOp .And [a] pos) tA := ⟨h.mono, pw_and1 h.pt⟩
theorem dw_or1 (h : DT X W a tA) : DW X W (.BoolOp .Or [a] pos) tA := ⟨h.mono, pw_or1 h.pt⟩
theorem DW.use (h : DW X W e tA) {σ : St} {H : Hp} {δ : DSt} {G : DHp} {E : DXW} {Qd : Bool → DHp → Prop} {Q : Bool → Hp → Prop} (j : E.le (upW X.K G H W)) (r : Rel X.K δ G σ H) (q : tA E δ G Qd) (k : ∀ b G' H', Qd b G' → Ext G H G' H' → Rel X.K δ G' σ H' → Q b H') : liftT X.K W tA σ H Q := h.dt.use j r q k
theorem dw_and (ha : DT X W a tA) (hb : DW X W (.BoolOp .And (b :: rest) pos) tB) : DW X W (.BoolOp .And (a :: b :: rest) pos) (dAnd tA tB) :=
  ⟨dAnd_mono ha.mono hb.mono, pw_imp (pw_and ha.pt hb.pw) fun σ H Q ⟨δ, G, r, h⟩ => ha.use DXW.le_refl r h fun c G1 H1 h1 e1 r1 => by
    cases c with
    | true =>
      rw [if_pos rfl] at h1 ⊢
      exact hb.use (upW.shift e1) r1 h1 fun b G2 H2 q e2 r2 => q H2 (e1.trans e2) r2.hr
    | false =>
      rw [if_neg Bool.false_ne_true] at h1 ⊢
      exact h1 H1 e1 r1.hr⟩
theorem dw_or (ha : DT X W a tA) (hb : DW X W (.BoolOp .Or (b :: rest) pos) tB) : DW X W (.BoolOp .Or (a :: b :: rest) pos) (dOr tA tB) :=
  ⟨dOr_mono ha.mono hb.mono, pw_imp (pw_or ha.pt hb.pw) fun σ H Q ⟨δ, G, r, h⟩ => ha.use DXW.le_refl r h fun c G1 H1 h1 e1 r1 => by
    cases c with
    | false =>
      rw [if_neg Bool.false_ne_true] at h1 ⊢
      exact hb.use (upW.shift e1) r1 h1 fun b G2 H2 q e2 r2 => q H2 (e1.trans e2) r2.hr
    | true =>
      rw [if_pos rfl] at h1 ⊢
      exact h1 H1 e1 r1.hr⟩
theorem dt_not (ha : DT X W a tA) : DT X W (.UnaryOp .Not a pos) (dNot tA) := dt_of (fun E E' δ G Q Q' j i h => ha.mono _ _ _ _ _ _ j (fun c G1 h1 => i _ _ h1) h) (pt_not ha.pt) fun σ H Q δ G r h => ha.use DXW.le_refl r h fun c G1 H1 h1 e1 r1 => h1 H1 e1 r1.hr
/-- as values: bools, the last one anything -/
def dAndV (t u : DTE) : DTE := fun E δ G Q => t E δ G fun d G1 => match d with
  | .bl true => u E δ G1 Q
  | .bl false => Q (.bl false) G1
  | _ => False
def dOrV (t u : DTE) : DTE := fun E δ G Q => t E δ G fun d G1 => match d with
  | .bl false => u E δ G1 Q
  | .bl true => Q (.bl true) G1
  | _ => False
def dNotV (t : DTE) : DTE := fun E δ G Q => t E δ G fun d G1 => match d with
  | .bl b => Q (.bl (!b)) G1
  | _ => False
theorem de_one {op} (h : DE X W a ta) : DE X W (.BoolOp op [a] pos) ta := ⟨h.mono, pe_one h.pe⟩
theorem de_and (ha : DE X W a ta) (hb : DE X W (.BoolOp .And (b :: rest) pos) tb) : DE X W (.BoolOp .And (a :: b :: rest) pos) (dAndV ta tb) :=
  de_of (fun E E' δ G Q Q' j i h => ha.mono _ _ _ _ _ _ j (fun d G1 h1 => by
    split at h1
    · exact hb.mono _ _ _ _ _ _ j i h1
    · exact i _ _ h1
    · exact h1.elim) h) (pe_and ha.pe hb.pe) fun σ H Q δ G r h => ha.use DXW.le_refl r h fun d G1 v H1 h1 e1 r1 d1 => by
    split at h1
    · unfold RD at d1
      refine ⟨true, d1, ?_⟩
      rw [if_pos rfl]
      exact hb.use (upW.shift e1) r1 h1 fun d2 G2 v2 H2 q e2 r2 d2' => q v2 H2 (e1.trans e2) r2.hr d2'
    · unfold RD at d1
      refine ⟨false, d1, ?_⟩
      rw [if_neg Bool.false_ne_true]
      exact h1 _ _ e1 r1.hr (by unfold RD; rfl)
    · exact h1.elim
theorem de_or (ha : DE X W a ta) (hb : DE X W (.BoolOp .Or (b :: rest) pos) tb) : DE X W (.BoolOp .Or (a :: b :: rest) pos) (dOrV ta tb) :=
  de_of (fun E E' δ G Q Q' j i h => ha.mono _ _ _ _ _ _ j (fun d G1 h1 => by
    split at h1
    · exact hb.mono _ _ _ _ _ _ j i h1
    · exact i _ _ h1
    · exact h1.elim) h) (pe_or ha.pe hb.pe) fun σ H Q δ G r h => ha.use DXW.le_refl r h fun d G1 v H1 h1 e1 r1 d1 => by
    split at h1
    · unfold RD at d1
      refine ⟨false, d1, ?_⟩
      rw [if_neg Bool.false_ne_true]
      exact hb.use (upW.shift e1) r1 h1 fun d2 G2 v2 H2 q e2 r2 d2' => q v2 H2 (e1.trans e2) r2.hr d2'
    · unfold RD at d1
      refine ⟨true, d1, ?_⟩
      rw [if_pos rfl]
      exact h1 _ _ e1 r1.hr (by unfold RD; rfl)
    · exact h1.elim
theorem de_not (ha : DE X W a ta) : DE X W (.UnaryOp .Not a pos) (dNotV ta) :=
  de_of (fun E E' δ G Q Q' j i h => ha.mono _ _ _ _ _ _ j (fun d G1 h1 => by
    split at h1
    · exact i _ _ h1
    · exact h1.elim) h) (pe_not ha.pe) fun σ H Q δ G r h => ha.use DXW.le_refl r h fun d G1 v H1 h1 e1 r1 d1 => by
    split at h1
    · unfold RD at d1
      exact ⟨_, d1, h1 _ _ e1 r1.hr (by unfold RD; rfl)⟩
    · exact h1.elim
def dIte (t : DTT) (ta tb : DTE) : DTE := fun E δ G Q => t E δ G fun c G1 => if c = true then ta E δ G1 Q else tb E δ G1 Q
theorem de_ite (hc : DT X W c tA) (ha : DE X W a ta) (hb : DE X W b tb) : DE X W (.IfExp c a b pos) (dIte tA ta tb) :=
  de_of (fun E E' δ G Q Q' j i h => hc.mono _ _ _ _ _ _ j (fun d G1 h1 => by
    cases d with
    | true => rw [if_pos rfl] at h1 ⊢; exact ha.mono _ _ _ _ _ _ j i h1
    | false => rw [if_neg Bool.false_ne_true] at h1 ⊢; exact hb.mono _ _ _ _ _ _ j i h1) h) (pe_ifExp hc.pt ha.pe hb.pe) fun σ H Q δ G r h => hc.use DXW.le_refl r h fun d G1 H1 h1 e1 r1 => by
    cases d with
    | true =>
      rw [if_pos rfl] at h1 ⊢
      exact ha.use (upW.shift e1) r1 h1 fun d2 G2 v2 H2 q e2 r2 d2' => q v2 H2 (e1.trans e2) r2.hr d2'
    | false =>
      rw [if_neg Bool.false_ne_true] at h1 ⊢
      exact hb.use (upW.shift e1) r1 h1 fun d2 G2 v2 H2 q e2 r2 d2' => q v2 H2 (e1.trans e2) r2.hr d2'
/-! ### the operators' rules over data -/
/-- what a list is at the moment -/
def asL (G : DHp) : D → Option (List D)
  | .lst xs => some xs
  | .ref a => match G a with
    | some (.lst xs) => some xs
    | _ => none
  | _ => none
theorem asL_sq {K : Frag} {G : DHp} {H : Hp} (hr : HR K G H) {d : D} {v : V} {xs : List D} (r : RD K G H d v) (e : asL G d = some xs) : ∃ a vs, v = .ref a ∧ H a = some (.lst vs) ∧ vs.length ≤ sizeLine ∧ RDs K G H xs vs := by
  cases d with
  | lst ys =>
    cases Option.some.inj e
    unfold RD at r
    obtain ⟨a, vs, e1, g, e2, e3, e4⟩ := r
    exact ⟨a, vs, e1, e2, e3, e4⟩
  | ref a =>
    unfold RD at r
    simp only [asL] at e
    split at e
    · rename_i ys g
      cases Option.some.inj e
      obtain ⟨vs, e1, e2, e3⟩ := hr a _ g
      exact ⟨a, vs, r, e1, e2, e3⟩
    · cases e
  | _ => cases e
/-- what is read as a list, be it locked -/
def asR (G : DHp) : D → Option (List D)
  | .lst xs => some xs
  | .fz xs => some xs
  | .ref a => match G a with
    | some (.lst xs) => some xs
    | _ => none
  | _ => none
theorem asR_sq {K : Frag} {G : DHp} {H : Hp} (hr : HR K G H) {d : D} {v : V} {xs : List D} (r : RD K G H d v) (e : asR G d = some xs) : ∃ a vs, v = .ref a ∧ SqL K H a vs ∧ vs.length ≤ sizeLine ∧ RDs K G H xs vs := by
  cases d with
  | lst ys =>
    obtain ⟨a, vs, h1, h2, h3, h4⟩ := asL_sq hr r (xs := xs) e
    exact ⟨a, vs, h1, .of h2, h3, h4⟩
  | ref p =>
    obtain ⟨a, vs, h1, h2, h3, h4⟩ := asL_sq hr r (xs := xs) e
    exact ⟨a, vs, h1, .of h2, h3, h4⟩
  | fz ys =>
    cases Option.some.inj e
    unfold RD at r
    obtain ⟨a, vs, e1, e2, e3, e4⟩ := r
    exact ⟨a, vs, e1, e2.sq, e3, e4⟩
  | _ => cases e
/-- a new list: by value, or one that may be changed -/
def mkL (m : Bool) (xs : List D) (G : DHp) (Q : DK) : Prop := match m with
  | false => Q (.lst xs) G
  | true => ∀ p, G p = none → Q (.ref p) (updD G p (.lst xs))
theorem mkL_mono {m : Bool} {xs : List D} {G : DHp} {Q Q' : DK} (i : ∀ d G', Q d G' → Q' d G') (h : mkL m xs G Q) : mkL m xs G Q' := by
  cases m with
  | false => exact i _ _ h
  | true => exact fun p hp => i _ _ (h p hp)
theorem lst_new {K : Frag} {G : DHp} {H : Hp} {p : Addr} {xs : List D} {vs : List V} (hr : HR K G H) (hp : H p = none) (hl : vs.length ≤ sizeLine) (r : RDs K G H xs vs) : RD K G (upd H p (.lst vs)) (.lst xs) (.ref p) := by
  unfold RD
  exact ⟨p, vs, rfl, hr.none hp, upd_same, hl, r.ext (Ext.new hp)⟩
theorem mkL_use {K : Frag} {m : Bool} {xs : List D} {vs : List V} {G : DHp} {H : Hp} {Q : VK} (hr : HR K G H) (h : mkL m xs G (upE K G H Q)) (hl : vs.length ≤ sizeLine) (r : RDs K G H xs vs) {p : Addr} (hp : H p = none) : Q (.ref p) (upd H p (.lst vs)) := by
  cases m with
  | false => exact h _ _ (Ext.new hp) (hr.new hp) (lst_new hr hp hl r)
  | true => exact h p (hr.none hp) _ _ (Ext.newT hr hp) (hr.newT hp ⟨vs, upd_same, hl, r.ext (Ext.newT hr hp)⟩) (by unfold RD; rfl)
theorem tup_new {K : Frag} {G : DHp} {H : Hp} {p : Addr} {xs : List D} {vs : List V} (hp : H p = none) (hl : vs.length ≤ sizeLine) (r : RDs K G H xs vs) : RD K G (upd H p (.tup vs)) (.tup xs) (.ref p) := by
  unfold RD
  exact ⟨p, vs, rfl, upd_same, hl, r.ext (Ext.new hp)⟩
theorem rd_int {K : Frag} {G : DHp} {H : Hp} {i : Int} {v : V} (r : RD K G H (.int i) v) : v = .int i := by unfold RD at r; exact r
theorem rd_str {K : Frag} {G : DHp} {H : Hp} {i : Str} {v : V} (r : RD K G H (.str i) v) : v = .str i := by unfold RD at r; exact r
theorem rd_bl {K : Frag} {G : DHp} {H : Hp} {i : Bool} {v : V} (r : RD K G H (.bl i) v) : v = .bl i := by unfold RD at r; exact r
theorem rd_ref {K : Frag} {G : DHp} {H : Hp} {i : Addr} {v : V} (r : RD K G H (.ref i) v) : v = .ref i := by unfold RD at r; exact r
theorem rd_tup {K : Frag} {G : DHp} {H : Hp} {xs : List D} {v : V} (r : RD K G H (.tup xs) v) : ∃ a vs, v = .ref a ∧ H a = some (.tup vs) ∧ vs.length ≤ sizeLine ∧ RDs K G H xs vs := by unfold RD at r; exact r
/-- a tuple -/
def asT : D → Option (List D)
  | .tup xs => some xs
  | .ktp xs => some xs
  | _ => none
theorem asT_sq {K : Frag} {G : DHp} {H : Hp} {d : D} {v : V} {xs : List D} (r : RD K G H d v) (e : asT d = some xs) : ∃ a vs, v = .ref a ∧ SqT K H a vs ∧ vs.length ≤ sizeLine ∧ RDs K G H xs vs := by
  cases d with
  | tup ys =>
    cases Option.some.inj e
    obtain ⟨a, vs, e1, e2, e3, e4⟩ := rd_tup r
    exact ⟨a, vs, e1, .of e2, e3, e4⟩
  | ktp ys =>
    cases Option.some.inj e
    unfold RD at r
    obtain ⟨a, vs, e1, e2, e3, e4⟩ := r
    exact ⟨a, vs, e1, .inr e2, e3, e4⟩
  | _ => cases e
theorem rd_i {K : Frag} {G : DHp} {H : Hp} {i : Int} : RD K G H (.int i) (.int i) := by unfold RD; rfl
theorem rd_b {K : Frag} {G : DHp} {H : Hp} {i : Bool} : RD K G H (.bl i) (.bl i) := by unfold RD; rfl
theorem rd_s {K : Frag} {G : DHp} {H : Hp} {i : Str} : RD K G H (.str i) (.str i) := by unfold RD; rfl
theorem rd_n {K : Frag} {G : DHp} {H : Hp} : RD K G H .non .non := by unfold RD; rfl
def rInt (C : Int → Int → Prop) (g : Int → Int → D) : DR2 := fun x y G Q => match x, y with
  | .int i, .int j => C i j ∧ Q (g i j) G
  | _, _ => False
theorem opd_int {K : Frag} {C : Int → Int → Prop} {g : Int → Int → D} {gv : Int → Int → V} (hg : ∀ G H i j, RD K G H (g i j) (gv i j)) : OpD K (rInt C g) (rI C gv) where
  mono := fun x y G Q Q' i h => by
    unfold rInt at h ⊢
    split at h
    · exact ⟨h.1, i _ _ h.2⟩
    · exact h.elim
  link := fun G H x y v w Q hr rx ry h => by
    unfold rInt at h
    split at h
    · exact ⟨_, _, rd_int rx, rd_int ry, h.1, h.2 _ _ .refl hr (hg _ _ _ _)⟩
    · exact h.elim
def rInt0 (g : Int → Int → D) : DR2 := fun x y G Q => match x, y with
  | .int i, .int j => Q (g i j) G
  | _, _ => False
theorem opd_int0 {K : Frag} {g : Int → Int → D} {gv : Int → Int → V} (hg : ∀ G H i j, RD K G H (g i j) (gv i j)) : OpD K (rInt0 g) (rI0 gv) where
  mono := fun x y G Q Q' i h => by
    unfold rInt0 at h ⊢
    split at h
    · exact i _ _ h
    · exact h.elim
  link := fun G H x y v w Q hr rx ry h => by
    unfold rInt0 at h
    split at h
    · exact ⟨_, _, rd_int rx, rd_int ry, h _ _ .refl hr (hg _ _ _ _)⟩
    · exact h.elim
theorem OpD.or {K : Frag} {rD rD' : DR2} {rV rV' : R2} (l : OpD K rD rV) (l' : OpD K rD' rV') : OpD K (fun x y G Q => rD x y G Q ∨ rD' x y G Q) (fun x y H Q => rV x y H Q ∨ rV' x y H Q) where
  mono := fun x y G Q Q' i h => h.imp (l.mono _ _ _ _ _ i) (l'.mono _ _ _ _ _ i)
  link := fun G H x y v w Q hr rx ry h => h.imp (l.link _ _ _ _ _ _ _ hr rx ry) (l'.link _ _ _ _ _ _ _ hr rx ry)
/-- a rule by cases on what stands there, from a wider one -/
theorem OpD.imp {K : Frag} {rD rD' : DR2} {rV : R2} (l : OpD K rD rV) (m : ∀ x y G (Q Q' : DK), (∀ d G', Q d G' → Q' d G') → rD' x y G Q → rD' x y G Q') (h : ∀ x y G Q, rD' x y G Q → rD x y G Q) : OpD K rD' rV :=
  ⟨m, fun G H x y v w Q hr rx ry q => l.link _ _ _ _ _ _ _ hr rx ry (h _ _ _ _ q)⟩
/-- a + b: ints, texts, tuples, lists (m: the new list may be changed) -/
def rAddD (m : Bool) : DR2 := fun x y G Q => match x, y with
  | .int i, .int j => Q (.int (i + j)) G
  | .str a, .str b => a.length + b.length ≤ sizeLine ∧ Q (.str (a ++ b)) G
  | .tup a, .tup b => a.length + b.length ≤ sizeLine ∧ Q (.tup (a ++ b)) G
  | x, y => ∃ a b, asL G x = some a ∧ asL G y = some b ∧ a.length + b.length ≤ sizeLine ∧ mkL m (a ++ b) G Q
def rAddV (K : Frag) : R2 := fun x y H Q => (rI0 (fun i j => .int (i + j)) x y H Q ∨ ∃ i j, x = .str i ∧ y = .str j ∧ i.length + j.length ≤ sizeLine ∧ Q (.str (i ++ j)) H) ∨ (rCatA K x y H Q ∨ L2.rCat x y H Q)
theorem op_addV : OpR X (binaryOp .Add) (rAddV X.K) := (op_add.or op_add_str).or (op_catA.or op_cat)
theorem opd_add {K : Frag} {m : Bool} : OpD K (rAddD m) (rAddV K) where
  mono := fun x y G Q Q' i h => by
    unfold rAddD at h ⊢
    split at h
    · exact i _ _ h
    · exact ⟨h.1, i _ _ h.2⟩
    · exact ⟨h.1, i _ _ h.2⟩
    · obtain ⟨a, b, h1, h2, h3, h4⟩ := h
      exact ⟨a, b, h1, h2, h3, mkL_mono i h4⟩
  link := fun G H x y v w Q hr rx ry h => by
    unfold rAddD at h
    split at h
    · exact .inl (.inl ⟨_, _, rd_int rx, rd_int ry, h _ _ .refl hr rd_i⟩)
    · exact .inl (.inr ⟨_, _, rd_str rx, rd_str ry, h.1, h.2 _ _ .refl hr rd_s⟩)
    · obtain ⟨a, vs, e1, e2, e3, e4⟩ := rd_tup rx
      obtain ⟨b, ws, f1, f2, f3, f4⟩ := rd_tup ry
      have la := e4.length
      have lb := f4.length
      refine .inr (.inl ⟨a, b, vs, ws, e1, f1, .of e2, .of f2, by omega, fun z => ?_, fun z z2 => ?_, fun z z2 p hp => ?_⟩)
      · subst z
        refine h.2 _ _ .refl hr ?_
        rw [e4.nil_of, List.nil_append]
        exact f1 ▸ ry
      · subst z2
        refine h.2 _ _ .refl hr ?_
        rw [f4.nil_of, List.append_nil]
        exact e1 ▸ rx
      · exact h.2 _ _ (Ext.new hp) (hr.new hp) (tup_new hp (by rw [List.length_append]; omega) (e4.append f4))
    · obtain ⟨xs, ys, h1, h2, h3, h4⟩ := h
      obtain ⟨a, vs, e1, e2, e3, e4⟩ := asL_sq hr rx h1
      obtain ⟨b, ws, f1, f2, f3, f4⟩ := asL_sq hr ry h2
      have la := e4.length
      have lb := f4.length
      exact .inr (.inr ⟨a, b, vs, ws, e1, f1, e2, f2, by omega, fun p hp => mkL_use hr h4 (by rw [List.length_append]; omega) (e4.append f4) hp⟩)
end
end DL
set_option Elab.async false
set_option linter.all false
set_option maxRecDepth 100000
set_option maxHeartbeats 4000000
/-! DL3: the operators' rules over data, displays, subscripts, slices. -/
namespace DL
open PySem PySem.Spec PyProof.Rows L2
noncomputable instance : DecidableEq D := fun _ _ => Classical.propDecidable _
/-! ### ints -/
abbrev rSubD : DR2 := rInt0 fun i j => .int (i - j)
abbrev rModD : DR2 := rInt (fun _ j => 0 < j) fun i j => .int (i % j)
abbrev rDivD : DR2 := rInt CDiv fun i j => .int (i / j)
abbrev rPowD : DR2 := rInt CPow fun i j => .int (i ^ j.toNat)
abbrev rLtD : DR2 := rInt0 fun i j => .bl (decide (i < j))
abbrev rLeD : DR2 := rInt0 fun i j => .bl (decide (i ≤ j))
abbrev rGtD : DR2 := rInt0 fun i j => .bl (decide (j < i))
abbrev rGeD : DR2 := rInt0 fun i j => .bl (decide (j ≤ i))
section
variable {X : Cx} {W : WX} {a b : Expr} {ta tb : DTE} {pos : Pos}
theorem de_sub (ha : DE X W a ta) (hb : DE X W b tb) : DE X W (.BinOp a .Sub b pos) (dOp rSubD ta tb) := de_op op_sub (opd_int0 fun _ _ _ _ => rd_i) ha hb
theorem de_mod (ha : DE X W a ta) (hb : DE X W b tb) : DE X W (.BinOp a .Mod b pos) (dOp rModD ta tb) := de_op op_mod (opd_int fun _ _ _ _ => rd_i) ha hb
theorem de_div (ha : DE X W a ta) (hb : DE X W b tb) : DE X W (.BinOp a .FloorDiv b pos) (dOp rDivD ta tb) := de_op op_fdiv (opd_int fun _ _ _ _ => rd_i) ha hb
theorem de_pow (ha : DE X W a ta) (hb : DE X W b tb) : DE X W (.BinOp a .Pow b pos) (dOp rPowD ta tb) := de_op op_pow (opd_int fun _ _ _ _ => rd_i) ha hb
theorem de_add (m : Bool) (ha : DE X W a ta) (hb : DE X W b tb) : DE X W (.BinOp a .Add b pos) (dOp (rAddD m) ta tb) := de_op op_addV opd_add ha hb
/-! ### a * b: ints, a list (a tuple) and an int -/
def rMulD (m : Bool) : DR2 := fun x y G Q => match x, y with
  | .int i, .int j => (CMul i j ∨ CMulW i j) ∧ Q (.int (i * j)) G
  | x, .int k => (∃ xs, asL G x = some xs ∧ -(2 ^ 63) ≤ k ∧ k < 2 ^ 63 ∧ xs.length * k.toNat ≤ sizeLine ∧ mkL m (List.replicate k.toNat xs).flatten G Q) ∨
      ∃ xs, asT x = some xs ∧ xs ≠ [] ∧ 2 ≤ k ∧ k ≤ 1000 ∧ xs.length ≤ 1000 ∧ Q (.tup (List.replicate k.toNat xs).flatten) G
  | _, _ => False
def rMulV (K : Frag) : R2 := fun x y H Q => (rI CMul (fun i j => .int (i * j)) x y H Q ∨ rI CMulW (fun i j => .int (i * j)) x y H Q) ∨ (rRep x y H Q ∨ rRepT K x y H Q)
theorem rep_len {n : Nat} {vs : List V} {k : Int} (h1 : vs.length ≤ 1000) (h2 : k ≤ 1000) : (List.replicate k.toNat vs).flatten.length ≤ sizeLine := by
  rw [PyProof.Rows.lm_len_rep_flat, sizeLine_eq]
  have : k.toNat ≤ 1000 := by omega
  exact Nat.le_trans (Nat.mul_le_mul this h1) (by decide)
theorem opd_mul {K : Frag} {m : Bool} : OpD K (rMulD m) (rMulV K) where
  mono := fun x y G Q Q' i h => by
    unfold rMulD at h ⊢
    split at h
    · exact ⟨h.1, i _ _ h.2⟩
    · rcases h with ⟨xs, h1, h2, h3, h4, h5⟩ | ⟨xs, h1, h2, h3, h4, h5, h6⟩
      · exact .inl ⟨xs, h1, h2, h3, h4, mkL_mono i h5⟩
      · exact .inr ⟨xs, h1, h2, h3, h4, h5, i _ _ h6⟩
    · exact h.elim
  link := fun G H x y v w Q hr rx ry h => by
    unfold rMulD at h
    split at h
    · rcases h with ⟨c | c, q⟩
      · exact .inl (.inl ⟨_, _, rd_int rx, rd_int ry, c, q _ _ .refl hr rd_i⟩)
      · exact .inl (.inr ⟨_, _, rd_int rx, rd_int ry, c, q _ _ .refl hr rd_i⟩)
    · rcases h with ⟨xs, h1, h2, h3, h4, h5⟩ | ⟨xs, h1, h2, h3, h4, h5, h6⟩
      · obtain ⟨a, vs, e1, e2, e3, e4⟩ := asL_sq hr rx h1
        have la := e4.length
        refine .inr (.inl ⟨a, _, vs, e1, rd_int ry, e2, h2, h3, by rw [← la]; exact h4, fun p hp => mkL_use hr h5 ?_ e4.flatten hp⟩)
        rw [PyProof.Rows.lm_len_rep_flat, ← la, Nat.mul_comm]
        exact h4
      · obtain ⟨a, vs, e1, e2, e3, e4⟩ := asT_sq rx h1
        have la := e4.length
        refine .inr (.inr ⟨a, _, vs, e1, rd_int ry, e2, fun z => h2 ?_, h3, h4, by omega, fun p hp => h6 _ _ (Ext.new hp) (hr.new hp) (tup_new hp (rep_len (n := 0) (by omega) h4) e4.flatten)⟩)
        subst z
        exact e4.nil_of
    · exact h.elim
theorem de_mul (m : Bool) (ha : DE X W a ta) (hb : DE X W b tb) : DE X W (.BinOp a .Mult b pos) (dOp (rMulD m) ta tb) := de_op ((op_mul.or op_mulW).or (op_rep.or op_repT)) opd_mul ha hb
end
/-! ### equality -/
mutual
def toP : D → PyData
  | .non => .none
  | .bl b => .bool b
  | .int i => .int i
  | .str x => .str x
  | .tup xs => .tuple (toPs xs)
  | .ktp xs => .tuple (toPs xs)
  | .lst xs => .list (toPs xs)
  | _ => .dict []
def toPs : List D → List PyData
  | [] => []
  | x :: xs => toP x :: toPs xs
end
mutual
/-- plain data, n the depth that may be -/
def pln : Nat → D → Bool
  | _, .non => true
  | _, .bl _ => true
  | _, .int _ => true
  | _, .str x => PyData.strOk x
  | 0, _ => false
  | n + 1, .tup xs => plns n xs
  | n + 1, .ktp xs => plns n xs
  | n + 1, .lst xs => plns n xs
  | _, _ => false
def plns : Nat → List D → Bool
  | _, [] => true
  | n, x :: xs => pln n x && plns n xs
end
/-- equality as Python has it -/
def deqv (x y : D) : Bool := PyData.eqv (toP x) (toP y)
def deqvs (xs ys : List D) : Bool := PyData.eqvAll (toPs xs) (toPs ys)
/-- a list that may be changed, as it is now -/
def vw (G : DHp) : D → D
  | .ref a => match G a with
    | some (.lst xs) => .lst xs
    | _ => .ref a
  | d => d
def rEqD (neg : Bool) : DR2 := fun x y G Q => pln 60 (vw G x) = true ∧ pln 60 (vw G y) = true ∧ Q (.bl (if neg then !deqv (vw G x) (vw G y) else deqv (vw G x) (vw G y))) G
mutual
theorem pln_ok : ∀ {n : Nat} {d : D}, pln n d = true → (toP d).canLay0 = true ∧ (toP d).depth ≤ n
  | n, .non, _ => by simp [toP, PyData.canLay0, PyData.depth]
  | n, .bl _, _ => by simp [toP, PyData.canLay0, PyData.depth]
  | n, .int _, _ => by simp [toP, PyData.canLay0, PyData.depth]
  | n, .str x, h => by
    have h' : PyData.strOk x = true := by cases n <;> simpa [pln] using h
    simp [toP, PyData.canLay0, PyData.depth, h']
  | n + 1, .tup xs, h => by
    have q := plns_ok (n := n) (ds := xs) (by simpa [pln] using h)
    simp [toP, PyData.canLay0, PyData.depth, q.1]
    omega
  | n + 1, .ktp xs, h => by
    have q := plns_ok (n := n) (ds := xs) (by simpa [pln] using h)
    simp [toP, PyData.canLay0, PyData.depth, q.1]
    omega
  | n + 1, .lst xs, h => by
    have q := plns_ok (n := n) (ds := xs) (by simpa [pln] using h)
    simp [toP, PyData.canLay0, PyData.depth, q.1]
    omega
  | 0, .tup _, h => by simp [pln] at h
  | 0, .ktp _, h => by simp [pln] at h
  | 0, .lst _, h => by simp [pln] at h
  | 0, .ty _, h => by simp [pln] at h
  | n + 1, .ty _, h => by simp [pln] at h
  | 0, .glo _, h => by simp [pln] at h
  | n + 1, .glo _, h => by simp [pln] at h
  | 0, .fz _, h => by simp [pln] at h
  | n + 1, .fz _, h => by simp [pln] at h
  | 0, .dic _ _ _, h => by simp [pln] at h
  | n + 1, .dic _ _ _, h => by simp [pln] at h
  | 0, .ins _ _ _, h => by simp [pln] at h
  | n + 1, .ins _ _ _, h => by simp [pln] at h
  | 0, .exn _ _ _ _, h => by simp [pln] at h
  | n + 1, .exn _ _ _ _, h => by simp [pln] at h
  | 0, .ref _, h => by simp [pln] at h
  | n + 1, .ref _, h => by simp [pln] at h
theorem plns_ok : ∀ {n : Nat} {ds : List D}, plns n ds = true → PyData.canLayAll0 (toPs ds) = true ∧ PyData.depthAll (toPs ds) ≤ n
  | _, [], _ => by simp [toPs, PyData.canLayAll0, PyData.depthAll]
  | n, x :: xs, h => by
    have h' : pln n x = true ∧ plns n xs = true := by simpa [plns] using h
    have q1 := pln_ok h'.1
    have q2 := plns_ok h'.2
    simp [toPs, PyData.canLayAll0, PyData.depthAll, q1.1, q2.1]
    omega
end
mutual
theorem pln_dp {K : Frag} {G : DHp} {H : Hp} : ∀ {n : Nat} {d : D} {v : V}, pln n d = true → RD K G H d v → Dp K H v (toP d)
  | _, .non, v, _, r => by unfold RD at r; subst r; unfold toP; exact .non
  | _, .bl b, v, _, r => by unfold RD at r; subst r; unfold toP; exact .bl b
  | _, .int b, v, _, r => by unfold RD at r; subst r; unfold toP; exact .int b
  | _, .str b, v, _, r => by unfold RD at r; subst r; unfold toP; exact .str b
  | n + 1, .tup xs, v, h, r => by
    unfold RD at r
    obtain ⟨a, vs, e1, e2, e3, e4⟩ := r
    subst e1
    unfold toP
    exact .tup (.of e2) (plns_dp (by simpa [pln] using h) e4)
  | n + 1, .ktp xs, v, h, r => by
    unfold RD at r
    obtain ⟨a, vs, e1, e2, e3, e4⟩ := r
    subst e1
    unfold toP
    exact .tup (.inr e2) (plns_dp (by simpa [pln] using h) e4)
  | n + 1, .lst xs, v, h, r => by
    unfold RD at r
    obtain ⟨a, vs, e1, g, e2, e3, e4⟩ := r
    subst e1
    unfold toP
    exact .lst (.of e2) (plns_dp (by simpa [pln] using h) e4)
  | 0, .tup _, _, h, _ => by simp [pln] at h
  | 0, .ktp _, _, h, _ => by simp [pln] at h
  | 0, .lst _, _, h, _ => by simp [pln] at h
  | 0, .ty _, _, h, _ => by simp [pln] at h
  | n + 1, .ty _, _, h, _ => by simp [pln] at h
  | 0, .glo _, _, h, _ => by simp [pln] at h
  | n + 1, .glo _, _, h, _ => by simp [pln] at h
  | 0, .fz _, _, h, _ => by simp [pln] at h
  | n + 1, .fz _, _, h, _ => by simp [pln] at h
  | 0, .dic _ _ _, _, h, _ => by simp [pln] at h
  | n + 1, .dic _ _ _, _, h, _ => by simp [pln] at h
  | 0, .ins _ _ _, _, h, _ => by simp [pln] at h
  | n + 1, .ins _ _ _, _, h, _ => by simp [pln] at h
  | 0, .exn _ _ _ _, _, h, _ => by simp [pln] at h
  | n + 1, .exn _ _ _ _, _, h, _ => by simp [pln] at h
  | 0, .ref _, _, h, _ => by simp [pln] at h
  | n + 1, .ref _, _, h, _ => by simp [pln] at h
theorem plns_dp {K : Frag} {G : DHp} {H : Hp} : ∀ {n : Nat} {ds : List D} {vs : List V}, plns n ds = true → RDs K G H ds vs → DpAll K H vs (toPs ds)
  | _, [], vs, _, r => by rw [r.nil_inv]; unfold toPs; exact .nil
  | n, x :: xs, vs, h, r => by
    have h' : pln n x = true ∧ plns n xs = true := by simpa [plns] using h
    obtain ⟨v, r', e1, e2, e3⟩ := r.cons_inv
    subst e1
    unfold toPs
    exact .cons (pln_dp h'.1 e2) (plns_dp h'.2 e3)
end
theorem vw_dp {K : Frag} {G : DHp} {H : Hp} {n : Nat} {d : D} {v : V} (hr : HR K G H) (h : pln (n + 1) (vw G d) = true) (r : RD K G H d v) : Dp K H v (toP (vw G d)) := by
  cases d with
  | ref a =>
    unfold RD at r
    subst r
    simp only [vw] at h ⊢
    split at h
    · rename_i xs g
      obtain ⟨vs, e1, e2, e3⟩ := hr a _ g
      unfold toP
      exact .lst (.of e1) (plns_dp (by simpa [pln] using h) e3)
    · simp [pln] at h
  | _ => exact pln_dp h r
theorem opd_eq {K : Frag} {neg : Bool} : OpD K (rEqD neg) (if neg then L2.rNeD K else L2.rEqD K) where
  mono := fun x y G Q Q' i h => ⟨h.1, h.2.1, i _ _ h.2.2⟩
  link := fun G H x y v w Q hr rx ry h => by
    obtain ⟨h1, h2, h3⟩ := h
    have q1 := pln_ok h1
    have q2 := pln_ok h2
    have s1 : SeqAt.shaped (toP (vw G x)) = true := by unfold SeqAt.shaped; rw [q1.1, decide_eq_true (by omega)]; rfl
    have s2 : SeqAt.shaped (toP (vw G y)) = true := by unfold SeqAt.shaped; rw [q2.1, decide_eq_true (by omega)]; rfl
    cases neg with
    | true => exact ⟨_, _, vw_dp hr h1 rx, vw_dp hr h2 ry, s1, s2, h3 _ _ .refl hr rd_b⟩
    | false => exact ⟨_, _, vw_dp hr h1 rx, vw_dp hr h2 ry, s1, s2, h3 _ _ .refl hr rd_b⟩
/-! ### is -/
def isNon : D → Bool
  | .non => true
  | _ => false
def rIsD (neg : Bool) : DR2 := fun x y G Q => match x, y with
  | .bl a, .bl b => Q (.bl (if neg then !decide (a = b) else decide (a = b))) G
  | x, .non => Q (.bl (if neg then !isNon x else isNon x)) G
  | _, _ => False
theorem rd_isnon {K : Frag} {G : DHp} {H : Hp} {d : D} {v : V} (r : RD K G H d v) : decide (v = .non) = isNon d := by
  cases d <;> unfold RD at r
  case non => subst r; rfl
  case bl => subst r; rfl
  case int => subst r; rfl
  case str => subst r; rfl
  case ty => subst r; rfl
  case glo => subst r; rfl
  case ref => subst r; rfl
  case exn => obtain ⟨e, _⟩ := r; subst e; rfl
  case tup => obtain ⟨a, vs, e, _⟩ := r; subst e; rfl
  case ktp => obtain ⟨a, vs, e, _⟩ := r; subst e; rfl
  case lst => obtain ⟨a, vs, e, _⟩ := r; subst e; rfl
  case fz => obtain ⟨a, vs, e, _⟩ := r; subst e; rfl
  case dic => obtain ⟨a, e, _⟩ := r; subst e; rfl
  case ins => obtain ⟨a, dx, fv, e, _⟩ := r; subst e; rfl
theorem opd_is {K : Frag} : OpD K (rIsD false) (fun x y H Q => rIsB x y H Q ∨ (y = .non ∧ Q (.bl (decide (x = .non))) H)) where
  mono := fun x y G Q Q' i h => by
    unfold rIsD at h ⊢
    split at h
    · exact i _ _ h
    · exact i _ _ h
    · exact h.elim
  link := fun G H x y v w Q hr rx ry h => by
    unfold rIsD at h
    split at h
    · exact .inl ⟨_, _, rd_bl rx, rd_bl ry, h _ _ .refl hr rd_b⟩
    · refine .inr ⟨by unfold RD at ry; exact ry, ?_⟩
      rw [rd_isnon rx]
      exact h _ _ .refl hr rd_b
    · exact h.elim
theorem opd_isnot {K : Frag} : OpD K (rIsD true) (fun x y H Q => rNotB x y H Q ∨ (y = .non ∧ Q (.bl (!decide (x = .non))) H)) where
  mono := fun x y G Q Q' i h => by
    unfold rIsD at h ⊢
    split at h
    · exact i _ _ h
    · exact i _ _ h
    · exact h.elim
  link := fun G H x y v w Q hr rx ry h => by
    unfold rIsD at h
    split at h
    · exact .inl ⟨_, _, rd_bl rx, rd_bl ry, h _ _ .refl hr rd_b⟩
    · refine .inr ⟨by unfold RD at ry; exact ry, ?_⟩
      rw [rd_isnon rx]
      exact h _ _ .refl hr rd_b
    · exact h.elim
/-! ### in: lists and tuples of flat things, dicts, signs of a text -/
def flatD : D → Bool
  | .non | .bl _ | .int _ | .str _ => true
  | _ => false
theorem flat_rd {K : Frag} {G : DHp} {H : Hp} {d : D} {v : V} (r : RD K G H d v) (f : flatD d = true) : flatV v = true ∧ ∀ {e : D} {w : V}, RD K G H e w → flatD e = true → eqV w v = deqv e d := by
  cases d <;> first
    | (cases f; done)
    | (unfold RD at r; subst r; refine ⟨rfl, fun {e w} re fe => ?_⟩; cases e <;> first
        | (cases fe; done)
        | (unfold RD at re; subst re; simp [eqV, deqv, toP, PyData.eqv]))
theorem flats_rd {K : Frag} {G : DHp} {H : Hp} : ∀ {ds : List D} {vs : List V}, RDs K G H ds vs → ds.all flatD = true → vs.all flatV = true
  | [], _, r, _ => by rw [r.nil_inv]; rfl
  | x :: xs, vs, r, f => by
    obtain ⟨v, r', e1, e2, e3⟩ := r.cons_inv
    rw [e1]
    rw [List.all_cons, Bool.and_eq_true] at f ⊢
    exact ⟨(flat_rd e2 f.1).1, flats_rd e3 f.2⟩
/-- x in ys, by == -/
def inD (x : D) (ys : List D) : Bool := ys.any fun y => deqv y x
theorem inD_rd {K : Frag} {G : DHp} {H : Hp} {d : D} {v : V} (r : RD K G H d v) (f : flatD d = true) : ∀ {ds : List D} {vs : List V}, RDs K G H ds vs → ds.all flatD = true → inV v vs = inD d ds
  | [], _, rs, _ => by rw [rs.nil_inv]; rfl
  | x :: xs, vs, rs, fs => by
    obtain ⟨w, r', e1, e2, e3⟩ := rs.cons_inv
    rw [e1]
    rw [List.all_cons, Bool.and_eq_true] at fs
    have ih := inD_rd r f e3 fs.2
    unfold inV inD at ih ⊢
    rw [List.any_cons, List.any_cons, ih, (flat_rd r f).2 e2 fs.1]
/-- a dict's value -/
noncomputable def dget : List D → List D → D → Option D
  | k :: ks, v :: vs, x => if k = x then some v else dget ks vs x
  | _, _, _ => none
/-- a dict as it is now -/
def asDc (G : DHp) : D → Option (Nat × List D × List D)
  | .dic t ks xs => some (t, ks, xs)
  | .ref a => match G a with
    | some (.dic t ks xs) => some (t, ks, xs)
    | some (.ldc t ks xs) => some (t, ks, xs)
    | _ => none
  | _ => none
/-- what may be a key of a dict of the kind t -/
def isKey0 : D → Bool
  | .int _ | .str _ => true
  | _ => false
def isKey (t : Nat) (d : D) : Bool := match t, d with
  | 0, d => isKey0 d
  | 1, .tup xs => xs.all isKey0
  | _, _ => false
def rInD (neg : Bool) : DR2 := fun x y G Q =>
  (∃ ys, (asR G y = some ys ∨ asT y = some ys) ∧ flatD x = true ∧ ys.all flatD = true ∧ Q (.bl (if neg then !inD x ys else inD x ys)) G) ∨
  (∃ t ks xs, asDc G y = some (t, ks, xs) ∧ isKey t x = true ∧ Q (.bl (if neg then !(dget ks xs x).isSome else (dget ks xs x).isSome)) G) ∨
  ∃ (c : Nat) (z : Str), x = .str ⟨#[c]⟩ ∧ y = .str z ∧ Q (.bl (if neg then !decide (c ∈ z.cps.toList) else decide (c ∈ z.cps.toList))) G
theorem keyD_inj {a b : Key} (h : keyD a = keyD b) : a = b := by
  cases a <;> cases b <;> simp [keyD] at h <;> rw [h]
theorem keyDs_inj : ∀ {a b : List Key}, a.map keyD = b.map keyD → a = b
  | [], [], _ => rfl
  | [], _ :: _, h => by cases h
  | _ :: _, [], h => by cases h
  | x :: xs, y :: ys, h => by
    rw [List.map_cons, List.map_cons] at h
    injection h with h1 h2
    rw [keyD_inj h1, keyDs_inj h2]
theorem isKey0_of {d : D} (h : isKey0 d = true) : ∃ k : Key, d = keyD k := by
  cases d <;> first | (cases h; done) | skip
  · exact ⟨.inl _, rfl⟩
  · exact ⟨.inr _, rfl⟩
theorem isKeys_of : ∀ {ds : List D}, ds.all isKey0 = true → ∃ ks : List Key, ds = ks.map keyD
  | [], _ => ⟨[], rfl⟩
  | d :: ds, h => by
    rw [List.all_cons, Bool.and_eq_true] at h
    obtain ⟨k, e⟩ := isKey0_of h.1
    obtain ⟨ks, es⟩ := isKeys_of h.2
    exact ⟨k :: ks, by rw [e, es]; rfl⟩
theorem rd_key {K : Frag} {G : DHp} {H : Hp} {k : Key} {v : V} (r : RD K G H (keyD k) v) : v = kV k := by
  cases k <;> (unfold keyD RD at r; exact r)
theorem rds_keys {K : Frag} {G : DHp} {H : Hp} : ∀ {ks : List Key} {vs : List V}, RDs K G H (ks.map keyD) vs → vs = ks.map kV
  | [], _, r => r.nil_inv
  | k :: ks, vs, r => by
    obtain ⟨v, r', e1, e2, e3⟩ := RDs.cons_inv (x := keyD k) (xs := ks.map keyD) r
    rw [e1, rd_key e2, rds_keys e3]
    rfl
/-- looked up alike -/
theorem dget_rel {K : Frag} {G : DHp} {H : Hp} {κ : Type} [DecidableEq κ] {f : κ → D} (inj : ∀ a b, f a = f b → a = b) : ∀ {kvs : List (κ × V)} {xs : List D} {k : κ}, RDs K G H xs (kvs.map (·.2)) →
    match dget (kvs.map fun p => f p.1) xs (f k) with
    | some d => ∃ v, valV kvs k = some v ∧ RD K G H d v
    | none => valV kvs k = none
  | [], xs, k, _ => by cases xs <;> (simp only [List.map_nil, dget]; rfl)
  | p :: kvs, xs, k, r => by
    have hl := r.length
    cases xs with
    | nil => simp at hl
    | cons x xs =>
      obtain ⟨v, r', e1, e2, e3⟩ := r.cons_inv
      rw [List.map_cons] at e1
      injection e1 with e1 e4
      rw [List.map_cons]
      by_cases c : p.1 = k
      · simp only [dget, c, if_true]
        rw [valV_pos c]
        exact ⟨_, rfl, by rw [e1]; exact e2⟩
      · have c' : ¬ f p.1 = f k := fun z => c (inj _ _ z)
        simp only [dget, c', if_false]
        rw [valV_neg c]
        exact dget_rel inj (by rw [e4]; exact e3)
theorem dget_sq {K : Frag} {G : DHp} {H : Hp} (hr : HR K G H) {d x : D} {v w : V} {t : Nat} {ks xs : List D} (r : RD K G H d v) (rx : RD K G H x w) (e : asDc G d = some (t, ks, xs)) (hk : isKey t x = true) :
    ∃ a o, v = .ref a ∧ L2.DGet H a w o ∧ (match dget ks xs x with | some d => ∃ u, o = some u ∧ RD K G H d u | none => o = none) := by
  have main : ∀ a, v = .ref a → ((t = 0 ∧ ∃ kvs : List (Key × V), Sd H a (.dK kvs) ∧ ks = kvs.map (fun p => keyD p.1) ∧ kvs.length ≤ sizeLine ∧ RDs K G H xs (kvs.map (·.2))) ∨
      t = 1 ∧ ∃ kvs : List (List Key × V), Sd H a (.dT kvs) ∧ ks = kvs.map (fun p => .tup (p.1.map keyD)) ∧ kvs.length ≤ sizeLine ∧ RDs K G H xs (kvs.map (·.2))) →
      ∃ a o, v = .ref a ∧ L2.DGet H a w o ∧ (match dget ks xs x with | some d => ∃ u, o = some u ∧ RD K G H d u | none => o = none) := by
    intro a ea h
    rcases h with ⟨et, kvs, e2, e3, e4, e5⟩ | ⟨et, kvs, e2, e3, e4, e5⟩
    · subst et
      obtain ⟨k, ek⟩ := isKey0_of (d := x) hk
      subst ek
      refine ⟨a, valV kvs k, ea, .inl ⟨kvs, k, e2.rd, rd_key rx, rfl⟩, ?_⟩
      have q := dget_rel (fun _ _ => keyD_inj) (k := k) e5
      rw [← e3] at q
      exact q
    · subst et
      cases x with
      | tup ys =>
        obtain ⟨k, ek⟩ := isKeys_of (ds := ys) hk
        subst ek
        obtain ⟨b, vs, f1, f2, f3, f4⟩ := rd_tup rx
        have hb2 : H b = some (.tup (k.map kV)) := by rw [f2, rds_keys f4]
        refine ⟨a, valV kvs k, ea, .inr ⟨kvs, k, b, e2.rd, f1, hb2, rfl⟩, ?_⟩
        have q := dget_rel (f := fun l : List Key => D.tup (l.map keyD)) (fun _ _ z => keyDs_inj (by injection z)) (k := k) e5
        rw [← e3] at q
        exact q
      | _ => cases hk
  cases d with
  | dic t' ks' xs' =>
    have e' := Option.some.inj e
    simp only [Prod.mk.injEq] at e'
    obtain ⟨e1, e2, e3⟩ := e'
    subst e1 e2 e3
    unfold RD at r
    obtain ⟨a, ea, g, h⟩ := r
    exact main a ea h
  | ref a =>
    unfold RD at r
    simp only [asDc] at e
    split at e
    · rename_i t' ks' xs' g
      have e' := Option.some.inj e
      simp only [Prod.mk.injEq] at e'
      obtain ⟨e1, e2, e3⟩ := e'
      subst e1 e2 e3
      have q := hr a _ g
      refine main a r ?_
      rcases q with ⟨et, kvs, e2, e3, e4, e5⟩ | ⟨et, kvs, e2, e3, e4, e5⟩
      · exact .inl ⟨et, kvs, .inl e2, e3, e4, e5⟩
      · exact .inr ⟨et, kvs, .inl e2, e3, e4, e5⟩
    · rename_i t' ks' xs' g
      have e' := Option.some.inj e
      simp only [Prod.mk.injEq] at e'
      obtain ⟨e1, e2, e3⟩ := e'
      subst e1 e2 e3
      have q := hr a _ g
      refine main a r ?_
      rcases q with ⟨et, ob, kvs, e2, e3, e4, e5⟩ | ⟨et, ob, kvs, e2, e3, e4, e5⟩
      · exact .inl ⟨et, kvs, .inr ⟨rfl, ob, e2⟩, e3, e4, e5⟩
      · exact .inr ⟨et, kvs, .inr ⟨rfl, ob, e2⟩, e3, e4, e5⟩
    · cases e
  | _ => cases e
end DL
set_option Elab.async false
set_option linter.all false
set_option maxRecDepth 100000
set_option maxHeartbeats 4000000
/-! DL4: comparisons as rules, in, argument lists, displays, subscripts, slices, t[::-1]. -/
namespace HT
open PySem PySem.Spec PyProof.Rows PySem.W PySem.Calls
section
variable {prog : Program} {w : World} {A : Around} {E : Value → Shared → Prop} {s : Shared}
theorem sliceApplied_rev {sl : Addr} {vk : Value} {n : Nat} {Q : Int × Int × Nat → Shared → Prop} (hs : s.heap.IsSliceOf sl .none .none vk) (pk : IsPart vk (some (-1)))
    (h : Q ((n : Int) - 1, -1, n) s) : wpAny (model prog w) A (Builtin.Slice.sliceApplied (.ref sl) (pure (n : Int))) Q E s := by
  obtain ⟨os, hos, hcs, hds⟩ := id hs
  unfold Builtin.Slice.sliceApplied Builtin.Slice.sliceFields
  refine wpAny_bind (wpAny_bind (wpAny_field hos hds (x := .none) rfl (wpAny_bind (wpAny_field hos hds (x := .none) rfl (wpAny_bind (wpAny_field hos hds (x := vk) rfl (wpAny_pure ?_)))))))
  refine wpAny_bind (slicePart_ pk ?_)
  show wpAny _ _ (if ((-1 : Int) == 0) = true then _ else _) _ _ s
  rw [if_neg (by decide)]
  refine wpAny_bind (slicePart_none (wpAny_bind (slicePart_none (wpAny_bind (wpAny_pure ?_)))))
  show wpAny _ _ (match Builtin.Slice.sliceAdjust none none (-1) (n : Int) with | (lo, hi) => pure (lo, (-1 : Int), Builtin.Slice.slicePlaces lo hi (-1))) _ _ s
  have e : Builtin.Slice.sliceAdjust none none (-1) (n : Int) = ((n : Int) - 1, -1) := rfl
  rw [e]
  show wpAny _ _ (pure ((n : Int) - 1, (-1 : Int), Builtin.Slice.slicePlaces ((n : Int) - 1) (-1) (-1))) _ _ s
  have e2 : Builtin.Slice.slicePlaces ((n : Int) - 1) (-1) (-1) = n := by
    unfold Builtin.Slice.slicePlaces
    have h1 : ¬ ((-1 : Int) > 0) := by decide
    simp only [h1, if_false]
    split
    · rw [show (- -1 : Int) = 1 by decide, Int.ediv_one]; omega
    · omega
  rw [e2]
  exact wpAny_pure h
theorem pick_rev (xs : Array Value) : ((List.range xs.size).filterMap fun (m : Nat) => xs[(((xs.size : Int) - 1) + (m : Int) * (-1)).toNat]?).toArray = xs.toList.reverse.toArray := by
  have e : (List.range xs.size).filterMap (fun (m : Nat) => xs[(((xs.size : Int) - 1) + (m : Int) * (-1)).toNat]?) = ((List.range xs.size).map fun k => xs.size - 1 - k).filterMap (xs[·]?) := by
    rw [List.filterMap_map]
    have e2 : (fun (m : Nat) => xs[(((xs.size : Int) - 1) + (m : Int) * (-1)).toNat]?) = (fun x => xs[x]?) ∘ fun k => xs.size - 1 - k := by
      funext m
      have e3 : (((xs.size : Int) - 1) + (m : Int) * (-1)).toNat = xs.size - 1 - m := by omega
      show xs[(((xs.size : Int) - 1) + (m : Int) * (-1)).toNat]? = xs[xs.size - 1 - m]?
      rw [e3]
    rw [e2]
  rw [e, krv_range, List.filterMap_reverse, krv_all]
theorem getItem_tuple_rev {t sl : Addr} {items : Array Value} {vk : Value} {Q : Value → Shared → Prop} (ht : IsTup s.heap t items) (hs : s.heap.IsSliceOf sl .none .none vk) (pk : IsPart vk (some (-1)))
    (h : Q (.ref s.heap.objs.size) { s with heap := s.heap.push { cls := .type "tuple", data := .seq items.toList.reverse.toArray } })
    (hsz : items.size ≤ sizeLine) : wpAny (model prog w) A (getItem (.ref t) (.ref sl)) Q E s := by
  have htake : sizeOk (.seq items.toList.reverse.toArray) := by
    show items.toList.reverse.toArray.size ≤ sizeLine
    rw [List.size_toArray, List.length_reverse, Array.length_toList]
    omega
  obtain ⟨os, hos, hcs, hds⟩ := id hs
  have hTs : s.TypeIs (.ref sl) "slice" := ⟨os, hos, hcs⟩
  unfold getItem
  try with_reducible refine wpAny_holding ?_
  first | refine wpAny_bind (wpAny_pure ?_) | skip
  refine wpAny_bind (wpAny_sequenceKey ht.typeIs (by decide) ?_)
  refine wpAny_bind (wpAny_callSpecial?_slot (name := Str.ofString "__getitem__") ht.typeIs PyProof.Rows.slot_tuple_getitem
    (wpAny_call_entry PyProof.Rows.slot_tuple_getitem ht.typeIs entry_tuple_getitem ?_ (args_tuple_getitem _ _)))
  show wpAny _ _ (Builtin.Tuple.tupleItemsOf (.ref t) >>= _) _ _ s
  refine wpAny_bind (tupleItemsOf_ ht ?_)
  refine wpAny_bind (wpAny_typeOf hTs ?_)
  rw [if_pos (by decide)]
  refine wpAny_bind (sliceApplied_rev hs pk ?_)
  show wpAny _ _ (if (((items.size : Int) - 1) == 0 && (-1 : Int) == 1 && items.size == items.size) = true then _ else _) _ _ s
  rw [if_neg (by rw [show ((-1 : Int) == 1) = false by decide, Bool.and_false, Bool.false_and]; exact Bool.false_ne_true), pick_rev]
  first
    | exact wpAny_bind (m := Builtin.Tuple.tupleExact _) (wpAny_newObj_type (wpAny_pure ⟨_, rfl, wpAny_pure h⟩) htake)
    | exact wpAny_bind (m := Builtin.Tuple.tupleExact _) (wpAny_newObj_type (wpAny_bind (wpAny_pure (wpAny_pure ⟨_, rfl, wpAny_pure h⟩))) htake)
    | exact wpAny_bind (wpAny_bind (m := Builtin.Tuple.tupleExact _) (wpAny_newObj_type (wpAny_pure (wpAny_pure ⟨_, rfl, wpAny_pure h⟩)) htake))
    | exact wpAny_bind (wpAny_bind (m := Builtin.Tuple.tupleExact _) (wpAny_newObj_type (wpAny_pure ⟨_, rfl, wpAny_pure h⟩) htake))
end
end HT
namespace DL
open PySem PySem.Spec PyProof.Rows L2
section
variable {X : Cx} {W : WX} {a b c e o i : Expr} {es : List Expr} {ta tb te to ti : DTE} {t : DTA} {pos p' p2 : Pos}
/-! ### comparisons -/
theorem de_eq (hu : X.A.units + 64 < cLine) (ha : DE X W a ta) (hb : DE X W b tb) : DE X W (.Compare a [.Eq] [b] pos) (dOp (rEqD false) ta tb) := de_cmp (op_eqD hu) (opd_eq (neg := false)) ha hb (nomark _)
theorem dt_eq (hu : X.A.units + 64 < cLine) (ha : DE X W a ta) (hb : DE X W b tb) : DT X W (.Compare a [.Eq] [b] pos) (dB (dOp (rEqD false) ta tb)) := dt_cmp (op_eqD hu) (opd_eq (neg := false)) ha hb (nomark _)
theorem de_ne (hu : X.A.units + 64 < cLine) (ha : DE X W a ta) (hb : DE X W b tb) : DE X W (.Compare a [.NotEq] [b] pos) (dOp (rEqD true) ta tb) := de_cmp (op_neD hu) (opd_eq (neg := true)) ha hb (nomark _)
theorem dt_ne (hu : X.A.units + 64 < cLine) (ha : DE X W a ta) (hb : DE X W b tb) : DT X W (.Compare a [.NotEq] [b] pos) (dB (dOp (rEqD true) ta tb)) := dt_cmp (op_neD hu) (opd_eq (neg := true)) ha hb (nomark _)
theorem de_lt (ha : DE X W a ta) (hb : DE X W b tb) : DE X W (.Compare a [.Lt] [b] pos) (dOp rLtD ta tb) := de_cmp op_lt (opd_int0 fun _ _ _ _ => rd_b) ha hb (nomark _)
theorem dt_lt (ha : DE X W a ta) (hb : DE X W b tb) : DT X W (.Compare a [.Lt] [b] pos) (dB (dOp rLtD ta tb)) := dt_cmp op_lt (opd_int0 fun _ _ _ _ => rd_b) ha hb (nomark _)
theorem de_le (ha : DE X W a ta) (hb : DE X W b tb) : DE X W (.Compare a [.LtE] [b] pos) (dOp rLeD ta tb) := de_cmp op_le (opd_int0 fun _ _ _ _ => rd_b) ha hb (nomark _)
theorem dt_le (ha : DE X W a ta) (hb : DE X W b tb) : DT X W (.Compare a [.LtE] [b] pos) (dB (dOp rLeD ta tb)) := dt_cmp op_le (opd_int0 fun _ _ _ _ => rd_b) ha hb (nomark _)
theorem de_gt (ha : DE X W a ta) (hb : DE X W b tb) : DE X W (.Compare a [.Gt] [b] pos) (dOp rGtD ta tb) := de_cmp op_gt (opd_int0 fun _ _ _ _ => rd_b) ha hb (nomark _)
theorem dt_gt (ha : DE X W a ta) (hb : DE X W b tb) : DT X W (.Compare a [.Gt] [b] pos) (dB (dOp rGtD ta tb)) := dt_cmp op_gt (opd_int0 fun _ _ _ _ => rd_b) ha hb (nomark _)
theorem de_ge (ha : DE X W a ta) (hb : DE X W b tb) : DE X W (.Compare a [.GtE] [b] pos) (dOp rGeD ta tb) := de_cmp op_ge (opd_int0 fun _ _ _ _ => rd_b) ha hb (nomark _)
theorem dt_ge (ha : DE X W a ta) (hb : DE X W b tb) : DT X W (.Compare a [.GtE] [b] pos) (dB (dOp rGeD ta tb)) := dt_cmp op_ge (opd_int0 fun _ _ _ _ => rd_b) ha hb (nomark _)
/-- a <= b <= c -/
theorem de_lele {tc : DTE} (ha : DE X W a ta) (hb : DE X W b tb) (hc : DE X W c tc) (hm : lastMarks [.LtE, .LtE] [b, c] = false := by with_unfolding_all rfl) : DE X W (.Compare a [.LtE, .LtE] [b, c] pos) (dChain rLeD rLeD ta tb tc) :=
  de_chain op_le (opd_int0 fun _ _ _ _ => rd_b) op_le (opd_int0 fun _ _ _ _ => rd_b) ha hb hc hm
theorem dt_lele {tc : DTE} (ha : DE X W a ta) (hb : DE X W b tb) (hc : DE X W c tc) (hm : lastMarks [.LtE, .LtE] [b, c] = false := by with_unfolding_all rfl) : DT X W (.Compare a [.LtE, .LtE] [b, c] pos) (dB (dChain rLeD rLeD ta tb tc)) :=
  dt_chain op_le (opd_int0 fun _ _ _ _ => rd_b) op_le (opd_int0 fun _ _ _ _ => rd_b) ha hb hc hm
theorem de_is (ha : DE X W a ta) (hb : DE X W b tb) : DE X W (.Compare a [.Is] [b] pos) (dOp (rIsD false) ta tb) := de_cmp (op_isBl.or op_isN) opd_is ha hb (nomark _)
theorem dt_is (ha : DE X W a ta) (hb : DE X W b tb) : DT X W (.Compare a [.Is] [b] pos) (dB (dOp (rIsD false) ta tb)) := dt_cmp (op_isBl.or op_isN) opd_is ha hb (nomark _)
theorem de_isnot (ha : DE X W a ta) (hb : DE X W b tb) : DE X W (.Compare a [.IsNot] [b] pos) (dOp (rIsD true) ta tb) := de_cmp (op_notBl.or op_notN) opd_isnot ha hb (nomark _)
theorem dt_isnot (ha : DE X W a ta) (hb : DE X W b tb) : DT X W (.Compare a [.IsNot] [b] pos) (dB (dOp (rIsD true) ta tb)) := dt_cmp (op_notBl.or op_notN) opd_isnot ha hb (nomark _)
/-! ### in -/
def rInDc (neg : Bool) : R2 := fun x y H Q => ∃ a o, y = .ref a ∧ L2.DGet H a x o ∧ Q (.bl (if neg then !o.isSome else o.isSome)) H
theorem op_inDc (hu : X.A.units + 1 < cLine) : OpR X (compareOp .In) (rInDc false) := by
  intro pins s σ H x y v u Q I rx ry h
  obtain ⟨a, o, rfl, g, q⟩ := h
  obtain rfl : u = Value.ref a := ry
  exact d_in hu I g rx fun s3 I3 => ⟨.bl o.isSome, H, I3, rfl, q⟩
theorem op_notInDc (hu : X.A.units + 1 < cLine) : OpR X (compareOp .NotIn) (rInDc true) := by
  intro pins s σ H x y v u Q I rx ry h
  obtain ⟨a, o, rfl, g, q⟩ := h
  obtain rfl : u = Value.ref a := ry
  exact d_notIn hu I g rx fun s3 I3 => ⟨.bl (!o.isSome), H, I3, rfl, q⟩
def rInSg (neg : Bool) : R2 := fun x y H Q => ∃ (c : Nat) (z : Str), x = .str ⟨#[c]⟩ ∧ y = .str z ∧ Q (.bl (if neg then !decide (c ∈ z.cps.toList) else decide (c ∈ z.cps.toList))) H
def rInV (K : Frag) (neg : Bool) : R2 := fun x y H Q => L2.rIn K neg x y H Q ∨ rInDc neg x y H Q ∨ rInSg neg x y H Q
theorem opd_in {K : Frag} {neg : Bool} : OpD K (rInD neg) (rInV K neg) where
  mono := fun x y G Q Q' i h => by
    rcases h with ⟨ys, h1, h2, h3, h4⟩ | ⟨t, ks, xs, h1, h2, h3⟩ | ⟨c, z, h1, h2, h3⟩
    · exact .inl ⟨ys, h1, h2, h3, i _ _ h4⟩
    · exact .inr (.inl ⟨t, ks, xs, h1, h2, i _ _ h3⟩)
    · exact .inr (.inr ⟨c, z, h1, h2, i _ _ h3⟩)
  link := fun G H x y v w Q hr rx ry h => by
    rcases h with ⟨ys, h1, h2, h3, h4⟩ | ⟨t, ks, xs, h1, h2, h3⟩ | ⟨c, z, h1, h2, h3⟩
    · obtain ⟨a, vs, e1, e2, e3⟩ : ∃ a vs, w = .ref a ∧ (SqL K H a vs ∨ SqT K H a vs) ∧ RDs K G H ys vs := by
        rcases h1 with h1 | h1
        · obtain ⟨a, vs, e1, e2, e3, e4⟩ := asR_sq hr ry h1
          exact ⟨a, vs, e1, .inl e2, e4⟩
        · obtain ⟨a, vs, e1, e2, e3, e4⟩ := asT_sq ry h1
          exact ⟨a, vs, e1, .inr e2, e4⟩
      refine .inl ⟨a, vs, e1, e2, (flat_rd rx h2).1, flats_rd e3 h3, ?_⟩
      rw [inD_rd rx h2 e3 h3]
      exact h4 _ _ .refl hr rd_b
    · obtain ⟨a, o, e1, e2, e3⟩ := dget_sq hr ry rx h1 h2
      refine .inr (.inl ⟨a, o, e1, e2, ?_⟩)
      have eo : o.isSome = (dget ks xs x).isSome := by
        split at e3
        · rename_i d e
          obtain ⟨u, eu, _⟩ := e3
          rw [eu, e] <;> rfl
        · rename_i e
          rw [e3, e] <;> rfl
      rw [eo]
      exact h3 _ _ .refl hr rd_b
    · subst h1 h2
      exact .inr (.inr ⟨c, z, rd_str rx, rd_str ry, h3 _ _ .refl hr rd_b⟩)
theorem op_inV (hu : X.A.units + 1 < cLine) : OpR X (compareOp .In) (rInV X.K false) := op_in_seq.or ((op_inDc hu).or op_in_sign)
theorem op_notInV (hu : X.A.units + 1 < cLine) : OpR X (compareOp .NotIn) (rInV X.K true) := op_notIn_seq.or ((op_notInDc hu).or op_notIn_sign)
theorem hu1 {A : Around} (h : A.units + 64 < cLine) : A.units + 1 < cLine := by omega
theorem de_in (hu : X.A.units + 64 < cLine) (ha : DE X W a ta) (hb : DE X W b tb) (hm : behindInMarks .In b = false := by with_unfolding_all rfl) : DE X W (.Compare a [.In] [b] pos) (dOp (rInD false) ta tb) := de_cmp (op_inV (hu1 hu)) opd_in ha hb hm
theorem dt_in (hu : X.A.units + 64 < cLine) (ha : DE X W a ta) (hb : DE X W b tb) (hm : behindInMarks .In b = false := by with_unfolding_all rfl) : DT X W (.Compare a [.In] [b] pos) (dB (dOp (rInD false) ta tb)) := dt_cmp (op_inV (hu1 hu)) opd_in ha hb hm
theorem de_notin (hu : X.A.units + 64 < cLine) (ha : DE X W a ta) (hb : DE X W b tb) (hm : behindInMarks .NotIn b = false := by with_unfolding_all rfl) : DE X W (.Compare a [.NotIn] [b] pos) (dOp (rInD true) ta tb) := de_cmp (op_notInV (hu1 hu)) opd_in ha hb hm
theorem dt_notin (hu : X.A.units + 64 < cLine) (ha : DE X W a ta) (hb : DE X W b tb) (hm : behindInMarks .NotIn b = false := by with_unfolding_all rfl) : DT X W (.Compare a [.NotIn] [b] pos) (dB (dOp (rInD true) ta tb)) := dt_cmp (op_notInV (hu1 hu)) opd_in ha hb hm
/-! ### argument lists -/
def dNil : DTA := fun E _ G Q => Q [] G
def dCons (t : DTE) (u : DTA) : DTA := fun E δ G Q => t E δ G fun d G1 => u E δ G1 fun ds G2 => Q (d :: ds) G2
/-- a list or a tuple, read -/
def asS (G : DHp) (d : D) : Option (List D) := (asR G d).or (asT d)
theorem asS_sq {K : Frag} {G : DHp} {H : Hp} (hr : HR K G H) {d : D} {v : V} {xs : List D} (r : RD K G H d v) (e : asS G d = some xs) : ∃ a vs, v = .ref a ∧ (SqL K H a vs ∨ SqT K H a vs) ∧ vs.length ≤ sizeLine ∧ RDs K G H xs vs := by
  unfold asS at e
  cases q : asR G d with
  | some ys =>
    rw [q] at e
    cases Option.some.inj e
    obtain ⟨a, vs, e1, e2, e3, e4⟩ := asR_sq hr r q
    exact ⟨a, vs, e1, .inl e2, e3, e4⟩
  | none =>
    rw [q] at e
    obtain ⟨a, vs, e1, e2, e3, e4⟩ := asT_sq r (show asT d = some xs from e)
    exact ⟨a, vs, e1, .inr e2, e3, e4⟩
def dStar (t : DTE) (u : DTA) : DTA := fun E δ G Q => t E δ G fun d G1 => ∃ xs, asS G1 d = some xs ∧ u E δ G1 fun ds G2 => Q (xs ++ ds) G2
theorem da_nil : DA X W [] dNil := da_of (fun _ _ _ _ _ _ _ i h => i _ _ h) pa_nil fun σ H Q δ G r h => h [] H .refl r.hr .nil
theorem da_cons (ha : DE X W e te) (hb : DA X W es t) (hs : starEach (e :: es) X.env = (false, eval e X.env) :: starEach es X.env := by rfl) : DA X W (e :: es) (dCons te t) :=
  da_of (fun E E' δ G Q Q' j i h => ha.mono _ _ _ _ _ _ j (fun d G1 h1 => hb.mono _ _ _ _ _ _ j (fun ds G2 h2 => i _ _ h2) h1) h) (pa_cons ha.pe hb.pa hs) fun σ H Q δ G r h => ha.use DXW.le_refl r h fun d G1 v H1 h1 e1 r1 d1 =>
    hb.use (upW.shift e1) r1 h1 fun ds G2 vs H2 h2 e2 r2 d2 => h2 _ _ (e1.trans e2) r2.hr (.cons (d1.ext e2) d2)
theorem da_star (ha : DE X W e te) (hb : DA X W es t) (hs : starEach (.Starred e p' :: es) X.env = (true, eval e X.env) :: starEach es X.env := by rfl) : DA X W (.Starred e p' :: es) (dStar te t) :=
  da_of (fun E E' δ G Q Q' j i h => ha.mono _ _ _ _ _ _ j (fun d G1 ⟨xs, h0, h1⟩ => ⟨xs, h0, hb.mono _ _ _ _ _ _ j (fun ds G2 h2 => i _ _ h2) h1⟩) h) (StX.pa_star ha.pe hb.pa hs) fun σ H Q δ G r h => ha.use DXW.le_refl r h fun d G1 v H1 h1 e1 r1 d1 => by
    obtain ⟨xs, h0, h1⟩ := h1
    obtain ⟨p, vs, f1, f2, f3, f4⟩ := asS_sq r1.hr d1 h0
    exact ⟨p, vs, f1, f2.symm, hb.use (upW.shift e1) r1 h1 fun ds G2 ws H2 h2 e2 r2 d2 => h2 _ _ (e1.trans e2) r2.hr ((f4.ext e2).append d2)⟩
/-! ### displays -/
def dTup (t : DTA) : DTE := fun E δ G Q => t E δ G fun ds G1 => ds.length ≤ sizeLine ∧ Q (.tup ds) G1
def dLst (m : Bool) (t : DTA) : DTE := fun E δ G Q => t E δ G fun ds G1 => ds.length ≤ sizeLine ∧ mkL m ds G1 Q
theorem de_tup {k} (h : DA X W es t) : DE X W (.Tuple es k pos) (dTup t) := de_of (fun E E' δ G Q Q' j i q => h.mono _ _ _ _ _ _ j (fun ds G1 h1 => ⟨h1.1, i _ _ h1.2⟩) q) (pe_tup h.pa) fun σ H Q δ G r q => h.use DXW.le_refl r q fun ds G1 vs H1 h1 e1 r1 d1 =>
  ⟨by rw [← d1.length]; exact h1.1, fun p hp => h1.2 _ _ (e1.trans (Ext.new hp)) (r1.hr.new hp) (tup_new hp (by rw [← d1.length]; exact h1.1) d1)⟩
theorem de_lst (m : Bool) (h : DA X W es t) : DE X W (.List es pos) (dLst m t) := de_of (fun E E' δ G Q Q' j i q => h.mono _ _ _ _ _ _ j (fun ds G1 h1 => ⟨h1.1, mkL_mono i h1.2⟩) q) (pe_lst h.pa) fun σ H Q δ G r q => h.use DXW.le_refl r q fun ds G1 vs H1 h1 e1 r1 d1 =>
  ⟨by rw [← d1.length]; exact h1.1, fun p hp => mkL_use r1.hr (mkL_mono (fun _ _ q => q.shift e1) h1.2) (by rw [← d1.length]; exact h1.1) d1 hp⟩
/-! ### subscripts -/
/-- x[y] -/
noncomputable def idx (G : DHp) (x y : D) : Option D := match asS G x, y with
  | some xs, .int i => atI xs i
  | _, y => match asDc G x with
    | some (t, ks, xs) => if isKey t y = true then dget ks xs y else none
    | none => none
def rIxD : DR2 := fun x y G Q => (∃ d, idx G x y = some d ∧ Q d G) ∨ ∃ z i c, x = .str z ∧ y = .int i ∧ z.length ≤ sizeLine ∧ atI z.cps.toList i = some c ∧ Q (.str ⟨#[c]⟩) G
def rIxDc : R2 := fun x y H Q => ∃ a v, x = .ref a ∧ L2.DGet H a y (some v) ∧ Q v H
theorem ix_dict (hu : X.A.units + 1 < cLine) : IxR X rIxDc := by
  intro value slice pins s σ H x y v u Q I rx ry h hs
  obtain ⟨a, w, rfl, g, q⟩ := h
  obtain rfl : v = Value.ref a := rx
  exact tail_any (dict_typeIs I g) PySem.F.slot_dict_getitem.lookup (d_getItem hu I g ry fun w' s3 I3 rw' => ⟨w, H, I3, rw', q⟩) hs
theorem atI_get2 {K : Frag} {G : DHp} {H : Hp} {xs : List D} {vs : List V} {i : Int} {d : D} (r : RDs K G H xs vs) (h : atI xs i = some d) : ∃ v, atI vs i = some v ∧ RD K G H d v := by
  unfold atI at h ⊢
  rw [← r.length]
  cases e : ixN xs.length i with
  | none => rw [e] at h; cases h
  | some j =>
    rw [e] at h
    exact r.get h
theorem opd_ix {K : Frag} : OpD K rIxD (fun x y H Q => L2.rIx K x y H Q ∨ rIxDc x y H Q) where
  mono := fun x y G Q Q' i h => by
    rcases h with ⟨d, h1, h2⟩ | ⟨z, j, c, h1, h2, h3, h4, h5⟩
    · exact .inl ⟨d, h1, i _ _ h2⟩
    · exact .inr ⟨z, j, c, h1, h2, h3, h4, i _ _ h5⟩
  link := fun G H x y v w Q hr rx ry h => by
    rcases h with ⟨d, h1, h2⟩ | ⟨z, j, c, h1, h2, h3, h4, h5⟩
    · unfold idx at h1
      split at h1
      · rename_i xs j e
        obtain ⟨a, vs, e1, e2, e3, e4⟩ := asS_sq hr rx e
        obtain ⟨u, f1, f2⟩ := atI_get2 e4 h1
        rcases e2 with e2 | e2
        · exact .inl (.inl ⟨a, vs, j, u, e1, rd_int ry, e2, f1, h2 _ _ .refl hr f2⟩)
        · exact .inl (.inr (.inl ⟨a, vs, j, u, e1, rd_int ry, e2, f1, h2 _ _ .refl hr f2⟩))
      · split at h1
        · rename_i t ks xs e
          split at h1
          · rename_i hk
            obtain ⟨a, o, e1, e2, e3⟩ := dget_sq hr rx ry e hk
            rw [h1] at e3
            obtain ⟨u, eu, ru⟩ := e3
            subst eu
            exact .inr ⟨a, u, e1, e2, h2 _ _ .refl hr ru⟩
          · cases h1
        · cases h1
    · subst h1 h2
      exact .inl (.inr (.inr ⟨z, j, c, rd_str rx, rd_int ry, h3, h4, h5 _ _ .refl hr rd_s⟩))
theorem de_ix (hu : X.A.units + 64 < cLine) (ha : DE X W a ta) (hb : DE X W b tb) (hs : PlainIx b := by exact fun _ _ => rfl) : DE X W (.Subscript a b pos) (dOp rIxD ta tb) :=
  de_of (dOp_mono (K := X.K) opd_ix ha.mono hb.mono) (pe_ix (ix_seq.or (ix_dict (hu1 hu))) ha.pe hb.pe hs) fun σ H Q δ G r h => dOp_link opd_ix ha hb r h
/-! ### slices -/
abbrev DTO := DXW → DSt → DHp → (Option Int → DHp → Prop) → Prop
structure DO' (X : Cx) (W : WX) (e : Option Expr) (t : DTO) : Prop where
  mono : ∀ E E' δ G (Q Q' : Option Int → DHp → Prop), E.le E' → (∀ d G', Q d G' → Q' d G') → t E δ G Q → t E' δ G Q'
  po : PO X e (fun σ H Q => ∃ δ G, Rel X.K δ G σ H ∧ t (upW X.K G H W) δ G fun o G' => ∀ H', Ext G H G' H' → HR X.K G' H' → Q o H')
def dNoP : DTO := fun E _ G Q => Q none G
def dP (t : DTE) : DTO := fun E δ G Q => t E δ G fun d G1 => match d with | .int i => Q (some i) G1 | _ => False
theorem do_none : DO' X W none dNoP := ⟨fun _ _ _ _ _ _ _ i h => i _ _ h, ⟨fun pins s σ H Q I ⟨δ, G, r, h⟩ => po_none.run pins s σ H Q I (h H .refl r.hr)⟩⟩
theorem do_some (h : DE X W e te) : DO' X W (some e) (dP te) := ⟨fun E E' δ G Q Q' j i q => h.mono _ _ _ _ _ _ j (fun d G1 h1 => by
    cases d with
    | int j => exact i _ _ h1
    | _ => exact h1.elim) q, ⟨fun pins s σ H Q I ⟨δ, G, r, q⟩ => (po_some h.pe).run pins s σ H Q I (h.use DXW.le_refl r q fun d G1 v H1 h1 e1 r1 d1 => by
    cases d with
    | int j => exact ⟨j, rd_int d1, h1 H1 e1 r1.hr⟩
    | _ => exact h1.elim)⟩⟩
def cutD (xs : List D) (lo hi : Option Int) : List D := (xs.drop (HT.sIx xs.length 0 lo)).take (HT.sIx xs.length xs.length hi - HT.sIx xs.length 0 lo)
theorem cutD_rd {K : Frag} {G : DHp} {H : Hp} {xs : List D} {vs : List V} {lo hi : Option Int} (r : RDs K G H xs vs) : RDs K G H (cutD xs lo hi) (cutV vs lo hi) := by
  unfold cutD cutV
  rw [r.length]
  exact (r.drop _).take _
def rSlD (m : Bool) (x : D) (lo hi : Option Int) (G : DHp) (Q : DK) : Prop :=
  (∃ xs, asR G x = some xs ∧ mkL m (cutD xs lo hi) G Q) ∨ (∃ xs, asT x = some xs ∧ ((∃ ys, x = .ktp ys) → ¬ (HT.sIx xs.length 0 lo = 0 ∧ HT.sIx xs.length xs.length hi = xs.length)) ∧ Q (.tup (cutD xs lo hi)) G) ∨
    ∃ z, x = .str z ∧ z.length ≤ sizeLine ∧ Q (.str (cutS z lo hi)) G
def dSl (m : Bool) (t : DTE) (u w : DTO) : DTE := fun E δ G Q => t E δ G fun x G1 => u E δ G1 fun lo G2 => w E δ G2 fun hi G3 => rSlD m x lo hi G3 Q
theorem rSlD_mono {m : Bool} {x : D} {lo hi : Option Int} {G : DHp} {Q Q' : DK} (i : ∀ d G', Q d G' → Q' d G') (h : rSlD m x lo hi G Q) : rSlD m x lo hi G Q' := by
  rcases h with ⟨xs, h1, h2⟩ | ⟨xs, h1, h2, h3⟩ | ⟨z, h1, h2, h3⟩
  · exact .inl ⟨xs, h1, mkL_mono i h2⟩
  · exact .inr (.inl ⟨xs, h1, h2, i _ _ h3⟩)
  · exact .inr (.inr ⟨z, h1, h2, i _ _ h3⟩)
theorem de_sl (m : Bool) {lo hi : Option Expr} {u w : DTO} (ha : DE X W a ta) (hl : DO' X W lo u) (hh : DO' X W hi w) : DE X W (.Subscript a (.Slice lo hi none p2) pos) (dSl m ta u w) :=
  de_of (fun E E' δ G Q Q' j i h => ha.mono _ _ _ _ _ _ j (fun x G1 h1 => hl.mono _ _ _ _ _ _ j (fun lo G2 h2 => hh.mono _ _ _ _ _ _ j (fun hi G3 h3 => rSlD_mono i h3) h2) h1) h) (pe_slice (sl_list.or (sl_tupA.or sl_str)) ha.pe hl.po hh.po) fun σ H Q δ G r h => by
    refine ha.use DXW.le_refl r h fun x G1 v H1 h1 e1 r1 d1 => ?_
    refine ⟨δ, G1, r1, hl.mono _ _ _ _ _ _ (upW.shift e1) (fun lo G2 h2 H2 e2 hr2 => ?_) h1⟩
    refine ⟨δ, G2, r1.ext e2 hr2, hh.mono _ _ _ _ _ _ (upW.shift (e1.trans e2)) (fun hi G3 h3 H3 e3 hr3 => ?_) h2⟩
    have d3 := (d1.ext e2).ext e3
    have h4 := rSlD_mono (fun _ _ (q : upE X.K G H Q _ _) => q.shift ((e1.trans e2).trans e3)) h3
    rcases h4 with ⟨xs, k1, k2⟩ | ⟨xs, k1, k2, k3⟩ | ⟨z, k1, k2, k3⟩
    · obtain ⟨p, vs, f1, f2, f3, f4⟩ := asR_sq hr3 d3 k1
      exact .inl ⟨p, vs, f1, f2, fun q hq => mkL_use hr3 k2 (Nat.le_trans (cutV_length _ _ _) f3) (cutD_rd f4) hq⟩
    · obtain ⟨p, vs, f1, f2, f3, f4⟩ := asT_sq d3 k1
      have hl := f4.length
      refine .inr (.inl ⟨p, vs, f1, f2, fun z => ?_, fun z q hq => ?_⟩)
      · have ew : cutD xs lo hi = xs := by
          unfold cutD
          rw [hl, z.1, z.2, List.drop_zero, Nat.sub_zero, ← hl, List.take_length]
        rw [ew] at k3
        cases x with
        | tup ys =>
          cases Option.some.inj k1
          exact k3 _ _ .refl hr3 (f1 ▸ d3)
        | ktp ys =>
          cases Option.some.inj k1
          exact absurd (by rw [hl]; exact z) (k2 ⟨_, rfl⟩)
        | _ => cases k1
      · exact k3 _ _ (Ext.new hq) (hr3.new hq) (tup_new hq (Nat.le_trans (cutV_length _ _ _) f3) (cutD_rd f4))
    · subst k1
      exact .inr (.inr ⟨z, rd_str d3, k2, k3 _ _ .refl hr3 rd_s⟩)
/-! ### x[::-1] -/
def tRevT (K : Frag) (te : TE) : TE := fun σ H Q => te σ H fun x H1 => (∃ a xs, x = .ref a ∧ SqL K H1 a xs ∧ ∀ p, H1 p = none → Q (.ref p) (upd H1 p (.lst xs.reverse))) ∨ ∃ a xs, x = .ref a ∧ SqT K H1 a xs ∧ ∀ p, H1 p = none → Q (.ref p) (upd H1 p (.tup xs.reverse))
theorem pe_revA {e : Expr} {te : TE} {k : Nat} {p1 p2 p3 pos : Pos} (he : PE X e te) : PE X (.Subscript e (.Slice none none (some (.UnaryOp .USub (.Constant (.int 1) k p1) p2)) p3) pos) (tRevT X.K te) := by
  refine ⟨fun pins s σ H Q I h => ?_⟩
  refine Subscript_ (thn (he.run pins s σ H _ I h) fun v s1 ⟨x, H1, I1, r1, q1⟩ => ?_)
  have hst : PO X (some (.UnaryOp .USub (.Constant (.int 1) k p1) p2)) (tPart (tUn (rU fun i => .int (-i)) (tC (.int 1)))) := po_some (pe_un un_neg pe_int)
  refine wpAny_Slice (thn (po_none.run pins s1 σ H1 (fun o H2 => o = none ∧ H2 = H1) I1 ⟨rfl, rfl⟩) fun vl s2 ⟨l, H2, I2, pl, el, e2⟩ => ?_)
  subst el e2
  refine thn (po_none.run pins s2 σ H2 (fun o H3 => o = none ∧ H3 = H2) I2 ⟨rfl, rfl⟩) fun vu s3 ⟨u, H3, I3, pu, eu, e3⟩ => ?_
  subst eu e3
  refine thn (hst.run pins s3 σ H3 (fun o H4 => o = some (-1) ∧ H4 = H3) I3 ⟨1, rfl, -1, rfl, rfl, rfl⟩) fun vs s4 ⟨o, H4, I4, ps, eo, e4⟩ => ?_
  subst eo e4
  have I5 : Inv X pins σ H4 { s4 with heap := s4.heap.push { cls := .type "slice", data := .fields #[vl, vu, vs] } } := I4.kept (t' := s4.toks) fun b ob q => Heap.get?_push_of_some _ q
  cases pl
  cases pu
  rcases q1 with ⟨a, xs, ex, hx, q⟩ | ⟨a, xs, ex, hx, q⟩
  · subst ex
    cases r1
    obtain ⟨its, r, ht, hz⟩ := I5.list hx
    have hlen := r.length
    show wpAny (model X.prog X.w) X.A (subscriptTail e (.Slice none none (some (.UnaryOp .USub (.Constant (.int 1) k p1) p2)) p3) (.ref a) (.ref s4.heap.objs.size)) (EP X pins σ Q) X.xe { s4 with heap := s4.heap.push { cls := .type "slice", data := .fields #[.none, .none, vs] } }
    refine tail_any (ops := [.ref a, .ref s4.heap.objs.size]) ht.isList.typeIs (PySem.slot_list_getitem.lookup) ?_ (by with_unfolding_all rfl)
    refine wpAny_getItem_list_slice ht.isList (Heap.IsSliceOf.new _ .none .none vs) .none .none ps (by decide) ?_ (by rw [List.size_toArray]; omega)
    rw [PySem.W.krv_pick]
    refine ⟨.ref _, _, I5.laid (t' := s4.toks) (o := .lst xs.reverse) (fun b ob q => Heap.get?_push_of_some _ q) (Nat.le_refl _) ?_, rfl, q _ (I5.hok.fresh (Nat.le_refl _))⟩
    exact ⟨by rw [List.length_reverse]; exact hz, _, 0, r.reverse, Heap.get?_push_size _ rfl⟩
  · subst ex
    cases r1
    obtain ⟨its, r, ht, hz⟩ := I5.tuple hx
    have hlen := r.length
    show wpAny (model X.prog X.w) X.A (subscriptTail e (.Slice none none (some (.UnaryOp .USub (.Constant (.int 1) k p1) p2)) p3) (.ref a) (.ref s4.heap.objs.size)) (EP X pins σ Q) X.xe { s4 with heap := s4.heap.push { cls := .type "slice", data := .fields #[.none, .none, vs] } }
    refine tail_any (ops := [.ref a, .ref s4.heap.objs.size]) ht.typeIs (PyProof.Rows.slot_tuple_getitem.lookup) ?_ (by with_unfolding_all rfl)
    refine HT.getItem_tuple_rev ht (Heap.IsSliceOf.new _ .none .none vs) ps ?_ (by rw [List.size_toArray]; omega)
    refine ⟨.ref _, _, I5.laid (t' := s4.toks) (o := .tup xs.reverse) (fun b ob q => Heap.get?_push_of_some _ q) (Nat.le_refl _) ?_, rfl, q _ (I5.hok.fresh (Nat.le_refl _))⟩
    exact ⟨by rw [List.length_reverse]; exact hz, _, r.reverse, IsTup.new _ _⟩
def rRevD (m : Bool) (x : D) (G : DHp) (Q : DK) : Prop := (∃ xs, asR G x = some xs ∧ mkL m xs.reverse G Q) ∨ ∃ xs, asT x = some xs ∧ Q (.tup xs.reverse) G
def dRev (m : Bool) (t : DTE) : DTE := fun E δ G Q => t E δ G fun x G1 => rRevD m x G1 Q
theorem de_rev (m : Bool) {k : Nat} {p1 p2 p3 : Pos} (ha : DE X W a ta) : DE X W (.Subscript a (.Slice none none (some (.UnaryOp .USub (.Constant (.int 1) k p1) p2)) p3) pos) (dRev m ta) :=
  de_of (fun E E' δ G Q Q' j i h => ha.mono _ _ _ _ _ _ j (fun x G1 h1 => h1.imp (fun ⟨xs, h1, h2⟩ => ⟨xs, h1, mkL_mono i h2⟩) (fun ⟨xs, h1, h2⟩ => ⟨xs, h1, i _ _ h2⟩)) h) (pe_revA ha.pe) fun σ H Q δ G r h => by
    refine ha.use DXW.le_refl r h fun x G1 v H1 h1 e1 r1 d1 => ?_
    rcases h1 with ⟨xs, h1, h2⟩ | ⟨xs, h1, h2⟩
    · obtain ⟨p, vs, f1, f2, f3, f4⟩ := asR_sq r1.hr d1 h1
      exact .inl ⟨p, vs, f1, f2, fun q hq => mkL_use r1.hr (mkL_mono (fun _ _ q => q.shift e1) h2) (by rw [List.length_reverse]; exact f3) f4.reverse hq⟩
    · obtain ⟨p, vs, f1, f2, f3, f4⟩ := asT_sq d1 h1
      exact .inr ⟨p, vs, f1, f2, fun q hq => h2 _ _ (e1.trans (Ext.new hq)) (r1.hr.new hq) (tup_new hq (by rw [List.length_reverse]; exact f3) f4.reverse)⟩
end
end DL
set_option Elab.async false
set_option linter.all false
set_option maxRecDepth 100000
set_option maxHeartbeats 4000000
/-! DL5: calls: built-ins, isinstance, methods of built-in types, own defs, attributes. -/
namespace DL
open PySem PySem.Spec PyProof.Rows L2
abbrev DC := List D → DHp → DK → Prop
structure CallD (K : Frag) (rD : DC) (rV : List V → Hp → VK → Prop) : Prop where
  mono : ∀ ds G (Q Q' : DK), (∀ d G', Q d G' → Q' d G') → rD ds G Q → rD ds G Q'
  link : ∀ G H ds vs (Q : VK), HR K G H → RDs K G H ds vs → rD ds G (upE K G H Q) → rV vs H Q
def dCB (r : DC) (t : DTA) : DTE := fun E δ G Q => t E δ G fun ds G1 => r ds G1 Q
theorem CallR.or {X : Cx} {f : Value} {r r' : List V → Hp → VK → Prop} (h : CallR X f r) (h' : CallR X f r') : CallR X f (fun x H Q => r x H Q ∨ r' x H Q) := by
  intro pins s σ H xs us Q I r q
  rcases q with q | q
  · exact h pins s σ H xs us Q I r q
  · exact h' pins s σ H xs us Q I r q
section
variable {X : Cx} {W : WX} {x : Str} {p pos apos : Pos} {e o : Expr} {es : List Expr} {t : DTA} {te to : DTE} {id T : String} {rD : DC} {rV : List V → Hp → VK → Prop}
theorem dCB_mono {K : Frag} (l : CallD K rD rV) (m : MonA t) : MonE (dCB rD t) := fun E E' δ G Q Q' j i h => m _ _ _ _ _ _ j (fun ds G1 h1 => l.mono _ _ _ _ i h1) h
theorem dCB_link (l : CallD X.K rD rV) (ha : DA X W es t) {σ : St} {H : Hp} {Q : VK} {δ : DSt} {G : DHp} (r : Rel X.K δ G σ H) (h : dCB rD t (upW X.K G H W) δ G (upE X.K G H Q)) : tCB rV (liftA X.K W t) σ H Q :=
  ha.use DXW.le_refl r h fun ds G1 vs H1 h1 e1 r1 d1 => l.link _ _ _ _ _ r1.hr d1 (l.mono _ _ _ _ (fun _ _ q => q.shift e1) h1)
theorem de_callB (hc : CallR X (.builtin id) rV) (l : CallD X.K rD rV) (hm : X.mg x = none) (hv : bootBuiltins x = some (.builtin id)) (ha : DA X W (e :: es) t) (hg : Gl X x := by rfl) (hn : x ≠ "__name__" := by decide) (hdb : (x == ("__debug__" : Str)) = false := by decide)
    (he : starEach (e :: es) X.env = (false, eval e X.env) :: starEach es X.env := by rfl) (hpl : (backTo pos (starEach es X.env)).any (·.1) = false := by rfl) : DE X W (.Call (.Name x p) (e :: es) [] pos) (dCB rD t) :=
  de_of (dCB_mono l ha.mono) (pe_callB hc hg hm hv ha.pa hn hdb he hpl) fun σ H Q δ G r h => dCB_link l ha r h
theorem de_callTy (hc : CallR X (.type T) rV) (l : CallD X.K rD rV) (hm : X.mg x = none) (hv : bootBuiltins x = some (.type T)) (ha : DA X W (e :: es) t) (hg : Gl X x := by rfl) (hn : x ≠ "__name__" := by decide) (hdb : (x == ("__debug__" : Str)) = false := by decide)
    (he : starEach (e :: es) X.env = (false, eval e X.env) :: starEach es X.env := by rfl) (hpl : (backTo pos (starEach es X.env)).any (·.1) = false := by rfl) : DE X W (.Call (.Name x p) (e :: es) [] pos) (dCB rD t) :=
  de_of (dCB_mono l ha.mono) (pe_callTy hc hg hm hv ha.pa hn hdb he hpl) fun σ H Q δ G r h => dCB_link l ha r h
end
theorem rds1 {K : Frag} {G : DHp} {H : Hp} {d : D} {vs : List V} (r : RDs K G H [d] vs) : ∃ v, vs = [v] ∧ RD K G H d v := by
  obtain ⟨v, r', e1, e2, e3⟩ := r.cons_inv
  rw [e3.nil_inv] at e1
  exact ⟨v, e1, e2⟩
theorem rds2 {K : Frag} {G : DHp} {H : Hp} {d e : D} {vs : List V} (r : RDs K G H [d, e] vs) : ∃ v w, vs = [v, w] ∧ RD K G H d v ∧ RD K G H e w := by
  obtain ⟨v, r', e1, e2, e3⟩ := r.cons_inv
  obtain ⟨w, e4, e5⟩ := rds1 e3
  rw [e4] at e1
  exact ⟨v, w, e1, e2, e5⟩
theorem rds3 {K : Frag} {G : DHp} {H : Hp} {d e f : D} {vs : List V} (r : RDs K G H [d, e, f] vs) : ∃ v w z, vs = [v, w, z] ∧ RD K G H d v ∧ RD K G H e w ∧ RD K G H f z := by
  obtain ⟨v, r', e1, e2, e3⟩ := r.cons_inv
  obtain ⟨w, z, e4, e5, e6⟩ := rds2 e3
  rw [e4] at e1
  exact ⟨v, w, z, e1, e2, e5, e6⟩
/-! ### len -/
def lenD (G : DHp) (d : D) : Option Nat := match asS G d with
  | some xs => some xs.length
  | none => match asDc G d with
    | some (_, ks, _) => some ks.length
    | none => none
def rLenD : DC := fun ds G Q => match ds with
  | [.str z] => z.length ≤ sizeLine ∧ Q (.int z.length) G
  | [d] => ∃ n : Nat, lenD G d = some n ∧ Q (.int n) G
  | _ => False
def rLenV (K : Frag) : List V → Hp → VK → Prop := fun xs H Q => (∃ x n, xs = [x] ∧ LenV K x H n ∧ Q (.int n) H) ∨ ∃ a, xs = [.ref a] ∧ ((∃ kvs : List (Key × V), Rd H a (.dK kvs) ∧ Q (.int kvs.length) H) ∨ ∃ kvs : List (List Key × V), Rd H a (.dT kvs) ∧ Q (.int kvs.length) H)
/-! ### int, abs, bool, str of an int -/
def rIntD : DC := fun ds G Q => match ds with
  | [.int i] => Q (.int i) G
  | [.bl b] => Q (.int (if b then 1 else 0)) G
  | _ => False
theorem cd_int {K : Frag} : CallD K rIntD (fun xs H Q => (∃ i, xs = [.int i] ∧ Q (.int i) H) ∨ ∃ k, xs = [.bl k] ∧ Q (.int (if k then 1 else 0)) H) where
  mono := fun ds G Q Q' i h => by
    unfold rIntD at h ⊢
    split at h <;> first | exact i _ _ h | exact h.elim
  link := fun G H ds vs Q hr r h => by
    unfold rIntD at h
    split at h
    · obtain ⟨v, e, rd⟩ := rds1 r
      exact .inl ⟨_, by rw [e, rd_int rd], h _ _ .refl hr rd_i⟩
    · obtain ⟨v, e, rd⟩ := rds1 r
      exact .inr ⟨_, by rw [e, rd_bl rd], h _ _ .refl hr rd_i⟩
    · exact h.elim
def rAbsD : DC := fun ds G Q => match ds with
  | [.int i] => Q (.int (i.natAbs : Nat)) G
  | _ => False
theorem cd_abs {K : Frag} : CallD K rAbsD (fun xs H Q => ∃ i, xs = [.int i] ∧ Q (.int (if i < 0 then -i else i)) H) where
  mono := fun ds G Q Q' i h => by
    unfold rAbsD at h ⊢
    split at h <;> first | exact i _ _ h | exact h.elim
  link := fun G H ds vs Q hr r h => by
    unfold rAbsD at h
    split at h
    · rename_i i
      obtain ⟨v, e, rd⟩ := rds1 r
      refine ⟨i, by rw [e, rd_int rd], ?_⟩
      have ei : (if i < 0 then -i else i) = (i.natAbs : Int) := by split <;> omega
      rw [ei]
      exact h _ _ .refl hr rd_i
    · exact h.elim
def rMax2D : DC := fun ds G Q => match ds with
  | [.int i, .int j] => Q (.int (max i j)) G
  | _ => False
def rMin2D : DC := fun ds G Q => match ds with
  | [.int i, .int j] => Q (.int (min i j)) G
  | _ => False
theorem cd_max2 {K : Frag} : CallD K rMax2D (fun xs H Q => ∃ i j, xs = [.int i, .int j] ∧ Q (.int (if j > i then j else i)) H) where
  mono := fun ds G Q Q' i h => by
    unfold rMax2D at h ⊢
    split at h <;> first | exact i _ _ h | exact h.elim
  link := fun G H ds vs Q hr r h => by
    unfold rMax2D at h
    split at h
    · rename_i i j
      obtain ⟨v, w, e, rd, rd2⟩ := rds2 r
      refine ⟨i, j, by rw [e, rd_int rd, rd_int rd2], ?_⟩
      have ei : (if j > i then j else i) = max i j := by split <;> omega
      rw [ei]
      exact h _ _ .refl hr rd_i
    · exact h.elim
theorem cd_min2 {K : Frag} : CallD K rMin2D (fun xs H Q => ∃ i j, xs = [.int i, .int j] ∧ Q (.int (if j < i then j else i)) H) where
  mono := fun ds G Q Q' i h => by
    unfold rMin2D at h ⊢
    split at h <;> first | exact i _ _ h | exact h.elim
  link := fun G H ds vs Q hr r h => by
    unfold rMin2D at h
    split at h
    · rename_i i j
      obtain ⟨v, w, e, rd, rd2⟩ := rds2 r
      refine ⟨i, j, by rw [e, rd_int rd, rd_int rd2], ?_⟩
      have ei : (if j < i then j else i) = min i j := by split <;> omega
      rw [ei]
      exact h _ _ .refl hr rd_i
    · exact h.elim
/-! ### len -/
theorem cd_len {K : Frag} : CallD K rLenD (rLenV K) where
  mono := fun ds G Q Q' i h => by
    unfold rLenD at h ⊢
    split at h
    · exact ⟨h.1, i _ _ h.2⟩
    · obtain ⟨n, h1, h2⟩ := h
      exact ⟨n, h1, i _ _ h2⟩
    · exact h.elim
  link := fun G H ds vs Q hr r h => by
    unfold rLenD at h
    split at h
    · obtain ⟨v, e, rd⟩ := rds1 r
      exact .inl ⟨v, _, e, by rw [rd_str rd]; exact ⟨h.1, rfl⟩, h.2 _ _ .refl hr rd_i⟩
    · rename_i d _
      obtain ⟨v, e, rd⟩ := rds1 r
      obtain ⟨n, h1, h2⟩ := h
      unfold lenD at h1
      split at h1
      · rename_i xs q
        cases Option.some.inj h1
        obtain ⟨a, vs, e1, e2, e3, e4⟩ := asS_sq hr rd q
        refine .inl ⟨v, xs.length, e, ?_, h2 _ _ .refl hr rd_i⟩
        rw [e1, e4.length]
        exact e2.elim (fun h => .inl ⟨_, h, rfl⟩) fun h => .inr ⟨_, h, rfl⟩
      · split at h1
        · rename_i t ks xs q
          cases Option.some.inj h1
          have q2 := h2 _ _ .refl hr rd_i
          have main : ∀ a, v = .ref a → ((t = 0 ∧ ∃ kvs : List (Key × V), Sd H a (.dK kvs) ∧ ks = kvs.map (fun p => keyD p.1) ∧ kvs.length ≤ sizeLine ∧ RDs K G H xs (kvs.map (·.2))) ∨
              t = 1 ∧ ∃ kvs : List (List Key × V), Sd H a (.dT kvs) ∧ ks = kvs.map (fun p => .tup (p.1.map keyD)) ∧ kvs.length ≤ sizeLine ∧ RDs K G H xs (kvs.map (·.2))) → rLenV K vs H Q := by
            intro a ea h
            refine .inr ⟨a, by rw [e, ea], ?_⟩
            rcases h with ⟨_, kvs, f1, f2, _⟩ | ⟨_, kvs, f1, f2, _⟩
            · exact .inl ⟨kvs, f1.rd, by rw [f2, List.length_map] at q2; exact q2⟩
            · exact .inr ⟨kvs, f1.rd, by rw [f2, List.length_map] at q2; exact q2⟩
          cases d with
          | dic t' ks' xs' =>
            have e' := Option.some.inj q
            simp only [Prod.mk.injEq] at e'
            obtain ⟨g1, g2, g3⟩ := e'
            subst g1 g2 g3
            unfold RD at rd
            obtain ⟨a, ea, g, h⟩ := rd
            exact main a ea h
          | ref a =>
            unfold RD at rd
            simp only [asDc] at q
            split at q
            · rename_i t' ks' xs' g
              have e' := Option.some.inj q
              simp only [Prod.mk.injEq] at e'
              obtain ⟨g1, g2, g3⟩ := e'
              subst g1 g2 g3
              rcases hr a _ g with ⟨et, kvs, e2, e3, e4, e5⟩ | ⟨et, kvs, e2, e3, e4, e5⟩
              · exact main a rd (.inl ⟨et, kvs, .inl e2, e3, e4, e5⟩)
              · exact main a rd (.inr ⟨et, kvs, .inl e2, e3, e4, e5⟩)
            · rename_i t' ks' xs' g
              have e' := Option.some.inj q
              simp only [Prod.mk.injEq] at e'
              obtain ⟨g1, g2, g3⟩ := e'
              subst g1 g2 g3
              rcases hr a _ g with ⟨et, ob, kvs, e2, e3, e4, e5⟩ | ⟨et, ob, kvs, e2, e3, e4, e5⟩
              · exact main a rd (.inl ⟨et, kvs, .inr ⟨rfl, ob, e2⟩, e3, e4, e5⟩)
              · exact main a rd (.inr ⟨et, kvs, .inr ⟨rfl, ob, e2⟩, e3, e4, e5⟩)
            · cases q
          | _ => cases q
        · cases h1
    · exact h.elim
/-! ### tuple, list, sum, all, any -/
def rTupleD : DC := fun ds G Q => match ds with
  | [d] => (∃ xs, asR G d = some xs ∧ Q (.tup xs) G) ∨ ∃ xs, asT d = some xs ∧ Q d G
  | _ => False
def rListD (m : Bool) : DC := fun ds G Q => match ds with
  | [d] => ∃ xs, asS G d = some xs ∧ mkL m xs G Q
  | _ => False
def rSumD : DC := fun ds G Q => match ds with
  | [d] => ∃ ns : List Int, asR G d = some (ns.map .int) ∧ Q (.int ns.sum) G
  | _ => False
def rAllD : DC := fun ds G Q => match ds with
  | [d] => ∃ bs : List Bool, asR G d = some (bs.map .bl) ∧ Q (.bl (bs.all id)) G
  | _ => False
def rAnyD : DC := fun ds G Q => match ds with
  | [d] => ∃ bs : List Bool, asR G d = some (bs.map .bl) ∧ Q (.bl (bs.any id)) G
  | _ => False
theorem RDs.bools {K : Frag} {G : DHp} {H : Hp} : ∀ {ns : List Bool} {vs : List V}, RDs K G H (ns.map D.bl) vs → vs = ns.map V.bl
  | [], _, h => h.nil_inv
  | n :: ns, vs, h => by
    obtain ⟨v, r, e1, e2, e3⟩ := RDs.cons_inv (x := .bl n) (xs := ns.map D.bl) h
    rw [e1, rd_bl e2, RDs.bools e3]
    rfl
theorem cd_tuple {K : Frag} : CallD K rTupleD (fun xs H Q => ∃ p ys, xs = [.ref p] ∧ ((SqL K H p ys ∧ ∀ l, H l = none → Q (.ref l) (upd H l (.tup ys))) ∨ (SqT K H p ys ∧ Q (.ref p) H))) where
  mono := fun ds G Q Q' i h => by
    unfold rTupleD at h ⊢
    split at h
    · exact h.imp (fun ⟨xs, h1, h2⟩ => ⟨xs, h1, i _ _ h2⟩) fun ⟨xs, h1, h2⟩ => ⟨xs, h1, i _ _ h2⟩
    · exact h.elim
  link := fun G H ds vs Q hr r h => by
    unfold rTupleD at h
    split at h
    · obtain ⟨v, e, rd⟩ := rds1 r
      rcases h with ⟨xs, h1, h2⟩ | ⟨xs, h1, h2⟩
      · obtain ⟨a, ws, e1, e2, e3, e4⟩ := asR_sq hr rd h1
        exact ⟨a, ws, by rw [e, e1], .inl ⟨e2, fun l hl => h2 _ _ (Ext.new hl) (hr.new hl) (tup_new hl e3 e4)⟩⟩
      · obtain ⟨a, ws, e1, e2, e3, e4⟩ := asT_sq rd h1
        exact ⟨a, ws, by rw [e, e1], .inr ⟨e2, h2 _ _ .refl hr (e1 ▸ rd)⟩⟩
    · exact h.elim
theorem cd_list {K : Frag} {m : Bool} : CallD K (rListD m) (fun xs H Q => ∃ p ys, xs = [.ref p] ∧ (SqL K H p ys ∨ SqT K H p ys) ∧ ∀ l, H l = none → Q (.ref l) (upd H l (.lst ys))) where
  mono := fun ds G Q Q' i h => by
    unfold rListD at h ⊢
    split at h
    · obtain ⟨xs, h1, h2⟩ := h
      exact ⟨xs, h1, mkL_mono i h2⟩
    · exact h.elim
  link := fun G H ds vs Q hr r h => by
    unfold rListD at h
    split at h
    · obtain ⟨v, e, rd⟩ := rds1 r
      obtain ⟨xs, h1, h2⟩ := h
      obtain ⟨a, ws, e1, e2, e3, e4⟩ := asS_sq hr rd h1
      exact ⟨a, ws, by rw [e, e1], e2, fun l hl => mkL_use hr h2 e3 e4 hl⟩
    · exact h.elim
theorem cd_sum {K : Frag} : CallD K rSumD (rSum K) where
  mono := fun ds G Q Q' i h => by
    unfold rSumD at h ⊢
    split at h
    · obtain ⟨xs, h1, h2⟩ := h
      exact ⟨xs, h1, i _ _ h2⟩
    · exact h.elim
  link := fun G H ds vs Q hr r h => by
    unfold rSumD at h
    split at h
    · obtain ⟨v, e, rd⟩ := rds1 r
      obtain ⟨ns, h1, h2⟩ := h
      obtain ⟨a, ws, e1, e2, e3, e4⟩ := asR_sq hr rd h1
      exact ⟨a, ns, by rw [e, e1], by rw [← e4.ints_inv]; exact e2, h2 _ _ .refl hr rd_i⟩
    · exact h.elim
theorem cd_all {K : Frag} : CallD K rAllD (rAll K) where
  mono := fun ds G Q Q' i h => by
    unfold rAllD at h ⊢
    split at h
    · obtain ⟨xs, h1, h2⟩ := h
      exact ⟨xs, h1, i _ _ h2⟩
    · exact h.elim
  link := fun G H ds vs Q hr r h => by
    unfold rAllD at h
    split at h
    · obtain ⟨v, e, rd⟩ := rds1 r
      obtain ⟨ns, h1, h2⟩ := h
      obtain ⟨a, ws, e1, e2, e3, e4⟩ := asR_sq hr rd h1
      exact ⟨a, ns, by rw [e, e1], by rw [← e4.bools]; exact e2, h2 _ _ .refl hr rd_b⟩
    · exact h.elim
theorem cd_any {K : Frag} : CallD K rAnyD (rAny K) where
  mono := fun ds G Q Q' i h => by
    unfold rAnyD at h ⊢
    split at h
    · obtain ⟨xs, h1, h2⟩ := h
      exact ⟨xs, h1, i _ _ h2⟩
    · exact h.elim
  link := fun G H ds vs Q hr r h => by
    unfold rAnyD at h
    split at h
    · obtain ⟨v, e, rd⟩ := rds1 r
      obtain ⟨ns, h1, h2⟩ := h
      obtain ⟨a, ws, e1, e2, e3, e4⟩ := asR_sq hr rd h1
      exact ⟨a, ns, by rw [e, e1], by rw [← e4.bools]; exact e2, h2 _ _ .refl hr rd_b⟩
    · exact h.elim
/-! ### isinstance against built-in classes -/
/-- the built-in class of a datum -/
def btyp (G : DHp) : D → Option String
  | .non => some "NoneType"
  | .bl _ => some "bool"
  | .int _ => some "int"
  | .str _ => some "str"
  | .tup _ | .ktp _ => some "tuple"
  | .lst _ | .fz _ => some "list"
  | .dic 0 _ _ => some "dict"
  | .ref a => match G a with
    | some (.lst _) => some "list"
    | some (.dic _ _ _) => some "dict"
    | some (.ldc 0 _ _) => some "dict"
    | _ => none
  | _ => none
def bsub (t c : String) : Bool := t == c || (t == "bool" && c == "int")
def btyps : List String := ["NoneType", "bool", "int", "str", "tuple", "list", "dict"]
theorem bsub_ok : (btyps.all fun t => btyps.all fun c => c == "NoneType" || kitB t c == some (bsub t c)) = true := by decide +kernel
theorem bsub_kit {t c : String} (ht : t ∈ btyps) (hc : c ∈ btyps) (hn : c ≠ "NoneType") {K : Frag} : PySem.W.kitOne K (.type t) (.type c) = some (bsub t c) := by
  have h := List.all_eq_true.mp (List.all_eq_true.mp bsub_ok t ht) c hc
  rw [Bool.or_eq_true] at h
  rcases h with h | h
  · exact absurd (beq_iff_eq.mp h) hn
  · exact kit_ty (beq_iff_eq.mp h)
theorem btyp_ty {K : Frag} {G : DHp} {H : Hp} (hr : HR K G H) {d : D} {v : V} {t : String} (r : RD K G H d v) (h : btyp G d = some t) : t ∈ btyps ∧ TyX K H v (.type t) := by
  cases d with
  | non => cases Option.some.inj h; unfold RD at r; subst r; exact ⟨by decide, .base .non⟩
  | bl b => cases Option.some.inj h; unfold RD at r; subst r; exact ⟨by decide, .base (.bl b)⟩
  | int b => cases Option.some.inj h; unfold RD at r; subst r; exact ⟨by decide, .base (.int b)⟩
  | str b => cases Option.some.inj h; unfold RD at r; subst r; exact ⟨by decide, .base (.str b)⟩
  | tup xs => cases Option.some.inj h; obtain ⟨a, vs, e1, e2, _⟩ := rd_tup r; subst e1; exact ⟨by decide, .base (.tup e2)⟩
  | ktp xs => cases Option.some.inj h; unfold RD at r; obtain ⟨a, vs, e1, ⟨o, its, n, q1, q2, _⟩, _⟩ := r; subst e1; exact ⟨by decide, .kTuple q1 q2⟩
  | lst xs => cases Option.some.inj h; unfold RD at r; obtain ⟨a, vs, e1, g, e2, _⟩ := r; subst e1; exact ⟨by decide, .base (.lst e2)⟩
  | fz xs =>
    cases Option.some.inj h
    unfold RD at r
    obtain ⟨a, vs, e1, q, _⟩ := r
    subst e1
    rcases q with ⟨o, q⟩ | ⟨o, its, n, q1, q2, _⟩
    · exact ⟨by decide, .base (.frz q)⟩
    · exact ⟨by decide, .kList q1 q2⟩
  | dic n ks xs =>
    cases n with
    | zero =>
      cases Option.some.inj h
      unfold RD at r
      obtain ⟨a, e1, g, q⟩ := r
      subst e1
      rcases q with ⟨_, kvs, q, _⟩ | ⟨q, _⟩
      · rcases q with q | ⟨_, o, q⟩
        · exact ⟨by decide, .base (.dK q)⟩
        · exact ⟨by decide, .fDict q⟩
      · cases q
    | succ n => cases h
  | ref a =>
    unfold RD at r
    subst r
    simp only [btyp] at h
    split at h
    · rename_i xs g
      cases Option.some.inj h
      obtain ⟨vs, e1, _⟩ := hr a _ g
      exact ⟨by decide, .base (.lst e1)⟩
    · rename_i n ks xs g
      cases Option.some.inj h
      rcases hr a _ g with ⟨_, kvs, e2, _⟩ | ⟨_, kvs, e2, _⟩
      · exact ⟨by decide, .base (.dK e2)⟩
      · exact ⟨by decide, .base (.dT e2)⟩
    · rename_i ks xs g
      cases Option.some.inj h
      rcases hr a _ g with ⟨_, ob, kvs, e2, _⟩ | ⟨q, _⟩
      · exact ⟨by decide, .fDict e2⟩
      · cases q
    · cases h
  | _ => cases h
/-- classes that are asked for -/
def isCls : D → Bool
  | .ty n => btyps.contains n && n != "NoneType"
  | _ => false
def isiB (t : String) : D → Bool
  | .ty n => bsub t n
  | _ => false
def rIsiD : DC := fun ds G Q => match ds with
  | [d, .ty n] => ∃ t, btyp G d = some t ∧ isCls (.ty n) = true ∧ Q (.bl (bsub t n)) G
  | [d, .tup cs] => ∃ t, btyp G d = some t ∧ cs.all isCls = true ∧ Q (.bl (cs.any (isiB t))) G
  | _ => False
theorem isCls_of {d : D} (h : isCls d = true) : ∃ n, d = .ty n ∧ n ∈ btyps ∧ n ≠ "NoneType" := by
  cases d with
  | ty n =>
    have h' : (btyps.contains n && n != "NoneType") = true := h
    rw [Bool.and_eq_true] at h'
    exact ⟨n, rfl, by simpa using h'.1, by simpa using h'.2⟩
  | _ => cases h
theorem isi_all {K : Frag} {G : DHp} {H : Hp} {t : String} (ht : t ∈ btyps) : ∀ {cs : List D} {vs : List V}, RDs K G H cs vs → cs.all isCls = true → ∃ us, Paired ClsV vs us ∧ PySem.W.kitAny K (.type t) us = some (cs.any (isiB t))
  | [], vs, r, _ => by
    rw [r.nil_inv]
    exact ⟨[], .nil, rfl⟩
  | c :: cs, vs, r, h => by
    rw [List.all_cons, Bool.and_eq_true] at h
    obtain ⟨n, e, h1, h2⟩ := isCls_of h.1
    obtain ⟨v, r', e1, e2, e3⟩ := r.cons_inv
    obtain ⟨us, p, k⟩ := isi_all ht e3 h.2
    subst e
    unfold RD at e2
    subst e2 e1
    refine ⟨.type n :: us, .cons (.ty n) p, ?_⟩
    have q := bsub_kit ht h1 h2 (K := K)
    rw [List.any_cons]
    show PySem.W.kitAny K (.type t) (.type n :: us) = some (bsub t n || cs.any (isiB t))
    exact kitAny_cons q (fun z => by rw [z, Bool.false_or]; exact k) (fun z => by rw [z, Bool.true_or])
theorem cd_isi {K : Frag} : CallD K rIsiD (fun xs H Q => rIsi K xs H Q ∨ rIsiT K xs H Q) where
  mono := fun ds G Q Q' i h => by
    unfold rIsiD at h ⊢
    split at h
    · obtain ⟨t, h1, h2, h3⟩ := h
      exact ⟨t, h1, h2, i _ _ h3⟩
    · obtain ⟨t, h1, h2, h3⟩ := h
      exact ⟨t, h1, h2, i _ _ h3⟩
    · exact h.elim
  link := fun G H ds vs Q hr r h => by
    unfold rIsiD at h
    split at h
    · obtain ⟨t, h1, h2, h3⟩ := h
      obtain ⟨v, w, e, rd, rd2⟩ := rds2 r
      obtain ⟨ht, ty⟩ := btyp_ty hr rd h1
      obtain ⟨n', e', m1, m2⟩ := isCls_of h2
      cases e'
      unfold RD at rd2
      exact .inl ⟨v, .ty _, _, _, _, by rw [e, rd2], .ty _, ty, bsub_kit ht m1 m2, h3 _ _ .refl hr rd_b⟩
    · obtain ⟨t, h1, h2, h3⟩ := h
      obtain ⟨v, w, e, rd, rd2⟩ := rds2 r
      obtain ⟨ht, ty⟩ := btyp_ty hr rd h1
      obtain ⟨a, ws, e1, e2, e3, e4⟩ := rd_tup rd2
      obtain ⟨us, p, k⟩ := isi_all ht e4 h2
      exact .inr ⟨v, a, ws, _, us, _, by rw [e, e1], e2, p, ty, k, h3 _ _ .refl hr rd_b⟩
    · exact h.elim
end DL
set_option Elab.async false
set_option linter.all false
set_option maxRecDepth 100000
set_option maxHeartbeats 4000000
/-! DL6: len as a rule, methods of built-in types, attributes, calls of own defs. -/
namespace DL
open PySem PySem.Spec PyProof.Rows L2
section
variable {X : Cx} {W : WX} {x : Str} {p pos apos : Pos} {e o : Expr} {es : List Expr} {t : DTA} {te to : DTE} {id T : String}
theorem call_lenV : CallR X (.builtin "len") (rLenV X.K) := by
  intro pins s σ H xs us Q I r h
  rcases h with h | ⟨a, rfl, ⟨kvs, ha, q⟩ | ⟨kvs, ha, q⟩⟩
  · exact call_len pins s σ H xs us Q I r h
  · obtain ⟨u, rfl, ru⟩ := vals1 r
    cases ru
    exact d_len I ha fun t s' I' => ⟨.int kvs.length, H, I', ⟨t, rfl⟩, q⟩
  · obtain ⟨u, rfl, rx⟩ := vals1 r
    obtain rfl : u = .ref a := rx
    obtain ⟨z, hd, ys, rel, dd⟩ := dt_rd I.hok ha
    have hl : kvs.length = ys.length := Paired.length rel
    refine call_len_dictH hd dd (by rw [← hl]; rw [sizeLine_eq] at z; omega) ?_
    rw [← hl]
    exact ⟨.int ((kvs.length : Nat) : Int), H, I.tok _, ⟨_, rfl⟩, q⟩
/-! ### methods of built-in types -/
abbrev DM := D → List D → DHp → DK → Prop
def tyD (T : String) (G : DHp) (d : D) : Prop := match T with
  | "list" => ∃ xs, asR G d = some xs
  | "str" => ∃ z, d = .str z
  | "dict" => ∃ a t ks xs, d = .ref a ∧ G a = some (.dic t ks xs)
  | _ => False
theorem tyD_ty {K : Frag} {G : DHp} {H : Hp} (hr : HR K G H) {d : D} {v : V} (r : RD K G H d v) (h : tyD T G d) : tyV K T v H := by
  unfold tyD at h
  split at h
  · obtain ⟨xs, h⟩ := h
    obtain ⟨a, vs, e1, e2, _⟩ := asR_sq hr r h
    subst e1
    exact .inl ⟨rfl, vs, e2⟩
  · obtain ⟨z, h⟩ := h
    subst h
    rw [rd_str r]
    exact rfl
  · obtain ⟨a, t, ks, xs, h, g⟩ := h
    subst h
    rw [rd_ref r]
    rcases hr a _ g with ⟨_, kvs, e2, _⟩ | ⟨_, kvs, e2, _⟩
    · exact .inr (.inr (.inl ⟨rfl, .inl ⟨kvs, e2⟩⟩))
    · exact .inr (.inr (.inl ⟨rfl, .inr ⟨kvs, e2⟩⟩))
  · exact h.elim
structure MethD (K : Frag) (rD : DM) (rV : V → List V → Hp → VK → Prop) : Prop where
  mono : ∀ d ds G (Q Q' : DK), (∀ d G', Q d G' → Q' d G') → rD d ds G Q → rD d ds G Q'
  link : ∀ G H d ds v vs (Q : VK), HR K G H → RD K G H d v → RDs K G H ds vs → rD d ds G (upE K G H Q) → rV v vs H Q
def dBM0 (T : String) (r : DM) (to : DTE) : DTE := fun E δ G Q => to E δ G fun d G1 => tyD T G1 d ∧ r d [] G1 Q
def dBM (T : String) (r : DM) (to : DTE) (t : DTA) : DTE := fun E δ G Q => to E δ G fun d G1 => tyD T G1 d ∧ t E δ G1 fun ds G2 => r d ds G2 Q
variable {name : Str} {cpos : Pos} {rD : DM} {rV : V → List V → Hp → VK → Prop}
theorem de_bm0 (pa : PlainAttrs T) (slot : Slot T name id) (hty : typeOf (.builtin id) = pure (.type "method_descriptor")) (hm : MtR X id rV) (l : MethD X.K rD rV) (ho : DE X W o to)
    (hbase : attributeBase o name X.env (eval o X.env) = eval o X.env := by rfl) (hline : (apos.endLine == cpos.line) = true := by rfl) : DE X W (.Call (.Attribute o name apos) [] [] cpos) (dBM0 T rD to) :=
  de_of (fun E E' δ G Q Q' j i h => ho.mono _ _ _ _ _ _ j (fun d G1 h1 => ⟨h1.1, l.mono _ _ _ _ _ i h1.2⟩) h) (pe_bm0 pa slot hty hm ho.pe hbase hline) fun σ H Q δ G r h => ho.use DXW.le_refl r h fun d G1 v H1 h1 e1 r1 d1 =>
    ⟨tyD_ty r1.hr d1 h1.1, l.link _ _ _ _ _ _ _ r1.hr d1 .nil (l.mono _ _ _ _ _ (fun _ _ q => q.shift e1) h1.2)⟩
theorem de_bm (pa : PlainAttrs T) (slot : Slot T name id) (hty : typeOf (.builtin id) = pure (.type "method_descriptor")) (hm : MtR X id rV) (l : MethD X.K rD rV) (ho : DE X W o to) (ha : DA X W (e :: es) t)
    (hbase : attributeBase o name X.env (eval o X.env) = eval o X.env := by rfl)
    (hfew : ((backTo cpos (starEach (e :: es) X.env)).all (fun x => !x.1) && (backToKw cpos (keywordEach [] X.env)).all (fun x => x.1.isSome)
      && decide ((e :: es).length + ([] : List Keyword).length + (if ([] : List Keyword).isEmpty then 0 else 1) < 30)) = true := by rfl)
    (hline : (apos.endLine == cpos.line) = true := by rfl) (hs : starEach (e :: es) X.env = (false, eval e X.env) :: starEach es X.env := by rfl) (hplain : (backTo cpos (starEach es X.env)).any (·.1) = false := by rfl) :
    DE X W (.Call (.Attribute o name apos) (e :: es) [] cpos) (dBM T rD to t) :=
  de_of (fun E E' δ G Q Q' j i h => ho.mono _ _ _ _ _ _ j (fun d G1 h1 => ⟨h1.1, ha.mono _ _ _ _ _ _ j (fun ds G2 h2 => l.mono _ _ _ _ _ i h2) h1.2⟩) h) (pe_bm pa slot hty hm ho.pe ha.pa hbase hfew hline hs hplain)
    fun σ H Q δ G r h => ho.use DXW.le_refl r h fun d G1 v H1 h1 e1 r1 d1 => ⟨tyD_ty r1.hr d1 h1.1, ha.use (upW.shift e1) r1 h1.2 fun ds G2 vs H2 h2 e2 r2 d2 =>
      l.link _ _ _ _ _ _ _ r2.hr (d1.ext e2) d2 (l.mono _ _ _ _ _ (fun _ _ q => q.shift (e1.trans e2)) h2)⟩
end
/-- a list that may be changed -/
theorem upE_put {K : Frag} {G : DHp} {H : Hp} {Q : VK} {d : D} {v : V} {a : Addr} {ys : List D} {xs : List D} {vs : List V} (hr : HR K G H) (hg : G a = some (.lst ys)) (hl : vs.length ≤ sizeLine) (r : RDs K G H xs vs)
    (rd : RD K G H d v) (h : upE K G H Q d (updD G a (.lst xs))) : Q v (upd H a (.lst vs)) :=
  h _ _ (Ext.put hr hg) (hr.put hg rfl ⟨vs, upd_same, hl, r.ext (Ext.put hr hg)⟩) (rd.ext (Ext.put hr hg))
def rAppendD : DM := fun d ds G Q => match d, ds with
  | .ref a, [y] => ∃ xs, G a = some (.lst xs) ∧ xs.length < sizeLine ∧ Q .non (updD G a (.lst (xs ++ [y])))
  | _, _ => False
theorem md_append {K : Frag} : MethD K rAppendD rAppend where
  mono := fun d ds G Q Q' i h => by
    unfold rAppendD at h ⊢
    split at h
    · obtain ⟨xs, h1, h2, h3⟩ := h
      exact ⟨xs, h1, h2, i _ _ h3⟩
    · exact h.elim
  link := fun G H d ds v vs Q hr rd rs h => by
    unfold rAppendD at h
    split at h
    · obtain ⟨xs, h1, h2, h3⟩ := h
      obtain ⟨w, e, rw'⟩ := rds1 rs
      obtain ⟨us, e1, e2, e3⟩ := hr _ _ h1
      have hl := e3.length
      exact ⟨_, us, w, rd_ref rd, e, e1, by omega, upE_put hr h1 (by rw [List.length_append, List.length_singleton]; omega) (e3.append (.cons rw' .nil)) rd_n h3⟩
    · exact h.elim
/-- extend by a list that stands -/
def rExtendD : DM := fun d ds G Q => match d, ds with
  | .ref a, [y] => ∃ xs ys, G a = some (.lst xs) ∧ asL G y = some ys ∧ xs.length + ys.length ≤ sizeLine ∧ Q .non (updD G a (.lst (xs ++ ys)))
  | _, _ => False
theorem md_extend {K : Frag} : MethD K rExtendD rExtend where
  mono := fun d ds G Q Q' i h => by
    unfold rExtendD at h ⊢
    split at h
    · obtain ⟨xs, ys, h1, h2, h3, h4⟩ := h
      exact ⟨xs, ys, h1, h2, h3, i _ _ h4⟩
    · exact h.elim
  link := fun G H d ds v vs Q hr rd rs h => by
    unfold rExtendD at h
    split at h
    · obtain ⟨xs, ys, h1, h2, h3, h4⟩ := h
      obtain ⟨w, e, rw'⟩ := rds1 rs
      obtain ⟨us, e1, e2, e3⟩ := hr _ _ h1
      obtain ⟨b, ws, f1, f2, f3, f4⟩ := asL_sq hr rw' h2
      have hl := e3.length
      have hl2 := f4.length
      exact ⟨_, b, us, ws, rd_ref rd, by rw [e, f1], e1, f2, by omega, upE_put hr h1 (by rw [List.length_append]; omega) (e3.append f4) rd_n h4⟩
    · exact h.elim
def rPopD : DM := fun d ds G Q => match d, ds with
  | .ref a, [] => ∃ xs y, G a = some (.lst (xs ++ [y])) ∧ Q y (updD G a (.lst xs))
  | _, _ => False
theorem RDs.append_inv {K : Frag} {G : DHp} {H : Hp} : ∀ {xs ys : List D} {vs : List V}, RDs K G H (xs ++ ys) vs → ∃ us ws, vs = us ++ ws ∧ RDs K G H xs us ∧ RDs K G H ys ws
  | [], ys, vs, h => ⟨[], vs, rfl, .nil, h⟩
  | x :: xs, ys, vs, h => by
    obtain ⟨v, r, e1, e2, e3⟩ := RDs.cons_inv (x := x) (xs := xs ++ ys) h
    obtain ⟨us, ws, e4, e5, e6⟩ := RDs.append_inv e3
    exact ⟨v :: us, ws, by rw [e1, e4]; rfl, .cons e2 e5, e6⟩
theorem md_pop {K : Frag} : MethD K rPopD rPop where
  mono := fun d ds G Q Q' i h => by
    unfold rPopD at h ⊢
    split at h
    · obtain ⟨xs, ys, h1, h4⟩ := h
      exact ⟨xs, ys, h1, i _ _ h4⟩
    · exact h.elim
  link := fun G H d ds v vs Q hr rd rs h => by
    unfold rPopD at h
    split at h
    · obtain ⟨xs, y, h1, h4⟩ := h
      obtain ⟨us, e1, e2, e3⟩ := hr _ _ h1
      obtain ⟨us', ws, f1, f2, f3⟩ := e3.append_inv
      obtain ⟨w, f4, f5⟩ := rds1 f3
      subst f4 f1
      rw [List.length_append, List.length_singleton] at e2
      refine ⟨_, us' ++ [w], w, rd_ref rd, rs.nil_inv, e1, by simp, ?_⟩
      rw [List.dropLast_concat]
      exact upE_put hr h1 (by omega) f2 f5 h4
    · exact h.elim
/-! ### attributes of own instances -/
/-- a class of one's own, by its name -/
structure ClsF (K : Frag) (C : Str) : Prop where
  cl : Cls K (He.ga K C)
/-- its attribute is no class's -/
def NoA (K : Frag) (C f : Str) : Prop := NoAttr K (He.ga K C) f
def lookD (ns : List Str) (xs : List D) (f : Str) : Option D := (ns.zip xs).lookup f
theorem lookD_rd {K : Frag} {G : DHp} {H : Hp} {f : Str} {d : D} : ∀ {fvs : List (Str × V)} {xs : List D}, RDs K G H xs (fvs.map (·.2)) → lookD (fvs.map (·.1)) xs f = some d → ∃ v, fvs.lookup f = some v ∧ RD K G H d v
  | [], xs, r, h => by simp [lookD] at h
  | (n, v) :: fvs, xs, r, h => by
    cases xs with
    | nil => simp [lookD] at h
    | cons x xs =>
      obtain ⟨v', r', e1, e2, e3⟩ := r.cons_inv
      rw [List.map_cons] at e1
      injection e1 with e1 e4
      subst e1 e4
      unfold lookD at h
      rw [List.map_cons, List.zip_cons_cons, List.lookup_cons] at h
      rw [List.lookup_cons]
      cases c : (f == n) with
      | true =>
        rw [c] at h
        cases Option.some.inj h
        exact ⟨v, rfl, e2⟩
      | false =>
        rw [c] at h
        exact lookD_rd e3 h
/-- an instance as it is now -/
def asI (G : DHp) : D → Option (Str × List Str × List D)
  | .ins C ns xs => some (C, ns, xs)
  | .ref a => match G a with
    | some (.ins C ns xs) => some (C, ns, xs)
    | _ => none
  | _ => none
def dFld (Cs : List Str) (te : DTE) (f : Str) : DTE := fun E δ G Q => te E δ G fun d G1 => ∃ C ns xs v, asI G1 d = some (C, ns, xs) ∧ C ∈ Cs ∧ lookD ns xs f = some v ∧ Q v G1
theorem asI_sq {K : Frag} {G : DHp} {H : Hp} (hr : HR K G H) {d : D} {v : V} {C : Str} {ns : List Str} {xs : List D} (r : RD K G H d v) (e : asI G d = some (C, ns, xs)) : ∃ a dx fvs, v = .ref a ∧ H a = some (.ins (He.ga K C) dx fvs) ∧ fvs.map (·.1) = ns ∧ RDs K G H xs (fvs.map (·.2)) := by
  cases d with
  | ins C' ns' xs' =>
    have e' := Option.some.inj e
    simp only [Prod.mk.injEq] at e'
    obtain ⟨g1, g2, g3⟩ := e'
    subst g1 g2 g3
    unfold RD at r
    obtain ⟨a, dx, fvs, e1, g, e2, e3, e4⟩ := r
    exact ⟨a, dx, fvs, e1, e2.ex rfl, e3, e4⟩
  | ref a =>
    unfold RD at r
    simp only [asI] at e
    split at e
    · rename_i C' ns' xs' g
      have e' := Option.some.inj e
      simp only [Prod.mk.injEq] at e'
      obtain ⟨g1, g2, g3⟩ := e'
      subst g1 g2 g3
      obtain ⟨dx, fvs, e1, e2, e3⟩ := hr a _ g
      exact ⟨a, dx, fvs, r, e1, e2, e3⟩
    · cases e
  | _ => cases e
section
variable {X : Cx} {W : WX} {e : Expr} {te : DTE} {f : Str} {pos : Pos} {Cs : List Str}
/-- e.f, e an instance of one of the classes Cs -/
theorem de_fld (hc : ∀ C ∈ Cs, ClsF X.K C ∧ NoA X.K C f) (he : DE X W e te) (hb : attributeBase e f X.env (eval e X.env) = eval e X.env := by rfl) : DE X W (.Attribute e f pos) (dFld Cs te f) :=
  de_of (fun E E' δ G Q Q' j i h => he.mono _ _ _ _ _ _ j (fun d G1 ⟨C, ns, xs, v, h1, h2, h3, h4⟩ => ⟨C, ns, xs, v, h1, h2, h3, i _ _ h4⟩) h) (pe_fld he.pe hb) fun σ H Q δ G r h => he.use DXW.le_refl r h fun d G1 v H1 h1 e1 r1 d1 => by
    obtain ⟨C, ns, xs, w, h1, h2, h3, h4⟩ := h1
    obtain ⟨a, dx, fvs, f1, f2, f3, f4⟩ := asI_sq r1.hr d1 h1
    subst f3
    obtain ⟨u, g1, g2⟩ := lookD_rd f4 h3
    exact ⟨a, _, dx, fvs, u, f1, f2, (hc C h2).1.cl, (hc C h2).2, g1, h4 _ _ e1 r1.hr g2⟩
end
/-! ### what a def promises, over data -/
abbrev DXK := Str → List (Str × D) → DHp → Prop
abbrev Pro := List D → DHp → DK → DXK → Prop
def upX (K : Frag) (G : DHp) (H : Hp) (E : XK) : DXK := fun C fs G' => ∀ d H', Ext G H G' H' → HR K G' H' → Xd K G' H' d fs → E (.ref (He.ga K C)) (some d) H'
def liftSp (K : Frag) (sd : Pro) : Sp := fun vs H Q E => ∃ ds G, RDs K G H ds vs ∧ HR K G H ∧ sd ds G (upE K G H Q) (upX K G H E)
structure SdOk (n : Nat) (sd : Pro) : Prop where
  len : ∀ ds G Q E, sd ds G Q E → ds.length = n
  mono : ∀ ds G Q Q' E E', (∀ d G', Q d G' → Q' d G') → (∀ C fs G', E C fs G' → E' C fs G') → sd ds G Q E → sd ds G Q' E'
/-- a keyword call's order: for each parameter its place among the positional values and then the keywords' -/
def pick {α : Type} (ord : List Nat) (us : List α) : List α := ord.filterMap (us[·]?)
/-- what is known of a global def: its promise, its keyword calls -/
structure Df (P : Program) (w : World) (K : Frag) (mg : Str → Option Value) (base : Heap) (k : Nat) (x : Str) (ps : List Str) (kwp : List (Nat × List Str × List Nat)) (sd : Pro) : Prop where
  sdok : SdOk ps.length sd
  ex : ∃ f fd, mg x = some (.ref f) ∧ PySem.W.keepIn K (.ref f) = true ∧ Binds K fd ps [] ∧ FnOk P w K mg base (L2.CX P w) k f fd ps (liftSp K sd) ∧
    ∀ q ∈ kwp, KBn K fd ps q.1 q.2.1 (fun us ws => pick q.2.2 (us ++ ws)) (fun us ws => pick q.2.2 (us ++ ws))
abbrev DfX (X : Cx) := Df X.prog X.w X.K X.mg X.base
section
variable {X : Cx} {W : WX} {x : Str} {p pos : Pos} {e : Expr} {es : List Expr} {t : DTA} {k : Nat} {ps : List Str} {kwp : List (Nat × List Str × List Nat)} {sd : Pro}
/-- f(..) -/
def dCall (sd : Pro) (t : DTA) : DTE := fun E δ G Q => t E δ G fun ds G1 => sd ds G1 Q fun C fs G2 => E C fs δ G2
theorem dCall_mono (s : SdOk ps.length sd) (m : MonA t) : MonE (dCall sd t) := fun E E' δ G Q Q' j i h => m _ _ _ _ _ _ j (fun ds G1 h1 => s.mono _ _ _ _ _ _ i (fun C fs G' q => j _ _ _ _ q) h1) h
theorem dCall_sp {E : DXW} {δ : DSt} {σ : St} {G : DHp} {H : Hp} {ds : List D} {vs : List V} {Q : VK} {Qd : DK} (s : SdOk ps.length sd) (r : Rel X.K δ G σ H) (rs : RDs X.K G H ds vs) (h : sd ds G Qd fun C fs G2 => E C fs δ G2)
    (hq : ∀ d G', Qd d G' → upE X.K G H Q d G') (he : E.le (upW X.K G H W)) : liftSp X.K sd vs H Q (WE W σ) :=
  ⟨ds, G, rs, r.hr, s.mono _ _ _ _ _ _ hq (fun C fs G' q d H' e hr xd => he _ _ _ _ q d σ H' e (r.ext e hr) xd) h⟩
theorem de_call (F : DfX X k x ps kwp sd) (tk : Takes X W) (hr : Room k X.A) (ha : DA X W (e :: es) t) (hg : Gl X x := by rfl) (hdb : (x == ("__debug__" : Str)) = false := by decide)
    (he : starEach (e :: es) X.env = (false, eval e X.env) :: starEach es X.env := by rfl) (hpl : (backTo pos (starEach es X.env)).any (·.1) = false := by rfl) : DE X W (.Call (.Name x p) (e :: es) [] pos) (dCall sd t) := by
  obtain ⟨f, fd, h1, h2, h3, h4, h5⟩ := F.ex
  refine de_of (dCall_mono F.sdok ha.mono) (pe_callS h4 hr hg h1 h2 h3 (fun σ => passAt tk σ) ha.pa hdb he hpl) fun σ H Q δ G r h => ha.use DXW.le_refl r h fun ds G1 vs H1 q1 e1 r1 d1 => ?_
  exact dCall_sp F.sdok r1 d1 q1 (fun _ _ q => q.shift e1) (upW.shift e1)
theorem de_call0 (F : DfX X k x ps kwp sd) (tk : Takes X W) (hr : Room k X.A) (hg : Gl X x := by rfl) (hdb : (x == ("__debug__" : Str)) = false := by decide) : DE X W (.Call (.Name x p) [] [] pos) (dCall sd dNil) := by
  obtain ⟨f, fd, h1, h2, h3, h4, h5⟩ := F.ex
  refine ⟨dCall_mono F.sdok (da_nil (X := X) (W := W)).mono, ⟨fun pins s σ H Q I ⟨δ, G, r, h⟩ => ?_⟩⟩
  refine wpAny_Call_Name_kw (ld_glob I hg h1 ?_ hdb)
  exact PySem.W.callWith_K0 I.kIn h2 (run_fnS (E := WE W) (us := []) h4 hr h3 (passAt tk σ) I .nil (dCall_sp F.sdok r .nil h (fun _ _ q => q) DXW.le_refl))
/-- keywords' values, from the left -/
structure DKw (X : Cx) (W : WX) (kws : List Keyword) (t : DTA) : Prop where
  mono : MonA t
  pk : PK X kws (liftA X.K W t)
theorem DKw.use {kws : List Keyword} {t : DTA} (h : DKw X W kws t) {σ : St} {H : Hp} {δ : DSt} {G : DHp} {E : DXW} {Qd : List D → DHp → Prop} {Q : List V → Hp → Prop} (j : E.le (upW X.K G H W)) (r : Rel X.K δ G σ H) (q : t E δ G Qd) (k : ∀ d G' v H', Qd d G' → Ext G H G' H' → Rel X.K δ G' σ H' → RDs X.K G' H' d v → Q v H') : liftA X.K W t σ H Q :=
  ⟨δ, G, r, h.mono _ _ _ _ _ _ j (fun d G' qd v H' e hr rd => k d G' v H' qd e (r.ext e hr) rd) q⟩
theorem dk_nil : DKw X W [] dNil := ⟨(da_nil (X := X) (W := W)).mono, ⟨fun pos pins s σ H Q I ⟨δ, G, r, h⟩ => pk_nil.run pos pins s σ H Q I (h [] H .refl r.hr .nil)⟩⟩
theorem dk_cons {te : DTE} {kws : List Keyword} {nm : Option Str} {kpos : Pos} (ha : DE X W e te) (hb : DKw X W kws t) : DKw X W (⟨nm, e, kpos⟩ :: kws) (dCons te t) :=
  ⟨fun E E' δ G Q Q' j i h => ha.mono _ _ _ _ _ _ j (fun d G1 h1 => hb.mono _ _ _ _ _ _ j (fun ds G2 h2 => i _ _ h2) h1) h, ⟨fun pos pins s σ H Q I ⟨δ, G, r, h⟩ => (pk_cons ha.pe hb.pk).run pos pins s σ H Q I
    (ha.use DXW.le_refl r h fun d G1 v H1 h1 e1 r1 d1 => hb.use (upW.shift e1) r1 h1 fun ds G2 vs H2 h2 e2 r2 d2 => h2 _ _ (e1.trans e2) r2.hr (.cons (d1.ext e2) d2))⟩⟩
/-- f(.., k = v, ..) -/
def dCallK (n m : Nat) (ord : List Nat) (sd : Pro) (t tk : DTA) : DTE := fun E δ G Q => t E δ G fun ds G1 => tk E δ G1 fun es G2 => ds.length = n ∧ es.length = m ∧ sd (pick ord (ds ++ es)) G2 Q fun C fs G3 => E C fs δ G3
theorem RDs.pick {K : Frag} {G : DHp} {H : Hp} {ds : List D} {vs : List V} (r : RDs K G H ds vs) : ∀ ord : List Nat, RDs K G H (DL.pick ord ds) (DL.pick ord vs)
  | [] => .nil
  | i :: ord => by
    have ih := RDs.pick r ord
    unfold DL.pick at ih ⊢
    rw [List.filterMap_cons, List.filterMap_cons]
    cases e : ds[i]? with
    | none =>
      rw [r.none_of e]
      exact ih
    | some d =>
      obtain ⟨v, e1, e2⟩ := r.get e
      rw [e1]
      exact .cons e2 ih
theorem run_fnNS {CX : CXT} {f : Addr} {fd : FuncData} {n : Nat} {ks : List Str} {sp : Sp} {E : St → XK} {g : List Value → List Value → List Value} {gV : List V → List V → List V} {pins : List (Addr × Obj)} {σ : St} {H : Hp} {s : Shared} {Q : VK} {us ws : List Value} {vs zs : List V} (F : FnOk X.prog X.w X.K X.mg X.base CX k f fd ps sp) (hr : Room k X.A) (hb : KBn X.K fd ps n ks g gV) (hx : PassesAt CX X σ (E σ))
    (I : Inv X pins σ H s) (r : Vals vs us) (rz : Vals zs ws) (l1 : vs.length = n) (l2 : zs.length = ks.length) (h : sp (gV vs zs) H Q (E σ)) : wpAny (model X.prog X.w) X.A (call (.ref f) us (ks.zip ws)) (EP X pins σ Q) X.xe s := by
  have r2 := hb.rel r rz
  refine wpAny_call (codeAny_mono (F.run X.A X.stack s H ⟨us, ks.zip ws⟩ (g us ws) (gV vs zs) Q (E σ) hr I.env0 (hb.to s us ws I.kIn (r.length.symm.trans l1) (rz.length.symm.trans l2)) r2 h) fun r s' hq => ?_)
  cases r with
  | error e => exact hx pins H s e s' I hq
  | ok fl =>
    cases fl with
    | ret u => exact I.after hq
    | next => exact False.elim hq
    | brk => exact False.elim hq
    | cont => exact False.elim hq
theorem de_callK {q : Nat × List Str × List Nat} {kws : List Keyword} {tk' : DTA} (F : DfX X k x ps kwp sd) (hq : q ∈ kwp) (tk : Takes X W) (hr : Room k X.A) (ha : DA X W (e :: es) t) (hkw : DKw X W kws tk') (hg : Gl X x := by rfl)
    (hall : (backToKw pos (keywordEach kws X.env)).all (·.1.isSome) = true := by rfl) (hks : (backToKw pos (keywordEach kws X.env)).filterMap (·.1) = q.2.1 := by rfl)
    (hdb : (x == ("__debug__" : Str)) = false := by decide) (he : starEach (e :: es) X.env = (false, eval e X.env) :: starEach es X.env := by rfl)
    (hpl : ((backTo pos (starEach (e :: es) X.env)).any (·.1) || (backToKw pos (keywordEach kws X.env)).any (·.1.isNone)) = false := by rfl) :
    DE X W (.Call (.Name x p) (e :: es) kws pos) (dCallK q.1 q.2.1.length q.2.2 sd t tk') := by
  obtain ⟨f, fd, h1, h2, h3, h4, h5⟩ := F.ex
  refine ⟨fun E E' δ G Q Q' j i h => ha.mono _ _ _ _ _ _ j (fun ds G1 h1 => hkw.mono _ _ _ _ _ _ j (fun es G2 h2 => ⟨h2.1, h2.2.1, F.sdok.mono _ _ _ _ _ _ i (fun C fs G' q => j _ _ _ _ q) h2.2.2⟩) h1) h, ⟨fun pins s σ H Q I ⟨δ, G, r, h⟩ => ?_⟩⟩
  refine wpAny_Call_Name_kw (ld_glob I hg h1 ?_ hdb)
  refine PySem.W.callWith_KW (h₀ := X.base) I.ok.mod.kin h2 hall (thn (ha.pa.run pos pins s σ H (fun vs H1 => ∃ ds G1, Ext G H G1 H1 ∧ Rel X.K δ G1 σ H1 ∧ RDs X.K G1 H1 ds vs ∧ tk' (upW X.K G H W) δ G1 fun es G2 => ds.length = q.1 ∧ es.length = q.2.1.length ∧ sd (pick q.2.2 (ds ++ es)) G2 (upE X.K G H Q) fun C fs G3 => upW X.K G H W C fs δ G3) I
    (ha.use DXW.le_refl r h fun ds G1 vs H1 q1 e1 r1 d1 => ⟨ds, G1, e1, r1, d1, q1⟩)) fun us s1 ⟨vs, H1, I1, ru, ds, G1, e1, r1, d1, q1⟩ => ?_) hpl he
  refine thn (hkw.pk.run pos pins s1 σ H1 (fun zs H2 => vs.length = q.1 ∧ zs.length = q.2.1.length ∧ liftSp X.K sd (pick q.2.2 (vs ++ zs)) H2 Q (WE W σ)) I1
    (hkw.use (upW.shift e1) r1 q1 fun es G2 zs H2 q2 e2 r2 d2 => ⟨by rw [← d1.length]; exact q2.1, by rw [← d2.length]; exact q2.2.1, dCall_sp F.sdok r2 (((d1.ext e2).append d2).pick _) q2.2.2 (fun _ _ q => q.shift (e1.trans e2)) (upW.shift (e1.trans e2))⟩)) fun ws s2 ⟨zs, H2, I2, rz, l1, l2, q2⟩ => ⟨I2.kIn, ?_⟩
  rw [hks]
  exact run_fnNS (E := WE W) h4 hr (h5 q hq) (passAt tk σ) I2 ru rz l1 l2 q2
theorem de_callK0 {q : Nat × List Str × List Nat} {kws : List Keyword} {tk' : DTA} (F : DfX X k x ps kwp sd) (hq : q ∈ kwp) (tk : Takes X W) (hr : Room k X.A) (hkw : DKw X W kws tk') (hg : Gl X x := by rfl)
    (hall : (backToKw pos (keywordEach kws X.env)).all (·.1.isSome) = true := by rfl) (hks : (backToKw pos (keywordEach kws X.env)).filterMap (·.1) = q.2.1 := by rfl)
    (hdb : (x == ("__debug__" : Str)) = false := by decide) (hpl : (backToKw pos (keywordEach kws X.env)).any (·.1.isNone) = false := by rfl) :
    DE X W (.Call (.Name x p) [] kws pos) (dCallK q.1 q.2.1.length q.2.2 sd dNil tk') := by
  obtain ⟨f, fd, h1, h2, h3, h4, h5⟩ := F.ex
  refine ⟨fun E E' δ G Q Q' j i h => hkw.mono _ _ _ _ _ _ j (fun es G2 h2 => ⟨h2.1, h2.2.1, F.sdok.mono _ _ _ _ _ _ i (fun C fs G' q => j _ _ _ _ q) h2.2.2⟩) h, ⟨fun pins s σ H Q I ⟨δ, G, r, h⟩ => ?_⟩⟩
  refine wpAny_Call_Name_kw (ld_glob I hg h1 ?_ hdb)
  refine PySem.W.callWith_KW0 (h₀ := X.base) I.ok.mod.kin h2 hall ?_ hpl
  refine thn (hkw.pk.run pos pins s σ H (fun zs H2 => 0 = q.1 ∧ zs.length = q.2.1.length ∧ liftSp X.K sd (pick q.2.2 ([] ++ zs)) H2 Q (WE W σ)) I
    (hkw.use DXW.le_refl r h fun es G2 zs H2 q2 e2 r2 d2 => ⟨q2.1, by rw [← d2.length]; exact q2.2.1, dCall_sp F.sdok r2 (d2.pick _) q2.2.2 (fun _ _ q => q.shift e2) (upW.shift e2)⟩)) fun ws s2 ⟨zs, H2, I2, rz, l1, l2, q2⟩ => ⟨I2.kIn, ?_⟩
  rw [hks]
  exact run_fnNS (E := WE W) (vs := []) (us := []) h4 hr (h5 q hq) (passAt tk σ) I2 .nil rz l1 l2 q2
end
end DL
set_option Elab.async false
set_option linter.all false
set_option maxRecDepth 100000
set_option maxHeartbeats 4000000
/-! DL7: targets, statements, loops. -/
namespace DL
open PySem PySem.Spec PyProof.Rows L2
abbrev DTG := DXW → D → DSt → DHp → (DSt → DHp → Prop) → Prop
abbrev DTGs := DXW → List D → DSt → DHp → (DSt → DHp → Prop) → Prop
def liftG (K : Frag) (W : WX) (vs : List Nat) (t : DTG) : TG := fun v σ H Q => ∃ d δ G, Rel K δ G σ H ∧ RD K G H d v ∧ t (upW K G H W) d δ G fun δ' G' => ∀ σ' H', Ext G H G' H' → Rel K δ' G' σ' H' → wipe σ' vs = wipe σ vs → Q σ' H'
def liftGs (K : Frag) (W : WX) (vs : List Nat) (t : DTGs) : TGs := fun us σ H Q => ∃ ds δ G, Rel K δ G σ H ∧ RDs K G H ds us ∧ t (upW K G H W) ds δ G fun δ' G' => ∀ σ' H', Ext G H G' H' → Rel K δ' G' σ' H' → wipe σ' vs = wipe σ vs → Q σ' H'
/-- a target; vs: slots that it may set -/
structure DG (X : Cx) (W : WX) (vs : List Nat) (tg : Expr) (t : DTG) : Prop where
  mono : ∀ E E' d δ G Q Q', E.le E' → (∀ δ G, Q δ G → Q' δ G) → t E d δ G Q → t E' d δ G Q'
  pg : PG X tg (liftG X.K W vs t)
structure DGs (X : Cx) (W : WX) (vs : List Nat) (tg : List Expr) (t : DTGs) : Prop where
  mono : ∀ E E' d δ G Q Q', E.le E' → (∀ δ G, Q δ G → Q' δ G) → t E d δ G Q → t E' d δ G Q'
  pgs : PGs X tg (liftGs X.K W vs t)
theorem wipe_set {σ : St} {i : Nat} {o : Option V} : ∀ {vs : List Nat}, i ∈ vs → wipe (σ.set i o) vs = wipe σ vs
  | [], h => by simp at h
  | v :: vs, h => by
    unfold wipe
    by_cases c : i ∈ vs
    · rw [wipe_set c]
    · have e : i = v := (List.mem_cons.mp h).resolve_right c
      subst e
      apply List.ext_getElem?
      intro j
      by_cases cj : i = j
      · subst cj
        by_cases hl : i < σ.length
        · rw [List.getElem?_set_self (by rw [wipe_length, List.length_set]; exact hl), List.getElem?_set_self (by rw [wipe_length]; exact hl)]
        · rw [List.getElem?_eq_none (by rw [List.length_set, wipe_length, List.length_set]; omega), List.getElem?_eq_none (by rw [List.length_set, wipe_length]; omega)]
      · rw [List.getElem?_set_ne cj, List.getElem?_set_ne cj]
        by_cases cv : j ∈ vs
        · have z : ∀ τ : St, τ.length = σ.length → (wipe τ vs)[j]? = if j < σ.length then some none else none := by
            intro τ hτ
            split
            · rename_i hl
              cases e : (wipe τ vs)[j]? with
              | none => rw [List.getElem?_eq_none_iff, wipe_length] at e; omega
              | some o =>
                cases o with
                | none => rfl
                | some x => exact absurd cv (wipe_some e).2
            · rename_i hl
              exact List.getElem?_eq_none (by rw [wipe_length]; omega)
          rw [z _ (List.length_set ..), z _ rfl]
        · rw [wipe_out cv, wipe_out cv, List.getElem?_set_ne cj]
section
variable {X : Cx} {W : WX} {vs : List Nat} {pos : Pos}
def dgName (i : Nat) : DTG := fun E d δ G Q => Q (δ.set i (some d)) G
theorem dg_name (i : Nat) {x : Str} (hN : X.N.Nodup) (hi : X.N[i]? = some x := by rfl) (hx : Loc X.env.scope x := by first | exact Or.inl rfl | exact Or.inr rfl) (hf : X.fn x = true ∨ X.env.scope.names.lookup x = some .local := by first | exact .inl rfl | exact .inr rfl) (hm : i ∈ vs := by decide) : DG X W vs (.Name x pos) (dgName i) :=
  ⟨fun E E' d δ G Q Q' j i h => i _ _ h, ⟨fun pins s σ H v u Q I r ⟨d, δ, G, rl, rd, h⟩ => (pg_name hN hi hx hf).run pins s σ H v u Q I r (h _ _ .refl (rl.set i rd) (wipe_set hm))⟩⟩
def dgNil : DTGs := fun E ds δ G Q => ds = [] ∧ Q δ G
def dgCons (t : DTG) (u : DTGs) : DTGs := fun E ds δ G Q => match ds with
  | d :: r => t E d δ G fun δ' G' => u E r δ' G' Q
  | [] => False
theorem dgs_nil : DGs X W vs [] dgNil :=
  ⟨fun E E' d δ G Q Q' j i h => ⟨h.1, i _ _ h.2⟩, ⟨fun pins s σ H us ws Q I r ⟨d, δ, G, rl, rd, h⟩ => pgs_nil.run pins s σ H us ws Q I r (by
    obtain ⟨e, q⟩ := h
    subst e
    exact ⟨rd.nil_inv, q _ _ .refl rl rfl⟩)⟩⟩
theorem dgs_cons {e : Expr} {es : List Expr} {t : DTG} {u : DTGs} (h1 : DG X W vs e t) (h2 : DGs X W vs es u)
    (hs : (assignEach (e :: es) X.env).map (·.2) = assign e X.env :: (assignEach es X.env).map (·.2) := by rfl) : DGs X W vs (e :: es) (dgCons t u) :=
  ⟨fun E E' d δ G Q Q' j i h => by
    unfold dgCons at h ⊢
    split at h
    · exact h1.mono _ _ _ _ _ _ _ j (fun δ G h => h2.mono _ _ _ _ _ _ _ j i h) h
    · exact h.elim, ⟨fun pins s σ H us ws Q I r ⟨d, δ, G, rl, rd, h⟩ => (pgs_cons h1.pg h2.pgs hs).run pins s σ H us ws Q I r (by
    unfold dgCons at h
    split at h
    · rename_i d ds
      obtain ⟨v, r', e1, e2, e3⟩ := rd.cons_inv
      refine ⟨v, r', e1, d, δ, G, rl, e2, h1.mono _ _ _ _ _ _ _ DXW.le_refl (fun δ' G' q σ' H' e rl' hw => ?_) h⟩
      refine ⟨ds, δ', G', rl', e3.ext e, h2.mono _ _ _ _ _ _ _ (upW.shift e) (fun δ2 G2 q2 σ2 H2 e2 rl2 hw2 => ?_) q⟩
      exact q2 σ2 H2 (e.trans e2) rl2 (hw2.trans hw)
    · exact h.elim)⟩⟩
def dgTup (n : Nat) (t : DTGs) : DTG := fun E d δ G Q => ∃ xs, asT d = some xs ∧ xs.length = n ∧ t E xs δ G Q
theorem dg_tup (n : Nat) {es : List Expr} {k : Nat} {t : DTGs} (hc : X.calm = true) (h : DGs X W vs es t)
    (hn : (assignEach es X.env).length = n := by rfl) (hst : (assignEach es X.env).findIdx? (·.1) = none := by rfl) : DG X W vs (.Tuple es k pos) (dgTup n t) :=
  ⟨fun E E' d δ G Q Q' j i ⟨xs, h1, h2, h3⟩ => ⟨xs, h1, h2, h.mono _ _ _ _ _ _ _ j i h3⟩, ⟨fun pins s σ H v u Q I r ⟨d, δ, G, rl, rd, q⟩ => (pg_tup (n := n) hc h.pgs hn hst).run pins s σ H v u Q I r (by
    obtain ⟨xs, h1, h2, h3⟩ := q
    obtain ⟨a, ws, e1, e2, e3, e4⟩ := asT_sq rd h1
    exact ⟨a, ws, e1, e2, by rw [← e4.length]; exact h2, xs, δ, G, rl, e4, h3⟩)⟩⟩
/-- of a list -/
def dgUnl (n : Nat) (t : DTGs) : DTG := fun E d δ G Q => ∃ xs, asR G d = some xs ∧ xs.length = n ∧ t E xs δ G Q
theorem dg_unl (n : Nat) {es : List Expr} {k : Nat} {t : DTGs} (hc : X.calm = true) (h : DGs X W vs es t)
    (hn : (assignEach es X.env).length = n := by rfl) (hst : (assignEach es X.env).findIdx? (·.1) = none := by rfl) : DG X W vs (.Tuple es k pos) (dgUnl n t) :=
  ⟨fun E E' d δ G Q Q' j i ⟨xs, h1, h2, h3⟩ => ⟨xs, h1, h2, h.mono _ _ _ _ _ _ _ j i h3⟩, ⟨fun pins s σ H v u Q I r ⟨d, δ, G, rl, rd, q⟩ => (pg_lst (n := n) hc h.pgs hn hst).run pins s σ H v u Q I r (by
    obtain ⟨xs, h1, h2, h3⟩ := q
    obtain ⟨a, ws, e1, e2, e3, e4⟩ := asR_sq rl.hr rd h1
    exact ⟨a, ws, e1, e2, by rw [← e4.length]; exact h2, xs, δ, G, rl, e4, h3⟩)⟩⟩
/-- o[i] = .., o a list that may be changed -/
def dgSub (to ti : DTE) : DTG := fun E d δ G Q => to E δ G fun o G1 => ti E δ G1 fun i G2 => ∃ a xs k j, o = .ref a ∧ i = .int k ∧ G2 a = some (.lst xs) ∧ ixN xs.length k = some j ∧ Q δ (updD G2 a (.lst (xs.set j d)))
theorem dg_sub {o i : Expr} {to ti : DTE} (ho : DE X W o to) (hi : DE X W i ti) (ha : ∀ v, assign (.Subscript o i pos) X.env v = (do
      let ov ← holding [v] (eval o X.env)
      let iv ← holding [v, ov] (eval i X.env)
      standAt pos
      holding [v, ov, iv] (setItem ov iv v)
      release [v, ov, iv] []) := by intro _; rfl) : DG X W vs (.Subscript o i pos) (dgSub to ti) :=
  ⟨fun E E' d δ G Q Q' j i h => ho.mono _ _ _ _ _ _ j (fun o G1 h1 => hi.mono _ _ _ _ _ _ j (fun i' G2 ⟨a, xs, k, j, h2, h3, h4, h5, h6⟩ => ⟨a, xs, k, j, h2, h3, h4, h5, i _ _ h6⟩) h1) h,
   ⟨fun pins s σ H v u Q I r ⟨d, δ, G, rl, rd, h⟩ => (pg_sub ho.pe hi.pe set_list ha).run pins s σ H v u Q I r (ho.use DXW.le_refl rl h fun o G1 ov H1 h1 e1 r1 d1 => hi.use (upW.shift e1) r1 h1 fun i G2 iv H2 ⟨a, xs, k, j, f1, f2, f3, f4, f5⟩ e2 r2 d2 => by
    subst f1 f2
    obtain ⟨ws, g1, g2, g3⟩ := r2.hr _ _ f3
    refine ⟨a, ws, k, j, rd_ref d1, rd_int d2, g1, by rw [← g3.length]; exact f4, ?_⟩
    have rv := (rd.ext e1).ext e2
    have ex := Ext.put (u := .lst (ws.set j v)) (o' := .lst (xs.set j d)) r2.hr f3
    refine f5 _ _ ((e1.trans e2).trans ex) (r2.ext ex (r2.hr.put f3 rfl ⟨_, upd_same, by rw [List.length_set]; exact g2, (g3.set j rv).ext ex⟩)) rfl)⟩⟩
end
/-! ### statements -/
section
variable {X : Cx} {W : WX} {vs : List Nat} {pos pos' : Pos} {e : Expr} {te : DTE} {st : Stmt} {rest : List Stmt} {t u : DTS}
def dNext : DTS := fun D δ G => D.nx δ G
def dSeq (t u : DTS) : DTS := fun D δ G => t { D with nx := u D } δ G
theorem dNext_mono : MonS dNext := fun δ G D D' l h => l.1 _ _ h
theorem dSeq_mono (mt : MonS t) (mu : MonS u) : MonS (dSeq t u) := fun δ G D D' l h => mt δ G { D with nx := u D } { D' with nx := u D' } ⟨fun δ G q => mu δ G D D' l q, l.2⟩ h
theorem dss_nil : DSs X W [] dNext := dss_of dNext_mono pss_nil fun D σ H δ G r h => h σ H .refl r
theorem dss_cons (h1 : DS X W st t) (h2 : DSs X W rest u) : DSs X W (st :: rest) (dSeq t u) :=
  dss_of (dSeq_mono h1.mono h2.mono) (pss_cons h1.ps h2.pss) fun D σ H δ G r h => ⟨δ, G, r, h1.mono δ G { upD X.K G H W D with nx := u (upD X.K G H W D) } _ ⟨fun δ' G' q σ' H' e r' => ⟨δ', G', r', h2.mono δ' G' (upD X.K G H W D) _ (upD.shift e) q⟩, DEnds.le_refl.2⟩ h⟩
theorem dss_one (h1 : DS X W st t) : DSs X W [st] t := dss_of h1.mono (pss_one h1.ps) fun D σ H δ G r h => ⟨δ, G, r, h⟩
def dPass : DTS := dNext
theorem ds_pass : DS X W (.Pass pos) dNext := ds_of dNext_mono ps_pass fun D σ H δ G r h => h σ H .refl r
def dBreak : DTS := fun D δ G => D.bk δ G
def dCont : DTS := fun D δ G => D.ct δ G
theorem ds_break : DS X W (.Break pos) dBreak := ds_of (fun δ G D D' l h => l.2.2.2.1 _ _ h) ps_break fun D σ H δ G r h => h σ H .refl r
theorem ds_continue : DS X W (.Continue pos) dCont := ds_of (fun δ G D D' l h => l.2.2.2.2 _ _ h) ps_continue fun D σ H δ G r h => h σ H .refl r
theorem ds_doc {x j} : DS X W (.Expr (.Constant (.str x) j pos) pos') dNext := ds_of dNext_mono ps_doc fun D σ H δ G r h => h σ H .refl r
def dDrop (te : DTE) : DTS := fun D δ G => te D.xc δ G fun _ G1 => D.nx δ G1
theorem ds_expr (he : DE X W e te) (hs : swapsWith e none pos.line X.env = pure false := by rfl) : DS X W (.Expr e pos) (dDrop te) :=
  ds_of (fun δ G D D' l h => he.mono _ _ _ _ _ _ l.2.2.1 (fun d G1 q => l.1 _ _ q) h) (ps_expr he.pe hs) fun D σ H δ G r h => he.use DXW.le_refl r h fun d G1 v H1 q e1 r1 d1 => q _ _ e1 r1
def dRet (te : DTE) : DTS := fun D δ G => te D.xc δ G D.rt
theorem ds_ret (he : DE X W e te) : DS X W (.Return (some e) pos) (dRet te) :=
  ds_of (fun δ G D D' l h => he.mono _ _ _ _ _ _ l.2.2.1 l.2.1 h) (ps_ret he.pe) fun D σ H δ G r h => he.use DXW.le_refl r h fun d G1 v H1 q e1 r1 d1 => q _ _ e1 r1.hr d1
def dRetN : DTS := fun D δ G => D.rt .non G
theorem ds_retN : DS X W (.Return none pos) dRetN := ds_of (fun δ G D D' l h => l.2.1 _ _ h) ps_retN fun D σ H δ G r h => h _ _ .refl r.hr rd_n
def dIf (c : DTT) (t u : DTS) : DTS := fun D δ G => c D.xc δ G fun b G1 => if b = true then t D δ G1 else u D δ G1
theorem ds_if {c : Expr} {a b : List Stmt} {tc : DTT} (hc : DT X W c tc) (ha : DSs X W a t) (hb : DSs X W b u) : DS X W (.If c a b pos) (dIf tc t u) :=
  ds_of (fun δ G D D' l h => hc.mono _ _ _ _ _ _ l.2.2.1 (fun d G1 q => by
    cases d with
    | true => rw [if_pos rfl] at q ⊢; exact ha.mono _ _ _ _ l q
    | false => rw [if_neg Bool.false_ne_true] at q ⊢; exact hb.mono _ _ _ _ l q) h) (ps_if hc.pt ha.pss hb.pss) fun D σ H δ G r h => hc.use DXW.le_refl r h fun d G1 H1 q e1 r1 => by
    cases d with
    | true => rw [if_pos rfl] at q ⊢; exact ⟨δ, G1, r1, ha.mono _ _ _ _ (upD.shift e1) q⟩
    | false => rw [if_neg Bool.false_ne_true] at q ⊢; exact ⟨δ, G1, r1, hb.mono _ _ _ _ (upD.shift e1) q⟩
def dNever : DTS := fun _ _ _ => False
theorem ds_never : DS X W st dNever := ⟨fun _ _ _ _ _ h => h, ps_imp ps_never fun _ _ _ ⟨_, _, _, h⟩ => h.elim⟩
theorem dss_never {sts : List Stmt} : DSs X W sts dNever := ⟨fun _ _ _ _ _ h => h, pss_imp pss_never fun _ _ _ ⟨_, _, _, h⟩ => h.elim⟩
def dSet (i : Nat) (te : DTE) : DTS := fun D δ G => te D.xc δ G fun d G1 => D.nx (δ.set i (some d)) G1
theorem dSet_mono {i : Nat} (m : MonE te) : MonS (dSet i te) := fun δ G D D' l h => m _ _ _ _ _ _ l.2.2.1 (fun d G1 q => l.1 _ _ q) h
theorem ds_set (i : Nat) {x : Str} (hN : X.N.Nodup) (he : DE X W e te) (hi : X.N[i]? = some x := by rfl) (hx : Loc X.env.scope x := by first | exact Or.inl rfl | exact Or.inr rfl) (hs : swapsWith e (some (.Name x pos')) pos.line X.env = pure false := by rfl) (hf : X.fn x = true ∨ X.env.scope.names.lookup x = some .local := by first | exact .inl rfl | exact .inr rfl) :
    DS X W (.Assign [.Name x pos'] e pos) (dSet i te) :=
  ds_of (dSet_mono he.mono) (ps_set hN hi hx he.pe hs hf) fun D σ H δ G r h => he.use DXW.le_refl r h fun d G1 v H1 q e1 r1 d1 => q _ _ e1 (r1.set i d1)
def dAsg (te : DTE) (g : DTG) : DTS := fun D δ G => te D.xc δ G fun d G1 => g D.xc d δ G1 D.nx
theorem ds_asg (vs : List Nat) {tg : Expr} {g : DTG} (he : DE X W e te) (hg : DG X W vs tg g) (hs : swapsWithSole [tg] e pos.line X.env = pure false := by rfl) (hw : swappedStores [tg] e X.env = pure none := by rfl)
    (h1 : (assignEach [tg] X.env).map (·.2) = [assign tg X.env] := by rfl) : DS X W (.Assign [tg] e pos) (dAsg te g) :=
  ds_of (fun δ G D D' l h => he.mono _ _ _ _ _ _ l.2.2.1 (fun d G1 q => hg.mono _ _ _ _ _ _ _ l.2.2.1 l.1 q) h) (ps_asg he.pe hg.pg hs hw h1) fun D σ H δ G r h => he.use DXW.le_refl r h fun d G1 v H1 q e1 r1 d1 =>
    ⟨d, δ, G1, r1, d1, hg.mono _ _ _ _ _ _ _ (upW.shift e1) (fun δ' G' q σ' H' e' r' _ => q _ _ (e1.trans e') r') q⟩
def dPar (i j : Nat) (ta : DTA) : DTS := fun D δ G => ta D.xc δ G fun ds G1 => match ds with
  | [d, e] => D.nx ((δ.set i (some d)).set j (some e)) G1
  | _ => False
theorem ds_par (i j : Nat) {x y : Str} {a b : Expr} {ta : DTA} {px py pt : Pos} {kt k2 pt2} (hc : X.calm = true) (hN : X.N.Nodup) (ha : DA X W [a, b] ta)
    (hi : X.N[i]? = some x := by rfl) (hj : X.N[j]? = some y := by rfl) (hij : i ≠ j := by decide)
    (hx : X.env.scope.names.lookup x = some .local := by rfl) (hy : X.env.scope.names.lookup y = some .local := by rfl)
    (hw : swappedStores [.Tuple [.Name x px, .Name y py] kt pt] (.Tuple [a, b] k2 pt2) X.env = pure (some [x, y]) := by rfl)
    (hs : swapsWithSole [.Tuple [.Name x px, .Name y py] kt pt] (.Tuple [a, b] k2 pt2) pos.line X.env = pure false := by rfl) :
    DS X W (.Assign [.Tuple [.Name x px, .Name y py] kt pt] (.Tuple [a, b] k2 pt2) pos) (dPar i j ta) :=
  ds_of (fun δ G D D' l h => ha.mono _ _ _ _ _ _ l.2.2.1 (fun d G1 q => by
    unfold dPar at *
    split at q
    · exact l.1 _ _ q
    · exact q.elim) h) (ps_par hc hN hi hj hij hx hy ha.pa hw hs) fun D σ H δ G r h => ha.use DXW.le_refl r h fun ds G1 ws H1 q e1 r1 d1 => by
    split at q
    · obtain ⟨v, w, e2, f1, f2⟩ := rds2 d1
      exact ⟨v, w, e2, q _ _ e1 ((r1.set i f1).set j f2)⟩
    · exact q.elim
def dPar3 (i j l : Nat) (ta : DTA) : DTS := fun D δ G => ta D.xc δ G fun ds G1 => match ds with
  | [d, e, f] => D.nx (((δ.set i (some d)).set j (some e)).set l (some f)) G1
  | _ => False
theorem ds_par3 (i j l : Nat) {x y z : Str} {a b c : Expr} {ta : DTA} {px py pz pt : Pos} {kt k2 pt2} (hc : X.calm = true) (hN : X.N.Nodup) (ha : DA X W [a, b, c] ta)
    (hi : X.N[i]? = some x := by rfl) (hj : X.N[j]? = some y := by rfl) (hl : X.N[l]? = some z := by rfl) (hij : i ≠ j := by decide) (hil : i ≠ l := by decide) (hjl : j ≠ l := by decide)
    (hx : X.env.scope.names.lookup x = some .local := by rfl) (hy : X.env.scope.names.lookup y = some .local := by rfl) (hz : X.env.scope.names.lookup z = some .local := by rfl)
    (hw : swappedStores [.Tuple [.Name x px, .Name y py, .Name z pz] kt pt] (.Tuple [a, b, c] k2 pt2) X.env = pure (some [x, y, z]) := by rfl)
    (hs : swapsWithSole [.Tuple [.Name x px, .Name y py, .Name z pz] kt pt] (.Tuple [a, b, c] k2 pt2) pos.line X.env = pure false := by rfl) :
    DS X W (.Assign [.Tuple [.Name x px, .Name y py, .Name z pz] kt pt] (.Tuple [a, b, c] k2 pt2) pos) (dPar3 i j l ta) :=
  ds_of (fun δ G D D' lx h => ha.mono _ _ _ _ _ _ lx.2.2.1 (fun d G1 q => by
    split at q
    · exact lx.1 _ _ q
    · exact q.elim) h) (ps_par3 hc hN hi hj hl hij hil hjl hx hy hz ha.pa hw hs) fun D σ H δ G r h => ha.use DXW.le_refl r h fun ds G1 ws H1 q e1 r1 d1 => by
    split at q
    · obtain ⟨v, w, z, e2, f1, f2, f3⟩ := rds3 d1
      exact ⟨v, w, z, e2, q _ _ e1 (((r1.set i f1).set j f2).set l f3)⟩
    · exact q.elim
/-- name += e, ints -/
def dAugA (i : Nat) (te : DTE) : DTS := fun D δ G => match δ[i]? with
  | some (some (.int a)) => te D.xc δ G fun d G1 => match d with
    | .int b => D.nx (δ.set i (some (.int (a + b)))) G1
    | _ => False
  | _ => False
theorem ds_augA (i : Nat) {x : Str} (hN : X.N.Nodup) (he : DE X W e te) (hi : X.N[i]? = some x := by rfl) (hx : Loc X.env.scope x := by first | exact Or.inl rfl | exact Or.inr rfl) (hf : X.fn x = true ∨ X.env.scope.names.lookup x = some .local := by first | exact .inl rfl | exact .inr rfl) :
    DS X W (.AugAssign (.Name x pos') .Add e pos) (dAugA i te) :=
  ds_of (fun δ G D D' l h => by
    unfold dAugA at h ⊢
    split <;> rename_i e <;> simp only [e] at h
    · exact he.mono _ _ _ _ _ _ l.2.2.1 (fun d G1 q => by
        cases d with
        | int b => exact l.1 _ _ q
        | _ => exact q.elim) h) (ps_aug hN hi hx he.pe ip_add hf) fun D σ H δ G r h => by
    unfold dAugA at h
    split at h
    · rename_i a e
      obtain ⟨v, e1, e2⟩ := r.sl _ _ e
      rw [rd_int e2] at e1
      refine ⟨.int a, e1, he.use DXW.le_refl r h fun d G1 w H1 q f1 r1 d1 => ?_⟩
      cases d with
      | int b => exact ⟨a, b, rfl, rd_int d1, q _ _ f1 (r1.set i rd_i)⟩
      | _ => exact q.elim
    · exact h.elim
/-! ### while -/
def dWhile (c : DTT) (tb : DTS) : DTS := fun D δ G => ∃ I : Nat → DSt → DHp → Prop, (∃ m, I m δ G) ∧ ∀ m δ G, I m δ G →
  c D.xc δ G fun b G1 => if b = true then tb { D with nx := fun δ' G' => ∃ m', m' < m ∧ I m' δ' G', ct := fun δ' G' => ∃ m', m' < m ∧ I m' δ' G', bk := D.nx } δ G1 else D.nx δ G1
theorem ds_while {c : Expr} {body : List Stmt} {tc : DTT} {tb : DTS} (hp : PassesOwn (model X.prog X.w) X.A X.env X.xe) (hc : DT X W c tc) (hb : DSs X W body tb) : DS X W (.While c body [] pos) (dWhile tc tb) :=
  ds_of (fun δ G D D' l ⟨I, h1, h2⟩ => ⟨I, h1, fun m δ G hI => hc.mono _ _ _ _ _ _ l.2.2.1 (fun b G1 q => by
    cases b with
    | true => rw [if_pos rfl] at q ⊢; exact hb.mono _ _ { D with nx := fun δ' G' => ∃ m', m' < m ∧ I m' δ' G', ct := fun δ' G' => ∃ m', m' < m ∧ I m' δ' G', bk := D.nx } _ ⟨fun _ _ z => z, l.2.1, l.2.2.1, l.1, fun _ _ z => z⟩ q
    | false => rw [if_neg Bool.false_ne_true] at q ⊢; exact l.1 _ _ q) (h2 m δ G hI)⟩) (ps_while hp hc.pt hb.pss) fun D σ H δ G r ⟨I, ⟨m, h1⟩, h2⟩ => by
    refine ⟨fun m σ' H' => ∃ δ' G', Ext G H G' H' ∧ Rel X.K δ' G' σ' H' ∧ I m δ' G', ⟨m, δ, G, .refl, r, h1⟩, ?_⟩
    rintro m σ1 H1 ⟨δ1, G1, e1, r1, i1⟩
    refine hc.use (upW.shift e1) r1 (h2 m δ1 G1 i1) fun b G2 H2 q e2 r2 => ?_
    cases b with
    | true =>
      rw [if_pos rfl] at q ⊢
      refine ⟨fun σ' H' => ∃ m', m' < m ∧ ∃ δ' G', Ext G H G' H' ∧ Rel X.K δ' G' σ' H' ∧ I m' δ' G', fun σ' H' z => z, δ1, G2, r2, hb.mono _ _ _ _ ?_ q⟩
      have e12 := e1.trans e2
      have nn : ∀ δ' G', (∃ m', m' < m ∧ I m' δ' G') → upN X.K G2 H2 (fun σ' H' => ∃ m', m' < m ∧ ∃ δ' G', Ext G H G' H' ∧ Rel X.K δ' G' σ' H' ∧ I m' δ' G') δ' G' := fun δ' G' ⟨m', lt, i'⟩ σ' H' e' r' => ⟨m', lt, δ', G', e12.trans e', r', i'⟩
      exact ⟨nn, fun _ _ z => z.shift e12, upW.shift e12, fun _ _ z => z.shift e12, nn⟩
    | false =>
      rw [if_neg Bool.false_ne_true] at q ⊢
      exact q _ _ (e1.trans e2) r2
end
/-! ### what a loop walks -/
/-- the items, known at the start; gd: what is to stand at each turn (a list that nobody changes) -/
structure ItR (K : Frag) (J : It) (gd : DHp → Prop) (xs : List D) (G0 : DHp) (H0 : Hp) : Prop where
  go : ∀ i G H, Ext G0 H0 G H → HR K G H → gd G → i < xs.length → J.go i H
  yld : ∀ i G H x H' d, Ext G0 H0 G H → HR K G H → gd G → xs[i]? = some d → J.yld i H x H' → Ext G H G H' ∧ HR K G H' ∧ RD K G H' d x
  stop : ∀ i G H, Ext G0 H0 G H → HR K G H → gd G → xs.length ≤ i → J.stop i H
abbrev DTI := DXW → DSt → DHp → (List D → (DHp → Prop) → DHp → Prop) → Prop
def upI (K : Frag) (G : DHp) (H : Hp) (R : It → Hp → Prop) : List D → (DHp → Prop) → DHp → Prop := fun xs gd G' => ∀ J H', Ext G H G' H' → HR K G' H' → ItR K J gd xs G' H' → R J H'
def liftI (K : Frag) (W : WX) (t : DTI) : TI := fun σ H R => ∃ δ G, Rel K δ G σ H ∧ t (upW K G H W) δ G (upI K G H R)
def MonI (t : DTI) : Prop := ∀ E E' δ G (R R' : List D → (DHp → Prop) → DHp → Prop), E.le E' → (∀ xs gd G', R xs gd G' → R' xs gd G') → t E δ G R → t E' δ G R'
structure DI (X : Cx) (W : WX) (tg iter : Expr) (t : DTI) : Prop where
  mono : MonI t
  pi : PI X tg iter (liftI X.K W t)
theorem pi_imp {X : Cx} {tg iter : Expr} {t t' : TI} (h : PI X tg iter t) (i : ∀ σ H R, t' σ H R → t σ H R) : PI X tg iter t' := ⟨fun pins s σ H Q I q => h.run pins s σ H Q I (i _ _ _ q)⟩
theorem di_of {X : Cx} {W : WX} {tg iter : Expr} {t : DTI} {ti : TI} (m : MonI t) (h : PI X tg iter ti) (i : ∀ σ H R δ G, Rel X.K δ G σ H → t (upW X.K G H W) δ G (upI X.K G H R) → ti σ H R) : DI X W tg iter t := ⟨m, pi_imp h fun σ H R ⟨δ, G, r, q⟩ => i σ H R δ G r q⟩

/-- what holds the items at each turn -/
def gdS (d : D) (xs : List D) : DHp → Prop := fun G => asS G d = some xs
theorem gdS_it {K : Frag} {G G' : DHp} {H H' : Hp} {d : D} {a : Addr} {xs : List D} (r : RD K G H d (.ref a)) (e : Ext G H G' H') (hr : HR K G' H') (g : gdS d xs G') : ∃ ws, (SqL K H' a ws ∨ SqT K H' a ws) ∧ RDs K G' H' xs ws := by
  obtain ⟨b, ws, e1, e2, e3, e4⟩ := asS_sq hr (r.ext e) g
  cases e1
  exact ⟨ws, e2, e4⟩
def isT : D → Bool
  | .tup _ => true
  | .ktp _ => true
  | _ => false
theorem gdS_L {K : Frag} {G G' : DHp} {H H' : Hp} {d : D} {a : Addr} {xs : List D} (n : isT d = false) (r : RD K G H d (.ref a)) (e : Ext G H G' H') (hr : HR K G' H') (g : gdS d xs G') : ∃ ws, SqL K H' a ws ∧ RDs K G' H' xs ws := by
  have g' : asR G' d = some xs := by
    unfold gdS asS at g
    cases d <;> first | exact (by simpa [asT] using g) | cases n
  obtain ⟨b, ws, e1, e2, e3, e4⟩ := asR_sq hr (r.ext e) g'
  cases e1
  exact ⟨ws, e2, e4⟩
theorem gdS_T {K : Frag} {G G' : DHp} {H H' : Hp} {d : D} {a : Addr} {xs : List D} (n : isT d = true) (r : RD K G H d (.ref a)) (e : Ext G H G' H') (hr : HR K G' H') (g : gdS d xs G') : ∃ ws, SqT K H' a ws ∧ RDs K G' H' xs ws := by
  have g' : asT d = some xs := by
    unfold gdS asS at g
    cases d <;> first | exact (by simpa [asR, asT] using g) | cases n
  obtain ⟨b, ws, e1, e2, e3, e4⟩ := asT_sq (r.ext e) g'
  cases e1
  exact ⟨ws, e2, e4⟩
theorem itr_list {K : Frag} {G : DHp} {H : Hp} {d : D} {a : Addr} {xs : List D} (n : isT d = false) (r : RD K G H d (.ref a)) : ItR K (Itl K a) (gdS d xs) xs G H where
  go := fun i G' H' e hr g hi => by
    obtain ⟨ws, h1, h2⟩ := gdS_L n r e hr g
    have hl := h2.length
    exact ⟨ws, ws[i]'(by omega), h1, List.getElem?_eq_getElem _⟩
  yld := fun i G' H' x H2 d e hr g hi ⟨y1, y2⟩ => by
    subst y1
    obtain ⟨ws, h1, h2⟩ := gdS_L n r e hr g
    obtain ⟨v, f1, f2⟩ := h2.get hi
    have f3 := y2 ws h1
    rw [f1] at f3
    cases f3
    exact ⟨.refl, hr, f2⟩
  stop := fun i G' H' e hr g hi => by
    obtain ⟨ws, h1, h2⟩ := gdS_L n r e hr g
    have hl := h2.length
    exact ⟨ws, h1, by omega⟩
theorem itr_tup {K : Frag} {G : DHp} {H : Hp} {d : D} {a : Addr} {xs : List D} (n : isT d = true) (r : RD K G H d (.ref a)) : ItR K (Itt K a) (gdS d xs) xs G H where
  go := fun i G' H' e hr g hi => by
    obtain ⟨ws, h1, h2⟩ := gdS_T n r e hr g
    have hl := h2.length
    exact ⟨ws, ws[i]'(by omega), h1, List.getElem?_eq_getElem _⟩
  yld := fun i G' H' x H2 d e hr g hi ⟨y1, y2⟩ => by
    subst y1
    obtain ⟨ws, h1, h2⟩ := gdS_T n r e hr g
    obtain ⟨v, f1, f2⟩ := h2.get hi
    have f3 := y2 ws h1
    rw [f1] at f3
    cases f3
    exact ⟨.refl, hr, f2⟩
  stop := fun i G' H' e hr g hi => by
    obtain ⟨ws, h1, h2⟩ := gdS_T n r e hr g
    have hl := h2.length
    exact ⟨ws, h1, by omega⟩
/-- V-level: a list or a tuple or a text -/
def iSeqA (K : Frag) (te : TE) : TI := fun σ H R => te σ H fun x H1 => (∃ a, x = .ref a ∧ (((∃ xs, SqL K H1 a xs) ∧ R (Itl K a) H1) ∨ ((∃ xs, SqT K H1 a xs) ∧ R (Itt K a) H1))) ∨ ∃ z, x = .str z ∧ R (Its z) H1
theorem pi_seqA {X : Cx} {tg e : Expr} {te : TE} (he : PE X e te) : PI X tg e (iSeqA X.K te) := by
  refine ⟨fun pins s σ H R I h => ?_⟩
  refine thn (he.run pins s σ H _ I h) fun v s1 ⟨x, H1, I1, r1, q1⟩ => ?_
  rcases q1 with ⟨a, e, ⟨⟨xs, hq⟩, q⟩ | ⟨⟨xs, hq⟩, q⟩⟩ | ⟨z, e, q⟩
  · subst e
    cases r1
    obtain ⟨its, rv, p, hz⟩ := I1.list hq
    refine wpAny_pyIter_list p.isList ?_
    refine ⟨s1.heap.objs.size, [s1.heap.objs.size], _, _, H1, rfl, I1.kept (t' := s1.toks) fun b o e => Heap.get?_push_of_some _ e, turn_list a _, ⟨_, Heap.get?_push_size _ rfl, rfl, rfl⟩, fun b hb => ?_, q⟩
    have e : b = s1.heap.objs.size := by simpa using hb
    subst e
    exact I1.fpOk (Nat.le_refl _) (I1.hok.fresh (Nat.le_refl _))
  · subst e
    cases r1
    obtain ⟨its, rv, p, hz⟩ := I1.tuple hq
    refine wpAny_pyIter_tuple (show s1.heap.IsTuple a its.toArray from p) ?_
    refine ⟨s1.heap.objs.size, [s1.heap.objs.size], _, _, H1, rfl, I1.kept (t' := s1.toks) fun b o e => Heap.get?_push_of_some _ e, turn_tuple a _, ⟨_, Heap.get?_push_size _ rfl, rfl, rfl⟩, fun b hb => ?_, q⟩
    have e : b = s1.heap.objs.size := by simpa using hb
    subst e
    exact I1.fpOk (Nat.le_refl _) (I1.hok.fresh (Nat.le_refl _))
  · subst e
    obtain ⟨t, rfl⟩ := r1
    cases ha : z.cps.all (· < 128)
    · exact wpAny_pyIter_wide ha (pi_one (tk := s1.toks) I1 _ (turn_str _ z t "str_iterator" (.inr rfl)) ⟨_, Heap.get?_push_size _ rfl, rfl, rfl⟩ q)
    · exact wpAny_pyIter_ascii ha (pi_one (tk := s1.toks) I1 _ (turn_str _ z t "str_ascii_iterator" (.inl rfl)) ⟨_, Heap.get?_push_size _ rfl, rfl, rfl⟩ q)
def gdT : DHp → Prop := fun _ => True
def strD (z : Str) : List D := z.cps.toList.map fun c => .str ⟨#[c]⟩
theorem itr_str {K : Frag} {G : DHp} {H : Hp} {z : Str} : ItR K (Its z) gdT (strD z) G H where
  go := fun i G' H' e hr g hi => by simpa [strD, Its] using hi
  yld := fun i G' H' x H2 d e hr g hi ⟨y1, c, y2, y3⟩ => by
    subst y1 y3
    refine ⟨.refl, hr, ?_⟩
    unfold strD at hi
    rw [List.getElem?_map, Array.getElem?_toList, y2] at hi
    cases hi
    exact rd_s
  stop := fun i G' H' e hr g hi => by simpa [strD, Its] using hi
def diS (te : DTE) : DTI := fun E δ G R => te E δ G fun d G1 => (∃ xs, asS G1 d = some xs ∧ R xs (gdS d xs) G1) ∨ ∃ z, d = .str z ∧ R (strD z) gdT G1
section
variable {X : Cx} {W : WX} {tg e : Expr} {te : DTE}
theorem diS_mono (m : MonE te) : MonI (diS te) := fun E E' δ G R R' j i h => m _ _ _ _ _ _ j (fun d G1 h1 => h1.imp (fun ⟨xs, h2, h3⟩ => ⟨xs, h2, i _ _ _ h3⟩) fun ⟨z, h2, h3⟩ => ⟨z, h2, i _ _ _ h3⟩) h
theorem di_seq (he : DE X W e te) : DI X W tg e (diS te) := di_of (diS_mono he.mono) (pi_seqA he.pe) fun σ H R δ G r h => he.use DXW.le_refl r h fun d G1 v H1 h1 e1 r1 d1 => by
  rcases h1 with ⟨xs, h2, h3⟩ | ⟨z, h2, h3⟩
  · obtain ⟨a, vs, f1, f2, f3, f4⟩ := asS_sq r1.hr d1 h2
    subst f1
    cases n : isT d with
    | false =>
      obtain ⟨ws, g1, g2⟩ := gdS_L n d1 .refl r1.hr h2
      exact .inl ⟨a, rfl, .inl ⟨⟨ws, g1⟩, h3 _ _ e1 r1.hr (itr_list n d1)⟩⟩
    | true =>
      obtain ⟨ws, g1, g2⟩ := gdS_T n d1 .refl r1.hr h2
      exact .inl ⟨a, rfl, .inr ⟨⟨ws, g1⟩, h3 _ _ e1 r1.hr (itr_tup n d1)⟩⟩
  · subst h2
    exact .inr ⟨z, rd_str d1, h3 _ _ e1 r1.hr itr_str⟩
/-- lo, lo + c, .. -/
def rngD (lo c : Int) (n : Nat) : List D := (List.range n).map fun i => .int (lo + (i : Nat) * c)
theorem itr_rng {K : Frag} {G : DHp} {H : Hp} {lo : Int} {n : Nat} : ItR K (Itr lo n) gdT (rngD lo 1 n) G H where
  go := fun i G' H' e hr g hi => by simpa [rngD, Itr] using hi
  yld := fun i G' H' x H2 d e hr g hi ⟨y1, y2⟩ => by
    subst y1 y2
    refine ⟨.refl, hr, ?_⟩
    unfold rngD at hi
    have hl : i < n := by have := (List.getElem?_eq_some_iff.mp hi).1; simpa using this
    rw [List.getElem?_map, List.getElem?_range hl] at hi
    cases hi
    show RD K G' H2 (.int (lo + (i : Int) * 1)) (.int (lo + i))
    rw [Int.mul_one]
    exact rd_i
  stop := fun i G' H' e hr g hi => by simpa [rngD, Itr] using hi
theorem itr_rngc {K : Frag} {G : DHp} {H : Hp} {lo c : Int} {n : Nat} : ItR K (Itc lo c n) gdT (rngD lo c n) G H where
  go := fun i G' H' e hr g hi => by simpa [rngD, Itc] using hi
  yld := fun i G' H' x H2 d e hr g hi ⟨y1, y2⟩ => by
    subst y1 y2
    refine ⟨.refl, hr, ?_⟩
    unfold rngD at hi
    have hl : i < n := by have := (List.getElem?_eq_some_iff.mp hi).1; simpa using this
    rw [List.getElem?_map, List.getElem?_range hl] at hi
    cases hi
    exact rd_i
  stop := fun i G' H' e hr g hi => by simpa [rngD, Itc] using hi
def Ri (i : Int) : Prop := -(2 ^ 62) ≤ i ∧ i < 2 ^ 62
def diR1 (ta : DTA) : DTI := fun E δ G R => ta E δ G fun ds G1 => match ds with
  | [.int j] => Ri j ∧ R (rngD 0 1 j.toNat) gdT G1
  | _ => False
def diR2 (ta : DTA) : DTI := fun E δ G R => ta E δ G fun ds G1 => match ds with
  | [.int i, .int j] => Ri i ∧ Ri j ∧ R (rngD i 1 (j - i).toNat) gdT G1
  | _ => False
def diR3 (ta : DTA) : DTI := fun E δ G R => ta E δ G fun ds G1 => match ds with
  | [.int i, .int j, .int c] => ∃ n, RgC i j c n ∧ R (rngD i c n) gdT G1
  | _ => False
variable {a b c : Expr} {ta : DTA} {p pos : Pos}
theorem di_range1 (ha : DA X W [a] ta) (hm : X.mg "range" = none) (hg : Gl X "range" := by rfl) (hs : starEach [a] X.env = [(false, eval a X.env)] := by rfl) : DI X W tg (.Call (.Name "range" p) [a] [] pos) (diR1 ta) :=
  di_of (fun E E' δ G R R' j i h => ha.mono _ _ _ _ _ _ j (fun ds G1 q => by
    split at q
    · exact ⟨q.1, i _ _ _ q.2⟩
    · exact q.elim) h) (pi_range1 hg hm ha.pa hs) fun σ H R δ G r h => ha.use DXW.le_refl r h fun ds G1 vs H1 h1 e1 r1 d1 => by
    split at h1
    · obtain ⟨v, e, rd⟩ := rds1 d1
      exact ⟨_, by rw [e, rd_int rd], h1.1.1, h1.1.2, h1.2 _ _ e1 r1.hr itr_rng⟩
    · exact h1.elim
theorem di_range2 (ha : DA X W [a, b] ta) (hm : X.mg "range" = none) (hg : Gl X "range" := by rfl) (hs : starEach [a, b] X.env = [(false, eval a X.env), (false, eval b X.env)] := by rfl) (hs2 : starEach [b] X.env = [(false, eval b X.env)] := by rfl) : DI X W tg (.Call (.Name "range" p) [a, b] [] pos) (diR2 ta) :=
  di_of (fun E E' δ G R R' j i h => ha.mono _ _ _ _ _ _ j (fun ds G1 q => by
    split at q
    · exact ⟨q.1, q.2.1, i _ _ _ q.2.2⟩
    · exact q.elim) h) (pi_range2 hg hm ha.pa hs hs2) fun σ H R δ G r h => ha.use DXW.le_refl r h fun ds G1 vs H1 h1 e1 r1 d1 => by
    split at h1
    · obtain ⟨v, w, e, rd, rd2⟩ := rds2 d1
      exact ⟨_, _, by rw [e, rd_int rd, rd_int rd2], ⟨h1.1.1, h1.1.2, h1.2.1.1, h1.2.1.2⟩, h1.2.2 _ _ e1 r1.hr itr_rng⟩
    · exact h1.elim
theorem di_range3 (ha : DA X W [a, b, c] ta) (hm : X.mg "range" = none) (hg : Gl X "range" := by rfl) (hs : starEach [a, b, c] X.env = (false, eval a X.env) :: starEach [b, c] X.env := by rfl) (hpl : (backTo pos (starEach [b, c] X.env)).any (·.1) = false := by rfl) : DI X W tg (.Call (.Name "range" p) [a, b, c] [] pos) (diR3 ta) :=
  di_of (fun E E' δ G R R' j i h => ha.mono _ _ _ _ _ _ j (fun ds G1 q => by
    split at q
    · obtain ⟨n, q1, q2⟩ := q
      exact ⟨n, q1, i _ _ _ q2⟩
    · exact q.elim) h) (pi_range3 hg hm ha.pa hs hpl) fun σ H R δ G r h => ha.use DXW.le_refl r h fun ds G1 vs H1 h1 e1 r1 d1 => by
    split at h1
    · obtain ⟨v, w, z, e, rd, rd2, rd3⟩ := rds3 d1
      obtain ⟨n, q1, q2⟩ := h1
      exact ⟨_, _, _, n, by rw [e, rd_int rd, rd_int rd2, rd_int rd3], q1, q2 _ _ e1 r1.hr itr_rngc⟩
    · exact h1.elim
/-! ### enumerate, zip -/
def enumD (xs : List D) : List D := xs.mapIdx fun i d => .tup [.int (i : Nat), d]
theorem two_le : (2 : Nat) ≤ sizeLine := by decide
theorem pair_new {K : Frag} {G : DHp} {H : Hp} {T : Addr} {d e : D} {v w : V} (hr : HR K G H) (hT : H T = none) (r1 : RD K G H d v) (r2 : RD K G H e w) : Ext G H G (upd H T (.tup [v, w])) ∧ HR K G (upd H T (.tup [v, w])) ∧ RD K G (upd H T (.tup [v, w])) (.tup [d, e]) (.ref T) :=
  ⟨Ext.new hT, hr.new hT, tup_new hT two_le (.cons r1 (.cons r2 .nil))⟩
theorem itr_enum {K : Frag} {G : DHp} {H : Hp} {d : D} {a : Addr} {xs : List D} (n : isT d = false) (r : RD K G H d (.ref a)) : ItR K (Ite K a) (gdS d xs) (enumD xs) G H where
  go := fun i G' H' e hr g hi => by
    obtain ⟨ws, h1, h2⟩ := gdS_L n r e hr g
    have hl := h2.length
    unfold enumD at hi
    rw [List.length_mapIdx] at hi
    exact ⟨ws, ws[i]'(by omega), h1, List.getElem?_eq_getElem _⟩
  yld := fun i G' H' x H2 d e hr g hi ⟨T, y, y1, y2, y3, y4⟩ => by
    subst y1 y3
    obtain ⟨ws, h1, h2⟩ := gdS_L n r e hr g
    unfold enumD at hi
    rw [List.getElem?_mapIdx] at hi
    cases e2 : xs[i]? with
    | none => rw [e2] at hi; cases hi
    | some d' =>
      rw [e2] at hi
      cases hi
      obtain ⟨v, f1, f2⟩ := h2.get e2
      have f3 := y4 ws h1
      rw [f1] at f3
      cases f3
      exact pair_new hr y2 rd_i f2
  stop := fun i G' H' e hr g hi => by
    obtain ⟨ws, h1, h2⟩ := gdS_L n r e hr g
    have hl := h2.length
    unfold enumD at hi
    rw [List.length_mapIdx] at hi
    exact ⟨ws, h1, by omega⟩
def diEn (ta : DTA) : DTI := fun E δ G R => ta E δ G fun ds G1 => match ds with
  | [d] => isT d = false ∧ ∃ xs, asS G1 d = some xs ∧ R (enumD xs) (gdS d xs) G1
  | _ => False
theorem di_enum {tpos : Pos} {elts : List Expr} {kk : Nat} (ha : DA X W [a] ta) (hm : X.mg "enumerate" = none) (hg : Gl X "enumerate" := by rfl) (hs : starEach [a] X.env = [(false, eval a X.env)] := by rfl) : DI X W (.Tuple elts kk tpos) (.Call (.Name "enumerate" p) [a] [] pos) (diEn ta) :=
  di_of (fun E E' δ G R R' j i h => ha.mono _ _ _ _ _ _ j (fun ds G1 q => by
    split at q
    · obtain ⟨n, xs, q1, q2⟩ := q
      exact ⟨n, xs, q1, i _ _ _ q2⟩
    · exact q.elim) h) (pi_enum hg hm ha.pa hs) fun σ H R δ G r h => ha.use DXW.le_refl r h fun ds G1 vs H1 h1 e1 r1 d1 => by
    split at h1
    · obtain ⟨v, e, rd⟩ := rds1 d1
      obtain ⟨n, xs, q1, q2⟩ := h1
      obtain ⟨a, ws, f1, f2, f3, f4⟩ := asS_sq r1.hr rd q1
      subst f1
      obtain ⟨zs, g1, g2⟩ := gdS_L n rd .refl r1.hr q1
      exact ⟨a, zs, e, g1, q2 _ _ e1 r1.hr (itr_enum n rd)⟩
    · exact h1.elim
def zipD (xs ys : List D) : List D := List.zipWith (fun d e => .tup [d, e]) xs ys
theorem zipD_get {xs ys : List D} {i : Nat} {d : D} (h : (zipD xs ys)[i]? = some d) : ∃ x y, xs[i]? = some x ∧ ys[i]? = some y ∧ d = .tup [x, y] := by
  unfold zipD at h
  rw [List.getElem?_zipWith] at h
  split at h
  · rename_i x y e1 e2
    exact ⟨x, y, e1, e2, (Option.some.inj h).symm⟩
  · cases h
theorem zipD_len {xs ys : List D} : (zipD xs ys).length = min xs.length ys.length := by unfold zipD; rw [List.length_zipWith]
def gdZ (d e : D) (xs ys : List D) : DHp → Prop := fun G => gdS d xs G ∧ gdS e ys G
theorem itr_zip {K : Frag} {G : DHp} {H : Hp} {d e : D} {a b : Addr} {xs ys : List D} (n : isT d = false) (m : isT e = false) (r : RD K G H d (.ref a)) (r' : RD K G H e (.ref b)) : ItR K (Itz K a b) (gdZ d e xs ys) (zipD xs ys) G H where
  go := fun i G' H' e hr g hi => by
    obtain ⟨ws, h1, h2⟩ := gdS_L n r e hr g.1
    obtain ⟨zs, h3, h4⟩ := gdS_L m r' e hr g.2
    have hl := h2.length
    have hl2 := h4.length
    rw [zipD_len] at hi
    exact ⟨ws, zs, ws[i]'(by omega), zs[i]'(by omega), h1, h3, List.getElem?_eq_getElem _, List.getElem?_eq_getElem _⟩
  yld := fun i G' H' x H2 d e hr g hi ⟨T, y, y', y1, y2, y3, y4, y5⟩ => by
    subst y1 y3
    obtain ⟨ws, h1, h2⟩ := gdS_L n r e hr g.1
    obtain ⟨zs, h3, h4⟩ := gdS_L m r' e hr g.2
    obtain ⟨dx, dy, k1, k2, k3⟩ := zipD_get hi
    subst k3
    obtain ⟨v, f1, f2⟩ := h2.get k1
    obtain ⟨w, f3, f4⟩ := h4.get k2
    have f5 := y4 ws h1
    have f6 := y5 zs h3
    rw [f1] at f5
    rw [f3] at f6
    cases f5
    cases f6
    exact pair_new hr y2 f2 f4
  stop := fun i G' H' e hr g hi => by
    obtain ⟨ws, h1, h2⟩ := gdS_L n r e hr g.1
    obtain ⟨zs, h3, h4⟩ := gdS_L m r' e hr g.2
    have hl := h2.length
    have hl2 := h4.length
    rw [zipD_len] at hi
    exact ⟨ws, zs, h1, h3, by omega⟩
theorem itr_zipT {K : Frag} {G : DHp} {H : Hp} {d e : D} {a b : Addr} {xs ys : List D} (n : isT d = true) (m : isT e = true) (r : RD K G H d (.ref a)) (r' : RD K G H e (.ref b)) : ItR K (RZ.ItzT K a b) (gdZ d e xs ys) (zipD xs ys) G H where
  go := fun i G' H' e hr g hi => by
    obtain ⟨ws, h1, h2⟩ := gdS_T n r e hr g.1
    obtain ⟨zs, h3, h4⟩ := gdS_T m r' e hr g.2
    have hl := h2.length
    have hl2 := h4.length
    rw [zipD_len] at hi
    exact ⟨ws, zs, ws[i]'(by omega), zs[i]'(by omega), h1, h3, List.getElem?_eq_getElem _, List.getElem?_eq_getElem _⟩
  yld := fun i G' H' x H2 d e hr g hi ⟨T, y, y', y1, y2, y3, y4, y5⟩ => by
    subst y1 y3
    obtain ⟨ws, h1, h2⟩ := gdS_T n r e hr g.1
    obtain ⟨zs, h3, h4⟩ := gdS_T m r' e hr g.2
    obtain ⟨dx, dy, k1, k2, k3⟩ := zipD_get hi
    subst k3
    obtain ⟨v, f1, f2⟩ := h2.get k1
    obtain ⟨w, f3, f4⟩ := h4.get k2
    have f5 := y4 ws h1
    have f6 := y5 zs h3
    rw [f1] at f5
    rw [f3] at f6
    cases f5
    cases f6
    exact pair_new hr y2 f2 f4
  stop := fun i G' H' e hr g hi => by
    obtain ⟨ws, h1, h2⟩ := gdS_T n r e hr g.1
    obtain ⟨zs, h3, h4⟩ := gdS_T m r' e hr g.2
    have hl := h2.length
    have hl2 := h4.length
    rw [zipD_len] at hi
    exact ⟨ws, zs, h1, h3, by omega⟩
def diZip (ta : DTA) : DTI := fun E δ G R => ta E δ G fun ds G1 => match ds with
  | [d, e] => isT d = isT e ∧ ∃ xs ys, asS G1 d = some xs ∧ asS G1 e = some ys ∧ R (zipD xs ys) (gdZ d e xs ys) G1
  | _ => False
theorem di_zip {tpos : Pos} {elts : List Expr} {kk : Nat} (ha : DA X W [a, b] ta) (hm : X.mg "zip" = none) (hg : Gl X "zip" := by rfl) (hs : starEach [a, b] X.env = (false, eval a X.env) :: starEach [b] X.env := by rfl) (hpl : (backTo pos (starEach [b] X.env)).any (·.1) = false := by rfl) :
    DI X W (.Tuple elts kk tpos) (.Call (.Name "zip" p) [a, b] [] pos) (diZip ta) :=
  di_of (fun E E' δ G R R' j i h => ha.mono _ _ _ _ _ _ j (fun ds G1 q => by
    split at q
    · obtain ⟨n, xs, ys, q1, q2, q3⟩ := q
      exact ⟨n, xs, ys, q1, q2, i _ _ _ q3⟩
    · exact q.elim) h) (RZ.pi_zipA hg hm ha.pa hs hpl) fun σ H R δ G r h => ha.use DXW.le_refl r h fun ds G1 vs H1 h1 e1 r1 d1 => by
    split at h1
    · rename_i d e
      obtain ⟨v, w, ee, rd, rd2⟩ := rds2 d1
      obtain ⟨n, xs, ys, q1, q2, q3⟩ := h1
      obtain ⟨a, ws, f1, f2, f3, f4⟩ := asS_sq r1.hr rd q1
      obtain ⟨b, ws', f1', f2', f3', f4'⟩ := asS_sq r1.hr rd2 q2
      subst f1 f1'
      cases m : isT d with
      | false =>
        rw [m] at n
        obtain ⟨zs, g1, g2⟩ := gdS_L m rd .refl r1.hr q1
        obtain ⟨zs', g1', g2'⟩ := gdS_L n.symm rd2 .refl r1.hr q2
        exact ⟨a, b, zs, zs', ee, .inl ⟨g1, g1', q3 _ _ e1 r1.hr (itr_zip m n.symm rd rd2)⟩⟩
      | true =>
        rw [m] at n
        obtain ⟨zs, g1, g2⟩ := gdS_T m rd .refl r1.hr q1
        obtain ⟨zs', g1', g2'⟩ := gdS_T n.symm rd2 .refl r1.hr q2
        exact ⟨a, b, zs, zs', ee, .inr ⟨g1, g1', q3 _ _ e1 r1.hr (itr_zipT m n.symm rd rd2)⟩⟩
    · exact h1.elim
end
/-! ### for -/
def forL (g : DTG) (tb : DTS) (gd : DHp → Prop) (D : DEnds) : List DL.D → DSt → DHp → Prop
  | [] => fun δ G => gd G ∧ D.nx δ G
  | x :: xs => fun δ G => gd G ∧ g D.xc x δ G fun δ' G' => tb { D with nx := forL g tb gd D xs, ct := forL g tb gd D xs, bk := D.nx } δ' G'
def dFor (wi : DTI) (g : DTG) (tb : DTS) : DTS := fun D δ G => wi D.xc δ G fun xs gd G1 => forL g tb gd D xs δ G1
theorem forL_gd {g : DTG} {tb : DTS} {gd : DHp → Prop} {D : DEnds} {xs : List DL.D} {δ : DSt} {G : DHp} (h : forL g tb gd D xs δ G) : gd G := by
  cases xs <;> exact h.1
section
variable {X : Cx} {W : WX} {vs : List Nat} {tg iter : Expr} {body : List Stmt} {wi : DTI} {g : DTG} {tb : DTS} {pos : Pos}
theorem forL_mono (hg : DG X W vs tg g) (hb : DSs X W body tb) {gd : DHp → Prop} {D D' : DEnds} (l : D.le D') : ∀ (xs : List DL.D) (δ : DSt) (G : DHp), forL g tb gd D xs δ G → forL g tb gd D' xs δ G
  | [], δ, G, h => ⟨h.1, l.1 _ _ h.2⟩
  | x :: xs, δ, G, h => ⟨h.1, hg.mono _ _ _ _ _ _ _ l.2.2.1 (fun δ' G' q => hb.mono _ _ { D with nx := forL g tb gd D xs, ct := forL g tb gd D xs, bk := D.nx } _ ⟨fun _ _ z => forL_mono hg hb l xs _ _ z, l.2.1, l.2.2.1, l.1, fun _ _ z => forL_mono hg hb l xs _ _ z⟩ q) h.2⟩
theorem ds_for (vs : List Nat) (hp : PassesOwn (model X.prog X.w) X.A X.env X.xe) (hc : X.calm = true) (hi : DI X W tg iter wi) (hg : DG X W vs tg g) (hb : DSs X W body tb)
    (hs : ∀ x, foldedSetIterable iter X.env x = pure x := by intro _; rfl) : DS X W (.For tg iter body [] pos) (dFor wi g tb) :=
  ds_of (fun δ G D D' l h => hi.mono _ _ _ _ _ _ l.2.2.1 (fun xs gd G1 q => forL_mono hg hb l xs _ _ q) h) (ps_for hp hc hi.pi hg.pg hb.pss hs) fun D σ H δ G r h => by
    refine ⟨δ, G, r, hi.mono _ _ _ _ _ _ DXW.le_refl (fun xs gd G1 q J H1 e1 hr1 it => ?_) h⟩
    refine ⟨fun i m σ' H' => ∃ δ' G', Ext G1 H1 G' H' ∧ Rel X.K δ' G' σ' H' ∧ m = xs.length - i ∧ i ≤ xs.length ∧ forL g tb gd (upD X.K G H W D) (xs.drop i) δ' G', ⟨xs.length, δ, G1, .refl, r.ext e1 hr1, by omega, by omega, by rw [List.drop_zero]; exact q⟩, ?_⟩
    rintro i m σ2 H2 ⟨δ2, G2, e2, r2, em, hi2, f2⟩
    by_cases c : i < xs.length
    · rw [List.drop_eq_getElem_cons c] at f2
      have e12 := e1.trans e2
      refine .inr ⟨it.go i G2 H2 e2 r2.hr f2.1 c, fun σ' H' => ∃ m', m' < m ∧ ∃ δ' G', Ext G1 H1 G' H' ∧ Rel X.K δ' G' σ' H' ∧ m' = xs.length - (i + 1) ∧ i + 1 ≤ xs.length ∧ forL g tb gd (upD X.K G H W D) (xs.drop (i + 1)) δ' G', fun σ' H' z => z, fun x H3 y3 => ?_⟩
      obtain ⟨e3, hr3, rd3⟩ := it.yld i G2 H2 x H3 _ e2 r2.hr f2.1 (List.getElem?_eq_getElem c) y3
      refine ⟨xs[i], δ2, G2, r2.ext e3 hr3, rd3, hg.mono _ _ _ _ _ _ _ (upW.shift (e12.trans e3)) (fun δ4 G4 q4 σ4 H4 e4 r4 _ => ?_) f2.2⟩
      have e14 := ((e12.trans e3).trans e4)
      refine ⟨δ4, G4, r4, hb.mono _ _ _ _ ?_ q4⟩
      have nn : ∀ δ' G', forL g tb gd (upD X.K G H W D) (xs.drop (i + 1)) δ' G' → upN X.K G4 H4 (fun σ' H' => ∃ m', m' < m ∧ ∃ δ' G', Ext G1 H1 G' H' ∧ Rel X.K δ' G' σ' H' ∧ m' = xs.length - (i + 1) ∧ i + 1 ≤ xs.length ∧ forL g tb gd (upD X.K G H W D) (xs.drop (i + 1)) δ' G') δ' G' :=
        fun δ' G' z σ' H' e' r' => ⟨xs.length - (i + 1), by omega, δ', G', ((e2.trans e3).trans e4).trans e', r', rfl, c, z⟩
      exact ⟨nn, fun _ _ z => z.shift e14, upW.shift e14, fun _ _ z => z.shift e14, nn⟩
    · have ei : i = xs.length := by omega
      rw [List.drop_eq_nil_of_le (by omega)] at f2
      exact .inl ⟨it.stop i G2 H2 e2 r2.hr f2.1 (by omega), f2.2 _ _ (e1.trans e2) r2⟩
end
end DL
set_option Elab.async false
set_option linter.all false
set_option maxRecDepth 100000
set_option maxHeartbeats 4000000
/-! DL8: list comprehensions. -/
namespace DL
open PySem PySem.Spec PyProof.Rows L2
def E0 : DXW := fun _ _ _ _ => False
abbrev W0 : WX := fun _ _ _ _ => False
theorem E0_le {E : DXW} : E0.le E := fun _ _ _ _ h => h.elim
structure DTs (X : Cx) (W : WX) (ifs : List Expr) (t : DTT) : Prop where
  mono : MonT t
  pts : PTs X ifs (liftT X.K W t)
def dYes : DTT := fun E δ G Q => Q true G
theorem dts_nil {X : Cx} {W : WX} : DTs X W [] dYes := ⟨fun _ _ _ _ _ _ _ i h => i _ _ h, ⟨fun pins s σ H Q I ⟨δ, G, r, h⟩ => pts_nil.run pins s σ H Q I (h H .refl r.hr)⟩⟩
theorem dts_one {X : Cx} {W : WX} {c : Expr} {t : DTT} (h : DT X W c t) : DTs X W [c] t := ⟨h.mono, pts_one h.pt⟩
def wipeD (δ : DSt) : List Nat → DSt
  | [] => δ
  | v :: vs => (wipeD δ vs).set v none
theorem Rel.wipe {K : Frag} {δ : DSt} {G : DHp} {σ : St} {H : Hp} (r : Rel K δ G σ H) : ∀ vs : List Nat, Rel K (wipeD δ vs) G (L2.wipe σ vs) H
  | [] => r
  | v :: vs => (Rel.wipe r vs).unset v
theorem wipe_get {σ : St} {i : Nat} : ∀ {vs : List Nat}, i ∈ vs → (L2.wipe σ vs)[i]? = if i < σ.length then some none else none := by
  intro vs h
  split
  · rename_i hl
    cases e : (L2.wipe σ vs)[i]? with
    | none => rw [List.getElem?_eq_none_iff, wipe_length] at e; omega
    | some o =>
      cases o with
      | none => rfl
      | some x => exact absurd h (wipe_some e).2
  · exact List.getElem?_eq_none (by rw [wipe_length]; omega)
theorem wipe_wipe (σ : St) (vs : List Nat) : L2.wipe (L2.wipe σ vs) vs = L2.wipe σ vs := by
  apply List.ext_getElem?
  intro j
  by_cases c : j ∈ vs
  · rw [wipe_get c, wipe_get c, wipe_length]
  · rw [wipe_out c]
def lcEnd (m : Bool) (p : Addr) (acc : List D) (G : DHp) (Q : DK) : Prop := G p = some (.lst acc) ∧ match m with
  | false => Q (.lst acc) (delD G p)
  | true => Q (.ref p) G
def lcL (m : Bool) (p : Addr) (vs : List Nat) (g : DTG) (tt : DTT) (te : DTE) (gd : DHp → Prop) (δ : DSt) (Q : DK) : List D → List D → DHp → Prop
  | [], acc, G => gd G ∧ lcEnd m p acc G Q
  | x :: xs, acc, G => gd G ∧ g E0 x (wipeD δ vs) G fun δ2 G2 => tt E0 δ2 G2 fun b G3 =>
      if b = true then te E0 δ2 G3 fun y G4 => G4 p = some (.lst acc) ∧ acc.length < sizeLine ∧ lcL m p vs g tt te gd δ Q xs (acc ++ [y]) (updD G4 p (.lst (acc ++ [y])))
      else lcL m p vs g tt te gd δ Q xs acc G3
def dLc (m : Bool) (vs : List Nat) (wi : DTI) (g : DTG) (tt : DTT) (te : DTE) : DTE := fun E δ G Q => wi E δ G fun xs gd G1 => ∀ p, G1 p = none → lcL m p vs g tt te gd δ Q xs [] (updD G1 p (.lst []))
theorem lcEnd_mono {m : Bool} {p : Addr} {acc : List D} {G : DHp} {Q Q' : DK} (i : ∀ d G, Q d G → Q' d G) (h : lcEnd m p acc G Q) : lcEnd m p acc G Q' := by
  cases m with
  | false => exact ⟨h.1, i _ _ h.2⟩
  | true => exact ⟨h.1, i _ _ h.2⟩
theorem lcEnd_use {K : Frag} {m : Bool} {p : Addr} {acc : List D} {G G0 : DHp} {H H0 : Hp} {Q : VK} (hr : HR K G H) (e : Ext G0 H0 G H) (h : lcEnd m p acc G (upE K G0 H0 Q)) : Q (.ref p) H := by
  obtain ⟨ws, e1, e2, e3⟩ := hr p _ h.1
  cases m with
  | false =>
    refine h.2 _ _ (e.trans Ext.del) hr.del ?_
    unfold RD
    exact ⟨p, ws, rfl, delD_same, e1, e2, e3.ext Ext.del⟩
  | true => exact h.2 _ _ e hr (by unfold RD; rfl)
/-- one more at p -/
theorem put_lst {K : Frag} {G : DHp} {H : Hp} {p : Addr} {acc : List D} {ws : List V} {d : D} {v : V} (hr : HR K G H) (hg : G p = some (.lst acc)) (hl : acc.length < sizeLine) (r : RD K G H d v) (hw : H p = some (.lst ws)) (rs : RDs K G H acc ws) :
    Ext G H (updD G p (.lst (acc ++ [d]))) (upd H p (.lst (ws ++ [v]))) ∧ HR K (updD G p (.lst (acc ++ [d]))) (upd H p (.lst (ws ++ [v]))) := by
  have hl2 := rs.length
  have ex := Ext.put (u := .lst (ws ++ [v])) (o' := .lst (acc ++ [d])) hr hg
  exact ⟨ex, hr.put hg rfl ⟨_, upd_same, by rw [List.length_append, List.length_singleton]; omega, (rs.append (.cons r .nil)).ext ex⟩⟩
section
variable {X : Cx} {W : WX} {m : Bool} {elt tg iter : Expr} {ifs : List Expr} {scope : Scope} {own : List (Str × Nat)} {pos spos : Pos} {wi : DTI} {g : DTG} {tt : DTT} {te : DTE} {vs : List Nat}
theorem lcL_mono (mg : ∀ E E' d δ G Q Q', E.le E' → (∀ δ G, Q δ G → Q' δ G) → g E d δ G Q → g E' d δ G Q') (mt : MonT tt) (me : MonE te) {p : Addr} {gd : DHp → Prop} {δ : DSt} {Q Q' : DK} (i : ∀ d G, Q d G → Q' d G) :
    ∀ (xs acc : List D) (G : DHp), lcL m p vs g tt te gd δ Q xs acc G → lcL m p vs g tt te gd δ Q' xs acc G
  | [], acc, G, h => ⟨h.1, lcEnd_mono i h.2⟩
  | x :: xs, acc, G, h => ⟨h.1, mg _ _ _ _ _ _ _ DXW.le_refl (fun δ2 G2 h2 => mt _ _ _ _ _ _ DXW.le_refl (fun b G3 h3 => by
      cases b with
      | true =>
        rw [if_pos rfl] at h3 ⊢
        exact me _ _ _ _ _ _ DXW.le_refl (fun y G4 h4 => ⟨h4.1, h4.2.1, lcL_mono mg mt me i xs _ _ h4.2.2⟩) h3
      | false =>
        rw [if_neg Bool.false_ne_true] at h3 ⊢
        exact lcL_mono mg mt me i xs _ _ h3) h2) h.2⟩
theorem dLc_mono (mi : MonI wi) (mg : ∀ E E' d δ G Q Q', E.le E' → (∀ δ G, Q δ G → Q' δ G) → g E d δ G Q → g E' d δ G Q') (mt : MonT tt) (me : MonE te) : MonE (dLc m vs wi g tt te) := fun E E' δ G Q Q' j i h =>
  mi _ _ _ _ _ _ j (fun xs gd G1 h1 p hp => lcL_mono mg mt me i _ _ _ (h1 p hp)) h
/-- from the reading over data to that over values -/
theorem lc_link {K : Frag} (mi : MonI wi) (mg : ∀ E E' d δ G Q Q', E.le E' → (∀ δ G, Q δ G → Q' δ G) → g E d δ G Q → g E' d δ G Q') (mt : MonT tt) (me : MonE te) {σ : St} {H : Hp} {δ : DSt} {G : DHp} {Q : VK} (r : Rel K δ G σ H)
    (h : dLc m vs wi g tt te (upW K G H W) δ G (upE K G H Q)) : tLc (liftI K W wi) (liftG K W0 vs g) (liftT K W0 tt) (liftE K W0 te) vs σ H Q := by
  refine ⟨δ, G, r, mi _ _ _ _ _ _ DXW.le_refl (fun xs gd G1 q J H1 e1 hr1 it p hp => ?_) h⟩
  have q := q p (hr1.none hp)
  have en := Ext.newT (u := .lst []) (o := .lst []) hr1 hp
  have hrn : HR K (updD G1 p (.lst [])) (upd H1 p (.lst [])) := hr1.newT hp ⟨[], upd_same, Nat.zero_le _, .nil⟩
  refine ⟨fun i m' H' => ∃ acc G', Ext G1 H1 G' H' ∧ HR K G' H' ∧ m' = xs.length - i ∧ i ≤ xs.length ∧ lcL m p vs g tt te gd δ (upE K G H Q) (xs.drop i) acc G', ⟨xs.length, [], _, en, hrn, by omega, by omega, by rw [List.drop_zero]; exact q⟩, ?_⟩
  rintro i m' H2 ⟨acc, G2, e2, hr2, em, hi2, f2⟩
  have e02 := e1.trans e2
  by_cases c : i < xs.length
  · rw [List.drop_eq_getElem_cons c] at f2
    refine .inr ⟨it.go i G2 H2 e2 hr2 f2.1 c, fun H' => ∃ acc G', Ext G1 H1 G' H' ∧ HR K G' H' ∧ lcL m p vs g tt te gd δ (upE K G H Q) (xs.drop (i + 1)) acc G', fun H' ⟨acc', G', z1, z2, z3⟩ => ⟨_, by omega, acc', G', z1, z2, rfl, c, z3⟩, fun x H3 y3 => ?_⟩
    obtain ⟨e3, hr3, rd3⟩ := it.yld i G2 H2 x H3 _ e2 hr2 f2.1 (List.getElem?_eq_getElem c) y3
    have r3 := (r.ext (e02.trans e3) hr3).wipe vs
    refine ⟨xs[i], wipeD δ vs, G2, r3, rd3, mg _ _ _ _ _ _ _ E0_le (fun δ4 G4 q4 σ4 H4 e4 r4 hw => ⟨by rw [hw]; exact DL.wipe_wipe _ _, ?_⟩) f2.2⟩
    refine ⟨δ4, G4, r4, mt _ _ _ _ _ _ E0_le (fun b G5 q5 H5 e5 hr5 => ?_) q4⟩
    have r5 := r4.ext e5 hr5
    have e15 := ((e2.trans e3).trans e4).trans e5
    cases b with
    | true =>
      dsimp only
      rw [if_pos rfl] at q5 ⊢
      refine ⟨δ4, G5, r5, me _ _ _ _ _ _ E0_le (fun y G6 q6 v H6 e6 hr6 rd6 => ?_) q5⟩
      obtain ⟨k1, k2, k3⟩ := q6
      obtain ⟨ws, w1, w2, w3⟩ := hr6 p _ k1
      obtain ⟨ep, hrp⟩ := put_lst hr6 k1 k2 rd6 w1 w3
      exact ⟨ws, w1, by rw [← w3.length]; exact k2, acc ++ [y], _, (e15.trans e6).trans ep, hrp, k3⟩
    | false =>
      dsimp only
      rw [if_neg Bool.false_ne_true] at q5 ⊢
      exact ⟨acc, G5, e15, hr5, q5⟩
  · rw [List.drop_eq_nil_of_le (by omega)] at f2
    exact .inl ⟨it.stop i G2 H2 e2 hr2 f2.1 (by omega), lcEnd_use hr2 e02 f2.2⟩
abbrev Blk (X : Cx) (scope : Scope) (s : Shared) (H : Hp) (C : Addr) (cl : List (Str × Addr)) (fp : List Addr) : Cx := X.blk s H scope (compEnvC scope cl C X.env) fp
theorem de_lc (m : Bool) (hc : X.calm = true) (hN : X.N.Nodup) (own : List (Str × Nat)) (ok : BlkOk X.N X.env.scope scope own) (hi : DI X W tg iter wi)
    (hg : ∀ s H C cl fp, DG (Blk X scope s H C cl fp) W0 (own.map (·.2)) tg g) (ht : ∀ s H C cl fp, DTs (Blk X scope s H C cl fp) W0 ifs tt)
    (he : ∀ s H C cl fp, DE (Blk X scope s H C cl fp) W0 elt te) (hs : ∀ x, foldedSetIterable iter X.env x = pure x := by intro _; rfl) :
    DE X W (.ListComp elt [⟨tg, iter, ifs, 0⟩] scope pos) (dLc m (own.map (·.2)) wi g tt te) :=
  let s₀ : Shared := X.s_0
  let H₀ : Hp := fun _ => none
  have mg := (hg s₀ H₀ 0 [] []).mono
  have mt := (ht s₀ H₀ 0 [] []).mono
  have me := (he s₀ H₀ 0 [] []).mono
  de_of (dLc_mono hi.mono mg mt me) (pe_lc hc hN hi.pi ok (fun s H C cl fp => (hg s H C cl fp).pg) (fun s H C cl fp => (ht s H C cl fp).pts) (fun s H C cl fp => (he s H C cl fp).pe) hs)
    fun σ H Q δ G r h => lc_link hi.mono mg mt me r h
theorem ds_setLc (m : Bool) (i : Nat) {y : Str} {py : Pos} (hc : X.calm = true) (hN : X.N.Nodup) (own : List (Str × Nat)) (ok : BlkOk X.N X.env.scope scope own) (hi : DI X W tg iter wi)
    (hg : ∀ s H C cl fp, DG (Blk X scope s H C cl fp) W0 (own.map (·.2)) tg g) (ht : ∀ s H C cl fp, DTs (Blk X scope s H C cl fp) W0 ifs tt)
    (he : ∀ s H C cl fp, DE (Blk X scope s H C cl fp) W0 elt te)
    (hy : X.N[i]? = some y := by rfl) (hyl : X.env.scope.names.lookup y = some .local := by rfl)
    (hsw : swapsWith (.ListComp elt [⟨tg, iter, ifs, 0⟩] scope pos) (some (.Name y py)) spos.line X.env = pure true := by rfl) (hs : ∀ x, foldedSetIterable iter X.env x = pure x := by intro _; rfl) :
    DS X W (.Assign [.Name y py] (.ListComp elt [⟨tg, iter, ifs, 0⟩] scope pos) spos) (dSet i (dLc m (own.map (·.2)) wi g tt te)) :=
  let s₀ : Shared := X.s_0
  let H₀ : Hp := fun _ => none
  have mg := (hg s₀ H₀ 0 [] []).mono
  have mt := (ht s₀ H₀ 0 [] []).mono
  have me := (he s₀ H₀ 0 [] []).mono
  have md : MonE (dLc m (own.map (·.2)) wi g tt te) := dLc_mono hi.mono mg mt me
  ds_of (dSet_mono md) (ps_setLc hc hN hy hyl hsw hi.pi ok (fun s H C cl fp => (hg s H C cl fp).pg) (fun s H C cl fp => (ht s H C cl fp).pts) (fun s H C cl fp => (he s H C cl fp).pe) hs)
    fun D σ H δ G r h => lc_link (W := W) (Q := fun x H1 => gName i x σ H1 D.nx) hi.mono mg mt me r (md _ _ _ _ _ _ DXW.le_refl (fun d G' q v H' e hr rd => q _ _ e ((r.ext e hr).set i rd)) h)
end
/-! ### two clauses -/
def lcIn (p : Addr) (vs : List Nat) (g : DTG) (tt : DTT) (te : DTE) (gd : DHp → Prop) (δ : DSt) (k : List D → DHp → Prop) : List D → List D → DHp → Prop
  | [], acc, G => gd G ∧ k acc G
  | x :: xs, acc, G => gd G ∧ g E0 x (wipeD δ vs) G fun δ2 G2 => tt E0 δ2 G2 fun b G3 =>
      if b = true then te E0 δ2 G3 fun y G4 => G4 p = some (.lst acc) ∧ acc.length < sizeLine ∧ lcIn p vs g tt te gd δ k xs (acc ++ [y]) (updD G4 p (.lst (acc ++ [y])))
      else lcIn p vs g tt te gd δ k xs acc G3
def lcL2 (m : Bool) (p : Addr) (vs vs1 : List Nat) (g : DTG) (tt : DTT) (wi1 : DTI) (g1 : DTG) (tt1 : DTT) (te : DTE) (gd : DHp → Prop) (δ : DSt) (Q : DK) : List D → List D → DHp → Prop
  | [], acc, G => gd G ∧ lcEnd m p acc G Q
  | x :: xs, acc, G => gd G ∧ g E0 x (wipeD δ vs) G fun δ2 G2 => tt E0 δ2 G2 fun b G3 =>
      if b = true then wi1 E0 δ2 G3 fun ys gd1 G4 => lcIn p vs1 g1 tt1 te gd1 δ2 (lcL2 m p vs vs1 g tt wi1 g1 tt1 te gd δ Q xs) ys acc G4
      else lcL2 m p vs vs1 g tt wi1 g1 tt1 te gd δ Q xs acc G3
def dLc2 (m : Bool) (vs vs1 : List Nat) (wi : DTI) (g : DTG) (tt : DTT) (wi1 : DTI) (g1 : DTG) (tt1 : DTT) (te : DTE) : DTE := fun E δ G Q => wi E δ G fun xs gd G1 => ∀ p, G1 p = none → lcL2 m p vs vs1 g tt wi1 g1 tt1 te gd δ Q xs [] (updD G1 p (.lst []))
abbrev MonG (g : DTG) : Prop := ∀ E E' d δ G Q Q', E.le E' → (∀ δ G, Q δ G → Q' δ G) → g E d δ G Q → g E' d δ G Q'
section
variable {m : Bool} {wi wi1 : DTI} {g g1 : DTG} {tt tt1 : DTT} {te : DTE} {vs vs1 : List Nat}
theorem lcIn_mono (mg : MonG g) (mt : MonT tt) (me : MonE te) {p : Addr} {gd : DHp → Prop} {δ : DSt} {k k' : List D → DHp → Prop} (i : ∀ acc G, k acc G → k' acc G) :
    ∀ (xs acc : List D) (G : DHp), lcIn p vs g tt te gd δ k xs acc G → lcIn p vs g tt te gd δ k' xs acc G
  | [], acc, G, h => ⟨h.1, i _ _ h.2⟩
  | x :: xs, acc, G, h => ⟨h.1, mg _ _ _ _ _ _ _ DXW.le_refl (fun δ2 G2 h2 => mt _ _ _ _ _ _ DXW.le_refl (fun b G3 h3 => by
      cases b with
      | true =>
        rw [if_pos rfl] at h3 ⊢
        exact me _ _ _ _ _ _ DXW.le_refl (fun y G4 h4 => ⟨h4.1, h4.2.1, lcIn_mono mg mt me i xs _ _ h4.2.2⟩) h3
      | false =>
        rw [if_neg Bool.false_ne_true] at h3 ⊢
        exact lcIn_mono mg mt me i xs _ _ h3) h2) h.2⟩
theorem lcL2_mono (mg : MonG g) (mt : MonT tt) (mi1 : MonI wi1) (mg1 : MonG g1) (mt1 : MonT tt1) (me : MonE te) {p : Addr} {gd : DHp → Prop} {δ : DSt} {Q Q' : DK} (i : ∀ d G, Q d G → Q' d G) :
    ∀ (xs acc : List D) (G : DHp), lcL2 m p vs vs1 g tt wi1 g1 tt1 te gd δ Q xs acc G → lcL2 m p vs vs1 g tt wi1 g1 tt1 te gd δ Q' xs acc G
  | [], acc, G, h => ⟨h.1, lcEnd_mono i h.2⟩
  | x :: xs, acc, G, h => ⟨h.1, mg _ _ _ _ _ _ _ DXW.le_refl (fun δ2 G2 h2 => mt _ _ _ _ _ _ DXW.le_refl (fun b G3 h3 => by
      cases b with
      | true =>
        rw [if_pos rfl] at h3 ⊢
        exact mi1 _ _ _ _ _ _ DXW.le_refl (fun ys gd1 G4 h4 => lcIn_mono mg1 mt1 me (fun acc G z => lcL2_mono mg mt mi1 mg1 mt1 me i xs _ _ z) _ _ _ h4) h3
      | false =>
        rw [if_neg Bool.false_ne_true] at h3 ⊢
        exact lcL2_mono mg mt mi1 mg1 mt1 me i xs _ _ h3) h2) h.2⟩
theorem dLc2_mono (mi : MonI wi) (mg : MonG g) (mt : MonT tt) (mi1 : MonI wi1) (mg1 : MonG g1) (mt1 : MonT tt1) (me : MonE te) : MonE (dLc2 m vs vs1 wi g tt wi1 g1 tt1 te) := fun E E' δ G Q Q' j i h =>
  mi _ _ _ _ _ _ j (fun xs gd Ga h1 p hp => lcL2_mono mg mt mi1 mg1 mt1 me i _ _ _ (h1 p hp)) h
theorem lc2_link {K : Frag} {W : WX} (mi : MonI wi) (mg : MonG g) (mt : MonT tt) (mi1 : MonI wi1) (mg1 : MonG g1) (mt1 : MonT tt1) (me : MonE te) {σ : St} {H : Hp} {δ : DSt} {G : DHp} {Q : VK} (r : Rel K δ G σ H)
    (h : dLc2 m vs vs1 wi g tt wi1 g1 tt1 te (upW K G H W) δ G (upE K G H Q)) : tLc2 (liftI K W wi) (liftG K W0 vs g) (liftT K W0 tt) (liftI K W0 wi1) (liftG K W0 vs1 g1) (liftT K W0 tt1) (liftE K W0 te) vs vs1 σ H Q := by
  refine ⟨δ, G, r, mi _ _ _ _ _ _ DXW.le_refl (fun xs gd Ga q J H1 e1 hr1 it p hp => ?_) h⟩
  have q := q p (hr1.none hp)
  have en := Ext.newT (u := .lst []) (o := .lst []) hr1 hp
  have hrn : HR K (updD Ga p (.lst [])) (upd H1 p (.lst [])) := hr1.newT hp ⟨[], upd_same, Nat.zero_le _, .nil⟩
  refine ⟨fun i m' H' => ∃ acc G', Ext Ga H1 G' H' ∧ HR K G' H' ∧ m' = xs.length - i ∧ i ≤ xs.length ∧ lcL2 m p vs vs1 g tt wi1 g1 tt1 te gd δ (upE K G H Q) (xs.drop i) acc G', ⟨xs.length, [], _, en, hrn, by omega, by omega, by rw [List.drop_zero]; exact q⟩, ?_⟩
  rintro i m' H2 ⟨acc, G2, e2, hr2, em, hi2, f2⟩
  have e02 := e1.trans e2
  by_cases c : i < xs.length
  · rw [List.drop_eq_getElem_cons c] at f2
    refine .inr ⟨it.go i G2 H2 e2 hr2 f2.1 c, fun H' => ∃ acc G', Ext Ga H1 G' H' ∧ HR K G' H' ∧ lcL2 m p vs vs1 g tt wi1 g1 tt1 te gd δ (upE K G H Q) (xs.drop (i + 1)) acc G', fun H' ⟨acc', G', z1, z2, z3⟩ => ⟨_, by omega, acc', G', z1, z2, rfl, c, z3⟩, fun x H3 y3 => ?_⟩
    obtain ⟨e3, hr3, rd3⟩ := it.yld i G2 H2 x H3 _ e2 hr2 f2.1 (List.getElem?_eq_getElem c) y3
    have r3 := (r.ext (e02.trans e3) hr3).wipe vs
    refine ⟨xs[i], wipeD δ vs, G2, r3, rd3, mg _ _ _ _ _ _ _ E0_le (fun δ4 G4 q4 σ4 H4 e4 r4 hw => ⟨by rw [hw]; exact DL.wipe_wipe _ _, ?_⟩) f2.2⟩
    refine ⟨δ4, G4, r4, mt _ _ _ _ _ _ E0_le (fun b G5 q5 H5 e5 hr5 => ?_) q4⟩
    have r5 := r4.ext e5 hr5
    have e15 := ((e2.trans e3).trans e4).trans e5
    cases b with
    | true =>
      dsimp only
      rw [if_pos rfl] at q5 ⊢
      refine ⟨δ4, G5, r5, mi1 _ _ _ _ _ _ E0_le (fun ys gd1 G6 q6 J1 H6 e6 hr6 it1 => ?_) q5⟩
      have e16 := e15.trans e6
      refine ⟨fun j k' H' => ∃ acc G', Ext G6 H6 G' H' ∧ HR K G' H' ∧ k' = ys.length - j ∧ j ≤ ys.length ∧ lcIn p vs1 g1 tt1 te gd1 δ4 (lcL2 m p vs vs1 g tt wi1 g1 tt1 te gd δ (upE K G H Q) (xs.drop (i + 1))) (ys.drop j) acc G', ⟨ys.length, acc, G6, .refl, hr6, by omega, by omega, by rw [List.drop_zero]; exact q6⟩, ?_⟩
      rintro j k' H7 ⟨acc7, G7, e7, hr7, ek, hj7, f7⟩
      by_cases cj : j < ys.length
      · rw [List.drop_eq_getElem_cons cj] at f7
        refine .inr ⟨it1.go j G7 H7 e7 hr7 f7.1 cj, fun H' => ∃ acc G', Ext G6 H6 G' H' ∧ HR K G' H' ∧ lcIn p vs1 g1 tt1 te gd1 δ4 (lcL2 m p vs vs1 g tt wi1 g1 tt1 te gd δ (upE K G H Q) (xs.drop (i + 1))) (ys.drop (j + 1)) acc G', fun H' ⟨acc', G', z1, z2, z3⟩ => ⟨_, by omega, acc', G', z1, z2, rfl, cj, z3⟩, fun x8 H8 y8 => ?_⟩
        obtain ⟨e8, hr8, rd8⟩ := it1.yld j G7 H7 x8 H8 _ e7 hr7 f7.1 (List.getElem?_eq_getElem cj) y8
        have r8 := (r5.ext ((e6.trans e7).trans e8) hr8).wipe vs1
        refine ⟨ys[j], wipeD δ4 vs1, G7, r8, rd8, mg1 _ _ _ _ _ _ _ E0_le (fun δ9 G9 q9 σ9 H9 e9 r9 hw9 => ⟨by rw [hw9]; exact DL.wipe_wipe _ _, ?_⟩) f7.2⟩
        refine ⟨δ9, G9, r9, mt1 _ _ _ _ _ _ E0_le (fun b1 Gb qb Hb eb hrb => ?_) q9⟩
        have rb := r9.ext eb hrb
        have e7b := ((e7.trans e8).trans e9).trans eb
        cases b1 with
        | true =>
          dsimp only
          rw [if_pos rfl] at qb ⊢
          refine ⟨δ9, Gb, rb, me _ _ _ _ _ _ E0_le (fun y Gc qc v Hc ec hrc rdc => ?_) qb⟩
          obtain ⟨k1, k2, k3⟩ := qc
          obtain ⟨ws, w1, w2, w3⟩ := hrc p _ k1
          obtain ⟨ep, hrp⟩ := put_lst hrc k1 k2 rdc w1 w3
          exact ⟨ws, w1, by rw [← w3.length]; exact k2, acc7 ++ [y], _, (e7b.trans ec).trans ep, hrp, k3⟩
        | false =>
          dsimp only
          rw [if_neg Bool.false_ne_true] at qb ⊢
          exact ⟨acc7, Gb, e7b, hrb, qb⟩
      · rw [(List.drop_eq_nil_of_le (by omega) : ys.drop j = [])] at f7
        exact .inl ⟨it1.stop j G7 H7 e7 hr7 f7.1 (by omega), acc7, G7, e16.trans e7, hr7, f7.2⟩
    | false =>
      dsimp only
      rw [if_neg Bool.false_ne_true] at q5 ⊢
      exact ⟨acc, G5, e15, hr5, q5⟩
  · rw [List.drop_eq_nil_of_le (by omega)] at f2
    exact .inl ⟨it.stop i G2 H2 e2 hr2 f2.1 (by omega), lcEnd_use hr2 e02 f2.2⟩
end
section
variable {X : Cx} {W : WX} {elt tg iter tg1 iter1 : Expr} {ifs ifs1 : List Expr} {scope : Scope} {pos spos : Pos} {wi wi1 : DTI} {g g1 : DTG} {tt tt1 : DTT} {te : DTE}
theorem de_lc2 (m : Bool) (vs1 : List Nat) (hc : X.calm = true) (hN : X.N.Nodup) (own : List (Str × Nat)) (ok : BlkOk X.N X.env.scope scope own) (hv : ∀ i ∈ vs1, i ∈ own.map (·.2)) (hi : DI X W tg iter wi)
    (hg : ∀ s H C cl fp, DG (Blk X scope s H C cl fp) W0 (own.map (·.2)) tg g) (ht : ∀ s H C cl fp, DTs (Blk X scope s H C cl fp) W0 ifs tt)
    (hi1 : ∀ s H C cl fp, DI (Blk X scope s H C cl fp) W0 tg1 iter1 wi1) (hg1 : ∀ s H C cl fp, DG (Blk X scope s H C cl fp) W0 vs1 tg1 g1) (ht1 : ∀ s H C cl fp, DTs (Blk X scope s H C cl fp) W0 ifs1 tt1)
    (he : ∀ s H C cl fp, DE (Blk X scope s H C cl fp) W0 elt te) (hs : ∀ x, foldedSetIterable iter X.env x = pure x := by intro _; rfl) (hs1 : ∀ env x, foldedSetIterable iter1 env x = pure x := by intro _ _; rfl) :
    DE X W (.ListComp elt [⟨tg, iter, ifs, 0⟩, ⟨tg1, iter1, ifs1, 0⟩] scope pos) (dLc2 m (own.map (·.2)) vs1 wi g tt wi1 g1 tt1 te) :=
  let s₀ : Shared := X.s_0
  let H₀ : Hp := fun _ => none
  have mg := (hg s₀ H₀ 0 [] []).mono
  have mt := (ht s₀ H₀ 0 [] []).mono
  have mi1 := (hi1 s₀ H₀ 0 [] []).mono
  have mg1 := (hg1 s₀ H₀ 0 [] []).mono
  have mt1 := (ht1 s₀ H₀ 0 [] []).mono
  have me := (he s₀ H₀ 0 [] []).mono
  de_of (dLc2_mono hi.mono mg mt mi1 mg1 mt1 me) (pe_lc2 hc hN hi.pi ok hv (fun s H C cl fp => (hg s H C cl fp).pg) (fun s H C cl fp => (ht s H C cl fp).pts) (fun s H C cl fp => (hi1 s H C cl fp).pi) (fun s H C cl fp => (hg1 s H C cl fp).pg) (fun s H C cl fp => (ht1 s H C cl fp).pts) (fun s H C cl fp => (he s H C cl fp).pe) hs hs1)
    fun σ H Q δ G r h => lc2_link hi.mono mg mt mi1 mg1 mt1 me r h
theorem ds_setLc2 (m : Bool) (i : Nat) (vs1 : List Nat) {y : Str} {py : Pos} (hc : X.calm = true) (hN : X.N.Nodup) (own : List (Str × Nat)) (ok : BlkOk X.N X.env.scope scope own) (hv : ∀ i ∈ vs1, i ∈ own.map (·.2)) (hi : DI X W tg iter wi)
    (hg : ∀ s H C cl fp, DG (Blk X scope s H C cl fp) W0 (own.map (·.2)) tg g) (ht : ∀ s H C cl fp, DTs (Blk X scope s H C cl fp) W0 ifs tt)
    (hi1 : ∀ s H C cl fp, DI (Blk X scope s H C cl fp) W0 tg1 iter1 wi1) (hg1 : ∀ s H C cl fp, DG (Blk X scope s H C cl fp) W0 vs1 tg1 g1) (ht1 : ∀ s H C cl fp, DTs (Blk X scope s H C cl fp) W0 ifs1 tt1)
    (he : ∀ s H C cl fp, DE (Blk X scope s H C cl fp) W0 elt te)
    (hy : X.N[i]? = some y := by rfl) (hyl : X.env.scope.names.lookup y = some .local := by rfl)
    (hsw : swapsWith (.ListComp elt [⟨tg, iter, ifs, 0⟩, ⟨tg1, iter1, ifs1, 0⟩] scope pos) (some (.Name y py)) spos.line X.env = pure true := by rfl) (hs : ∀ x, foldedSetIterable iter X.env x = pure x := by intro _; rfl) (hs1 : ∀ env x, foldedSetIterable iter1 env x = pure x := by intro _ _; rfl) :
    DS X W (.Assign [.Name y py] (.ListComp elt [⟨tg, iter, ifs, 0⟩, ⟨tg1, iter1, ifs1, 0⟩] scope pos) spos) (dSet i (dLc2 m (own.map (·.2)) vs1 wi g tt wi1 g1 tt1 te)) :=
  let s₀ : Shared := X.s_0
  let H₀ : Hp := fun _ => none
  have mg := (hg s₀ H₀ 0 [] []).mono
  have mt := (ht s₀ H₀ 0 [] []).mono
  have mi1 := (hi1 s₀ H₀ 0 [] []).mono
  have mg1 := (hg1 s₀ H₀ 0 [] []).mono
  have mt1 := (ht1 s₀ H₀ 0 [] []).mono
  have me := (he s₀ H₀ 0 [] []).mono
  have md : MonE (dLc2 m (own.map (·.2)) vs1 wi g tt wi1 g1 tt1 te) := dLc2_mono hi.mono mg mt mi1 mg1 mt1 me
  ds_of (dSet_mono md) (ps_setLc2 hc hN hy hyl hsw hi.pi ok hv (fun s H C cl fp => (hg s H C cl fp).pg) (fun s H C cl fp => (ht s H C cl fp).pts) (fun s H C cl fp => (hi1 s H C cl fp).pi) (fun s H C cl fp => (hg1 s H C cl fp).pg) (fun s H C cl fp => (ht1 s H C cl fp).pts) (fun s H C cl fp => (he s H C cl fp).pe) hs hs1)
    fun D σ H δ G r h => lc2_link (W := W) (Q := fun x H1 => gName i x σ H1 D.nx) hi.mono mg mt mi1 mg1 mt1 me r (md _ _ _ _ _ _ DXW.le_refl (fun d G' q v H' e hr rd => q _ _ e ((r.ext e hr).set i rd)) h)
end
end DL
set_option Elab.async false
set_option linter.all false
set_option maxRecDepth 100000
set_option maxHeartbeats 4000000
/-! DL9: own exceptions: raise, try with several clauses, their fields. -/
namespace L2
open PySem PySem.Spec PyProof.Rows
/-! ### several clauses, each with a name or without -/
def wManyA (K : PySem.W.Frag) (Wout : WX) (D : Ends) : List (Value × Option Nat × (Addr → Value → Option Addr → TS)) → WX
  | [] => Wout
  | (c, some i, ts) :: r => fun cls d σ H => ∃ b, PySem.W.exmOne K cls c = some b ∧ (b = true → ∀ a, H a = none → ts a cls d { nx := fun σ' H' => D.nx (σ'.set i none) H', rt := D.rt, bk := fun σ' H' => D.bk (σ'.set i none) H', ct := fun σ' H' => D.ct (σ'.set i none) H' } (σ.set i (some (.ref a))) H) ∧ (b = false → wManyA K Wout D r cls d σ H)
  | (c, none, ts) :: r => fun cls d σ H => ∃ b, PySem.W.exmOne K cls c = some b ∧ (b = true → ∀ a, H a = none → ts a cls d D σ H) ∧ (b = false → wManyA K Wout D r cls d σ H)
inductive HdsA (X : Cx) : List ExceptHandler → List (Value × Option Nat × (Addr → Value → Option Addr → TS)) → Prop
  | nil : HdsA X [] []
  | cons {x : Str} {c : Value} {ts : Addr → Value → Option Addr → TS} {b₀ : Stmt} {suite : List Stmt} {np pos' : Pos} {hds : List ExceptHandler} {l : List (Value × Option Nat × (Addr → Value → Option Addr → TS))} (hc : Names X x c)
      (hsu : ∀ (a : Addr) (oe : Obj) (cls : Value) (d : Option Addr) (pn : List (Addr × Obj)), Zc cls d oe → (∃ vs, oe.data = .fields vs) → PSs (X.suite a ((a, oe) :: pn)) (b₀ :: suite) (ts a cls d)) (r : HdsA X hds l) :
      HdsA X (.ExceptHandler (some (.Name x np)) none (b₀ :: suite) pos' :: hds) ((c, none, ts) :: l)
  | consA {x n : Str} {c : Value} {i : Nat} {ts : Addr → Value → Option Addr → TS} {b₀ : Stmt} {suite : List Stmt} {np pos' : Pos} {hds : List ExceptHandler} {l : List (Value × Option Nat × (Addr → Value → Option Addr → TS))} (hc : Names X x c)
      (hi : X.N[i]? = some n) (hln : X.env.kindOf n = some .local)
      (hsu : ∀ (a : Addr) (oe : Obj) (cls : Value) (d : Option Addr) (pn : List (Addr × Obj)), Zc cls d oe → (∃ vs, oe.data = .fields vs) → PSs (X.suite a ((a, oe) :: pn)) (b₀ :: suite) (ts a cls d)) (r : HdsA X hds l) :
      HdsA X (.ExceptHandler (some (.Name x np)) (some n) (b₀ :: suite) pos' :: hds) ((c, some i, ts) :: l)
section
variable {X : Cx} {body : List Stmt} {h₀ : ExceptHandler} {hds : List ExceptHandler} {l : List (Value × Option Nat × (Addr → Value → Option Addr → TS))} {pos : Pos} {tb : WX → TS} {Wout : WX}
theorem ps_try_manyA (hs : X.stack = X.env :: X.outer) (hf : X.env.frame = some X.env.locals) (hN : X.N.Nodup) (tk : Takes X Wout)
    (hb : ∀ (W : WX) (pn : List (Addr × Obj)) (xe : Value → Shared → Prop), Takes (X.tr pn xe) W → PassesOwn (model X.prog X.w) X.A X.env xe → PSs (X.tr pn xe) body (tb W))
    (hh : HdsA X (h₀ :: hds) l) : PS X (.Try body (h₀ :: hds) [] [] pos) (fun D σ H => tb (wManyA X.K Wout D l) D σ H) := by
  refine ⟨fun pins s σ H D I h => ?_⟩
  have ok := I.ok
  have hfr : X.A.frames = some (X.env :: X.outer) := by rw [ok.frames, hs]
  refine wpAny_Try_except ?_
  refine wpAny_mono ((hb (wManyA X.K Wout D l) (X.pn ++ pins) (fun e s₁ => wpAny (model X.prog X.w) X.A (noteFrame e X.env) (fun _ s₂ => wpAny (model X.prog X.w) X.A (setFlight e none) (fun _ s₃ =>
    wpAny (model X.prog X.w) X.A (handleBy e X.env (h₀ :: hds)) (SP X pins D) X.xe s₃) X.xe s₂) X.xe s₁) (fun u s' xx => ?_) PassesOwn.looking).run [] s σ H D (I.toTry _) h) (fun f s1 hsp => ?_) (fun e s1 he => he)
  · obtain ⟨a, B, sI, pins', σ', H', cls, d, rfl, J', nb, up, sky, na, os, ag, w⟩ := xx
    have J : Inv X pins σ' H' sI := J'.ofTry ok
    have sky' : Sky B (X.env :: X.outer) a (Zc cls d) X.env.locals s'.heap := by rw [← hs]; exact sky
    show wpAny (model X.prog X.w) X.A (noteFrame (.ref a) X.env) _ _ _
    refine Sky.land Zc.steady hfr hf sky' fun h3 fl3 up3 => ?_
    have J3 : Inv X pins σ' H' { s' with heap := h3 } := J.landed nb fl3.1 (up.trans up3) os ag
    obtain ⟨oe3, vs3, he3, hz3, hd3⟩ := fl3.there
    have notFr : ∀ {h : Heap} {o : Obj} {vs : Array Value}, h.FunFrames B (X.env :: X.outer) → h.get? a = some o → o.data = .fields vs → a ∉ frs (X.env :: X.outer) := fun {h o vs} ff e dd hm => by
      obtain ⟨_, o', e', hnf⟩ := ff.mem hm
      rw [e] at e'; cases e'
      exact hnf _ dd
    have nfr := notFr fl3.2.2.1 he3 hd3
    have nL : a ≠ X.env.locals := fun z => nfr (List.mem_filterMap.mpr ⟨X.env, List.mem_cons_self, by rw [hf, z]⟩)
    have nF : a ∉ X.fs := fun hm => by
      obtain ⟨e, he, q⟩ := List.mem_filterMap.mp hm
      exact nfr (List.mem_filterMap.mpr ⟨e, List.mem_cons_of_mem _ he, q⟩)
    have S3 := J3.suite he3 hd3 na nL nF
    have LT : PySem.W.Looks (model X.prog X.w) h3 (typeOf (.ref a)) cls := fun A Q E s k q => wpAny_typeOf_ref (k _ _ he3) (by rw [hz3.1]; exact q)
    have test : ∀ {x : Str} {c : Value} {np : Pos} {Q : Value → Shared → Prop} {E : Value → Shared → Prop}, Names X x c → Q c { s' with heap := h3 } → wpAny (model X.prog X.w) (X.A.mark (some (.ref a))) (eval (.Name x np) X.env) Q E { s' with heap := h3 } := fun {x c np Q E} hc q => by
      obtain ⟨hg, hdbg, hm | ⟨hm, hv, hnn⟩⟩ := hc
      · exact ld_glob (X := X.suite a ((a, oe3) :: (X.pn ++ pins))) S3 hg hm q hdbg
      · exact ld_blt (X := X.suite a ((a, oe3) :: (X.pn ++ pins))) S3 hg hm hv q hnn hdbg
    have go : ∀ {hds' : List ExceptHandler} {l' : List (Value × Option Nat × (Addr → Value → Option Addr → TS))}, HdsA X hds' l' → wManyA X.K Wout D l' cls d σ' H' →
        wpAny (model X.prog X.w) X.A (handleBy (.ref a) X.env hds') (SP X pins D) X.xe { s' with heap := h3 } := by
      intro hds' l' hk
      induction hk with
      | nil =>
        intro w
        refine wpAny_handleBy_nil ?_
        obtain ⟨k1, k2, k3, oe, vs, T, oT, ts', he, hz, hd, h1, hr⟩ := id fl3
        unfold PySem.passOn
        refine wpAny_bind (wpAny_field he hd h1 ?_)
        rw [if_neg (show ¬ ((Value.ref T == Value.none) = true) from by simp)]
        have fin : wpAny (model X.prog X.w) X.A (setFlight (.ref a) X.env.frame) (fun _ s4 => wpAny (model X.prog X.w) X.A (throw (.ref a) : Sem Flow) (SP X pins D) X.xe s4) X.xe { s' with heap := h3 } := by
          rw [hf]
          refine HandSPX.setFlight_upZ fl3 fun h4 hh4 up4 => wpAny_throw (tk _ _ ?_)
          exact ⟨a, B, sI, pins, σ', H', cls, d, rfl, J, nb, (up.trans up3).trans up4, .inr (.inr (by rw [hs]; exact hh4)), na, os, ag, w⟩
        first
          | exact wpAny_bind (wpAny_pure (wpAny_bind fin))
          | exact wpAny_bind fin
      | @cons x c ts b₀ suite np pos' hds2 l2 hc hsu r ih =>
        intro w
        obtain ⟨b, hb1, hyes, hno⟩ := w
        refine wpAny_handleBy_cons (codeAny_handlers_test ?_) (by intro q; cases q)
        have LM := PySem.W.exm_one (M := model X.prog X.w) (J3.kIn) LT hb1
        refine test hc (LM.here ?_)
        cases b with
        | true =>
          refine codeAny_handlers_suite ?_
          refine HandSPX.lands_againZ fl3 fun h4 fl4 up4 => ?_
          have J4 : Inv X pins σ' H' { s' with heap := h4 } := J.landed nb fl4.1 ((up.trans up3).trans up4) os ag
          obtain ⟨oe4, vs4, he4, hz4, hd4⟩ := fl4.there
          have S4 := J4.suite he4 hd4 na nL nF
          refine wpAny_mono ((hsu a oe4 cls d (X.pn ++ pins) hz4 ⟨_, hd4⟩).run [] _ _ H' _ S4 (hyes rfl a na)) (fun f s6 hsp => ?_) (fun _ _ z => False.elim z)
          cases f with
          | next =>
            obtain ⟨σ6, H6, S6, q6⟩ := hsp
            exact ⟨_, _, S6.unsuite ok, q6⟩
          | brk =>
            obtain ⟨σ6, H6, S6, q6⟩ := hsp
            exact ⟨_, _, S6.unsuite ok, q6⟩
          | cont =>
            obtain ⟨σ6, H6, S6, q6⟩ := hsp
            exact ⟨_, _, S6.unsuite ok, q6⟩
          | ret u =>
            obtain ⟨v6, σ6, H6, S6, r6, q6⟩ := hsp
            exact ⟨_, _, _, S6.unsuite ok, r6, q6⟩
        | false =>
          show wpAny _ X.A (handleBy (.ref a) X.env hds2) _ _ _
          exact ih (hno rfl)
      | @consA x n c i ts b₀ suite np pos' hds2 l2 hc hi hln hsu r ih =>
        intro w
        obtain ⟨b, hb1, hyes, hno⟩ := w
        have hloc : Loc X.env.scope n := .inl hln
        refine wpAny_handleBy_cons (codeAny_handlers_test ?_) (by intro q; cases q)
        have LM := PySem.W.exm_one (M := model X.prog X.w) (J3.kIn) LT hb1
        refine test hc (LM.here ?_)
        cases b with
        | true =>
          refine codeAny_handlers_suite_as ?_
          refine HandSPX.lands_againZ fl3 fun h4 fl4 up4 => ?_
          have J4 : Inv X pins σ' H' { s' with heap := h4 } := J.landed nb fl4.1 ((up.trans up3).trans up4) os ag
          obtain ⟨oe4, vs4, he4, hz4, hd4⟩ := fl4.there
          have S4 := J4.suite he4 hd4 na nL nF
          refine store_ok (X := X.suite a ((a, oe4) :: (X.pn ++ pins))) (v := .ref a) S4 hN hi hloc rfl (fun s5 S5 => ?_) (.inr hln)
          refine wpAny_mono ((hsu a oe4 cls d (X.pn ++ pins) hz4 ⟨_, hd4⟩).run [] s5 _ H' _ S5 (hyes rfl a na)) (fun f s6 hsp => ?_) (fun _ _ z => False.elim z)
          have end_ : ∀ {σ6 : St} {H6 : Hp} {Q : Shared → Prop}, Inv (X.suite a ((a, oe4) :: (X.pn ++ pins))) [] σ6 H6 s6 → (∀ s7, Inv X pins (σ6.set i none) H6 s7 → Q s7) →
              wpAny (model X.prog X.w) X.A (do bindName X.env n .none; unbindBehindTheSuite X.env n pos') (fun _ s7 => Q s7) X.xe s6 := fun {σ6 H6 Q} S6 hq => gone_ok (S6.unsuite ok) hN hi hln hq
          cases f with
          | next =>
            obtain ⟨σ6, H6, S6, q6⟩ := hsp
            exact end_ S6 fun s7 J7 => ⟨_, _, J7, q6⟩
          | brk =>
            obtain ⟨σ6, H6, S6, q6⟩ := hsp
            exact end_ S6 fun s7 J7 => ⟨_, _, J7, q6⟩
          | cont =>
            obtain ⟨σ6, H6, S6, q6⟩ := hsp
            exact end_ S6 fun s7 J7 => ⟨_, _, J7, q6⟩
          | ret u =>
            obtain ⟨v6, σ6, H6, S6, r6, q6⟩ := hsp
            exact end_ S6 fun s7 J7 => ⟨_, _, _, J7, r6, q6⟩
        | false =>
          show wpAny _ X.A (handleBy (.ref a) X.env hds2) _ _ _
          exact ih (hno rfl)
    exact go hh w
  · cases f with
    | next =>
      obtain ⟨σ', H', J', q⟩ := hsp
      exact wpAny_execs_nil ⟨σ', H', J'.ofTry ok, q⟩
    | brk =>
      obtain ⟨σ', H', J', q⟩ := hsp
      exact ⟨σ', H', J'.ofTry ok, q⟩
    | cont =>
      obtain ⟨σ', H', J', q⟩ := hsp
      exact ⟨σ', H', J'.ofTry ok, q⟩
    | ret u =>
      obtain ⟨v, σ', H', J', r, q⟩ := hsp
      exact ⟨v, σ', H', J'.ofTry ok, r, q⟩
end
/-! ### JoinError.__init__(self, ..), JoinError an own class that has no own one -/
section
variable {X : Cx} {o e : Expr} {es : List Expr} {to te : TE} {ta : TA} {f : Str} {p p' p1 p2 pos : Pos}
theorem pe_joinit {J : Addr} {x : Str} {pl : Sem Bool} (hg : Gl X x) (hm : X.mg x = some (.ref J)) (r : ClX.CRead X.K J (.type "type")) (k : PySem.W.findCls X.K (.ref J) (.type "type") "__init__" = some (.val (.builtin "ValueError.__init__"))) (ha : PA X (e :: es) ta)
    (hdb : (x == ("__debug__" : Str)) = false)
    (hc : eval (.Call (.Attribute (.Name x p1) "__init__" p2) (e :: es) [] pos) X.env = (do
      let ov ← eval (.Name x p1) X.env
      standAt p2.atName
      let (f, first) ← holding [ov] (getMethod ov "__init__" pl)
      callWith pos f first (backTo pos (starEach (e :: es) X.env)) (backToKw pos (keywordEach [] X.env))))
    (he : starEach (e :: es) X.env = (false, eval e X.env) :: starEach es X.env) (hpl : (backTo pos (starEach es X.env)).any (·.1) = false) :
    PE X (.Call (.Attribute (.Name x p1) "__init__" p2) (e :: es) [] pos) (tVeI X.K ta) := by
  refine ⟨fun pins s σ H Q I h => ?_⟩
  refine PySem.W.methodCall_KW (ld_glob I hg hm ?_ hdb) hc
  refine PySem.W.method_cls I.kIn r.ga (PySem.W.cls_value I.kIn r.rd k rfl ?_)
  show wpAny _ _ (callWith pos (Value.builtin "ValueError.__init__") [] (backTo pos (starEach (e :: es) X.env)) []) _ _ _
  refine PyProof.Rows.callWith_method1 (thn (ha.run pos pins _ σ H _ (I.tok _) h) fun us s1 ⟨vs, H1, I1, r1, a, C, ws, ev, hl, T, ea, q⟩ => ?_) he hpl
  subst ev
  cases r1 with
  | @cons _ u0 _ ur ra rw' =>
    obtain rfl : u0 = Value.ref a := ra
    have hlen : ur.length ≤ sizeLine := by
      rw [← Paired.length rw', sizeLine_eq]
      omega
    exact oinit_ok T I1 ea hlen fun s' J => ⟨.non, H1, J, rfl, q⟩
end
end L2
namespace DL
open PySem PySem.Spec PyProof.Rows L2
/-! ### the class of an exception with one field -/
def spI1 (K : Frag) (f : Str) : Sp := fun vs H Q _ => ∃ (a C : Addr) (y : V), vs = [.ref a, y] ∧ OexC K C ∧ PySem.W.findIn K (.ref C) f = some none ∧ H a = some (exo a C none) ∧ ∀ dx, H dx = none → dx ≠ a → Q .non (upd (upd H dx (exd dx [(f, y)])) a (exo a C (some dx)))
/-- what __init__'s body is -/
abbrev iniB (J f msg : Str) (p1 p2 p3 p4 p5 p6 q1 q2 q3 q4 : Pos) (kk : Nat) : List Stmt :=
  [.Expr (.Call (.Attribute (.Name J p1) "__init__" p2) [.Name "self" p3, .Constant (.str msg) kk p4] [] p5) p6, .Assign [.Attribute (.Name "self" q1) f q2] (.Name f q3) q4]
structure JoinF (K : Frag) (mg : Str → Option Value) (J : Str) : Prop where
  mg : mg J = some (.ref (He.ga K J))
  rd : ClX.CRead K (He.ga K J) (.type "type")
  ini : PySem.W.findCls K (.ref (He.ga K J)) (.type "type") "__init__" = some (.val (.builtin "ValueError.__init__"))
theorem init1_ok {P : Program} {w : World} {K : Frag} {mg : Str → Option Value} {base : Heap} {q J f msg : Str} {p1 p2 p3 p4 p5 p6 q1 q2 q3 q4 : Pos} {kk : Nat} {params : Arguments} {scope : Scope} {fI : Addr} {fd : FuncData}
    (F : FunD K "__init__" q params (iniB J f msg p1 p2 p3 p4 p5 p6 q1 q2 q3 q4 kk) scope [] [] fI fd) (S : FnScope ["self", f] ["self", f] scope) (hJ : scope.names.lookup J = some .globalImplicit) (h1 : scope.names.lookup ("self" : Str) = some .local) (h2 : scope.names.lookup f = some .local)
    (JF : JoinF K mg J) (hc : ∀ env, ∃ pl : Sem Bool, eval (.Call (.Attribute (.Name J p1) "__init__" p2) [.Name "self" p3, .Constant (.str msg) kk p4] [] p5) env = (do
      let ov ← eval (.Name J p1) env
      standAt p2.atName
      let (f, first) ← holding [ov] (getMethod ov "__init__" pl)
      callWith p5 f first (backTo p5 (starEach [.Name "self" p3, .Constant (.str msg) kk p4] env)) (backToKw p5 (keywordEach [] env))))
    (hs : ∀ env, swapsWith (.Call (.Attribute (.Name J p1) "__init__" p2) [.Name "self" p3, .Constant (.str msg) kk p4] [] p5) none p6.line env = pure false) (hs2 : ∀ env, swapsWith (.Name f q3) (some (.Attribute (.Name "self" q1) f q2)) q4.line env = pure false)
    (hd : (J == ("__debug__" : Str)) = false := by decide) (hd2 : (f == ("__debug__" : Str)) = false := by decide) (hd3 : (f == ("__classdict__" : Str)) = false := by decide) : FnOk P w K mg base CX0 1 fI fd ["self", f] (spI1 K f) := by
  refine F.ok S (fun vs H Q E h => ?_) (fun cdv A outer s H vs Q E hr h => ⟨tSeq (tDrop (tVeI K (tCons (tVar 0) (tCons (tC (.str msg)) tNil)))) (tOst K f (tVar 0) (tVar 1)), PSs.nox ?_, ?_⟩)
  · obtain ⟨a, C, y, rfl, _⟩ := h
    rfl
  · obtain ⟨pl, hc⟩ := hc (cxOf CX0 P w K mg base ["self", f] q scope fI cdv A outer s H E).nox.env
    exact pss_cons (ps_expr (pe_joinit (pl := pl) hJ JF.mg JF.rd JF.ini (pa_cons (pe_var rfl (.inl h1)) (pa_cons pe_str pa_nil)) hd hc (by rfl) (by rfl)) (hs _)) (pss_one (ps_ost (pe_var rfl (.inl h1)) (pe_var (i := 1) rfl (.inl h2) hd2 hd3) (hs2 _)))
  · obtain ⟨a, C, y, rfl, T, hno, ha, k⟩ := h
    refine ⟨_, rfl, a, C, [.str msg], rfl, (by show 1 ≤ 1000; decide), T, ha, ?_⟩
    exact ⟨y, rfl, .ref a, rfl, a, C, rfl, T, hno, .inl ⟨ha, fun dx n ne => k dx n ne⟩⟩
/-- an own exception's class with one field -/
structure ExcF (P : Program) (w : World) (K : Frag) (mg : Str → Option Value) (base : Heap) (x f : Str) : Prop where
  gm : mg x = some (.ref (He.ga K x))
  oex : OexC K (He.ga K x)
  noN : PySem.W.findIn K (.ref (He.ga K x)) f = some none
  ini : ∃ fI fd, PySem.W.findIn K (.ref (He.ga K x)) "__init__" = some (some (.ref fI)) ∧ PySem.W.typeIn K (.ref fI) = some (.type "function") ∧ FnOk P w K mg base CX0 1 fI fd ["self", f] (spI1 K f) ∧ Binds K fd ["self", f] []
  ga : PySem.W.findIn K (.ref (He.ga K x)) "__getattribute__" = some (some (.builtin "BaseException.__getattribute__"))
  gg : PySem.W.findIn K (.ref (He.ga K x)) "__getattr__" = some none
  hdC : PySem.W.hasDictIn K (He.ga K x) = true
abbrev ExcX (X : Cx) := ExcF X.prog X.w X.K X.mg X.base
def dRaise (x f : Str) (t : DTA) : DTS := fun D δ G => t D.xc δ G fun ds G1 => match ds with
  | [d] => D.xc x [(f, d)] δ G1
  | _ => False
section
variable {X : Cx} {W : WX} {x f n : Str} {e : Expr} {t : DTA} {p p' pos pos2 : Pos} {k : Nat}
theorem ds_raise (T : ExcX X x f) (hc : X.calm = true) (tk : Takes X W) (hr : Room 2 X.A) (ha : DA X W [e] t) (hg : Gl X x := by rfl) (hdb : (x == ("__debug__" : Str)) = false := by decide) (he : starEach [e] X.env = (false, eval e X.env) :: starEach [] X.env := by rfl)
    (hpl : (backTo pos (starEach [] X.env)).any (·.1) = false := by rfl) : DS X W (.Raise (some (.Call (.Name x p) [e] [] pos)) none pos2) (dRaise x f t) := by
  obtain ⟨fI, fd, iC, tI, F1, hb⟩ := T.ini
  refine ds_of (fun δ G D D' l h => ha.mono _ _ _ _ _ _ l.2.2.1 (fun ds G1 q => ?_) h) (ps_raise hc tk (pmk_oex T.oex iC tI F1 hr hb .nil pass0 hg T.gm ha.pa hdb he hpl)) fun D σ H δ G r h => ha.use DXW.le_refl r h fun ds G1 vs H1 q e1 r1 d1 => ?_
  · split at q
    · exact l.2.2.1 _ _ _ _ q
    · exact q.elim
  · split at q
    · rename_i d
      obtain ⟨v, ev, rd⟩ := rds1 d1
      subst ev
      refine ⟨by show 1 ≤ 1000; decide, fun a ha1 => ⟨a, He.ga X.K x, v, rfl, T.oex, T.noN, upd_same, fun dx hdx ne => ⟨rfl, dx, [(f, v)], upd_same, ?_, ?_, ?_⟩⟩⟩
      · rw [upd_ne ne, upd_same]
      · rw [upd_ne ne] at hdx; exact hdx
      · have hdx1 : H1 dx = none := by rw [upd_ne ne] at hdx; exact hdx
        have eq : upd (L2.del (upd (upd (upd H1 a (exo a (He.ga X.K x) none)) dx (exd dx [(f, v)])) a (exo a (He.ga X.K x) (some dx))) a) dx (.xd [(f, v)]) = upd H1 dx (.xd [(f, v)]) := by
          funext b
          by_cases hb1 : b = dx
          · rw [hb1, upd_same, upd_same]
          · rw [upd_ne hb1, upd_ne hb1]
            by_cases hb2 : b = a
            · rw [hb2, L2.del_same, ha1]
            · rw [L2.del_ne hb2, upd_ne hb2, upd_ne hb1, upd_ne hb2]
        rw [eq]
        have ex : Ext G1 H1 G1 (upd H1 dx (.xd [(f, v)])) := Ext.new hdx1
        exact q dx σ _ (e1.trans ex) (r1.ext ex (r1.hr.new hdx1)) ⟨r1.hr.none hdx1, [(f, v)], upd_same, rfl, .cons (rd.ext ex) .nil⟩
    · exact q.elim
/-- n.f, n the exception that the suite holds (at a, its fields at d) -/
def dExf (Cs : List Str) (C : Str) (a d : Addr) (i : Nat) (f : Str) : DTE := fun E δ G Q => C ∈ Cs ∧ match δ[i]? with
  | some (some (.exn a' d' ns xs)) => a' = a ∧ d' = d ∧ ∃ v, lookD ns xs f = some v ∧ Q v G
  | _ => False
theorem dExf_mono {Cs : List Str} {C : Str} {a d : Addr} {i : Nat} : MonE (dExf Cs C a d i f) := fun E E' δ G Q Q' j k h => by
  unfold dExf at h ⊢
  refine ⟨h.1, ?_⟩
  have h := h.2
  split <;> rename_i e <;> simp only [e] at h
  obtain ⟨h1, h2, v, h3, h4⟩ := h
  exact ⟨h1, h2, v, h3, k _ _ h4⟩
theorem de_exf {Cs : List Str} {C : Str} {a d : Addr} {oe : Obj} {pn : List (Addr × Obj)} (i : Nat) (hC : ∀ x ∈ Cs, ExcX X x f) (hz : Zc (.ref (He.ga X.K C)) (some d) oe) (hf : ∃ vs, oe.data = .fields vs)
    (hN : X.N[i]? = some n := by rfl) (hv : Vis X.env.scope n := by first | exact Or.inl rfl | exact Or.inr (Or.inl rfl)) (hd : (n == ("__debug__" : Str)) = false := by decide) (hcd : (n == ("__classdict__" : Str)) = false := by decide)
    (hb : attributeBase (.Name n p) f X.env (eval (.Name n p) X.env) = eval (.Name n p) X.env := by rfl) : DE (X.suite a ((a, oe) :: pn)) W (.Attribute (.Name n p) f pos) (dExf Cs C a d i f) := by
  refine ⟨dExf_mono, ⟨fun pins s σ H Q I ⟨δ, G, r, h⟩ => ?_⟩⟩
  refine attr_of hb (thn ((pe_var (X := X.suite a ((a, oe) :: pn)) hN hv hd hcd).run pins s σ H (fun x H1 => x = .ref a ∧ ∃ fvs v, H1 d = some (.xd fvs) ∧ fvs.lookup f = some v ∧ Q v H1) I ?_) fun u s1 hh => ?_)
  · unfold dExf at h
    obtain ⟨hm, h⟩ := h
    split at h
    · rename_i a' d' ns xs e
      obtain ⟨h1, h2, v, h3, h4⟩ := h
      subst h1 h2
      obtain ⟨w, e1, e2⟩ := r.sl _ _ e
      unfold RD at e2
      obtain ⟨g1, g2, fvs, g3, g4, g5⟩ := e2
      subst g1 g4
      obtain ⟨z, k1, k2⟩ := lookD_rd g5 h3
      exact ⟨_, e1, rfl, fvs, z, g3, k1, h4 _ _ .refl r.hr k2⟩
    · exact h.elim
  · obtain ⟨x, H1, I1, rx, ex, fvs, v, ea, l, q⟩ := hh
    subst ex
    obtain rfl : u = Value.ref a := rx
    have T := hC C (by unfold dExf at h; exact h.1)
    obtain ⟨ha, _⟩ := I1.pin (a, oe) (List.mem_append_left _ List.mem_cons_self)
    obtain ⟨vs, hdd⟩ := hf
    have hx : ObjOk X.prog X.w H1 s1.heap d (.xd fvs) := I1.hok d _ ea
    obtain ⟨mA, hns, hr⟩ := hx
    obtain ⟨od, ho, hl⟩ := lookIn_ns hns
    obtain ⟨u, hu, ru⟩ := RelO.some_of (v := v) (o := mA f) (by rw [← l]; exact hr f)
    have J : PySem.W.InstAt s1.heap a oe (He.ga X.K C) (some od) := ⟨ha, hz.1, by unfold PySem.W.notCls; rw [hdd] <;> rfl, by rw [hz.2]; exact ho⟩
    exact HandSPX.exc_get I1.kIn J T.ga T.gg T.oex.exC (PySem.W.findObj_own T.hdC T.noN rfl (by rw [hl, hu])) (handed_of ru) ⟨v, H1, I1.tok _, ru, q⟩
/-! ### try -/
abbrev HdL := List (Str × Option Nat × (Str → Addr → Addr → DTS))
def dHs (exm : Str → Str → Option Bool) : HdL → DEnds → DXW
  | [], D => D.xc
  | (x, some i, t) :: r, D => fun C fs δ G => ∃ b, exm C x = some b ∧ (b = true → ∀ a d, t C a d { nx := fun δ' G' => D.nx (δ'.set i none) G', rt := D.rt, xc := E0, bk := fun δ' G' => D.bk (δ'.set i none) G', ct := fun δ' G' => D.ct (δ'.set i none) G' } (δ.set i (some (.exn a d (fs.map (·.1)) (fs.map (·.2))))) G) ∧ (b = false → dHs exm r D C fs δ G)
  | (x, none, t) :: r, D => fun C fs δ G => ∃ b, exm C x = some b ∧ (b = true → ∀ a d, t C a d { D with xc := E0 } δ G) ∧ (b = false → dHs exm r D C fs δ G)
def dTry (exm : Str → Str → Option Bool) (hs : HdL) (tb : DTS) : DTS := fun D δ G => tb { D with xc := dHs exm hs D } δ G
def ExmOk (K : Frag) (exm : Str → Str → Option Bool) : Prop := ∀ C x b, exm C x = some b → PySem.W.exmOne K (.ref (He.ga K C)) (.ref (He.ga K x)) = some b
inductive HdsD (X : Cx) : List ExceptHandler → HdL → Prop
  | nil : HdsD X [] []
  | cons {x : Str} {t : Str → Addr → Addr → DTS} {b₀ : Stmt} {suite : List Stmt} {np pos' : Pos} {hds : List ExceptHandler} {l : HdL} (hc : Names X x (.ref (He.ga X.K x)))
      (m : ∀ C a d, MonS (t C a d))
      (hsu : ∀ (a : Addr) (oe : Obj) (C : Str) (d : Addr) (pn : List (Addr × Obj)), Zc (.ref (He.ga X.K C)) (some d) oe → (∃ vs, oe.data = .fields vs) → DSs (X.suite a ((a, oe) :: pn)) W0 (b₀ :: suite) (t C a d)) (r : HdsD X hds l) :
      HdsD X (.ExceptHandler (some (.Name x np)) none (b₀ :: suite) pos' :: hds) ((x, none, t) :: l)
  | consA {x n : Str} {i : Nat} {t : Str → Addr → Addr → DTS} {b₀ : Stmt} {suite : List Stmt} {np pos' : Pos} {hds : List ExceptHandler} {l : HdL} (hc : Names X x (.ref (He.ga X.K x)))
      (m : ∀ C a d, MonS (t C a d))
      (hi : X.N[i]? = some n) (hln : X.env.kindOf n = some .local)
      (hsu : ∀ (a : Addr) (oe : Obj) (C : Str) (d : Addr) (pn : List (Addr × Obj)), Zc (.ref (He.ga X.K C)) (some d) oe → (∃ vs, oe.data = .fields vs) → DSs (X.suite a ((a, oe) :: pn)) W0 (b₀ :: suite) (t C a d)) (r : HdsD X hds l) :
      HdsD X (.ExceptHandler (some (.Name x np)) (some n) (b₀ :: suite) pos' :: hds) ((x, some i, t) :: l)
def liftH (K : Frag) (t : Str → Addr → Addr → DTS) : Addr → Value → Option Addr → TS := fun a cls d => fun D σ H => ∃ C d', cls = .ref (He.ga K C) ∧ d = some d' ∧ liftS K W0 (t C a d') D σ H
def liftHs (K : Frag) : HdL → List (Value × Option Nat × (Addr → Value → Option Addr → TS)) := List.map fun q => (.ref (He.ga K q.1), q.2.1, liftH K q.2.2)
theorem HdsD.toA {hds : List ExceptHandler} {l : HdL} (h : HdsD X hds l) : HdsA X hds (liftHs X.K l) := by
  induction h with
  | nil => exact .nil
  | cons hc m hsu r ih => exact .cons hc (fun a oe cls d pn hz hf => ⟨fun pins s σ H D I ⟨C, d', e1, e2, q⟩ => by subst e1 e2; exact (hsu a oe C d' pn hz hf).pss.run pins s σ H D I q⟩) ih
  | consA hc m hi hln hsu r ih => exact .consA hc hi hln (fun a oe cls d pn hz hf => ⟨fun pins s σ H D I ⟨C, d', e1, e2, q⟩ => by subst e1 e2; exact (hsu a oe C d' pn hz hf).pss.run pins s σ H D I q⟩) ih
theorem dHs_mono {hds : List ExceptHandler} {exm : Str → Str → Option Bool} {l : HdL} (h : HdsD X hds l) {D D' : DEnds} (j : D.le D') : (dHs exm l D).le (dHs exm l D') := by
  induction h with
  | nil => exact j.2.2.1
  | @cons x t b₀ suite np pos' hds l hc m hsu r ih => exact fun C fs δ G ⟨b, e1, e2, e3⟩ => ⟨b, e1, fun hb a d => m C a d _ _ { D with xc := E0 } _ ⟨j.1, j.2.1, DXW.le_refl, j.2.2.2⟩ (e2 hb a d), fun hb => ih _ _ _ _ (e3 hb)⟩
  | @consA x n i t b₀ suite np pos' hds l hc m hi hln hsu r ih =>
    exact fun C fs δ G ⟨b, e1, e2, e3⟩ => ⟨b, e1, fun hb a d => m C a d _ _ { nx := fun δ' G' => D.nx (δ'.set i none) G', rt := D.rt, xc := E0, bk := fun δ' G' => D.bk (δ'.set i none) G', ct := fun δ' G' => D.ct (δ'.set i none) G' } _ ⟨fun _ _ z => j.1 _ _ z, j.2.1, DXW.le_refl, fun _ _ z => j.2.2.2.1 _ _ z, fun _ _ z => j.2.2.2.2 _ _ z⟩ (e2 hb a d), fun hb => ih _ _ _ _ (e3 hb)⟩
theorem dHs_link {hds : List ExceptHandler} {exm : Str → Str → Option Bool} {l : HdL} (ex : ExmOk X.K exm) (h : HdsD X hds l) {G : DHp} {H : Hp} {D : Ends} : (dHs exm l (upD X.K G H W D)).le (upW X.K G H (wManyA X.K W D (liftHs X.K l))) := by
  induction h with
  | nil => exact fun C fs δ G q => q
  | @cons x t b₀ suite np pos' hds l hc m hsu r ih =>
    intro C fs δ G' ⟨b, e1, e2, e3⟩ d σ' H' e rl xd
    refine ⟨b, ex _ _ _ e1, fun hb a ha => ⟨C, d, rfl, rfl, δ, G', rl, m C a d _ _ { upD X.K G H W D with xc := E0 } _ ⟨fun _ _ z => z.shift e, fun _ _ z => z.shift e, E0_le, fun _ _ z => z.shift e, fun _ _ z => z.shift e⟩ (e2 hb a d)⟩, fun hb => ih _ _ _ _ (e3 hb) d σ' H' e rl xd⟩
  | @consA x n i t b₀ suite np pos' hds l hc m hi hln hsu r ih =>
    intro C fs δ G' ⟨b, e1, e2, e3⟩ d σ' H' e rl xd
    refine ⟨b, ex _ _ _ e1, fun hb a ha => ⟨C, d, rfl, rfl, _, G', rl.set i (v := .ref a) (d := .exn a d (fs.map (·.1)) (fs.map (·.2))) ?_, m C a d _ _ { nx := fun δ' G' => (upD X.K G H W D).nx (δ'.set i none) G', rt := (upD X.K G H W D).rt, xc := E0, bk := fun δ' G' => (upD X.K G H W D).bk (δ'.set i none) G', ct := fun δ' G' => (upD X.K G H W D).ct (δ'.set i none) G' } _ ⟨fun δ2 G2 z σ2 H2 e2 r2 => z _ _ (e.trans e2) (r2.unset i), fun _ _ z => z.shift e, E0_le, fun δ2 G2 z σ2 H2 e2 r2 => z _ _ (e.trans e2) (r2.unset i), fun δ2 G2 z σ2 H2 e2 r2 => z _ _ (e.trans e2) (r2.unset i)⟩ (e2 hb a d)⟩, fun hb => ih _ _ _ _ (e3 hb) d σ' H' e rl xd⟩
    obtain ⟨g, vfs, f1, f2, f3⟩ := xd
    unfold RD
    exact ⟨rfl, g, vfs, f1, f2, f3⟩
theorem ds_try {exm : Str → Str → Option Bool} {body : List Stmt} {h₀ : ExceptHandler} {hds : List ExceptHandler} {l : HdL} {tb : DTS} (ex : ExmOk X.K exm) (hs : X.stack = X.env :: X.outer) (hf : X.env.frame = some X.env.locals) (hN : X.N.Nodup) (tk : Takes X W)
    (hb : ∀ (W : WX) (pn : List (Addr × Obj)) (xe : Value → Shared → Prop), Takes (X.tr pn xe) W → PassesOwn (model X.prog X.w) X.A X.env xe → DSs (X.tr pn xe) W body tb)
    (hh : HdsD X (h₀ :: hds) l) : DS X W (.Try body (h₀ :: hds) [] [] pos) (dTry exm l tb) :=
  have mb : MonS tb := (hb W0 [] (fun e s₁ => wpAny (model X.prog X.w) X.A (noteFrame e X.env) (fun _ s₂ => wpAny (model X.prog X.w) X.A (setFlight e none) (fun _ _ => True) X.xe s₂) X.xe s₁) takes0 PassesOwn.looking).mono
  ds_of (fun δ G D D' j h => mb _ _ { D with xc := dHs exm l D } _ ⟨j.1, j.2.1, dHs_mono hh j, j.2.2.2⟩ h) (ps_try_manyA (tb := fun W => liftS X.K W tb) hs hf hN tk (fun W pn xe tk' po => (hb W pn xe tk' po).pss) hh.toA) fun D σ H δ G r h =>
    ⟨δ, G, r, mb _ _ { upD X.K G H W D with xc := dHs exm l (upD X.K G H W D) } _ ⟨fun _ _ z => z, fun _ _ z => z, dHs_link ex hh, fun _ _ z => z, fun _ _ z => z⟩ h⟩
end
end DL
set_option Elab.async false
set_option linter.all false
set_option maxRecDepth 100000
set_option maxHeartbeats 4000000
/-! DL10: defs by their promises, facts, the law's end. -/
namespace DL
open PySem PySem.Spec PyProof.Rows L2
/-! ### a def -/
def startD (N : List Str) (ds : List D) : DSt := ds.map some ++ List.replicate (N.length - ds.length) none
theorem start_rel {K : Frag} {G : DHp} {H : Hp} {N : List Str} {ds : List D} {vs : List V} (r : RDs K G H ds vs) (hr : HR K G H) : Rel K (startD N ds) G (L2.start N vs) H := by
  have hl := r.length
  refine ⟨by unfold startD L2.start; simp [hl], fun i d e => ?_, hr⟩
  have hi : i < ds.length := by
    unfold startD at e
    by_cases c : i < ds.length
    · exact c
    · rw [List.getElem?_append_right (by simpa using c), List.getElem?_replicate] at e
      split at e <;> cases e
  unfold startD at e
  rw [List.getElem?_append_left (by simpa using hi), List.getElem?_map] at e
  cases e2 : ds[i]? with
  | none => rw [e2] at e; cases e
  | some d' =>
    rw [e2] at e
    cases e
    obtain ⟨v, f1, f2⟩ := r.get e2
    refine ⟨v, ?_, f2⟩
    unfold L2.start
    rw [List.getElem?_append_left (by rw [List.length_map]; omega), List.getElem?_map, f1]
    rfl
abbrev WXE (E : XK) : WX := fun cls d _ H => E cls d H
abbrev cxD (P : Program) (w : World) (K : Frag) (mg : Str → Option Value) (base : Heap) (N : List Str) (q : Str) (sc : Scope) (f : Addr) (cd : Value) (A : Around) (o : List Env) (s : Shared) (H : Hp) (E : XK) : Cx := cxOf (L2.CX P w) P w K mg base N q sc f cd A o s H E
/-- the ends of a def's body -/
abbrev dEnd (Q : DK) (E : DXK) : DEnds := { nx := fun _ G => Q .non G, rt := Q, xc := fun C fs _ G => E C fs G }
section
variable {P : Program} {w : World} {K : Frag} {mg : Str → Option Value} {base : Heap} {x q : Str} {params : Arguments} {body : List Stmt} {scope : Scope} {f : Addr} {fd : FuncData} {N ps : List Str} {k : Nat} {sd : Pro}
theorem takes_cx {N : List Str} {q : Str} {sc : Scope} {f : Addr} {cd : Value} {A : Around} {o : List Env} {s : Shared} {H : Hp} {E : XK} : Takes (cxD P w K mg base N q sc f cd A o s H E) (WXE E) := takes_of rfl rfl rfl rfl
theorem passes_cx {N : List Str} {q : Str} {sc : Scope} {f : Addr} {cd : Value} {A : Around} {o : List Env} {s : Shared} {H : Hp} {E : XK} : PassesOwn (model P w) (cxD P w K mg base N q sc f cd A o s H E).A (cxD P w K mg base N q sc f cd A o s H E).env (cxD P w K mg base N q sc f cd A o s H E).xe := passes_of rfl
theorem fn_ok (F : FunD K x q params body scope [] [] f fd) (S : FnScope N ps scope) (s : SdOk ps.length sd)
    (hb : ∀ (cdv : Value) (A : Around) (o : List Env) (s : Shared) (H : Hp) (E : XK), Room k (A.deeper (envOfC q scope s.heap.objs.size f cdv)) → ∃ t, DSs (cxD P w K mg base N q scope f cdv A o s H E) (WXE E) body t ∧ ∀ ds G Q E, sd ds G Q E → t (dEnd Q E) (startD N ds) G) :
    FnOk P w K mg base (L2.CX P w) (k + 1) f fd ps (liftSp K sd) := by
  refine F.ok S (fun vs H Q E ⟨ds, G, r, hr, h⟩ => by rw [← r.length]; exact s.len _ _ _ _ h) fun cdv A o s' H vs Q E hroom ⟨ds, G, r, hr, h⟩ => ?_
  obtain ⟨t, ht, hp⟩ := hb cdv A o s' H E hroom
  refine ⟨_, ht.pss, startD N ds, G, start_rel r hr, ht.mono _ _ (dEnd (upE K G H Q) (upX K G H E)) _ ⟨fun δ' G' z σ' H' e r' => z _ _ e r'.hr rd_n, fun _ _ z => z, fun C fs δ' G' z d σ' H' e r' xd => z d H' e r'.hr xd, fun _ _ z => z.elim, fun _ _ z => z.elim⟩ (hp ds G _ _ h)⟩
theorem df_ok {kwp : List (Nat × List Str × List Nat)} (F : FunD K x q params body scope [] [] f fd) (gm : mg x = some (.ref f)) (S : FnScope N ps scope) (s : SdOk ps.length sd) (b : Binds K fd ps [])
    (hk : ∀ q ∈ kwp, KBn K fd ps q.1 q.2.1 (fun us ws => pick q.2.2 (us ++ ws)) (fun us ws => pick q.2.2 (us ++ ws)))
    (hb : ∀ (cdv : Value) (A : Around) (o : List Env) (s : Shared) (H : Hp) (E : XK), Room k (A.deeper (envOfC q scope s.heap.objs.size f cdv)) → ∃ t, DSs (cxD P w K mg base N q scope f cdv A o s H E) (WXE E) body t ∧ ∀ ds G Q E, sd ds G Q E → t (dEnd Q E) (startD N ds) G) :
    Df P w K mg base (k + 1) x ps kwp sd := ⟨s, f, fd, gm, F.kp, b, fn_ok F S s hb, hk⟩
theorem vals_pick {vs : List V} {us : List Value} (r : Vals vs us) : ∀ ord : List Nat, Vals (pick ord vs) (pick ord us)
  | [] => .nil
  | i :: ord => by
    have ih := vals_pick r ord
    unfold pick at ih ⊢
    rw [List.filterMap_cons, List.filterMap_cons]
    cases e : vs[i]? with
    | none =>
      have e2 : us[i]? = none := by
        have hl := r.length
        rw [List.getElem?_eq_none_iff] at e ⊢
        omega
      rw [e2]
      exact ih
    | some v =>
      obtain ⟨u, e1, e2⟩ := r.get e
      rw [e1]
      exact .cons e2 ih
theorem kbn_of {n : Nat} {ks : List Str} {ord : List Nat} (F : FunD K x q params body scope [] [] f fd)
    (h : ∀ (kV doc pm : Value) (an : Option Addr) (cdv ct : Value) (us ws : List Value), us.length = n → ws.length = ks.length → bindArgs (PySem.W.fnOf x q params body scope .none kV doc pm an cdv ct) ⟨us, ks.zip ws⟩ = pure (ps.zip (pick ord (us ++ ws)))) :
    KBn K fd ps n ks (fun us ws => pick ord (us ++ ws)) (fun us ws => pick ord (us ++ ws)) := by
  obtain ⟨oc, od, dV, kV, doc, pm, an, cdv, ct, osl, rfl, lk, hcd, hD, hK⟩ := F.ex
  rcases hD with ⟨_, rfl⟩ | ⟨e, _⟩
  · exact ⟨fun s us ws _ l1 l2 => .of_eq (h kV doc pm an cdv ct us ws l1 l2), fun r1 r2 => vals_pick (r1.append r2) ord⟩
  · exact absurd rfl e
end
/-! ### facts of one's own beside the head's -/
def okX (fa : List He.Fa) (fx : List (Frag → Bool)) (fn : List He.DefD) (K : Frag) : Bool := (fa.all fun f => f.ok K) && ((fx.all fun f => f K) && fn.all fun d => d.ok K)
def obsX (fa : List He.Fa) (fx : List (Frag → Bool)) (fn : List He.DefD) (K : Frag) : He.AlD := (okX fa fx fn K, fn.map fun d => He.fnW K d.at_)
def valX (fn : List He.DefD) : He.AlD := (true, fn.map He.DefD.val)
def SaysX (fa : List He.Fa) (fx : List (Frag → Bool)) (fn : List He.DefD) (K : Frag) : Prop := obsX fa fx fn K = valX fn
def asX (g : Addr → Option Obj) : Nat → List Addr
  | 0 => [mainGlobals, cStatics]
  | n + 1 => He.growD g (asX g n)
def obsXG (n : Nat) (fa : List He.Fa) (fx : List (Frag → Bool)) (fn : List He.DefD) (g : Addr → Option Obj) : He.AlD := obsX fa fx fn (He.frG g (asX g n))
def hookX (n : Nat) (fa : List He.Fa) (fx : List (Frag → Bool)) (fn : List He.DefD) : PySem.W.Hook where
  α := He.AlD
  obs := fun s => obsXG n fa fx fn s.heap.get?
  val := fun _ => valX fn
  says := fun _ h => ∃ K : Frag, K.In h ∧ SaysX fa fx fn K
  of := fun _ _ e => ⟨_, He.frG_in, e⟩
  keeps := fun _ _ _ ⟨K, hK, c⟩ k => ⟨K, PySem.W.Frag.In.keeps hK k, c⟩
theorem obsXG_eq {n : Nat} {fa : List He.Fa} {fx : List (Frag → Bool)} {fn : List He.DefD} {g : Addr → Option Obj} {s : Shared} (h : ∀ a, g a = s.heap.get? a) : obsXG n fa fx fn g = (hookX n fa fx fn).obs s := by
  have e : g = s.heap.get? := funext h
  rw [e] <;> rfl
section
variable {fa : List He.Fa} {fx : List (Frag → Bool)} {fn : List He.DefD} {K : Frag}
theorem SaysX.ok (c : SaysX fa fx fn K) : okX fa fx fn K = true := congrArg (fun z : He.AlD => z.1) c
theorem SaysX.fact (c : SaysX fa fx fn K) {f : He.Fa} (h : f ∈ fa) : f.ok K = true := List.all_eq_true.mp (He.ba c.ok).1 f h
theorem SaysX.own (c : SaysX fa fx fn K) (i : Nat) {f : Frag → Bool} (h : fx[i]? = some f := by rfl) : f K = true := List.all_eq_true.mp (He.ba (He.ba c.ok).2).1 f (List.mem_of_getElem? h)
theorem SaysX.def_ (c : SaysX fa fx fn K) (i : Nat) {d : He.DefD} (h : fn[i]? = some d := by rfl) : ∃ fd, FunD K d.name d.qual d.params d.body d.scope (d.dvs K) (d.kws K) (He.fAd K d.at_) fd := by
  have e : fn.map (fun d => He.fnW K d.at_) = fn.map He.DefD.val := congrArg (fun z : He.AlD => z.2) c
  have e2 : (fn.map fun d => He.fnW K d.at_)[i]? = (fn.map He.DefD.val)[i]? := by rw [e]
  rw [List.getElem?_map, List.getElem?_map, h] at e2
  exact He.DefD.funD (Option.some.inj e2) (List.all_eq_true.mp (He.ba (He.ba c.ok).2).2 d (List.mem_of_getElem? h))
end
/-- the class of an own exception with a field f -/
def excB (x f : Str) (K : Frag) : Bool :=
  (match K.lookup (He.ga K x) with
  | some ⟨.type t, _, .cls cd, sl⟩ => t == "type" && (match cd.mro, sl.toList with
    | .ref C' :: bm, [_, _, _, _, some (.builtin n), _] => C' == He.ga K x && (n == "ValueError.__new__" && (!cd.hasDel && (cd.hasDict && PySem.HandSPX.refsVE bm)))
    | _, _ => false)
  | _ => false) && (He.eqO (PySem.W.findIn K (.ref (He.ga K x)) "__setattr__") (some (some (.builtin "object.__setattr__"))) && (decide (PySem.W.subIn K (.ref (He.ga K x)) (.type "BaseException") = some true) && (decide (PySem.W.typeIn K (.ref (He.ga K x)) = some (.type "type")) &&
    (PySem.W.keepIn K (.ref (He.ga K x)) && (He.eqO (PySem.W.findIn K (.ref (He.ga K x)) f) (some none) && (He.eqO (PySem.W.findIn K (.ref (He.ga K x)) "__getattribute__") (some (some (.builtin "BaseException.__getattribute__"))) &&
      (He.eqO (PySem.W.findIn K (.ref (He.ga K x)) "__getattr__") (some none) && (PySem.W.hasDictIn K (He.ga K x) && (He.eqO (PySem.W.findIn K (.ref (He.ga K x)) "__init__") (some (some (.ref (He.ma K (He.ga K x) "__init__")))) && decide (PySem.W.typeIn K (.ref (He.ma K (He.ga K x) "__init__")) = some (.type "function")))))))))))
theorem oexC_of {x : Str} {K : Frag} (h : (match K.lookup (He.ga K x) with
  | some ⟨.type t, _, .cls cd, sl⟩ => t == "type" && (match cd.mro, sl.toList with
    | .ref C' :: bm, [_, _, _, _, some (.builtin n), _] => C' == He.ga K x && (n == "ValueError.__new__" && (!cd.hasDel && (cd.hasDict && PySem.HandSPX.refsVE bm)))
    | _, _ => false)
  | _ => false) = true) : ∃ nm q N bs bm sn sub ab col dd k0 k1 k2 k3 k5, K.lookup (He.ga K x) = some (excClassObj nm q (He.ga K x) N bs bm true sn sub ab col dd k0 k1 k2 k3 k5 "ValueError.__new__") ∧ PySem.HandSPX.refsVE bm = true := by
  split at h
  · rename_i t dd cd sl ho
    rw [Bool.and_eq_true] at h
    obtain ⟨ht, h⟩ := h
    have ht := eq_of_beq ht
    subst ht
    split at h
    · rename_i C' bm k0 k1 k2 k3 n k5 hm hs
      simp only [Bool.and_eq_true, beq_iff_eq, Bool.not_eq_true'] at h
      obtain ⟨hC, hn, hdel, hdict, hve⟩ := h
      obtain ⟨nm, bs, mro, ns, qn, hd, sn, sub, ab, col, del⟩ := cd
      dsimp only at hm hdel hdict
      subst hm hdel hdict hn
      have hsl : sl = #[k0, k1, k2, k3, some (.builtin "ValueError.__new__"), k5] := by
        obtain ⟨l⟩ := sl
        simp only at hs
        rw [hs]
      subst hsl
      refine ⟨nm, qn, ns, bs, bm, sn, sub, ab, col, dd, k0, k1, k2, k3, k5, ?_, hve⟩
      rw [ho, hC]
    · cases h
  · cases h
/-- JoinError -/
def joinB (J : Str) (K : Frag) : Bool := PySem.W.readsIn K (He.ga K J) (.type "type") && (decide (PySem.W.specialIn K (.ref (He.ga K J)) "__getattribute__" = some (some (.builtin "type.__getattribute__"))) && (match PySem.W.findCls K (.ref (He.ga K J)) (.type "type") "__init__" with
  | some (.val v) => decide (v = .builtin "ValueError.__init__")
  | _ => false))
theorem joinF_of {J : Str} {K : Frag} {mg : Str → Option Value} (gm : mg J = some (.ref (He.ga K J))) (h : joinB J K = true) : JoinF K mg J := by
  obtain ⟨h1, h⟩ := He.ba h
  obtain ⟨h2, h3⟩ := He.ba h
  refine ⟨gm, ⟨h1, of_decide_eq_true h2⟩, ?_⟩
  split at h3
  · rename_i v e
    rw [e, of_decide_eq_true h3]
  · cases h3
theorem excF_of {P : Program} {w : World} {K : Frag} {mg : Str → Option Value} {base : Heap} {x f : Str} {fd : FuncData} (gm : mg x = some (.ref (He.ga K x))) (h : excB x f K = true)
    (F1 : FnOk P w K mg base CX0 1 (He.fAd K (x, some "__init__")) fd ["self", f] (spI1 K f)) (hb : Binds K fd ["self", f] []) : ExcF P w K mg base x f := by
  obtain ⟨c1, h⟩ := He.ba h
  obtain ⟨c2, h⟩ := He.ba h
  obtain ⟨c3, h⟩ := He.ba h
  obtain ⟨c4, h⟩ := He.ba h
  obtain ⟨c5, h⟩ := He.ba h
  obtain ⟨c6, h⟩ := He.ba h
  obtain ⟨c7, h⟩ := He.ba h
  obtain ⟨c8, h⟩ := He.ba h
  obtain ⟨c9, h⟩ := He.ba h
  obtain ⟨c10, c11⟩ := He.ba h
  exact ⟨gm, ⟨oexC_of c1, He.eqO_ok c2, of_decide_eq_true c3, of_decide_eq_true c4, c5⟩, He.eqO_ok c6, ⟨_, fd, He.eqO_ok c10, of_decide_eq_true c11, F1, hb⟩, He.eqO_ok c7, He.eqO_ok c8, c9⟩
/-- which class a clause takes: each its own alone (and J all) -/
def exmT (ls : List (Str × Str × Bool)) (C x : Str) : Option Bool := (ls.find? fun q => q.1 == C && q.2.1 == x).map (·.2.2)
def exmB (ls : List (Str × Str × Bool)) (K : Frag) : Bool := ls.all fun q => decide (PySem.W.exmOne K (.ref (He.ga K q.1)) (.ref (He.ga K q.2.1)) = some q.2.2)
theorem exmT_ok {ls : List (Str × Str × Bool)} {K : Frag} (h : exmB ls K = true) : ExmOk K (exmT ls) := by
  intro C x b e
  unfold exmT at e
  cases q : ls.find? fun q => q.1 == C && q.2.1 == x with
  | none => rw [q] at e; cases e
  | some z =>
    rw [q] at e
    have e2 := Option.some.inj e
    have hm := List.mem_of_find?_eq_some q
    have hp := List.find?_some q
    rw [Bool.and_eq_true] at hp
    have h1 := eq_of_beq hp.1
    have h2 := eq_of_beq hp.2
    subst h1 h2 e2
    exact of_decide_eq_true (List.all_eq_true.mp h z hm)
/-! ### the law's def -/
def spScript (g : List Int → Prop) : Pro := fun ds G Q E => ∃ ns : List Int, ds = [.fz (ns.map .int)] ∧ g ns ∧ Q (.bl true) G
/-- the law's own promise: any script of at most 63 -/
def sdLaw : Pro := fun ds G Q _ => ∃ ns : List Int, ds = [.fz (ns.map .int)] ∧ ns.length ≤ 63 ∧ ∀ G', Q (.bl true) G'
theorem sdLaw_ok : SdOk 1 sdLaw := ⟨fun ds G Q E ⟨ns, h, _⟩ => by rw [h]; rfl, fun ds G Q Q' E E' i j ⟨ns, h1, h2, h3⟩ => ⟨ns, h1, h2, fun G' => i _ _ (h3 G')⟩⟩
theorem law_sp {K : Frag} {H : Hp} {a : Addr} {ns : List Int} (hl : ns.length ≤ 63) (ho : Only H) (hs : SqL K H a (ns.map V.int)) : liftSp K sdLaw [.ref a] H (fun v _ => v = .bl true) fun _ _ _ => False := by
  refine ⟨[.fz (ns.map .int)], fun _ => none, .cons ?_ .nil, (fun a o g => nomatch g), ns, rfl, hl, fun G' v H' e hr rd => rd_bl rd⟩
  unfold RD
  refine ⟨a, ns.map V.int, rfl, ?_, by rw [List.length_map, sizeLine_eq]; omega, .ints⟩
  rcases hs with (h | ⟨o, h⟩) | h
  · rcases ho a with z | ⟨o, xs, z⟩
    · rw [z] at h; cases h
    · rw [z] at h; cases h
  · exact .inl ⟨o, h⟩
  · exact .inr h
end DL
set_option Elab.async false
set_option linter.all false
set_option maxRecDepth 100000
set_option maxHeartbeats 4000000
/-! DL11: unary minus, xs[i] += e, dicts, freezing. -/
namespace DL
open PySem PySem.Spec PyProof.Rows L2
section
variable {X : Cx} {W : WX} {pos pos' tpos : Pos} {e o i a : Expr} {te to ti ta : DTE}
def dNeg (te : DTE) : DTE := fun E δ G Q => te E δ G fun d G1 => match d with | .int i => Q (.int (-i)) G1 | _ => False
theorem de_neg (he : DE X W e te) : DE X W (.UnaryOp .USub e pos) (dNeg te) :=
  de_of (fun E E' δ G Q Q' j k h => he.mono _ _ _ _ _ _ j (fun d G1 q => by
    cases d with
    | int i => exact k _ _ q
    | _ => exact q.elim) h) (pe_un un_neg he.pe) fun σ H Q δ G r h => he.use DXW.le_refl r h fun d G1 v H1 q e1 r1 d1 => by
    cases d with
    | int i => exact ⟨i, rd_int d1, q _ _ e1 r1.hr rd_i⟩
    | _ => exact q.elim
/-! ### freezing -/
/-- a new list from now on by value -/
def fzR (d : D) (G : DHp) (Q : DK) : Prop := ∃ p xs, d = .ref p ∧ G p = some (.lst xs) ∧ Q (.lst xs) (delD G p)
def dFz (te : DTE) : DTE := fun E δ G Q => te E δ G fun d G1 => fzR d G1 Q
theorem fzR_use {K : Frag} {d : D} {v : V} {G G0 : DHp} {H H0 : Hp} {Q : VK} (hr : HR K G H) (e : Ext G0 H0 G H) (r : RD K G H d v) (h : fzR d G (upE K G0 H0 Q)) : Q v H := by
  obtain ⟨p, xs, h1, h2, h3⟩ := h
  subst h1
  rw [rd_ref r]
  exact lcEnd_use (m := false) hr e ⟨h2, h3⟩
theorem de_fz (he : DE X W e te) : DE X W e (dFz te) :=
  de_of (fun E E' δ G Q Q' j k h => he.mono _ _ _ _ _ _ j (fun d G1 ⟨p, xs, h1, h2, h3⟩ => ⟨p, xs, h1, h2, k _ _ h3⟩) h) he.pe fun σ H Q δ G r h => he.use DXW.le_refl r h fun d G1 v H1 q e1 r1 d1 => fzR_use r1.hr e1 d1 q
/-! ### xs[i] += e, ints -/
def tgetL : V → V → Hp → VK → Prop := fun o i H Q => ∃ p xs k j x, o = .ref p ∧ i = .int k ∧ H p = some (.lst xs) ∧ ixN xs.length k = some j ∧ xs[j]? = some x ∧ Q x H
theorem get_list : PGet X tgetL := by
  intro pins s σ H o i ov iv Q I ro ri h
  obtain ⟨p, xs, k, j, x, rfl, rfl, hp, hj, hx, q⟩ := h
  cases ro
  obtain ⟨t, rfl⟩ := ri
  obtain ⟨its, r, pl, hz⟩ := I.list (SqL.of (K := X.K) hp)
  obtain ⟨h1, h2, h3, h4⟩ := ixN_seq hj
  obtain ⟨w, ew, rw'⟩ := r.get hx
  have hl := r.length
  have hn := line63
  have fin : EP X pins σ Q w s := ⟨x, H, I, rw', q⟩
  by_cases h0 : 0 ≤ k
  · have hk : k.toNat = j := by
      rw [seqIndex_of h0 h4] at h1
      exact Option.some.inj h1
    exact wpAny_getItem_list pl.isList h0 (by omega) (by rw [hk]; simpa using ew) fin
  · have hk : (k + (its.toArray.size : Int)).toNat = j := by
      rw [seqIndex_neg (by omega) h3] at h1
      rw [List.size_toArray, ← hl]
      exact Option.some.inj h1
    exact wpAny_getItem_list_neg pl.isList (by omega) (by rw [List.size_toArray, ← hl]; exact h3) (by omega) (by rw [hk]; simpa using ew) fin
def dAugS (to ti te : DTE) : DTS := fun D δ G => to D.xc δ G fun o G1 => ti D.xc δ G1 fun i G2 => ∃ p xs k j x, o = .ref p ∧ i = .int k ∧ G2 p = some (.lst xs) ∧ ixN xs.length k = some j ∧ xs[j]? = some (.int x) ∧
  te D.xc δ G2 fun y G3 => ∃ b ys, y = .int b ∧ G3 p = some (.lst ys) ∧ ixN ys.length k = some j ∧ D.nx δ (updD G3 p (.lst (ys.set j (.int (x + b)))))
theorem ds_augS (ho : DE X W o to) (hi : DE X W i ti) (he : DE X W e te) (ha : ∀ ov iv new, augStore i ov iv new = (do holding [new, ov, iv] (setItem ov iv new); release [new, ov, iv] []; pure .next) := by intros; rfl) : DS X W (.AugAssign (.Subscript o i tpos) .Add e pos) (dAugS to ti te) :=
  ds_of (fun δ G D D' l h => ho.mono _ _ _ _ _ _ l.2.2.1 (fun d G1 h1 => hi.mono _ _ _ _ _ _ l.2.2.1 (fun d2 G2 ⟨p, xs, k, j, x, q1, q2, q3, q4, q5, q6⟩ => ⟨p, xs, k, j, x, q1, q2, q3, q4, q5, he.mono _ _ _ _ _ _ l.2.2.1 (fun y G3 ⟨b, ys, z1, z2, z3, z4⟩ => ⟨b, ys, z1, z2, z3, l.1 _ _ z4⟩) q6⟩) h1) h)
    (ps_augS ho.pe hi.pe get_list he.pe ip_add set_list ha) fun D σ H δ G r h => ho.use DXW.le_refl r h fun d G1 v H1 h1 e1 r1 d1 => hi.use (upW.shift e1) r1 h1 fun d2 G2 v2 H2 ⟨p, xs, k, j, x, q1, q2, q3, q4, q5, q6⟩ e2 r2 d2' => by
    subst q1 q2
    obtain ⟨ws, g1, g2, g3⟩ := r2.hr _ _ q3
    obtain ⟨u, u1, u2⟩ := g3.get q5
    have e12 := e1.trans e2
    refine ⟨p, ws, k, j, u, rd_ref d1, rd_int d2', g1, by rw [← g3.length]; exact q4, u1, he.use (upW.shift e12) r2 q6 fun y G3 vy H3 ⟨b, ys, z1, z2, z3, z4⟩ e3 r3 d3 => ?_⟩
    subst z1
    obtain ⟨ws3, k1, k2, k3⟩ := r3.hr _ _ z2
    refine ⟨x, b, rd_int u2, rd_int d3, p, ws3, k, j, rd_ref d1, rd_int d2', k1, by rw [← k3.length]; exact z3, ?_⟩
    have ex := Ext.put (u := .lst (ws3.set j (.int (x + b)))) (o' := .lst (ys.set j (.int (x + b)))) r3.hr z2
    exact z4 _ _ ((e12.trans e3).trans ex) (r3.ext ex (r3.hr.put z2 rfl ⟨_, upd_same, by rw [List.length_set]; exact k2, (k3.set j rd_i).ext ex⟩))
/-! ### dicts -/
noncomputable def dput (ks xs : List D) (y v : D) : List D × List D :=
  if (ks.any fun k => decide (k = y)) = true then (ks, List.zipWith (fun k x => if k = y then v else x) ks xs) else (ks ++ [y], xs ++ [v])
end
theorem any_keys {κ : Type} [DecidableEq κ] {f : κ → D} (inj : ∀ a b, f a = f b → a = b) (k : κ) : ∀ kvs : List (κ × V), ((kvs.map fun p => f p.1).any fun x => decide (x = f k)) = (kvs.any fun p => decide (p.1 = k))
  | [] => rfl
  | p :: r => by
    rw [List.map_cons, List.any_cons, List.any_cons, any_keys inj k r]
    congr 1
    by_cases c : p.1 = k
    · rw [decide_eq_true c, decide_eq_true (by rw [c])]
    · rw [decide_eq_false c, decide_eq_false fun z => c (inj _ _ z)]
theorem zipW_rel {K : Frag} {G : DHp} {H : Hp} {κ : Type} [DecidableEq κ] {f : κ → D} (inj : ∀ a b, f a = f b → a = b) {k : κ} {d : D} {v : V} (rd : RD K G H d v) : ∀ {kvs : List (κ × V)} {xs : List D}, RDs K G H xs (kvs.map (·.2)) →
    RDs K G H (List.zipWith (fun k' x => if k' = f k then d else x) (kvs.map fun p => f p.1) xs) ((kvs.map fun kv => if kv.1 = k then (kv.1, v) else kv).map (·.2))
  | [], xs, r => by
    rw [r.nil_of]
    exact .nil
  | p :: kvs, xs, r => by
    have hl := r.length
    cases xs with
    | nil => simp at hl
    | cons x xs =>
      obtain ⟨u, r', e1, e2, e3⟩ := r.cons_inv
      rw [List.map_cons] at e1
      injection e1 with e1 e4
      rw [List.map_cons, List.zipWith_cons_cons, List.map_cons, List.map_cons]
      refine .cons ?_ (zipW_rel inj rd (by rw [e4]; exact e3))
      by_cases c : p.1 = k
      · rw [if_pos c, if_pos (by rw [c])]; exact rd
      · rw [if_neg c, if_neg fun z => c (inj _ _ z), e1]; exact e2
theorem dput_rel {K : Frag} {G : DHp} {H : Hp} {κ : Type} [DecidableEq κ] {f : κ → D} (inj : ∀ a b, f a = f b → a = b) {kvs : List (κ × V)} {xs : List D} {k : κ} {d : D} {v : V} (r : RDs K G H xs (kvs.map (·.2))) (rd : RD K G H d v) :
    (dput (kvs.map fun p => f p.1) xs (f k) d).1 = (putK kvs k v).map (fun p => f p.1) ∧ RDs K G H (dput (kvs.map fun p => f p.1) xs (f k) d).2 ((putK kvs k v).map (·.2)) := by
  unfold dput putK
  rw [any_keys inj]
  split
  · refine ⟨?_, zipW_rel inj rd r⟩
    show kvs.map (fun p => f p.1) = _
    rw [List.map_map]
    refine List.map_congr_left fun p _ => ?_
    show f p.1 = f (if p.1 = k then (p.1, v) else p).1
    split <;> rfl
  · rw [List.map_append, List.map_append]
    exact ⟨rfl, r.append (.cons rd .nil)⟩
def mkDc (m : Bool) (t : Nat) (ks xs : List D) (G : DHp) (Q : DK) : Prop := match m with
  | false => Q (.dic t ks xs) G
  | true => ∀ p, G p = none → Q (.ref p) (updD G p (.dic t ks xs))
theorem mkDc_mono {m : Bool} {t : Nat} {ks xs : List D} {G : DHp} {Q Q' : DK} (i : ∀ d G', Q d G' → Q' d G') (h : mkDc m t ks xs G Q) : mkDc m t ks xs G Q' := by
  cases m with
  | false => exact i _ _ h
  | true => exact fun p hp => i _ _ (h p hp)
theorem mkDc_use {K : Frag} {m : Bool} {kvs : List (Key × V)} {xs : List D} {G : DHp} {H : Hp} {Q : VK} (hr : HR K G H) (h : mkDc m 0 (kvs.map fun p => keyD p.1) xs G (upE K G H Q)) (hl : kvs.length ≤ sizeLine) (r : RDs K G H xs (kvs.map (·.2))) {p : Addr} (hp : H p = none) : Q (.ref p) (upd H p (.dK kvs)) := by
  cases m with
  | false =>
    refine h _ _ (Ext.new hp) (hr.new hp) ?_
    unfold RD
    exact ⟨p, rfl, hr.none hp, .inl ⟨rfl, kvs, .inl upd_same, rfl, hl, r.ext (Ext.new hp)⟩⟩
  | true => exact h p (hr.none hp) _ _ (Ext.newT hr hp) (hr.newT hp (.inl ⟨rfl, kvs, upd_same, rfl, hl, r.ext (Ext.newT hr hp)⟩)) (by unfold RD; rfl)
theorem mkDcT_use {K : Frag} {m : Bool} {kvs : List (List Key × V)} {xs : List D} {G : DHp} {H : Hp} {Q : VK} (hr : HR K G H) (h : mkDc m 1 (kvs.map fun p => .tup (p.1.map keyD)) xs G (upE K G H Q)) (hl : kvs.length ≤ sizeLine) (r : RDs K G H xs (kvs.map (·.2))) {p : Addr} (hp : H p = none) : Q (.ref p) (upd H p (.dT kvs)) := by
  cases m with
  | false =>
    refine h _ _ (Ext.new hp) (hr.new hp) ?_
    unfold RD
    exact ⟨p, rfl, hr.none hp, .inr ⟨rfl, kvs, .inl upd_same, rfl, hl, r.ext (Ext.new hp)⟩⟩
  | true => exact h p (hr.none hp) _ _ (Ext.newT hr hp) (hr.newT hp (.inr ⟨rfl, kvs, upd_same, rfl, hl, r.ext (Ext.newT hr hp)⟩)) (by unfold RD; rfl)
section
variable {X : Cx} {W : WX} {pos pos' tpos : Pos} {e o i a value : Expr} {te to ti tv : DTE}
/-- {} of the kind t -/
def dDic0 (m : Bool) (t : Nat) : DTE := fun E δ G Q => mkDc m t [] [] G Q
theorem de_dic0 (m : Bool) : DE X W (.Dict [] [] pos) (dDic0 m 0) := de_of (fun E E' δ G Q Q' j k h => mkDc_mono k h) pe_dnewK fun σ H Q δ G r h p hp => mkDc_use (kvs := []) r.hr h (Nat.zero_le _) .nil hp
theorem de_dicT0 (m : Bool) : DE X W (.Dict [] [] pos) (dDic0 m 1) := de_of (fun E E' δ G Q Q' j k h => mkDc_mono k h) pe_dnewT fun σ H Q δ G r h p hp => mkDcT_use (kvs := []) r.hr h (Nat.zero_le _) .nil hp
/-- d[i] = v -/
def dDput (to ti tv : DTE) : DTS := fun D δ G => tv D.xc δ G fun v G1 => to D.xc δ G1 fun o G2 => ti D.xc δ G2 fun y G3 => ∃ a t ks xs, o = .ref a ∧ G3 a = some (.dic t ks xs) ∧ isKey t y = true ∧ ks.length < sizeLine ∧ D.nx δ (updD G3 a (.dic t (dput ks xs y v).1 (dput ks xs y v).2))
theorem dput_len {ks xs : List D} {y v : D} (h : ks.length < sizeLine) : (dput ks xs y v).1.length ≤ sizeLine := by
  unfold dput
  split
  · exact Nat.le_of_lt h
  · rw [List.length_append, List.length_singleton]; exact h
theorem put_dic {K : Frag} {G : DHp} {H : Hp} {a : Addr} {t : Nat} {ks xs : List D} {y d : D} {w v : V} (hr : HR K G H) (g : G a = some (.dic t ks xs)) (hk : isKey t y = true) (hl : ks.length < sizeLine) (ry : RD K G H y w) (rd : RD K G H d v) :
    ∃ H', L2.DPut H a w v H' ∧ Ext G H (updD G a (.dic t (dput ks xs y d).1 (dput ks xs y d).2)) H' ∧ HR K (updD G a (.dic t (dput ks xs y d).1 (dput ks xs y d).2)) H' := by
  have q := hr a _ g
  have hlen := dput_len (xs := xs) (y := y) (v := d) hl
  rcases q with ⟨et, kvs, e1, e2, e3, e4⟩ | ⟨et, kvs, e1, e2, e3, e4⟩
  · subst et
    obtain ⟨k, ek⟩ := isKey0_of (d := y) hk
    subst ek e2
    obtain ⟨q1, q2⟩ := dput_rel (fun _ _ => keyD_inj) (k := k) e4 rd
    rw [List.length_map] at hl
    have ex := Ext.put (u := .dK (putK kvs k v)) (o' := .dic 0 (dput (kvs.map fun p => keyD p.1) xs (keyD k) d).1 (dput (kvs.map fun p => keyD p.1) xs (keyD k) d).2) hr g
    refine ⟨_, .inl ⟨kvs, k, e1, rd_key ry, hl, rfl⟩, ex, hr.put g rfl (.inl ⟨rfl, _, upd_same, q1, ?_, q2.ext ex⟩)⟩
    rw [q1, List.length_map] at hlen
    exact hlen
  · subst et
    cases y with
    | tup ys =>
      obtain ⟨k, ek⟩ := isKeys_of (ds := ys) hk
      subst ek e2
      obtain ⟨b, vs, f1, f2, f3, f4⟩ := rd_tup ry
      have hb2 : H b = some (.tup (k.map kV)) := by rw [f2, rds_keys f4]
      obtain ⟨q1, q2⟩ := dput_rel (f := fun l : List Key => D.tup (l.map keyD)) (fun _ _ z => keyDs_inj (by injection z)) (k := k) e4 rd
      rw [List.length_map] at hl
      have ex := Ext.put (u := .dT (putK kvs k v)) (o' := .dic 1 (dput (kvs.map fun p => .tup (p.1.map keyD)) xs (.tup (k.map keyD)) d).1 (dput (kvs.map fun p => .tup (p.1.map keyD)) xs (.tup (k.map keyD)) d).2) hr g
      refine ⟨_, .inr ⟨kvs, k, b, e1, f1, hb2, hl, rfl⟩, ex, hr.put g rfl (.inr ⟨rfl, _, upd_same, q1, ?_, q2.ext ex⟩)⟩
      rw [q1, List.length_map] at hlen
      exact hlen
    | _ => cases hk
theorem ds_dput (hu : X.A.units + 64 < cLine) (hv : DE X W value tv) (ho : DE X W o to) (hi : DE X W i ti) (hs : swapsWith value (some (.Subscript o i pos')) pos.line X.env = pure false := by rfl) : DS X W (.Assign [.Subscript o i pos'] value pos) (dDput to ti tv) :=
  ds_of (fun δ G D D' l h => hv.mono _ _ _ _ _ _ l.2.2.1 (fun v G1 h1 => ho.mono _ _ _ _ _ _ l.2.2.1 (fun o G2 h2 => hi.mono _ _ _ _ _ _ l.2.2.1 (fun y G3 ⟨a, t, ks, xs, q1, q2, q3, q4, q5⟩ => ⟨a, t, ks, xs, q1, q2, q3, q4, l.1 _ _ q5⟩) h2) h1) h)
    (L2.ps_dput (hu1 hu) ho.pe hi.pe hv.pe hs) fun D σ H δ G r h => hv.use DXW.le_refl r h fun v G1 vv H1 h1 e1 r1 d1 => ho.use (upW.shift e1) r1 h1 fun o G2 vo H2 h2 e2 r2 d2 => hi.use (upW.shift (e1.trans e2)) r2 h2 fun y G3 vy H3 ⟨a, t, ks, xs, q1, q2, q3, q4, q5⟩ e3 r3 d3 => by
    subst q1
    obtain ⟨H', p1, p2, p3⟩ := put_dic r3.hr q2 q3 q4 d3 ((d1.ext e2).ext e3)
    exact ⟨a, H', rd_ref d2, p1, q5 _ _ (((e1.trans e2).trans e3).trans p2) (r3.ext p2 p3)⟩
end
/-! ### dict(pairs) -/
noncomputable def mergeD (ks xs : List D) : List (D × D) → List D × List D
  | [] => (ks, xs)
  | q :: r => mergeD (dput ks xs q.1 q.2).1 (dput ks xs q.1 q.2).2 r
def rDictD (m : Bool) : DC := fun ds G Q => match ds with
  | [d] => ∃ ps : List (D × D), asR G d = some (ps.map fun q => .tup [q.1, q.2]) ∧ (ps.all fun q => isKey0 q.1) = true ∧ mkDc m 0 (mergeD [] [] ps).1 (mergeD [] [] ps).2 G Q
  | _ => False
theorem merge_rel {K : Frag} {G : DHp} {H : Hp} : ∀ {ps : List (D × D)} {more : List (Key × V)} {kvs : List (Key × V)} {xs : List D}, ps.map (·.1) = more.map (fun p => keyD p.1) → RDs K G H (ps.map (·.2)) (more.map (·.2)) → RDs K G H xs (kvs.map (·.2)) →
    (mergeD (kvs.map fun p => keyD p.1) xs ps).1 = (mergeK kvs more).map (fun p => keyD p.1) ∧ RDs K G H (mergeD (kvs.map fun p => keyD p.1) xs ps).2 ((mergeK kvs more).map (·.2))
  | [], more, kvs, xs, e, r, rx => by
    have : more = [] := by cases more <;> simp at e ⊢
    subst this
    exact ⟨rfl, rx⟩
  | q :: ps, more, kvs, xs, e, r, rx => by
    cases more with
    | nil => simp at e
    | cons p more =>
      rw [List.map_cons, List.map_cons] at e
      injection e with e1 e2
      obtain ⟨v, r', f1, f2, f3⟩ := RDs.cons_inv (x := q.2) (xs := ps.map (·.2)) r
      rw [List.map_cons] at f1
      injection f1 with f1 f4
      subst f1
      obtain ⟨q1, q2⟩ := dput_rel (f := keyD) (fun _ _ => keyD_inj) (k := p.1) rx f2
      unfold mergeD
      rw [e1, q1]
      exact merge_rel e2 (by rw [f4]; exact f3) q2
theorem pairs_rel {K : Frag} {G : DHp} {H : Hp} : ∀ {ps : List (D × D)} {vs : List V}, (ps.all fun q => isKey0 q.1) = true → RDs K G H (ps.map fun q => .tup [q.1, q.2]) vs →
    ∃ (as : List Addr) (kvs : List (Key × V)), vs = as.map V.ref ∧ Paired (fun p (kv : Key × V) => SqT K H p [kV kv.1, kv.2]) as kvs ∧ ps.map (·.1) = kvs.map (fun p => keyD p.1) ∧ RDs K G H (ps.map (·.2)) (kvs.map (·.2))
  | [], vs, _, r => ⟨[], [], r.nil_inv, .nil, rfl, .nil⟩
  | q :: ps, vs, h, r => by
    rw [List.all_cons, Bool.and_eq_true] at h
    obtain ⟨v, r', e1, e2, e3⟩ := RDs.cons_inv (x := .tup [q.1, q.2]) (xs := ps.map fun q => .tup [q.1, q.2]) r
    obtain ⟨as, kvs, i1, i2, i3, i4⟩ := pairs_rel h.2 e3
    obtain ⟨b, ws, f1, f2, f3, f4⟩ := rd_tup e2
    obtain ⟨kk, vv, g1, g2, g3⟩ := rds2 f4
    obtain ⟨k, ek⟩ := isKey0_of h.1
    rw [ek] at g2
    refine ⟨b :: as, (k, vv) :: kvs, by rw [e1, f1, i1]; rfl, .cons ?_ i2, by rw [List.map_cons, List.map_cons, i3, ek], .cons g3 i4⟩
    rw [← rd_key g2, ← g1]
    exact .of f2
theorem cd_dict {K : Frag} {m : Bool} : CallD K (rDictD m) (fun xs H Q => ∃ (a : Addr) (ps : List Addr) (kvs : List (Key × V)), xs = [.ref a] ∧ SqL K H a (ps.map V.ref) ∧ Paired (fun p kv => SqT K H p [kV kv.1, kv.2]) ps kvs ∧
    ∀ p, H p = none → Q (.ref p) (upd H p (.dK (mergeK [] kvs)))) where
  mono := fun ds G Q Q' i h => by
    unfold rDictD at h ⊢
    split at h
    · obtain ⟨ps, h1, h2, h3⟩ := h
      exact ⟨ps, h1, h2, mkDc_mono i h3⟩
    · exact h.elim
  link := fun G H ds vs Q hr r h => by
    unfold rDictD at h
    split at h
    · obtain ⟨v, e, rd⟩ := rds1 r
      obtain ⟨ps, h1, h2, h3⟩ := h
      obtain ⟨a, ws, f1, f2, f3, f4⟩ := asR_sq hr rd h1
      obtain ⟨as, kvs, g1, g2, g3, g4⟩ := pairs_rel h2 f4
      subst f1 g1
      refine ⟨a, as, kvs, e, f2, g2, fun p hp => ?_⟩
      obtain ⟨q1, q2⟩ := merge_rel (kvs := []) (xs := []) g3 g4 .nil
      rw [List.map_nil] at q1 q2
      rw [q1] at h3
      refine mkDc_use hr h3 ?_ q2 hp
      refine Nat.le_trans (length_mergeK kvs []) ?_
      rw [List.length_nil, Nat.zero_add]
      have hl : as.length = kvs.length := g2.length
      rw [List.length_map] at f3
      omega
    · exact h.elim
end DL
set_option Elab.async false
set_option linter.all false
set_option maxRecDepth 100000
set_option maxHeartbeats 4000000
/-! DL12: a told dict is locked while it is walked. -/
namespace DL
open PySem PySem.Spec PyProof.Rows L2
section
variable {K : Frag} {G G' : DHp} {H H' : Hp} {a : Addr} {t : Nat} {ks xs : List D}
/-- what stands at a told dict -/
theorem lk_start (hr : HR K G H) (g : G a = some (.dic t ks xs)) : ∃ u, H a = some u ∧ Mut (some u) ∧ isDct u = true ∧ ∀ od, Ext G H (updD G a (.ldc t ks xs)) (upd H a (.frz od u)) ∧ HR K (updD G a (.ldc t ks xs)) (upd H a (.frz od u)) := by
  have main : ∀ u, H a = some u → isDct u = true → ∀ od, Ext G H (updD G a (.ldc t ks xs)) (upd H a (.frz od u)) := by
    intro u e hd od
    refine ⟨fun b vs hb => ?_, fun b w i gb hb => ⟨?_, ?_⟩, fun b o w hb => ?_⟩
    · have ne : b ≠ a := fun z => by subst z; rw [e] at hb; cases hb; cases hd
      exact (upd_ne ne).trans hb
    · have ne : b ≠ a := fun z => by subst z; rw [g] at gb; cases gb
      rcases hb with hb | ⟨n, ob, hb⟩
      · exact .inl ((upd_ne ne).trans hb)
      · exact .inr ⟨n, ob, (upd_ne ne).trans hb⟩
    · have ne : b ≠ a := fun z => by subst z; rw [g] at gb; cases gb
      exact (updD_ne ne).trans gb
    · have ne : b ≠ a := fun z => by subst z; rw [e] at hb; cases hb; cases hd
      exact (upd_ne ne).trans hb
  have keep : ∀ u, H a = some u → isDct u = true → ∀ od, RO K (updD G a (.ldc t ks xs)) (upd H a (.frz od u)) a (.ldc t ks xs) → HR K (updD G a (.ldc t ks xs)) (upd H a (.frz od u)) := by
    intro u e hd od r
    refine hr.keep (main u e hd od) fun b o2 gb => ?_
    by_cases c : b = a
    · subst c
      rw [updD_same] at gb
      cases gb
      exact .inr r
    · rw [updD_ne c] at gb
      exact .inl ⟨gb, upd_ne c⟩
  rcases hr a _ g with ⟨et, kvs, e1, e2, e3, e4⟩ | ⟨et, kvs, e1, e2, e3, e4⟩
  · exact ⟨_, e1, True.intro, rfl, fun od => ⟨main _ e1 rfl od, keep _ e1 rfl od (.inl ⟨et, od, kvs, upd_same, e2, e3, e4.ext (main _ e1 rfl od)⟩)⟩⟩
  · exact ⟨_, e1, True.intro, rfl, fun od => ⟨main _ e1 rfl od, keep _ e1 rfl od (.inr ⟨et, od, kvs, upd_same, e2, e3, e4.ext (main _ e1 rfl od)⟩)⟩⟩
/-- let loose again -/
theorem lk_end {u : HO} {od : Obj} (hd : isDct u = true) (hr : HR K G' H') (g : G' a = some (.ldc t ks xs)) (e : H' a = some (.frz od u)) : ExtR G' H' (updD G' a (.dic t ks xs)) (upd H' a u) ∧ HR K (updD G' a (.dic t ks xs)) (upd H' a u) := by
  have ex : ExtR G' H' (updD G' a (.dic t ks xs)) (upd H' a u) := by
    refine ⟨fun b vs hb => ?_, fun b w i gb hb => ⟨?_, ?_⟩, fun b o w hb => ?_⟩
    · have ne : b ≠ a := fun z => by subst z; rw [e] at hb; cases hb
      exact (upd_ne ne).trans hb
    · have ne : b ≠ a := fun z => by subst z; rw [g] at gb; cases gb
      rcases hb with hb | ⟨n, ob, hb⟩
      · exact .inl ((upd_ne ne).trans hb)
      · exact .inr ⟨n, ob, (upd_ne ne).trans hb⟩
    · have ne : b ≠ a := fun z => by subst z; rw [g] at gb; cases gb
      exact (updD_ne ne).trans gb
    · have ne : b ≠ a := fun z => by subst z; rw [e] at hb; cases hb; cases hd
      exact (upd_ne ne).trans hb
  refine ⟨ex, fun b o gb => ?_⟩
  by_cases c : b = a
  · subst c
    rw [updD_same] at gb
    cases gb
    rcases hr b _ g with ⟨et, ob, kvs, e1, e2, e3, e4⟩ | ⟨et, ob, kvs, e1, e2, e3, e4⟩
    · rw [e] at e1; cases e1
      exact .inl ⟨et, kvs, upd_same, e2, e3, e4.extR ex⟩
    · rw [e] at e1; cases e1
      exact .inr ⟨et, kvs, upd_same, e2, e3, e4.extR ex⟩
  · rw [updD_ne c] at gb
    exact (hr b o gb).extR ex (upd_ne c)
/-- the whole way -/
theorem lk_all {u : HO} {od : Obj} (hu : H a = some u) (hd : isDct u = true) (g : G a = some (.dic t ks xs)) (e : Ext (updD G a (.ldc t ks xs)) (upd H a (.frz od u)) G' H') : Ext G H (updD G' a (.dic t ks xs)) (upd H' a u) := by
  refine ⟨fun b vs hb => ?_, fun b w i gb hb => ?_, fun b o w hb => ?_⟩
  · have ne : b ≠ a := fun z => by subst z; rw [hu] at hb; cases hb; cases hd
    rw [upd_ne ne]
    exact e.tup b vs (by rw [upd_ne ne]; exact hb)
  · have ne : b ≠ a := fun z => by subst z; rw [g] at gb; cases gb
    obtain ⟨h1, h2⟩ := e.imm b w i (by rw [updD_ne ne]; exact gb) (by
      rcases hb with hb | ⟨n, ob, hb⟩
      · exact .inl ((upd_ne ne).trans hb)
      · exact .inr ⟨n, ob, (upd_ne ne).trans hb⟩)
    refine ⟨?_, by rw [updD_ne ne]; exact h2⟩
    rcases h1 with h1 | ⟨n, ob, h1⟩
    · exact .inl ((upd_ne ne).trans h1)
    · exact .inr ⟨n, ob, (upd_ne ne).trans h1⟩
  · have ne : b ≠ a := fun z => by subst z; rw [hu] at hb; cases hb; cases hd
    rw [upd_ne ne]
    exact e.frz b o w (by rw [upd_ne ne]; exact hb)
end
section
variable {X : Cx} {W : WX} {e : Expr} {te : DTE}
/-- an expression that walks the told dict at slot i -/
def dLk (i : Nat) (te : DTE) : DTE := fun E δ G Q => match δ[i]? with
  | some (some (.ref a)) => ∃ t ks xs, (G a = some (.dic t ks xs) ∧ te E0 δ (updD G a (.ldc t ks xs)) fun d G' => G' a = some (.ldc t ks xs) ∧ Q d (updD G' a (.dic t ks xs))) ∨ (G a = some (.ldc t ks xs) ∧ te E0 δ G Q)
  | _ => False
theorem dLk_mono {i : Nat} (m : MonE te) : MonE (dLk i te) := fun E E' δ G Q Q' j k h => by
  unfold dLk at h ⊢
  split <;> rename_i e <;> simp only [e] at h
  · obtain ⟨t, ks, xs, h | h⟩ := h
    · exact ⟨t, ks, xs, .inl ⟨h.1, m _ _ _ _ _ _ DXW.le_refl (fun d G' q => ⟨q.1, k _ _ q.2⟩) h.2⟩⟩
    · exact ⟨t, ks, xs, .inr ⟨h.1, m _ _ _ _ _ _ DXW.le_refl k h.2⟩⟩
theorem de_lk (i : Nat) (he : DE X W e te) : DE X W e (dLk i te) := by
  refine ⟨dLk_mono he.mono, ⟨fun pins s σ H Q I ⟨δ, G, r, h⟩ => ?_⟩⟩
  unfold dLk at h
  split at h
  · rename_i a es
    obtain ⟨t, ks, xs, ⟨g, h⟩ | ⟨g, h⟩⟩ := h
    · obtain ⟨u, hu, mu, hd, hl⟩ := lk_start r.hr g
      refine (pe_lock he.pe).run pins s σ H Q I ⟨a, u, hu, mu, fun od => ?_⟩
      obtain ⟨e1, hr1⟩ := hl od
      refine he.use (Q := fun v H' => H' a = some (.frz od u) ∧ Q v (upd H' a u)) E0_le (r.ext e1 hr1) h fun d G' v H' q e2 r2 d2 => ?_
      have ha : H' a = some (.frz od u) := e2.frz a od u upd_same
      obtain ⟨ex, hr3⟩ := lk_end hd r2.hr q.1 ha
      exact ⟨ha, q.2 _ _ (lk_all hu hd g e2) hr3 (RD.extR ex d2)⟩
    · exact he.pe.run pins s σ H Q I (he.use E0_le r h fun d G' v H' q e2 r2 d2 => q _ _ e2 r2.hr d2)
  · exact h.elim
/-- the keys of a told dict that is locked -/
def diKeys (te : DTE) : DTI := fun E δ G R => te E δ G fun d G1 => ∃ a ks xs, d = .ref a ∧ G1 a = some (.ldc 0 ks xs) ∧ R ks (fun G => G a = some (.ldc 0 ks xs)) G1
theorem itr_keys {K : Frag} {G : DHp} {H : Hp} {a : Addr} {ks xs : List D} {ob : Obj} {kvs : List (Key × V)} (hd : H a = some (.frz ob (.dK kvs))) (ek : ks = kvs.map (fun p => keyD p.1)) : ItR K (Itk a ob kvs) (fun G => G a = some (.ldc 0 ks xs)) ks G H where
  go := fun i G' H' e hr g hi => ⟨e.frz a ob _ hd, by rw [ek, List.length_map] at hi; exact hi⟩
  yld := fun i G' H' x H2 d e hr g hi ⟨y1, k, v, y2, y3⟩ => by
    subst y1 y3
    rw [ek, List.getElem?_map, y2] at hi
    cases hi
    refine ⟨.refl, hr, ?_⟩
    show RD K G' _ (keyD k) (kV k)
    cases k <;> (unfold keyD RD; rfl)
  stop := fun i G' H' e hr g hi => ⟨e.frz a ob _ hd, by rw [ek, List.length_map] at hi; exact hi⟩
theorem di_keys {tg : Expr} (he : DE X W e te) : DI X W tg e (diKeys te) := di_of (fun E E' δ G R R' j k h => he.mono _ _ _ _ _ _ j (fun d G1 ⟨a, ks, xs, h1, h2, h3⟩ => ⟨a, ks, xs, h1, h2, k _ _ _ h3⟩) h) (pi_keys he.pe) fun σ H R δ G r h => he.use DXW.le_refl r h fun d G1 v H1 h1 e1 r1 d1 => by
  obtain ⟨a, ks, xs, h2, h3, h4⟩ := h1
  subst h2
  rcases r1.hr a _ h3 with ⟨_, ob, kvs, f1, f2, f3, f4⟩ | ⟨q, _⟩
  · exact ⟨a, ob, rd_ref d1, .inl ⟨kvs, f1, h4 _ _ e1 r1.hr (itr_keys f1 f2)⟩⟩
  · cases q
end
end DL
namespace DL
open PySem PySem.Spec PyProof.Rows L2
theorem hu_of {k : Nat} {A : Around} (hr : Room k A) : A.units + 64 < cLine := by have := hr.un; omega
/-- a module's constant -/
def GCm (K : Frag) (mg : Str → Option Value) (x : Str) (d : D) : Prop := ∃ v u, mg x = some u ∧ RelV v u ∧ ∀ G H, RD K G H d v
theorem gcm_int {K : Frag} {mg : Str → Option Value} {x : Str} {i : Int} (h : ∃ t, mg x = some (.int i t)) : GCm K mg x (.int i) := by
  obtain ⟨t, h⟩ := h
  exact ⟨.int i, _, h, ⟨t, rfl⟩, fun _ _ => rd_i⟩
theorem gcm_str {K : Frag} {mg : Str → Option Value} {x z : Str} (h : ∃ t, mg x = some (.str z t)) : GCm K mg x (.str z) := by
  obtain ⟨t, h⟩ := h
  exact ⟨.str z, _, h, ⟨t, rfl⟩, fun _ _ => rd_s⟩
section
variable {X : Cx} {x n f : Str} {i : Nat} {t : Str → Addr → Addr → DTS} {b₀ : Stmt} {suite : List Stmt} {np pos' : Pos} {hds : List ExceptHandler} {l : HdL}
theorem hds_nil : HdsD X [] [] := .nil
theorem hds_cons (hm : X.mg x = some (.ref (He.ga X.K x)))
    (hsu : ∀ (a : Addr) (oe : Obj) (C : Str) (d : Addr) (pn : List (Addr × Obj)), Zc (.ref (He.ga X.K C)) (some d) oe → (∃ vs, oe.data = .fields vs) → DSs (X.suite a ((a, oe) :: pn)) W0 (b₀ :: suite) (t C a d)) (r : HdsD X hds l)
    (hg : Gl X x := by rfl) (hdb : (x == ("__debug__" : Str)) = false := by decide) : HdsD X (.ExceptHandler (some (.Name x np)) none (b₀ :: suite) pos' :: hds) ((x, none, t) :: l) :=
  .cons ⟨hg, hdb, .inl hm⟩ (fun C a d => (hsu a { cls := .ref (He.ga X.K C), dict := some d, data := .fields #[] } C d [] ⟨rfl, rfl⟩ ⟨_, rfl⟩).mono) hsu r
theorem hds_consA (i : Nat) (hm : X.mg x = some (.ref (He.ga X.K x)))
    (hsu : ∀ (a : Addr) (oe : Obj) (C : Str) (d : Addr) (pn : List (Addr × Obj)), Zc (.ref (He.ga X.K C)) (some d) oe → (∃ vs, oe.data = .fields vs) → DSs (X.suite a ((a, oe) :: pn)) W0 (b₀ :: suite) (t C a d)) (r : HdsD X hds l)
    (hi : X.N[i]? = some n := by rfl) (hln : X.env.kindOf n = some .local := by rfl)
    (hg : Gl X x := by rfl) (hdb : (x == ("__debug__" : Str)) = false := by decide) : HdsD X (.ExceptHandler (some (.Name x np)) (some n) (b₀ :: suite) pos' :: hds) ((x, some i, t) :: l) :=
  .consA ⟨hg, hdb, .inl hm⟩ (fun C a d => (hsu a { cls := .ref (He.ga X.K C), dict := some d, data := .fields #[] } C d [] ⟨rfl, rfl⟩ ⟨_, rfl⟩).mono) hi hln hsu r
theorem exc1 {P : Program} {w : World} {K : Frag} {mg : Str → Option Value} {base : Heap} (h : ExcF P w K mg base x f) : ∀ y ∈ [x], ExcF P w K mg base y f := fun y hy => by
  rw [List.mem_singleton.mp hy]; exact h
end
/-! ### what is no longer told -/
def gcD (δ : DSt) : List Nat → DHp → DHp
  | [], G => G
  | i :: is, G => gcD δ is (match δ[i]? with
    | some (some (.ref a)) => delD G a
    | _ => G)
theorem gcD_ext {K : Frag} {δ : DSt} {H : Hp} : ∀ (is : List Nat) {G : DHp}, HR K G H → Ext G H (gcD δ is G) H ∧ HR K (gcD δ is G) H
  | [], G, hr => ⟨.refl, hr⟩
  | i :: is, G, hr => by
    unfold gcD
    split
    · obtain ⟨e, h⟩ := gcD_ext is (hr.del (p := ‹Addr›))
      exact ⟨Ext.del.trans e, h⟩
    · exact gcD_ext is hr
def dGc (is : List Nat) (te : DTE) : DTE := fun E δ G Q => te E δ G fun d G' => Q d (gcD δ is G')
theorem de_gc {X : Cx} {W : WX} {e : Expr} {te : DTE} (is : List Nat) (he : DE X W e te) : DE X W e (dGc is te) :=
  de_of (fun E E' δ G Q Q' j k h => he.mono _ _ _ _ _ _ j (fun d G1 q => k _ _ q) h) he.pe fun σ H Q δ G r h => he.use DXW.le_refl r h fun d G1 v H1 q e1 r1 d1 => by
    obtain ⟨e2, h2⟩ := gcD_ext (δ := δ) is r1.hr
    exact q _ _ (e1.trans e2) h2 (d1.ext e2)
/-- a def that promises nothing -/
def sdNo : Pro := fun _ _ _ _ => False
theorem df_no {P : Program} {w : World} {K : Frag} {mg : Str → Option Value} {base : Heap} {x q : Str} {params : Arguments} {body : List Stmt} {scope : Scope} {f : Addr} {fd : FuncData} {N ps : List Str} {kwp : List (Nat × List Str × List Nat)} (F : FunD K x q params body scope [] [] f fd) (gm : mg x = some (.ref f)) (S : FnScope N ps scope) (b : Binds K fd ps [])
    (hk : ∀ q ∈ kwp, KBn K fd ps q.1 q.2.1 (fun us ws => pick q.2.2 (us ++ ws)) (fun us ws => pick q.2.2 (us ++ ws))) (k : Nat) : Df P w K mg base (k + 1) x ps kwp sdNo :=
  df_ok F gm S ⟨fun _ _ _ _ h => h.elim, fun _ _ _ _ _ _ _ _ h => h⟩ b hk fun cdv A o s H E hr => ⟨dNever, dss_never, fun _ _ _ _ h => h.elim⟩
end DL
set_option Elab.async false
set_option linter.all false
set_option maxRecDepth 100000
set_option maxHeartbeats 4000000
/-! DL13: readings told to simp; loops and comprehensions by lemmas. -/
namespace DL
open PySem PySem.Spec PyProof.Rows L2
section
variable {E : DXW} {δ : DSt} {G : DHp} {Q : DK} {Dd : DEnds} {te ta tb tc to ti tv : DTE} {tt : DTA} {t u : DTS} {c c' : DTT} {i j l : Nat} {d x y z : D} {g : DTG} {gs : DTGs} {wi : DTI} {R : List D → (DHp → Prop) → DHp → Prop} {Qb : Bool → DHp → Prop} {Ql : List D → DHp → Prop} {Qn : DSt → DHp → Prop}
@[simp] theorem s_dVar : dVar i E δ G Q = match δ[i]? with | some (some d) => Q d G | _ => False := rfl
@[simp] theorem s_dC : dC d E δ G Q = Q d G := rfl
@[simp] theorem s_dOp {r : DR2} : dOp r ta tb E δ G Q = ta E δ G fun x G1 => tb E δ G1 fun y G2 => r x y G2 Q := rfl
@[simp] theorem s_dB : dB te E δ G Qb = te E δ G fun d G' => match d with | .bl b => Qb b G' | _ => False := rfl
@[simp] theorem s_dChain {r r' : DR2} : dChain r r' ta tb tc E δ G Q = ta E δ G fun x G1 => tb E δ G1 fun y G2 => r x y G2 fun z G3 => match z with
  | .bl true => tc E δ G3 fun w G4 => r' y w G4 Q
  | .bl false => Q (.bl false) G3
  | _ => False := rfl
@[simp] theorem s_dAnd : dAnd c c' E δ G Qb = c E δ G fun b G1 => if b = true then c' E δ G1 Qb else Qb false G1 := rfl
@[simp] theorem s_dOr : dOr c c' E δ G Qb = c E δ G fun b G1 => if b = true then Qb true G1 else c' E δ G1 Qb := rfl
@[simp] theorem s_dNot : dNot c E δ G Qb = c E δ G fun b G1 => Qb (!b) G1 := rfl
@[simp] theorem s_dAndV : dAndV ta tb E δ G Q = ta E δ G fun d G1 => match d with
  | .bl true => tb E δ G1 Q
  | .bl false => Q (.bl false) G1
  | _ => False := rfl
@[simp] theorem s_dOrV : dOrV ta tb E δ G Q = ta E δ G fun d G1 => match d with
  | .bl false => tb E δ G1 Q
  | .bl true => Q (.bl true) G1
  | _ => False := rfl
@[simp] theorem s_dNotV : dNotV te E δ G Q = te E δ G fun d G1 => match d with
  | .bl b => Q (.bl (!b)) G1
  | _ => False := rfl
@[simp] theorem s_dIte : dIte c ta tb E δ G Q = c E δ G fun b G1 => if b = true then ta E δ G1 Q else tb E δ G1 Q := rfl
@[simp] theorem s_dNeg : dNeg te E δ G Q = te E δ G fun d G1 => match d with | .int i => Q (.int (-i)) G1 | _ => False := rfl
@[simp] theorem s_dNil : dNil E δ G Ql = Ql [] G := rfl
@[simp] theorem s_dCons : dCons te tt E δ G Ql = te E δ G fun d G1 => tt E δ G1 fun ds G2 => Ql (d :: ds) G2 := rfl
@[simp] theorem s_dStar : dStar te tt E δ G Ql = te E δ G fun d G1 => ∃ xs, asS G1 d = some xs ∧ tt E δ G1 fun ds G2 => Ql (xs ++ ds) G2 := rfl
@[simp] theorem s_dTup : dTup tt E δ G Q = tt E δ G fun ds G1 => ds.length ≤ sizeLine ∧ Q (.tup ds) G1 := rfl
@[simp] theorem s_dLst {m : Bool} : dLst m tt E δ G Q = tt E δ G fun ds G1 => ds.length ≤ sizeLine ∧ mkL m ds G1 Q := rfl
@[simp] theorem s_mkLf {xs : List D} : mkL false xs G Q = Q (.lst xs) G := rfl
@[simp] theorem s_mkLt {xs : List D} : mkL true xs G Q = ∀ p, G p = none → Q (.ref p) (updD G p (.lst xs)) := rfl
@[simp] theorem s_dNoP {P : Option Int → DHp → Prop} : dNoP E δ G P = P none G := rfl
@[simp] theorem s_dP {P : Option Int → DHp → Prop} : dP te E δ G P = te E δ G fun d G1 => match d with | .int i => P (some i) G1 | _ => False := rfl
@[simp] theorem s_dSl {m : Bool} {p q : DTO} : dSl m te p q E δ G Q = te E δ G fun x G1 => p E δ G1 fun lo G2 => q E δ G2 fun hi G3 => rSlD m x lo hi G3 Q := rfl
@[simp] theorem s_dRev {m : Bool} : dRev m te E δ G Q = te E δ G fun x G1 => rRevD m x G1 Q := rfl
@[simp] theorem s_dCB {r : DC} : dCB r tt E δ G Q = tt E δ G fun ds G1 => r ds G1 Q := rfl
@[simp] theorem s_dBM {T : String} {r : DM} : dBM T r to tt E δ G Q = to E δ G fun d G1 => tyD T G1 d ∧ tt E δ G1 fun ds G2 => r d ds G2 Q := rfl
@[simp] theorem s_dBM0 {T : String} {r : DM} : dBM0 T r to E δ G Q = to E δ G fun d G1 => tyD T G1 d ∧ r d [] G1 Q := rfl
@[simp] theorem s_dCall {sd : Pro} : dCall sd tt E δ G Q = tt E δ G fun ds G1 => sd ds G1 Q fun C fs G2 => E C fs δ G2 := rfl
@[simp] theorem s_dCallK {n m : Nat} {ord : List Nat} {sd : Pro} {tk : DTA} : dCallK n m ord sd tt tk E δ G Q = tt E δ G fun ds G1 => tk E δ G1 fun es G2 => ds.length = n ∧ es.length = m ∧ sd (pick ord (ds ++ es)) G2 Q fun C fs G3 => E C fs δ G3 := rfl
@[simp] theorem s_dNext : dNext Dd δ G = Dd.nx δ G := rfl
@[simp] theorem s_dSeq : dSeq t u Dd δ G = t { Dd with nx := u Dd } δ G := rfl
@[simp] theorem s_dBreak : dBreak Dd δ G = Dd.bk δ G := rfl
@[simp] theorem s_dCont : dCont Dd δ G = Dd.ct δ G := rfl
@[simp] theorem s_dDrop : dDrop te Dd δ G = te Dd.xc δ G fun _ G1 => Dd.nx δ G1 := rfl
@[simp] theorem s_dRet : dRet te Dd δ G = te Dd.xc δ G Dd.rt := rfl
@[simp] theorem s_dRetN : dRetN Dd δ G = Dd.rt .non G := rfl
@[simp] theorem s_dIf : dIf c t u Dd δ G = c Dd.xc δ G fun b G1 => if b = true then t Dd δ G1 else u Dd δ G1 := rfl
@[simp] theorem s_dSet : dSet i te Dd δ G = te Dd.xc δ G fun d G1 => Dd.nx (δ.set i (some d)) G1 := rfl
@[simp] theorem s_dAsg : dAsg te g Dd δ G = te Dd.xc δ G fun d G1 => g Dd.xc d δ G1 Dd.nx := rfl
@[simp] theorem s_dPar : dPar i j tt Dd δ G = tt Dd.xc δ G fun ds G1 => match ds with
  | [d, e] => Dd.nx ((δ.set i (some d)).set j (some e)) G1
  | _ => False := rfl
@[simp] theorem s_dPar3 : dPar3 i j l tt Dd δ G = tt Dd.xc δ G fun ds G1 => match ds with
  | [d, e, f] => Dd.nx (((δ.set i (some d)).set j (some e)).set l (some f)) G1
  | _ => False := rfl
@[simp] theorem s_dAugA : dAugA i te Dd δ G = match δ[i]? with
  | some (some (.int a)) => te Dd.xc δ G fun d G1 => match d with
    | .int b => Dd.nx (δ.set i (some (.int (a + b)))) G1
    | _ => False
  | _ => False := rfl
@[simp] theorem s_dFor : dFor wi g t Dd δ G = wi Dd.xc δ G fun xs gd G1 => forL g t gd Dd xs δ G1 := rfl
@[simp] theorem s_dgName : dgName i E d δ G Qn = Qn (δ.set i (some d)) G := rfl
@[simp] theorem s_dgTup : dgTup i gs E d δ G Qn = ∃ xs, asT d = some xs ∧ xs.length = i ∧ gs E xs δ G Qn := rfl
@[simp] theorem s_dgUnl : dgUnl i gs E d δ G Qn = ∃ xs, asR G d = some xs ∧ xs.length = i ∧ gs E xs δ G Qn := rfl
@[simp] theorem s_dgNil {ds : List D} : dgNil E ds δ G Qn = (ds = [] ∧ Qn δ G) := rfl
@[simp] theorem s_dgCons {ds : List D} : dgCons g gs E ds δ G Qn = match ds with
  | d :: r => g E d δ G fun δ' G' => gs E r δ' G' Qn
  | [] => False := rfl
@[simp] theorem s_dgSub : dgSub to ti E d δ G Qn = to E δ G fun o G1 => ti E δ G1 fun i G2 => ∃ a xs k j, o = .ref a ∧ i = .int k ∧ G2 a = some (.lst xs) ∧ ixN xs.length k = some j ∧ Qn δ (updD G2 a (.lst (xs.set j d))) := rfl
@[simp] theorem s_diS : diS te E δ G R = te E δ G fun d G1 => (∃ xs, asS G1 d = some xs ∧ R xs (gdS d xs) G1) ∨ ∃ z, d = .str z ∧ R (strD z) gdT G1 := rfl
@[simp] theorem s_diR1 : diR1 tt E δ G R = tt E δ G fun ds G1 => match ds with
  | [.int j] => Ri j ∧ R (rngD 0 1 j.toNat) gdT G1
  | _ => False := rfl
@[simp] theorem s_diR2 : diR2 tt E δ G R = tt E δ G fun ds G1 => match ds with
  | [.int i, .int j] => Ri i ∧ Ri j ∧ R (rngD i 1 (j - i).toNat) gdT G1
  | _ => False := rfl
@[simp] theorem s_diR3 : diR3 tt E δ G R = tt E δ G fun ds G1 => match ds with
  | [.int i, .int j, .int c] => ∃ n, RgC i j c n ∧ R (rngD i c n) gdT G1
  | _ => False := rfl
@[simp] theorem s_dYes : dYes E δ G Qb = Qb true G := rfl
@[simp] theorem s_dLc {m : Bool} {vs : List Nat} : dLc m vs wi g c te E δ G Q = wi E δ G fun xs gd G1 => ∀ p, G1 p = none → lcL m p vs g c te gd δ Q xs [] (updD G1 p (.lst [])) := rfl
@[simp] theorem s_dLc2 {m : Bool} {vs vs1 : List Nat} {wi1 : DTI} {g1 : DTG} {c1 : DTT} : dLc2 m vs vs1 wi g c wi1 g1 c1 te E δ G Q = wi E δ G fun xs gd G1 => ∀ p, G1 p = none → lcL2 m p vs vs1 g c wi1 g1 c1 te gd δ Q xs [] (updD G1 p (.lst [])) := rfl
@[simp] theorem s_dRaise {x f : Str} : dRaise x f tt Dd δ G = tt Dd.xc δ G fun ds G1 => match ds with
  | [d] => Dd.xc x [(f, d)] δ G1
  | _ => False := rfl
@[simp] theorem s_dTry {exm : Str → Str → Option Bool} {hs : HdL} : dTry exm hs t Dd δ G = t { Dd with xc := dHs exm hs Dd } δ G := rfl
@[simp] theorem s_dHsA {exm : Str → Str → Option Bool} {x : Str} {tb : Str → Addr → Addr → DTS} {r : HdL} {C : Str} {fs : List (Str × D)} : dHs exm ((x, some i, tb) :: r) Dd C fs δ G = ∃ b, exm C x = some b ∧ (b = true → ∀ a d, tb C a d { nx := fun δ' G' => Dd.nx (δ'.set i none) G', rt := Dd.rt, xc := E0, bk := fun δ' G' => Dd.bk (δ'.set i none) G', ct := fun δ' G' => Dd.ct (δ'.set i none) G' } (δ.set i (some (.exn a d (fs.map (·.1)) (fs.map (·.2))))) G) ∧ (b = false → dHs exm r Dd C fs δ G) := rfl
@[simp] theorem s_dHsN {exm : Str → Str → Option Bool} {x : Str} {tb : Str → Addr → Addr → DTS} {r : HdL} {C : Str} {fs : List (Str × D)} : dHs exm ((x, none, tb) :: r) Dd C fs δ G = ∃ b, exm C x = some b ∧ (b = true → ∀ a d, tb C a d { Dd with xc := E0 } δ G) ∧ (b = false → dHs exm r Dd C fs δ G) := rfl
@[simp] theorem s_dHs0 {exm : Str → Str → Option Bool} {C : Str} {fs : List (Str × D)} : dHs exm [] Dd C fs δ G = Dd.xc C fs δ G := rfl
@[simp] theorem s_dExf {Cs : List Str} {C : Str} {a e : Addr} {f : Str} : dExf Cs C a e i f E δ G Q = (C ∈ Cs ∧ match δ[i]? with
  | some (some (.exn a' d' ns xs)) => a' = a ∧ d' = e ∧ ∃ v, lookD ns xs f = some v ∧ Q v G
  | _ => False) := rfl
@[simp] theorem s_look1 {f : Str} : lookD [f] [d] f = some d := by unfold lookD; simp
@[simp] theorem s_dAugS : dAugS to ti te Dd δ G = to Dd.xc δ G fun o G1 => ti Dd.xc δ G1 fun i G2 => ∃ p xs k j x, o = .ref p ∧ i = .int k ∧ G2 p = some (.lst xs) ∧ ixN xs.length k = some j ∧ xs[j]? = some (.int x) ∧
  te Dd.xc δ G2 fun y G3 => ∃ b ys, y = .int b ∧ G3 p = some (.lst ys) ∧ ixN ys.length k = some j ∧ Dd.nx δ (updD G3 p (.lst (ys.set j (.int (x + b))))) := rfl
@[simp] theorem s_dDput : dDput to ti tv Dd δ G = tv Dd.xc δ G fun v G1 => to Dd.xc δ G1 fun o G2 => ti Dd.xc δ G2 fun y G3 => ∃ a t ks xs, o = .ref a ∧ G3 a = some (.dic t ks xs) ∧ isKey t y = true ∧ ks.length < sizeLine ∧ Dd.nx δ (updD G3 a (.dic t (dput ks xs y v).1 (dput ks xs y v).2)) := rfl
@[simp] theorem s_diKeys : diKeys te E δ G R = te E δ G fun d G1 => ∃ a ks xs, d = .ref a ∧ G1 a = some (.ldc 0 ks xs) ∧ R ks (fun G => G a = some (.ldc 0 ks xs)) G1 := rfl
@[simp] theorem s_dFz : dFz te E δ G Q = te E δ G fun d G1 => fzR d G1 Q := rfl
@[simp] theorem s_dGc {is : List Nat} : dGc is te E δ G Q = te E δ G fun d G1 => Q d (gcD δ is G1) := rfl
@[simp] theorem s_gcN : gcD δ [] G = G := rfl
@[simp] theorem s_gcC {is : List Nat} : gcD δ (i :: is) G = gcD δ is (match δ[i]? with | some (some (.ref a)) => delD G a | _ => G) := rfl
@[simp] theorem s_dDic0f {t : Nat} : dDic0 false t E δ G Q = Q (.dic t [] []) G := rfl
@[simp] theorem s_dDic0t {t : Nat} : dDic0 true t E δ G Q = ∀ p, G p = none → Q (.ref p) (updD G p (.dic t [] [])) := rfl
/-! rules -/
@[simp] theorem s_rInt {C : Int → Int → Prop} {h : Int → Int → D} {a b : Int} : rInt C h (.int a) (.int b) G Q = (C a b ∧ Q (h a b) G) := rfl
@[simp] theorem s_rInt0 {h : Int → Int → D} {a b : Int} : rInt0 h (.int a) (.int b) G Q = Q (h a b) G := rfl
@[simp] theorem s_addI {m : Bool} {a b : Int} : rAddD m (.int a) (.int b) G Q = Q (.int (a + b)) G := rfl
@[simp] theorem s_addT {m : Bool} {a b : List D} : rAddD m (.tup a) (.tup b) G Q = (a.length + b.length ≤ sizeLine ∧ Q (.tup (a ++ b)) G) := rfl
theorem s_addL {m : Bool} {a b : List D} (hx : asL G x = some a) (hy : asL G y = some b) (hl : a.length + b.length ≤ sizeLine) (h : mkL m (a ++ b) G Q) : rAddD m x y G Q := by
  unfold rAddD
  split
  · cases hx
  · cases hx
  · cases hx
  · exact ⟨a, b, hx, hy, hl, h⟩
@[simp] theorem s_addLL {m : Bool} {a b : List D} : rAddD m (.lst a) (.lst b) G Q = (a.length + b.length ≤ sizeLine ∧ mkL m (a ++ b) G Q) := by
  apply propext
  constructor
  · rintro ⟨a', b', h1, h2, h3, h4⟩
    cases h1
    cases h2
    exact ⟨h3, h4⟩
  · rintro ⟨h1, h2⟩
    exact ⟨a, b, rfl, rfl, h1, h2⟩
@[simp] theorem s_mulI {m : Bool} {a b : Int} : rMulD m (.int a) (.int b) G Q = ((CMul a b ∨ CMulW a b) ∧ Q (.int (a * b)) G) := rfl
@[simp] theorem s_mulL {m : Bool} {a : List D} {k : Int} : rMulD m (.lst a) (.int k) G Q = (-(2 ^ 63) ≤ k ∧ k < 2 ^ 63 ∧ a.length * k.toNat ≤ sizeLine ∧ mkL m (List.replicate k.toNat a).flatten G Q) := by
  apply propext
  constructor
  · rintro (⟨a', h1, h2⟩ | ⟨a', h1, h2⟩)
    · cases h1; exact h2
    · cases h1
  · exact fun h => .inl ⟨a, rfl, h⟩
@[simp] theorem s_mulT {m : Bool} {a : List D} {k : Int} : rMulD m (.tup a) (.int k) G Q = (a ≠ [] ∧ 2 ≤ k ∧ k ≤ 1000 ∧ a.length ≤ 1000 ∧ Q (.tup (List.replicate k.toNat a).flatten) G) := by
  apply propext
  constructor
  · rintro (⟨a', h1, h2⟩ | ⟨a', h1, h2⟩)
    · cases h1
    · cases h1; exact h2
  · exact fun h => .inr ⟨a, rfl, h⟩
@[simp] theorem s_rIsB {neg : Bool} {a b : Bool} : rIsD neg (.bl a) (.bl b) G Q = Q (.bl (if neg then !decide (a = b) else decide (a = b))) G := rfl
@[simp] theorem s_rIsN {neg : Bool} : rIsD neg x .non G Q = Q (.bl (if neg then !isNon x else isNon x)) G := by cases x <;> rfl
@[simp] theorem s_len {n : Nat} (h : lenD G d = some n) : rLenD [d] G Q = Q (.int n) G := by
  cases d <;> first
    | (cases h; done)
    | (apply propext; constructor
       · rintro ⟨m, h1, h2⟩
         rw [h] at h1
         cases h1
         exact h2
       · exact fun q => ⟨n, h, q⟩)
@[simp] theorem s_int {a : Int} : rIntD [.int a] G Q = Q (.int a) G := rfl
@[simp] theorem s_intB {a : Bool} : rIntD [.bl a] G Q = Q (.int (if a then 1 else 0)) G := rfl
@[simp] theorem s_abs {a : Int} : rAbsD [.int a] G Q = Q (.int (a.natAbs : Nat)) G := rfl
@[simp] theorem s_max {a b : Int} : rMax2D [.int a, .int b] G Q = Q (.int (max a b)) G := rfl
@[simp] theorem s_min {a b : Int} : rMin2D [.int a, .int b] G Q = Q (.int (min a b)) G := rfl
@[simp] theorem s_isi {n : String} : rIsiD [d, .ty n] G Q = ∃ t, btyp G d = some t ∧ isCls (.ty n) = true ∧ Q (.bl (bsub t n)) G := rfl
@[simp] theorem s_isiT {cs : List D} : rIsiD [d, .tup cs] G Q = ∃ t, btyp G d = some t ∧ cs.all isCls = true ∧ Q (.bl (cs.any (isiB t))) G := rfl
@[simp] theorem s_tupleT {a : List D} : rTupleD [.tup a] G Q = Q (.tup a) G := by
  apply propext
  constructor
  · rintro (⟨xs, h1, h2⟩ | ⟨xs, h1, h2⟩)
    · cases h1
    · exact h2
  · exact fun h => .inr ⟨a, rfl, h⟩
@[simp] theorem s_tupleL {a : List D} : rTupleD [.lst a] G Q = Q (.tup a) G := by
  apply propext
  constructor
  · rintro (⟨xs, h1, h2⟩ | ⟨xs, h1, h2⟩)
    · cases h1; exact h2
    · cases h1
  · exact fun h => .inl ⟨a, rfl, h⟩
@[simp] theorem s_allL {bs : List Bool} : rAllD [.lst (bs.map .bl)] G Q = Q (.bl (bs.all id)) G := by
  apply propext
  constructor
  · rintro ⟨b2, h1, h2⟩
    have e : bs.map D.bl = b2.map D.bl := Option.some.inj h1
    have e2 : bs = b2 := List.map_inj_right (fun a b q => by injection q) |>.mp e
    rw [e2]
    exact h2
  · exact fun h => ⟨bs, rfl, h⟩
@[simp] theorem s_sumL {ns : List Int} : rSumD [.lst (ns.map .int)] G Q = Q (.int ns.sum) G := by
  apply propext
  constructor
  · rintro ⟨b2, h1, h2⟩
    have e : ns.map D.int = b2.map D.int := Option.some.inj h1
    have e2 : ns = b2 := List.map_inj_right (fun a b q => by injection q) |>.mp e
    rw [e2]
    exact h2
  · exact fun h => ⟨ns, rfl, h⟩
@[simp] theorem s_append {a : Addr} : rAppendD (.ref a) [y] G Q = ∃ xs, G a = some (.lst xs) ∧ xs.length < sizeLine ∧ Q .non (updD G a (.lst (xs ++ [y]))) := rfl
@[simp] theorem s_extend {a : Addr} : rExtendD (.ref a) [y] G Q = ∃ xs ys, G a = some (.lst xs) ∧ asL G y = some ys ∧ xs.length + ys.length ≤ sizeLine ∧ Q .non (updD G a (.lst (xs ++ ys))) := rfl
@[simp] theorem s_tyL : tyD "list" G d = ∃ xs, asR G d = some xs := rfl
@[simp] theorem s_asRl {a : List D} : asR G (.lst a) = some a := rfl
@[simp] theorem s_asRf {a : List D} : asR G (.fz a) = some a := rfl
@[simp] theorem s_asRt {a : List D} : asR G (.tup a) = none := rfl
@[simp] theorem s_asTt {a : List D} : asT (.tup a) = some a := rfl
@[simp] theorem s_asTl {a : List D} : asT (.lst a) = none := rfl
@[simp] theorem s_asSl {a : List D} : asS G (.lst a) = some a := rfl
@[simp] theorem s_asSf {a : List D} : asS G (.fz a) = some a := rfl
@[simp] theorem s_asSt {a : List D} : asS G (.tup a) = some a := rfl
@[simp] theorem s_asLl {a : List D} : asL G (.lst a) = some a := rfl
theorem s_asRr {a : Addr} {xs : List D} (h : G a = some (.lst xs)) : asR G (.ref a) = some xs := by simp only [asR, h]
theorem s_asLr {a : Addr} {xs : List D} (h : G a = some (.lst xs)) : asL G (.ref a) = some xs := by simp only [asL, h]
theorem s_asSr {a : Addr} {xs : List D} (h : G a = some (.lst xs)) : asS G (.ref a) = some xs := by simp only [asS, asR, h]; rfl
@[simp] theorem s_lenl {a : List D} : lenD G (.lst a) = some a.length := rfl
@[simp] theorem s_lenf {a : List D} : lenD G (.fz a) = some a.length := rfl
@[simp] theorem s_lent {a : List D} : lenD G (.tup a) = some a.length := rfl
@[simp] theorem s_bt1 : btyp G .non = some "NoneType" := rfl
@[simp] theorem s_bt2 {b : Bool} : btyp G (.bl b) = some "bool" := rfl
@[simp] theorem s_bt3 {b : Int} : btyp G (.int b) = some "int" := rfl
@[simp] theorem s_bt4 {b : Str} : btyp G (.str b) = some "str" := rfl
@[simp] theorem s_bt5 {b : List D} : btyp G (.tup b) = some "tuple" := rfl
@[simp] theorem s_bt6 {b : List D} : btyp G (.lst b) = some "list" := rfl
@[simp] theorem s_bt7 {b : List D} : btyp G (.fz b) = some "list" := rfl
@[simp] theorem s_ic1 : isCls (.ty "int") = true := by decide
@[simp] theorem s_ic2 : isCls (.ty "bool") = true := by decide
@[simp] theorem s_ic3 : isCls (.ty "str") = true := by decide
@[simp] theorem s_ic4 : isCls (.ty "list") = true := by decide
@[simp] theorem s_ic5 : isCls (.ty "tuple") = true := by decide
@[simp] theorem s_ic6 : isCls (.ty "dict") = true := by decide
@[simp] theorem s_in1 : isNon .non = true := rfl
@[simp] theorem s_in2 {b : Bool} : isNon (.bl b) = false := rfl
@[simp] theorem s_in3 {b : Int} : isNon (.int b) = false := rfl
@[simp] theorem s_in4 {b : Str} : isNon (.str b) = false := rfl
@[simp] theorem s_in5 {b : List D} : isNon (.tup b) = false := rfl
@[simp] theorem s_in6 {b : List D} : isNon (.lst b) = false := rfl
@[simp] theorem s_in7 {b : Addr} : isNon (.ref b) = false := rfl
@[simp] theorem s_vw (h : ∀ a, d ≠ .ref a) : vw G d = d := by
  cases d <;> first | rfl | exact absurd rfl (h _)
/-- xs[i] -/
theorem s_ix {xs : List D} {k : Int} (hs : asS G x = some xs) (h : atI xs k = some d) (q : Q d G) : rIxD x (.int k) G Q := .inl ⟨d, by unfold idx; rw [hs]; exact h, q⟩
@[simp] theorem s_ixR {a : Addr} {k : Int} : rIxD (.ref a) (.int k) G Q = match G a with
  | some (.lst xs) => (match atI xs k with | some d => Q d G | none => False)
  | some (.dic t ks xs) => (if isKey t (.int k) = true then match dget ks xs (.int k) with | some d => Q d G | none => False else False)
  | some (.ldc t ks xs) => (if isKey t (.int k) = true then match dget ks xs (.int k) with | some d => Q d G | none => False else False)
  | _ => False := by
  apply propext
  unfold rIxD idx asS asR asT asDc
  cases e : G a with
  | none => simp [e]
  | some o =>
    cases o with
    | lst xs => cases e2 : atI xs k <;> simp [e, e2]
    | dic t ks xs => by_cases c : isKey t (.int k) = true <;> cases e2 : dget ks xs (.int k) <;> simp [e, e2, c]
    | ldc t ks xs => by_cases c : isKey t (.int k) = true <;> cases e2 : dget ks xs (.int k) <;> simp [e, e2, c]
    | ins C ns xs => simp [e]
@[simp] theorem s_ixL {xs : List D} {k : Int} : rIxD (.lst xs) (.int k) G Q = match atI xs k with | some d => Q d G | none => False := by
  apply propext
  unfold rIxD idx
  cases e2 : atI xs k <;> simp [e2]
@[simp] theorem s_ixF {xs : List D} {k : Int} : rIxD (.fz xs) (.int k) G Q = match atI xs k with | some d => Q d G | none => False := by
  apply propext
  unfold rIxD idx
  cases e2 : atI xs k <;> simp [e2]
@[simp] theorem s_ixT {xs : List D} {k : Int} : rIxD (.tup xs) (.int k) G Q = match atI xs k with | some d => Q d G | none => False := by
  apply propext
  unfold rIxD idx
  cases e2 : atI xs k <;> simp [e2]
@[simp] theorem s_slL {m : Bool} {xs : List D} {lo hi : Option Int} : rSlD m (.lst xs) lo hi G Q = mkL m (cutD xs lo hi) G Q := by
  apply propext; unfold rSlD; simp
@[simp] theorem s_slF {m : Bool} {xs : List D} {lo hi : Option Int} : rSlD m (.fz xs) lo hi G Q = mkL m (cutD xs lo hi) G Q := by
  apply propext; unfold rSlD; simp [asT]
@[simp] theorem s_slT {m : Bool} {xs : List D} {lo hi : Option Int} : rSlD m (.tup xs) lo hi G Q = Q (.tup (cutD xs lo hi)) G := by
  apply propext; unfold rSlD; simp
@[simp] theorem s_revT {m : Bool} {xs : List D} : rRevD m (.tup xs) G Q = Q (.tup xs.reverse) G := by
  apply propext; unfold rRevD; simp
@[simp] theorem s_revL {m : Bool} {xs : List D} : rRevD m (.lst xs) G Q = mkL m xs.reverse G Q := by
  apply propext; unfold rRevD; simp
theorem cutD_map {α : Type} {f : α → D} {ns : List α} {lo hi : Option Int} : cutD (ns.map f) lo hi = ((ns.drop (HT.sIx ns.length 0 lo)).take (HT.sIx ns.length ns.length hi - HT.sIx ns.length 0 lo)).map f := by
  unfold cutD
  rw [List.length_map, List.map_take, List.map_drop]
@[simp] theorem s_updS {a : Addr} {o : DO} : updD G a o a = some o := updD_same
@[simp] theorem s_updU {a : Addr} {o u : DO} : updD (updD G a o) a u = updD G a u := updD_updD
@[simp] theorem s_int1 {b : Int} : rIntD [.int b] G Q = Q (.int b) G := rfl
theorem atI_nat {α : Type} {xs : List α} {n : Nat} : atI xs (n : Int) = xs[n]? := by
  unfold atI ixN
  rw [if_pos (by omega)]
  by_cases c : (n : Int) < xs.length
  · rw [if_pos c]; simp
  · rw [if_neg c]
    exact (List.getElem?_eq_none (by omega)).symm
theorem atI_of {α : Type} {xs : List α} {k : Int} (h : 0 ≤ k) : atI xs k = xs[k.toNat]? := by
  have q := atI_nat (xs := xs) (n := k.toNat)
  rw [Int.toNat_of_nonneg h] at q
  exact q
theorem atI_last {α : Type} {xs : List α} {x : α} : atI (xs ++ [x]) (-1) = some x := by
  unfold atI ixN
  rw [if_neg (by decide), if_pos (by simp; omega)]
  simp
  rw [List.getElem?_append_right (by omega)]
  have : ((-1 : Int) + ((xs.length : Int) + 1)).toNat - xs.length = 0 := by omega
  rw [this]
  rfl
end
theorem delD_updD {G : DHp} {p : Addr} {o : DO} (h : G p = none) : delD (updD G p o) p = G := by
  funext b
  by_cases c : b = p
  · subst c; rw [delD_same, h]
  · rw [delD_ne c, updD_ne c]
theorem updD_comm {G : DHp} {a b : Addr} {o u : DO} (h : a ≠ b) : updD (updD G a o) b u = updD (updD G b u) a o := by
  funext c
  by_cases c1 : c = b
  · subst c1
    rw [updD_same, updD_ne (Ne.symm h), updD_same]
  · rw [updD_ne c1]
    by_cases c2 : c = a
    · subst c2; rw [updD_same, updD_same]
    · rw [updD_ne c2, updD_ne c2, updD_ne c1]
end DL
set_option Elab.async false
set_option linter.all false
set_option maxRecDepth 100000
set_option maxHeartbeats 4000000
/-! DL14: comprehensions and loops by lemmas. -/
namespace DL
open PySem PySem.Spec PyProof.Rows L2
/-- [f(x) for x in xs if b(x)], nothing changed; the heap with the list that is being made -/
theorem lc_filter {m : Bool} {p : Addr} {vs : List Nat} {i : Nat} {tt : DTT} {te : DTE} {gd : DHp → Prop} {δ : DSt} {G : DHp} {Q : DK} (b : D → Bool) (f : D → D) (hp : G p = none) :
    ∀ (xs acc : List D), (∀ acc, gd (updD G p (.lst acc))) →
    (∀ x ∈ xs, ∀ acc (Qb : Bool → DHp → Prop), Qb (b x) (updD G p (.lst acc)) → tt E0 ((wipeD δ vs).set i (some x)) (updD G p (.lst acc)) Qb) →
    (∀ x ∈ xs, b x = true → ∀ acc (Q : DK), Q (f x) (updD G p (.lst acc)) → te E0 ((wipeD δ vs).set i (some x)) (updD G p (.lst acc)) Q) →
    acc.length + xs.length ≤ sizeLine → mkL m (acc ++ (xs.filter b).map f) G Q → lcL m p vs (dgName i) tt te gd δ Q xs acc (updD G p (.lst acc))
  | [], acc, hg, ht, he, hl, hq => by
    refine ⟨hg acc, updD_same, ?_⟩
    rw [List.filter_nil, List.map_nil, List.append_nil] at hq
    cases m with
    | false => rw [delD_updD hp]; exact hq
    | true => exact hq p hp
  | x :: xs, acc, hg, ht, he, hl, hq => by
    rw [List.length_cons] at hl
    refine ⟨hg acc, ht x List.mem_cons_self acc _ ?_⟩
    cases c : b x with
    | false =>
      rw [if_neg Bool.false_ne_true]
      refine lc_filter b f hp xs acc hg (fun y hy => ht y (List.mem_cons_of_mem _ hy)) (fun y hy => he y (List.mem_cons_of_mem _ hy)) (by omega) ?_
      rw [List.filter_cons, c, if_neg Bool.false_ne_true] at hq
      exact hq
    | true =>
      rw [if_pos rfl]
      refine he x List.mem_cons_self c acc _ ⟨updD_same, by omega, ?_⟩
      rw [updD_updD]
      refine lc_filter b f hp xs (acc ++ [f x]) hg (fun y hy => ht y (List.mem_cons_of_mem _ hy)) (fun y hy => he y (List.mem_cons_of_mem _ hy)) (by rw [List.length_append, List.length_singleton]; omega) ?_
      rw [List.filter_cons, c, if_pos rfl, List.map_cons] at hq
      rw [List.append_assoc]
      exact hq
theorem lc_map {m : Bool} {p : Addr} {vs : List Nat} {i : Nat} {te : DTE} {gd : DHp → Prop} {δ : DSt} {G : DHp} {Q : DK} {xs : List D} (f : D → D) (hp : G p = none) (hg : ∀ acc, gd (updD G p (.lst acc)))
    (he : ∀ x ∈ xs, ∀ acc (Q : DK), Q (f x) (updD G p (.lst acc)) → te E0 ((wipeD δ vs).set i (some x)) (updD G p (.lst acc)) Q) (hl : xs.length ≤ sizeLine) (hq : mkL m (xs.map f) G Q) : lcL m p vs (dgName i) dYes te gd δ Q xs [] (updD G p (.lst [])) := by
  refine lc_filter (fun _ => true) f hp xs [] hg (fun x hx acc Qb q => q) (fun x hx _ acc Q q => he x hx acc Q q) (by simpa using hl) ?_
  rw [List.nil_append, List.filter_eq_self.mpr fun _ _ => rfl]
  exact hq
theorem gdS_l {xs : List D} {G : DHp} : gdS (.lst xs) xs G := rfl
theorem gdS_t {xs : List D} {G : DHp} : gdS (.tup xs) xs G := rfl
theorem gdS_f {xs : List D} {G : DHp} : gdS (.fz xs) xs G := rfl
theorem gdT_ {G : DHp} : gdT G := True.intro
theorem gdS_r {a p : Addr} {xs : List D} {G : DHp} {o : DO} (h : G a = some (.lst xs)) (hp : G p = none) : gdS (.ref a) xs (updD G p o) := by
  have ne : a ≠ p := fun z => by subst z; rw [h] at hp; cases hp
  exact s_asSr (by rw [updD_ne ne]; exact h)
/-- elements that change the heap: P tells of it behind some of them -/
theorem lc_run {m : Bool} {p : Addr} {vs : List Nat} {i : Nat} {te : DTE} {gd : DHp → Prop} {δ : DSt} {Q : DK} (tot : List D) (P : List D → List D → DHp → Prop) (hg : ∀ done acc G, P done acc G → gd G ∧ G p = some (.lst acc))
    (he : ∀ done x rest acc G, tot = done ++ x :: rest → P done acc G → acc.length = done.length → ∀ K : DK, (∀ y G', G' p = some (.lst acc) → P (done ++ [x]) (acc ++ [y]) (updD G' p (.lst (acc ++ [y]))) → K y G') → te E0 ((wipeD δ vs).set i (some x)) G K)
    (hl : tot.length ≤ sizeLine) (hq : ∀ acc G', P tot acc G' → acc.length = tot.length → lcEnd m p acc G' Q) :
    ∀ (xs acc done : List D) (G : DHp), tot = done ++ xs → acc.length = done.length → P done acc G → lcL m p vs (dgName i) dYes te gd δ Q xs acc G
  | [], acc, done, G, ht, hc, hP => by
    rw [List.append_nil] at ht
    subst ht
    exact ⟨(hg _ _ _ hP).1, hq acc G hP hc⟩
  | x :: xs, acc, done, G, ht, hc, hP => by
    have hl2 := congrArg List.length ht
    rw [List.length_append, List.length_cons] at hl2
    refine ⟨(hg _ _ _ hP).1, ?_⟩
    simp only [s_dgName, s_dYes, if_true]
    refine he done x xs acc G ht hP hc _ fun y G' hpg hP' => ⟨hpg, by omega, ?_⟩
    exact lc_run tot P hg he hl hq xs (acc ++ [y]) (done ++ [x]) _ (by rw [List.append_assoc]; exact ht) (by rw [List.length_append, List.length_append, hc]; rfl) hP'
theorem forL_cons {g : DTG} {tb : DTS} {gd : DHp → Prop} {Dd : DEnds} {x : D} {xs : List D} {δ : DSt} {G : DHp} (hg : gd G) (h : g Dd.xc x δ G fun δ' G' => tb { Dd with nx := forL g tb gd Dd xs, ct := forL g tb gd Dd xs, bk := Dd.nx } δ' G') : forL g tb gd Dd (x :: xs) δ G := ⟨hg, h⟩
theorem forL_nil {g : DTG} {tb : DTS} {gd : DHp → Prop} {Dd : DEnds} {δ : DSt} {G : DHp} (hg : gd G) (h : Dd.nx δ G) : forL g tb gd Dd [] δ G := ⟨hg, h⟩
/-- by an invariant over what is still to come; the body either goes on with it or ends as it is wanted -/
theorem forL_inv {g : DTG} {tb : DTS} {gd : DHp → Prop} {Dd : DEnds} (I : List D → DSt → DHp → Prop) (hg : ∀ xs δ G, I xs δ G → gd G) (hn : ∀ δ G, I [] δ G → Dd.nx δ G)
    (hs : ∀ x xs δ G, I (x :: xs) δ G → ∀ N : DSt → DHp → Prop, (∀ δ' G', I xs δ' G' → N δ' G') → g Dd.xc x δ G fun δ' G' => tb { Dd with nx := N, ct := N, bk := Dd.nx } δ' G') :
    ∀ (xs : List D) (δ : DSt) (G : DHp), I xs δ G → forL g tb gd Dd xs δ G
  | [], δ, G, h => ⟨hg _ _ _ h, hn _ _ h⟩
  | x :: xs, δ, G, h => ⟨hg _ _ _ h, hs x xs δ G h _ fun δ' G' q => forL_inv I hg hn hs xs δ' G' q⟩
/-- two clauses, nothing changed -/
theorem lcIn_map {p : Addr} {vs1 : List Nat} {j : Nat} {te : DTE} {gd1 : DHp → Prop} {δ2 : DSt} {G : DHp} {k : List D → DHp → Prop} (f : D → D) (hg1 : ∀ acc, gd1 (updD G p (.lst acc))) : ∀ (ys acc : List D),
    (∀ y ∈ ys, ∀ acc (Q : DK), Q (f y) (updD G p (.lst acc)) → te E0 ((wipeD δ2 vs1).set j (some y)) (updD G p (.lst acc)) Q) → acc.length + ys.length ≤ sizeLine → k (acc ++ ys.map f) (updD G p (.lst (acc ++ ys.map f))) →
    lcIn p vs1 (dgName j) dYes te gd1 δ2 k ys acc (updD G p (.lst acc))
  | [], acc, he, hl, hq => by
    rw [List.map_nil, List.append_nil] at hq
    exact ⟨hg1 acc, hq⟩
  | y :: ys, acc, he, hl, hq => by
    rw [List.length_cons] at hl
    refine ⟨hg1 acc, ?_⟩
    simp only [s_dgName, s_dYes, if_true]
    refine he y List.mem_cons_self acc _ ⟨updD_same, by omega, ?_⟩
    rw [updD_updD]
    refine lcIn_map f hg1 ys (acc ++ [f y]) (fun z hz => he z (List.mem_cons_of_mem _ hz)) (by rw [List.length_append, List.length_singleton]; omega) ?_
    rw [List.append_assoc]
    exact hq
theorem lc2_flat {m : Bool} {p : Addr} {vs vs1 : List Nat} {i j : Nat} {wi1 : DTI} {te : DTE} {gd : DHp → Prop} {δ : DSt} {G : DHp} {Q : DK} (ys : D → List D) (f : D → D → D) (hp : G p = none) (hg : ∀ acc, gd (updD G p (.lst acc))) : ∀ (xs acc : List D),
    (∀ x ∈ xs, ∀ acc (R : List D → (DHp → Prop) → DHp → Prop), (∀ gd1 : DHp → Prop, (∀ acc, gd1 (updD G p (.lst acc))) → R (ys x) gd1 (updD G p (.lst acc))) → wi1 E0 ((wipeD δ vs).set i (some x)) (updD G p (.lst acc)) R) →
    (∀ x ∈ xs, ∀ y ∈ ys x, ∀ acc (Q : DK), Q (f x y) (updD G p (.lst acc)) → te E0 ((wipeD ((wipeD δ vs).set i (some x)) vs1).set j (some y)) (updD G p (.lst acc)) Q) →
    acc.length + (xs.flatMap fun x => (ys x).map (f x)).length ≤ sizeLine → mkL m (acc ++ xs.flatMap fun x => (ys x).map (f x)) G Q → lcL2 m p vs vs1 (dgName i) dYes wi1 (dgName j) dYes te gd δ Q xs acc (updD G p (.lst acc))
  | [], acc, hi, he, hl, hq => by
    rw [List.flatMap_nil, List.append_nil] at hq
    refine ⟨hg acc, updD_same, ?_⟩
    cases m with
    | false => rw [delD_updD hp]; exact hq
    | true => exact hq p hp
  | x :: xs, acc, hi, he, hl, hq => by
    rw [List.flatMap_cons, List.length_append, List.length_map] at hl
    refine ⟨hg acc, ?_⟩
    simp only [s_dgName, s_dYes, if_true]
    refine hi x List.mem_cons_self acc _ fun gd1 hg1 => ?_
    refine lcIn_map (f x) hg1 (ys x) acc (he x List.mem_cons_self) (by omega) ?_
    refine lc2_flat ys f hp hg xs (acc ++ (ys x).map (f x)) (fun z hz => hi z (List.mem_cons_of_mem _ hz)) (fun z hz => he z (List.mem_cons_of_mem _ hz)) (by rw [List.length_append, List.length_map]; omega) ?_
    rw [List.flatMap_cons] at hq
    rw [List.append_assoc]
    exact hq
theorem delD_none {G : DHp} {p : Addr} (h : G p = none) : delD G p = G := by
  funext b
  by_cases c : b = p
  · subst c; rw [delD_same, h]
  · rw [delD_ne c]
end DL
set_option Elab.async false
set_option linter.all false
set_option maxRecDepth 100000
set_option maxHeartbeats 4000000
/-! DL15: a law's end where own exceptions may be in the air. -/
namespace DL
open PySem PySem.Spec PyProof.Rows L2
theorem walk_own {l : PySem.W.OpenLaw} {n k : Nat} {q : Program} {loose : List Str} {XP : (Str → Option Value) → Heap → Prop} {YP : World → Heap → Prop} {d : DefRec} {x : Str} (hn : l.most = some n) (hn2 : n ≤ sizeLine) (hdf : d.params.defaults = []) (hr : Room k callerA)
    (F : ∀ (w : World) (mg : Str → Option Value) (fa : Addr) (h : Heap), YP w h → h.Ns mainGlobals mg → mg d.name = some (.ref fa) → ∃ (K : Frag) (fd : FuncData), K.In h ∧ (∀ (s : Shared) (u : Value), BindsTo s fd ⟨[u], []⟩ [(x, u)]) ∧
        ∀ base : Heap, K.In base → base.Ns mainGlobals mg → FnOk l.prog w K mg base (L2.CX l.prog w) k fa fd [x] (liftSp K sdLaw)) (h63 : n ≤ 63) :
    PySem.W.WalkO q loose XP YP l.row.toRowW d [] (fun f vs => PySem.call f vs) := by
  refine Att.attach_call hn hdf fun w s₀ s₁ mg mb fa o pm cd doc a vs ns G Y ho hd hcd hmg hobj hints hlen hg => ?_
  obtain ⟨K, fd, KX, hb, hF⟩ := F w mg fa _ Y G.T.g hmg
  refine law_call KX G.T.g G.T.b G.T.builtins G.T.nolimit hg hobj hints (Nat.le_trans hlen hn2) hr hF hb (fun H hO hS => law_sp (Nat.le_trans hlen h63) hO hS) fun H e s' h => ?_
  obtain ⟨_, _, _, _, _, _, _, _, _, _, _, _, z⟩ := h
  exact z
end DL
set_option Elab.async false
set_option linter.all false
set_option maxRecDepth 100000
set_option maxHeartbeats 4000000
namespace DL
namespace k02
open PySem PySem.Spec PyProof.Rows L2
abbrev top (i : Nat) : Stmt := PySem.Challenge.pw_anyjoin_k02_struck_kept_turned.main.body.getD i (.Pass ⟨0, 0, 0, 0⟩)
def exl : List (Str × Str × Bool) := [("InvalidWord", "InvalidWord", true), ("InvalidWord", "InvalidPart", false), ("InvalidWord", "InvalidLetters", false), ("InvalidPart", "InvalidWord", false), ("InvalidPart", "InvalidPart", true), ("InvalidPart", "InvalidLetters", false), ("InvalidLetters", "InvalidWord", false), ("InvalidLetters", "InvalidPart", false), ("InvalidLetters", "InvalidLetters", true)]
theorem ex_InvalidWord_InvalidWord : exmT exl "InvalidWord" "InvalidWord" = some true := by decide +kernel
theorem ex_InvalidWord_InvalidPart : exmT exl "InvalidWord" "InvalidPart" = some false := by decide +kernel
theorem ex_InvalidWord_InvalidLetters : exmT exl "InvalidWord" "InvalidLetters" = some false := by decide +kernel
theorem ex_InvalidPart_InvalidWord : exmT exl "InvalidPart" "InvalidWord" = some false := by decide +kernel
theorem ex_InvalidPart_InvalidPart : exmT exl "InvalidPart" "InvalidPart" = some true := by decide +kernel
theorem ex_InvalidPart_InvalidLetters : exmT exl "InvalidPart" "InvalidLetters" = some false := by decide +kernel
theorem ex_InvalidLetters_InvalidWord : exmT exl "InvalidLetters" "InvalidWord" = some false := by decide +kernel
theorem ex_InvalidLetters_InvalidPart : exmT exl "InvalidLetters" "InvalidPart" = some false := by decide +kernel
theorem ex_InvalidLetters_InvalidLetters : exmT exl "InvalidLetters" "InvalidLetters" = some true := by decide +kernel
abbrev S_is_integer : Stmt := top 6
abbrev N_is_integer : List Str := ["value"]
abbrev P_is_integer : List Str := ["value"]
theorem sc_is_integer : FnScope N_is_integer P_is_integer (defScope S_is_integer) := ⟨rfl, rfl, rfl, by decide +kernel, rfl, by decide +kernel, by decide +kernel⟩
abbrev S_is_between : Stmt := top 7
abbrev N_is_between : List Str := ["value", "low", "high"]
abbrev P_is_between : List Str := ["value", "low", "high"]
theorem sc_is_between : FnScope N_is_between P_is_between (defScope S_is_between) := ⟨rfl, rfl, rfl, by decide +kernel, rfl, by decide +kernel, by decide +kernel⟩
abbrev S_is_list : Stmt := top 8
abbrev N_is_list : List Str := ["value"]
abbrev P_is_list : List Str := ["value"]
theorem sc_is_list : FnScope N_is_list P_is_list (defScope S_is_list) := ⟨rfl, rfl, rfl, by decide +kernel, rfl, by decide +kernel, by decide +kernel⟩
abbrev S_is_word : Stmt := top 13
abbrev N_is_word : List Str := ["value", "letter"]
abbrev P_is_word : List Str := ["value"]
theorem sc_is_word : FnScope N_is_word P_is_word (defScope S_is_word) := ⟨rfl, rfl, rfl, by decide +kernel, rfl, by decide +kernel, by decide +kernel⟩
abbrev S_need_word : Stmt := top 14
abbrev N_need_word : List Str := ["word"]
abbrev P_need_word : List Str := ["word"]
theorem sc_need_word : FnScope N_need_word P_need_word (defScope S_need_word) := ⟨rfl, rfl, rfl, by decide +kernel, rfl, by decide +kernel, by decide +kernel⟩
abbrev S_ways_of : Stmt := top 15
abbrev N_ways_of : List Str := ["part", "word", "ways", "letter", "at"]
abbrev P_ways_of : List Str := ["part", "word"]
theorem sc_ways_of : FnScope N_ways_of P_ways_of (defScope S_ways_of) := ⟨rfl, rfl, rfl, by decide +kernel, rfl, by decide +kernel, by decide +kernel⟩
abbrev S_scattered : Stmt := top 16
abbrev N_scattered : List Str := ["part", "word"]
abbrev P_scattered : List Str := ["part", "word"]
theorem sc_scattered : FnScope N_scattered P_scattered (defScope S_scattered) := ⟨rfl, rfl, rfl, by decide +kernel, rfl, by decide +kernel, by decide +kernel⟩
abbrev S_need_letters : Stmt := top 17
abbrev N_need_letters : List Str := ["letters", "letter"]
abbrev P_need_letters : List Str := ["letters"]
theorem sc_need_letters : FnScope N_need_letters P_need_letters (defScope S_need_letters) := ⟨rfl, rfl, rfl, by decide +kernel, rfl, by decide +kernel, by decide +kernel⟩
abbrev S_struck : Stmt := top 18
abbrev N_struck : List Str := ["word", "letters", "letter"]
abbrev P_struck : List Str := ["word", "letters"]
theorem sc_struck : FnScope N_struck P_struck (defScope S_struck) := ⟨rfl, rfl, rfl, by decide +kernel, rfl, by decide +kernel, by decide +kernel⟩
abbrev S_only : Stmt := top 19
abbrev N_only : List Str := ["word", "letters", "letter"]
abbrev P_only : List Str := ["word", "letters"]
theorem sc_only : FnScope N_only P_only (defScope S_only) := ⟨rfl, rfl, rfl, by decide +kernel, rfl, by decide +kernel, by decide +kernel⟩
abbrev S_kept : Stmt := top 20
abbrev N_kept : List Str := ["word", "letters"]
abbrev P_kept : List Str := ["word", "letters"]
theorem sc_kept : FnScope N_kept P_kept (defScope S_kept) := ⟨rfl, rfl, rfl, by decide +kernel, rfl, by decide +kernel, by decide +kernel⟩
abbrev S_turned : Stmt := top 21
abbrev N_turned : List Str := ["word"]
abbrev P_turned : List Str := ["word"]
theorem sc_turned : FnScope N_turned P_turned (defScope S_turned) := ⟨rfl, rfl, rfl, by decide +kernel, rfl, by decide +kernel, by decide +kernel⟩
abbrev S__law_cell : Stmt := top 23
abbrev N__law_cell : List Str := ["script", "k"]
abbrev P__law_cell : List Str := ["script", "k"]
theorem sc__law_cell : FnScope N__law_cell P__law_cell (defScope S__law_cell) := ⟨rfl, rfl, rfl, by decide +kernel, rfl, by decide +kernel, by decide +kernel⟩
abbrev S__law_box : Stmt := top 24
abbrev N__law_box : List Str := ["great"]
abbrev P__law_box : List Str := ["great"]
theorem sc__law_box : FnScope N__law_box P__law_box (defScope S__law_box) := ⟨rfl, rfl, rfl, by decide +kernel, rfl, by decide +kernel, by decide +kernel⟩
abbrev S__law_take : Stmt := top 25
abbrev N__law_take : List Str := ["box", "many", "digit", "mixed"]
abbrev P__law_take : List Str := ["box", "many"]
theorem sc__law_take : FnScope N__law_take P__law_take (defScope S__law_take) := ⟨rfl, rfl, rfl, by decide +kernel, rfl, by decide +kernel, by decide +kernel⟩
abbrev S__law_pick : Stmt := top 26
abbrev N__law_pick : List Str := ["box", "items"]
abbrev P__law_pick : List Str := ["box", "items"]
theorem sc__law_pick : FnScope N__law_pick P__law_pick (defScope S__law_pick) := ⟨rfl, rfl, rfl, by decide +kernel, rfl, by decide +kernel, by decide +kernel⟩
abbrev S__law_same : Stmt := top 27
abbrev N__law_same : List Str := ["given", "due", "key", "k"]
abbrev P__law_same : List Str := ["given", "due"]
theorem sc__law_same : FnScope N__law_same P__law_same (defScope S__law_same) := ⟨rfl, rfl, rfl, by decide +kernel, rfl, by decide +kernel, by decide +kernel⟩
abbrev S__law_copy : Stmt := top 28
abbrev N__law_copy : List Str := ["value", "item", "key"]
abbrev P__law_copy : List Str := ["value"]
theorem sc__law_copy : FnScope N__law_copy P__law_copy (defScope S__law_copy) := ⟨rfl, rfl, rfl, by decide +kernel, rfl, by decide +kernel, by decide +kernel⟩
abbrev S__law_very : Stmt := top 29
abbrev N__law_very : List Str := ["given", "value"]
abbrev P__law_very : List Str := ["given", "value"]
theorem sc__law_very : FnScope N__law_very P__law_very (defScope S__law_very) := ⟨rfl, rfl, rfl, by decide +kernel, rfl, by decide +kernel, by decide +kernel⟩
abbrev S__law_scattered : Stmt := top 30
abbrev N__law_scattered : List Str := ["part", "word", "k"]
abbrev P__law_scattered : List Str := ["part", "word"]
theorem sc__law_scattered : FnScope N__law_scattered P__law_scattered (defScope S__law_scattered) := ⟨rfl, rfl, rfl, by decide +kernel, rfl, by decide +kernel, by decide +kernel⟩
abbrev S__law_asked : Stmt := top 31
abbrev N__law_asked : List Str := ["way", "word", "letters", "named", "e"]
abbrev P__law_asked : List Str := ["way", "word", "letters", "named"]
theorem sc__law_asked : FnScope N__law_asked P__law_asked (defScope S__law_asked) := ⟨rfl, rfl, rfl, by decide +kernel, rfl, by decide +kernel, by decide +kernel⟩
abbrev S__law_word : Stmt := top 32
abbrev N__law_word : List Str := ["box", "letters", "k"]
abbrev P__law_word : List Str := ["box"]
theorem sc__law_word : FnScope N__law_word P__law_word (defScope S__law_word) := ⟨rfl, rfl, rfl, by decide +kernel, rfl, by decide +kernel, by decide +kernel⟩
abbrev S__law_word_right : Stmt := top 33
abbrev N__law_word_right : List Str := ["box", "named", "word", "turn", "lot", "k", "given", "due", "letter", "told", "way", "one", "again", "short", "part"]
abbrev P__law_word_right : List Str := ["box", "named"]
theorem sc__law_word_right : FnScope N__law_word_right P__law_word_right (defScope S__law_word_right) := ⟨rfl, rfl, rfl, by decide +kernel, rfl, by decide +kernel, by decide +kernel⟩
abbrev S__law_wrong_right : Stmt := top 34
abbrev N__law_wrong_right : List Str := ["box", "named", "bad", "way", "given", "told"]
abbrev P__law_wrong_right : List Str := ["box", "named"]
theorem sc__law_wrong_right : FnScope N__law_wrong_right P__law_wrong_right (defScope S__law_wrong_right) := ⟨rfl, rfl, rfl, by decide +kernel, rfl, by decide +kernel, by decide +kernel⟩
abbrev S_law : Stmt := top 35
abbrev N_law : List Str := ["script", "k", "box"]
abbrev P_law : List Str := ["script"]
theorem sc_law : FnScope N_law P_law (defScope S_law) := ⟨rfl, rfl, rfl, by decide +kernel, rfl, by decide +kernel, by decide +kernel⟩
noncomputable def t_is_integer : DTS := (dRet (dAndV (dCB rIsiD (dCons (dVar 0) (dCons (dC (.ty "int")) dNil))) (dNotV (dCB rIsiD (dCons (dVar 0) (dCons (dC (.ty "bool")) dNil))))))
theorem der_is_integer {P : Program} {w : World} {K : Frag} {mg : Str → Option Value} {base : Heap} {f : Addr} {cdv : Value} {A : Around} {o : List Env} {s : Shared} {H : Hp} {E : XK} (hr : Room 2 (A.deeper (envOfC "is_integer" (defScope S_is_integer) s.heap.objs.size f cdv))) (m_int : mg "int" = none) (m_isinstance : mg "isinstance" = none) (m_bool : mg "bool" = none) :
    DSs (cxD P w K mg base N_is_integer "is_integer" (defScope S_is_integer) f cdv A o s H E) (WXE E) (defBody S_is_integer) (t_is_integer) :=
  have nd : List.Nodup N_is_integer := sc_is_integer.nd
  (dss_one (ds_ret (de_and (de_callB (CallR.or call_isi call_isiT) cd_isi m_isinstance boot_isinstance (da_cons (dv 0) (da_cons (d_blt "int" m_int boot_int) da_nil))) (de_one (de_not (de_callB (CallR.or call_isi call_isiT) cd_isi m_isinstance boot_isinstance (da_cons (dv 0) (da_cons (d_blt "bool" m_bool boot_bool) da_nil))))))))
noncomputable def t_is_between (s_is_integer : Pro) : DTS := (dRet (dAndV (dCall s_is_integer (dCons (dVar 0) dNil)) (dChain rLeD rLeD (dVar 1) (dVar 0) (dVar 2))))
theorem der_is_between {P : Program} {w : World} {K : Frag} {mg : Str → Option Value} {base : Heap} {f : Addr} {cdv : Value} {A : Around} {o : List Env} {s : Shared} {H : Hp} {E : XK} (hr : Room 2 (A.deeper (envOfC "is_between" (defScope S_is_between) s.heap.objs.size f cdv))) {s_is_integer : Pro} {k_is_integer : Nat} (D_is_integer : Df P w K mg base k_is_integer "is_integer" P_is_integer [] s_is_integer) (R_is_integer : Room k_is_integer (A.deeper (envOfC "is_between" (defScope S_is_between) s.heap.objs.size f cdv))) :
    DSs (cxD P w K mg base N_is_between "is_between" (defScope S_is_between) f cdv A o s H E) (WXE E) (defBody S_is_between) (t_is_between s_is_integer) :=
  have nd : List.Nodup N_is_between := sc_is_between.nd
  (dss_one (ds_ret (de_and (de_call D_is_integer takes_cx R_is_integer (da_cons (dv 0) da_nil)) (de_one (de_lele (dv 1) (dv 0) (dv 2))))))
noncomputable def t_is_list : DTS := (dRet (dCB rIsiD (dCons (dVar 0) (dCons (dTup (dCons (dC (.ty "list")) (dCons (dC (.ty "tuple")) dNil))) dNil))))
theorem der_is_list {P : Program} {w : World} {K : Frag} {mg : Str → Option Value} {base : Heap} {f : Addr} {cdv : Value} {A : Around} {o : List Env} {s : Shared} {H : Hp} {E : XK} (hr : Room 2 (A.deeper (envOfC "is_list" (defScope S_is_list) s.heap.objs.size f cdv))) (m_list : mg "list" = none) (m_tuple : mg "tuple" = none) (m_isinstance : mg "isinstance" = none) :
    DSs (cxD P w K mg base N_is_list "is_list" (defScope S_is_list) f cdv A o s H E) (WXE E) (defBody S_is_list) (t_is_list) :=
  have nd : List.Nodup N_is_list := sc_is_list.nd
  (dss_one (ds_ret (de_callB (CallR.or call_isi call_isiT) cd_isi m_isinstance boot_isinstance (da_cons (dv 0) (da_cons (de_tup (da_cons (d_blt "list" m_list boot_list) (da_cons (d_blt "tuple" m_tuple boot_tuple) da_nil))) da_nil)))))
noncomputable def t_is_word (c_MOST_LETTERS c_MOST_LETTER : D) (s_is_between : Pro) : DTS := (dSeq (dIf (dOr (dNot (dB (dCB rIsiD (dCons (dVar 0) (dCons (dC (.ty "tuple")) dNil))))) (dB (dOp (rGtD) (dCB rLenD (dCons (dVar 0) dNil)) (dC c_MOST_LETTERS)))) (dRet (dC (.bl false))) dNext) (dRet (dCB rAllD (dCons (dLc false [1] (diS (dVar 0)) (dgName 1) dYes (dCall s_is_between (dCons (dVar 1) (dCons (dC (.int 0)) (dCons (dC c_MOST_LETTER) dNil))))) dNil))))
theorem der_is_word {P : Program} {w : World} {K : Frag} {mg : Str → Option Value} {base : Heap} {f : Addr} {cdv : Value} {A : Around} {o : List Env} {s : Shared} {H : Hp} {E : XK} (hr : Room 2 (A.deeper (envOfC "is_word" (defScope S_is_word) s.heap.objs.size f cdv))) (m_tuple : mg "tuple" = none) (m_isinstance : mg "isinstance" = none) (m_len : mg "len" = none) (m_all : mg "all" = none) {c_MOST_LETTERS : D} (C_MOST_LETTERS : GCm K mg "MOST_LETTERS" c_MOST_LETTERS) {c_MOST_LETTER : D} (C_MOST_LETTER : GCm K mg "MOST_LETTER" c_MOST_LETTER) {s_is_between : Pro} {k_is_between : Nat} (D_is_between : Df P w K mg base k_is_between "is_between" P_is_between [] s_is_between) (R_is_between : Room k_is_between (A.deeper (envOfC "is_word" (defScope S_is_word) s.heap.objs.size f cdv))) :
    DSs (cxD P w K mg base N_is_word "is_word" (defScope S_is_word) f cdv A o s H E) (WXE E) (defBody S_is_word) (t_is_word c_MOST_LETTERS c_MOST_LETTER s_is_between) :=
  have nd : List.Nodup N_is_word := sc_is_word.nd
  (dss_cons (ds_if (DW.dt (dw_or (dt_not (dt_val (de_callB (CallR.or call_isi call_isiT) cd_isi m_isinstance boot_isinstance (da_cons (dv 0) (da_cons (d_blt "tuple" m_tuple boot_tuple) da_nil))))) (dw_or1 (dt_gt (de_callB call_lenV cd_len m_len boot_len (da_cons (dv 0) da_nil)) (d_glob C_MOST_LETTERS))))) (dss_one (ds_ret d_bl)) dss_nil) (dss_one (ds_ret (de_callB (cr_all rfl) cd_all m_all boot_all (da_cons (de_lc false rfl nd [("letter", 1)] (blkOk_by (by kernel_rfl)) (di_seq (dv 0)) (fun _ _ _ _ _ => (dg_name 1 nd)) (fun _ _ _ _ _ => dts_nil) (fun _ _ _ _ _ => (de_call D_is_between takes0 R_is_between (da_cons (dv 1) (da_cons d_int (da_cons (d_glob C_MOST_LETTER) da_nil)))))) da_nil)))))
noncomputable def t_need_word (s_is_word : Pro) : DTS := (dIf (dNot (dB (dCall s_is_word (dCons (dVar 0) dNil)))) (dRaise "InvalidWord" "given" (dCons (dVar 0) dNil)) dNext)
theorem der_need_word {P : Program} {w : World} {K : Frag} {mg : Str → Option Value} {base : Heap} {f : Addr} {cdv : Value} {A : Around} {o : List Env} {s : Shared} {H : Hp} {E : XK} (hr : Room 2 (A.deeper (envOfC "need_word" (defScope S_need_word) s.heap.objs.size f cdv))) (X_InvalidWord : ExcF P w K mg base "InvalidWord" "given") {s_is_word : Pro} {k_is_word : Nat} (D_is_word : Df P w K mg base k_is_word "is_word" P_is_word [] s_is_word) (R_is_word : Room k_is_word (A.deeper (envOfC "need_word" (defScope S_need_word) s.heap.objs.size f cdv))) :
    DSs (cxD P w K mg base N_need_word "need_word" (defScope S_need_word) f cdv A o s H E) (WXE E) (defBody S_need_word) (t_need_word s_is_word) :=
  have nd : List.Nodup N_need_word := sc_need_word.nd
  (dss_one (ds_if (dt_not (dt_val (de_call D_is_word takes_cx R_is_word (da_cons (dv 0) da_nil)))) (dss_one (ds_raise X_InvalidWord rfl takes_cx hr (da_cons (dv 0) da_nil))) dss_nil))
noncomputable def t_ways_of : DTS := (dSeq (dSet 2 (dOp (rAddD true) (dLst false (dCons (dC (.int 1)) dNil)) (dOp (rMulD false) (dLst false (dCons (dC (.int 0)) dNil)) (dCB rLenD (dCons (dVar 0) dNil))))) (dSeq (dFor (diS (dVar 1)) (dgName 3) (dFor (diR3 (dCons (dCB rLenD (dCons (dVar 0) dNil)) (dCons (dC (.int 0)) (dCons (dNeg (dC (.int 1))) dNil)))) (dgName 4) (dIf (dB (dOp (rEqD false) (dOp rIxD (dVar 0) (dOp rSubD (dVar 4) (dC (.int 1)))) (dVar 3))) (dAugS (dVar 2) (dVar 4) (dOp rIxD (dVar 2) (dOp rSubD (dVar 4) (dC (.int 1))))) dNext))) (dRet (dGc [2] (dOp rIxD (dVar 2) (dNeg (dC (.int 1))))))))
theorem der_ways_of {P : Program} {w : World} {K : Frag} {mg : Str → Option Value} {base : Heap} {f : Addr} {cdv : Value} {A : Around} {o : List Env} {s : Shared} {H : Hp} {E : XK} (hr : Room 2 (A.deeper (envOfC "ways_of" (defScope S_ways_of) s.heap.objs.size f cdv))) (m_len : mg "len" = none) (m_range : mg "range" = none) :
    DSs (cxD P w K mg base N_ways_of "ways_of" (defScope S_ways_of) f cdv A o s H E) (WXE E) (defBody S_ways_of) (t_ways_of) :=
  have nd : List.Nodup N_ways_of := sc_ways_of.nd
  (dss_cons (ds_set 2 nd (de_add true (de_lst false (da_cons d_int da_nil)) (de_mul false (de_lst false (da_cons d_int da_nil)) (de_callB call_lenV cd_len m_len boot_len (da_cons (dv 0) da_nil))))) (dss_cons (ds_for [3] passes_cx rfl (di_seq (dv 1)) (dg_name 3 nd) (dss_one (ds_for [4] passes_cx rfl (di_range3 (da_cons (de_callB call_lenV cd_len m_len boot_len (da_cons (dv 0) da_nil)) (da_cons d_int (da_cons (de_neg d_int) da_nil))) m_range) (dg_name 4 nd) (dss_one (ds_if (dt_eq (hu_of hr) (de_ix (hu_of hr) (dv 0) (de_sub (dv 4) d_int)) (dv 3)) (dss_one (ds_augS (dv 2) (dv 4) (de_ix (hu_of hr) (dv 2) (de_sub (dv 4) d_int)))) dss_nil))))) (dss_one (ds_ret (de_gc [2] (de_ix (hu_of hr) (dv 2) (de_neg d_int)))))))
noncomputable def t_scattered (c_MOST_PART : D) (s_is_word s_need_word s_ways_of : Pro) : DTS := (dSeq (dIf (dOr (dNot (dB (dCall s_is_word (dCons (dVar 0) dNil)))) (dNot (dB (dChain rLeD rLeD (dC (.int 1)) (dCB rLenD (dCons (dVar 0) dNil)) (dC c_MOST_PART))))) (dRaise "InvalidPart" "given" (dCons (dVar 0) dNil)) dNext) (dSeq (dDrop (dCall s_need_word (dCons (dVar 1) dNil))) (dRet (dCall s_ways_of (dCons (dVar 0) (dCons (dVar 1) dNil))))))
theorem der_scattered {P : Program} {w : World} {K : Frag} {mg : Str → Option Value} {base : Heap} {f : Addr} {cdv : Value} {A : Around} {o : List Env} {s : Shared} {H : Hp} {E : XK} (hr : Room 2 (A.deeper (envOfC "scattered" (defScope S_scattered) s.heap.objs.size f cdv))) (m_len : mg "len" = none) {c_MOST_PART : D} (C_MOST_PART : GCm K mg "MOST_PART" c_MOST_PART) (X_InvalidPart : ExcF P w K mg base "InvalidPart" "given") {s_is_word : Pro} {k_is_word : Nat} (D_is_word : Df P w K mg base k_is_word "is_word" P_is_word [] s_is_word) (R_is_word : Room k_is_word (A.deeper (envOfC "scattered" (defScope S_scattered) s.heap.objs.size f cdv))) {s_need_word : Pro} {k_need_word : Nat} (D_need_word : Df P w K mg base k_need_word "need_word" P_need_word [] s_need_word) (R_need_word : Room k_need_word (A.deeper (envOfC "scattered" (defScope S_scattered) s.heap.objs.size f cdv))) {s_ways_of : Pro} {k_ways_of : Nat} (D_ways_of : Df P w K mg base k_ways_of "ways_of" P_ways_of [] s_ways_of) (R_ways_of : Room k_ways_of (A.deeper (envOfC "scattered" (defScope S_scattered) s.heap.objs.size f cdv))) :
    DSs (cxD P w K mg base N_scattered "scattered" (defScope S_scattered) f cdv A o s H E) (WXE E) (defBody S_scattered) (t_scattered c_MOST_PART s_is_word s_need_word s_ways_of) :=
  have nd : List.Nodup N_scattered := sc_scattered.nd
  (dss_cons (ds_if (DW.dt (dw_or (dt_not (dt_val (de_call D_is_word takes_cx R_is_word (da_cons (dv 0) da_nil)))) (dw_or1 (dt_not (dt_lele d_int (de_callB call_lenV cd_len m_len boot_len (da_cons (dv 0) da_nil)) (d_glob C_MOST_PART)))))) (dss_one (ds_raise X_InvalidPart rfl takes_cx hr (da_cons (dv 0) da_nil))) dss_nil) (dss_cons (ds_expr (de_call D_need_word takes_cx R_need_word (da_cons (dv 1) da_nil))) (dss_one (ds_ret (de_call D_ways_of takes_cx R_ways_of (da_cons (dv 0) (da_cons (dv 1) da_nil)))))))
noncomputable def t_need_letters (s_is_list s_is_between : Pro) : DTS := (dIf (dOr (dNot (dB (dCall s_is_list (dCons (dVar 0) dNil)))) (dNot (dB (dCB rAllD (dCons (dLc false [1] (diS (dVar 0)) (dgName 1) dYes (dCall s_is_between (dCons (dVar 1) (dCons (dC (.int 0)) (dCons (dOp rPowD (dC (.int 10)) (dC (.int 30))) dNil))))) dNil))))) (dRaise "InvalidLetters" "given" (dCons (dVar 0) dNil)) dNext)
theorem der_need_letters {P : Program} {w : World} {K : Frag} {mg : Str → Option Value} {base : Heap} {f : Addr} {cdv : Value} {A : Around} {o : List Env} {s : Shared} {H : Hp} {E : XK} (hr : Room 2 (A.deeper (envOfC "need_letters" (defScope S_need_letters) s.heap.objs.size f cdv))) (m_all : mg "all" = none) (X_InvalidLetters : ExcF P w K mg base "InvalidLetters" "given") {s_is_list : Pro} {k_is_list : Nat} (D_is_list : Df P w K mg base k_is_list "is_list" P_is_list [] s_is_list) (R_is_list : Room k_is_list (A.deeper (envOfC "need_letters" (defScope S_need_letters) s.heap.objs.size f cdv))) {s_is_between : Pro} {k_is_between : Nat} (D_is_between : Df P w K mg base k_is_between "is_between" P_is_between [] s_is_between) (R_is_between : Room k_is_between (A.deeper (envOfC "need_letters" (defScope S_need_letters) s.heap.objs.size f cdv))) :
    DSs (cxD P w K mg base N_need_letters "need_letters" (defScope S_need_letters) f cdv A o s H E) (WXE E) (defBody S_need_letters) (t_need_letters s_is_list s_is_between) :=
  have nd : List.Nodup N_need_letters := sc_need_letters.nd
  (dss_one (ds_if (DW.dt (dw_or (dt_not (dt_val (de_call D_is_list takes_cx R_is_list (da_cons (dv 0) da_nil)))) (dw_or1 (dt_not (dt_val (de_callB (cr_all rfl) cd_all m_all boot_all (da_cons (de_lc false rfl nd [("letter", 1)] (blkOk_by (by kernel_rfl)) (di_seq (dv 0)) (fun _ _ _ _ _ => (dg_name 1 nd)) (fun _ _ _ _ _ => dts_nil) (fun _ _ _ _ _ => (de_call D_is_between takes0 R_is_between (da_cons (dv 1) (da_cons d_int (da_cons (de_pow d_int d_int) da_nil)))))) da_nil))))))) (dss_one (ds_raise X_InvalidLetters rfl takes_cx hr (da_cons (dv 0) da_nil))) dss_nil))
noncomputable def t_struck (s_need_word s_need_letters : Pro) : DTS := (dSeq (dDrop (dCall s_need_word (dCons (dVar 0) dNil))) (dSeq (dDrop (dCall s_need_letters (dCons (dVar 1) dNil))) (dRet (dCB rTupleD (dCons (dLc false [2] (diS (dVar 0)) (dgName 2) (dB (dOp (rInD true) (dVar 2) (dVar 1))) (dVar 2)) dNil)))))
theorem der_struck {P : Program} {w : World} {K : Frag} {mg : Str → Option Value} {base : Heap} {f : Addr} {cdv : Value} {A : Around} {o : List Env} {s : Shared} {H : Hp} {E : XK} (hr : Room 2 (A.deeper (envOfC "struck" (defScope S_struck) s.heap.objs.size f cdv))) (m_tuple : mg "tuple" = none) {s_need_word : Pro} {k_need_word : Nat} (D_need_word : Df P w K mg base k_need_word "need_word" P_need_word [] s_need_word) (R_need_word : Room k_need_word (A.deeper (envOfC "struck" (defScope S_struck) s.heap.objs.size f cdv))) {s_need_letters : Pro} {k_need_letters : Nat} (D_need_letters : Df P w K mg base k_need_letters "need_letters" P_need_letters [] s_need_letters) (R_need_letters : Room k_need_letters (A.deeper (envOfC "struck" (defScope S_struck) s.heap.objs.size f cdv))) :
    DSs (cxD P w K mg base N_struck "struck" (defScope S_struck) f cdv A o s H E) (WXE E) (defBody S_struck) (t_struck s_need_word s_need_letters) :=
  have nd : List.Nodup N_struck := sc_struck.nd
  (dss_cons (ds_expr (de_call D_need_word takes_cx R_need_word (da_cons (dv 0) da_nil))) (dss_cons (ds_expr (de_call D_need_letters takes_cx R_need_letters (da_cons (dv 1) da_nil))) (dss_one (ds_ret (de_callTy call_tuple_of cd_tuple m_tuple boot_tuple (da_cons (de_lc false rfl nd [("letter", 2)] (blkOk_by (by kernel_rfl)) (di_seq (dv 0)) (fun _ _ _ _ _ => (dg_name 2 nd)) (fun _ _ _ _ _ => (dts_one (dt_notin (hu_of hr) (dv 2) (dv 1)))) (fun _ _ _ _ _ => (dv 2))) da_nil))))))
noncomputable def t_only : DTS := (dRet (dCB rTupleD (dCons (dLc false [2] (diS (dVar 0)) (dgName 2) (dB (dOp (rInD false) (dVar 2) (dVar 1))) (dVar 2)) dNil)))
theorem der_only {P : Program} {w : World} {K : Frag} {mg : Str → Option Value} {base : Heap} {f : Addr} {cdv : Value} {A : Around} {o : List Env} {s : Shared} {H : Hp} {E : XK} (hr : Room 2 (A.deeper (envOfC "only" (defScope S_only) s.heap.objs.size f cdv))) (m_tuple : mg "tuple" = none) :
    DSs (cxD P w K mg base N_only "only" (defScope S_only) f cdv A o s H E) (WXE E) (defBody S_only) (t_only) :=
  have nd : List.Nodup N_only := sc_only.nd
  (dss_one (ds_ret (de_callTy call_tuple_of cd_tuple m_tuple boot_tuple (da_cons (de_lc false rfl nd [("letter", 2)] (blkOk_by (by kernel_rfl)) (di_seq (dv 0)) (fun _ _ _ _ _ => (dg_name 2 nd)) (fun _ _ _ _ _ => (dts_one (dt_in (hu_of hr) (dv 2) (dv 1)))) (fun _ _ _ _ _ => (dv 2))) da_nil))))
noncomputable def t_kept (s_need_word s_need_letters s_only : Pro) : DTS := (dSeq (dDrop (dCall s_need_word (dCons (dVar 0) dNil))) (dSeq (dDrop (dCall s_need_letters (dCons (dVar 1) dNil))) (dRet (dCall s_only (dCons (dVar 0) (dCons (dVar 1) dNil))))))
theorem der_kept {P : Program} {w : World} {K : Frag} {mg : Str → Option Value} {base : Heap} {f : Addr} {cdv : Value} {A : Around} {o : List Env} {s : Shared} {H : Hp} {E : XK} (hr : Room 2 (A.deeper (envOfC "kept" (defScope S_kept) s.heap.objs.size f cdv))) {s_need_word : Pro} {k_need_word : Nat} (D_need_word : Df P w K mg base k_need_word "need_word" P_need_word [] s_need_word) (R_need_word : Room k_need_word (A.deeper (envOfC "kept" (defScope S_kept) s.heap.objs.size f cdv))) {s_need_letters : Pro} {k_need_letters : Nat} (D_need_letters : Df P w K mg base k_need_letters "need_letters" P_need_letters [] s_need_letters) (R_need_letters : Room k_need_letters (A.deeper (envOfC "kept" (defScope S_kept) s.heap.objs.size f cdv))) {s_only : Pro} {k_only : Nat} (D_only : Df P w K mg base k_only "only" P_only [] s_only) (R_only : Room k_only (A.deeper (envOfC "kept" (defScope S_kept) s.heap.objs.size f cdv))) :
    DSs (cxD P w K mg base N_kept "kept" (defScope S_kept) f cdv A o s H E) (WXE E) (defBody S_kept) (t_kept s_need_word s_need_letters s_only) :=
  have nd : List.Nodup N_kept := sc_kept.nd
  (dss_cons (ds_expr (de_call D_need_word takes_cx R_need_word (da_cons (dv 0) da_nil))) (dss_cons (ds_expr (de_call D_need_letters takes_cx R_need_letters (da_cons (dv 1) da_nil))) (dss_one (ds_ret (de_call D_only takes_cx R_only (da_cons (dv 0) (da_cons (dv 1) da_nil)))))))
noncomputable def t_turned (s_need_word : Pro) : DTS := (dSeq (dDrop (dCall s_need_word (dCons (dVar 0) dNil))) (dRet (dRev false (dVar 0))))
theorem der_turned {P : Program} {w : World} {K : Frag} {mg : Str → Option Value} {base : Heap} {f : Addr} {cdv : Value} {A : Around} {o : List Env} {s : Shared} {H : Hp} {E : XK} (hr : Room 2 (A.deeper (envOfC "turned" (defScope S_turned) s.heap.objs.size f cdv))) {s_need_word : Pro} {k_need_word : Nat} (D_need_word : Df P w K mg base k_need_word "need_word" P_need_word [] s_need_word) (R_need_word : Room k_need_word (A.deeper (envOfC "turned" (defScope S_turned) s.heap.objs.size f cdv))) :
    DSs (cxD P w K mg base N_turned "turned" (defScope S_turned) f cdv A o s H E) (WXE E) (defBody S_turned) (t_turned s_need_word) :=
  have nd : List.Nodup N_turned := sc_turned.nd
  (dss_cons (ds_expr (de_call D_need_word takes_cx R_need_word (da_cons (dv 0) da_nil))) (dss_one (ds_ret (de_rev false (dv 0)))))
noncomputable def t__law_cell : DTS := (dRet (dIte (dB (dOp (rLtD) (dVar 1) (dCB rLenD (dCons (dVar 0) dNil)))) (dOp rIxD (dVar 0) (dVar 1)) (dOp (rAddD false) (dOp (rMulD false) (dC (.int 7225)) (dVar 1)) (dOp rModD (dCB rIntD (dCons (dCB rSumD (dCons (dSl false (dVar 0) dNoP (dP (dC (.int 1)))) dNil)) dNil)) (dC (.int 1000033))))))
theorem der__law_cell {P : Program} {w : World} {K : Frag} {mg : Str → Option Value} {base : Heap} {f : Addr} {cdv : Value} {A : Around} {o : List Env} {s : Shared} {H : Hp} {E : XK} (hr : Room 2 (A.deeper (envOfC "_law_cell" (defScope S__law_cell) s.heap.objs.size f cdv))) (m_len : mg "len" = none) (m_sum : mg "sum" = none) (m_int : mg "int" = none) :
    DSs (cxD P w K mg base N__law_cell "_law_cell" (defScope S__law_cell) f cdv A o s H E) (WXE E) (defBody S__law_cell) (t__law_cell) :=
  have nd : List.Nodup N__law_cell := sc__law_cell.nd
  (dss_one (ds_ret (de_ite (dt_lt (dv 1) (de_callB call_lenV cd_len m_len boot_len (da_cons (dv 0) da_nil))) (de_ix (hu_of hr) (dv 0) (dv 1)) (de_add false (de_mul false d_int (dv 1)) (de_mod (de_callTy call_int1 cd_int m_int boot_int (da_cons (de_callB (cr_sum rfl) cd_sum m_sum boot_sum (da_cons (de_sl false (dv 0) do_none (do_some d_int)) da_nil)) da_nil)) d_int)))))
noncomputable def t__law_box : DTS := (dRet (dLst true (dCons (dCB rAbsD (dCons (dVar 0) dNil)) (dCons (dOp (rGeD) (dCB rAbsD (dCons (dVar 0) dNil)) (dOp rPowD (dC (.int 10)) (dC (.int 18)))) (dCons (dOp rModD (dCB rIntD (dCons (dCB rAbsD (dCons (dVar 0) dNil)) dNil)) (dC (.int 2147483629))) (dCons (dC (.int 0)) dNil))))))
theorem der__law_box {P : Program} {w : World} {K : Frag} {mg : Str → Option Value} {base : Heap} {f : Addr} {cdv : Value} {A : Around} {o : List Env} {s : Shared} {H : Hp} {E : XK} (hr : Room 2 (A.deeper (envOfC "_law_box" (defScope S__law_box) s.heap.objs.size f cdv))) (m_abs : mg "abs" = none) (m_int : mg "int" = none) :
    DSs (cxD P w K mg base N__law_box "_law_box" (defScope S__law_box) f cdv A o s H E) (WXE E) (defBody S__law_box) (t__law_box) :=
  have nd : List.Nodup N__law_box := sc__law_box.nd
  (dss_one (ds_ret (de_lst true (da_cons (de_callB call_abs cd_abs m_abs boot_abs (da_cons (dv 0) da_nil)) (da_cons (de_ge (de_callB call_abs cd_abs m_abs boot_abs (da_cons (dv 0) da_nil)) (de_pow d_int d_int)) (da_cons (de_mod (de_callTy call_int1 cd_int m_int boot_int (da_cons (de_callB call_abs cd_abs m_abs boot_abs (da_cons (dv 0) da_nil)) da_nil)) d_int) (da_cons d_int da_nil)))))))
noncomputable def t__law_take : DTS := (dSeq (dIf (dAnd (dB (dOp rIxD (dVar 0) (dC (.int 1)))) (dB (dOp (rGtD) (dOp rIxD (dVar 0) (dC (.int 0))) (dC (.int 0))))) (dSeq (dSet 2 (dOp rModD (dCB rIntD (dCons (dOp rIxD (dVar 0) (dC (.int 0))) dNil)) (dVar 1))) (dSeq (dAsg (dOp rDivD (dOp rIxD (dVar 0) (dC (.int 0))) (dVar 1)) (dgSub (dVar 0) (dC (.int 0)))) (dRet (dVar 2)))) dNext) (dSeq (dAsg (dOp (rAddD false) (dOp rIxD (dVar 0) (dC (.int 3))) (dC (.int 1))) (dgSub (dVar 0) (dC (.int 3)))) (dSeq (dSet 3 (dOp rModD (dCB rIntD (dCons (dOp rPowD (dOp (rAddD false) (dOp (rAddD false) (dOp rIxD (dVar 0) (dC (.int 2))) (dOp (rMulD false) (dC (.int 15485944)) (dOp rIxD (dVar 0) (dC (.int 3))))) (dC (.int 179424800))) (dC (.int 5))) dNil)) (dC (.int 2147483647)))) (dRet (dOp rModD (dCB rIntD (dCons (dOp rDivD (dOp rModD (dCB rIntD (dCons (dOp rPowD (dOp (rAddD false) (dOp (rMulD false) (dVar 3) (dC (.int 48271))) (dOp (rMulD false) (dC (.int 104809)) (dOp rIxD (dVar 0) (dC (.int 3))))) (dC (.int 3))) dNil)) (dC (.int 2147483587))) (dC (.int 64))) dNil)) (dVar 1))))))
theorem der__law_take {P : Program} {w : World} {K : Frag} {mg : Str → Option Value} {base : Heap} {f : Addr} {cdv : Value} {A : Around} {o : List Env} {s : Shared} {H : Hp} {E : XK} (hr : Room 2 (A.deeper (envOfC "_law_take" (defScope S__law_take) s.heap.objs.size f cdv))) (m_int : mg "int" = none) :
    DSs (cxD P w K mg base N__law_take "_law_take" (defScope S__law_take) f cdv A o s H E) (WXE E) (defBody S__law_take) (t__law_take) :=
  have nd : List.Nodup N__law_take := sc__law_take.nd
  (dss_cons (ds_if (DW.dt (dw_and (dt_val (de_ix (hu_of hr) (dv 0) d_int)) (dw_and1 (dt_gt (de_ix (hu_of hr) (dv 0) d_int) d_int)))) (dss_cons (ds_set 2 nd (de_mod (de_callTy call_int1 cd_int m_int boot_int (da_cons (de_ix (hu_of hr) (dv 0) d_int) da_nil)) (dv 1))) (dss_cons (ds_asg [] (de_div (de_ix (hu_of hr) (dv 0) d_int) (dv 1)) (dg_sub (dv 0) d_int)) (dss_one (ds_ret (dv 2))))) dss_nil) (dss_cons (ds_asg [] (de_add false (de_ix (hu_of hr) (dv 0) d_int) d_int) (dg_sub (dv 0) d_int)) (dss_cons (ds_set 3 nd (de_mod (de_callTy call_int1 cd_int m_int boot_int (da_cons (de_pow (de_add false (de_add false (de_ix (hu_of hr) (dv 0) d_int) (de_mul false d_int (de_ix (hu_of hr) (dv 0) d_int))) d_int) d_int) da_nil)) d_int)) (dss_one (ds_ret (de_mod (de_callTy call_int1 cd_int m_int boot_int (da_cons (de_div (de_mod (de_callTy call_int1 cd_int m_int boot_int (da_cons (de_pow (de_add false (de_mul false (dv 3) d_int) (de_mul false d_int (de_ix (hu_of hr) (dv 0) d_int))) d_int) da_nil)) d_int) d_int) da_nil)) (dv 1)))))))
noncomputable def t__law_pick (s__law_take : Pro) : DTS := (dRet (dOp rIxD (dVar 1) (dCall s__law_take (dCons (dVar 0) (dCons (dCB rLenD (dCons (dVar 1) dNil)) dNil)))))
theorem der__law_pick {P : Program} {w : World} {K : Frag} {mg : Str → Option Value} {base : Heap} {f : Addr} {cdv : Value} {A : Around} {o : List Env} {s : Shared} {H : Hp} {E : XK} (hr : Room 2 (A.deeper (envOfC "_law_pick" (defScope S__law_pick) s.heap.objs.size f cdv))) (m_len : mg "len" = none) {s__law_take : Pro} {k__law_take : Nat} (D__law_take : Df P w K mg base k__law_take "_law_take" P__law_take [] s__law_take) (R__law_take : Room k__law_take (A.deeper (envOfC "_law_pick" (defScope S__law_pick) s.heap.objs.size f cdv))) :
    DSs (cxD P w K mg base N__law_pick "_law_pick" (defScope S__law_pick) f cdv A o s H E) (WXE E) (defBody S__law_pick) (t__law_pick s__law_take) :=
  have nd : List.Nodup N__law_pick := sc__law_pick.nd
  (dss_one (ds_ret (de_ix (hu_of hr) (dv 1) (de_call D__law_take takes_cx R__law_take (da_cons (dv 0) (da_cons (de_callB call_lenV cd_len m_len boot_len (da_cons (dv 1) da_nil)) da_nil))))))
noncomputable def t__law_same (s__law_same : Pro) : DTS := (dSeq (dIf (dOr (dB (dOp (rIsD false) (dVar 1) (dC .non))) (dB (dCB rIsiD (dCons (dVar 1) (dCons (dC (.ty "bool")) dNil))))) (dRet (dIte (dB (dOp (rIsD false) (dVar 1) (dC .non))) (dOp (rIsD false) (dVar 0) (dC .non)) (dAndV (dCB rIsiD (dCons (dVar 0) (dCons (dC (.ty "bool")) dNil))) (dOp (rEqD false) (dOp (rIsD false) (dVar 0) (dC (.bl true))) (dOp (rIsD false) (dVar 1) (dC (.bl true))))))) dNext) (dSeq (dIf (dB (dCB rIsiD (dCons (dVar 1) (dCons (dC (.ty "int")) dNil)))) (dRet (dAndV (dCB rIsiD (dCons (dVar 0) (dCons (dC (.ty "int")) dNil))) (dAndV (dNotV (dCB rIsiD (dCons (dVar 0) (dCons (dC (.ty "bool")) dNil)))) (dOp (rEqD false) (dOp rSubD (dCB rIntD (dCons (dVar 0) dNil)) (dVar 1)) (dC (.int 0)))))) dNext) (dSeq (dIf (dB (dCB rIsiD (dCons (dVar 1) (dCons (dC (.ty "str")) dNil)))) (dRet (dAndV (dCB rIsiD (dCons (dVar 0) (dCons (dC (.ty "str")) dNil))) (dOp (rEqD false) (dVar 0) (dVar 1)))) dNext) (dSeq (dIf (dB (dCB rIsiD (dCons (dVar 1) (dCons (dC (.ty "dict")) dNil)))) (dSeq (dIf (dOr (dNot (dB (dCB rIsiD (dCons (dVar 0) (dCons (dC (.ty "dict")) dNil))))) (dB (dOp (rEqD true) (dCB rLenD (dCons (dVar 0) dNil)) (dCB rLenD (dCons (dVar 1) dNil))))) (dRet (dC (.bl false))) dNext) (dRet (dOp (rEqD false) (dLk 1 (dLc false [2] (diKeys (dVar 1)) (dgName 2) (dOr (dB (dOp (rInD true) (dVar 2) (dVar 0))) (dNot (dB (dCall s__law_same (dCons (dOp rIxD (dVar 0) (dVar 2)) (dCons (dOp rIxD (dVar 1) (dVar 2)) dNil)))))) (dVar 2))) (dLst false dNil)))) dNext) (dSeq (dIf (dOr (dNot (dB (dCB rIsiD (dCons (dVar 1) (dCons (dTup (dCons (dC (.ty "list")) (dCons (dC (.ty "tuple")) dNil))) dNil))))) (dNot (dB (dCB rIsiD (dCons (dVar 0) (dCons (dTup (dCons (dC (.ty "list")) (dCons (dC (.ty "tuple")) dNil))) dNil)))))) (dRet (dC (.bl false))) dNext) (dSeq (dIf (dOr (dB (dOp (rEqD true) (dCB rIsiD (dCons (dVar 0) (dCons (dC (.ty "list")) dNil))) (dCB rIsiD (dCons (dVar 1) (dCons (dC (.ty "list")) dNil))))) (dB (dOp (rEqD true) (dCB rLenD (dCons (dVar 0) dNil)) (dCB rLenD (dCons (dVar 1) dNil))))) (dRet (dC (.bl false))) dNext) (dRet (dOp (rEqD false) (dLc false [3] (diR1 (dCons (dCB rLenD (dCons (dVar 1) dNil)) dNil)) (dgName 3) (dNot (dB (dCall s__law_same (dCons (dOp rIxD (dVar 0) (dVar 3)) (dCons (dOp rIxD (dVar 1) (dVar 3)) dNil))))) (dVar 3)) (dLst false dNil)))))))))
theorem der__law_same {P : Program} {w : World} {K : Frag} {mg : Str → Option Value} {base : Heap} {f : Addr} {cdv : Value} {A : Around} {o : List Env} {s : Shared} {H : Hp} {E : XK} (hr : Room 2 (A.deeper (envOfC "_law_same" (defScope S__law_same) s.heap.objs.size f cdv))) (m_bool : mg "bool" = none) (m_isinstance : mg "isinstance" = none) (m_int : mg "int" = none) (m_str : mg "str" = none) (m_dict : mg "dict" = none) (m_len : mg "len" = none) (m_list : mg "list" = none) (m_tuple : mg "tuple" = none) (m_range : mg "range" = none) {s__law_same : Pro} {k__law_same : Nat} (D__law_same : Df P w K mg base k__law_same "_law_same" P__law_same [] s__law_same) (R__law_same : Room k__law_same (A.deeper (envOfC "_law_same" (defScope S__law_same) s.heap.objs.size f cdv))) :
    DSs (cxD P w K mg base N__law_same "_law_same" (defScope S__law_same) f cdv A o s H E) (WXE E) (defBody S__law_same) (t__law_same s__law_same) :=
  have nd : List.Nodup N__law_same := sc__law_same.nd
  (dss_cons (ds_if (DW.dt (dw_or (dt_is (dv 1) d_non) (dw_or1 (dt_val (de_callB (CallR.or call_isi call_isiT) cd_isi m_isinstance boot_isinstance (da_cons (dv 1) (da_cons (d_blt "bool" m_bool boot_bool) da_nil))))))) (dss_one (ds_ret (de_ite (dt_is (dv 1) d_non) (de_is (dv 0) d_non) (de_and (de_callB (CallR.or call_isi call_isiT) cd_isi m_isinstance boot_isinstance (da_cons (dv 0) (da_cons (d_blt "bool" m_bool boot_bool) da_nil))) (de_one (de_eq (hu_of hr) (de_is (dv 0) d_bl) (de_is (dv 1) d_bl))))))) dss_nil) (dss_cons (ds_if (dt_val (de_callB (CallR.or call_isi call_isiT) cd_isi m_isinstance boot_isinstance (da_cons (dv 1) (da_cons (d_blt "int" m_int boot_int) da_nil)))) (dss_one (ds_ret (de_and (de_callB (CallR.or call_isi call_isiT) cd_isi m_isinstance boot_isinstance (da_cons (dv 0) (da_cons (d_blt "int" m_int boot_int) da_nil))) (de_and (de_not (de_callB (CallR.or call_isi call_isiT) cd_isi m_isinstance boot_isinstance (da_cons (dv 0) (da_cons (d_blt "bool" m_bool boot_bool) da_nil)))) (de_one (de_eq (hu_of hr) (de_sub (de_callTy call_int1 cd_int m_int boot_int (da_cons (dv 0) da_nil)) (dv 1)) d_int)))))) dss_nil) (dss_cons (ds_if (dt_val (de_callB (CallR.or call_isi call_isiT) cd_isi m_isinstance boot_isinstance (da_cons (dv 1) (da_cons (d_blt "str" m_str boot_str) da_nil)))) (dss_one (ds_ret (de_and (de_callB (CallR.or call_isi call_isiT) cd_isi m_isinstance boot_isinstance (da_cons (dv 0) (da_cons (d_blt "str" m_str boot_str) da_nil))) (de_one (de_eq (hu_of hr) (dv 0) (dv 1)))))) dss_nil) (dss_cons (ds_if (dt_val (de_callB (CallR.or call_isi call_isiT) cd_isi m_isinstance boot_isinstance (da_cons (dv 1) (da_cons (d_blt "dict" m_dict boot_dict) da_nil)))) (dss_cons (ds_if (DW.dt (dw_or (dt_not (dt_val (de_callB (CallR.or call_isi call_isiT) cd_isi m_isinstance boot_isinstance (da_cons (dv 0) (da_cons (d_blt "dict" m_dict boot_dict) da_nil))))) (dw_or1 (dt_ne (hu_of hr) (de_callB call_lenV cd_len m_len boot_len (da_cons (dv 0) da_nil)) (de_callB call_lenV cd_len m_len boot_len (da_cons (dv 1) da_nil)))))) (dss_one (ds_ret d_bl)) dss_nil) (dss_one (ds_ret (de_eq (hu_of hr) (de_lk 1 (de_lc false rfl nd [("key", 2)] (blkOk_by (by kernel_rfl)) (di_keys (dv 1)) (fun _ _ _ _ _ => (dg_name 2 nd)) (fun _ _ _ _ _ => (dts_one (DW.dt (dw_or (dt_notin (hu_of hr) (dv 2) (dv 0)) (dw_or1 (dt_not (dt_val (de_call D__law_same takes0 R__law_same (da_cons (de_ix (hu_of hr) (dv 0) (dv 2)) (da_cons (de_ix (hu_of hr) (dv 1) (dv 2)) da_nil)))))))))) (fun _ _ _ _ _ => (dv 2)))) (de_lst false da_nil))))) dss_nil) (dss_cons (ds_if (DW.dt (dw_or (dt_not (dt_val (de_callB (CallR.or call_isi call_isiT) cd_isi m_isinstance boot_isinstance (da_cons (dv 1) (da_cons (de_tup (da_cons (d_blt "list" m_list boot_list) (da_cons (d_blt "tuple" m_tuple boot_tuple) da_nil))) da_nil))))) (dw_or1 (dt_not (dt_val (de_callB (CallR.or call_isi call_isiT) cd_isi m_isinstance boot_isinstance (da_cons (dv 0) (da_cons (de_tup (da_cons (d_blt "list" m_list boot_list) (da_cons (d_blt "tuple" m_tuple boot_tuple) da_nil))) da_nil)))))))) (dss_one (ds_ret d_bl)) dss_nil) (dss_cons (ds_if (DW.dt (dw_or (dt_ne (hu_of hr) (de_callB (CallR.or call_isi call_isiT) cd_isi m_isinstance boot_isinstance (da_cons (dv 0) (da_cons (d_blt "list" m_list boot_list) da_nil))) (de_callB (CallR.or call_isi call_isiT) cd_isi m_isinstance boot_isinstance (da_cons (dv 1) (da_cons (d_blt "list" m_list boot_list) da_nil)))) (dw_or1 (dt_ne (hu_of hr) (de_callB call_lenV cd_len m_len boot_len (da_cons (dv 0) da_nil)) (de_callB call_lenV cd_len m_len boot_len (da_cons (dv 1) da_nil)))))) (dss_one (ds_ret d_bl)) dss_nil) (dss_one (ds_ret (de_eq (hu_of hr) (de_lc false rfl nd [("k", 3)] (blkOk_by (by kernel_rfl)) (di_range1 (da_cons (de_callB call_lenV cd_len m_len boot_len (da_cons (dv 1) da_nil)) da_nil) m_range) (fun _ _ _ _ _ => (dg_name 3 nd)) (fun _ _ _ _ _ => (dts_one (dt_not (dt_val (de_call D__law_same takes0 R__law_same (da_cons (de_ix (hu_of hr) (dv 0) (dv 3)) (da_cons (de_ix (hu_of hr) (dv 1) (dv 3)) da_nil))))))) (fun _ _ _ _ _ => (dv 3))) (de_lst false da_nil))))))))))
noncomputable def t__law_copy (s__law_copy : Pro) : DTS := (dSeq (dIf (dB (dCB rIsiD (dCons (dVar 0) (dCons (dC (.ty "list")) dNil)))) (dRet (dLc true [1] (diS (dVar 0)) (dgName 1) dYes (dCall s__law_copy (dCons (dVar 1) dNil)))) dNext) (dSeq (dIf (dB (dCB rIsiD (dCons (dVar 0) (dCons (dC (.ty "tuple")) dNil)))) (dRet (dCB rTupleD (dCons (dLc false [1] (diS (dVar 0)) (dgName 1) dYes (dCall s__law_copy (dCons (dVar 1) dNil))) dNil))) dNext) (dRet (dIte (dB (dCB rIsiD (dCons (dVar 0) (dCons (dC (.ty "dict")) dNil)))) (dCB (rDictD true) (dCons (dLk 0 (dLc false [2] (diKeys (dVar 0)) (dgName 2) dYes (dTup (dCons (dVar 2) (dCons (dCall s__law_copy (dCons (dOp rIxD (dVar 0) (dVar 2)) dNil)) dNil))))) dNil)) (dVar 0)))))
theorem der__law_copy {P : Program} {w : World} {K : Frag} {mg : Str → Option Value} {base : Heap} {f : Addr} {cdv : Value} {A : Around} {o : List Env} {s : Shared} {H : Hp} {E : XK} (hr : Room 2 (A.deeper (envOfC "_law_copy" (defScope S__law_copy) s.heap.objs.size f cdv))) (m_list : mg "list" = none) (m_isinstance : mg "isinstance" = none) (m_tuple : mg "tuple" = none) (m_dict : mg "dict" = none) {s__law_copy : Pro} {k__law_copy : Nat} (D__law_copy : Df P w K mg base k__law_copy "_law_copy" P__law_copy [] s__law_copy) (R__law_copy : Room k__law_copy (A.deeper (envOfC "_law_copy" (defScope S__law_copy) s.heap.objs.size f cdv))) :
    DSs (cxD P w K mg base N__law_copy "_law_copy" (defScope S__law_copy) f cdv A o s H E) (WXE E) (defBody S__law_copy) (t__law_copy s__law_copy) :=
  have nd : List.Nodup N__law_copy := sc__law_copy.nd
  (dss_cons (ds_if (dt_val (de_callB (CallR.or call_isi call_isiT) cd_isi m_isinstance boot_isinstance (da_cons (dv 0) (da_cons (d_blt "list" m_list boot_list) da_nil)))) (dss_one (ds_ret (de_lc true rfl nd [("item", 1)] (blkOk_by (by kernel_rfl)) (di_seq (dv 0)) (fun _ _ _ _ _ => (dg_name 1 nd)) (fun _ _ _ _ _ => dts_nil) (fun _ _ _ _ _ => (de_call D__law_copy takes0 R__law_copy (da_cons (dv 1) da_nil)))))) dss_nil) (dss_cons (ds_if (dt_val (de_callB (CallR.or call_isi call_isiT) cd_isi m_isinstance boot_isinstance (da_cons (dv 0) (da_cons (d_blt "tuple" m_tuple boot_tuple) da_nil)))) (dss_one (ds_ret (de_callTy call_tuple_of cd_tuple m_tuple boot_tuple (da_cons (de_lc false rfl nd [("item", 1)] (blkOk_by (by kernel_rfl)) (di_seq (dv 0)) (fun _ _ _ _ _ => (dg_name 1 nd)) (fun _ _ _ _ _ => dts_nil) (fun _ _ _ _ _ => (de_call D__law_copy takes0 R__law_copy (da_cons (dv 1) da_nil)))) da_nil)))) dss_nil) (dss_one (ds_ret (de_ite (dt_val (de_callB (CallR.or call_isi call_isiT) cd_isi m_isinstance boot_isinstance (da_cons (dv 0) (da_cons (d_blt "dict" m_dict boot_dict) da_nil)))) (de_callTy (call_dictP rfl) (cd_dict (m := true)) m_dict boot_dict (da_cons (de_lk 0 (de_lc false rfl nd [("key", 2)] (blkOk_by (by kernel_rfl)) (di_keys (dv 0)) (fun _ _ _ _ _ => (dg_name 2 nd)) (fun _ _ _ _ _ => dts_nil) (fun _ _ _ _ _ => (de_tup (da_cons (dv 2) (da_cons (de_call D__law_copy takes0 R__law_copy (da_cons (de_ix (hu_of hr) (dv 0) (dv 2)) da_nil)) da_nil)))))) da_nil)) (dv 0))))))
noncomputable def t__law_very (s__law_same : Pro) : DTS := (dSeq (dIf (dNot (dB (dCall s__law_same (dCons (dVar 0) (dCons (dVar 1) dNil))))) (dRet (dC (.bl false))) dNext) (dSeq (dIf (dB (dCB rIsiD (dCons (dVar 1) (dCons (dC (.ty "list")) dNil)))) (dDrop (dBM "list" rAppendD (dVar 1) (dCons (dC (.str "more")) dNil))) dNext) (dSeq (dIf (dB (dCB rIsiD (dCons (dVar 1) (dCons (dC (.ty "dict")) dNil)))) (dDput (dVar 1) (dC (.str "more")) (dC (.int 1))) dNext) (dRet (dCall s__law_same (dCons (dVar 0) (dCons (dVar 1) dNil)))))))
theorem der__law_very {P : Program} {w : World} {K : Frag} {mg : Str → Option Value} {base : Heap} {f : Addr} {cdv : Value} {A : Around} {o : List Env} {s : Shared} {H : Hp} {E : XK} (hr : Room 2 (A.deeper (envOfC "_law_very" (defScope S__law_very) s.heap.objs.size f cdv))) (m_list : mg "list" = none) (m_isinstance : mg "isinstance" = none) (m_dict : mg "dict" = none) {s__law_same : Pro} {k__law_same : Nat} (D__law_same : Df P w K mg base k__law_same "_law_same" P__law_same [] s__law_same) (R__law_same : Room k__law_same (A.deeper (envOfC "_law_very" (defScope S__law_very) s.heap.objs.size f cdv))) :
    DSs (cxD P w K mg base N__law_very "_law_very" (defScope S__law_very) f cdv A o s H E) (WXE E) (defBody S__law_very) (t__law_very s__law_same) :=
  have nd : List.Nodup N__law_very := sc__law_very.nd
  (dss_cons (ds_if (dt_not (dt_val (de_call D__law_same takes_cx R__law_same (da_cons (dv 0) (da_cons (dv 1) da_nil))))) (dss_one (ds_ret d_bl)) dss_nil) (dss_cons (ds_if (dt_val (de_callB (CallR.or call_isi call_isiT) cd_isi m_isinstance boot_isinstance (da_cons (dv 1) (da_cons (d_blt "list" m_list boot_list) da_nil)))) (dss_one (ds_expr (de_bm F.plainAttrs_list F.slot_list_append F.type_list_append mt_append md_append (dv 1) (da_cons d_str da_nil)))) dss_nil) (dss_cons (ds_if (dt_val (de_callB (CallR.or call_isi call_isiT) cd_isi m_isinstance boot_isinstance (da_cons (dv 1) (da_cons (d_blt "dict" m_dict boot_dict) da_nil)))) (dss_one (ds_dput (hu_of hr) d_int (dv 1) d_str)) dss_nil) (dss_one (ds_ret (de_call D__law_same takes_cx R__law_same (da_cons (dv 0) (da_cons (dv 1) da_nil))))))))
noncomputable def t__law_scattered (s__law_scattered : Pro) : DTS := (dSeq (dIf (dB (dOp (rEqD false) (dVar 0) (dTup dNil))) (dRet (dC (.int 1))) dNext) (dRet (dCB rSumD (dCons (dLc false [2] (diR1 (dCons (dCB rLenD (dCons (dVar 1) dNil)) dNil)) (dgName 2) (dB (dOp (rEqD false) (dOp rIxD (dVar 1) (dVar 2)) (dOp rIxD (dVar 0) (dC (.int 0))))) (dCall s__law_scattered (dCons (dSl false (dVar 0) (dP (dC (.int 1))) dNoP) (dCons (dSl false (dVar 1) (dP (dOp (rAddD false) (dVar 2) (dC (.int 1)))) dNoP) dNil)))) dNil))))
theorem der__law_scattered {P : Program} {w : World} {K : Frag} {mg : Str → Option Value} {base : Heap} {f : Addr} {cdv : Value} {A : Around} {o : List Env} {s : Shared} {H : Hp} {E : XK} (hr : Room 2 (A.deeper (envOfC "_law_scattered" (defScope S__law_scattered) s.heap.objs.size f cdv))) (m_len : mg "len" = none) (m_range : mg "range" = none) (m_sum : mg "sum" = none) {s__law_scattered : Pro} {k__law_scattered : Nat} (D__law_scattered : Df P w K mg base k__law_scattered "_law_scattered" P__law_scattered [] s__law_scattered) (R__law_scattered : Room k__law_scattered (A.deeper (envOfC "_law_scattered" (defScope S__law_scattered) s.heap.objs.size f cdv))) :
    DSs (cxD P w K mg base N__law_scattered "_law_scattered" (defScope S__law_scattered) f cdv A o s H E) (WXE E) (defBody S__law_scattered) (t__law_scattered s__law_scattered) :=
  have nd : List.Nodup N__law_scattered := sc__law_scattered.nd
  (dss_cons (ds_if (dt_eq (hu_of hr) (dv 0) (de_tup da_nil)) (dss_one (ds_ret d_int)) dss_nil) (dss_one (ds_ret (de_callB (cr_sum rfl) cd_sum m_sum boot_sum (da_cons (de_lc false rfl nd [("k", 2)] (blkOk_by (by kernel_rfl)) (di_range1 (da_cons (de_callB call_lenV cd_len m_len boot_len (da_cons (dv 1) da_nil)) da_nil) m_range) (fun _ _ _ _ _ => (dg_name 2 nd)) (fun _ _ _ _ _ => (dts_one (dt_eq (hu_of hr) (de_ix (hu_of hr) (dv 1) (dv 2)) (de_ix (hu_of hr) (dv 0) d_int)))) (fun _ _ _ _ _ => (de_call D__law_scattered takes0 R__law_scattered (da_cons (de_sl false (dv 0) (do_some d_int) do_none) (da_cons (de_sl false (dv 1) (do_some (de_add false (dv 2) d_int)) do_none) da_nil))))) da_nil)))))
noncomputable def t__law_asked (exm : Str → Str → Option Bool) (s_struck s_kept s_turned : Pro) : DTS := (dTry exm [("InvalidWord", some 4, fun C a d => (dRet (dLst false (dCons (dC (.str "word")) (dCons (dExf ["InvalidWord"] C a d 4 "given") dNil))))), ("InvalidLetters", some 4, fun C a d => (dRet (dLst false (dCons (dC (.str "letters")) (dCons (dExf ["InvalidLetters"] C a d 4 "given") dNil)))))] (dSeq (dIf (dB (dOp (rEqD false) (dVar 0) (dC (.int 0)))) (dRet (dLst false (dCons (dC (.str "told")) (dCons (dIte (dB (dVar 3)) (dCallK 0 2 [1, 0] s_struck dNil (dCons (dVar 2) (dCons (dVar 1) dNil))) (dCall s_struck (dCons (dVar 1) (dCons (dVar 2) dNil)))) dNil)))) dNext) (dSeq (dIf (dB (dOp (rEqD false) (dVar 0) (dC (.int 1)))) (dRet (dLst false (dCons (dC (.str "told")) (dCons (dIte (dB (dVar 3)) (dCallK 0 2 [1, 0] s_kept dNil (dCons (dVar 2) (dCons (dVar 1) dNil))) (dCall s_kept (dCons (dVar 1) (dCons (dVar 2) dNil)))) dNil)))) dNext) (dRet (dLst false (dCons (dC (.str "told")) (dCons (dIte (dB (dVar 3)) (dCallK 0 1 [0] s_turned dNil (dCons (dVar 1) dNil)) (dCall s_turned (dCons (dVar 1) dNil))) dNil)))))))
theorem der__law_asked {P : Program} {w : World} {K : Frag} {mg : Str → Option Value} {base : Heap} {f : Addr} {cdv : Value} {A : Around} {o : List Env} {s : Shared} {H : Hp} {E : XK} (hr : Room 2 (A.deeper (envOfC "_law_asked" (defScope S__law_asked) s.heap.objs.size f cdv))) (X_InvalidWord : ExcF P w K mg base "InvalidWord" "given") (X_InvalidLetters : ExcF P w K mg base "InvalidLetters" "given") {exm : Str → Str → Option Bool} (EX : ExmOk K exm) {s_struck : Pro} {k_struck : Nat} (D_struck : Df P w K mg base k_struck "struck" P_struck [(0, ["letters", "word"], [1, 0])] s_struck) (R_struck : Room k_struck (A.deeper (envOfC "_law_asked" (defScope S__law_asked) s.heap.objs.size f cdv))) {s_kept : Pro} {k_kept : Nat} (D_kept : Df P w K mg base k_kept "kept" P_kept [(0, ["letters", "word"], [1, 0])] s_kept) (R_kept : Room k_kept (A.deeper (envOfC "_law_asked" (defScope S__law_asked) s.heap.objs.size f cdv))) {s_turned : Pro} {k_turned : Nat} (D_turned : Df P w K mg base k_turned "turned" P_turned [(0, ["word"], [0])] s_turned) (R_turned : Room k_turned (A.deeper (envOfC "_law_asked" (defScope S__law_asked) s.heap.objs.size f cdv))) :
    DSs (cxD P w K mg base N__law_asked "_law_asked" (defScope S__law_asked) f cdv A o s H E) (WXE E) (defBody S__law_asked) (t__law_asked exm s_struck s_kept s_turned) :=
  have nd : List.Nodup N__law_asked := sc__law_asked.nd
  (dss_one (ds_try EX rfl rfl nd takes_cx (fun W pn xe tk po => (dss_cons (ds_if (dt_eq (hu_of hr) (dv 0) d_int) (dss_one (ds_ret (de_lst false (da_cons d_str (da_cons (de_ite (dt_val (dv 3)) (de_callK0 (q := (0, ["letters", "word"], [1, 0])) D_struck List.mem_cons_self tk R_struck (dk_cons (dv 2) (dk_cons (dv 1) dk_nil))) (de_call D_struck tk R_struck (da_cons (dv 1) (da_cons (dv 2) da_nil)))) da_nil))))) dss_nil) (dss_cons (ds_if (dt_eq (hu_of hr) (dv 0) d_int) (dss_one (ds_ret (de_lst false (da_cons d_str (da_cons (de_ite (dt_val (dv 3)) (de_callK0 (q := (0, ["letters", "word"], [1, 0])) D_kept List.mem_cons_self tk R_kept (dk_cons (dv 2) (dk_cons (dv 1) dk_nil))) (de_call D_kept tk R_kept (da_cons (dv 1) (da_cons (dv 2) da_nil)))) da_nil))))) dss_nil) (dss_one (ds_ret (de_lst false (da_cons d_str (da_cons (de_ite (dt_val (dv 3)) (de_callK0 (q := (0, ["word"], [0])) D_turned List.mem_cons_self tk R_turned (dk_cons (dv 1) dk_nil)) (de_call D_turned tk R_turned (da_cons (dv 1) da_nil))) da_nil)))))))) (hds_consA 4 X_InvalidWord.gm (fun a oe C d pn hz hf => (dss_one (ds_ret (de_lst false (da_cons d_str (da_cons (de_exf 4 (exc1 X_InvalidWord) hz hf) da_nil)))))) (hds_consA 4 X_InvalidLetters.gm (fun a oe C d pn hz hf => (dss_one (ds_ret (de_lst false (da_cons d_str (da_cons (de_exf 4 (exc1 X_InvalidLetters) hz hf) da_nil)))))) hds_nil))))
noncomputable def t__law_word (s__law_pick s__law_take : Pro) : DTS := (dSeq (dSet 1 (dCall s__law_pick (dCons (dVar 0) (dCons (dLst false (dCons (dLst false (dCons (dC (.int 0)) (dCons (dC (.int 1)) dNil))) (dCons (dLst false (dCons (dC (.int 0)) (dCons (dC (.int 1)) (dCons (dC (.int 2)) (dCons (dC (.int 3)) dNil))))) (dCons (dLst false (dCons (dC (.int 1000)) (dCons (dC (.int 7)) dNil))) (dCons (dLst false (dCons (dC (.int 4)) (dCons (dC (.int 5)) (dCons (dC (.int 6)) (dCons (dC (.int 7)) (dCons (dC (.int 8)) (dCons (dC (.int 9)) dNil))))))) dNil))))) dNil)))) (dRet (dCB rTupleD (dCons (dLc false [2] (diR1 (dCons (dIte (dB (dOp (rEqD false) (dCall s__law_take (dCons (dVar 0) (dCons (dC (.int 6)) dNil))) (dC (.int 0)))) (dCall s__law_pick (dCons (dVar 0) (dCons (dLst false (dCons (dC (.int 0)) (dCons (dC (.int 100)) (dCons (dC (.int 1)) dNil)))) dNil))) (dCall s__law_take (dCons (dVar 0) (dCons (dC (.int 17)) dNil)))) dNil)) (dgName 2) dYes (dCall s__law_pick (dCons (dVar 0) (dCons (dVar 1) dNil)))) dNil))))
theorem der__law_word {P : Program} {w : World} {K : Frag} {mg : Str → Option Value} {base : Heap} {f : Addr} {cdv : Value} {A : Around} {o : List Env} {s : Shared} {H : Hp} {E : XK} (hr : Room 2 (A.deeper (envOfC "_law_word" (defScope S__law_word) s.heap.objs.size f cdv))) (m_range : mg "range" = none) (m_tuple : mg "tuple" = none) {s__law_pick : Pro} {k__law_pick : Nat} (D__law_pick : Df P w K mg base k__law_pick "_law_pick" P__law_pick [] s__law_pick) (R__law_pick : Room k__law_pick (A.deeper (envOfC "_law_word" (defScope S__law_word) s.heap.objs.size f cdv))) {s__law_take : Pro} {k__law_take : Nat} (D__law_take : Df P w K mg base k__law_take "_law_take" P__law_take [] s__law_take) (R__law_take : Room k__law_take (A.deeper (envOfC "_law_word" (defScope S__law_word) s.heap.objs.size f cdv))) :
    DSs (cxD P w K mg base N__law_word "_law_word" (defScope S__law_word) f cdv A o s H E) (WXE E) (defBody S__law_word) (t__law_word s__law_pick s__law_take) :=
  have nd : List.Nodup N__law_word := sc__law_word.nd
  (dss_cons (ds_set 1 nd (de_call D__law_pick takes_cx R__law_pick (da_cons (dv 0) (da_cons (de_lst false (da_cons (de_lst false (da_cons d_int (da_cons d_int da_nil))) (da_cons (de_lst false (da_cons d_int (da_cons d_int (da_cons d_int (da_cons d_int da_nil))))) (da_cons (de_lst false (da_cons d_int (da_cons d_int da_nil))) (da_cons (de_lst false (da_cons d_int (da_cons d_int (da_cons d_int (da_cons d_int (da_cons d_int (da_cons d_int da_nil))))))) da_nil))))) da_nil)))) (dss_one (ds_ret (de_callTy call_tuple_of cd_tuple m_tuple boot_tuple (da_cons (de_lc false rfl nd [("k", 2)] (blkOk_by (by kernel_rfl)) (di_range1 (da_cons (de_ite (dt_eq (hu_of hr) (de_call D__law_take takes_cx R__law_take (da_cons (dv 0) (da_cons d_int da_nil))) d_int) (de_call D__law_pick takes_cx R__law_pick (da_cons (dv 0) (da_cons (de_lst false (da_cons d_int (da_cons d_int (da_cons d_int da_nil)))) da_nil))) (de_call D__law_take takes_cx R__law_take (da_cons (dv 0) (da_cons d_int da_nil)))) da_nil) m_range) (fun _ _ _ _ _ => (dg_name 2 nd)) (fun _ _ _ _ _ => dts_nil) (fun _ _ _ _ _ => (de_call D__law_pick takes0 R__law_pick (da_cons (dv 0) (da_cons (dv 1) da_nil))))) da_nil)))))
noncomputable def t__law_word_right (s__law_word s__law_take s__law_pick s__law_asked s__law_same s_scattered s_turned s__law_scattered : Pro) : DTS := (dSeq (dSet 2 (dCall s__law_word (dCons (dVar 0) dNil))) (dSeq (dFor (diR1 (dCons (dC (.int 4)) dNil)) (dgName 3) (dSeq (dSet 4 (dLc false [5] (diR1 (dCons (dCall s__law_take (dCons (dVar 0) (dCons (dC (.int 5)) dNil))) dNil)) (dgName 5) dYes (dCall s__law_pick (dCons (dVar 0) (dCons (dOp (rAddD false) (dCB (rListD false) (dCons (dVar 2) dNil)) (dLst false (dCons (dC (.int 3)) (dCons (dC (.int 0)) (dCons (dOp rPowD (dC (.int 10)) (dC (.int 15))) (dCons (dC (.int 1001)) dNil)))))) dNil))))) (dSeq (dSet 6 (dIte (dB (dOp (rEqD false) (dCall s__law_take (dCons (dVar 0) (dCons (dC (.int 2)) dNil))) (dC (.int 0)))) (dCB (rListD false) (dCons (dVar 4) dNil)) (dCB rTupleD (dCons (dVar 4) dNil)))) (dSeq (dSet 7 (dLst false (dCons (dCB rTupleD (dCons (dLc false [8] (diS (dVar 2)) (dgName 8) (dB (dOp (rInD true) (dVar 8) (dVar 4))) (dVar 8)) dNil)) (dCons (dCB rTupleD (dCons (dLc false [8] (diS (dVar 2)) (dgName 8) (dB (dOp (rInD false) (dVar 8) (dVar 4))) (dVar 8)) dNil)) (dCons (dRev false (dVar 2)) dNil))))) (dSeq (dSet 9 (dLc false [10] (diR1 (dCons (dC (.int 3)) dNil)) (dgName 10) dYes (dCall s__law_asked (dCons (dVar 10) (dCons (dVar 2) (dCons (dVar 6) (dCons (dOp (rEqD false) (dVar 1) (dOp (rEqD false) (dVar 10) (dC (.int 1)))) dNil))))))) (dSeq (dIf (dOr (dNot (dB (dCall s__law_same (dCons (dVar 9) (dCons (dLc false [11] (diS (dVar 7)) (dgName 11) dYes (dLst false (dCons (dC (.str "told")) (dCons (dVar 11) dNil)))) dNil))))) (dNot (dB (dCall s__law_same (dCons (dCB (rListD false) (dCons (dVar 6) dNil)) (dCons (dVar 4) dNil)))))) (dRet (dC (.bl false))) dNext) (dSeq (dSet 12 (dLc false [10] (diR1 (dCons (dC (.int 2)) dNil)) (dgName 10) dYes (dCall s__law_asked (dCons (dVar 10) (dCons (dVar 2) (dCons (dOp (rAddD false) (dRev false (dVar 4)) (dVar 4)) (dCons (dVar 1) dNil))))))) (dSeq (dIf (dNot (dB (dCall s__law_same (dCons (dVar 12) (dCons (dSl false (dVar 9) dNoP (dP (dC (.int 2)))) dNil))))) (dRet (dC (.bl false))) dNext) (dSet 1 (dNotV (dVar 1))))))))))) (dSeq (dSet 13 (dSl false (dVar 2) dNoP (dP (dC (.int 12))))) (dSeq (dFor (diR1 (dCons (dC (.int 3)) dNil)) (dgName 3) (dSeq (dSet 14 (dCB rTupleD (dCons (dLc false [5] (diR1 (dCons (dOp (rAddD false) (dC (.int 1)) (dCall s__law_take (dCons (dVar 0) (dCons (dC (.int 3)) dNil)))) dNil)) (dgName 5) dYes (dCall s__law_pick (dCons (dVar 0) (dCons (dOp (rAddD false) (dCB (rListD false) (dCons (dVar 13) dNil)) (dLst false (dCons (dC (.int 0)) dNil))) dNil)))) dNil))) (dSeq (dSet 9 (dLst false (dCons (dCall s_scattered (dCons (dVar 14) (dCons (dVar 13) dNil))) (dCons (dCall s_scattered (dCons (dRev false (dVar 14)) (dCons (dCall s_turned (dCons (dVar 13) dNil)) dNil))) (dCons (dCall s_scattered (dCons (dCall s_turned (dCons (dVar 14) dNil)) (dCons (dCallK 0 1 [0] s_turned dNil (dCons (dVar 13) dNil)) dNil))) dNil))))) (dIf (dNot (dB (dCall s__law_same (dCons (dVar 9) (dCons (dOp (rMulD false) (dLst false (dCons (dCall s__law_scattered (dCons (dVar 14) (dCons (dVar 13) dNil))) dNil)) (dC (.int 3))) dNil))))) (dRet (dC (.bl false))) dNext)))) (dRet (dC (.bl true)))))))
theorem der__law_word_right {P : Program} {w : World} {K : Frag} {mg : Str → Option Value} {base : Heap} {f : Addr} {cdv : Value} {A : Around} {o : List Env} {s : Shared} {H : Hp} {E : XK} (hr : Room 2 (A.deeper (envOfC "_law_word_right" (defScope S__law_word_right) s.heap.objs.size f cdv))) (m_range : mg "range" = none) (m_list : mg "list" = none) (m_tuple : mg "tuple" = none) {s__law_word : Pro} {k__law_word : Nat} (D__law_word : Df P w K mg base k__law_word "_law_word" P__law_word [] s__law_word) (R__law_word : Room k__law_word (A.deeper (envOfC "_law_word_right" (defScope S__law_word_right) s.heap.objs.size f cdv))) {s__law_take : Pro} {k__law_take : Nat} (D__law_take : Df P w K mg base k__law_take "_law_take" P__law_take [] s__law_take) (R__law_take : Room k__law_take (A.deeper (envOfC "_law_word_right" (defScope S__law_word_right) s.heap.objs.size f cdv))) {s__law_pick : Pro} {k__law_pick : Nat} (D__law_pick : Df P w K mg base k__law_pick "_law_pick" P__law_pick [] s__law_pick) (R__law_pick : Room k__law_pick (A.deeper (envOfC "_law_word_right" (defScope S__law_word_right) s.heap.objs.size f cdv))) {s__law_asked : Pro} {k__law_asked : Nat} (D__law_asked : Df P w K mg base k__law_asked "_law_asked" P__law_asked [] s__law_asked) (R__law_asked : Room k__law_asked (A.deeper (envOfC "_law_word_right" (defScope S__law_word_right) s.heap.objs.size f cdv))) {s__law_same : Pro} {k__law_same : Nat} (D__law_same : Df P w K mg base k__law_same "_law_same" P__law_same [] s__law_same) (R__law_same : Room k__law_same (A.deeper (envOfC "_law_word_right" (defScope S__law_word_right) s.heap.objs.size f cdv))) {s_scattered : Pro} {k_scattered : Nat} (D_scattered : Df P w K mg base k_scattered "scattered" P_scattered [] s_scattered) (R_scattered : Room k_scattered (A.deeper (envOfC "_law_word_right" (defScope S__law_word_right) s.heap.objs.size f cdv))) {s_turned : Pro} {k_turned : Nat} (D_turned : Df P w K mg base k_turned "turned" P_turned [(0, ["word"], [0])] s_turned) (R_turned : Room k_turned (A.deeper (envOfC "_law_word_right" (defScope S__law_word_right) s.heap.objs.size f cdv))) {s__law_scattered : Pro} {k__law_scattered : Nat} (D__law_scattered : Df P w K mg base k__law_scattered "_law_scattered" P__law_scattered [] s__law_scattered) (R__law_scattered : Room k__law_scattered (A.deeper (envOfC "_law_word_right" (defScope S__law_word_right) s.heap.objs.size f cdv))) :
    DSs (cxD P w K mg base N__law_word_right "_law_word_right" (defScope S__law_word_right) f cdv A o s H E) (WXE E) (defBody S__law_word_right) (t__law_word_right s__law_word s__law_take s__law_pick s__law_asked s__law_same s_scattered s_turned s__law_scattered) :=
  have nd : List.Nodup N__law_word_right := sc__law_word_right.nd
  (dss_cons (ds_set 2 nd (de_call D__law_word takes_cx R__law_word (da_cons (dv 0) da_nil))) (dss_cons (ds_for [3] passes_cx rfl (di_range1 (da_cons d_int da_nil) m_range) (dg_name 3 nd) (dss_cons (ds_set 4 nd (de_lc false rfl nd [("k", 5)] (blkOk_by (by kernel_rfl)) (di_range1 (da_cons (de_call D__law_take takes_cx R__law_take (da_cons (dv 0) (da_cons d_int da_nil))) da_nil) m_range) (fun _ _ _ _ _ => (dg_name 5 nd)) (fun _ _ _ _ _ => dts_nil) (fun _ _ _ _ _ => (de_call D__law_pick takes0 R__law_pick (da_cons (dv 0) (da_cons (de_add false (de_callTy call_list_of (cd_list (m := false)) m_list boot_list (da_cons (dv 2) da_nil)) (de_lst false (da_cons d_int (da_cons d_int (da_cons (de_pow d_int d_int) (da_cons d_int da_nil)))))) da_nil)))))) (dss_cons (ds_set 6 nd (de_ite (dt_eq (hu_of hr) (de_call D__law_take takes_cx R__law_take (da_cons (dv 0) (da_cons d_int da_nil))) d_int) (de_callTy call_list_of (cd_list (m := false)) m_list boot_list (da_cons (dv 4) da_nil)) (de_callTy call_tuple_of cd_tuple m_tuple boot_tuple (da_cons (dv 4) da_nil)))) (dss_cons (ds_set 7 nd (de_lst false (da_cons (de_callTy call_tuple_of cd_tuple m_tuple boot_tuple (da_cons (de_lc false rfl nd [("letter", 8)] (blkOk_by (by kernel_rfl)) (di_seq (dv 2)) (fun _ _ _ _ _ => (dg_name 8 nd)) (fun _ _ _ _ _ => (dts_one (dt_notin (hu_of hr) (dv 8) (dv 4)))) (fun _ _ _ _ _ => (dv 8))) da_nil)) (da_cons (de_callTy call_tuple_of cd_tuple m_tuple boot_tuple (da_cons (de_lc false rfl nd [("letter", 8)] (blkOk_by (by kernel_rfl)) (di_seq (dv 2)) (fun _ _ _ _ _ => (dg_name 8 nd)) (fun _ _ _ _ _ => (dts_one (dt_in (hu_of hr) (dv 8) (dv 4)))) (fun _ _ _ _ _ => (dv 8))) da_nil)) (da_cons (de_rev false (dv 2)) da_nil))))) (dss_cons (ds_setLc false 9 rfl nd [("way", 10)] (blkOk_by (by kernel_rfl)) (di_range1 (da_cons d_int da_nil) m_range) (fun _ _ _ _ _ => (dg_name 10 nd)) (fun _ _ _ _ _ => dts_nil) (fun _ _ _ _ _ => (de_call D__law_asked takes0 R__law_asked (da_cons (dv 10) (da_cons (dv 2) (da_cons (dv 6) (da_cons (de_eq (hu_of hr) (dv 1) (de_eq (hu_of hr) (dv 10) d_int)) da_nil))))))) (dss_cons (ds_if (DW.dt (dw_or (dt_not (dt_val (de_call D__law_same takes_cx R__law_same (da_cons (dv 9) (da_cons (de_lc false rfl nd [("one", 11)] (blkOk_by (by kernel_rfl)) (di_seq (dv 7)) (fun _ _ _ _ _ => (dg_name 11 nd)) (fun _ _ _ _ _ => dts_nil) (fun _ _ _ _ _ => (de_lst false (da_cons d_str (da_cons (dv 11) da_nil))))) da_nil))))) (dw_or1 (dt_not (dt_val (de_call D__law_same takes_cx R__law_same (da_cons (de_callTy call_list_of (cd_list (m := false)) m_list boot_list (da_cons (dv 6) da_nil)) (da_cons (dv 4) da_nil)))))))) (dss_one (ds_ret d_bl)) dss_nil) (dss_cons (ds_setLc false 12 rfl nd [("way", 10)] (blkOk_by (by kernel_rfl)) (di_range1 (da_cons d_int da_nil) m_range) (fun _ _ _ _ _ => (dg_name 10 nd)) (fun _ _ _ _ _ => dts_nil) (fun _ _ _ _ _ => (de_call D__law_asked takes0 R__law_asked (da_cons (dv 10) (da_cons (dv 2) (da_cons (de_add false (de_rev false (dv 4)) (dv 4)) (da_cons (dv 1) da_nil))))))) (dss_cons (ds_if (dt_not (dt_val (de_call D__law_same takes_cx R__law_same (da_cons (dv 12) (da_cons (de_sl false (dv 9) do_none (do_some d_int)) da_nil))))) (dss_one (ds_ret d_bl)) dss_nil) (dss_one (ds_set 1 nd (de_not (dv 1)))))))))))) (dss_cons (ds_set 13 nd (de_sl false (dv 2) do_none (do_some d_int))) (dss_cons (ds_for [3] passes_cx rfl (di_range1 (da_cons d_int da_nil) m_range) (dg_name 3 nd) (dss_cons (ds_set 14 nd (de_callTy call_tuple_of cd_tuple m_tuple boot_tuple (da_cons (de_lc false rfl nd [("k", 5)] (blkOk_by (by kernel_rfl)) (di_range1 (da_cons (de_add false d_int (de_call D__law_take takes_cx R__law_take (da_cons (dv 0) (da_cons d_int da_nil)))) da_nil) m_range) (fun _ _ _ _ _ => (dg_name 5 nd)) (fun _ _ _ _ _ => dts_nil) (fun _ _ _ _ _ => (de_call D__law_pick takes0 R__law_pick (da_cons (dv 0) (da_cons (de_add false (de_callTy call_list_of (cd_list (m := false)) m_list boot_list (da_cons (dv 13) da_nil)) (de_lst false (da_cons d_int da_nil))) da_nil))))) da_nil))) (dss_cons (ds_set 9 nd (de_lst false (da_cons (de_call D_scattered takes_cx R_scattered (da_cons (dv 14) (da_cons (dv 13) da_nil))) (da_cons (de_call D_scattered takes_cx R_scattered (da_cons (de_rev false (dv 14)) (da_cons (de_call D_turned takes_cx R_turned (da_cons (dv 13) da_nil)) da_nil))) (da_cons (de_call D_scattered takes_cx R_scattered (da_cons (de_call D_turned takes_cx R_turned (da_cons (dv 14) da_nil)) (da_cons (de_callK0 (q := (0, ["word"], [0])) D_turned List.mem_cons_self takes_cx R_turned (dk_cons (dv 13) dk_nil)) da_nil))) da_nil))))) (dss_one (ds_if (dt_not (dt_val (de_call D__law_same takes_cx R__law_same (da_cons (dv 9) (da_cons (de_mul false (de_lst false (da_cons (de_call D__law_scattered takes_cx R__law_scattered (da_cons (dv 14) (da_cons (dv 13) da_nil))) da_nil)) d_int) da_nil))))) (dss_one (ds_ret d_bl)) dss_nil))))) (dss_one (ds_ret d_bl))))))
noncomputable def t__law_wrong_right (s__law_copy s__law_asked s__law_very : Pro) : DTS := (dSeq (dFor (diS (dLst false (dCons (dC .non) (dCons (dC (.int 7)) (dCons (dC (.str "01")) (dCons (dLst false (dCons (dC (.int 0)) (dCons (dC (.int 1)) dNil))) (dCons (dTup (dCons (dC (.int 0)) (dCons (dNeg (dC (.int 1))) dNil))) (dCons (dTup (dCons (dC (.int 0)) (dCons (dC (.bl true)) dNil))) (dCons (dTup (dCons (dC (.int 0)) (dCons (dC .non) dNil))) (dCons (dTup (dCons (dC (.int 0)) (dCons (dC (.str "1")) dNil))) (dCons (dTup (dCons (dTup (dCons (dC (.int 0)) dNil)) (dCons (dC (.int 1)) dNil))) (dCons (dTup (dCons (dC (.int 1001)) dNil)) (dCons (dOp (rMulD false) (dTup (dCons (dC (.int 0)) dNil)) (dC (.int 101))) (dCons (dDic0 true 0) (dCons (dC (.bl true)) dNil))))))))))))))) (dgName 2) (dFor (diR1 (dCons (dC (.int 3)) dNil)) (dgName 3) (dSeq (dSet 4 (dCall s__law_copy (dCons (dVar 2) dNil))) (dSeq (dSet 5 (dCall s__law_asked (dCons (dVar 3) (dCons (dVar 4) (dCons (dC .non) (dCons (dVar 1) dNil)))))) (dSeq (dIf (dOr (dB (dOp (rEqD true) (dOp rIxD (dVar 5) (dC (.int 0))) (dC (.str "word")))) (dNot (dB (dCall s__law_very (dCons (dOp rIxD (dVar 5) (dC (.int 1))) (dCons (dVar 4) dNil)))))) (dRet (dC (.bl false))) dNext) (dSet 1 (dNotV (dVar 1)))))))) (dSeq (dFor (diS (dLst false (dCons (dC .non) (dCons (dC (.int 7)) (dCons (dC (.str "01")) (dCons (dDic0 true 0) (dCons (dLst false (dCons (dC (.int 0)) (dCons (dNeg (dC (.int 1))) dNil))) (dCons (dLst false (dCons (dC (.bl true)) dNil)) (dCons (dTup (dCons (dC (.int 0)) (dCons (dC .non) dNil))) (dCons (dLst false (dCons (dC (.str "1")) dNil)) (dCons (dLst false (dCons (dLst false (dCons (dC (.int 0)) dNil)) dNil)) (dCons (dTup (dCons (dTup (dCons (dC (.int 0)) dNil)) dNil)) (dCons (dLst false (dCons (dC (.int 0)) (dCons (dC (.int 1)) (dCons (dC (.str "x")) dNil)))) (dCons (dC (.bl true)) dNil)))))))))))))) (dgName 2) (dFor (diR1 (dCons (dC (.int 2)) dNil)) (dgName 3) (dSeq (dSet 4 (dCall s__law_copy (dCons (dVar 2) dNil))) (dSeq (dSet 5 (dCall s__law_asked (dCons (dVar 3) (dCons (dTup (dCons (dC (.int 0)) (dCons (dC (.int 1)) dNil))) (dCons (dVar 4) (dCons (dVar 1) dNil)))))) (dSeq (dIf (dOr (dB (dOp (rEqD true) (dOp rIxD (dVar 5) (dC (.int 0))) (dC (.str "letters")))) (dNot (dB (dCall s__law_very (dCons (dOp rIxD (dVar 5) (dC (.int 1))) (dCons (dVar 4) dNil)))))) (dRet (dC (.bl false))) dNext) (dSet 1 (dNotV (dVar 1)))))))) (dRet (dC (.bl true)))))
theorem der__law_wrong_right {P : Program} {w : World} {K : Frag} {mg : Str → Option Value} {base : Heap} {f : Addr} {cdv : Value} {A : Around} {o : List Env} {s : Shared} {H : Hp} {E : XK} (hr : Room 2 (A.deeper (envOfC "_law_wrong_right" (defScope S__law_wrong_right) s.heap.objs.size f cdv))) (m_range : mg "range" = none) {s__law_copy : Pro} {k__law_copy : Nat} (D__law_copy : Df P w K mg base k__law_copy "_law_copy" P__law_copy [] s__law_copy) (R__law_copy : Room k__law_copy (A.deeper (envOfC "_law_wrong_right" (defScope S__law_wrong_right) s.heap.objs.size f cdv))) {s__law_asked : Pro} {k__law_asked : Nat} (D__law_asked : Df P w K mg base k__law_asked "_law_asked" P__law_asked [] s__law_asked) (R__law_asked : Room k__law_asked (A.deeper (envOfC "_law_wrong_right" (defScope S__law_wrong_right) s.heap.objs.size f cdv))) {s__law_very : Pro} {k__law_very : Nat} (D__law_very : Df P w K mg base k__law_very "_law_very" P__law_very [] s__law_very) (R__law_very : Room k__law_very (A.deeper (envOfC "_law_wrong_right" (defScope S__law_wrong_right) s.heap.objs.size f cdv))) :
    DSs (cxD P w K mg base N__law_wrong_right "_law_wrong_right" (defScope S__law_wrong_right) f cdv A o s H E) (WXE E) (defBody S__law_wrong_right) (t__law_wrong_right s__law_copy s__law_asked s__law_very) :=
  have nd : List.Nodup N__law_wrong_right := sc__law_wrong_right.nd
  (dss_cons (ds_for [2] passes_cx rfl (di_seq (de_lst false (da_cons d_non (da_cons d_int (da_cons d_str (da_cons (de_lst false (da_cons d_int (da_cons d_int da_nil))) (da_cons (de_tup (da_cons d_int (da_cons (de_neg d_int) da_nil))) (da_cons (de_tup (da_cons d_int (da_cons d_bl da_nil))) (da_cons (de_tup (da_cons d_int (da_cons d_non da_nil))) (da_cons (de_tup (da_cons d_int (da_cons d_str da_nil))) (da_cons (de_tup (da_cons (de_tup (da_cons d_int da_nil)) (da_cons d_int da_nil))) (da_cons (de_tup (da_cons d_int da_nil)) (da_cons (de_mul false (de_tup (da_cons d_int da_nil)) d_int) (da_cons (de_dic0 true) (da_cons d_bl da_nil))))))))))))))) (dg_name 2 nd) (dss_one (ds_for [3] passes_cx rfl (di_range1 (da_cons d_int da_nil) m_range) (dg_name 3 nd) (dss_cons (ds_set 4 nd (de_call D__law_copy takes_cx R__law_copy (da_cons (dv 2) da_nil))) (dss_cons (ds_set 5 nd (de_call D__law_asked takes_cx R__law_asked (da_cons (dv 3) (da_cons (dv 4) (da_cons d_non (da_cons (dv 1) da_nil)))))) (dss_cons (ds_if (DW.dt (dw_or (dt_ne (hu_of hr) (de_ix (hu_of hr) (dv 5) d_int) d_str) (dw_or1 (dt_not (dt_val (de_call D__law_very takes_cx R__law_very (da_cons (de_ix (hu_of hr) (dv 5) d_int) (da_cons (dv 4) da_nil)))))))) (dss_one (ds_ret d_bl)) dss_nil) (dss_one (ds_set 1 nd (de_not (dv 1)))))))))) (dss_cons (ds_for [2] passes_cx rfl (di_seq (de_lst false (da_cons d_non (da_cons d_int (da_cons d_str (da_cons (de_dic0 true) (da_cons (de_lst false (da_cons d_int (da_cons (de_neg d_int) da_nil))) (da_cons (de_lst false (da_cons d_bl da_nil)) (da_cons (de_tup (da_cons d_int (da_cons d_non da_nil))) (da_cons (de_lst false (da_cons d_str da_nil)) (da_cons (de_lst false (da_cons (de_lst false (da_cons d_int da_nil)) da_nil)) (da_cons (de_tup (da_cons (de_tup (da_cons d_int da_nil)) da_nil)) (da_cons (de_lst false (da_cons d_int (da_cons d_int (da_cons d_str da_nil)))) (da_cons d_bl da_nil)))))))))))))) (dg_name 2 nd) (dss_one (ds_for [3] passes_cx rfl (di_range1 (da_cons d_int da_nil) m_range) (dg_name 3 nd) (dss_cons (ds_set 4 nd (de_call D__law_copy takes_cx R__law_copy (da_cons (dv 2) da_nil))) (dss_cons (ds_set 5 nd (de_call D__law_asked takes_cx R__law_asked (da_cons (dv 3) (da_cons (de_tup (da_cons d_int (da_cons d_int da_nil))) (da_cons (dv 4) (da_cons (dv 1) da_nil)))))) (dss_cons (ds_if (DW.dt (dw_or (dt_ne (hu_of hr) (de_ix (hu_of hr) (dv 5) d_int) d_str) (dw_or1 (dt_not (dt_val (de_call D__law_very takes_cx R__law_very (da_cons (de_ix (hu_of hr) (dv 5) d_int) (da_cons (dv 4) da_nil)))))))) (dss_one (ds_ret d_bl)) dss_nil) (dss_one (ds_set 1 nd (de_not (dv 1)))))))))) (dss_one (ds_ret d_bl))))
noncomputable def t_law (s__law_box s__law_cell s__law_word_right s__law_take s__law_wrong_right : Pro) : DTS := (dSeq (dFor (diR1 (dCons (dCB rMax2D (dCons (dC (.int 2)) (dCons (dCB rMin2D (dCons (dC (.int 5)) (dCons (dCB rLenD (dCons (dVar 0) dNil)) dNil))) dNil))) dNil)) (dgName 1) (dSeq (dSet 2 (dCall s__law_box (dCons (dCall s__law_cell (dCons (dVar 0) (dCons (dVar 1) dNil))) dNil))) (dIf (dOr (dNot (dB (dCall s__law_word_right (dCons (dVar 2) (dCons (dOp (rEqD false) (dCall s__law_take (dCons (dVar 2) (dCons (dC (.int 2)) dNil))) (dC (.int 0))) dNil))))) (dNot (dB (dCall s__law_wrong_right (dCons (dVar 2) (dCons (dOp (rEqD false) (dCall s__law_take (dCons (dVar 2) (dCons (dC (.int 2)) dNil))) (dC (.int 0))) dNil)))))) (dRet (dC (.bl false))) dNext))) (dRet (dC (.bl true))))
theorem der_law {P : Program} {w : World} {K : Frag} {mg : Str → Option Value} {base : Heap} {f : Addr} {cdv : Value} {A : Around} {o : List Env} {s : Shared} {H : Hp} {E : XK} (hr : Room 2 (A.deeper (envOfC "law" (defScope S_law) s.heap.objs.size f cdv))) (m_len : mg "len" = none) (m_min : mg "min" = none) (m_max : mg "max" = none) (m_range : mg "range" = none) {s__law_box : Pro} {k__law_box : Nat} (D__law_box : Df P w K mg base k__law_box "_law_box" P__law_box [] s__law_box) (R__law_box : Room k__law_box (A.deeper (envOfC "law" (defScope S_law) s.heap.objs.size f cdv))) {s__law_cell : Pro} {k__law_cell : Nat} (D__law_cell : Df P w K mg base k__law_cell "_law_cell" P__law_cell [] s__law_cell) (R__law_cell : Room k__law_cell (A.deeper (envOfC "law" (defScope S_law) s.heap.objs.size f cdv))) {s__law_word_right : Pro} {k__law_word_right : Nat} (D__law_word_right : Df P w K mg base k__law_word_right "_law_word_right" P__law_word_right [] s__law_word_right) (R__law_word_right : Room k__law_word_right (A.deeper (envOfC "law" (defScope S_law) s.heap.objs.size f cdv))) {s__law_take : Pro} {k__law_take : Nat} (D__law_take : Df P w K mg base k__law_take "_law_take" P__law_take [] s__law_take) (R__law_take : Room k__law_take (A.deeper (envOfC "law" (defScope S_law) s.heap.objs.size f cdv))) {s__law_wrong_right : Pro} {k__law_wrong_right : Nat} (D__law_wrong_right : Df P w K mg base k__law_wrong_right "_law_wrong_right" P__law_wrong_right [] s__law_wrong_right) (R__law_wrong_right : Room k__law_wrong_right (A.deeper (envOfC "law" (defScope S_law) s.heap.objs.size f cdv))) :
    DSs (cxD P w K mg base N_law "law" (defScope S_law) f cdv A o s H E) (WXE E) (defBody S_law) (t_law s__law_box s__law_cell s__law_word_right s__law_take s__law_wrong_right) :=
  have nd : List.Nodup N_law := sc_law.nd
  (dss_cons (ds_for [1] passes_cx rfl (di_range1 (da_cons (de_callB (call_max2 rfl) cd_max2 m_max boot_max (da_cons d_int (da_cons (de_callB (call_min2 rfl) cd_min2 m_min boot_min (da_cons d_int (da_cons (de_callB call_lenV cd_len m_len boot_len (da_cons (dv 0) da_nil)) da_nil))) da_nil))) da_nil) m_range) (dg_name 1 nd) (dss_cons (ds_set 2 nd (de_call D__law_box takes_cx R__law_box (da_cons (de_call D__law_cell takes_cx R__law_cell (da_cons (dv 0) (da_cons (dv 1) da_nil))) da_nil))) (dss_one (ds_if (DW.dt (dw_or (dt_not (dt_val (de_call D__law_word_right takes_cx R__law_word_right (da_cons (dv 2) (da_cons (de_eq (hu_of hr) (de_call D__law_take takes_cx R__law_take (da_cons (dv 2) (da_cons d_int da_nil))) d_int) da_nil))))) (dw_or1 (dt_not (dt_val (de_call D__law_wrong_right takes_cx R__law_wrong_right (da_cons (dv 2) (da_cons (de_eq (hu_of hr) (de_call D__law_take takes_cx R__law_take (da_cons (dv 2) (da_cons d_int da_nil))) d_int) da_nil)))))))) (dss_one (ds_ret d_bl)) dss_nil)))) (dss_one (ds_ret d_bl)))
end k02
end DL
set_option Elab.async false
set_option linter.all false
namespace DL
namespace k02
open PySem PySem.Spec PyProof.Rows L2
def isInt : D → Bool
  | .int _ => true
  | _ => false
theorem ok_pro {n : Nat} {A : Type} {ds : A → List D} {C : A → DHp → Prop} : True := trivial
def sd_is_integer : Pro := fun ds G Q _ => ∃ d t, ds = [d] ∧ btyp G d = some t ∧ Q (.bl (isInt d)) G
theorem pure_is_integer (ds : List D) (G : DHp) (Q : DK) (E : DXK) (h : sd_is_integer ds G Q E) : t_is_integer (dEnd Q E) (startD N_is_integer ds) G := by
  obtain ⟨d, t, rfl, ht, hq⟩ := h
  show t_is_integer (dEnd Q E) [some d] G
  simp [t_is_integer, ht]
  cases d with
  | int i => simp at ht; subst ht; simp [bsub]; exact hq
  | bl i => simp at ht; subst ht; simp [bsub]; exact hq
  | ref a =>
    simp only [btyp] at ht
    split at ht <;> first | (cases ht; simp [bsub]; exact hq) | cases ht
  | dic t _ _ =>
    cases t with
    | zero => cases ht; simp [bsub]; exact hq
    | succ n => cases ht
  | _ => first | (cases ht; simp [bsub]; exact hq) | cases ht
/-- low <= value <= high -/
def betw (d : D) (lo hi : Int) : Bool := match d with
  | .int i => decide (lo ≤ i) && decide (i ≤ hi)
  | _ => false
def sd_is_between : Pro := fun ds G Q _ => ∃ d t lo hi, ds = [d, .int lo, .int hi] ∧ btyp G d = some t ∧ Q (.bl (betw d lo hi)) G
theorem pure_is_between (ds : List D) (G : DHp) (Q : DK) (E : DXK) (h : sd_is_between ds G Q E) : t_is_between sd_is_integer (dEnd Q E) (startD N_is_between ds) G := by
  obtain ⟨d, t, lo, hi, rfl, ht, hq⟩ := h
  show t_is_between sd_is_integer (dEnd Q E) [some d, some (.int lo), some (.int hi)] G
  simp [t_is_between]
  refine ⟨d, t, rfl, ht, ?_⟩
  cases d with
  | int i =>
    simp [isInt]
    by_cases c : lo ≤ i
    · simp [c]; simpa [betw, c] using hq
    · simp [c]; simpa [betw, c] using hq
  | _ => simpa [isInt, betw] using hq

theorem btyp_upd {G : DHp} {p : Addr} {o : DO} {d : D} {t : String} (hp : G p = none) (h : btyp G d = some t) : btyp (updD G p o) d = some t := by
  cases d with
  | ref a =>
    have ne : a ≠ p := fun z => by
      subst z
      simp only [btyp, hp] at h
      cases h
    simp only [btyp, updD_ne ne] at h ⊢
    exact h
  | dic n _ _ => cases n <;> exact h
  | _ => exact h
theorem l16 : sizeLine = 16777216 := sizeLine_eq
def isWord : D → Bool
  | .tup xs => decide (xs.length ≤ 100) && xs.all fun x => betw x 0 1000
  | _ => false
/-- a value that may be asked anything -/
def Pl (G : DHp) (d : D) : Prop := (∃ t, btyp G d = some t) ∧ (∀ xs, d ≠ .ktp xs) ∧ ∀ xs, d = .tup xs → ∀ x ∈ xs, ∃ t, btyp G x = some t
theorem bsub_tup {G : DHp} {d : D} {t : String} (h : btyp G d = some t) (hk : ∀ xs, d ≠ .ktp xs) : (bsub t "tuple" = true ∧ ∃ xs, d = .tup xs) ∨ (bsub t "tuple" = false ∧ ∀ xs, d ≠ .tup xs) := by
  cases d with
  | tup xs => cases h; exact .inl ⟨by decide, xs, rfl⟩
  | ktp xs => exact absurd rfl (hk xs)
  | ref a =>
    refine .inr ⟨?_, fun xs => by simp⟩
    simp only [btyp] at h
    split at h <;> first | (cases h; decide) | cases h
  | dic n _ _ =>
    cases n with
    | zero => cases h; exact .inr ⟨by decide, fun xs => by simp⟩
    | succ n => cases h
  | _ => first | (cases h; exact .inr ⟨by decide, fun xs => by simp⟩) | cases h
def sd_is_word : Pro := fun ds G Q _ => ∃ d, ds = [d] ∧ Pl G d ∧ Q (.bl (isWord d)) G
theorem pure_is_word (ds : List D) (G : DHp) (Q : DK) (E : DXK) (h : sd_is_word ds G Q E) : t_is_word (.int 100) (.int 1000) sd_is_between (dEnd Q E) (startD N_is_word ds) G := by
  obtain ⟨d, rfl, ⟨⟨t, ht⟩, hk, hx⟩, hq⟩ := h
  show t_is_word (.int 100) (.int 1000) sd_is_between (dEnd Q E) [some d, none] G
  simp [t_is_word, ht]
  rcases bsub_tup ht hk with ⟨hb, xs, rfl⟩ | ⟨hb, hn⟩
  · simp [hb]
    by_cases c : (100 : Int) < xs.length
    · rw [if_pos c]
      have : isWord (.tup xs) = false := by simp [isWord]; omega
      rw [this] at hq
      exact hq
    · rw [if_neg c]
      intro p hp
      refine lc_map (fun x => .bl (betw x 0 1000)) hp (fun _ => gdS_t) (fun x hm acc Q' q => ?_) (by rw [l16]; omega) ?_
      · obtain ⟨t', ht'⟩ := hx xs rfl x hm
        exact ⟨x, t', 0, 1000, rfl, btyp_upd hp ht', q⟩
      · have e : xs.map (fun x => D.bl (betw x 0 1000)) = (xs.map fun x => betw x 0 1000).map D.bl := by rw [List.map_map]; rfl
        simp only [s_mkLf]
        rw [e, s_allL]
        have e2 : isWord (.tup xs) = (xs.map fun x => betw x 0 1000).all id := by
          simp [isWord, List.all_map]
          omega
        rw [e2] at hq
        exact hq
  · simp [hb]
    have : isWord d = false := by
      cases d <;> first | rfl | exact absurd rfl (hn _)
    rw [this] at hq
    exact hq
def sd_need_word : Pro := fun ds G Q E => ∃ d, ds = [d] ∧ Pl G d ∧ (isWord d = true → Q .non G) ∧ (isWord d = false → E "InvalidWord" [("given", d)] G)
theorem pure_need_word (ds : List D) (G : DHp) (Q : DK) (E : DXK) (h : sd_need_word ds G Q E) : t_need_word sd_is_word (dEnd Q E) (startD N_need_word ds) G := by
  obtain ⟨d, rfl, hp, h1, h2⟩ := h
  show t_need_word sd_is_word (dEnd Q E) [some d] G
  simp [t_need_word]
  refine ⟨d, rfl, hp, ?_⟩
  cases c : isWord d with
  | true => exact h1 c
  | false => exact h2 c

/-! ### ways: the number of ways in which a part stands scattered -/
def stepI (part : List Int) (ws : List Int) (l : Int) : List Int := ws.mapIdx fun i w => if 0 < i ∧ part[i-1]? = some l then w + ws.getD (i - 1) 0 else w
def waysI (part word : List Int) : Int := (word.foldl (stepI part) (1 :: List.replicate part.length 0)).getLastD 0
def sd_ways_of : Pro := fun ds G Q _ => ∃ part word : List Int, ds = [.tup (part.map .int), .tup (word.map .int)] ∧ part.length ≤ 1000 ∧ Q (.int (waysI part word)) G
/-- the inner loop: places n, n - 1, .. 1 done from the top -/
def inner (part : List Int) (l : Int) : Nat → List Int → List Int
  | 0, ws => ws
  | n + 1, ws => inner part l n (if part[n]? = some l then ws.set (n + 1) (ws.getD (n + 1) 0 + ws.getD n 0) else ws)
theorem inner_len (part : List Int) (l : Int) : ∀ (n : Nat) (ws : List Int), (inner part l n ws).length = ws.length
  | 0, ws => rfl
  | n + 1, ws => by
    unfold inner
    rw [inner_len]
    split
    · rw [List.length_set]
    · rfl
theorem inner_get (part : List Int) (l : Int) : ∀ (n : Nat) (ws : List Int) (i : Nat), n < ws.length → (inner part l n ws)[i]? = if 0 < i ∧ i ≤ n ∧ part[i-1]? = some l then some (ws.getD i 0 + ws.getD (i - 1) 0) else ws[i]?
  | 0, ws, i, h => by
    have : ¬ (0 < i ∧ i ≤ 0 ∧ part[i-1]? = some l) := by omega
    rw [if_neg this]
    rfl
  | n + 1, ws, i, h => by
    unfold inner
    by_cases c : part[n]? = some l
    · rw [if_pos c, inner_get part l n _ i (by rw [List.length_set]; omega)]
      by_cases ci : i = n + 1
      · subst ci
        rw [if_neg (by omega), if_pos ⟨by omega, by omega, by simpa using c⟩]
        rw [List.getElem?_set_self h]
        rfl
      · by_cases c2 : 0 < i ∧ i ≤ n ∧ part[i-1]? = some l
        · rw [if_pos c2, if_pos ⟨c2.1, by omega, c2.2.2⟩]
          have e1 : (ws.set (n + 1) (ws.getD (n + 1) 0 + ws.getD n 0)).getD i 0 = ws.getD i 0 := by
            simp only [List.getD_eq_getElem?_getD]; rw [List.getElem?_set_ne (by omega)]
          have e2 : (ws.set (n + 1) (ws.getD (n + 1) 0 + ws.getD n 0)).getD (i - 1) 0 = ws.getD (i - 1) 0 := by
            simp only [List.getD_eq_getElem?_getD]; rw [List.getElem?_set_ne (by omega)]
          rw [e1, e2]
        · rw [if_neg c2, List.getElem?_set_ne (by omega), if_neg]
          rintro ⟨z1, z2, z3⟩
          exact c2 ⟨z1, by omega, z3⟩
    · rw [if_neg c, inner_get part l n _ i (by omega)]
      by_cases c2 : 0 < i ∧ i ≤ n ∧ part[i-1]? = some l
      · rw [if_pos c2, if_pos ⟨c2.1, by omega, c2.2.2⟩]
      · rw [if_neg c2, if_neg]
        rintro ⟨z1, z2, z3⟩
        by_cases ci : i = n + 1
        · subst ci; exact c (by simpa using z3)
        · exact c2 ⟨z1, by omega, z3⟩
theorem inner_step (part : List Int) (l : Int) (ws : List Int) (h : ws.length = part.length + 1) : inner part l part.length ws = stepI part ws l := by
  apply List.ext_getElem?
  intro i
  rw [inner_get part l part.length ws i (by omega)]
  unfold stepI
  rw [List.getElem?_mapIdx]
  by_cases hi : i < ws.length
  · rw [List.getElem?_eq_getElem hi, Option.map_some]
    by_cases c : 0 < i ∧ part[i-1]? = some l
    · rw [if_pos ⟨c.1, by omega, c.2⟩, if_pos c, List.getD_eq_getElem?_getD, List.getElem?_eq_getElem hi]
      rfl
    · rw [if_neg c, if_neg]
      rintro ⟨z1, z2, z3⟩
      exact c ⟨z1, z3⟩
  · rw [List.getElem?_eq_none (l := ws) (by omega), if_neg]
    · rfl
    · rintro ⟨z1, z2, z3⟩; omega
theorem stepI_len (part ws : List Int) (l : Int) : (stepI part ws l).length = ws.length := by unfold stepI; rw [List.length_mapIdx]
theorem rng_down {n : Nat} : rngD (n + 1 : Nat) (-1) (n + 1) = .int ((n + 1 : Nat) : Int) :: rngD (n : Nat) (-1) n := by
  unfold rngD
  rw [List.range_succ_eq_map, List.map_cons, List.map_map]
  refine congr (congrArg List.cons ?_) (List.map_congr_left fun i _ => ?_)
  · simp
  · show D.int _ = D.int _
    congr 1
    simp only [Nat.succ_eq_add_one]
    omega
theorem rgC_down {n : Nat} (h : n ≤ 1000) : RgC (n : Int) 0 (-1) n := by
  have q := RgC.neg (i := (n : Int)) (j := 0) (by omega) (by omega) (by decide) (by decide)
  simpa using q
theorem int_inj {a b : Int} : (D.int a = D.int b) = (a = b) := by simp
theorem deqv_int {a b : Int} : deqv (.int a) (.int b) = decide (a = b) := by
  unfold deqv toP PyData.eqv
  first | rfl | (by_cases h : a = b <;> simp [h])

theorem atI_map {ns : List Int} {n : Nat} {v : Int} (h : ns[n]? = some v) : atI (ns.map D.int) (n : Int) = some (.int v) := by
  rw [atI_nat, List.getElem?_map, h]
  rfl
theorem map_set {ns : List Int} {n : Nat} {v : Int} : (ns.map D.int).set n (.int v) = (ns.set n v).map D.int := by rw [List.map_set]
theorem ixN_nat {m n : Nat} (h : n < m) : ixN m (n : Int) = some n := by
  unfold ixN
  rw [if_pos (by omega), if_pos (by omega)]
  simp
theorem rng_inj {n m : Nat} {lo lo' c c' : Int} (h : rngD lo c n = rngD lo' c' m) : n = m := by
  have := congrArg List.length h
  simpa [rngD] using this
theorem eq_int {x y : Int} {G : DHp} {Q : DK} : rEqD false (.int x) (.int y) G Q = Q (.bl (decide (x = y))) G := by
  unfold rEqD
  rw [s_vw (by simp), s_vw (by simp), deqv_int]
  simp [pln]
theorem ne_int {x y : Int} {G : DHp} {Q : DK} : rEqD true (.int x) (.int y) G Q = Q (.bl (!decide (x = y))) G := by
  unfold rEqD
  rw [s_vw (by simp), s_vw (by simp), deqv_int]
  simp [pln]
theorem flat_rep {n : Nat} {x : D} : (List.replicate n [x]).flatten = List.replicate n x := by
  induction n with
  | zero => rfl
  | succ n ih => rw [List.replicate_succ, List.flatten_cons, ih]; rfl
theorem rep_map {n : Nat} {x : Int} : List.replicate n (D.int x) = (List.replicate n x).map .int := by rw [List.map_replicate]
theorem pure_ways_of (ds : List D) (G : DHp) (Q : DK) (E : DXK) (h : sd_ways_of ds G Q E) : t_ways_of (dEnd Q E) (startD N_ways_of ds) G := by
  obtain ⟨part, word, rfl, hl, hq⟩ := h
  show t_ways_of (dEnd Q E) [some (.tup (part.map .int)), some (.tup (word.map .int)), none, none, none] G
  have hl16 := l16
  simp [t_ways_of]
  refine ⟨by omega, by omega, by omega, by omega, fun p hp => ?_⟩
  have e0 : D.int 1 :: List.replicate part.length (D.int 0) = (1 :: List.replicate part.length 0).map D.int := by rw [List.map_cons, List.map_replicate]
  rw [e0]
  refine forL_inv (fun xs δ G' => ∃ (ns ws : List Int) (x4 x5 : Option D), xs = ns.map .int ∧ ws.length = part.length + 1 ∧ ns.foldl (stepI part) ws = word.foldl (stepI part) (1 :: List.replicate part.length 0) ∧
    δ = [some (.tup (part.map .int)), some (.tup (word.map .int)), some (.ref p), x4, x5] ∧ G' = updD G p (.lst (ws.map .int))) (fun _ _ _ _ => gdS_t) ?_ ?_ _ _ _ ⟨word, _, none, none, rfl, by simp, rfl, rfl, rfl⟩
  · rintro δ G' ⟨ns, ws, x4, x5, h1, h2, h3, rfl, rfl⟩
    have : ns = [] := by simpa using h1.symm
    subst this
    have h3 : ws = word.foldl (stepI part) (1 :: List.replicate part.length 0) := h3
    obtain ⟨w0, wl, rfl⟩ : ∃ w0 wl, ws = w0 ++ [wl] := by
      rcases List.eq_nil_or_concat ws with e | ⟨w0, wl, e⟩
      · subst e; simp at h2
      · exact ⟨w0, wl, by simpa using e⟩
    have ea : atI (w0.map D.int ++ [D.int wl]) (-1) = some (.int wl) := atI_last
    simp [ea]
    rw [delD_updD hp]
    have : waysI part word = wl := by unfold waysI; rw [← h3]; simp
    rw [← this]
    exact hq
  · rintro x xs δ G' ⟨ns, ws, x4, x5, h1, h2, h3, rfl, rfl⟩ N hN
    obtain ⟨n, ns', rfl⟩ : ∃ n ns', ns = n :: ns' := by
      cases ns with
      | nil => simp at h1
      | cons n ns' => exact ⟨n, ns', rfl⟩
    rw [List.map_cons] at h1
    injection h1 with h1 h1'
    subst h1 h1'
    simp
    refine ⟨part.length, rgC_down hl, ?_⟩
    refine forL_inv (fun xs δ G' => ∃ (k : Nat) (vs : List Int) (x5 : Option D), xs = rngD k (-1) k ∧ k ≤ part.length ∧ vs.length = part.length + 1 ∧ inner part n k vs = stepI part ws n ∧
      δ = [some (.tup (part.map .int)), some (.tup (word.map .int)), some (.ref p), some (.int n), x5] ∧ G' = updD G p (.lst (vs.map .int))) (fun _ _ _ _ => gdT_) ?_ ?_ _ _ _ ⟨part.length, ws, x5, rfl, Nat.le_refl _, h2, inner_step part n ws h2, rfl, rfl⟩
    · rintro δ G' ⟨k, vs, x5, k1, k2, k3, k4, rfl, rfl⟩
      have : k = 0 := by have := congrArg List.length k1; simpa [rngD] using this.symm
      subst this
      refine hN _ _ ⟨ns', vs, some (.int n), x5, rfl, k3, ?_, rfl, rfl⟩
      have k4 : vs = stepI part ws n := k4
      rw [k4]
      exact h3
    · rintro x xs δ G' ⟨k, vs, x5, k1, k2, k3, k4, rfl, rfl⟩ N' hN'
      obtain ⟨k, rfl⟩ : ∃ j, k = j + 1 := by
        cases k with
        | zero => simp [rngD] at k1
        | succ j => exact ⟨j, rfl⟩
      rw [rng_down] at k1
      injection k1 with k1 k1'
      subst k1 k1'
      have hk : k < part.length := by omega
      have ea : atI (part.map D.int) (k : Int) = some (.int part[k]) := atI_map (List.getElem?_eq_getElem hk)
      simp [ea, eq_int]
      unfold inner at k4
      by_cases c : part[k] = n
      · have c' : part[k]? = some n := by rw [List.getElem?_eq_getElem hk, c]
        rw [if_pos c'] at k4
        simp [c]
        have i1 : ixN (part.length + 1) ((k : Int) + 1) = some (k + 1) := by
          have := ixN_nat (m := part.length + 1) (n := k + 1) (by omega)
          push_cast at this
          exact this
        have ea2 : atI (vs.map D.int) (k : Int) = some (.int (vs.getD k 0)) := atI_map (by rw [List.getD_eq_getElem?_getD, List.getElem?_eq_getElem (by omega)]; rfl)
        refine ⟨k + 1, by rw [k3]; exact i1, vs.getD (k + 1) 0, ?_, ?_⟩
        · rw [List.getElem?_eq_getElem (by omega), List.getD_eq_getElem?_getD, List.getElem?_eq_getElem (by omega)]
          simp
        · simp [ea2]
          refine ⟨by rw [k3]; exact i1, ?_⟩
          rw [← List.map_set]
          exact hN' _ _ ⟨k, _, _, rfl, by omega, by rw [List.length_set]; exact k3, k4, rfl, rfl⟩
      · have c' : ¬ part[k]? = some n := by rw [List.getElem?_eq_getElem hk]; simpa using c
        rw [if_neg c'] at k4
        simp [c]
        exact hN' _ _ ⟨k, vs, _, rfl, by omega, k3, k4, rfl, rfl⟩

theorem isWord_of {d : D} (h : isWord d = true) : ∃ ns : List Int, d = .tup (ns.map .int) ∧ ns.length ≤ 100 ∧ ∀ n ∈ ns, 0 ≤ n ∧ n ≤ 1000 := by
  cases d with
  | tup xs =>
    simp only [isWord, Bool.and_eq_true, decide_eq_true_eq] at h
    obtain ⟨h1, h2⟩ := h
    have main : ∀ xs : List D, (xs.all fun x => betw x 0 1000) = true → ∃ ns : List Int, xs = ns.map .int ∧ ∀ n ∈ ns, 0 ≤ n ∧ n ≤ 1000 := by
      intro xs
      induction xs with
      | nil => intro _; exact ⟨[], rfl, fun n hn => by cases hn⟩
      | cons x xs ih =>
        intro h
        rw [List.all_cons, Bool.and_eq_true] at h
        obtain ⟨ns, e1, e2⟩ := ih h.2
        cases x with
        | int i =>
          have hb := h.1
          simp only [betw, Bool.and_eq_true, decide_eq_true_eq] at hb
          refine ⟨i :: ns, by rw [e1]; rfl, fun n hn => ?_⟩
          rcases List.mem_cons.mp hn with e | hn
          · subst e; exact hb
          · exact e2 n hn
        | _ => have hb := h.1; simp [betw] at hb
    obtain ⟨ns, e1, e2⟩ := main xs h2
    subst e1
    exact ⟨ns, rfl, by simpa using h1, e2⟩
  | _ => cases h
theorem isWord_ints {ns : List Int} (h1 : ns.length ≤ 100) (h2 : ∀ n ∈ ns, 0 ≤ n ∧ n ≤ 1000) : isWord (.tup (ns.map .int)) = true := by
  simp only [isWord, Bool.and_eq_true, decide_eq_true_eq, List.length_map]
  refine ⟨h1, ?_⟩
  rw [List.all_map, List.all_eq_true]
  intro n hn
  have := h2 n hn
  simp [betw, this]
def isPart (d : D) : Bool := isWord d && match d with
  | .tup xs => decide (1 ≤ xs.length) && decide (xs.length ≤ 3)
  | _ => false
def sd_scattered : Pro := fun ds G Q E => ∃ p w, ds = [p, w] ∧ Pl G p ∧ (isPart p = false → E "InvalidPart" [("given", p)] G) ∧ (isPart p = true → Pl G w ∧ (isWord w = false → E "InvalidWord" [("given", w)] G) ∧
  ∀ pn wn : List Int, p = .tup (pn.map .int) → w = .tup (wn.map .int) → isWord w = true → Q (.int (waysI pn wn)) G)
theorem pure_scattered (ds : List D) (G : DHp) (Q : DK) (E : DXK) (h : sd_scattered ds G Q E) : t_scattered (.int 3) sd_is_word sd_need_word sd_ways_of (dEnd Q E) (startD N_scattered ds) G := by
  obtain ⟨p, w, rfl, hp, h1, h2⟩ := h
  show t_scattered (.int 3) sd_is_word sd_need_word sd_ways_of (dEnd Q E) [some p, some w] G
  simp [t_scattered]
  refine ⟨p, rfl, hp, ?_⟩
  have rest : isPart p = true → sd_need_word [w] G (fun d G1 => sd_ways_of [p, w] G1 Q fun C fs G2 => E C fs G2) fun C fs G2 => E C fs G2 := fun c => by
    obtain ⟨k1, k2, k3⟩ := h2 c
    refine ⟨w, rfl, k1, fun hw => ?_, k2⟩
    have c' : isWord p = true := by unfold isPart at c; rw [Bool.and_eq_true] at c; exact c.1
    obtain ⟨pn, rfl, p1, p2⟩ := isWord_of c'
    obtain ⟨wn, rfl, w1, w2⟩ := isWord_of hw
    exact ⟨pn, wn, rfl, by omega, k3 pn wn rfl rfl hw⟩
  cases c : isWord p with
  | false =>
    simp
    exact h1 (by unfold isPart; rw [c]; rfl)
  | true =>
    obtain ⟨pn, rfl, p1, p2⟩ := isWord_of c
    simp
    unfold isPart at h1 rest
    rw [c] at h1 rest
    simp only [List.length_map, Bool.true_and] at h1 rest
    by_cases c1 : 1 ≤ pn.length
    · have c1' : (1 : Int) ≤ pn.length := by omega
      simp [c1']
      by_cases c2 : pn.length ≤ 3
      · have c2' : (pn.length : Int) ≤ 3 := by omega
        simp [c2']
        exact rest (by simp [c1, c2])
      · have c2' : ¬ (pn.length : Int) ≤ 3 := by omega
        simp [c2']
        exact h1 (by simp [c2])
    · have c1' : ¬ (1 : Int) ≤ pn.length := by omega
      simp [c1']
      exact h1 (by simp [c1])
/-! ### words below a number -/
def nextW (m : Nat) (ws : List (List Int)) : List (List Int) := ws.flatMap fun w => (List.range m).map fun l : Nat => w ++ [(l : Int)]
def belowW (m : Nat) : Nat → List (List Int) → List (List Int)
  | 0, _ => []
  | n + 1, last => nextW m last ++ belowW m n (nextW m last)
abbrev tI (w : List Int) : D := .tup (w.map .int)
theorem nextW_len (m : Nat) (ws : List (List Int)) : (nextW m ws).length = ws.length * m := by
  unfold nextW
  induction ws with
  | nil => simp
  | cons w ws ih => rw [List.flatMap_cons, List.length_append, ih, List.length_map, List.length_range, List.length_cons, Nat.succ_mul, Nat.add_comm]
theorem nextW_mem {m : Nat} {ws : List (List Int)} {n : Nat} (h : ∀ w ∈ ws, w.length ≤ n) : ∀ w ∈ nextW m ws, w.length ≤ n + 1 := by
  intro w hw
  obtain ⟨v, hv, hw⟩ := List.mem_flatMap.mp hw
  obtain ⟨l, _, e⟩ := List.mem_map.mp hw
  subst e
  have := h v hv
  simp; exact this
theorem betw_of {d : D} {lo hi : Int} (h : betw d lo hi = true) (h0 : 0 ≤ lo) : ∃ a : Nat, d = .int a ∧ lo ≤ a ∧ (a : Int) ≤ hi := by
  cases d with
  | int i =>
    simp only [betw, Bool.and_eq_true, decide_eq_true_eq] at h
    exact ⟨i.toNat, by rw [Int.toNat_of_nonneg (by omega)], by omega, by omega⟩
  | _ => cases h
/-- a law's box: n draws may still be made -/
def BoxO (n : Nat) (o : DO) : Prop := ∃ (x c k : Int) (b : Bool), o = .lst [.int x, .bl b, .int c, .int k] ∧ 0 ≤ x ∧ 0 ≤ c ∧ c < 2147483629 ∧ 0 ≤ k ∧ k + n ≤ 1073741824
theorem BoxO.mono {n m : Nat} {o : DO} (h : BoxO n o) (l : m ≤ n) : BoxO m o := by
  obtain ⟨x, c, k, b, h1, h2, h3, h4, h5, h6⟩ := h
  exact ⟨x, c, k, b, h1, h2, h3, h4, h5, by omega⟩
def sd__law_cell : Pro := fun ds G Q _ => ∃ (ns : List Int) (k : Nat), ds = [.fz (ns.map .int), .int k] ∧ k ≤ 100 ∧ ∀ v, Q (.int v) G
theorem pure__law_cell (ds : List D) (G : DHp) (Q : DK) (E : DXK) (h : sd__law_cell ds G Q E) : t__law_cell (dEnd Q E) (startD N__law_cell ds) G := by
  obtain ⟨ns, k, rfl, hk, hq⟩ := h
  show t__law_cell (dEnd Q E) [some (.fz (ns.map .int)), some (.int k)] G
  simp [t__law_cell]
  by_cases c : k < ns.length
  · have c' : (k : Int) < ns.length := by omega
    simp [c, atI_map (List.getElem?_eq_getElem c)]
    exact hq _
  · have c' : ¬ (k : Int) < ns.length := by omega
    simp [c, CMul]
    rw [cutD_map, s_sumL]
    simp
    exact hq _
def sd__law_box : Pro := fun ds G Q _ => ∃ g : Int, ds = [.int g] ∧ ∀ p o, G p = none → BoxO 1073741824 o → Q (.ref p) (updD G p o)
theorem pure__law_box (ds : List D) (G : DHp) (Q : DK) (E : DXK) (h : sd__law_box ds G Q E) : t__law_box (dEnd Q E) (startD N__law_box ds) G := by
  obtain ⟨g, rfl, hq⟩ := h
  show t__law_box (dEnd Q E) [some (.int g)] G
  have hl16 := l16
  simp [t__law_box]
  refine ⟨by unfold CPow; decide, by omega, fun p hp => hq p _ hp ⟨_, _, _, _, rfl, by omega, by omega, by omega, by omega, by omega⟩⟩
def sd__law_take : Pro := fun ds G Q _ => ∃ (a : Addr) (many : Int) (n : Nat) (o : DO), ds = [.ref a, .int many] ∧ 0 < many ∧ many < 1073741824 ∧ G a = some o ∧ BoxO (n + 1) o ∧ ∀ v o', 0 ≤ v → v < many → BoxO n o' → Q (.int v) (updD G a o')
theorem pure__law_take (ds : List D) (G : DHp) (Q : DK) (E : DXK) (h : sd__law_take ds G Q E) : t__law_take (dEnd Q E) (startD N__law_take ds) G := by
  obtain ⟨a, many, n, o, rfl, m1, m2, hg, ⟨x, c, k, b, rfl, hx, hc, hc2, hk, hk2⟩, hq⟩ := h
  show t__law_take (dEnd Q E) [some (.ref a), some (.int many), none, none] G
  simp [t__law_take, hg, atI, ixN]
  have mx : 0 ≤ (c + 15485944 * (k + 1) + 179424800) ^ 5 % 2147483647 ∧ (c + 15485944 * (k + 1) + 179424800) ^ 5 % 2147483647 < 2147483647 := ⟨Int.emod_nonneg _ (by decide), Int.emod_lt_of_pos _ (by decide)⟩
  generalize hmm : (c + 15485944 * (k + 1) + 179424800) ^ 5 % 2147483647 = mm at mx
  have rest : (CMul 15485944 (k + 1) ∨ CMulW 15485944 (k + 1)) ∧ CPow (c + 15485944 * (k + 1) + 179424800) 5 ∧ (CMul mm 48271 ∨ CMulW mm 48271) ∧ (CMul 104809 (k + 1) ∨ CMulW 104809 (k + 1)) ∧
      CPow (mm * 48271 + 104809 * (k + 1)) 3 ∧ CDiv ((mm * 48271 + 104809 * (k + 1)) ^ 3 % 2147483587) 64 ∧ 0 < many ∧
      Q (.int ((mm * 48271 + 104809 * (k + 1)) ^ 3 % 2147483587 / 64 % many)) (updD G a (.lst [.int x, .bl b, .int c, .int (k + 1)])) := by
    refine ⟨.inl (by unfold CMul; omega), by unfold CPow; omega, .inl (by unfold CMul; omega), .inl (by unfold CMul; omega), by unfold CPow; omega, by unfold CDiv; omega, m1, ?_⟩
    exact hq _ _ (Int.emod_nonneg _ (by omega)) (Int.emod_lt_of_pos _ m1) ⟨x, c, k + 1, b, rfl, hx, hc, hc2, by omega, by omega⟩
  split
  · split
    · rename_i hx0
      refine ⟨m1, by unfold CDiv; omega, hq _ _ (Int.emod_nonneg _ (by omega)) (Int.emod_lt_of_pos _ m1) ⟨_, c, k, b, rfl, Int.ediv_nonneg hx (by omega), hc, hc2, hk, by omega⟩⟩
    · exact rest
  · exact rest

def sd__law_pick : Pro := fun ds G Q _ => ∃ (a : Addr) (xs : List D) (n : Nat) (o : DO), ds = [.ref a, .lst xs] ∧ 0 < xs.length ∧ xs.length < 1073741824 ∧ G a = some o ∧ BoxO (n + 1) o ∧ ∀ x o', x ∈ xs → BoxO n o' → Q x (updD G a o')
theorem pure__law_pick (ds : List D) (G : DHp) (Q : DK) (E : DXK) (h : sd__law_pick ds G Q E) : t__law_pick sd__law_take (dEnd Q E) (startD N__law_pick ds) G := by
  obtain ⟨a, xs, n, o, rfl, m1, m2, hg, hb, hq⟩ := h
  show t__law_pick sd__law_take (dEnd Q E) [some (.ref a), some (.lst xs)] G
  simp [t__law_pick]
  refine ⟨a, xs.length, n, o, rfl, by omega, by omega, hg, hb, fun v o' h1 h2 hb' => ?_⟩
  simp
  have hv : v.toNat < xs.length := by omega
  rw [atI_of h1, List.getElem?_eq_getElem hv]
  exact hq _ _ (List.getElem_mem hv) hb'
/-! ### data as trees -/
inductive Tr where
  | non | bl (b : Bool) | int (i : Int) | str (x : Str) | tup (xs : List Tr) | lst (xs : List Tr) | dic (ks : List Key) (vs : List Tr)
mutual
/-- d is seen as the tree -/
def Vw (G : DHp) : Tr → D → Prop
  | .non, d => d = .non
  | .bl b, d => d = .bl b
  | .int i, d => d = .int i
  | .str x, d => d = .str x ∧ PyData.strOk x = true
  | .tup ts, d => ∃ xs, d = .tup xs ∧ xs.length ≤ sizeLine ∧ VwL G ts xs
  | .lst ts, d => ∃ xs, ((d = .lst xs ∧ VwL G ts xs) ∨ ∃ a, d = .ref a ∧ G a = some (.lst xs) ∧ VwL (delD G a) ts xs) ∧ xs.length ≤ sizeLine
  | .dic ks ts, d => ∃ a xs, d = .ref a ∧ (G a = some (.dic 0 (ks.map keyD) xs) ∨ G a = some (.ldc 0 (ks.map keyD) xs)) ∧ ks.length ≤ sizeLine ∧ ks.Nodup ∧ ks.length = ts.length ∧ VwL (delD G a) ts xs
def VwL (G : DHp) : List Tr → List D → Prop
  | [], xs => xs = []
  | t :: ts, xs => ∃ x r, xs = x :: r ∧ Vw G t x ∧ VwL G ts r
end
theorem VwL.len {G : DHp} : ∀ {ts : List Tr} {xs : List D}, VwL G ts xs → xs.length = ts.length
  | [], xs, h => by unfold VwL at h; rw [h]; rfl
  | t :: ts, xs, h => by
    unfold VwL at h
    obtain ⟨x, r, e, _, h2⟩ := h
    rw [e, List.length_cons, List.length_cons, VwL.len h2]
theorem VwL.get {G : DHp} : ∀ {ts : List Tr} {xs : List D} {i : Nat} {t : Tr}, VwL G ts xs → ts[i]? = some t → ∃ x, xs[i]? = some x ∧ Vw G t x
  | [], _, _, _, _, e => by simp at e
  | t :: ts, xs, 0, t', h, e => by
    unfold VwL at h
    obtain ⟨x, r, e1, h1, h2⟩ := h
    cases e
    exact ⟨x, by rw [e1]; rfl, h1⟩
  | t :: ts, xs, i + 1, t', h, e => by
    unfold VwL at h
    obtain ⟨x, r, e1, h1, h2⟩ := h
    obtain ⟨y, k1, k2⟩ := VwL.get (i := i) h2 e
    exact ⟨y, by rw [e1]; exact k1, k2⟩
/-- what is told stays told: also where something new comes, or a dict is locked -/
def Kp (G G' : DHp) : Prop := ∀ a o, G a = some o → G' a = some o ∨ ∃ ks xs, (o = .dic 0 ks xs ∨ o = .ldc 0 ks xs) ∧ (G' a = some (.dic 0 ks xs) ∨ G' a = some (.ldc 0 ks xs))
theorem Kp.del {G G' : DHp} (k : Kp G G') (b : Addr) : Kp (delD G b) (delD G' b) := fun a o e => by
  have ne : a ≠ b := fun z => by subst z; rw [delD_same] at e; cases e
  rw [delD_ne ne] at e ⊢
  exact k a o e
theorem Kp.of {G G' : DHp} (k : ∀ a o, G a = some o → G' a = some o) : Kp G G' := fun a o e => .inl (k a o e)
theorem Kp.delD {G : DHp} {b : Addr} : Kp (DL.delD G b) G := .of fun a o e => by
  have ne : a ≠ b := fun z => by subst z; rw [delD_same] at e; cases e
  rw [delD_ne ne] at e
  exact e
mutual
theorem Vw.ext {G G' : DHp} (k : Kp G G') : ∀ {t : Tr} {d : D}, Vw G t d → Vw G' t d
  | .non, d, h => h
  | .bl b, d, h => h
  | .int i, d, h => h
  | .str x, d, h => h
  | .tup ts, d, h => by
    unfold Vw at h ⊢
    obtain ⟨xs, h1, h2, h3⟩ := h
    exact ⟨xs, h1, h2, VwL.ext k h3⟩
  | .lst ts, d, h => by
    unfold Vw at h ⊢
    obtain ⟨xs, ⟨h1, h3⟩ | ⟨a, e1, e2, h3⟩, h2⟩ := h
    · exact ⟨xs, .inl ⟨h1, VwL.ext k h3⟩, h2⟩
    · refine ⟨xs, .inr ⟨a, e1, ?_, VwL.ext (k.del a) h3⟩, h2⟩
      rcases k a _ e2 with z | ⟨ks, zs, z | z, _⟩
      · exact z
      · cases z
      · cases z
  | .dic ks ts, d, h => by
    unfold Vw at h ⊢
    obtain ⟨a, xs, h1, h2, h3, h4, h5, h6⟩ := h
    refine ⟨a, xs, h1, ?_, h3, h4, h5, VwL.ext (k.del a) h6⟩
    rcases h2 with h2 | h2
    · rcases k a _ h2 with z | ⟨ks', zs, z | z, z2⟩
      · exact .inl z
      · cases z; exact z2
      · cases z
    · rcases k a _ h2 with z | ⟨ks', zs, z | z, z2⟩
      · exact .inr z
      · cases z
      · cases z; exact z2
theorem VwL.ext {G G' : DHp} (k : Kp G G') : ∀ {ts : List Tr} {xs : List D}, VwL G ts xs → VwL G' ts xs
  | [], xs, h => h
  | t :: ts, xs, h => by
    unfold VwL at h ⊢
    obtain ⟨x, r, e1, h1, h2⟩ := h
    exact ⟨x, r, e1, Vw.ext k h1, VwL.ext k h2⟩
end
theorem Kp.new {G : DHp} {p : Addr} {o : DO} (hp : G p = none) : Kp G (updD G p o) := .of fun a u e => by
  have ne : a ≠ p := fun z => by subst z; rw [e] at hp; cases hp
  exact (updD_ne ne).trans e
theorem Kp.lock {G : DHp} {p : Addr} {ks xs : List D} (hp : G p = some (.dic 0 ks xs)) : Kp G (updD G p (.ldc 0 ks xs)) := fun a u e => by
  by_cases c : a = p
  · subst c
    rw [hp] at e
    cases e
    exact .inr ⟨ks, xs, .inl rfl, .inr updD_same⟩
  · exact .inl ((updD_ne c).trans e)
theorem Vw.new {G : DHp} {p : Addr} {o : DO} {t : Tr} {d : D} (hp : G p = none) (h : Vw G t d) : Vw (updD G p o) t d := h.ext (.new hp)
mutual
/-- how deep a tree is -/
def Tr.dep : Tr → Nat
  | .tup ts => Tr.depL ts + 1
  | .lst ts => Tr.depL ts + 1
  | .dic _ ts => Tr.depL ts + 1
  | _ => 0
def Tr.depL : List Tr → Nat
  | [] => 0
  | t :: ts => max t.dep (Tr.depL ts)
end
theorem Tr.dep_mem : ∀ {ts : List Tr} {t : Tr}, t ∈ ts → t.dep ≤ Tr.depL ts
  | [], _, h => by cases h
  | t :: ts, u, h => by
    unfold Tr.depL
    rcases List.mem_cons.mp h with e | h
    · subst e; omega
    · have := Tr.dep_mem h; omega
/-- equal trees: alike (n: how deep they may be) -/
def sd__law_same : Nat → Pro
  | 0 => sdNo
  | n + 1 => fun ds G Q _ => ∃ x y t, ds = [x, y] ∧ Vw G t x ∧ Vw G t y ∧ t.dep ≤ n ∧ Q (.bl true) G
theorem Vw.btyp {G : DHp} {t : Tr} {d : D} (h : Vw G t d) : DL.btyp G d = some (match t with | .non => "NoneType" | .bl _ => "bool" | .int _ => "int" | .str _ => "str" | .tup _ => "tuple" | .lst _ => "list" | .dic _ _ => "dict") := by
  cases t with
  | non => unfold Vw at h; subst h; rfl
  | bl b => unfold Vw at h; subst h; rfl
  | int b => unfold Vw at h; subst h; rfl
  | str b => unfold Vw at h; obtain ⟨h, _⟩ := h; subst h; rfl
  | tup b => unfold Vw at h; obtain ⟨xs, h, _⟩ := h; subst h; rfl
  | lst b =>
    unfold Vw at h
    obtain ⟨xs, ⟨h, _⟩ | ⟨a, h, g, _⟩, _⟩ := h
    · subst h; rfl
    · subst h; simp [DL.btyp, g]
  | dic ks ts =>
    unfold Vw at h
    obtain ⟨a, xs, h, g | g, _⟩ := h
    · subst h; simp [DL.btyp, g]
    · subst h; simp [DL.btyp, g]
theorem Vw.isNon {G : DHp} {t : Tr} {d : D} (h : Vw G t d) : DL.isNon d = (match t with | .non => true | _ => false) := by
  cases t with
  | non => unfold Vw at h; subst h; rfl
  | bl b => unfold Vw at h; subst h; rfl
  | int b => unfold Vw at h; subst h; rfl
  | str b => unfold Vw at h; obtain ⟨h, _⟩ := h; subst h; rfl
  | tup b => unfold Vw at h; obtain ⟨xs, h, _⟩ := h; subst h; rfl
  | lst b =>
    unfold Vw at h
    obtain ⟨xs, ⟨h, _⟩ | ⟨a, h, g, _⟩, _⟩ := h
    · subst h; rfl
    · subst h; rfl
  | dic ks ts =>
    unfold Vw at h
    obtain ⟨a, xs, h, g, _⟩ := h
    subst h; rfl

theorem deqv_bl {a b : Bool} : deqv (.bl a) (.bl b) = decide (a = b) := by
  unfold deqv toP PyData.eqv
  cases a <;> cases b <;> rfl
theorem eq_bl {x y : Bool} {G : DHp} {Q : DK} : rEqD false (.bl x) (.bl y) G Q = Q (.bl (decide (x = y))) G := by
  unfold rEqD
  rw [s_vw (by simp), s_vw (by simp), deqv_bl]
  simp [pln]
theorem ne_bl {x y : Bool} {G : DHp} {Q : DK} : rEqD true (.bl x) (.bl y) G Q = Q (.bl (!decide (x = y))) G := by
  unfold rEqD
  rw [s_vw (by simp), s_vw (by simp), deqv_bl]
  simp [pln]
theorem deqv_str {a b : Str} : deqv (.str a) (.str b) = decide (a = b) := by
  unfold deqv toP PyData.eqv
  first | rfl | (by_cases h : a = b <;> simp [h])
theorem eq_str {x y : Str} {G : DHp} {Q : DK} (hx : PyData.strOk x = true) (hy : PyData.strOk y = true) : rEqD false (.str x) (.str y) G Q = Q (.bl (decide (x = y))) G := by
  unfold rEqD
  rw [s_vw (by simp), s_vw (by simp), deqv_str]
  simp [pln, hx, hy]
theorem ne_str {x y : Str} {G : DHp} {Q : DK} (hx : PyData.strOk x = true) (hy : PyData.strOk y = true) : rEqD true (.str x) (.str y) G Q = Q (.bl (!decide (x = y))) G := by
  unfold rEqD
  rw [s_vw (by simp), s_vw (by simp), deqv_str]
  simp [pln, hx, hy]
theorem eq_nil {G : DHp} {Q : DK} : rEqD false (.lst []) (.lst []) G Q = Q (.bl true) G := by
  unfold rEqD
  rw [s_vw (by simp)]
  have h1 : pln 60 (.lst []) = true := rfl
  have h2 : deqv (.lst []) (.lst []) = true := rfl
  simp [h1, h2]
/-- a sequence as it is seen -/
theorem Vw.seq {G : DHp} {ts : List Tr} {d : D} (h : Vw G (.lst ts) d) : ∃ xs, asS G d = some xs ∧ lenD G d = some xs.length ∧ xs.length ≤ sizeLine ∧ VwL G ts xs ∧ ∀ k Q, rIxD d (.int k) G Q = match atI xs k with | some z => Q z G | none => False := by
  unfold Vw at h
  obtain ⟨xs, ⟨h, h3⟩ | ⟨a, h, g, h3⟩, h2⟩ := h
  · subst h; exact ⟨xs, rfl, rfl, h2, h3, fun k Q => s_ixL⟩
  · subst h
    refine ⟨xs, s_asSr g, ?_, h2, h3.ext .delD, fun k Q => by rw [s_ixR, g] <;> rfl⟩
    unfold lenD
    rw [s_asSr g]
theorem rng_mem {n : Nat} {x : D} (h : x ∈ rngD 0 1 n) : ∃ i : Nat, i < n ∧ x = .int (i : Int) := by
  unfold rngD at h
  obtain ⟨i, hi, e⟩ := List.mem_map.mp h
  refine ⟨i, by simpa using hi, ?_⟩
  rw [← e]
  simp
theorem rng_len {lo c : Int} {n : Nat} : (rngD lo c n).length = n := by unfold rngD; simp
/-- the last line of _law_same on sequences -/
theorem same_seq {n : Nat} {ts : List Tr} {x y : D} {xs ys : List D} {G : DHp} {Q : DK} {E : DXW} (hd : Tr.depL ts ≤ n) (vx : VwL G ts xs) (vy : VwL G ts ys) (hl : ys.length ≤ sizeLine) (ly : lenD G y = some ys.length)
    (ix : ∀ p o, G p = none → ∀ k Q, rIxD x (.int k) (updD G p o) Q = match atI xs k with | some z => Q z (updD G p o) | none => False)
    (iy : ∀ p o, G p = none → ∀ k Q, rIxD y (.int k) (updD G p o) Q = match atI ys k with | some z => Q z (updD G p o) | none => False) (hq : Q (.bl true) G) :
    dLc false [3] (diR1 (dCons (dCB rLenD (dCons (dVar 1) dNil)) dNil)) (dgName 3) (dNot (dB (dCall (sd__law_same (n + 1)) (dCons (dOp rIxD (dVar 0) (dVar 3)) (dCons (dOp rIxD (dVar 1) (dVar 3)) dNil))))) (dVar 3) E [some x, some y, none, none] G
      fun z G1 => rEqD false z (.lst []) G1 Q := by
  have hl16 := l16
  have lx := vx.len
  have ly' := vy.len
  simp [s_len ly]
  refine ⟨by unfold Ri; omega, fun p hp => ?_⟩
  refine lc_filter (fun _ => false) id hp _ [] (fun _ => gdT_) (fun z hz acc Qb qb => ?_) (fun z hz h => by cases h) (by rw [rng_len]; simpa using hl) ?_
  · obtain ⟨i, hi, rfl⟩ := rng_mem hz
    obtain ⟨t, ht⟩ : ∃ t, ts[i]? = some t := ⟨ts[i]'(by omega), List.getElem?_eq_getElem (by omega)⟩
    obtain ⟨xi, e1, v1⟩ := vx.get ht
    obtain ⟨yi, e2, v2⟩ := vy.get ht
    simp [wipeD]
    rw [ix p _ hp, atI_nat, e1]
    simp
    rw [iy p _ hp, atI_nat, e2]
    refine ⟨xi, yi, t, rfl, v1.new hp, v2.new hp, Nat.le_trans (Tr.dep_mem (List.mem_of_getElem? ht)) hd, ?_⟩
    simpa using qb
  · have : ∀ l : List D, l.filter (fun _ => false) = [] := fun l => by induction l <;> simp_all
    simp [this, eq_nil]
    exact hq
theorem ix_upd {d : D} {xs : List D} {G : DHp} (h : Vw G (.lst ts) d) (h2 : asS G d = some xs) {p : Addr} {o : DO} (hp : G p = none) (k : Int) (Q : DK) : rIxD d (.int k) (updD G p o) Q = match atI xs k with | some z => Q z (updD G p o) | none => False := by
  unfold Vw at h
  obtain ⟨ys, ⟨h, h4⟩ | ⟨a, h, g, h4⟩, h3⟩ := h
  · subst h
    cases h2
    exact s_ixL
  · subst h
    rw [s_asSr g] at h2
    cases h2
    have ne : a ≠ p := fun z => by subst z; rw [g] at hp; cases hp
    rw [s_ixR, updD_ne ne, g] <;> rfl
theorem dget_at : ∀ {ks : List Key} {xs : List D} {i : Nat} {k : Key} {x : D}, ks.Nodup → ks[i]? = some k → xs[i]? = some x → dget (ks.map keyD) xs (keyD k) = some x
  | [], _, _, _, _, _, e, _ => by simp at e
  | k' :: ks, [], _, _, _, _, _, e => by simp at e
  | k' :: ks, x' :: xs, 0, k, x, h, e1, e2 => by
    cases e1
    cases e2
    rw [List.map_cons]
    unfold dget
    rw [if_pos rfl]
  | k' :: ks, x' :: xs, i + 1, k, x, h, e1, e2 => by
    rw [List.nodup_cons] at h
    have hne : ¬ keyD k' = keyD k := fun z => h.1 (by rw [keyD_inj z]; exact List.mem_of_getElem? e1)
    rw [List.map_cons]
    unfold dget
    rw [if_neg hne]
    exact dget_at (i := i) h.2 e1 e2
theorem rIx_key {x y d : D} {ks xs : List D} {G : DHp} {Q : DK} (h1 : asS G x = none) (h2 : asDc G x = some (0, ks, xs)) (h3 : isKey0 y = true) (h4 : dget ks xs y = some d) (q : Q d G) : rIxD x y G Q := by
  refine .inl ⟨d, ?_, q⟩
  unfold idx
  rw [h1, h2]
  have h3' : isKey 0 y = true := by cases y <;> exact h3
  simp [h3', h4]
/-- a told dict -/
def Dc (G : DHp) (a : Addr) (ks xs : List D) : Prop := G a = some (.dic 0 ks xs) ∨ G a = some (.ldc 0 ks xs)
theorem Dc.asDc {G : DHp} {a : Addr} {ks xs : List D} (h : Dc G a ks xs) : DL.asDc G (.ref a) = some (0, ks, xs) := by
  rcases h with h | h <;> simp [DL.asDc, h]
theorem Dc.asS {G : DHp} {a : Addr} {ks xs : List D} (h : Dc G a ks xs) : DL.asS G (.ref a) = none := by
  rcases h with h | h <;> simp [DL.asS, asR, asT, h]
theorem Dc.len {G : DHp} {a : Addr} {ks xs : List D} (h : Dc G a ks xs) : lenD G (.ref a) = some ks.length := by
  unfold lenD
  rw [h.asS, h.asDc]
theorem Dc.upd {G : DHp} {a p : Addr} {ks xs : List D} {o : DO} (h : Dc G a ks xs) (hp : G p = none) : Dc (updD G p o) a ks xs := by
  have ne : a ≠ p := fun z => by subst z; rcases h with h | h <;> (rw [h] at hp; cases hp)
  unfold Dc
  rw [updD_ne ne]
  exact h
theorem Dc.lock {G : DHp} {a b : Addr} {ks xs ks' xs' : List D} (h : Dc G a ks xs) (hb : G b = some (.dic 0 ks' xs')) : Dc (updD G b (.ldc 0 ks' xs')) a ks xs := by
  by_cases c : a = b
  · subst c
    rcases h with h | h
    · rw [hb] at h; cases h; exact .inr updD_same
    · rw [hb] at h; cases h
  · unfold Dc
    rw [updD_ne c]
    exact h
theorem updD_id {G : DHp} {a : Addr} {o : DO} (h : G a = some o) : updD G a o = G := by
  funext b
  by_cases c : b = a
  · subst c; rw [updD_same, h]
  · rw [updD_ne c]
/-- the last line of _law_same on dicts, the second one locked -/
theorem same_dic {n : Nat} {ts : List Tr} {a b : Addr} {ks : List Key} {xs ys : List D} {G : DHp} {Q : DK} (hd : Tr.depL ts ≤ n) (hn : ks.Nodup) (hk : ks.length = ts.length) (hl : ks.length ≤ sizeLine) (vx : VwL G ts xs) (vy : VwL G ts ys) (da : Dc G a (ks.map keyD) xs) (db : G b = some (.ldc 0 (ks.map keyD) ys))
    (hq : Q (.lst []) G) :
    dLc false [2] (diKeys (dVar 1)) (dgName 2) (dOr (dB (dOp (rInD true) (dVar 2) (dVar 0))) (dNot (dB (dCall (sd__law_same (n + 1)) (dCons (dOp rIxD (dVar 0) (dVar 2)) (dCons (dOp rIxD (dVar 1) (dVar 2)) dNil)))))) (dVar 2) E0 [some (.ref a), some (.ref b), none, none] G Q := by
  have lx := vx.len
  have ly' := vy.len
  simp
  refine ⟨_, _, db, fun p hp => ?_⟩
  have neb : b ≠ p := fun z => by subst z; rw [hp] at db; cases db
  refine lc_filter (fun _ => false) id hp _ [] (fun _ => by show updD G p _ b = _; rw [updD_ne neb]; exact db) (fun z hz acc Qb qb => ?_) (fun z hz h => by cases h) (by rw [List.length_map]; simpa using hl) ?_
  · obtain ⟨k, hk1, rfl⟩ := List.mem_map.mp hz
    obtain ⟨i, hi⟩ := List.getElem?_of_mem hk1
    have hi2 : i < ks.length := (List.getElem?_eq_some_iff.mp hi).1
    obtain ⟨t, ht⟩ : ∃ t, ts[i]? = some t := ⟨ts[i]'(by omega), List.getElem?_eq_getElem (by omega)⟩
    obtain ⟨xi, e1, v1⟩ := vx.get ht
    obtain ⟨yi, e2, v2⟩ := vy.get ht
    have ik : isKey0 (keyD k) = true := by cases k <;> rfl
    have ik' : isKey 0 (keyD k) = true := by cases k <;> rfl
    have g1 := dget_at hn hi e1
    have g2 := dget_at hn hi e2
    have da' := da.upd (o := .lst acc) hp
    have db' : Dc (updD G p (.lst acc)) b (ks.map keyD) ys := .inr (by rw [updD_ne neb]; exact db)
    simp [wipeD]
    refine .inr (.inl ⟨0, _, _, da'.asDc, ik', ?_⟩)
    simp [g1]
    refine rIx_key da'.asS da'.asDc ik g1 ?_
    refine rIx_key db'.asS db'.asDc ik g2 ?_
    refine ⟨xi, yi, t, rfl, v1.new hp, v2.new hp, Nat.le_trans (Tr.dep_mem (List.mem_of_getElem? ht)) hd, ?_⟩
    simpa using qb
  · have : ∀ l : List D, l.filter (fun _ => false) = [] := fun l => by induction l <;> simp_all
    simp [this]
    exact hq
theorem pure__law_same (n : Nat) (ds : List D) (G : DHp) (Q : DK) (E : DXK) (h : sd__law_same (n + 1) ds G Q E) : t__law_same (sd__law_same n) (dEnd Q E) (startD N__law_same ds) G := by
  obtain ⟨x, y, t, rfl, hx, hy, hd, hq⟩ := h
  show t__law_same (sd__law_same n) (dEnd Q E) [some x, some y, none, none] G
  have bx := hx.btyp
  have by' := hy.btyp
  have nx := hx.isNon
  have ny := hy.isNon
  cases t with
  | non =>
    simp at bx by' nx ny
    simp [t__law_same, bx, by', nx, ny, bsub]
    exact hq
  | bl b =>
    simp at bx by' nx ny
    unfold Vw at hx hy
    subst hx hy
    simp [t__law_same, bsub, eq_bl]
    exact hq
  | int i =>
    unfold Vw at hx hy
    subst hx hy
    simp [t__law_same, bsub, eq_int]
    exact hq
  | str z =>
    unfold Vw at hx hy
    obtain ⟨hx, ok⟩ := hx
    obtain ⟨hy, _⟩ := hy
    subst hx hy
    simp [t__law_same, bsub, eq_str ok ok]
    exact hq
  | tup ts =>
    unfold Vw at hx hy
    obtain ⟨xs, hx, lx, vx⟩ := hx
    obtain ⟨ys, hy, ly, vy⟩ := hy
    subst hx hy
    have e1 := vx.len
    have e2 := vy.len
    unfold Tr.dep at hd
    obtain ⟨m, rfl⟩ : ∃ m, n = m + 1 := ⟨n - 1, by omega⟩
    have fin := same_seq (n := m) (x := .tup xs) (y := .tup ys) (E := fun C fs δ G => E C fs G) (by omega) vx vy ly rfl (fun p o hp k Q => s_ixT) (fun p o hp k Q => s_ixT) hq
    have hl16 := l16
    simp [t__law_same, bsub, isiB, isCls, btyps, ne_bl, ne_int, e1, e2] at fin ⊢
    exact ⟨by omega, fin⟩
  | lst ts =>
    simp at bx by' nx ny
    obtain ⟨xs, h1, h2, h3, vx, h5⟩ := hx.seq
    obtain ⟨ys, k1, k2, k3, vy, k5⟩ := hy.seq
    have e1 := vx.len
    have e2 := vy.len
    unfold Tr.dep at hd
    obtain ⟨m, rfl⟩ : ∃ m, n = m + 1 := ⟨n - 1, by omega⟩
    have fin := same_seq (n := m) (x := x) (y := y) (E := fun C fs δ G => E C fs G) (by omega) vx vy k3 k2 (fun p o hp k Q => ix_upd hx h1 hp k Q) (fun p o hp k Q => ix_upd hy k1 hp k Q) hq
    simp [t__law_same, bsub, isiB, isCls, btyps, ne_bl, ne_int, bx, by', nx, ny, s_len h2, s_len k2, e1, e2] at fin ⊢
    have hl16 := l16
    exact ⟨by omega, fin⟩
  | dic ks ts =>
    simp at bx by' nx ny
    unfold Vw at hx hy
    obtain ⟨a, xs, rfl, da, x1, x2, x3, vx⟩ := hx
    obtain ⟨b, ys, rfl, db, _, _, _, vy⟩ := hy
    have vx := vx.ext .delD
    have vy := vy.ext .delD
    unfold Tr.dep at hd
    obtain ⟨m, rfl⟩ : ∃ m, n = m + 1 := ⟨n - 1, by omega⟩
    have da : Dc G a (ks.map keyD) xs := da
    have db : Dc G b (ks.map keyD) ys := db
    simp [t__law_same, bsub, isiB, isCls, btyps, ne_bl, ne_int, bx, by', nx, ny, s_len da.len, s_len db.len]
    unfold dLk
    refine ⟨0, ks.map keyD, ys, ?_⟩
    rcases db with db | db
    · refine .inl ⟨db, same_dic (n := m) (by omega) x2 x3 x1 (vx.ext (.lock db)) (vy.ext (.lock db)) (da.lock db) updD_same ⟨updD_same, ?_⟩⟩
      · rw [updD_updD, updD_id db]
        simp [eq_nil]
        exact hq
    · refine .inr ⟨db, same_dic (n := m) (by omega) x2 x3 x1 vx vy da db ?_⟩
      simp [eq_nil]
      exact hq
/-- all that is told stays -/
def Grow (G G' : DHp) : Prop := ∀ a o, G a = some o → G' a = some o
theorem Grow.refl {G : DHp} : Grow G G := fun _ _ h => h
theorem Grow.trans {G G1 G2 : DHp} (a : Grow G G1) (b : Grow G1 G2) : Grow G G2 := fun c o h => b c o (a c o h)
theorem Grow.new {G : DHp} {p : Addr} {o : DO} (hp : G p = none) : Grow G (updD G p o) := fun a u e => by
  have ne : a ≠ p := fun z => by subst z; rw [e] at hp; cases hp
  exact (updD_ne ne).trans e
theorem Grow.kp {G G' : DHp} (h : Grow G G') : Kp G G' := .of h
/-- only what is new -/
def newH (G G' : DHp) : DHp := fun b => match G b with
  | none => G' b
  | some _ => none
theorem newH_some {G G' : DHp} {a : Addr} {o : DO} : newH G G' a = some o ↔ G a = none ∧ G' a = some o := by
  unfold newH
  cases e : G a <;> simp
theorem delD_some {G : DHp} {a p : Addr} {o : DO} : delD G p a = some o ↔ a ≠ p ∧ G a = some o := by
  unfold delD
  by_cases c : a = p <;> simp [c]
theorem VwL.snoc {G : DHp} : ∀ {ts : List Tr} {xs : List D} {t : Tr} {x : D}, VwL G ts xs → Vw G t x → VwL G (ts ++ [t]) (xs ++ [x])
  | [], xs, t, x, h, hx => by
    unfold VwL at h
    subst h
    show VwL G [t] [x]
    unfold VwL
    exact ⟨x, [], rfl, hx, by unfold VwL; rfl⟩
  | t' :: ts, xs, t, x, h, hx => by
    unfold VwL at h
    obtain ⟨y, r, e1, h1, h2⟩ := h
    subst e1
    show VwL G (t' :: (ts ++ [t])) (y :: (r ++ [x]))
    unfold VwL
    exact ⟨y, _, rfl, h1, VwL.snoc h2 hx⟩
mutual
/-- dicts in it are empty -/
def Tr.smp : Tr → Bool
  | .tup ts => Tr.smpL ts
  | .lst ts => Tr.smpL ts
  | .dic ks ts => ks.isEmpty && ts.isEmpty
  | _ => true
def Tr.smpL : List Tr → Bool
  | [] => true
  | t :: ts => t.smp && Tr.smpL ts
end
theorem Tr.smp_mem : ∀ {ts : List Tr} {t : Tr}, Tr.smpL ts = true → t ∈ ts → t.smp = true
  | [], _, _, h => by cases h
  | t :: ts, u, s, h => by
    unfold Tr.smpL at s
    rw [Bool.and_eq_true] at s
    rcases List.mem_cons.mp h with e | h
    · subst e; exact s.1
    · exact Tr.smp_mem s.2 h
def sd__law_copy : Nat → Pro
  | 0 => sdNo
  | n + 1 => fun ds G Q _ => ∃ v t, ds = [v] ∧ Vw G t v ∧ t.dep ≤ n ∧ t.smp = true ∧ ∀ r G', Grow G G' → Vw (newH G G') t r → (∀ ts, t = .lst ts → ∃ a, r = .ref a) → (∀ ks ts, t = .dic ks ts → ∃ a, r = .ref a ∧ G' a = some (.dic 0 [] [])) → Q r G'
/-- the items copied, one behind another -/
theorem copy_items {m : Bool} {n : Nat} {v : D} {ts : List Tr} {xs : List D} {G : DHp} {Q : DK} {gd : DHp → Prop} {δ : DSt} {p : Addr} (hp : G p = none) (hδ : δ = [some v, none, none]) (hd : Tr.depL ts ≤ n) (hs : Tr.smpL ts = true) (vx : VwL G ts xs) (hl : xs.length ≤ sizeLine)
    (hgd : ∀ G', Grow G G' → gd G') (hq : ∀ rs G', Grow G (delD G' p) → G' p = some (.lst rs) → VwL (delD (newH G G') p) ts rs → rs.length ≤ sizeLine → lcEnd m p rs G' Q) :
    lcL m p [1] (dgName 1) dYes (dCall (sd__law_copy (n + 1)) (dCons (dVar 1) dNil)) gd δ Q xs [] (updD G p (.lst [])) := by
  subst hδ
  have hlen := vx.len
  refine lc_run xs (P := fun done acc G' => Grow G (delD G' p) ∧ G' p = some (.lst acc) ∧ VwL (delD (newH G G') p) (ts.take done.length) acc) ?_ ?_ hl ?_ xs [] [] _ rfl rfl ⟨by rw [delD_updD hp]; exact .refl, updD_same, by simp [VwL]⟩
  · rintro done acc G' ⟨h1, h2, _⟩
    exact ⟨hgd G' fun a o e => (delD_some.mp (h1 a o e)).2, h2⟩
  · rintro done x rest acc G' ht ⟨h1, h2, h3⟩ hacc K hK
    have hx : xs[done.length]? = some x := by rw [ht]; simp
    have hi : done.length < ts.length := by rw [← hlen, ht]; simp
    obtain ⟨x', e1, v1⟩ := vx.get (List.getElem?_eq_getElem hi)
    rw [hx] at e1
    cases e1
    have hg : Grow G G' := fun a o e => (delD_some.mp (h1 a o e)).2
    simp [wipeD]
    refine ⟨x, ts[done.length], rfl, v1.ext hg.kp, Nat.le_trans (Tr.dep_mem (List.getElem_mem hi)) hd, Tr.smp_mem hs (List.getElem_mem hi), fun r G2 g2 vr _ _ => ?_⟩
    refine hK r G2 (g2 _ _ h2) ⟨fun a o e => ?_, updD_same, ?_⟩
    · have ne : a ≠ p := fun z => by subst z; rw [hp] at e; cases e
      exact delD_some.mpr ⟨ne, by rw [updD_ne ne]; exact g2 _ _ (hg _ _ e)⟩
    · have e2 : (done ++ [x]).length = done.length + 1 := by simp
      rw [e2, List.take_succ, List.getElem?_eq_getElem hi]
      refine VwL.snoc (h3.ext (.of fun a o e => ?_)) (vr.ext (.of fun a o e => ?_))
      · obtain ⟨ne, e⟩ := delD_some.mp e
        obtain ⟨n1, n2⟩ := newH_some.mp e
        exact delD_some.mpr ⟨ne, newH_some.mpr ⟨n1, by rw [updD_ne ne]; exact g2 _ _ n2⟩⟩
      · obtain ⟨n1, n2⟩ := newH_some.mp e
        have ne : a ≠ p := fun z => by subst z; rw [h2] at n1; cases n1
        refine delD_some.mpr ⟨ne, newH_some.mpr ⟨?_, by rw [updD_ne ne]; exact n2⟩⟩
        cases q : G a with
        | none => rfl
        | some u => have := hg _ _ q; rw [n1] at this; cases this
  · rintro rs G' ⟨h1, h2, h3⟩ hrs
    refine hq rs G' h1 h2 ?_ (by omega)
    rw [hlen, List.take_length] at h3
    exact h3
theorem Vw.sc {G G' : DHp} {t : Tr} {d : D} (h : Vw G t d) (hs : match t with | .tup _ => False | .lst _ => False | .dic _ _ => False | _ => True) : Vw G' t d := by
  cases t with
  | non => exact h
  | bl b => exact h
  | int b => exact h
  | str b => exact h
  | tup b => exact hs.elim
  | lst b => exact hs.elim
  | dic ks ts => exact hs.elim
theorem pure__law_copy (n : Nat) (ds : List D) (G : DHp) (Q : DK) (E : DXK) (h : sd__law_copy (n + 1) ds G Q E) : t__law_copy (sd__law_copy n) (dEnd Q E) (startD N__law_copy ds) G := by
  obtain ⟨v, t, rfl, hv, hd, hs, hq⟩ := h
  show t__law_copy (sd__law_copy n) (dEnd Q E) [some v, none, none] G
  have bv := hv.btyp
  have hl16 := l16
  cases t with
  | tup ts =>
    unfold Vw at hv
    obtain ⟨xs, rfl, lx, vx⟩ := hv
    unfold Tr.dep at hd
    unfold Tr.smp at hs
    obtain ⟨m, rfl⟩ : ∃ m, n = m + 1 := ⟨n - 1, by omega⟩
    simp [t__law_copy, bsub]
    intro p hp
    refine copy_items hp rfl (by omega) hs vx lx (fun _ _ => gdS_t) fun rs G' h1 h2 h3 h4 => ⟨h2, ?_⟩
    simp
    refine hq _ _ h1 ?_ (fun ts z => by cases z) (fun ks ts z => by cases z)
    unfold Vw
    refine ⟨rs, rfl, h4, h3.ext (.of fun a o e => ?_)⟩
    obtain ⟨ne, e⟩ := delD_some.mp e
    obtain ⟨n1, n2⟩ := newH_some.mp e
    exact newH_some.mpr ⟨n1, delD_some.mpr ⟨ne, n2⟩⟩
  | lst ts =>
    simp at bv
    obtain ⟨xs, h1, h2, h3, vx, h5⟩ := hv.seq
    unfold Tr.dep at hd
    unfold Tr.smp at hs
    obtain ⟨m, rfl⟩ : ∃ m, n = m + 1 := ⟨n - 1, by omega⟩
    simp [t__law_copy, bsub, bv]
    refine .inl ⟨xs, h1, fun p hp => ?_⟩
    refine copy_items hp rfl (by omega) hs vx h3 (fun G' g => ?_) fun rs G' k1 k2 k3 k4 => ⟨k2, ?_⟩
    · unfold Vw at hv
      obtain ⟨ys, ⟨hv, _⟩ | ⟨a, hv, ga, _⟩, _⟩ := hv
      · subst hv; cases h1; exact gdS_l
      · subst hv
        rw [s_asSr ga] at h1
        cases h1
        exact s_asSr (g _ _ ga)
    · refine hq _ _ (fun a o e => (delD_some.mp (k1 a o e)).2) ?_ (fun ts z => ⟨p, rfl⟩) (fun ks ts z => by cases z)
      unfold Vw
      exact ⟨rs, .inr ⟨p, rfl, newH_some.mpr ⟨hp, k2⟩, k3⟩, k4⟩
  | dic ks ts =>
    simp at bv
    unfold Vw at hv
    obtain ⟨a, xs, rfl, da, x1, x2, x3, vx⟩ := hv
    unfold Tr.smp at hs
    rw [Bool.and_eq_true] at hs
    have e1 : ks = [] := by simpa using hs.1
    have e2 : ts = [] := by simpa using hs.2
    subst e1 e2
    have e3 : xs = [] := by unfold VwL at vx; exact vx
    subst e3
    have da : Dc G a [] [] := da
    have fin : ∀ G1 : DHp, G1 a = some (.ldc 0 [] []) → ∀ K : DK, (∀ G2, G2 = G1 → K (.lst []) G2) → dLc false [2] (diKeys (dVar 0)) (dgName 2) dYes (dTup (dCons (dVar 2) (dCons (dCall (sd__law_copy n) (dCons (dOp rIxD (dVar 0) (dVar 2)) dNil)) dNil))) E0 [some (.ref a), none, none] G1 K := by
      intro G1 h K hK
      simp
      refine ⟨[], [], h, fun p hp => ?_⟩
      have ne : a ≠ p := fun z => by subst z; rw [h] at hp; cases hp
      exact ⟨by show updD G1 p _ a = _; rw [updD_ne ne]; exact h, updD_same, by show K (.lst []) (delD _ p); rw [delD_updD hp]; exact hK _ rfl⟩
    have last : ∀ K : DK, (∀ p, G p = none → K (.ref p) (updD G p (.dic 0 [] []))) → rDictD true [.lst []] G K := fun K hK => ⟨[], rfl, rfl, hK⟩
    have tail : rDictD true [.lst []] G Q := last Q fun p hp => by
      refine hq _ _ (.new hp) ?_ (fun ts z => by cases z) (fun ks ts z => ⟨p, rfl, updD_same⟩)
      unfold Vw
      exact ⟨p, [], rfl, .inl (newH_some.mpr ⟨hp, updD_same⟩), Nat.zero_le _, List.nodup_nil, rfl, by unfold VwL; rfl⟩
    simp [t__law_copy, bsub, bv]
    unfold dLk
    refine ⟨0, [], [], ?_⟩
    rcases da with da | da
    · refine .inl ⟨da, fin _ updD_same _ fun G2 e => ⟨by rw [e]; exact updD_same, ?_⟩⟩
      subst e
      rw [updD_updD, updD_id da]
      exact tail
    · exact .inr ⟨da, fin _ da _ fun G2 e => by subst e; exact tail⟩
  | non => 
    have hv' := hv
    unfold Vw at hv'
    subst hv'
    simp [t__law_copy, bsub]
    exact hq _ _ .refl (by unfold Vw; rfl) (fun ts z => by cases z) (fun ks ts z => by cases z)
  | bl b =>
    have hv' := hv
    unfold Vw at hv'
    subst hv'
    simp [t__law_copy, bsub]
    exact hq _ _ .refl (by unfold Vw; rfl) (fun ts z => by cases z) (fun ks ts z => by cases z)
  | int i =>
    have hv' := hv
    unfold Vw at hv'
    subst hv'
    simp [t__law_copy, bsub]
    exact hq _ _ .refl (by unfold Vw; rfl) (fun ts z => by cases z) (fun ks ts z => by cases z)
  | str z =>
    have hv' := hv
    unfold Vw at hv'
    obtain ⟨hv', ok⟩ := hv'
    subst hv'
    simp [t__law_copy, bsub]
    exact hq _ _ .refl (by unfold Vw; exact ⟨rfl, ok⟩) (fun ts z => by cases z) (fun ks ts z => by cases z)
theorem ok_more : PyData.strOk ("more" : Str) = true := by decide +kernel
def sd__law_very : Pro := fun ds G Q _ => ∃ r t, ds = [r, r] ∧ Vw G t r ∧ t.dep ≤ 50 ∧ t.smp = true ∧ (∀ ts, t = .lst ts → (∃ a, r = .ref a) ∧ ts.length ≤ 1000) ∧ (∀ ks ts, t = .dic ks ts → ∃ a, r = .ref a ∧ G a = some (.dic 0 [] [])) ∧ ∀ G', (∀ b, r ≠ .ref b → G' b = G b) → Q (.bl true) G'
theorem depL_snoc : ∀ {ts : List Tr} {t : Tr}, Tr.depL (ts ++ [t]) = max (Tr.depL ts) t.dep
  | [], t => by simp [Tr.depL]
  | u :: ts, t => by
    show max u.dep (Tr.depL (ts ++ [t])) = max (max u.dep (Tr.depL ts)) t.dep
    rw [depL_snoc, Nat.max_assoc]
theorem pure__law_very (ds : List D) (G : DHp) (Q : DK) (E : DXK) (h : sd__law_very ds G Q E) : t__law_very (sd__law_same 51) (dEnd Q E) (startD N__law_very ds) G := by
  obtain ⟨r, t, rfl, hv, hd, hs, hr, hr2, hq⟩ := h
  show t__law_very (sd__law_same 51) (dEnd Q E) [some r, some r] G
  have bv := hv.btyp
  have hl16 := l16
  simp [t__law_very]
  refine ⟨r, r, t, rfl, hv, hv, hd, ?_⟩
  cases t with
  | lst ts =>
    simp at bv
    obtain ⟨⟨a, rfl⟩, hlen⟩ := hr ts rfl
    unfold Vw at hv
    obtain ⟨xs, ⟨z, _⟩ | ⟨a', z, ga, vx⟩, hl⟩ := hv
    · cases z
    · cases z
      simp [bv, bsub]
      have hxl := vx.len
      refine ⟨⟨xs, s_asRr ga⟩, xs, ga, by omega, ?_⟩
      · have b2 : btyp (updD G a (.lst (xs ++ [.str "more"]))) (.ref a) = some "list" := by simp [btyp]
        simp [b2, bsub]
        have hv2 : Vw (updD G a (.lst (xs ++ [.str "more"]))) (.lst (ts ++ [.str "more"])) (.ref a) := by
          unfold Vw
          refine ⟨_, .inr ⟨a, rfl, updD_same, VwL.snoc (vx.ext (.of fun b o e => ?_)) (by unfold Vw; exact ⟨rfl, ok_more⟩)⟩, by simp; omega⟩
          obtain ⟨ne, e⟩ := delD_some.mp e
          exact delD_some.mpr ⟨ne, by rw [updD_ne ne]; exact e⟩
        refine ⟨_, _, _, rfl, hv2, hv2, ?_, hq _ fun b hb => updD_ne fun z => hb (by rw [z])⟩
        unfold Tr.dep at hd ⊢
        rw [depL_snoc]
        simp [Tr.dep]
        omega
  | dic ks ts =>
    simp at bv
    obtain ⟨a, rfl, da⟩ := hr2 ks ts rfl
    simp [bv, bsub]
    refine ⟨0, [], [], da, rfl, by simp; omega, ?_⟩
    have hp : dput [] [] (.str "more") (.int 1) = ([.str "more"], [.int 1]) := by unfold dput; simp
    rw [hp]
    have hv2 : Vw (updD G a (.dic 0 [.str "more"] [.int 1])) (.dic [.inr "more"] [.int 1]) (.ref a) := by
      unfold Vw
      refine ⟨a, [.int 1], rfl, .inl updD_same, by simp; omega, by simp, rfl, ?_⟩
      unfold VwL
      exact ⟨_, [], rfl, by unfold Vw; rfl, by unfold VwL; rfl⟩
    exact ⟨_, _, _, rfl, hv2, hv2, by decide, hq _ fun b hb => updD_ne fun z => hb (by rw [z])⟩
  | non => simp at bv; simp [bv, bsub]; exact ⟨_, _, _, rfl, hv, hv, hd, hq _ fun _ _ => rfl⟩
  | bl b => simp at bv; simp [bv, bsub]; exact ⟨_, _, _, rfl, hv, hv, hd, hq _ fun _ _ => rfl⟩
  | int b => simp at bv; simp [bv, bsub]; exact ⟨_, _, _, rfl, hv, hv, hd, hq _ fun _ _ => rfl⟩
  | str b => simp at bv; simp [bv, bsub]; exact ⟨_, _, _, rfl, hv, hv, hd, hq _ fun _ _ => rfl⟩
  | tup b => simp at bv; simp [bv, bsub]; exact ⟨_, _, _, rfl, hv, hv, hd, hq _ fun _ _ => rfl⟩
/-- how often a part stands scattered, by going through the places of its first letter -/
def scatI : List Int → List Int → Int
  | [], _ => 1
  | p :: ps, word => (((List.range word.length).filter fun k => word[k]? = some p).map fun k => scatI ps (word.drop (k + 1))).sum
def sd__law_scattered : Nat → Pro
  | 0 => sdNo
  | n + 1 => fun ds G Q _ => ∃ part word : List Int, ds = [.tup (part.map .int), .tup (word.map .int)] ∧ part.length ≤ n ∧ word.length ≤ 1000 ∧ Q (.int (scatI part word)) G
theorem plns_ints {n : Nat} : ∀ {ns : List Int}, plns n (ns.map .int) = true
  | [] => by simp [plns]
  | i :: ns => by
    rw [List.map_cons]
    unfold plns
    rw [plns_ints]
    cases n <;> rfl
theorem eq_tup0 {ns : List Int} {G : DHp} {Q : DK} : rEqD false (.tup (ns.map .int)) (.tup []) G Q = Q (.bl ns.isEmpty) G := by
  unfold rEqD
  rw [s_vw (by simp), s_vw (by simp)]
  have h1 : pln 60 (.tup (ns.map .int)) = true := by show plns 59 _ = true; exact plns_ints
  have h2 : pln 60 (.tup []) = true := rfl
  have h3 : deqv (.tup (ns.map .int)) (.tup []) = ns.isEmpty := by
    cases ns with
    | nil => rfl
    | cons i ns => rfl
  simp [h1, h2, h3]
theorem cut_from {ns : List Int} {k : Nat} : cutD (ns.map D.int) (some (k : Int)) none = (ns.drop k).map .int := by
  rw [cutD_map]
  congr 1
  have h1 : HT.sIx ns.length 0 (some (k : Int)) = min k ns.length := HT.sIx_nat _ _ _
  rw [h1]
  show List.take (ns.length - min k ns.length) (List.drop (min k ns.length) ns) = ns.drop k
  by_cases c : k ≤ ns.length
  · rw [Nat.min_eq_left c]
    exact List.take_of_length_le (by rw [List.length_drop]; omega)
  · rw [Nat.min_eq_right (by omega), List.drop_eq_nil_of_le (Nat.le_refl _), List.drop_eq_nil_of_le (by omega)]
    simp
theorem rng_filter {n : Nat} (b : Nat → Bool) (f : Nat → Int) (bD : D → Bool) (fD : D → D) (h1 : ∀ i : Nat, bD (.int i) = b i) (h2 : ∀ i : Nat, fD (.int i) = .int (f i)) : ((rngD 0 1 n).filter bD).map fD = (((List.range n).filter b).map f).map .int := by
  unfold rngD
  rw [List.filter_map, List.map_map, List.map_map]
  have e : (fun i : Nat => D.int (0 + (i : Int) * 1)) = fun i : Nat => D.int i := by funext i; simp
  rw [e]
  have e2 : bD ∘ (fun i : Nat => D.int (i : Int)) = b := by funext i; exact h1 i
  rw [e2]
  refine List.map_congr_left fun i _ => ?_
  exact h2 i
theorem pure__law_scattered (n : Nat) (ds : List D) (G : DHp) (Q : DK) (E : DXK) (h : sd__law_scattered (n + 1) ds G Q E) : t__law_scattered (sd__law_scattered n) (dEnd Q E) (startD N__law_scattered ds) G := by
  obtain ⟨part, word, rfl, hp, hw, hq⟩ := h
  show t__law_scattered (sd__law_scattered n) (dEnd Q E) [some (.tup (part.map .int)), some (.tup (word.map .int)), none] G
  have hl16 := l16
  cases part with
  | nil =>
    simp [t__law_scattered]
    unfold rEqD
    exact ⟨rfl, rfl, hq⟩
  | cons p ps =>
    obtain ⟨m, rfl⟩ : ∃ m, n = m + 1 := ⟨n - 1, by simp at hp; omega⟩
    simp [t__law_scattered]
    have e := fun K : DK => eq_tup0 (ns := p :: ps) (G := G) (Q := K)
    simp only [List.map_cons] at e
    rw [e]
    simp
    refine ⟨by unfold Ri; omega, fun q hq0 => ?_⟩
    refine lc_filter (fun x => match x with | .int i => decide (word[i.toNat]? = some p) | _ => false) (fun x => match x with | .int i => .int (scatI ps (word.drop (i.toNat + 1))) | _ => .non) hq0 _ [] (fun _ => gdT_) (fun x hx acc Qb qb => ?_) (fun x hx hb acc Q' q' => ?_) (by rw [rng_len]; simp; omega) ?_
    · obtain ⟨i, hi, rfl⟩ := rng_mem hx
      have e1 : atI (word.map D.int) (i : Int) = some (.int word[i]) := atI_map (List.getElem?_eq_getElem hi)
      have e2 : atI (D.int p :: ps.map D.int) 0 = some (.int p) := by
        have := atI_map (ns := p :: ps) (n := 0) (v := p) rfl
        simpa using this
      simp [wipeD, e1, e2, eq_int]
      simpa [List.getElem?_eq_getElem hi] using qb
    · obtain ⟨i, hi, rfl⟩ := rng_mem hx
      simp [wipeD]
      have c1 : cutD (D.int p :: ps.map D.int) (some 1) none = ps.map .int := by
        have := cut_from (ns := p :: ps) (k := 1)
        simpa using this
      have c2 : cutD (word.map D.int) (some ((i : Int) + 1)) none = (word.drop (i + 1)).map .int := by
        have := cut_from (ns := word) (k := i + 1)
        simpa using this
      rw [c1, c2]
      refine ⟨ps, word.drop (i + 1), rfl, by simp at hp; omega, by rw [List.length_drop]; omega, ?_⟩
      simpa using q'
    · rw [List.nil_append, rng_filter (fun i => decide (word[i]? = some p)) (fun i => scatI ps (word.drop (i + 1))) _ _ (fun i => by simp) (fun i => by simp)]
      rw [s_mkLf, s_sumL]
      exact hq
theorem map_rng {m : Nat} {w : List Int} : (rngD 0 1 m).map (fun y => D.tup (w.map .int ++ [y])) = ((List.range m).map fun l : Nat => w ++ [(l : Int)]).map tI := by
  unfold rngD
  rw [List.map_map, List.map_map]
  refine List.map_congr_left fun i _ => ?_
  simp [tI]
theorem updD_sw {G : DHp} {a p : Addr} {o1 o2 x y : DO} (ne : a ≠ p) : updD (updD (updD (updD G a o1) p x) a o2) p y = updD (updD G a o2) p y := by
  funext c
  unfold updD
  by_cases c1 : c = p
  · simp [c1]
  · by_cases c2 : c = a
    · simp [c1, c2, ne]
    · simp [c1, c2]
/-- draws, one behind another: each gives one of ls -/
theorem pick_items {m : Bool} {te : DTE} {vs : List Nat} {i : Nat} {p a : Addr} {ls : List Int} {n : Nat} {o : DO} {δ : DSt} {G : DHp} {Q : DK} {xs : List D} (hp : G p = none) (ha : G a = some o) (hb : BoxO (n + xs.length) o) (hl : xs.length ≤ sizeLine)
    (he : ∀ x (G' : DHp) (o' : DO) (k : Nat) (K : DK), G' a = some o' → BoxO (k + 1) o' → (∀ v o2, v ∈ ls → BoxO k o2 → K (.int v) (updD G' a o2)) → te E0 ((wipeD δ vs).set i (some x)) G' K)
    (hq : ∀ (w : List Int) o', w.length = xs.length → (∀ x ∈ w, x ∈ ls) → BoxO n o' → (updD G a o') p = none → lcEnd m p (w.map .int) (updD (updD G a o') p (.lst (w.map .int))) Q) : lcL m p vs (dgName i) dYes te gdT δ Q xs [] (updD G p (.lst [])) := by
  have ne : a ≠ p := fun z => by subst z; rw [ha] at hp; cases hp
  refine lc_run xs (P := fun done acc G' => ∃ (w : List Int) (o' : DO), acc = w.map .int ∧ w.length = done.length ∧ (∀ x ∈ w, x ∈ ls) ∧ BoxO (n + (xs.length - done.length)) o' ∧ G' = updD (updD G a o') p (.lst acc)) ?_ ?_ hl ?_ xs [] [] _ rfl rfl
    ⟨[], o, rfl, rfl, (fun x hx => nomatch hx), by simpa using hb, by rw [updD_id ha]⟩
  · rintro done acc G' ⟨w, o', h1, h2, h3, h4, h5⟩
    exact ⟨True.intro, by rw [h5]; exact updD_same⟩
  · rintro done x rest acc G' ht ⟨w, o', h1, h2, h3, h4, rfl⟩ hacc K hK
    have hlt : done.length < xs.length := by rw [ht]; simp
    have e : n + (xs.length - done.length) = n + (xs.length - (done.length + 1)) + 1 := by omega
    rw [e] at h4
    refine he x _ o' _ K (by rw [updD_ne ne]; exact updD_same) h4 fun v o2 hv hb2 => ?_
    refine hK _ _ (by rw [updD_ne (Ne.symm ne)]; exact updD_same) ⟨w ++ [v], o2, by rw [List.map_append, ← h1]; rfl, by simp [h2], fun y hy => ?_, by simpa using hb2, ?_⟩
    · rcases List.mem_append.mp hy with hy | hy
      · exact h3 y hy
      · rw [List.mem_singleton.mp hy]; exact hv
    · exact updD_sw ne
  · rintro acc G' ⟨w, o', h1, h2, h3, h4, rfl⟩ hacc
    subst h1
    refine hq w o' h2 h3 (by simpa using h4) ?_
    rw [updD_ne (Ne.symm ne)]; exact hp
/-! ### the plain law: three ways of counting -/
def cnt : List Int → List Int → Int
  | [], _ => 1
  | _ :: _, [] => 0
  | p :: ps, w :: ws => cnt (p :: ps) ws + if p = w then cnt ps ws else 0
theorem cnt_nil {ws : List Int} : cnt [] ws = 1 := by cases ws <;> rfl
theorem scat_cnt : ∀ (ps ws : List Int), scatI ps ws = cnt ps ws
  | [], ws => by rw [cnt_nil]; rfl
  | p :: ps, [] => rfl
  | p :: ps, w :: ws => by
    have ih1 := scat_cnt (p :: ps) ws
    have ih2 := scat_cnt ps ws
    rw [cnt, ← ih1, ← ih2]
    have e0 : ∀ us : List Int, scatI (p :: ps) us = (((List.range us.length).filter fun k => decide (us[k]? = some p)).map fun k => scatI ps (us.drop (k + 1))).sum := fun us => by cases us <;> rfl
    rw [e0 (w :: ws), e0 ws]
    rw [List.length_cons, List.range_succ_eq_map, List.filter_cons, List.filter_map]
    have e1 : ((fun k => decide ((w :: ws)[k]? = some p)) ∘ Nat.succ) = fun k => decide (ws[k]? = some p) := by funext k; simp
    rw [e1]
    have e2 : ∀ l : List Nat, (l.map Nat.succ).map (fun k => scatI ps (List.drop (k + 1) (w :: ws))) = l.map fun k => scatI ps (ws.drop (k + 1)) := fun l => by rw [List.map_map]; rfl
    by_cases c : w = p
    · subst c
      rw [if_pos (by simp), if_pos rfl, List.map_cons, e2, List.sum_cons, Int.add_comm]
      rfl
    · rw [if_neg (by simp [c]), if_neg (fun z => c z.symm), e2, Int.add_zero]
theorem cnt_snoc : ∀ (ws ps : List Int) (p w : Int), cnt (ps ++ [p]) (ws ++ [w]) = cnt (ps ++ [p]) ws + if p = w then cnt ps ws else 0
  | [], [], p, w => by simp [cnt]
  | [], q :: qs, p, w => by
    show cnt (q :: (qs ++ [p])) [] + (if q = w then cnt (qs ++ [p]) [] else 0) = cnt (q :: (qs ++ [p])) [] + if p = w then cnt (q :: qs) [] else 0
    have : cnt (qs ++ [p]) [] = 0 := by cases qs <;> rfl
    rw [this]
    simp [cnt]
  | v :: ws, [], p, w => by
    have ih := cnt_snoc ws [] p w
    show cnt [p] (ws ++ [w]) + (if p = v then cnt [] (ws ++ [w]) else 0) = (cnt [p] ws + if p = v then cnt [] ws else 0) + if p = w then cnt [] (v :: ws) else 0
    rw [List.nil_append] at ih
    rw [ih]
    simp only [cnt_nil]
    split <;> split <;> omega
  | v :: ws, q :: qs, p, w => by
    have ih1 := cnt_snoc ws (q :: qs) p w
    have ih2 := cnt_snoc ws qs p w
    show cnt (q :: (qs ++ [p])) (ws ++ [w]) + (if q = v then cnt (qs ++ [p]) (ws ++ [w]) else 0) = (cnt (q :: (qs ++ [p])) ws + if q = v then cnt (qs ++ [p]) ws else 0) + if p = w then (cnt (q :: qs) ws + if q = v then cnt qs ws else 0) else 0
    rw [List.cons_append] at ih1
    rw [ih1, ih2]
    split <;> split <;> omega
theorem rev_ind {α : Type} {P : List α → Prop} (h0 : P []) (h1 : ∀ ws w, P ws → P (ws ++ [w])) (ws : List α) : P ws := by
  have : ∀ us : List α, P us.reverse := fun us => by
    induction us with
    | nil => exact h0
    | cons u us ih => rw [List.reverse_cons]; exact h1 _ _ ih
  have h := this ws.reverse
  rwa [List.reverse_reverse] at h
theorem fold_cnt (part : List Int) : ∀ (ws : List Int) (j : Nat), j ≤ part.length → (ws.foldl (stepI part) (1 :: List.replicate part.length 0))[j]? = some (cnt (part.take j) ws) := by
  refine fun ws => rev_ind (P := fun ws => ∀ (j : Nat), j ≤ part.length → (ws.foldl (stepI part) (1 :: List.replicate part.length 0))[j]? = some (cnt (part.take j) ws)) ?_ ?_ ws
  · intro j hj
    cases j with
    | zero => rfl
    | succ j =>
      have hj' : j < part.length := hj
      show (1 :: List.replicate part.length 0)[j + 1]? = _
      rw [List.getElem?_cons_succ, List.getElem?_replicate, if_pos hj']
      have : part.take (j + 1) = part[0] :: (part.take (j + 1)).tail := by
        cases part with
        | nil => simp at hj'
        | cons a as => rfl
      rw [this]
      rfl
  · intro ws w ih j hj
    rw [List.foldl_append]
    show (stepI part (ws.foldl (stepI part) _) w)[j]? = _
    unfold stepI
    rw [List.getElem?_mapIdx]
    have h1 := ih j hj
    unfold stepI at h1
    rw [h1]
    simp only [Option.map_some]
    congr 1
    cases j with
    | zero => simp [cnt_nil]
    | succ j =>
      have hj' : j < part.length := hj
      have h2 := ih j (by omega)
      unfold stepI at h2
      have e : part.take (j + 1) = part.take j ++ [part[j]] := by rw [List.take_succ, List.getElem?_eq_getElem hj']; rfl
      rw [e, cnt_snoc]
      have h3 : (List.foldl (fun ws l => List.mapIdx (fun i w => if 0 < i ∧ part[i - 1]? = some l then w + ws.getD (i - 1) 0 else w) ws) (1 :: List.replicate part.length 0) ws).getD j 0 = cnt (part.take j) ws := by rw [List.getD_eq_getElem?_getD, h2]; rfl
      rw [Nat.add_sub_cancel, h3, List.getElem?_eq_getElem hj']
      by_cases c : part[j] = w
      · rw [if_pos ⟨Nat.succ_pos _, congrArg some c⟩, if_pos c]
      · rw [if_neg (fun z => c (Option.some.inj z.2)), if_neg c, Int.add_zero]
theorem foldl_len (part : List Int) : ∀ (ws init : List Int), (ws.foldl (stepI part) init).length = init.length
  | [], _ => rfl
  | w :: ws, init => by rw [List.foldl_cons, foldl_len part ws, stepI_len]
theorem ways_scat (part word : List Int) : waysI part word = scatI part word := by
  rw [scat_cnt]
  unfold waysI
  have h := fold_cnt part word part.length (Nat.le_refl _)
  rw [List.take_length] at h
  have hl := foldl_len part word (1 :: List.replicate part.length 0)
  rw [List.length_cons, List.length_replicate] at hl
  rw [List.getLastD_eq_getLast?, List.getLast?_eq_getElem?, hl, Nat.add_sub_cancel, h]
  rfl
theorem step_head {part ws : List Int} {l : Int} (h : ws[0]? = some 1) : (stepI part ws l)[0]? = some 1 := by
  unfold stepI
  rw [List.getElem?_mapIdx, h]
  simp
theorem step_form {part ws : List Int} {l : Int} (h0 : ws[0]? = some 1) (hl : ws.length = part.length + 1) : stepI part ws l = 1 :: (List.range part.length).map fun k => ws.getD (k + 1) 0 + if part[k]? = some l then ws.getD k 0 else 0 := by
  apply List.ext_getElem?
  intro i
  cases i with
  | zero => rw [step_head h0]; rfl
  | succ i =>
    rw [List.getElem?_cons_succ, List.getElem?_map]
    unfold stepI
    rw [List.getElem?_mapIdx]
    by_cases hi : i < part.length
    · have e1 : ws[i + 1]? = some (ws.getD (i + 1) 0) := by rw [List.getD_eq_getElem?_getD, List.getElem?_eq_getElem (by omega)]; rfl
      rw [List.getElem?_range hi, e1]
      simp only [Option.map_some, Nat.add_sub_cancel]
      by_cases c : part[i]? = some l
      · rw [if_pos ⟨Nat.succ_pos _, c⟩, if_pos c]
      · rw [if_neg (fun z => c z.2), if_neg c, Int.add_zero]
    · have e1 : (List.range part.length)[i]? = none := List.getElem?_eq_none (by rw [List.length_range]; omega)
      have e2 : ws[i + 1]? = none := List.getElem?_eq_none (by omega)
      rw [e1, e2]
      rfl
theorem plns_of {n : Nat} : ∀ {xs : List D}, (∀ x ∈ xs, pln n x = true) → plns n xs = true
  | [], _ => by unfold plns; rfl
  | x :: xs, h => by unfold plns; rw [h x List.mem_cons_self, plns_of fun y hy => h y (List.mem_cons_of_mem _ hy)]; rfl
theorem deqv_nil {xs : List D} : deqv (.lst xs) (.lst []) = xs.isEmpty := by
  cases xs <;> rfl
theorem isPart_ints {ws : List Int} (h1 : 1 ≤ ws.length) (h2 : ws.length ≤ 3) (h : ∀ x ∈ ws, 0 ≤ x ∧ x ≤ 1000) : isPart (.tup (ws.map .int)) = true := by
  unfold isPart
  rw [isWord_ints (by omega) h]
  simp [h1, h2]
theorem pl_ints {G : DHp} {ws : List Int} : Pl G (.tup (ws.map .int)) := ⟨⟨_, rfl⟩, (fun xs h => by cases h), fun xs h x hx => by
  cases h
  obtain ⟨n, _, rfl⟩ := List.mem_map.mp hx
  exact ⟨_, rfl⟩⟩
theorem ok_told : PyData.strOk ("told" : Str) = true := by decide +kernel
theorem vw_told {G : DHp} {i : Int} : Vw G (.lst [.str "told", .int i]) (.lst [.str "told", .int i]) := by
  unfold Vw
  refine ⟨_, .inl ⟨rfl, ?_⟩, by rw [l16]; simp⟩
  unfold VwL
  refine ⟨_, _, rfl, by unfold Vw; exact ⟨rfl, ok_told⟩, ?_⟩
  unfold VwL
  exact ⟨_, _, rfl, by unfold Vw; rfl, by unfold VwL; rfl⟩
def trI (w : List Int) : Tr := .tup (w.map .int)
theorem vwl_ints {G : DHp} : ∀ {ws : List Int}, VwL G (ws.map .int) (ws.map .int)
  | [] => by show VwL G [] []; unfold VwL; rfl
  | w :: ws => by
    show VwL G (.int w :: ws.map .int) (.int w :: ws.map .int)
    unfold VwL
    exact ⟨_, _, rfl, by unfold Vw; rfl, vwl_ints⟩
theorem depL_ints : ∀ {ws : List Int}, Tr.depL (ws.map .int) = 0
  | [] => rfl
  | w :: ws => by
    show max 0 (Tr.depL (ws.map .int)) = 0
    rw [depL_ints]; rfl
theorem vwl_tups {G : DHp} : ∀ {ws : List (List Int)}, (∀ w ∈ ws, w.length ≤ 1000) → VwL G (ws.map trI) (ws.map tI)
  | [], _ => by show VwL G [] []; unfold VwL; rfl
  | w :: ws, h => by
    show VwL G (trI w :: ws.map trI) (tI w :: ws.map tI)
    unfold VwL
    refine ⟨_, _, rfl, ?_, vwl_tups fun v hv => h v (List.mem_cons_of_mem _ hv)⟩
    unfold trI Vw
    have := h w List.mem_cons_self
    have hl16 := l16
    exact ⟨_, rfl, by rw [List.length_map]; omega, vwl_ints⟩
theorem depL_tups : ∀ {ws : List (List Int)}, Tr.depL (ws.map trI) ≤ 1
  | [] => by show 0 ≤ 1; omega
  | w :: ws => by
    show max (Tr.depL (w.map .int) + 1) (Tr.depL (ws.map trI)) ≤ 1
    rw [depL_ints]
    have := depL_tups (ws := ws)
    omega
theorem VwL.app {G : DHp} : ∀ {ts us : List Tr} {xs ys : List D}, VwL G ts xs → VwL G us ys → VwL G (ts ++ us) (xs ++ ys)
  | [], us, xs, ys, h, k => by unfold VwL at h; subst h; exact k
  | t :: ts, us, xs, ys, h, k => by
    unfold VwL at h
    obtain ⟨y, r, e1, h1, h2⟩ := h
    subst e1
    show VwL G (t :: (ts ++ us)) (y :: (r ++ ys))
    unfold VwL
    exact ⟨y, _, rfl, h1, VwL.app h2 k⟩
mutual
/-- neither lists nor dicts in it -/
def Tr.flat : Tr → Bool
  | .lst _ => false
  | .dic _ _ => false
  | .tup ts => Tr.flatL ts
  | _ => true
def Tr.flatL : List Tr → Bool
  | [] => true
  | t :: ts => t.flat && Tr.flatL ts
end
mutual
theorem vw_pln {G : DHp} : ∀ {t : Tr} {n : Nat} {d : D}, Vw G t d → t.flat = true → t.dep ≤ n → pln n d = true
  | .non, n, d, h, _, _ => by unfold Vw at h; subst h; unfold pln; rfl
  | .bl b, n, d, h, _, _ => by unfold Vw at h; subst h; unfold pln; rfl
  | .int i, n, d, h, _, _ => by unfold Vw at h; subst h; unfold pln; rfl
  | .str z, n, d, h, _, _ => by unfold Vw at h; obtain ⟨h, k⟩ := h; subst h; unfold pln; exact k
  | .lst _, _, _, _, f, _ => by cases f
  | .dic _ _, _, _, _, f, _ => by cases f
  | .tup ts, 0, d, h, f, l => by unfold Tr.dep at l; omega
  | .tup ts, n + 1, d, h, f, l => by
    unfold Vw at h
    obtain ⟨xs, h1, h2, h3⟩ := h
    subst h1
    unfold Tr.dep at l
    unfold pln
    exact vwl_pln h3 f (by omega)
theorem vwl_pln {G : DHp} : ∀ {ts : List Tr} {n : Nat} {ds : List D}, VwL G ts ds → Tr.flatL ts = true → Tr.depL ts ≤ n → plns n ds = true
  | [], n, ds, h, _, _ => by unfold VwL at h; subst h; unfold plns; rfl
  | t :: ts, n, ds, h, f, l => by
    unfold VwL at h
    obtain ⟨y, r, e1, h1, h2⟩ := h
    subst e1
    unfold Tr.flatL at f
    rw [Bool.and_eq_true] at f
    unfold Tr.depL at l
    unfold plns
    rw [vw_pln h1 f.1 (by omega), vwl_pln h2 f.2 (by omega)]
    rfl
end
theorem plns_mem {n : Nat} : ∀ {xs : List D}, plns n xs = true → ∀ x ∈ xs, pln n x = true
  | [], _, x, h => nomatch h
  | y :: ys, h, x, hx => by
    unfold plns at h
    rw [Bool.and_eq_true] at h
    rcases List.mem_cons.mp hx with e | hx
    · rw [e]; exact h.1
    · exact plns_mem h.2 x hx
def betwT (t : Tr) (lo hi : Int) : Bool := match t with
  | .int i => decide (lo ≤ i) && decide (i ≤ hi)
  | _ => false
theorem Vw.betw {G : DHp} {t : Tr} {d : D} {lo hi : Int} (h : Vw G t d) : k02.betw d lo hi = betwT t lo hi := by
  cases t with
  | non => unfold Vw at h; subst h; rfl
  | bl b => unfold Vw at h; subst h; rfl
  | int b => unfold Vw at h; subst h; rfl
  | str b => unfold Vw at h; obtain ⟨h, _⟩ := h; subst h; rfl
  | tup b => unfold Vw at h; obtain ⟨xs, h, _⟩ := h; subst h; rfl
  | lst b =>
    unfold Vw at h
    obtain ⟨xs, ⟨h, _⟩ | ⟨a, h, g, _⟩, _⟩ := h
    · subst h; rfl
    · subst h; rfl
  | dic ks ts =>
    unfold Vw at h
    obtain ⟨a, xs, h, g, _⟩ := h
    subst h; rfl
theorem VwL.all {G : DHp} {lo hi : Int} : ∀ {ts : List Tr} {xs : List D}, VwL G ts xs → (xs.all fun x => k02.betw x lo hi) = ts.all fun t => betwT t lo hi
  | [], xs, h => by unfold VwL at h; subst h; rfl
  | t :: ts, xs, h => by
    unfold VwL at h
    obtain ⟨y, r, e1, h1, h2⟩ := h
    subst e1
    rw [List.all_cons, List.all_cons, h1.betw, VwL.all h2]
def isWordT : Tr → Bool
  | .tup ts => decide (ts.length ≤ 100) && ts.all fun t => betwT t 0 1000
  | _ => false
def isPartT (t : Tr) : Bool := isWordT t && match t with
  | .tup xs => decide (1 ≤ xs.length) && decide (xs.length ≤ 3)
  | _ => false
theorem Vw.word {G : DHp} {t : Tr} {d : D} (h : Vw G t d) : isWord d = isWordT t ∧ isPart d = isPartT t := by
  cases t with
  | non => unfold Vw at h; subst h; exact ⟨rfl, rfl⟩
  | bl b => unfold Vw at h; subst h; exact ⟨rfl, rfl⟩
  | int b => unfold Vw at h; subst h; exact ⟨rfl, rfl⟩
  | str b => unfold Vw at h; obtain ⟨h, _⟩ := h; subst h; exact ⟨rfl, rfl⟩
  | tup b =>
    unfold Vw at h
    obtain ⟨xs, h, _, h2⟩ := h
    subst h
    have e : isWord (.tup xs) = isWordT (.tup b) := by
      unfold isWord isWordT
      dsimp only
      rw [h2.all, h2.len]
    refine ⟨e, ?_⟩
    unfold isPart isPartT
    rw [e]
    dsimp only
    rw [h2.len]
  | lst b =>
    unfold Vw at h
    obtain ⟨xs, ⟨h, _⟩ | ⟨a, h, g, _⟩, _⟩ := h
    · subst h; exact ⟨rfl, rfl⟩
    · subst h; exact ⟨rfl, rfl⟩
  | dic ks ts =>
    unfold Vw at h
    obtain ⟨a, xs, h, g, _⟩ := h
    subst h; exact ⟨rfl, rfl⟩
theorem VwL.btyps {G : DHp} : ∀ {ts : List Tr} {xs : List D}, VwL G ts xs → ∀ x ∈ xs, ∃ t, DL.btyp G x = some t
  | [], xs, h, x, hx => by unfold VwL at h; subst h; cases hx
  | t :: ts, xs, h, x, hx => by
    unfold VwL at h
    obtain ⟨y, r, e1, h1, h2⟩ := h
    subst e1
    rcases List.mem_cons.mp hx with e | hx
    · rw [e]; exact ⟨_, h1.btyp⟩
    · exact VwL.btyps h2 x hx
theorem Vw.pl {G : DHp} {t : Tr} {d : D} (h : Vw G t d) : Pl G d := by
  refine ⟨⟨_, h.btyp⟩, ?_, ?_⟩
  · rintro xs rfl
    cases t <;> (unfold Vw at h; simp at h)
  · rintro xs rfl
    cases t with
    | tup ts =>
      unfold Vw at h
      obtain ⟨ys, e, _, h2⟩ := h
      cases e
      exact h2.btyps
    | _ => unfold Vw at h; simp at h
/-- a tree that the law may ask with -/
def okT (t : Tr) : Bool := decide (t.dep ≤ 50) && t.smp && match t with
  | .lst ts => decide (ts.length ≤ 1000)
  | .tup ts => Tr.flatL ts && decide (ts.length ≤ 1000)
  | _ => true
structure OkT (t : Tr) : Prop where
  dep : t.dep ≤ 50
  smp : t.smp = true
  lst : ∀ ts, t = .lst ts → ts.length ≤ 1000
  tup : ∀ ts, t = .tup ts → Tr.flatL ts = true ∧ ts.length ≤ 1000
theorem okT_of {t : Tr} (h : okT t = true) : OkT t := by
  unfold okT at h
  simp only [Bool.and_eq_true, decide_eq_true_eq] at h
  refine ⟨h.1.1, h.1.2, ?_, ?_⟩
  · rintro ts rfl
    simpa using h.2
  · rintro ts rfl
    simpa using h.2
/-- a copy: it may be changed -/
structure Cpy (G G1 : DHp) (t : Tr) (r : D) : Prop where
  grow : Grow G G1
  fresh : ∀ b, r = .ref b → G b = none
  vw : Vw G1 t r
  lst : ∀ ts, t = .lst ts → ∃ a, r = .ref a
  dic : ∀ ks ts, t = .dic ks ts → ∃ a, r = .ref a ∧ G1 a = some (.dic 0 [] [])
theorem copied {G : DHp} {t : Tr} {v : D} {K : DK} {E : DXK} (hv : Vw G t v) (ok : OkT t) (hK : ∀ r G1, Cpy G G1 t r → K r G1) : sd__law_copy 51 [v] G K E := by
  refine ⟨v, t, rfl, hv, ok.dep, ok.smp, fun r G1 g vr h1 h2 => hK r G1 ⟨g, ?_, vr.ext (.of fun a o e => (newH_some.mp e).2), h1, h2⟩⟩
  rintro b rfl
  cases t with
  | lst ts =>
    unfold Vw at vr
    obtain ⟨xs, ⟨h, _⟩ | ⟨a, h, g, _⟩, _⟩ := vr
    · cases h
    · cases h
      exact (newH_some.mp g).1
  | dic ks ts =>
    unfold Vw at vr
    obtain ⟨a, xs, h, g, _⟩ := vr
    cases h
    rcases g with g | g
    · exact (newH_some.mp g).1
    · exact (newH_some.mp g).1
  | _ => unfold Vw at vr; simp at vr
theorem veried {G G1 : DHp} {t : Tr} {r : D} {K : DK} {E : DXK} (ok : OkT t) (c : Cpy G G1 t r) (hK : ∀ G2, Grow G G2 → K (.bl true) G2) : sd__law_very [r, r] G1 K E := by
  refine ⟨r, t, rfl, c.vw, ok.dep, ok.smp, fun ts e => ⟨c.lst ts e, ok.lst ts e⟩, c.dic, fun G2 h => hK G2 fun b o e => ?_⟩
  rw [h b fun z => by have := c.fresh b z; rw [e] at this; cases this]
  exact c.grow b o e
theorem at0 {x y : D} : atI [x, y] 0 = some x := rfl
theorem at1 {x y : D} : atI [x, y] 1 = some y := rfl
def tr0 : Tr := .int 0
theorem vwl_nil {G : DHp} : VwL G [] [] := by unfold VwL; rfl
theorem vwl_cons {G : DHp} {t : Tr} {x : D} {ts : List Tr} {xs : List D} (h : Vw G t x) (k : VwL G ts xs) : VwL G (t :: ts) (x :: xs) := by unfold VwL; exact ⟨x, xs, rfl, h, k⟩
theorem vw_non {G : DHp} : Vw G .non .non := by unfold Vw; rfl
theorem vw_bl {G : DHp} {b : Bool} : Vw G (.bl b) (.bl b) := by unfold Vw; rfl
theorem vw_int {G : DHp} {b : Int} : Vw G (.int b) (.int b) := by unfold Vw; rfl
theorem vw_str {G : DHp} {b : Str} (h : PyData.strOk b = true) : Vw G (.str b) (.str b) := by unfold Vw; exact ⟨rfl, h⟩
theorem vw_tup {G : DHp} {ts : List Tr} {xs : List D} (h : VwL G ts xs) (l : ts.length ≤ 1000) : Vw G (.tup ts) (.tup xs) := by unfold Vw; exact ⟨xs, rfl, by rw [h.len, l16]; omega, h⟩
theorem vw_lst {G : DHp} {ts : List Tr} {xs : List D} (h : VwL G ts xs) (l : ts.length ≤ 1000) : Vw G (.lst ts) (.lst xs) := by unfold Vw; exact ⟨xs, .inl ⟨rfl, h⟩, by rw [h.len, l16]; omega⟩
theorem vw_dic {G : DHp} {p : Addr} (h : G p = some (.dic 0 [] [])) : Vw G (.dic [] []) (.ref p) := by unfold Vw; exact ⟨p, [], rfl, .inl h, Nat.zero_le _, List.nodup_nil, rfl, vwl_nil⟩
theorem vwl_rep {G : DHp} {i : Int} : ∀ {n : Nat}, VwL G (List.replicate n (.int i)) (List.replicate n (.int i))
  | 0 => vwl_nil
  | n + 1 => vwl_cons vw_int vwl_rep
theorem VwL.inv {G : DHp} {ts : List Tr} {x : D} {xs : List D} (h : VwL G ts (x :: xs)) : ∃ t r, ts = t :: r ∧ Vw G t x ∧ VwL G r xs := by
  cases ts with
  | nil => unfold VwL at h; cases h
  | cons t r =>
    unfold VwL at h
    obtain ⟨y, s, e, h1, h2⟩ := h
    injection e with e1 e2
    subst e1 e2
    exact ⟨t, r, rfl, h1, h2⟩
theorem ok_01 : PyData.strOk ("01" : Str) = true := by decide +kernel
theorem ok_1 : PyData.strOk ("1" : Str) = true := by decide +kernel
theorem ok_2 : PyData.strOk ("2" : Str) = true := by decide +kernel
theorem ok_word : PyData.strOk ("word" : Str) = true := by decide +kernel
theorem ok_part : PyData.strOk ("part" : Str) = true := by decide +kernel
theorem ok_letters : PyData.strOk ("letters" : Str) = true := by decide +kernel
theorem ok_number : PyData.strOk ("number" : Str) = true := by decide +kernel
theorem ok_list {ts : List Tr} (h : ts.all okT = true) : ∀ t ∈ ts, OkT t := fun t ht => okT_of (List.all_eq_true.mp h t ht)
theorem veried0 {G : DHp} {t : Tr} {r : D} {K : DK} {E : DXK} (ok : OkT t) (v : Vw G t r) (nr : ∀ b, r ≠ .ref b) (hl : ∀ ts, t ≠ .lst ts) (hd : ∀ ks ts, t ≠ .dic ks ts) (hK : K (.bl true) G) : sd__law_very [r, r] G K E := by
  refine ⟨r, t, rfl, v, ok.dep, ok.smp, fun ts e => absurd e (hl ts), fun ks ts e => absurd e (hd ks ts), fun G2 h => ?_⟩
  have : G2 = G := funext fun b => h b (nr b)
  rw [this]
  exact hK
/-! ### the promises: lengths, and that more may be wanted -/
theorem so_no {n : Nat} : SdOk n sdNo := ⟨fun _ _ _ _ h => h.elim, fun _ _ _ _ _ _ _ _ h => h⟩
theorem so_is_integer : SdOk 1 sd_is_integer := ⟨by rintro ds G Q E ⟨d, t, rfl, _⟩; rfl, fun ds G Q Q' E E' i j => by rintro ⟨d, t, e, h, q⟩; exact ⟨d, t, e, h, i _ _ q⟩⟩
theorem so_is_between : SdOk 3 sd_is_between := ⟨by rintro ds G Q E ⟨d, t, lo, hi, rfl, _⟩; rfl, fun ds G Q Q' E E' i j => by rintro ⟨d, t, lo, hi, e, h, q⟩; exact ⟨d, t, lo, hi, e, h, i _ _ q⟩⟩
theorem so_is_word : SdOk 1 sd_is_word := ⟨by rintro ds G Q E ⟨d, rfl, _⟩; rfl, fun ds G Q Q' E E' i j => by rintro ⟨d, e, h, q⟩; exact ⟨d, e, h, i _ _ q⟩⟩
theorem so_need_word : SdOk 1 sd_need_word := ⟨by rintro ds G Q E ⟨d, rfl, _⟩; rfl, fun ds G Q Q' E E' i j => by rintro ⟨d, e, h, q1, q2⟩; exact ⟨d, e, h, fun c => i _ _ (q1 c), fun c => j _ _ _ (q2 c)⟩⟩
theorem so_ways_of : SdOk 2 sd_ways_of := ⟨by rintro ds G Q E ⟨p, w, rfl, _⟩; rfl, fun ds G Q Q' E E' i j => by rintro ⟨p, w, e, h, q⟩; exact ⟨p, w, e, h, i _ _ q⟩⟩
theorem so_scattered : SdOk 2 sd_scattered := ⟨by rintro ds G Q E ⟨p, w, rfl, _⟩; rfl, fun ds G Q Q' E E' i j => by
  rintro ⟨p, w, e, h, q1, q2⟩
  exact ⟨p, w, e, h, fun c => j _ _ _ (q1 c), fun c => ⟨(q2 c).1, fun c2 => j _ _ _ ((q2 c).2.1 c2), fun pn wn a b c3 => i _ _ ((q2 c).2.2 pn wn a b c3)⟩⟩⟩
theorem so__law_cell : SdOk 2 sd__law_cell := ⟨by rintro ds G Q E ⟨p, w, rfl, _⟩; rfl, fun ds G Q Q' E E' i j => by rintro ⟨p, w, e, h, q⟩; exact ⟨p, w, e, h, fun v => i _ _ (q v)⟩⟩
theorem so__law_box : SdOk 1 sd__law_box := ⟨by rintro ds G Q E ⟨p, rfl, _⟩; rfl, fun ds G Q Q' E E' i j => by rintro ⟨p, e, q⟩; exact ⟨p, e, fun p o a b => i _ _ (q p o a b)⟩⟩
theorem so__law_take : SdOk 2 sd__law_take := ⟨by rintro ds G Q E ⟨a, m, n, o, rfl, _⟩; rfl, fun ds G Q Q' E E' i j => by rintro ⟨a, m, n, o, e, h1, h2, h3, h4, q⟩; exact ⟨a, m, n, o, e, h1, h2, h3, h4, fun v o' a b c => i _ _ (q v o' a b c)⟩⟩
theorem so__law_pick : SdOk 2 sd__law_pick := ⟨by rintro ds G Q E ⟨a, m, n, o, rfl, _⟩; rfl, fun ds G Q Q' E E' i j => by rintro ⟨a, m, n, o, e, h1, h2, h3, h4, q⟩; exact ⟨a, m, n, o, e, h1, h2, h3, h4, fun v o' a b => i _ _ (q v o' a b)⟩⟩
theorem so__law_same : ∀ n, SdOk 2 (sd__law_same n)
  | 0 => so_no
  | n + 1 => ⟨by rintro ds G Q E ⟨a, m, n, rfl, _⟩; rfl, fun ds G Q Q' E E' i j => by rintro ⟨a, m, n, e, h1, h2, h3, q⟩; exact ⟨a, m, n, e, h1, h2, h3, i _ _ q⟩⟩
theorem so__law_copy : ∀ n, SdOk 1 (sd__law_copy n)
  | 0 => so_no
  | n + 1 => ⟨by rintro ds G Q E ⟨a, m, rfl, _⟩; rfl, fun ds G Q Q' E E' i j => by rintro ⟨a, m, e, h1, h2, h3, q⟩; exact ⟨a, m, e, h1, h2, h3, fun r G' a b c d => i _ _ (q r G' a b c d)⟩⟩
theorem so__law_very : SdOk 2 sd__law_very := ⟨by rintro ds G Q E ⟨r, t, rfl, _⟩; rfl, fun ds G Q Q' E E' i j => by rintro ⟨r, t, e, h1, h2, h3, h4, h5, q⟩; exact ⟨r, t, e, h1, h2, h3, h4, h5, fun G' a => i _ _ (q G' a)⟩⟩
theorem so__law_scattered : ∀ n, SdOk 2 (sd__law_scattered n)
  | 0 => so_no
  | n + 1 => ⟨by rintro ds G Q E ⟨a, m, rfl, _⟩; rfl, fun ds G Q Q' E E' i j => by rintro ⟨a, m, e, h1, h2, q⟩; exact ⟨a, m, e, h1, h2, i _ _ q⟩⟩
end k02
end DL
set_option Elab.async false
set_option linter.all false
namespace DL
namespace k02
open PySem PySem.Spec PyProof.Rows L2
def isSeqT : Tr → Bool
  | .lst _ => true
  | .tup _ => true
  | _ => false
def sd_is_list : Pro := fun ds G Q _ => ∃ d t, ds = [d] ∧ Vw G t d ∧ Q (.bl (isSeqT t)) G
theorem pure_is_list (ds : List D) (G : DHp) (Q : DK) (E : DXK) (h : sd_is_list ds G Q E) : t_is_list (dEnd Q E) (startD N_is_list ds) G := by
  obtain ⟨d, t, rfl, v, hq⟩ := h
  show t_is_list (dEnd Q E) [some d] G
  have hl16 := l16
  have bt := v.btyp
  cases t <;> (simp at bt; simp [t_is_list, bt, isCls, isiB, bsub, btyps]; exact ⟨by omega, hq⟩)
def isLetT : Tr → Bool
  | .lst ts => ts.all fun t => betwT t 0 (10 ^ 30)
  | .tup ts => ts.all fun t => betwT t 0 (10 ^ 30)
  | _ => false
def sd_need_letters : Pro := fun ds G Q E => ∃ d t, ds = [d] ∧ Vw G t d ∧ (isLetT t = true → Q .non G) ∧ (isLetT t = false → E "InvalidLetters" [("given", d)] G)
theorem vw_seq_ex {G : DHp} {t : Tr} {d : D} (v : Vw G t d) (s : isSeqT t = true) : ∃ (ts : List Tr) (xs : List D), asS G d = some xs ∧ xs.length ≤ sizeLine ∧ VwL G ts xs ∧ isLetT t = (ts.all fun t => betwT t 0 (10 ^ 30)) ∧ (∀ p o, G p = none → gdS d xs (updD G p o)) := by
  cases t with
  | lst ts =>
    obtain ⟨xs, h1, h2, h3, h4, _⟩ := v.seq
    refine ⟨ts, xs, h1, h3, h4, rfl, fun p o hp => ?_⟩
    unfold Vw at v
    obtain ⟨ys, ⟨v, _⟩ | ⟨a, v, g, _⟩, _⟩ := v
    · subst v; cases h1; exact gdS_l
    · subst v; rw [s_asSr g] at h1; cases h1; exact gdS_r g hp
  | tup ts =>
    unfold Vw at v
    obtain ⟨xs, v, l, h⟩ := v
    subst v
    exact ⟨ts, xs, rfl, l, h, rfl, fun _ _ _ => gdS_t⟩
  | _ => cases s
theorem pure_need_letters (ds : List D) (G : DHp) (Q : DK) (E : DXK) (h : sd_need_letters ds G Q E) : t_need_letters sd_is_list sd_is_between (dEnd Q E) (startD N_need_letters ds) G := by
  obtain ⟨d, t, rfl, v, h1, h2⟩ := h
  show t_need_letters sd_is_list sd_is_between (dEnd Q E) [some d, none] G
  have hl16 := l16
  simp [t_need_letters]
  refine ⟨d, t, rfl, v, ?_⟩
  cases c : isSeqT t with
  | false =>
    have : isLetT t = false := by cases t <;> first | rfl | cases c
    simp
    exact h2 this
  | true =>
    obtain ⟨ts, xs, e1, e2, e3, e4, e5⟩ := vw_seq_ex v c
    simp
    refine .inl ⟨xs, e1, fun p hp => ?_⟩
    refine lc_map (fun x => .bl (betw x 0 (10 ^ 30))) hp (fun _ => e5 _ _ hp) (fun x hm acc Q' q => ?_) e2 ?_
    · obtain ⟨t', ht'⟩ := e3.btyps x hm
      simp [wipeD]
      exact ⟨by unfold CPow; decide, x, t', 0, _, rfl, btyp_upd hp ht', q⟩
    · have e : xs.map (fun x => D.bl (betw x 0 (10 ^ 30))) = (xs.map fun x => betw x 0 (10 ^ 30)).map D.bl := by rw [List.map_map]; rfl
      simp only [s_mkLf]
      rw [e, s_allL]
      have e6 : (xs.map fun x => betw x 0 (10 ^ 30)).all id = isLetT t := by rw [e4, List.all_map, ← e3.all]; rfl
      rw [e6]
      cases c2 : isLetT t with
      | true => simp; exact h1 c2
      | false => simp; exact h2 c2
/-- letters by value -/
def LetsV (l : D) (ln : List Int) : Prop := l = .lst (ln.map .int) ∨ l = .tup (ln.map .int)
theorem inD_ints {x : Int} : ∀ {ln : List Int}, inD (.int x) (ln.map .int) = decide (x ∈ ln)
  | [] => rfl
  | y :: ln => by
    have ih := inD_ints (x := x) (ln := ln)
    unfold inD at ih ⊢
    rw [List.map_cons, List.any_cons, ih, deqv_int]
    by_cases c : y = x
    · simp [c]
    · have c' : ¬ x = y := fun z => c z.symm
      simp [c, c']
theorem all_flat {ln : List Int} : (ln.map D.int).all flatD = true := by
  rw [List.all_map, List.all_eq_true]
  intro x _
  rfl
theorem in_lets {neg : Bool} {x : Int} {l : D} {ln : List Int} {G : DHp} {Q : DK} (h : LetsV l ln) (q : Q (.bl (if neg then !decide (x ∈ ln) else decide (x ∈ ln))) G) : rInD neg (.int x) l G Q := by
  refine .inl ⟨ln.map .int, ?_, rfl, all_flat, by rw [inD_ints]; exact q⟩
  rcases h with rfl | rfl
  · exact .inl rfl
  · exact .inr rfl
/-- what a comprehension over a word's letters keeps -/
theorem filt_word {neg : Bool} {G : DHp} {Q : DK} {wn ln : List Int} {p : Addr} {vs : List Nat} {i : Nat} {tt : DTT} {te : DTE} {δ : DSt} {gd : DHp → Prop} (hp : G p = none) (hw : wn.length ≤ 1000) (hg : ∀ acc, gd (updD G p (.lst acc)))
    (ht : ∀ x acc (Qb : Bool → DHp → Prop), x ∈ wn → Qb (if neg then !decide (x ∈ ln) else decide (x ∈ ln)) (updD G p (.lst acc)) → tt E0 ((wipeD δ vs).set i (some (.int x))) (updD G p (.lst acc)) Qb)
    (he : ∀ x acc (Q : DK), x ∈ wn → Q (.int x) (updD G p (.lst acc)) → te E0 ((wipeD δ vs).set i (some (.int x))) (updD G p (.lst acc)) Q)
    (hq : Q (.lst ((wn.filter fun x => if neg then !decide (x ∈ ln) else decide (x ∈ ln)).map .int)) G) : lcL false p vs (dgName i) tt te gd δ Q (wn.map .int) [] (updD G p (.lst [])) := by
  have hl16 := l16
  refine lc_filter (fun x => match x with | .int x => if neg then !decide (x ∈ ln) else decide (x ∈ ln) | _ => false) id hp _ [] hg (fun x hm acc Qb q => ?_) (fun x hm hb acc Q' q => ?_) (by simp; omega) ?_
  · obtain ⟨n, hn, rfl⟩ := List.mem_map.mp hm
    exact ht n acc Qb hn q
  · obtain ⟨n, hn, rfl⟩ := List.mem_map.mp hm
    exact he n acc Q' hn q
  · rw [List.nil_append, List.map_id, List.filter_map]
    exact hq
def sd_only : Pro := fun ds G Q _ => ∃ (wn ln : List Int) (l : D), ds = [.tup (wn.map .int), l] ∧ LetsV l ln ∧ wn.length ≤ 1000 ∧ Q (.tup ((wn.filter fun x => decide (x ∈ ln)).map .int)) G
theorem pure_only (ds : List D) (G : DHp) (Q : DK) (E : DXK) (h : sd_only ds G Q E) : t_only (dEnd Q E) (startD N_only ds) G := by
  obtain ⟨wn, ln, l, rfl, hl, hw, hq⟩ := h
  show t_only (dEnd Q E) [some (.tup (wn.map .int)), some l, none] G
  simp [t_only]
  intro p hp
  refine filt_word (neg := false) (ln := ln) hp hw (fun _ => gdS_t) (fun x acc Qb hx q => ?_) (fun x acc Q' hx q => by simpa [wipeD] using q) (by simp; exact hq)
  simp [wipeD]
  exact in_lets (neg := false) hl q
/-- what struck and kept promise: f of the word and the letters -/
def sdSK (f : List Int → List Int → List Int) : Pro := fun ds G Q E => ∃ (w l : D) (tl : Tr), ds = [w, l] ∧ Pl G w ∧ (isWord w = false → E "InvalidWord" [("given", w)] G) ∧
  (isWord w = true → Vw G tl l ∧ (isLetT tl = false → E "InvalidLetters" [("given", l)] G) ∧ (isLetT tl = true → ∃ ln, LetsV l ln ∧ ∀ wn : List Int, w = .tup (wn.map .int) → Q (.tup ((f wn ln).map .int)) G))
abbrev sd_struck : Pro := sdSK fun wn ln => wn.filter fun x => !decide (x ∈ ln)
abbrev sd_kept : Pro := sdSK fun wn ln => wn.filter fun x => decide (x ∈ ln)
theorem pure_struck (ds : List D) (G : DHp) (Q : DK) (E : DXK) (h : sd_struck ds G Q E) : t_struck sd_need_word sd_need_letters (dEnd Q E) (startD N_struck ds) G := by
  obtain ⟨w, l, tl, rfl, hp, h1, h2⟩ := h
  show t_struck sd_need_word sd_need_letters (dEnd Q E) [some w, some l, none] G
  simp [t_struck]
  refine ⟨w, rfl, hp, fun c => ?_, h1⟩
  obtain ⟨v, k1, k2⟩ := h2 c
  refine ⟨l, tl, rfl, v, fun c2 => ?_, k1⟩
  obtain ⟨ln, hl, hq⟩ := k2 c2
  obtain ⟨wn, rfl, w1, w2⟩ := isWord_of c
  simp
  intro p hp
  refine filt_word (neg := true) (ln := ln) hp (by omega) (fun _ => gdS_t) (fun x acc Qb hx q => ?_) (fun x acc Q' hx q => by simpa [wipeD] using q) (by simp; exact hq wn rfl)
  simp [wipeD]
  exact in_lets (neg := true) hl q
theorem pure_kept (ds : List D) (G : DHp) (Q : DK) (E : DXK) (h : sd_kept ds G Q E) : t_kept sd_need_word sd_need_letters sd_only (dEnd Q E) (startD N_kept ds) G := by
  obtain ⟨w, l, tl, rfl, hp, h1, h2⟩ := h
  show t_kept sd_need_word sd_need_letters sd_only (dEnd Q E) [some w, some l] G
  simp [t_kept]
  refine ⟨w, rfl, hp, fun c => ?_, h1⟩
  obtain ⟨v, k1, k2⟩ := h2 c
  refine ⟨l, tl, rfl, v, fun c2 => ?_, k1⟩
  obtain ⟨ln, hl, hq⟩ := k2 c2
  obtain ⟨wn, rfl, w1, w2⟩ := isWord_of c
  exact ⟨wn, ln, l, rfl, hl, by omega, hq wn rfl⟩
def sd_turned : Pro := fun ds G Q E => ∃ w, ds = [w] ∧ Pl G w ∧ (isWord w = false → E "InvalidWord" [("given", w)] G) ∧ ∀ wn : List Int, w = .tup (wn.map .int) → isWord w = true → Q (.tup (wn.reverse.map .int)) G
theorem pure_turned (ds : List D) (G : DHp) (Q : DK) (E : DXK) (h : sd_turned ds G Q E) : t_turned sd_need_word (dEnd Q E) (startD N_turned ds) G := by
  obtain ⟨w, rfl, hp, h1, h2⟩ := h
  show t_turned sd_need_word (dEnd Q E) [some w] G
  simp [t_turned]
  refine ⟨w, rfl, hp, fun c => ?_, h1⟩
  obtain ⟨wn, rfl, w1, w2⟩ := isWord_of c
  simp
  have := h2 wn rfl c
  rw [List.map_reverse] at this
  exact this
end k02
end DL
set_option Elab.async false
set_option linter.all false
namespace DL
namespace k02
open PySem PySem.Spec PyProof.Rows L2
/-- told as asked: way 0 struck, 1 kept, 2 turned -/
def sd__law_asked : Pro := fun ds G Q _ => ∃ (way : Int) (x y : D) (b : Bool), ds = [.int way, x, y, .bl b] ∧ 0 ≤ way ∧ way ≤ 2 ∧ Pl G x ∧ (isWord x = false → Q (.lst [.str "word", x]) G) ∧
  (isWord x = true → ∀ wn : List Int, x = .tup (wn.map .int) →
    (way = 2 → Q (.lst [.str "told", .tup (wn.reverse.map .int)]) G) ∧
    (way ≠ 2 → ∃ tl, Vw G tl y ∧ (isLetT tl = false → Q (.lst [.str "letters", y]) G) ∧ (isLetT tl = true → ∃ ln, LetsV y ln ∧
      (way = 0 → Q (.lst [.str "told", .tup ((wn.filter fun x => !decide (x ∈ ln)).map .int)]) G) ∧ (way = 1 → Q (.lst [.str "told", .tup ((wn.filter fun x => decide (x ∈ ln)).map .int)]) G))))
theorem pure__law_asked (ds : List D) (G : DHp) (Q : DK) (E : DXK) (h : sd__law_asked ds G Q E) : t__law_asked (exmT exl) sd_struck sd_kept sd_turned (dEnd Q E) (startD N__law_asked ds) G := by
  obtain ⟨way, x, y, b, rfl, l0, l2, hx, h1, h2⟩ := h
  show t__law_asked (exmT exl) sd_struck sd_kept sd_turned (dEnd Q E) [some (.int way), some x, some y, some (.bl b), none] G
  have hl16 := l16
  have exW : ∀ (K : DXK), True := fun _ => trivial
  rcases (by omega : way = 0 ∨ way = 1 ∨ way = 2) with rfl | rfl | rfl
  · have main : ∀ (ds : List D), ds = [x, y] → ∀ K E', (∀ v, K v G = Q (.lst [.str "told", v]) G) → (∀ z, E' "InvalidWord" [("given", z)] G = Q (.lst [.str "word", z]) G) → (∀ z, E' "InvalidLetters" [("given", z)] G = Q (.lst [.str "letters", z]) G) → sd_struck ds G K E' := by
      intro ds e K E' k1 k2 k3
      cases c : isWord x with
      | false => exact ⟨x, y, .non, e, hx, fun _ => by rw [k2]; exact h1 c, fun q => by rw [c] at q; cases q⟩
      | true =>
        obtain ⟨wn, rfl, w1, w2⟩ := isWord_of c
        obtain ⟨tl, v, q1, q2⟩ := (h2 c wn rfl).2 (by decide)
        refine ⟨_, y, tl, e, hx, (fun q => by rw [c] at q; cases q), fun _ => ⟨v, fun c2 => by rw [k3]; exact q1 c2, fun c2 => ?_⟩⟩
        obtain ⟨ln, hl, q3, _⟩ := q2 c2
        refine ⟨ln, hl, fun wn' e' => ?_⟩
        have : wn = wn' := by
          injection e' with e'
          exact (List.map_inj_right fun _ _ z => by injection z).mp e'
        subst this
        rw [k1]
        exact q3 rfl
    cases b with
    | true =>
      simp [t__law_asked, eq_int, pick]
      refine main _ rfl _ _ (fun v => ?_) (fun z => ?_) (fun z => ?_)
      · simp; intro; omega
      · simp [ex_InvalidWord_InvalidWord]; intro; omega
      · simp [ex_InvalidLetters_InvalidWord, ex_InvalidLetters_InvalidLetters]; intro; omega
    | false =>
      simp [t__law_asked, eq_int, pick]
      refine main _ rfl _ _ (fun v => ?_) (fun z => ?_) (fun z => ?_)
      · simp; intro; omega
      · simp [ex_InvalidWord_InvalidWord]; intro; omega
      · simp [ex_InvalidLetters_InvalidWord, ex_InvalidLetters_InvalidLetters]; intro; omega
  · have main : ∀ (ds : List D), ds = [x, y] → ∀ K E', (∀ v, K v G = Q (.lst [.str "told", v]) G) → (∀ z, E' "InvalidWord" [("given", z)] G = Q (.lst [.str "word", z]) G) → (∀ z, E' "InvalidLetters" [("given", z)] G = Q (.lst [.str "letters", z]) G) → sd_kept ds G K E' := by
      intro ds e K E' k1 k2 k3
      cases c : isWord x with
      | false => exact ⟨x, y, .non, e, hx, fun _ => by rw [k2]; exact h1 c, fun q => by rw [c] at q; cases q⟩
      | true =>
        obtain ⟨wn, rfl, w1, w2⟩ := isWord_of c
        obtain ⟨tl, v, q1, q2⟩ := (h2 c wn rfl).2 (by decide)
        refine ⟨_, y, tl, e, hx, (fun q => by rw [c] at q; cases q), fun _ => ⟨v, fun c2 => by rw [k3]; exact q1 c2, fun c2 => ?_⟩⟩
        obtain ⟨ln, hl, _, q3⟩ := q2 c2
        refine ⟨ln, hl, fun wn' e' => ?_⟩
        have : wn = wn' := by
          injection e' with e'
          exact (List.map_inj_right fun _ _ z => by injection z).mp e'
        subst this
        rw [k1]
        exact q3 rfl
    cases b with
    | true =>
      simp [t__law_asked, eq_int, pick]
      refine main _ rfl _ _ (fun v => ?_) (fun z => ?_) (fun z => ?_)
      · simp; intro; omega
      · simp [ex_InvalidWord_InvalidWord]; intro; omega
      · simp [ex_InvalidLetters_InvalidWord, ex_InvalidLetters_InvalidLetters]; intro; omega
    | false =>
      simp [t__law_asked, eq_int, pick]
      refine main _ rfl _ _ (fun v => ?_) (fun z => ?_) (fun z => ?_)
      · simp; intro; omega
      · simp [ex_InvalidWord_InvalidWord]; intro; omega
      · simp [ex_InvalidLetters_InvalidWord, ex_InvalidLetters_InvalidLetters]; intro; omega
  · have main : ∀ (ds : List D), ds = [x] → ∀ K E', (∀ v, K v G = Q (.lst [.str "told", v]) G) → (∀ z, E' "InvalidWord" [("given", z)] G = Q (.lst [.str "word", z]) G) → sd_turned ds G K E' := by
      intro ds e K E' k1 k2
      exact ⟨x, e, hx, fun c => by rw [k2]; exact h1 c, fun wn e2 c => by rw [k1]; exact (h2 c wn e2).1 rfl⟩
    cases b with
    | true =>
      simp [t__law_asked, eq_int, pick]
      refine main _ rfl _ _ (fun v => ?_) (fun z => ?_)
      · simp; intro; omega
      · simp [ex_InvalidWord_InvalidWord]; intro; omega
    | false =>
      simp [t__law_asked, eq_int, pick]
      refine main _ rfl _ _ (fun v => ?_) (fun z => ?_)
      · simp; intro; omega
      · simp [ex_InvalidWord_InvalidWord]; intro; omega
end k02
end DL
set_option Elab.async false
set_option linter.all false
namespace DL
namespace k02
open PySem PySem.Spec PyProof.Rows L2
def sd__law_word : Pro := fun ds G Q _ => ∃ (a : Addr) (n : Nat) (o : DO), ds = [.ref a] ∧ G a = some o ∧ BoxO (n + 110) o ∧ ∀ (w : List Int) o', w.length ≤ 100 → (∀ x ∈ w, 0 ≤ x ∧ x ≤ 1000) → BoxO n o' → Q (.tup (w.map .int)) (updD G a o')
theorem pure__law_word (ds : List D) (G : DHp) (Q : DK) (E : DXK) (h : sd__law_word ds G Q E) : t__law_word sd__law_pick sd__law_take (dEnd Q E) (startD N__law_word ds) G := by
  obtain ⟨a, n, o, rfl, ha, hb, hq⟩ := h
  show t__law_word sd__law_pick sd__law_take (dEnd Q E) [some (.ref a), none, none] G
  have hl16 := l16
  simp -implicitDefEqProofs [t__law_word]
  repeat (refine And.intro (by omega) ?_)
  refine ⟨a, _, n + 109, o, rfl, by simp, by simp, ha, hb, fun x o1 hx hb1 => ?_⟩
  obtain ⟨ls, rfl, l1, l2, hls⟩ : ∃ ls : List Int, x = .lst (ls.map .int) ∧ 0 < ls.length ∧ ls.length ≤ 10 ∧ ∀ x ∈ ls, 0 ≤ x ∧ x ≤ 1000 := by
    simp at hx
    rcases hx with rfl | rfl | rfl | rfl
    · exact ⟨[0, 1], rfl, by decide, by decide, by decide⟩
    · exact ⟨[0, 1, 2, 3], rfl, by decide, by decide, by decide⟩
    · exact ⟨[1000, 7], rfl, by decide, by decide, by decide⟩
    · exact ⟨[4, 5, 6, 7, 8, 9], rfl, by decide, by decide, by decide⟩
  refine ⟨a, 6, n + 108, o1, rfl, by omega, by omega, updD_same, hb1, fun v o2 v1 v2 hb2 => ?_⟩
  dsimp only
  rw [eq_int, updD_updD]
  have last : ∀ (m : Int) (o3 : DO), 0 ≤ m → m ≤ 100 → BoxO (n + 101) o3 → (Ri m ∧ ∀ p, updD G a o3 p = none → lcL false p [2] (dgName 2) dYes (dCall sd__law_pick (dCons (dVar 0) (dCons (dVar 1) dNil))) gdT [some (.ref a), some (.lst (ls.map .int)), none]
      (fun d G1 => rTupleD [d] G1 Q) (rngD 0 1 m.toNat) [] (updD (updD G a o3) p (.lst []))) := by
    intro m o3 m0 m1 hb3
    refine ⟨by unfold Ri; omega, fun p hp => ?_⟩
    refine pick_items (ls := ls) (n := n) (o := o3) hp updD_same (hb3.mono (by rw [rng_len]; omega)) (by rw [rng_len]; omega) (fun x G' o' k K hg hb' hK => ?_) (fun w o' hw hm hb2 hn => ?_)
    · simp [wipeD]
      refine ⟨a, ls.map .int, k, o', rfl, by simpa using l1, by simp; omega, hg, hb', fun x o2 hx hb2 => ?_⟩
      obtain ⟨v, hv, rfl⟩ := List.mem_map.mp hx
      exact hK v o2 hv hb2
    · rw [rng_len] at hw
      refine ⟨updD_same, ?_⟩
      simp only
      rw [delD_updD hn, updD_updD]
      simp only [s_mkLf, s_tupleL]
      exact hq w o' (by omega) (fun x hx => hls x (hm x hx)) hb2
  by_cases c : v = 0
  · simp only [c, decide_true, if_true]
    refine ⟨by omega, a, _, n + 107, o2, rfl, by simp, by simp, updD_same, hb2, fun x o3 hx hb3 => ?_⟩
    rw [updD_updD]
    dsimp only
    simp at hx
    rcases hx with rfl | rfl | rfl
    · exact last 0 o3 (by omega) (by omega) (hb3.mono (by omega))
    · exact last 100 o3 (by omega) (by omega) (hb3.mono (by omega))
    · exact last 1 o3 (by omega) (by omega) (hb3.mono (by omega))
  · simp only [c, decide_false]
    refine ⟨a, 17, n + 107, o2, rfl, by omega, by omega, updD_same, hb2, fun m o3 m0 m1 hb3 => ?_⟩
    rw [updD_updD]
    dsimp only
    exact last m o3 m0 (by omega) (hb3.mono (by omega))
theorem ok_x : PyData.strOk ("x" : Str) = true := by decide +kernel
def sd__law_wrong_right : Pro := fun ds G Q _ => ∃ (a : D) (b : Bool), ds = [a, .bl b] ∧ ∀ G', Grow G G' → Q (.bl true) G'
def wordsT : List Tr := [.non, .int 7, .str "01", .lst [.int 0, .int 1], .tup [.int 0, .int (-1)], .tup [.int 0, .bl true], .tup [.int 0, .non], .tup [.int 0, .str "1"], .tup [.tup [.int 0], .int 1], .tup [.int 1001], .tup (List.replicate 101 (.int 0)), .dic [] [], .bl true]
def wordsD (p : Addr) : List D := [.non, .int 7, .str "01", .lst [.int 0, .int 1], .tup [.int 0, .int (-1)], .tup [.int 0, .bl true], .tup [.int 0, .non], .tup [.int 0, .str "1"], .tup [.tup [.int 0], .int 1], .tup [.int 1001], .tup (List.replicate 101 (.int 0)), .ref p, .bl true]
theorem vw_words {G : DHp} {p : Addr} (h : G p = some (.dic 0 [] [])) : VwL G wordsT (wordsD p) :=
  vwl_cons vw_non <| vwl_cons vw_int <| vwl_cons (vw_str ok_01) <| vwl_cons (vw_lst (vwl_cons vw_int <| vwl_cons vw_int vwl_nil) (by decide)) <|
  vwl_cons (vw_tup (vwl_cons vw_int <| vwl_cons vw_int vwl_nil) (by decide)) <| vwl_cons (vw_tup (vwl_cons vw_int <| vwl_cons vw_bl vwl_nil) (by decide)) <|
  vwl_cons (vw_tup (vwl_cons vw_int <| vwl_cons vw_non vwl_nil) (by decide)) <| vwl_cons (vw_tup (vwl_cons vw_int <| vwl_cons (vw_str ok_1) vwl_nil) (by decide)) <|
  vwl_cons (vw_tup (vwl_cons (vw_tup (vwl_cons vw_int vwl_nil) (by decide)) <| vwl_cons vw_int vwl_nil) (by decide)) <| vwl_cons (vw_tup (vwl_cons vw_int vwl_nil) (by decide)) <|
  vwl_cons (vw_tup vwl_rep (by rw [List.length_replicate]; decide)) <| vwl_cons (vw_dic h) <| vwl_cons vw_bl vwl_nil
def letsT : List Tr := [.non, .int 7, .str "01", .dic [] [], .lst [.int 0, .int (-1)], .lst [.bl true], .tup [.int 0, .non], .lst [.str "1"], .lst [.lst [.int 0]], .tup [.tup [.int 0]], .lst [.int 0, .int 1, .str "x"], .bl true]
def letsD (p : Addr) : List D := [.non, .int 7, .str "01", .ref p, .lst [.int 0, .int (-1)], .lst [.bl true], .tup [.int 0, .non], .lst [.str "1"], .lst [.lst [.int 0]], .tup [.tup [.int 0]], .lst [.int 0, .int 1, .str "x"], .bl true]
theorem vw_lets {G : DHp} {p : Addr} (h : G p = some (.dic 0 [] [])) : VwL G letsT (letsD p) :=
  vwl_cons vw_non <| vwl_cons vw_int <| vwl_cons (vw_str ok_01) <| vwl_cons (vw_dic h) <| vwl_cons (vw_lst (vwl_cons vw_int <| vwl_cons vw_int vwl_nil) (by decide)) <| vwl_cons (vw_lst (vwl_cons vw_bl vwl_nil) (by decide)) <|
  vwl_cons (vw_tup (vwl_cons vw_int <| vwl_cons vw_non vwl_nil) (by decide)) <| vwl_cons (vw_lst (vwl_cons (vw_str ok_1) vwl_nil) (by decide)) <| vwl_cons (vw_lst (vwl_cons (vw_lst (vwl_cons vw_int vwl_nil) (by decide)) vwl_nil) (by decide)) <|
  vwl_cons (vw_tup (vwl_cons (vw_tup (vwl_cons vw_int vwl_nil) (by decide)) vwl_nil) (by decide)) <| vwl_cons (vw_lst (vwl_cons vw_int <| vwl_cons vw_int <| vwl_cons (vw_str ok_x) vwl_nil) (by decide)) <| vwl_cons vw_bl vwl_nil
set_option maxRecDepth 20000 in
theorem pure__law_wrong_right (ds : List D) (G : DHp) (Q : DK) (E : DXK) (h : sd__law_wrong_right ds G Q E) :
    t__law_wrong_right (sd__law_copy 51) sd__law_asked sd__law_very (dEnd Q E) (startD N__law_wrong_right ds) G := by
  obtain ⟨a, b, rfl, hq⟩ := h
  show t__law_wrong_right (sd__law_copy 51) sd__law_asked sd__law_very (dEnd Q E) [some a, some (.bl b), none, none, none, none] G
  have hl16 := l16
  generalize hC : sd__law_copy 51 = C
  simp -implicitDefEqProofs [t__law_wrong_right, -List.reduceReplicate]
  repeat (refine And.intro (by omega) ?_)
  intro p hp
  repeat (refine And.intro (by omega) ?_)
  generalize hG1 : updD G p (.dic 0 [] []) = G1
  have hg1 : Grow G G1 := by rw [← hG1]; exact .new hp
  have hp1 : G1 p = some (.dic 0 [] []) := by rw [← hG1]; exact updD_same
  refine forL_inv (fun xs δ G2 => ∃ (ts : List Tr) (b : Bool) (x2 x3 x4 x5 : Option D), VwL G2 ts xs ∧ (∀ t ∈ ts, OkT t ∧ isWordT t = false) ∧ δ = [some a, some (.bl b), x2, x3, x4, x5] ∧ Grow G1 G2) (fun _ _ _ _ => gdS_l) ?_ ?_ _ _ _
    ⟨wordsT, b, none, none, none, none, vw_words hp1, fun t ht => ⟨ok_list (ts := wordsT) (by decide +kernel) t ht, (by decide +kernel : ∀ t ∈ wordsT, isWordT t = false) t ht⟩, rfl, .refl⟩
  rotate_left
  · rintro x xs δ G2 ⟨ts, b, x2, x3, x4, x5, h1, h2, rfl, g2⟩ N hN
    obtain ⟨t, ts, rfl, v, h1⟩ := h1.inv
    obtain ⟨ok, nw⟩ := h2 t List.mem_cons_self
    simp -implicitDefEqProofs
    refine ⟨by unfold Ri; omega, ?_⟩
    refine forL_inv (fun ys δ G3 => (∀ y ∈ ys, ∃ i : Nat, y = .int i ∧ i < 3) ∧ ∃ (b : Bool) (x3 x4 x5 : Option D), δ = [some a, some (.bl b), some x, x3, x4, x5] ∧ Grow G2 G3) (fun _ _ _ _ => gdT_) ?_ ?_ _ _ _
      ⟨fun y hy => by obtain ⟨i, hi, e⟩ := rng_mem hy; exact ⟨i, e, hi⟩, b, x3, x4, x5, rfl, .refl⟩
    · rintro δ G3 ⟨_, b, x3, x4, x5, rfl, g3⟩
      exact hN _ _ ⟨ts, b, _, _, _, _, h1.ext g3.kp, fun u hu => h2 u (List.mem_cons_of_mem _ hu), rfl, g2.trans g3⟩
    · rintro y ys δ G3 ⟨hy, b, x3, x4, x5, rfl, g3⟩ M hM
      obtain ⟨i, rfl, hi⟩ := hy y List.mem_cons_self
      simp -implicitDefEqProofs
      rw [← hC]
      refine copied (v.ext g3.kp) ok fun r G4 c => ?_
      have nr : isWord r = false := by rw [c.vw.word.1, nw]
      refine ⟨i, r, _, b, rfl, by omega, by omega, c.vw.pl, fun _ => ?_, fun q => by rw [nr] at q; cases q⟩
      simp -implicitDefEqProofs [at0, at1, ne_str ok_word ok_word]
      refine veried ok c fun G5 g5 => ?_
      simp -implicitDefEqProofs
      exact hM _ _ ⟨fun z hz => hy z (List.mem_cons_of_mem _ hz), !b, _, _, _, rfl, g3.trans g5⟩
  rintro δ G2 ⟨ts, b, x2, x3, x4, x5, h1, h2, rfl, g2⟩
  simp -implicitDefEqProofs
  repeat (refine And.intro (by omega) ?_)
  intro p5 hp5
  repeat (refine And.intro (by omega) ?_)
  have e5 : updD G2 p5 (.dic 0 [] []) p5 = some (.dic 0 [] []) := updD_same
  have g5 : Grow G2 (updD G2 p5 (.dic 0 [] [])) := .new hp5
  generalize updD G2 p5 (.dic 0 [] []) = G5 at e5 g5
  refine forL_inv (fun xs δ G6 => ∃ (ts : List Tr) (b : Bool) (x2 x3 x4 x5 : Option D), VwL G6 ts xs ∧ (∀ t ∈ ts, OkT t ∧ isLetT t = false) ∧ δ = [some a, some (.bl b), x2, x3, x4, x5] ∧ Grow G5 G6) (fun _ _ _ _ => gdS_l) ?_ ?_ _ _ _
    ⟨letsT, b, _, _, _, _, vw_lets e5, fun t ht => ⟨ok_list (ts := letsT) (by decide +kernel) t ht, (by decide +kernel : ∀ t ∈ letsT, isLetT t = false) t ht⟩, rfl, .refl⟩
  rotate_left
  · rintro x xs δ G6 ⟨ts, b, x2, x3, x4, x5, h1, h2, rfl, g6⟩ N hN
    obtain ⟨t, ts, rfl, v, h1⟩ := h1.inv
    obtain ⟨ok, nw⟩ := h2 t List.mem_cons_self
    simp -implicitDefEqProofs
    refine ⟨by unfold Ri; omega, ?_⟩
    refine forL_inv (fun ys δ G3 => (∀ y ∈ ys, ∃ i : Nat, y = .int i ∧ i < 2) ∧ ∃ (b : Bool) (x3 x4 x5 : Option D), δ = [some a, some (.bl b), some x, x3, x4, x5] ∧ Grow G6 G3) (fun _ _ _ _ => gdT_) ?_ ?_ _ _ _
      ⟨fun y hy => by obtain ⟨i, hi, e⟩ := rng_mem hy; exact ⟨i, e, hi⟩, b, x3, x4, x5, rfl, .refl⟩
    · rintro δ G3 ⟨_, b, x3, x4, x5, rfl, g3⟩
      exact hN _ _ ⟨ts, b, _, _, _, _, h1.ext g3.kp, fun u hu => h2 u (List.mem_cons_of_mem _ hu), rfl, g6.trans g3⟩
    · rintro y ys δ G3 ⟨hy, b, x3, x4, x5, rfl, g3⟩ M hM
      obtain ⟨i, rfl, hi⟩ := hy y List.mem_cons_self
      simp -implicitDefEqProofs
      rw [← hC]
      refine copied (v.ext g3.kp) ok fun r G4 c => ?_
      repeat (refine And.intro (by omega) ?_)
      have iw : isWord (.tup [.int 0, .int 1]) = true := by decide +kernel
      refine ⟨i, _, r, b, rfl, by omega, by omega, pl_ints (ws := [0, 1]), (fun q => by rw [iw] at q; cases q), fun _ wn _ => ⟨fun q => by omega, fun _ => ⟨t, c.vw, fun _ => ?_, fun q => by rw [nw] at q; cases q⟩⟩⟩
      simp -implicitDefEqProofs [at0, at1, ne_str ok_letters ok_letters]
      refine veried ok c fun G5 g5 => ?_
      simp -implicitDefEqProofs
      exact hM _ _ ⟨fun z hz => hy z (List.mem_cons_of_mem _ hz), !b, _, _, _, rfl, g3.trans g5⟩
  rintro δ G6 ⟨ts, b, x2, x3, x4, x5, h1, h2, rfl, g6⟩
  exact hq G6 (hg1.trans (g2.trans (g5.trans g6)))
end k02
end DL
set_option Elab.async false
set_option linter.all false
namespace DL
namespace k02
open PySem PySem.Spec PyProof.Rows L2
theorem cnt_rev : ∀ (ws ps : List Int), cnt ps.reverse ws.reverse = cnt ps ws
  | _, [] => by rw [List.reverse_nil, cnt_nil, cnt_nil]
  | [], p :: ps => by
    rw [List.reverse_cons, List.reverse_nil]
    cases h : ps.reverse <;> rfl
  | w :: ws, p :: ps => by
    rw [List.reverse_cons, List.reverse_cons, cnt_snoc, ← List.reverse_cons, cnt_rev ws (p :: ps), cnt_rev ws ps]
    rfl
theorem ways_rev {ps ws : List Int} : waysI ps.reverse ws.reverse = waysI ps ws := by
  rw [ways_scat, ways_scat, scat_cnt, scat_cnt, cnt_rev]
theorem seq_set {i : Nat} {te : DTE} {R : DTS} {Dd : DEnds} {δ : DSt} {G : DHp} (P : D → DHp → Prop) (h1 : ∀ K : DK, (∀ d G', P d G' → K d G') → te Dd.xc δ G K) (h2 : ∀ d G', P d G' → R Dd (δ.set i (some d)) G') : dSeq (dSet i te) R Dd δ G := h1 _ h2
theorem seq_if {c : DTT} {R : DTS} {te : DTS} {Dd : DEnds} {δ : DSt} {G : DHp} (h1 : ∀ K : Bool → DHp → Prop, K false G → c Dd.xc δ G K) (h2 : R Dd δ G) : dSeq (dIf c te dNext) R Dd δ G := h1 _ h2
theorem vw_ints_l {G : DHp} {ns : List Int} (h : ns.length ≤ 1000) : Vw G (.lst (ns.map .int)) (.lst (ns.map .int)) := vw_lst vwl_ints (by simpa using h)
theorem vw_ints_t {G : DHp} {ns : List Int} (h : ns.length ≤ 1000) : Vw G (.tup (ns.map .int)) (.tup (ns.map .int)) := vw_tup vwl_ints (by simpa using h)
theorem let_ints {ns : List Int} (h : ∀ x ∈ ns, 0 ≤ x ∧ x ≤ 10 ^ 30) : (ns.map Tr.int).all (fun t => betwT t 0 (10 ^ 30)) = true := by
  rw [List.all_map, List.all_eq_true]
  intro x hx
  have := h x hx
  simp only [Function.comp_apply, betwT, Bool.and_eq_true, decide_eq_true_eq]
  exact this
/-- what is told of one way -/
def toldD (wn ln : List Int) (x : D) : D := .lst [.str "told", .tup ((match x with
  | .int 0 => wn.filter fun x => !decide (x ∈ ln)
  | .int 1 => wn.filter fun x => decide (x ∈ ln)
  | _ => wn.reverse).map .int)]
theorem ask_told {wn ln : List Int} {y : D} {tl : Tr} {b : Bool} {G : DHp} {i : Nat} {K : DK} {E : DXK} (hi : i < 3) (w1 : wn.length ≤ 100) (w2 : ∀ x ∈ wn, 0 ≤ x ∧ x ≤ 1000) (hl : LetsV y ln) (v : Vw G tl y) (hL : isLetT tl = true)
    (hK : K (toldD wn ln (.int i)) G) : sd__law_asked [.int i, .tup (wn.map .int), y, .bl b] G K E := by
  refine ⟨i, _, y, b, rfl, by omega, by omega, pl_ints, (fun c => by rw [isWord_ints w1 w2] at c; cases c), fun _ wn' e => ?_⟩
  have : wn = wn' := by
    injection e with e
    exact (List.map_inj_right fun _ _ z => by injection z).mp e
  subst this
  refine ⟨fun q => ?_, fun q => ⟨tl, v, (fun c => by rw [hL] at c; cases c), fun _ => ⟨ln, hl, fun q => ?_, fun q => ?_⟩⟩⟩
  · obtain rfl : i = 2 := by omega
    exact hK
  · obtain rfl : i = 0 := by omega
    exact hK
  · obtain rfl : i = 1 := by omega
    exact hK
def sd__law_word_right : Pro := fun ds G Q _ => ∃ (a : Addr) (n : Nat) (o : DO) (b : Bool), ds = [.ref a, .bl b] ∧ G a = some o ∧ BoxO (n + 200) o ∧ ∀ o', BoxO n o' → Q (.bl true) (updD G a o')
theorem pure__law_word_right (ds : List D) (G : DHp) (Q : DK) (E : DXK) (h : sd__law_word_right ds G Q E) :
    t__law_word_right sd__law_word sd__law_take sd__law_pick sd__law_asked (sd__law_same 51) sd_scattered sd_turned (sd__law_scattered 10) (dEnd Q E) (startD N__law_word_right ds) G := by
  obtain ⟨a, n, o, b, rfl, ha, hb, hq⟩ := h
  show t__law_word_right sd__law_word sd__law_take sd__law_pick sd__law_asked (sd__law_same 51) sd_scattered sd_turned (sd__law_scattered 10) (dEnd Q E) [some (.ref a), some (.bl b), none, none, none, none, none, none, none, none, none, none, none, none, none] G
  have hl16 := l16
  generalize hS : sd__law_same 51 = S
  generalize hC : sd__law_scattered 10 = SC
  simp -implicitDefEqProofs [t__law_word_right]
  refine ⟨a, n + 90, o, rfl, ha, hb, fun word o1 w1 w2 hb1 => ?_⟩
  refine ⟨by unfold Ri; omega, ?_⟩
  refine forL_inv (fun xs δ G' => ∃ (b : Bool) (x3 x4 x6 x7 x9 x12 : Option D) (o' : DO), xs.length ≤ 4 ∧ δ = [some (.ref a), some (.bl b), some (.tup (word.map .int)), x3, x4, none, x6, x7, none, x9, none, none, x12, none, none] ∧ BoxO (n + 50 + 10 * xs.length) o' ∧ G' = updD G a o') (fun _ _ _ _ => gdT_) ?_ ?_ _ _ _
    ⟨b, none, none, none, none, none, none, o1, by rw [rng_len]; exact Nat.le_refl 4, rfl, hb1.mono (by rw [rng_len]; omega), rfl⟩
  · rintro δ G' ⟨b, x3, x4, x6, x7, x9, x12, o3, _, rfl, hb3, rfl⟩
    have hb3 : BoxO (n + 50) o3 := hb3.mono (by omega)
    simp -implicitDefEqProofs
    have e12 : cutD (word.map D.int) none (some 12) = (word.take 12).map .int := by
      rw [cutD_map]
      congr 1
      have e1 : HT.sIx word.length 0 none = 0 := rfl
      have e2 : HT.sIx word.length word.length (some 12) = min 12 word.length := by unfold HT.sIx; simp; try omega
      rw [e1, e2, List.drop_zero, Nat.sub_zero, List.take_eq_take_iff]
      omega
    rw [e12]
    have s1 : (word.take 12).length ≤ 12 := by rw [List.length_take]; omega
    have s2 : ∀ x ∈ word.take 12, 0 ≤ x ∧ x ≤ 1000 := fun x hx => w2 x (List.mem_of_mem_take hx)
    generalize word.take 12 = short at s1 s2
    refine ⟨by unfold Ri; omega, ?_⟩
    refine forL_inv (fun xs δ G' => ∃ (x3 x9 x14 : Option D) (o' : DO), xs.length ≤ 3 ∧ δ = [some (.ref a), some (.bl b), some (.tup (word.map .int)), x3, x4, none, x6, x7, none, x9, none, none, x12, some (.tup (short.map .int)), x14] ∧ BoxO (n + 10 * xs.length) o' ∧ G' = updD G a o') (fun _ _ _ _ => gdT_) ?_ ?_ _ _ _
      ⟨x3, x9, none, o3, by rw [rng_len]; exact Nat.le_refl 3, rfl, hb3.mono (by rw [rng_len]; omega), rfl⟩
    · rintro δ G' ⟨x3, x9, x14, o4, _, rfl, hb4, rfl⟩
      exact hq _ (hb4.mono (by omega))
    · rintro x xs δ G' ⟨x3, x9, x14, o4, h5, rfl, hb4, rfl⟩ N hN
      rw [List.length_cons] at h5 hb4
      rw [s_dgName]
      refine seq_set (fun d G' => ∃ (part : List Int) (o5 : DO), d = .tup (part.map .int) ∧ 1 ≤ part.length ∧ part.length ≤ 3 ∧ (∀ x ∈ part, 0 ≤ x ∧ x ≤ 1000) ∧ BoxO (n + 10 * xs.length) o5 ∧ G' = updD G a o5) ?_ ?_
      · intro K hK
        simp -implicitDefEqProofs
        refine ⟨a, 3, n + 9 + 10 * xs.length, o4, rfl, by omega, by omega, updD_same, hb4.mono (by omega), fun v o5 v1 v2 hb5 => ?_⟩
        simp only [s_addI]
        refine ⟨by unfold Ri; omega, fun p hp => ?_⟩
        rw [updD_updD] at hp ⊢
        refine pick_items (ls := short ++ [0]) (n := n + 10 * xs.length) (o := o5) hp updD_same (hb5.mono (by rw [rng_len]; omega)) (by rw [rng_len]; omega) (fun x G' o' k K hg hb' hK => ?_) (fun part o6 hw hm hb6 hn => ?_)
        · simp [wipeD]
          refine ⟨_, rfl, by omega, ?_⟩
          simp
          refine ⟨by omega, a, (short ++ [0]).map .int, k, o', by simp, by simp, by simp; omega, hg, hb', fun x o2 hx hb2 => ?_⟩
          obtain ⟨v, hv, rfl⟩ := List.mem_map.mp hx
          exact hK v o2 hv hb2
        · rw [rng_len] at hw
          refine ⟨updD_same, ?_⟩
          simp only
          rw [delD_updD hn, updD_updD]
          simp only [s_mkLf, s_tupleL]
          refine hK _ _ ⟨part, o6, rfl, by omega, by omega, fun x hx => ?_, hb6, rfl⟩
          rcases List.mem_append.mp (hm x hx) with z | z
          · exact s2 x z
          · rw [List.mem_singleton.mp z]; decide
      rintro d G' ⟨part, o5, rfl, p1, p2, p3, hb5, rfl⟩
      have r3 : ∀ x ∈ part.reverse, 0 ≤ x ∧ x ≤ 1000 := fun x hx => p3 x (List.mem_reverse.mp hx)
      have t3 : ∀ x ∈ short.reverse, 0 ≤ x ∧ x ≤ 1000 := fun x hx => s2 x (List.mem_reverse.mp hx)
      have scat : ∀ (ps ws : List Int) (K : DK) (E : DXK) (G' : DHp), 1 ≤ ps.length → ps.length ≤ 3 → (∀ x ∈ ps, 0 ≤ x ∧ x ≤ 1000) → ws.length ≤ 12 → (∀ x ∈ ws, 0 ≤ x ∧ x ≤ 1000) → K (.int (waysI ps ws)) G' → sd_scattered [.tup (ps.map .int), .tup (ws.map .int)] G' K E := by
        intro ps ws K E G' q1 q2 q3 q4 q5 q6
        refine ⟨_, _, rfl, pl_ints, (fun c => by rw [isPart_ints q1 q2 q3] at c; cases c), fun _ => ⟨pl_ints, (fun c => by rw [isWord_ints (by omega) q5] at c; cases c), fun pn wn e1 e2 _ => ?_⟩⟩
        have f : ∀ {a b : List Int}, D.tup (a.map .int) = D.tup (b.map .int) → a = b := fun h => by
          injection h with h
          exact (List.map_inj_right fun _ _ z => by injection z).mp h
        rw [← f e1, ← f e2]
        exact q6
      have turn : ∀ (ws : List Int) (K : DK) (E : DXK) (G' : DHp), ws.length ≤ 12 → (∀ x ∈ ws, 0 ≤ x ∧ x ≤ 1000) → K (.tup (ws.reverse.map .int)) G' → sd_turned [.tup (ws.map .int)] G' K E := by
        intro ws K E G' q4 q5 q6
        refine ⟨_, rfl, pl_ints, (fun c => by rw [isWord_ints (by omega) q5] at c; cases c), fun wn e _ => ?_⟩
        have : ws = wn := by
          injection e with e
          exact (List.map_inj_right fun _ _ z => by injection z).mp e
        rw [← this]
        exact q6
      refine seq_set (fun d G' => G' = updD G a o5 ∧ d = .lst [.int (waysI part short), .int (waysI part short), .int (waysI part short)]) ?_ ?_
      · intro K hK
        simp -implicitDefEqProofs [pick, -List.map_reverse]
        refine scat _ _ _ _ _ p1 p2 p3 s1 s2 ?_
        refine turn _ _ _ _ s1 s2 ?_
        rw [← List.map_reverse]
        refine scat _ _ _ _ _ (by rw [List.length_reverse]; exact p1) (by rw [List.length_reverse]; exact p2) r3 (by rw [List.length_reverse]; exact s1) t3 ?_
        refine turn _ _ _ _ (by omega) p3 ?_
        refine turn _ _ _ _ s1 s2 ?_
        refine scat _ _ _ _ _ (by rw [List.length_reverse]; exact p1) (by rw [List.length_reverse]; exact p2) r3 (by rw [List.length_reverse]; exact s1) t3 ?_
        rw [ways_rev]
        exact ⟨by omega, hK _ _ ⟨rfl, rfl⟩⟩
      rintro d G' ⟨rfl, rfl⟩
      simp -implicitDefEqProofs
      rw [← hC]
      have p9 : part.length ≤ 9 := by omega
      refine ⟨part, short, rfl, p9, by omega, ?_⟩
      rw [← ways_scat]
      simp -implicitDefEqProofs
      repeat (refine And.intro (by omega) ?_)
      rw [← hS]
      refine ⟨_, _, .lst [.int (waysI part short), .int (waysI part short), .int (waysI part short)], rfl, vw_lst (vwl_cons vw_int <| vwl_cons vw_int <| vwl_cons vw_int vwl_nil) (by simp), vw_lst (vwl_cons vw_int <| vwl_cons vw_int <| vwl_cons vw_int vwl_nil) (by simp), by simp [Tr.dep, Tr.depL], ?_⟩
      simp -implicitDefEqProofs
      exact hN _ _ ⟨_, _, _, o5, by omega, rfl, hb5, rfl⟩
  · rintro x xs δ G' ⟨b, x3, x4, x6, x7, x9, x12, o3, h5, rfl, hb3, rfl⟩ N hN
    rw [List.length_cons] at h5 hb3
    rw [s_dgName]
    refine seq_set (fun d G' => ∃ (lot : List Int) (o5 : DO), d = .lst (lot.map .int) ∧ lot.length ≤ 4 ∧ (∀ x ∈ lot, 0 ≤ x ∧ x ≤ 10 ^ 30) ∧ BoxO (n + 52 + 10 * xs.length) o5 ∧ G' = updD G a o5) ?_ ?_
    · intro K hK
      simp -implicitDefEqProofs
      refine ⟨a, 5, n + 59 + 10 * xs.length, o3, rfl, by omega, by omega, updD_same, hb3.mono (by omega), fun v o4 v1 v2 hb4 => ?_⟩
      dsimp only
      refine ⟨by unfold Ri; omega, fun p hp => ?_⟩
      rw [updD_updD] at hp ⊢
      refine pick_items (ls := word ++ [3, 0, 10 ^ 15, 1001]) (n := n + 52 + 10 * xs.length) (o := o4) hp updD_same (hb4.mono (by rw [rng_len]; omega)) (by rw [rng_len]; omega) (fun x G' o' k K hg hb' hK => ?_) (fun lot o5 hw hm hb5 hn => ?_)
      · simp [wipeD]
        refine ⟨_, rfl, by unfold CPow; decide, by omega, ?_⟩
        simp
        refine ⟨by omega, a, (word ++ [3, 0, 10 ^ 15, 1001]).map .int, k, o', by simp, by simp, by simp; omega, hg, hb', fun x o2 hx hb2 => ?_⟩
        obtain ⟨v, hv, rfl⟩ := List.mem_map.mp hx
        exact hK v o2 hv hb2
      · rw [rng_len] at hw
        refine ⟨updD_same, ?_⟩
        simp only
        rw [delD_updD hn, updD_updD]
        refine hK _ _ ⟨lot, o5, rfl, by omega, fun x hx => ?_, hb5, rfl⟩
        rcases List.mem_append.mp (hm x hx) with z | z
        · have := w2 x z
          omega
        · simp at z
          omega
    rintro d G' ⟨lot, o5, rfl, l1, l2, hb5, rfl⟩
    refine seq_set (fun d G' => LetsV d lot ∧ ∃ o6, BoxO (n + 50 + 10 * xs.length) o6 ∧ G' = updD G a o6) ?_ ?_
    · intro K hK
      simp -implicitDefEqProofs
      refine ⟨a, 2, n + 51 + 10 * xs.length, o5, rfl, by omega, by omega, updD_same, hb5.mono (by omega), fun v o6 v1 v2 hb6 => ?_⟩
      dsimp only
      rw [eq_int, updD_updD]
      by_cases c : v = 0
      · simp only [c, decide_true, if_true]
        exact ⟨_, rfl, hK _ _ ⟨.inl rfl, o6, hb6.mono (by omega), rfl⟩⟩
      · simp only [c, decide_false]
        exact hK _ _ ⟨.inr rfl, o6, hb6.mono (by omega), rfl⟩
    rintro d G' ⟨hd, o6, hb6, rfl⟩
    refine seq_set (fun d G' => G' = updD G a o6 ∧ d = .lst [.tup ((word.filter fun x => !decide (x ∈ lot)).map .int), .tup ((word.filter fun x => decide (x ∈ lot)).map .int), .tup (word.reverse.map .int)]) ?_ ?_
    · intro K hK
      simp -implicitDefEqProofs
      intro p hp
      refine filt_word (neg := true) (ln := lot) hp (by omega) (fun _ => gdS_t) (fun x acc Qb hx q => ?_) (fun x acc Q' hx q => by simpa [wipeD] using q) ?_
      · simp [wipeD]
        exact in_lets (neg := true) (.inl rfl) q
      simp -implicitDefEqProofs
      intro p hp
      refine filt_word (neg := false) (ln := lot) hp (by omega) (fun _ => gdS_t) (fun x acc Qb hx q => ?_) (fun x acc Q' hx q => by simpa [wipeD] using q) ?_
      · simp [wipeD]
        exact in_lets (neg := false) (.inl rfl) q
      simp -implicitDefEqProofs
      refine ⟨by omega, hK _ _ ⟨rfl, by simp⟩⟩
    rintro d' G' ⟨rfl, rfl⟩
    obtain ⟨tl, vtl, hL⟩ : ∃ tl, (∀ G', Vw G' tl d) ∧ isLetT tl = true := by
      rcases hd with rfl | rfl
      · exact ⟨.lst (lot.map .int), fun _ => vw_ints_l (by omega), let_ints l2⟩
      · exact ⟨.tup (lot.map .int), fun _ => vw_ints_t (by omega), let_ints l2⟩
    refine seq_set (fun d G' => G' = updD G a o6 ∧ d = .lst ((rngD 0 1 3).map (toldD word lot))) ?_ ?_
    · intro K hK
      simp -implicitDefEqProofs
      refine ⟨by unfold Ri; omega, fun p hp => ?_⟩
      refine lc_map (toldD word lot) hp (fun _ => gdT_) (fun y hy acc Q' q => ?_) (by rw [rng_len, hl16]; decide) ?_
      · obtain ⟨i, hi, rfl⟩ := rng_mem hy
        simp [wipeD, eq_int, eq_bl]
        exact ask_told hi w1 w2 hd (vtl _) hL q
      · simp only [s_mkLf]
        exact hK _ _ ⟨rfl, rfl⟩
    rintro d' G' ⟨rfl, rfl⟩
    have sT : ∀ (ns : List Int) (G' : DHp), ns.length ≤ 1000 → Vw G' (.lst [.str "told", .tup (ns.map .int)]) (.lst [.str "told", .tup (ns.map .int)]) := fun ns G' h => vw_lst (vwl_cons (vw_str ok_told) <| vwl_cons (vw_ints_t h) vwl_nil) (by simp)
    have f1 : (word.filter fun x => !decide (x ∈ lot)).length ≤ 1000 := Nat.le_trans (List.length_filter_le _ _) (by omega)
    have f2 : (word.filter fun x => decide (x ∈ lot)).length ≤ 1000 := Nat.le_trans (List.length_filter_le _ _) (by omega)
    have f3 : word.reverse.length ≤ 1000 := by rw [List.length_reverse]; omega
    refine seq_if ?_ ?_
    · intro K hK
      simp -implicitDefEqProofs [-List.map_reverse]
      intro p hp
      refine lc_map (fun x => .lst [.str "told", x]) hp (fun _ => gdS_l) (fun y hy acc Q' q => by simp [wipeD]; exact ⟨by omega, q⟩) (by rw [hl16]; simp) ?_
      simp only [s_mkLf]
      rw [← hS]
      refine ⟨_, _, .lst [.lst [.str "told", .tup ((word.filter fun x => !decide (x ∈ lot)).map .int)], .lst [.str "told", .tup ((word.filter fun x => decide (x ∈ lot)).map .int)], .lst [.str "told", .tup (word.reverse.map .int)]], rfl,
        vw_lst (vwl_cons (sT _ _ f1) <| vwl_cons (sT _ _ f2) <| vwl_cons (sT _ _ f3) vwl_nil) (by simp), vw_lst (vwl_cons (sT _ _ f1) <| vwl_cons (sT _ _ f2) <| vwl_cons (sT _ _ f3) vwl_nil) (by simp), by simp [Tr.dep, Tr.depL, depL_ints, -List.map_reverse], ?_⟩
      simp -implicitDefEqProofs
      refine ⟨lot.map .int, by rcases hd with rfl | rfl <;> rfl, ?_⟩
      simp -implicitDefEqProofs
      refine ⟨_, _, .lst (lot.map .int), rfl, vw_ints_l (by omega), vw_ints_l (by omega), by simp [Tr.dep, depL_ints], ?_⟩
      simp -implicitDefEqProofs
      exact hK
    refine seq_set (fun d G' => G' = updD G a o6 ∧ d = .lst ((rngD 0 1 2).map (toldD word lot))) ?_ ?_
    · intro K hK
      simp -implicitDefEqProofs
      refine ⟨by unfold Ri; omega, fun p hp => ?_⟩
      refine lc_map (toldD word lot) hp (fun _ => gdT_) (fun y hy acc Q' q => ?_) (by rw [rng_len, hl16]; decide) ?_
      · obtain ⟨i, hi, rfl⟩ := rng_mem hy
        simp [wipeD]
        refine ⟨by omega, ?_⟩
        have e : (lot.map D.int).reverse ++ lot.map D.int = (lot.reverse ++ lot).map D.int := by simp
        rw [e]
        have l2' : ∀ x ∈ lot.reverse ++ lot, 0 ≤ x ∧ x ≤ 10 ^ 30 := fun x hx => l2 x (by simpa using hx)
        refine ask_told (ln := lot.reverse ++ lot) (tl := .lst ((lot.reverse ++ lot).map .int)) (by omega) w1 w2 (.inl rfl) (vw_ints_l (by simp; omega)) (let_ints l2') ?_
        have e2 : toldD word (lot.reverse ++ lot) (.int i) = toldD word lot (.int i) := by
          have e3 : ∀ x, decide (x ∈ lot.reverse ++ lot) = decide (x ∈ lot) := fun x => by simp
          unfold toldD
          simp only [e3]
        rw [e2]
        exact q
      · simp only [s_mkLf]
        exact hK _ _ ⟨rfl, rfl⟩
    rintro d' G' ⟨rfl, rfl⟩
    refine seq_if ?_ ?_
    · intro K hK
      simp -implicitDefEqProofs
      rw [← hS]
      refine ⟨_, _, .lst [.lst [.str "told", .tup ((word.filter fun x => !decide (x ∈ lot)).map .int)], .lst [.str "told", .tup ((word.filter fun x => decide (x ∈ lot)).map .int)]], rfl,
        vw_lst (vwl_cons (sT _ _ f1) <| vwl_cons (sT _ _ f2) vwl_nil) (by simp), vw_lst (vwl_cons (sT _ _ f1) <| vwl_cons (sT _ _ f2) vwl_nil) (by simp), by simp [Tr.dep, Tr.depL, depL_ints, -List.map_reverse], ?_⟩
      simp -implicitDefEqProofs
      exact hK
    simp -implicitDefEqProofs
    exact hN _ _ ⟨!b, _, _, _, _, _, _, o6, by omega, rfl, hb6, rfl⟩
end k02
end DL
set_option Elab.async false
set_option linter.all false
namespace DL
namespace k02
open PySem PySem.Spec PyProof.Rows L2
theorem pure_law (ds : List D) (G : DHp) (Q : DK) (E : DXK) (h : sdLaw ds G Q E) :
    t_law sd__law_box sd__law_cell sd__law_word_right sd__law_take sd__law_wrong_right (dEnd Q E) (startD N_law ds) G := by
  obtain ⟨ns, rfl, hl, hq⟩ := h
  show t_law sd__law_box sd__law_cell sd__law_word_right sd__law_take sd__law_wrong_right (dEnd Q E) [some (.fz (ns.map .int)), none, none] G
  have hl16 := l16
  simp -implicitDefEqProofs [t_law]
  refine ⟨by unfold Ri; omega, ?_⟩
  refine forL_inv (fun xs δ G' => ∃ x1 x2 : Option D, (∀ x ∈ xs, ∃ k : Nat, x = .int k ∧ k ≤ 5) ∧ δ = [some (.fz (ns.map .int)), x1, x2]) (fun _ _ _ _ => gdT_) ?_ ?_ _ _ _
    ⟨none, none, fun x hx => by obtain ⟨i, hi, e⟩ := rng_mem hx; exact ⟨i, e, by omega⟩, rfl⟩
  · rintro δ G' ⟨x1, x2, _, rfl⟩
    exact hq G'
  · rintro x xs δ G' ⟨x1, x2, hx, rfl⟩ N hN
    obtain ⟨k, rfl, hk⟩ := hx x List.mem_cons_self
    have hN : ∀ (y2 : Option D) G', N [some (.fz (ns.map .int)), some (.int k), y2] G' := fun y2 G' => hN _ _ ⟨_, y2, fun y hy => hx y (List.mem_cons_of_mem _ hy), rfl⟩
    simp -implicitDefEqProofs
    refine ⟨ns, k, rfl, by omega, fun v => ?_⟩
    refine ⟨v, rfl, fun p o hp hb => ?_⟩
    refine ⟨p, 2, 1000, o, rfl, by omega, by omega, updD_same, hb.mono (by omega), fun v2 o2 _ _ hb2 => ?_⟩
    rw [updD_updD]
    simp -implicitDefEqProofs [eq_int]
    refine ⟨p, 500, o2, _, rfl, updD_same, hb2.mono (by omega), fun o3 hb3 => ?_⟩
    simp -implicitDefEqProofs
    refine ⟨p, 2, 100, o3, rfl, by omega, by omega, updD_same, hb3.mono (by omega), fun v3 o4 _ _ hb4 => ?_⟩
    simp -implicitDefEqProofs [eq_int]
    refine ⟨_, _, rfl, fun G5 _ => ?_⟩
    simp -implicitDefEqProofs
    exact hN _ _
theorem so_is_list : SdOk 1 sd_is_list := ⟨by rintro ds G Q E ⟨d, t, rfl, _⟩; rfl, fun ds G Q Q' E E' i j => by rintro ⟨d, t, e, h, q⟩; exact ⟨d, t, e, h, i _ _ q⟩⟩
theorem so_need_letters : SdOk 1 sd_need_letters := ⟨by rintro ds G Q E ⟨d, t, rfl, _⟩; rfl, fun ds G Q Q' E E' i j => by rintro ⟨d, t, e, h, q1, q2⟩; exact ⟨d, t, e, h, fun c => i _ _ (q1 c), fun c => j _ _ _ (q2 c)⟩⟩
theorem so_only : SdOk 2 sd_only := ⟨by rintro ds G Q E ⟨a, b, c, rfl, _⟩; rfl, fun ds G Q Q' E E' i j => by rintro ⟨a, b, c, e, h1, h2, q⟩; exact ⟨a, b, c, e, h1, h2, i _ _ q⟩⟩
theorem soSK {f : List Int → List Int → List Int} : SdOk 2 (sdSK f) := ⟨by rintro ds G Q E ⟨a, b, c, rfl, _⟩; rfl, fun ds G Q Q' E E' i j => by
  rintro ⟨w, l, tl, e, h1, q1, q2⟩
  exact ⟨w, l, tl, e, h1, fun c => j _ _ _ (q1 c), fun c => ⟨(q2 c).1, fun c2 => j _ _ _ ((q2 c).2.1 c2), fun c2 => by
    obtain ⟨ln, hl, q⟩ := (q2 c).2.2 c2
    exact ⟨ln, hl, fun wn e => i _ _ (q wn e)⟩⟩⟩⟩
theorem so_struck : SdOk 2 sd_struck := soSK
theorem so_kept : SdOk 2 sd_kept := soSK
theorem so_turned : SdOk 1 sd_turned := ⟨by rintro ds G Q E ⟨w, rfl, _⟩; rfl, fun ds G Q Q' E E' i j => by rintro ⟨w, e, h, q1, q2⟩; exact ⟨w, e, h, fun c => j _ _ _ (q1 c), fun wn a b => i _ _ (q2 wn a b)⟩⟩
theorem so__law_asked : SdOk 4 sd__law_asked := ⟨by rintro ds G Q E ⟨w, x, y, b, rfl, _⟩; rfl, fun ds G Q Q' E E' i j => by
  rintro ⟨w, x, y, b, e, l0, l2, h, q1, q2⟩
  refine ⟨w, x, y, b, e, l0, l2, h, fun c => i _ _ (q1 c), fun c wn ew => ⟨fun c2 => i _ _ ((q2 c wn ew).1 c2), fun c2 => ?_⟩⟩
  obtain ⟨tl, v, q3, q4⟩ := (q2 c wn ew).2 c2
  refine ⟨tl, v, fun c3 => i _ _ (q3 c3), fun c3 => ?_⟩
  obtain ⟨ln, hl, q5, q6⟩ := q4 c3
  exact ⟨ln, hl, fun c4 => i _ _ (q5 c4), fun c4 => i _ _ (q6 c4)⟩⟩
theorem so__law_word : SdOk 1 sd__law_word := ⟨by rintro ds G Q E ⟨a, n, o, rfl, _⟩; rfl, fun ds G Q Q' E E' i j => by rintro ⟨a, n, o, e, h1, h2, q⟩; exact ⟨a, n, o, e, h1, h2, fun w o' a b c => i _ _ (q w o' a b c)⟩⟩
theorem so__law_word_right : SdOk 2 sd__law_word_right := ⟨by rintro ds G Q E ⟨a, n, o, b, rfl, _⟩; rfl, fun ds G Q Q' E E' i j => by rintro ⟨a, n, o, b, e, h1, h2, q⟩; exact ⟨a, n, o, b, e, h1, h2, fun o' h => i _ _ (q o' h)⟩⟩
theorem so__law_wrong_right : SdOk 2 sd__law_wrong_right := ⟨by rintro ds G Q E ⟨a, b, rfl, _⟩; rfl, fun ds G Q Q' E E' i j => by rintro ⟨a, b, e, q⟩; exact ⟨a, b, e, fun G' h => i _ _ (q G' h)⟩⟩
end k02
end DL
set_option Elab.async false
set_option linter.all false
set_option maxRecDepth 100000
set_option maxHeartbeats 0
namespace DL
namespace k02
open PySem PySem.Spec PyProof.Rows L2
/-! ### the head -/
def clsB : Stmt → List Stmt
  | .ClassDef (body := b) .. => b
  | _ => []
def dd_is_integer : He.DefD := ⟨("is_integer", none), "is_integer", "is_integer", defArgs S_is_integer, defBody S_is_integer, defScope S_is_integer, [], []⟩
def dd_is_between : He.DefD := ⟨("is_between", none), "is_between", "is_between", defArgs S_is_between, defBody S_is_between, defScope S_is_between, [], []⟩
def dd_is_list : He.DefD := ⟨("is_list", none), "is_list", "is_list", defArgs S_is_list, defBody S_is_list, defScope S_is_list, [], []⟩
def dd_is_word : He.DefD := ⟨("is_word", none), "is_word", "is_word", defArgs S_is_word, defBody S_is_word, defScope S_is_word, [], []⟩
def dd_need_word : He.DefD := ⟨("need_word", none), "need_word", "need_word", defArgs S_need_word, defBody S_need_word, defScope S_need_word, [], []⟩
def dd_ways_of : He.DefD := ⟨("ways_of", none), "ways_of", "ways_of", defArgs S_ways_of, defBody S_ways_of, defScope S_ways_of, [], []⟩
def dd_scattered : He.DefD := ⟨("scattered", none), "scattered", "scattered", defArgs S_scattered, defBody S_scattered, defScope S_scattered, [], []⟩
def dd_need_letters : He.DefD := ⟨("need_letters", none), "need_letters", "need_letters", defArgs S_need_letters, defBody S_need_letters, defScope S_need_letters, [], []⟩
def dd_struck : He.DefD := ⟨("struck", none), "struck", "struck", defArgs S_struck, defBody S_struck, defScope S_struck, [], []⟩
def dd_only : He.DefD := ⟨("only", none), "only", "only", defArgs S_only, defBody S_only, defScope S_only, [], []⟩
def dd_kept : He.DefD := ⟨("kept", none), "kept", "kept", defArgs S_kept, defBody S_kept, defScope S_kept, [], []⟩
def dd_turned : He.DefD := ⟨("turned", none), "turned", "turned", defArgs S_turned, defBody S_turned, defScope S_turned, [], []⟩
def dd__law_cell : He.DefD := ⟨("_law_cell", none), "_law_cell", "_law_cell", defArgs S__law_cell, defBody S__law_cell, defScope S__law_cell, [], []⟩
def dd__law_box : He.DefD := ⟨("_law_box", none), "_law_box", "_law_box", defArgs S__law_box, defBody S__law_box, defScope S__law_box, [], []⟩
def dd__law_take : He.DefD := ⟨("_law_take", none), "_law_take", "_law_take", defArgs S__law_take, defBody S__law_take, defScope S__law_take, [], []⟩
def dd__law_pick : He.DefD := ⟨("_law_pick", none), "_law_pick", "_law_pick", defArgs S__law_pick, defBody S__law_pick, defScope S__law_pick, [], []⟩
def dd__law_same : He.DefD := ⟨("_law_same", none), "_law_same", "_law_same", defArgs S__law_same, defBody S__law_same, defScope S__law_same, [], []⟩
def dd__law_copy : He.DefD := ⟨("_law_copy", none), "_law_copy", "_law_copy", defArgs S__law_copy, defBody S__law_copy, defScope S__law_copy, [], []⟩
def dd__law_very : He.DefD := ⟨("_law_very", none), "_law_very", "_law_very", defArgs S__law_very, defBody S__law_very, defScope S__law_very, [], []⟩
def dd__law_scattered : He.DefD := ⟨("_law_scattered", none), "_law_scattered", "_law_scattered", defArgs S__law_scattered, defBody S__law_scattered, defScope S__law_scattered, [], []⟩
def dd__law_asked : He.DefD := ⟨("_law_asked", none), "_law_asked", "_law_asked", defArgs S__law_asked, defBody S__law_asked, defScope S__law_asked, [], []⟩
def dd__law_word : He.DefD := ⟨("_law_word", none), "_law_word", "_law_word", defArgs S__law_word, defBody S__law_word, defScope S__law_word, [], []⟩
def dd__law_word_right : He.DefD := ⟨("_law_word_right", none), "_law_word_right", "_law_word_right", defArgs S__law_word_right, defBody S__law_word_right, defScope S__law_word_right, [], []⟩
def dd__law_wrong_right : He.DefD := ⟨("_law_wrong_right", none), "_law_wrong_right", "_law_wrong_right", defArgs S__law_wrong_right, defBody S__law_wrong_right, defScope S__law_wrong_right, [], []⟩
def dd_law : He.DefD := ⟨("law", none), "law", "law", defArgs S_law, defBody S_law, defScope S_law, [], []⟩
abbrev Si_InvalidWord : Stmt := (clsB (top 3)).getD 0 (.Pass ⟨0, 0, 0, 0⟩)
def dd_i_InvalidWord : He.DefD := ⟨("InvalidWord", some "__init__"), "__init__", "InvalidWord.__init__", defArgs Si_InvalidWord, defBody Si_InvalidWord, defScope Si_InvalidWord, [], []⟩
abbrev Si_InvalidPart : Stmt := (clsB (top 2)).getD 0 (.Pass ⟨0, 0, 0, 0⟩)
def dd_i_InvalidPart : He.DefD := ⟨("InvalidPart", some "__init__"), "__init__", "InvalidPart.__init__", defArgs Si_InvalidPart, defBody Si_InvalidPart, defScope Si_InvalidPart, [], []⟩
abbrev Si_InvalidLetters : Stmt := (clsB (top 4)).getD 0 (.Pass ⟨0, 0, 0, 0⟩)
def dd_i_InvalidLetters : He.DefD := ⟨("InvalidLetters", some "__init__"), "__init__", "InvalidLetters.__init__", defArgs Si_InvalidLetters, defBody Si_InvalidLetters, defScope Si_InvalidLetters, [], []⟩
def fn : List He.DefD := [dd_is_integer, dd_is_between, dd_is_list, dd_is_word, dd_need_word, dd_ways_of, dd_scattered, dd_need_letters, dd_struck, dd_only, dd_kept, dd_turned, dd__law_cell, dd__law_box, dd__law_take, dd__law_pick, dd__law_same, dd__law_copy, dd__law_very, dd__law_scattered, dd__law_asked, dd__law_word, dd__law_word_right, dd__law_wrong_right, dd_law, dd_i_InvalidWord, dd_i_InvalidPart, dd_i_InvalidLetters]
def fa : List He.Fa := [.glo "is_integer", .glo "is_between", .glo "is_list", .glo "is_word", .glo "need_word", .glo "ways_of", .glo "scattered", .glo "need_letters", .glo "struck", .glo "only", .glo "kept", .glo "turned", .glo "_law_cell", .glo "_law_box", .glo "_law_take", .glo "_law_pick", .glo "_law_same", .glo "_law_copy", .glo "_law_very", .glo "_law_scattered", .glo "_law_asked", .glo "_law_word", .glo "_law_word_right", .glo "_law_wrong_right", .glo "law", .glo "JoinError", .glo "InvalidWord", .glo "InvalidPart", .glo "InvalidLetters", .free "int", .free "isinstance", .free "bool", .free "list", .free "tuple", .free "len", .free "all", .free "range", .free "sum", .free "abs", .free "str", .free "dict", .free "min", .free "max", .int "MOST_LETTERS" 100, .int "MOST_LETTER" 1000, .int "MOST_PART" 3]
def fx : List (Frag → Bool) := [joinB "JoinError", exmB exl, excB "InvalidWord" "given", excB "InvalidPart" "given", excB "InvalidLetters" "given"]
abbrev R : PySem.W.OpenRow := PySem.W.OpenLaw.row PySem.Challenge.rw_anyjoin_k02_struck_kept_turned
abbrev hk : PySem.W.Hook := hookX 6 fa fx fn
def ob (s : PySem.W.SharedT) : He.AlD := obsXG 6 fa fx fn (HandSHeadRun.getT s)
theorem ob_eq (s : PySem.W.SharedT) : ob s = hk.obs s.abs := obsXG_eq (HandSHeadRun.getT_eq s)
abbrev loose : List Str := ["JoinError", "InvalidPart", "InvalidWord", "InvalidLetters", "is_integer", "is_between", "is_list", "MOST_LETTERS", "MOST_LETTER", "MOST_PART", "is_word", "need_word", "ways_of", "scattered", "need_letters", "struck", "only", "kept", "turned", "_law_cell", "_law_box", "_law_take", "_law_pick", "_law_same", "_law_copy", "_law_very", "_law_scattered", "_law_asked", "_law_word", "_law_word_right", "_law_wrong_right"]
theorem run (w : World) : HandSHeadRun.RunEq R (PySem.W.view R.prog [35]) hk ob 4000 loose w := by
  intro os
  kernel_rfl
end k02
end DL
set_option Elab.async false
set_option linter.all false
set_option maxRecDepth 100000
set_option maxHeartbeats 0
namespace DL
namespace k02
open PySem PySem.Spec PyProof.Rows L2
/-! ### what the head tells, by names -/
structure Fx (P : Program) (w : World) (K : Frag) (mg : Str → Option Value) (base : Heap) : Prop where
  g_is_integer : mg "is_integer" = some (.ref (He.ga K "is_integer"))
  F_is_integer : ∃ fd, FunD K "is_integer" "is_integer" (defArgs S_is_integer) (defBody S_is_integer) (defScope S_is_integer) [] [] (He.ga K "is_integer") fd
  g_is_between : mg "is_between" = some (.ref (He.ga K "is_between"))
  F_is_between : ∃ fd, FunD K "is_between" "is_between" (defArgs S_is_between) (defBody S_is_between) (defScope S_is_between) [] [] (He.ga K "is_between") fd
  g_is_list : mg "is_list" = some (.ref (He.ga K "is_list"))
  F_is_list : ∃ fd, FunD K "is_list" "is_list" (defArgs S_is_list) (defBody S_is_list) (defScope S_is_list) [] [] (He.ga K "is_list") fd
  g_is_word : mg "is_word" = some (.ref (He.ga K "is_word"))
  F_is_word : ∃ fd, FunD K "is_word" "is_word" (defArgs S_is_word) (defBody S_is_word) (defScope S_is_word) [] [] (He.ga K "is_word") fd
  g_need_word : mg "need_word" = some (.ref (He.ga K "need_word"))
  F_need_word : ∃ fd, FunD K "need_word" "need_word" (defArgs S_need_word) (defBody S_need_word) (defScope S_need_word) [] [] (He.ga K "need_word") fd
  g_ways_of : mg "ways_of" = some (.ref (He.ga K "ways_of"))
  F_ways_of : ∃ fd, FunD K "ways_of" "ways_of" (defArgs S_ways_of) (defBody S_ways_of) (defScope S_ways_of) [] [] (He.ga K "ways_of") fd
  g_scattered : mg "scattered" = some (.ref (He.ga K "scattered"))
  F_scattered : ∃ fd, FunD K "scattered" "scattered" (defArgs S_scattered) (defBody S_scattered) (defScope S_scattered) [] [] (He.ga K "scattered") fd
  g_need_letters : mg "need_letters" = some (.ref (He.ga K "need_letters"))
  F_need_letters : ∃ fd, FunD K "need_letters" "need_letters" (defArgs S_need_letters) (defBody S_need_letters) (defScope S_need_letters) [] [] (He.ga K "need_letters") fd
  g_struck : mg "struck" = some (.ref (He.ga K "struck"))
  F_struck : ∃ fd, FunD K "struck" "struck" (defArgs S_struck) (defBody S_struck) (defScope S_struck) [] [] (He.ga K "struck") fd
  g_only : mg "only" = some (.ref (He.ga K "only"))
  F_only : ∃ fd, FunD K "only" "only" (defArgs S_only) (defBody S_only) (defScope S_only) [] [] (He.ga K "only") fd
  g_kept : mg "kept" = some (.ref (He.ga K "kept"))
  F_kept : ∃ fd, FunD K "kept" "kept" (defArgs S_kept) (defBody S_kept) (defScope S_kept) [] [] (He.ga K "kept") fd
  g_turned : mg "turned" = some (.ref (He.ga K "turned"))
  F_turned : ∃ fd, FunD K "turned" "turned" (defArgs S_turned) (defBody S_turned) (defScope S_turned) [] [] (He.ga K "turned") fd
  g__law_cell : mg "_law_cell" = some (.ref (He.ga K "_law_cell"))
  F__law_cell : ∃ fd, FunD K "_law_cell" "_law_cell" (defArgs S__law_cell) (defBody S__law_cell) (defScope S__law_cell) [] [] (He.ga K "_law_cell") fd
  g__law_box : mg "_law_box" = some (.ref (He.ga K "_law_box"))
  F__law_box : ∃ fd, FunD K "_law_box" "_law_box" (defArgs S__law_box) (defBody S__law_box) (defScope S__law_box) [] [] (He.ga K "_law_box") fd
  g__law_take : mg "_law_take" = some (.ref (He.ga K "_law_take"))
  F__law_take : ∃ fd, FunD K "_law_take" "_law_take" (defArgs S__law_take) (defBody S__law_take) (defScope S__law_take) [] [] (He.ga K "_law_take") fd
  g__law_pick : mg "_law_pick" = some (.ref (He.ga K "_law_pick"))
  F__law_pick : ∃ fd, FunD K "_law_pick" "_law_pick" (defArgs S__law_pick) (defBody S__law_pick) (defScope S__law_pick) [] [] (He.ga K "_law_pick") fd
  g__law_same : mg "_law_same" = some (.ref (He.ga K "_law_same"))
  F__law_same : ∃ fd, FunD K "_law_same" "_law_same" (defArgs S__law_same) (defBody S__law_same) (defScope S__law_same) [] [] (He.ga K "_law_same") fd
  g__law_copy : mg "_law_copy" = some (.ref (He.ga K "_law_copy"))
  F__law_copy : ∃ fd, FunD K "_law_copy" "_law_copy" (defArgs S__law_copy) (defBody S__law_copy) (defScope S__law_copy) [] [] (He.ga K "_law_copy") fd
  g__law_very : mg "_law_very" = some (.ref (He.ga K "_law_very"))
  F__law_very : ∃ fd, FunD K "_law_very" "_law_very" (defArgs S__law_very) (defBody S__law_very) (defScope S__law_very) [] [] (He.ga K "_law_very") fd
  g__law_scattered : mg "_law_scattered" = some (.ref (He.ga K "_law_scattered"))
  F__law_scattered : ∃ fd, FunD K "_law_scattered" "_law_scattered" (defArgs S__law_scattered) (defBody S__law_scattered) (defScope S__law_scattered) [] [] (He.ga K "_law_scattered") fd
  g__law_asked : mg "_law_asked" = some (.ref (He.ga K "_law_asked"))
  F__law_asked : ∃ fd, FunD K "_law_asked" "_law_asked" (defArgs S__law_asked) (defBody S__law_asked) (defScope S__law_asked) [] [] (He.ga K "_law_asked") fd
  g__law_word : mg "_law_word" = some (.ref (He.ga K "_law_word"))
  F__law_word : ∃ fd, FunD K "_law_word" "_law_word" (defArgs S__law_word) (defBody S__law_word) (defScope S__law_word) [] [] (He.ga K "_law_word") fd
  g__law_word_right : mg "_law_word_right" = some (.ref (He.ga K "_law_word_right"))
  F__law_word_right : ∃ fd, FunD K "_law_word_right" "_law_word_right" (defArgs S__law_word_right) (defBody S__law_word_right) (defScope S__law_word_right) [] [] (He.ga K "_law_word_right") fd
  g__law_wrong_right : mg "_law_wrong_right" = some (.ref (He.ga K "_law_wrong_right"))
  F__law_wrong_right : ∃ fd, FunD K "_law_wrong_right" "_law_wrong_right" (defArgs S__law_wrong_right) (defBody S__law_wrong_right) (defScope S__law_wrong_right) [] [] (He.ga K "_law_wrong_right") fd
  g_law : mg "law" = some (.ref (He.ga K "law"))
  F_law : ∃ fd, FunD K "law" "law" (defArgs S_law) (defBody S_law) (defScope S_law) [] [] (He.ga K "law") fd
  m_int : mg "int" = none
  m_isinstance : mg "isinstance" = none
  m_bool : mg "bool" = none
  m_list : mg "list" = none
  m_tuple : mg "tuple" = none
  m_len : mg "len" = none
  m_all : mg "all" = none
  m_range : mg "range" = none
  m_sum : mg "sum" = none
  m_abs : mg "abs" = none
  m_str : mg "str" = none
  m_dict : mg "dict" = none
  m_min : mg "min" = none
  m_max : mg "max" = none
  C_MOST_LETTERS : GCm K mg "MOST_LETTERS" (.int 100)
  C_MOST_LETTER : GCm K mg "MOST_LETTER" (.int 1000)
  C_MOST_PART : GCm K mg "MOST_PART" (.int 3)
  X_InvalidWord : ExcF P w K mg base "InvalidWord" "given"
  X_InvalidPart : ExcF P w K mg base "InvalidPart" "given"
  X_InvalidLetters : ExcF P w K mg base "InvalidLetters" "given"
  EX : ExmOk K (exmT exl)
theorem sci_InvalidWord : FnScope ["self", "given"] ["self", "given"] (defScope Si_InvalidWord) := ⟨rfl, rfl, rfl, by decide +kernel, rfl, by decide +kernel, by decide +kernel⟩
theorem xf_InvalidWord {P : Program} {w : World} {K : Frag} {mg : Str → Option Value} {base : Heap} {fd : FuncData} (JF : JoinF K mg "JoinError") (gm : mg "InvalidWord" = some (.ref (He.ga K "InvalidWord"))) (h : excB "InvalidWord" "given" K = true)
    (F : FunD K "__init__" "InvalidWord.__init__" (defArgs Si_InvalidWord) (defBody Si_InvalidWord) (defScope Si_InvalidWord) [] [] (He.fAd K ("InvalidWord", some "__init__")) fd) : ExcF P w K mg base "InvalidWord" "given" :=
  excF_of gm h (init1_ok (J := "JoinError") (f := "given") (msg := "not a word as required") F sci_InvalidWord rfl rfl rfl JF (fun env => ⟨_, rfl⟩) (fun env => rfl) (fun env => rfl)) (F.bindsN fun _ _ _ _ _ _ us hl => match us, hl with | [_, _], _ => rfl)
theorem sci_InvalidPart : FnScope ["self", "given"] ["self", "given"] (defScope Si_InvalidPart) := ⟨rfl, rfl, rfl, by decide +kernel, rfl, by decide +kernel, by decide +kernel⟩
theorem xf_InvalidPart {P : Program} {w : World} {K : Frag} {mg : Str → Option Value} {base : Heap} {fd : FuncData} (JF : JoinF K mg "JoinError") (gm : mg "InvalidPart" = some (.ref (He.ga K "InvalidPart"))) (h : excB "InvalidPart" "given" K = true)
    (F : FunD K "__init__" "InvalidPart.__init__" (defArgs Si_InvalidPart) (defBody Si_InvalidPart) (defScope Si_InvalidPart) [] [] (He.fAd K ("InvalidPart", some "__init__")) fd) : ExcF P w K mg base "InvalidPart" "given" :=
  excF_of gm h (init1_ok (J := "JoinError") (f := "given") (msg := "not a part as required") F sci_InvalidPart rfl rfl rfl JF (fun env => ⟨_, rfl⟩) (fun env => rfl) (fun env => rfl)) (F.bindsN fun _ _ _ _ _ _ us hl => match us, hl with | [_, _], _ => rfl)
theorem sci_InvalidLetters : FnScope ["self", "given"] ["self", "given"] (defScope Si_InvalidLetters) := ⟨rfl, rfl, rfl, by decide +kernel, rfl, by decide +kernel, by decide +kernel⟩
theorem xf_InvalidLetters {P : Program} {w : World} {K : Frag} {mg : Str → Option Value} {base : Heap} {fd : FuncData} (JF : JoinF K mg "JoinError") (gm : mg "InvalidLetters" = some (.ref (He.ga K "InvalidLetters"))) (h : excB "InvalidLetters" "given" K = true)
    (F : FunD K "__init__" "InvalidLetters.__init__" (defArgs Si_InvalidLetters) (defBody Si_InvalidLetters) (defScope Si_InvalidLetters) [] [] (He.fAd K ("InvalidLetters", some "__init__")) fd) : ExcF P w K mg base "InvalidLetters" "given" :=
  excF_of gm h (init1_ok (J := "JoinError") (f := "given") (msg := "not letters as required") F sci_InvalidLetters rfl rfl rfl JF (fun env => ⟨_, rfl⟩) (fun env => rfl) (fun env => rfl)) (F.bindsN fun _ _ _ _ _ _ us hl => match us, hl with | [_, _], _ => rfl)
theorem fx_of {P : Program} {w : World} {K : Frag} {mg : Str → Option Value} {h base : Heap} (X : K.In h) (G : h.Ns mainGlobals mg) (c : SaysX fa fx fn K) : Fx P w K mg base := by
  have JF : JoinF K mg "JoinError" := joinF_of (He.glo_ok X G (c.fact (f := .glo "JoinError") (List.mem_of_getElem? (i := 25) rfl))) (c.own 0 (f := joinB "JoinError"))
  obtain ⟨fd_InvalidWord, Fi_InvalidWord⟩ := c.def_ 25 (d := dd_i_InvalidWord)
  obtain ⟨fd_InvalidPart, Fi_InvalidPart⟩ := c.def_ 26 (d := dd_i_InvalidPart)
  obtain ⟨fd_InvalidLetters, Fi_InvalidLetters⟩ := c.def_ 27 (d := dd_i_InvalidLetters)
  exact ⟨He.glo_ok X G (c.fact (f := .glo "is_integer") (List.mem_of_getElem? (i := 0) rfl)),
    c.def_ 0 (d := dd_is_integer),
    He.glo_ok X G (c.fact (f := .glo "is_between") (List.mem_of_getElem? (i := 1) rfl)),
    c.def_ 1 (d := dd_is_between),
    He.glo_ok X G (c.fact (f := .glo "is_list") (List.mem_of_getElem? (i := 2) rfl)),
    c.def_ 2 (d := dd_is_list),
    He.glo_ok X G (c.fact (f := .glo "is_word") (List.mem_of_getElem? (i := 3) rfl)),
    c.def_ 3 (d := dd_is_word),
    He.glo_ok X G (c.fact (f := .glo "need_word") (List.mem_of_getElem? (i := 4) rfl)),
    c.def_ 4 (d := dd_need_word),
    He.glo_ok X G (c.fact (f := .glo "ways_of") (List.mem_of_getElem? (i := 5) rfl)),
    c.def_ 5 (d := dd_ways_of),
    He.glo_ok X G (c.fact (f := .glo "scattered") (List.mem_of_getElem? (i := 6) rfl)),
    c.def_ 6 (d := dd_scattered),
    He.glo_ok X G (c.fact (f := .glo "need_letters") (List.mem_of_getElem? (i := 7) rfl)),
    c.def_ 7 (d := dd_need_letters),
    He.glo_ok X G (c.fact (f := .glo "struck") (List.mem_of_getElem? (i := 8) rfl)),
    c.def_ 8 (d := dd_struck),
    He.glo_ok X G (c.fact (f := .glo "only") (List.mem_of_getElem? (i := 9) rfl)),
    c.def_ 9 (d := dd_only),
    He.glo_ok X G (c.fact (f := .glo "kept") (List.mem_of_getElem? (i := 10) rfl)),
    c.def_ 10 (d := dd_kept),
    He.glo_ok X G (c.fact (f := .glo "turned") (List.mem_of_getElem? (i := 11) rfl)),
    c.def_ 11 (d := dd_turned),
    He.glo_ok X G (c.fact (f := .glo "_law_cell") (List.mem_of_getElem? (i := 12) rfl)),
    c.def_ 12 (d := dd__law_cell),
    He.glo_ok X G (c.fact (f := .glo "_law_box") (List.mem_of_getElem? (i := 13) rfl)),
    c.def_ 13 (d := dd__law_box),
    He.glo_ok X G (c.fact (f := .glo "_law_take") (List.mem_of_getElem? (i := 14) rfl)),
    c.def_ 14 (d := dd__law_take),
    He.glo_ok X G (c.fact (f := .glo "_law_pick") (List.mem_of_getElem? (i := 15) rfl)),
    c.def_ 15 (d := dd__law_pick),
    He.glo_ok X G (c.fact (f := .glo "_law_same") (List.mem_of_getElem? (i := 16) rfl)),
    c.def_ 16 (d := dd__law_same),
    He.glo_ok X G (c.fact (f := .glo "_law_copy") (List.mem_of_getElem? (i := 17) rfl)),
    c.def_ 17 (d := dd__law_copy),
    He.glo_ok X G (c.fact (f := .glo "_law_very") (List.mem_of_getElem? (i := 18) rfl)),
    c.def_ 18 (d := dd__law_very),
    He.glo_ok X G (c.fact (f := .glo "_law_scattered") (List.mem_of_getElem? (i := 19) rfl)),
    c.def_ 19 (d := dd__law_scattered),
    He.glo_ok X G (c.fact (f := .glo "_law_asked") (List.mem_of_getElem? (i := 20) rfl)),
    c.def_ 20 (d := dd__law_asked),
    He.glo_ok X G (c.fact (f := .glo "_law_word") (List.mem_of_getElem? (i := 21) rfl)),
    c.def_ 21 (d := dd__law_word),
    He.glo_ok X G (c.fact (f := .glo "_law_word_right") (List.mem_of_getElem? (i := 22) rfl)),
    c.def_ 22 (d := dd__law_word_right),
    He.glo_ok X G (c.fact (f := .glo "_law_wrong_right") (List.mem_of_getElem? (i := 23) rfl)),
    c.def_ 23 (d := dd__law_wrong_right),
    He.glo_ok X G (c.fact (f := .glo "law") (List.mem_of_getElem? (i := 24) rfl)),
    c.def_ 24 (d := dd_law),
    He.free_ok X G (c.fact (f := .free "int") (List.mem_of_getElem? (i := 29) rfl)),
    He.free_ok X G (c.fact (f := .free "isinstance") (List.mem_of_getElem? (i := 30) rfl)),
    He.free_ok X G (c.fact (f := .free "bool") (List.mem_of_getElem? (i := 31) rfl)),
    He.free_ok X G (c.fact (f := .free "list") (List.mem_of_getElem? (i := 32) rfl)),
    He.free_ok X G (c.fact (f := .free "tuple") (List.mem_of_getElem? (i := 33) rfl)),
    He.free_ok X G (c.fact (f := .free "len") (List.mem_of_getElem? (i := 34) rfl)),
    He.free_ok X G (c.fact (f := .free "all") (List.mem_of_getElem? (i := 35) rfl)),
    He.free_ok X G (c.fact (f := .free "range") (List.mem_of_getElem? (i := 36) rfl)),
    He.free_ok X G (c.fact (f := .free "sum") (List.mem_of_getElem? (i := 37) rfl)),
    He.free_ok X G (c.fact (f := .free "abs") (List.mem_of_getElem? (i := 38) rfl)),
    He.free_ok X G (c.fact (f := .free "str") (List.mem_of_getElem? (i := 39) rfl)),
    He.free_ok X G (c.fact (f := .free "dict") (List.mem_of_getElem? (i := 40) rfl)),
    He.free_ok X G (c.fact (f := .free "min") (List.mem_of_getElem? (i := 41) rfl)),
    He.free_ok X G (c.fact (f := .free "max") (List.mem_of_getElem? (i := 42) rfl)),
    gcm_int (He.int_ok X G (c.fact (f := .int "MOST_LETTERS" 100) (List.mem_of_getElem? (i := 43) rfl))),
    gcm_int (He.int_ok X G (c.fact (f := .int "MOST_LETTER" 1000) (List.mem_of_getElem? (i := 44) rfl))),
    gcm_int (He.int_ok X G (c.fact (f := .int "MOST_PART" 3) (List.mem_of_getElem? (i := 45) rfl))),
    xf_InvalidWord JF (He.glo_ok X G (c.fact (f := .glo "InvalidWord") (List.mem_of_getElem? (i := 26) rfl))) (c.own 2 (f := excB "InvalidWord" "given")) Fi_InvalidWord,
    xf_InvalidPart JF (He.glo_ok X G (c.fact (f := .glo "InvalidPart") (List.mem_of_getElem? (i := 27) rfl))) (c.own 3 (f := excB "InvalidPart" "given")) Fi_InvalidPart,
    xf_InvalidLetters JF (He.glo_ok X G (c.fact (f := .glo "InvalidLetters") (List.mem_of_getElem? (i := 28) rfl))) (c.own 4 (f := excB "InvalidLetters" "given")) Fi_InvalidLetters,
    exmT_ok (c.own 1 (f := exmB exl))⟩
/-! ### each def keeps its promise -/
section
variable {P : Program} {w : World} {K : Frag} {mg : Str → Option Value} {base : Heap}
theorem df__law_box (Z : Fx P w K mg base) : Df P w K mg base 3 "_law_box" P__law_box [] sd__law_box := by
  obtain ⟨fd, F⟩ := Z.F__law_box
  exact df_ok (k := 2) F Z.g__law_box sc__law_box so__law_box (F.bindsN fun _ _ _ _ _ _ us hl => match us, hl with | [_], _ => rfl) (fun q hq => nomatch hq) fun cdv A o s H E hr => ⟨_, der__law_box (hr.mono (by omega)) Z.m_abs Z.m_int, pure__law_box⟩
theorem df__law_cell (Z : Fx P w K mg base) : Df P w K mg base 3 "_law_cell" P__law_cell [] sd__law_cell := by
  obtain ⟨fd, F⟩ := Z.F__law_cell
  exact df_ok (k := 2) F Z.g__law_cell sc__law_cell so__law_cell (F.bindsN fun _ _ _ _ _ _ us hl => match us, hl with | [_, _], _ => rfl) (fun q hq => nomatch hq) fun cdv A o s H E hr => ⟨_, der__law_cell (hr.mono (by omega)) Z.m_len Z.m_sum Z.m_int, pure__law_cell⟩
theorem df__law_take (Z : Fx P w K mg base) : Df P w K mg base 3 "_law_take" P__law_take [] sd__law_take := by
  obtain ⟨fd, F⟩ := Z.F__law_take
  exact df_ok (k := 2) F Z.g__law_take sc__law_take so__law_take (F.bindsN fun _ _ _ _ _ _ us hl => match us, hl with | [_, _], _ => rfl) (fun q hq => nomatch hq) fun cdv A o s H E hr => ⟨_, der__law_take (hr.mono (by omega)) Z.m_int, pure__law_take⟩
theorem df__law_pick (Z : Fx P w K mg base) : Df P w K mg base 4 "_law_pick" P__law_pick [] sd__law_pick := by
  obtain ⟨fd, F⟩ := Z.F__law_pick
  exact df_ok (k := 3) F Z.g__law_pick sc__law_pick so__law_pick (F.bindsN fun _ _ _ _ _ _ us hl => match us, hl with | [_, _], _ => rfl) (fun q hq => nomatch hq) fun cdv A o s H E hr => ⟨_, der__law_pick (hr.mono (by omega)) Z.m_len (df__law_take Z) (hr.mono (by omega)), pure__law_pick⟩
theorem df__law_word (Z : Fx P w K mg base) : Df P w K mg base 5 "_law_word" P__law_word [] sd__law_word := by
  obtain ⟨fd, F⟩ := Z.F__law_word
  exact df_ok (k := 4) F Z.g__law_word sc__law_word so__law_word (F.bindsN fun _ _ _ _ _ _ us hl => match us, hl with | [_], _ => rfl) (fun q hq => nomatch hq) fun cdv A o s H E hr => ⟨_, der__law_word (hr.mono (by omega)) Z.m_range Z.m_tuple (df__law_pick Z) (hr.mono (by omega)) (df__law_take Z) (hr.mono (by omega)), pure__law_word⟩
theorem df_is_integer (Z : Fx P w K mg base) : Df P w K mg base 3 "is_integer" P_is_integer [] sd_is_integer := by
  obtain ⟨fd, F⟩ := Z.F_is_integer
  exact df_ok (k := 2) F Z.g_is_integer sc_is_integer so_is_integer (F.bindsN fun _ _ _ _ _ _ us hl => match us, hl with | [_], _ => rfl) (fun q hq => nomatch hq) fun cdv A o s H E hr => ⟨_, der_is_integer (hr.mono (by omega)) Z.m_int Z.m_isinstance Z.m_bool, pure_is_integer⟩
theorem df_is_between (Z : Fx P w K mg base) : Df P w K mg base 4 "is_between" P_is_between [] sd_is_between := by
  obtain ⟨fd, F⟩ := Z.F_is_between
  exact df_ok (k := 3) F Z.g_is_between sc_is_between so_is_between (F.bindsN fun _ _ _ _ _ _ us hl => match us, hl with | [_, _, _], _ => rfl) (fun q hq => nomatch hq) fun cdv A o s H E hr => ⟨_, der_is_between (hr.mono (by omega)) (df_is_integer Z) (hr.mono (by omega)), pure_is_between⟩
theorem df_is_word (Z : Fx P w K mg base) : Df P w K mg base 5 "is_word" P_is_word [] sd_is_word := by
  obtain ⟨fd, F⟩ := Z.F_is_word
  exact df_ok (k := 4) F Z.g_is_word sc_is_word so_is_word (F.bindsN fun _ _ _ _ _ _ us hl => match us, hl with | [_], _ => rfl) (fun q hq => nomatch hq) fun cdv A o s H E hr => ⟨_, der_is_word (hr.mono (by omega)) Z.m_tuple Z.m_isinstance Z.m_len Z.m_all Z.C_MOST_LETTERS Z.C_MOST_LETTER (df_is_between Z) (hr.mono (by omega)), pure_is_word⟩
theorem df_need_word (Z : Fx P w K mg base) : Df P w K mg base 6 "need_word" P_need_word [] sd_need_word := by
  obtain ⟨fd, F⟩ := Z.F_need_word
  exact df_ok (k := 5) F Z.g_need_word sc_need_word so_need_word (F.bindsN fun _ _ _ _ _ _ us hl => match us, hl with | [_], _ => rfl) (fun q hq => nomatch hq) fun cdv A o s H E hr => ⟨_, der_need_word (hr.mono (by omega)) Z.X_InvalidWord (df_is_word Z) (hr.mono (by omega)), pure_need_word⟩
theorem df_is_list (Z : Fx P w K mg base) : Df P w K mg base 3 "is_list" P_is_list [] sd_is_list := by
  obtain ⟨fd, F⟩ := Z.F_is_list
  exact df_ok (k := 2) F Z.g_is_list sc_is_list so_is_list (F.bindsN fun _ _ _ _ _ _ us hl => match us, hl with | [_], _ => rfl) (fun q hq => nomatch hq) fun cdv A o s H E hr => ⟨_, der_is_list (hr.mono (by omega)) Z.m_list Z.m_tuple Z.m_isinstance, pure_is_list⟩
theorem df_need_letters (Z : Fx P w K mg base) : Df P w K mg base 5 "need_letters" P_need_letters [] sd_need_letters := by
  obtain ⟨fd, F⟩ := Z.F_need_letters
  exact df_ok (k := 4) F Z.g_need_letters sc_need_letters so_need_letters (F.bindsN fun _ _ _ _ _ _ us hl => match us, hl with | [_], _ => rfl) (fun q hq => nomatch hq) fun cdv A o s H E hr => ⟨_, der_need_letters (hr.mono (by omega)) Z.m_all Z.X_InvalidLetters (df_is_list Z) (hr.mono (by omega)) (df_is_between Z) (hr.mono (by omega)), pure_need_letters⟩
theorem df_struck (Z : Fx P w K mg base) : Df P w K mg base 7 "struck" P_struck [(0, ["letters", "word"], [1, 0])] sd_struck := by
  obtain ⟨fd, F⟩ := Z.F_struck
  exact df_ok (k := 6) F Z.g_struck sc_struck so_struck (F.bindsN fun _ _ _ _ _ _ us hl => match us, hl with | [_, _], _ => rfl) (fun q hq => by rw [List.mem_singleton.mp hq]; exact kbn_of F fun _ _ _ _ _ _ us ws h1 h2 => match us, h1, ws, h2 with | [], _, [_, _], _ => rfl) fun cdv A o s H E hr => ⟨_, der_struck (hr.mono (by omega)) Z.m_tuple (df_need_word Z) (hr.mono (by omega)) (df_need_letters Z) (hr.mono (by omega)), pure_struck⟩
theorem df_only (Z : Fx P w K mg base) : Df P w K mg base 3 "only" P_only [] sd_only := by
  obtain ⟨fd, F⟩ := Z.F_only
  exact df_ok (k := 2) F Z.g_only sc_only so_only (F.bindsN fun _ _ _ _ _ _ us hl => match us, hl with | [_, _], _ => rfl) (fun q hq => nomatch hq) fun cdv A o s H E hr => ⟨_, der_only (hr.mono (by omega)) Z.m_tuple, pure_only⟩
theorem df_kept (Z : Fx P w K mg base) : Df P w K mg base 7 "kept" P_kept [(0, ["letters", "word"], [1, 0])] sd_kept := by
  obtain ⟨fd, F⟩ := Z.F_kept
  exact df_ok (k := 6) F Z.g_kept sc_kept so_kept (F.bindsN fun _ _ _ _ _ _ us hl => match us, hl with | [_, _], _ => rfl) (fun q hq => by rw [List.mem_singleton.mp hq]; exact kbn_of F fun _ _ _ _ _ _ us ws h1 h2 => match us, h1, ws, h2 with | [], _, [_, _], _ => rfl) fun cdv A o s H E hr => ⟨_, der_kept (hr.mono (by omega)) (df_need_word Z) (hr.mono (by omega)) (df_need_letters Z) (hr.mono (by omega)) (df_only Z) (hr.mono (by omega)), pure_kept⟩
theorem df_turned (Z : Fx P w K mg base) : Df P w K mg base 7 "turned" P_turned [(0, ["word"], [0])] sd_turned := by
  obtain ⟨fd, F⟩ := Z.F_turned
  exact df_ok (k := 6) F Z.g_turned sc_turned so_turned (F.bindsN fun _ _ _ _ _ _ us hl => match us, hl with | [_], _ => rfl) (fun q hq => by rw [List.mem_singleton.mp hq]; exact kbn_of F fun _ _ _ _ _ _ us ws h1 h2 => match us, h1, ws, h2 with | [], _, [_], _ => rfl) fun cdv A o s H E hr => ⟨_, der_turned (hr.mono (by omega)) (df_need_word Z) (hr.mono (by omega)), pure_turned⟩
theorem df__law_asked (Z : Fx P w K mg base) : Df P w K mg base 8 "_law_asked" P__law_asked [] sd__law_asked := by
  obtain ⟨fd, F⟩ := Z.F__law_asked
  exact df_ok (k := 7) F Z.g__law_asked sc__law_asked so__law_asked (F.bindsN fun _ _ _ _ _ _ us hl => match us, hl with | [_, _, _, _], _ => rfl) (fun q hq => nomatch hq) fun cdv A o s H E hr => ⟨_, der__law_asked (hr.mono (by omega)) Z.X_InvalidWord Z.X_InvalidLetters Z.EX (df_struck Z) (hr.mono (by omega)) (df_kept Z) (hr.mono (by omega)) (df_turned Z) (hr.mono (by omega)), pure__law_asked⟩
theorem dfs__law_same (Z : Fx P w K mg base) : ∀ n, Df P w K mg base (n + 3) "_law_same" P__law_same [] (sd__law_same n)
  | 0 => by
    obtain ⟨fd, F⟩ := Z.F__law_same
    exact df_no (kwp := []) F Z.g__law_same sc__law_same (F.bindsN fun _ _ _ _ _ _ us hl => match us, hl with | [_, _], _ => rfl) (fun q hq => nomatch hq) 2
  | n + 1 => by
    obtain ⟨fd, F⟩ := Z.F__law_same
    exact df_ok (k := n + 3) F Z.g__law_same sc__law_same (so__law_same (n + 1)) (F.bindsN fun _ _ _ _ _ _ us hl => match us, hl with | [_, _], _ => rfl) (fun q hq => nomatch hq) fun cdv A o s H E hr => ⟨_, der__law_same (hr.mono (by omega)) Z.m_bool Z.m_isinstance Z.m_int Z.m_str Z.m_dict Z.m_len Z.m_list Z.m_tuple Z.m_range (dfs__law_same Z n) hr, pure__law_same n⟩
theorem df__law_same (Z : Fx P w K mg base) : Df P w K mg base 54 "_law_same" P__law_same [] (sd__law_same 51) := dfs__law_same Z 51
theorem df_ways_of (Z : Fx P w K mg base) : Df P w K mg base 3 "ways_of" P_ways_of [] sd_ways_of := by
  obtain ⟨fd, F⟩ := Z.F_ways_of
  exact df_ok (k := 2) F Z.g_ways_of sc_ways_of so_ways_of (F.bindsN fun _ _ _ _ _ _ us hl => match us, hl with | [_, _], _ => rfl) (fun q hq => nomatch hq) fun cdv A o s H E hr => ⟨_, der_ways_of (hr.mono (by omega)) Z.m_len Z.m_range, pure_ways_of⟩
theorem df_scattered (Z : Fx P w K mg base) : Df P w K mg base 7 "scattered" P_scattered [] sd_scattered := by
  obtain ⟨fd, F⟩ := Z.F_scattered
  exact df_ok (k := 6) F Z.g_scattered sc_scattered so_scattered (F.bindsN fun _ _ _ _ _ _ us hl => match us, hl with | [_, _], _ => rfl) (fun q hq => nomatch hq) fun cdv A o s H E hr => ⟨_, der_scattered (hr.mono (by omega)) Z.m_len Z.C_MOST_PART Z.X_InvalidPart (df_is_word Z) (hr.mono (by omega)) (df_need_word Z) (hr.mono (by omega)) (df_ways_of Z) (hr.mono (by omega)), pure_scattered⟩
theorem dfs__law_scattered (Z : Fx P w K mg base) : ∀ n, Df P w K mg base (n + 3) "_law_scattered" P__law_scattered [] (sd__law_scattered n)
  | 0 => by
    obtain ⟨fd, F⟩ := Z.F__law_scattered
    exact df_no (kwp := []) F Z.g__law_scattered sc__law_scattered (F.bindsN fun _ _ _ _ _ _ us hl => match us, hl with | [_, _], _ => rfl) (fun q hq => nomatch hq) 2
  | n + 1 => by
    obtain ⟨fd, F⟩ := Z.F__law_scattered
    exact df_ok (k := n + 3) F Z.g__law_scattered sc__law_scattered (so__law_scattered (n + 1)) (F.bindsN fun _ _ _ _ _ _ us hl => match us, hl with | [_, _], _ => rfl) (fun q hq => nomatch hq) fun cdv A o s H E hr => ⟨_, der__law_scattered (hr.mono (by omega)) Z.m_len Z.m_range Z.m_sum (dfs__law_scattered Z n) hr, pure__law_scattered n⟩
theorem df__law_scattered (Z : Fx P w K mg base) : Df P w K mg base 13 "_law_scattered" P__law_scattered [] (sd__law_scattered 10) := dfs__law_scattered Z 10
theorem df__law_word_right (Z : Fx P w K mg base) : Df P w K mg base 55 "_law_word_right" P__law_word_right [] sd__law_word_right := by
  obtain ⟨fd, F⟩ := Z.F__law_word_right
  exact df_ok (k := 54) F Z.g__law_word_right sc__law_word_right so__law_word_right (F.bindsN fun _ _ _ _ _ _ us hl => match us, hl with | [_, _], _ => rfl) (fun q hq => nomatch hq) fun cdv A o s H E hr => ⟨_, der__law_word_right (hr.mono (by omega)) Z.m_range Z.m_list Z.m_tuple (df__law_word Z) (hr.mono (by omega)) (df__law_take Z) (hr.mono (by omega)) (df__law_pick Z) (hr.mono (by omega)) (df__law_asked Z) (hr.mono (by omega)) (df__law_same Z) (hr.mono (by omega)) (df_scattered Z) (hr.mono (by omega)) (df_turned Z) (hr.mono (by omega)) (df__law_scattered Z) (hr.mono (by omega)), pure__law_word_right⟩
theorem dfs__law_copy (Z : Fx P w K mg base) : ∀ n, Df P w K mg base (n + 3) "_law_copy" P__law_copy [] (sd__law_copy n)
  | 0 => by
    obtain ⟨fd, F⟩ := Z.F__law_copy
    exact df_no (kwp := []) F Z.g__law_copy sc__law_copy (F.bindsN fun _ _ _ _ _ _ us hl => match us, hl with | [_], _ => rfl) (fun q hq => nomatch hq) 2
  | n + 1 => by
    obtain ⟨fd, F⟩ := Z.F__law_copy
    exact df_ok (k := n + 3) F Z.g__law_copy sc__law_copy (so__law_copy (n + 1)) (F.bindsN fun _ _ _ _ _ _ us hl => match us, hl with | [_], _ => rfl) (fun q hq => nomatch hq) fun cdv A o s H E hr => ⟨_, der__law_copy (hr.mono (by omega)) Z.m_list Z.m_isinstance Z.m_tuple Z.m_dict (dfs__law_copy Z n) hr, pure__law_copy n⟩
theorem df__law_copy (Z : Fx P w K mg base) : Df P w K mg base 54 "_law_copy" P__law_copy [] (sd__law_copy 51) := dfs__law_copy Z 51
theorem df__law_very (Z : Fx P w K mg base) : Df P w K mg base 55 "_law_very" P__law_very [] sd__law_very := by
  obtain ⟨fd, F⟩ := Z.F__law_very
  exact df_ok (k := 54) F Z.g__law_very sc__law_very so__law_very (F.bindsN fun _ _ _ _ _ _ us hl => match us, hl with | [_, _], _ => rfl) (fun q hq => nomatch hq) fun cdv A o s H E hr => ⟨_, der__law_very (hr.mono (by omega)) Z.m_list Z.m_isinstance Z.m_dict (df__law_same Z) (hr.mono (by omega)), pure__law_very⟩
theorem df__law_wrong_right (Z : Fx P w K mg base) : Df P w K mg base 56 "_law_wrong_right" P__law_wrong_right [] sd__law_wrong_right := by
  obtain ⟨fd, F⟩ := Z.F__law_wrong_right
  exact df_ok (k := 55) F Z.g__law_wrong_right sc__law_wrong_right so__law_wrong_right (F.bindsN fun _ _ _ _ _ _ us hl => match us, hl with | [_, _], _ => rfl) (fun q hq => nomatch hq) fun cdv A o s H E hr => ⟨_, der__law_wrong_right (hr.mono (by omega)) Z.m_range (df__law_copy Z) (hr.mono (by omega)) (df__law_asked Z) (hr.mono (by omega)) (df__law_very Z) (hr.mono (by omega)), pure__law_wrong_right⟩
theorem law_fn {fd : FuncData} (F : FunD K "law" "law" (defArgs S_law) (defBody S_law) (defScope S_law) [] [] (He.ga K "law") fd) (Z : Fx P w K mg base) : FnOk P w K mg base (L2.CX P w) 57 (He.ga K "law") fd ["script"] (liftSp K sdLaw) :=
  fn_ok (k := 56) F sc_law sdLaw_ok fun cdv A o s H E hr => ⟨_, der_law (hr.mono (by omega)) Z.m_len Z.m_min Z.m_max Z.m_range (df__law_box Z) (hr.mono (by omega)) (df__law_cell Z) (hr.mono (by omega)) (df__law_word_right Z) (hr.mono (by omega)) (df__law_take Z) (hr.mono (by omega)) (df__law_wrong_right Z) (hr.mono (by omega)), pure_law⟩
end
end k02
end DL
open PySem PySem.W PySem.Calls PyProof.Rows
theorem PySem.Challenge.cw_anyjoin_k02_struck_kept_turned_holds : PySem.Challenge.rw_anyjoin_k02_struck_kept_turned.Holds := by
  w_on; o_law
  refine HandSHeadRun.head_any (r := OpenLaw.row PySem.Challenge.rw_anyjoin_k02_struck_kept_turned) (q := view (OpenLaw.row PySem.Challenge.rw_anyjoin_k02_struck_kept_turned).prog [35]) (H := DL.k02.hk) (ob := DL.k02.ob) (M := 4000) (loose := DL.k02.loose) (d := HandSHeadRun.topDef (OpenLaw.row PySem.Challenge.rw_anyjoin_k02_struck_kept_turned).prog 35) (kwd := []) DL.k02.ob_eq
    (by kernel_rfl) (fun s => by kernel_rfl) DL.k02.run (by kernel_rfl) (by kernel_rfl) (by kernel_rfl) (by rfl) (by first | assumption | decide +kernel) (by decide +kernel) ⟨rfl, rfl, rfl, rfl, rfl, by decide +kernel⟩ ?hw ?hc
  case hw => w_witness2
  case hc =>
    refine DL.walk_own (l := PySem.Challenge.rw_anyjoin_k02_struck_kept_turned) (n := 63) (k := 57) (x := "script") rfl (by decide) (by kernel_rfl) ⟨rfl, by decide, by decide⟩ ?F (by decide)
    intro w mg fa h Y G hmg0
    obtain ⟨K, KX, c⟩ := Y
    have hmg : mg ("law" : PySem.Str) = some (.ref fa) := by
      have e : (HandSHeadRun.topDef (OpenLaw.row PySem.Challenge.rw_anyjoin_k02_struck_kept_turned).prog 35).name = ("law" : PySem.Str) := by kernel_rfl
      rw [← e]
      exact hmg0
    have e := hmg.symm.trans (He.glo_ok KX G (c.fact (f := .glo "law") (List.mem_of_getElem? (i := 24) rfl)))
    cases e
    obtain ⟨fd, F⟩ := c.def_ 24 (d := DL.k02.dd_law)
    have b := L2.FunD.bindsA (ps := ["script"]) F fun _ _ _ _ _ _ us hl => match us, hl with | [_], _ => rfl
    exact ⟨K, fd, KX, fun s v => b s [v] rfl, fun base KB GB => DL.k02.law_fn F (DL.k02.fx_of KX G c)⟩
