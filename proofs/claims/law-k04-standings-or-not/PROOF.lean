import PyProof.Rows.All
import HandS.ForMost
import HandS.ForExc
import HandS.Wide
import HandS.Lambda
import HandS.Deep
import HandS.TupMul
import HandS.TupAny
import PyProof.Rows.IntBool
import HandS.Style
import HandS.TupLe
import HandS.IsInst
import OpenK.KOps
import HandS.SetBool
import HandS.TupSets
import HandS.Defaults
import HandS.Zip
import HandS.Iter
import KE.KRevSl
import HandS.Conv
import KE.DatumOrd
import HandS.HeadHook2
import HandS.Dict
import HandS.SortRule
import HandS.SortInts
import HandS.DictComp
import HandS.Ends
import PyProof.ReprRoads
import HandS.ExcInit
import HandS.ExcField
import HandS.ExcIs
import HandS.TryMany
import HandS.EndTab
import HandS.Head0
import HandS.Strs
import PySem.Challenge.RW_giveback_k04_standings_or_not
import HandS.Head1
import HandS.Head2
import HandS.HeadEnd
import HandS.TryOnly
import PyProof.Draws
import PyProof.EnumMake
import PyProof.NeKinds
import KE.KDictZip
import PyProof.FString2
import PyProof.PureStr
import PyProof.AutoSeq1
import PyProof.EqAt
import PyProof.ReprLen
import PyProof.Rows.ReprOcc
import HandS.OwnEq
set_option Elab.async false
set_option linter.all false
set_option maxRecDepth 100000
set_option maxHeartbeats 4000000
namespace DL
open PySem PySem.Spec L2
open PyProof.Rows hiding St
inductive D where
  | non | bl (b : Bool) | int (i : Int) | str (x : Str)
  | lst (xs : List D) | tup (xs : List D)
  | fn (x : Str) | ty (n : String) | obj (c : Str) (ns : List Str) (fs : List D) | pen | any | dct (kvs : List (Int × Int))
  | sd (ks : List Str) (ds : List D)
  | tupX (ds : List D)
  | dn (ks : List Int)
deriving Inhabited
def dkO (kvs : List (Int × Int)) : HO := .dK (kvs.map fun q => (.inl q.1, .int q.2))
def dnO (ks : List Int) : HO := .dK (ks.map fun k => (.inl k, .non))
def dsO (ks : List Int) : HO := .dK (ks.map fun k => (.inl k, .bl true))
structure Cf where
  K : PySem.W.Frag
  mg : Str → Option Value
structure Gp where
  P : Addr
  c : Addr
  T : List (Addr × Str) := []
structure Wd where
  turn : Int
  left : Int
  cs : List Int
inductive Lb where
  | v | s (i : Nat)
deriving DecidableEq
abbrev Ow := Addr → Option Lb
mutual
inductive Rp (C : Cf) (g : Gp) (F : Hp) : V → D → Prop
  | non : Rp C g F .non .non
  | bl (b : Bool) : Rp C g F (.bl b) (.bl b)
  | int (i : Int) : Rp C g F (.int i) (.int i)
  | str (x : Str) : Rp C g F (.str x) (.str x)
  | lst {a vs ds} : F a = some (.lst vs) → RpL C g F vs ds → Rp C g F (.ref a) (.lst ds)
  | tup {a vs ds} : F a = some (.tup vs) → RpL C g F vs ds → Rp C g F (.ref a) (.tup ds)
  | fn {f x} : C.mg x = some (.ref f) → Rp C g F (.ref f) (.fn x)
  | ty (n : String) : Rp C g F (.ty n) (.ty n)
  | obj {a dx cl c ns vs ds} : F a = some (.ins cl dx (ns.zip vs)) → C.mg c = some (.ref cl) → vs.length = ns.length → RpL C g F vs ds → Rp C g F (.ref a) (.obj c ns ds)
  | pen : Rp C g F (.ref g.P) .pen
  | any (v : V) : Rp C g F v .any
  | dct {a kvs} : F a = some (dkO kvs) → Rp C g F (.ref a) (.dct kvs)
  | sd {a ks vs ds} : F a = some (.dK ((ks.map Sum.inr).zip vs)) → vs.length = ks.length → RpL C g F vs ds → Rp C g F (.ref a) (.sd ks ds)
  | tupX {a o vs ds} : F a = some (.frz o (.tup vs)) → o.cls = .type "tuple" → o.dict = none → RpL C g F vs ds → Rp C g F (.ref a) (.tupX ds)
  | dn {a ks} : F a = some (dnO ks) → Rp C g F (.ref a) (.dn ks)
inductive RpL (C : Cf) (g : Gp) (F : Hp) : List V → List D → Prop
  | nil : RpL C g F [] []
  | cons {v d vs ds} : Rp C g F v d → RpL C g F vs ds → RpL C g F (v :: vs) (d :: ds)
end
abbrev LeH (F F' : Hp) : Prop := ∀ a o, F a = some o → F' a = some o
theorem SqT.mono {K : PySem.W.Frag} {H H' : Hp} {a : Addr} {xs : List V} (e : LeH H H') (h : SqT K H a xs) : SqT K H' a xs := by
  rcases h with (h | ⟨o, h⟩) | h
  · exact .inl (.inl (e _ _ h))
  · exact .inl (.inr ⟨o, e _ _ h⟩)
  · exact .inr h
theorem sqT {K : PySem.W.Frag} {H H' : Hp} {a : Addr} {xs : List V} (e : LeH H H') (h : H a = some (.tup xs)) : SqT K H' a xs := .inl (.inl (e _ _ h))
mutual
theorem Rp.mono {C : Cf} {g : Gp} {F F' : Hp} (e : LeH F F') : ∀ {v : V} {d : D}, Rp C g F v d → Rp C g F' v d
  | _, _, .non => .non
  | _, _, .bl b => .bl b
  | _, _, .int i => .int i
  | _, _, .str x => .str x
  | _, _, .lst h r => .lst (e _ _ h) (RpL.mono e r)
  | _, _, .tup h r => .tup (e _ _ h) (RpL.mono e r)
  | _, _, .fn h => .fn h
  | _, _, .ty n => .ty n
  | _, _, .obj h m l r => .obj (e _ _ h) m l (RpL.mono e r)
  | _, _, .pen => .pen
  | _, _, .any v => .any v
  | _, _, .dct h => .dct (e _ _ h)
  | _, _, .sd h l r => .sd (e _ _ h) l (RpL.mono e r)
  | _, _, .tupX h c d r => .tupX (e _ _ h) c d (RpL.mono e r)
  | _, _, .dn h => .dn (e _ _ h)
theorem RpL.mono {C : Cf} {g : Gp} {F F' : Hp} (e : LeH F F') : ∀ {vs : List V} {ds : List D}, RpL C g F vs ds → RpL C g F' vs ds
  | _, _, .nil => .nil
  | _, _, .cons a b => .cons (Rp.mono e a) (RpL.mono e b)
end
section
variable {C : Cf} {g : Gp} {F : Hp}
theorem RpL.length : ∀ {vs : List V} {ds : List D}, RpL C g F vs ds → vs.length = ds.length
  | _, _, .nil => rfl
  | _, _, .cons _ b => by simp [RpL.length b]
theorem RpL.get : ∀ {vs : List V} {ds : List D} {i : Nat} {d : D}, RpL C g F vs ds → ds[i]? = some d → ∃ v, vs[i]? = some v ∧ Rp C g F v d
  | _, _, _, _, .nil, e => by simp at e
  | _, _, 0, _, .cons a _, e => by simp at e; subst e; exact ⟨_, rfl, a⟩
  | _, _, i + 1, d, .cons _ b, e => by
    obtain ⟨v, h1, h2⟩ := RpL.get (i := i) (d := d) b (by simpa using e)
    exact ⟨v, by simpa using h1, h2⟩
theorem RpL.getV : ∀ {vs : List V} {ds : List D} {i : Nat} {v : V}, RpL C g F vs ds → vs[i]? = some v → ∃ d, ds[i]? = some d ∧ Rp C g F v d
  | _, _, _, _, .nil, e => by simp at e
  | _, _, 0, _, .cons a _, e => by simp at e; subst e; exact ⟨_, rfl, a⟩
  | _, _, i + 1, d, .cons _ b, e => by
    obtain ⟨v, h1, h2⟩ := RpL.getV (i := i) b (by simpa using e)
    exact ⟨v, by simpa using h1, h2⟩
theorem RpL.append : ∀ {vs us : List V} {ds es : List D}, RpL C g F vs ds → RpL C g F us es → RpL C g F (vs ++ us) (ds ++ es)
  | _, _, _, _, .nil, s => s
  | _, _, _, _, .cons a b, s => .cons a (RpL.append b s)
theorem RpL.take : ∀ (n : Nat) {vs : List V} {ds : List D}, RpL C g F vs ds → RpL C g F (vs.take n) (ds.take n)
  | 0, _, _, _ => .nil
  | _ + 1, _, _, .nil => .nil
  | n + 1, _, _, .cons a b => .cons a (RpL.take n b)
theorem RpL.drop : ∀ (n : Nat) {vs : List V} {ds : List D}, RpL C g F vs ds → RpL C g F (vs.drop n) (ds.drop n)
  | 0, _, _, r => r
  | _ + 1, _, _, .nil => .nil
  | n + 1, _, _, .cons _ b => RpL.drop n b
theorem RpL.reverse : ∀ {vs : List V} {ds : List D}, RpL C g F vs ds → RpL C g F vs.reverse ds.reverse
  | _, _, .nil => .nil
  | _, _, .cons a b => by
    rw [List.reverse_cons, List.reverse_cons]
    exact (RpL.reverse b).append (.cons a .nil)
theorem RpL.set : ∀ {vs : List V} {ds : List D} {v : V} {d : D} (i : Nat), Rp C g F v d → RpL C g F vs ds → RpL C g F (vs.set i v) (ds.set i d)
  | _, _, _, _, _, _, .nil => .nil
  | _, _, _, _, 0, r, .cons _ b => .cons r b
  | _, _, _, _, i + 1, r, .cons a b => .cons a (RpL.set i r b)
theorem RpL.eraseIdx : ∀ {vs : List V} {ds : List D} (i : Nat), RpL C g F vs ds → RpL C g F (vs.eraseIdx i) (ds.eraseIdx i)
  | _, _, _, .nil => .nil
  | _, _, 0, .cons _ b => b
  | _, _, i + 1, .cons a b => .cons a (RpL.eraseIdx i b)
theorem RpL.replicate {v : V} {d : D} (r : Rp C g F v d) : ∀ n : Nat, RpL C g F (List.replicate n v) (List.replicate n d)
  | 0 => .nil
  | n + 1 => .cons r (RpL.replicate r n)
theorem RpL.ints : ∀ {vs : List V} {ns : List Int}, RpL C g F vs (ns.map D.int) → vs = ns.map V.int
  | [], [], _ => rfl
  | v :: vs, n :: ns, h => by
    cases h with
    | cons a b => cases a; rw [List.map_cons, RpL.ints b]
  | [], n :: ns, h => nomatch h
  | v :: vs, [], h => nomatch h
theorem RpL.ofInts : ∀ (ns : List Int), RpL C g F (ns.map V.int) (ns.map D.int)
  | [] => .nil
  | n :: ns => .cons (.int n) (RpL.ofInts ns)
theorem RpL.bools : ∀ {vs : List V} {ns : List Bool}, RpL C g F vs (ns.map D.bl) → vs = ns.map V.bl
  | [], [], _ => rfl
  | v :: vs, n :: ns, h => by
    cases h with
    | cons a b => cases a; rw [List.map_cons, RpL.bools b]
  | [], n :: ns, h => nomatch h
  | v :: vs, [], h => nomatch h
end
inductive Sl where
  | no | fz (d : D) | ow (xs : List D) | ds (ks : List Int) | two (xs ys : List D) | tb (P : Addr) (q : Str)
  | nst (b : Bool) (xss : List (List D)) | dm (kvs : List (Int × Int)) | tt (T : List (Addr × Str))
structure DS where
  sl : List Sl
  w : Wd
structure Exn where
  c : Str
  fs : List (Str × D)
inductive Oc (α : Type) where
  | ok (a : α) (s : DS) | ex (x : Exn) (s : DS) | wr
def Oc.bind {α β : Type} (o : Oc α) (k : α → DS → Oc β) : Oc β := match o with
  | .ok a s => k a s
  | .ex x s => .ex x s
  | .wr => .wr
def penO (g : Gp) (w : Wd) : HO := .dK [(.inr "cells", .ref g.c), (.inr "turn", .int w.turn), (.inr "left", .int w.left)]
def Tb (g : Gp) (F Fx H : Hp) (own : Ow) : Prop := ∀ p ∈ g.T, (∃ ps : Array Value, H p.1 = some (.tbl ps) ∧ TriplesOk ps.toList ∧ ∀ (pos : Pos) (cv : Value), codeAmong pos ps.toList = some cv → ∃ c, cv = .ref c ∧ F c = some (LamX.CodeO c p.2)) ∧ F p.1 = none ∧ Fx p.1 = none ∧ own p.1 = none
theorem Tb.to {g : Gp} {F Fx H F' Fx' H' : Hp} {own own' : Ow} (t : Tb g F Fx H own) (k : ∀ a ps, H a = some (.tbl ps) → F a = none → Fx a = none → own a = none → H' a = some (.tbl ps) ∧ F' a = none ∧ Fx' a = none ∧ own' a = none) (le : LeH F F') : Tb g F' Fx' H' own' := fun p m => by
  obtain ⟨⟨ps, h1, h2, h3⟩, f, x, o⟩ := t p m
  obtain ⟨k1, k2, k3, k4⟩ := k _ ps h1 f x o
  exact ⟨⟨ps, k1, h2, fun pos cv q => let ⟨c, e, z⟩ := h3 pos cv q; ⟨c, e, le _ _ z⟩⟩, k2, k3, k4⟩
structure Rel (C : Cf) (g : Gp) (F0 Fx F H : Hp) (own : Ow) (w : Wd) : Prop where
  le : LeH F H
  ge : LeH F0 F
  nw : ∀ a, F0 a = none → Fx a ≠ none → F a = none
  fx : LeH Fx H
  ow : ∀ a l, own a = some l → F a = none ∧ Fx a = none ∧ a ≠ g.P ∧ H a ≠ none
  pen : H g.P = some (penO g w)
  penF : F g.P = none
  penX : Fx g.P = none
  cells : F g.c = some (.lst (w.cs.map V.int))
  tab : Tb g F Fx H own
def seqO (b : Bool) (vs : List V) : HO := if b = true then .tup vs else .lst vs
inductive NsR (C : Cf) (g : Gp) (F H : Hp) (O : Addr → Prop) : List Addr → List (List D) → Prop
  | nil : NsR C g F H O [] []
  | cons {q vs xs qs xss} : O q → H q = some (.lst vs) → RpL C g F vs xs → NsR C g F H O qs xss → NsR C g F H O (q :: qs) (xs :: xss)
theorem NsR.mono {C : Cf} {g : Gp} {F F' H H' : Hp} {O O' : Addr → Prop} (eF : LeH F F') (eH : ∀ a o, O a → H a = some o → H' a = some o) (eO : ∀ a, O a → O' a) : ∀ {qs xss}, NsR C g F H O qs xss → NsR C g F' H' O' qs xss
  | _, _, .nil => .nil
  | _, _, .cons o h r n => .cons (eO _ o) (eH _ _ o h) (r.mono eF) (NsR.mono eF eH eO n)
def SlR (C : Cf) (g : Gp) (F H : Hp) (O : Addr → Prop) (ov : Option V) : Sl → Prop
  | .no => True
  | .fz d => ∃ v, ov = some v ∧ Rp C g F v d
  | .ow xs => ∃ p vs, ov = some (.ref p) ∧ O p ∧ H p = some (.lst vs) ∧ RpL C g F vs xs
  | .ds ks => ∃ p, ov = some (.ref p) ∧ O p ∧ H p = some (dsO ks)
  | .dm kvs => ∃ p, ov = some (.ref p) ∧ O p ∧ H p = some (dkO kvs)
  | .tb P q => g.T = [(P, q)]
  | .tt T => g.T = T ∧ (T.map (·.1)).Nodup
  | .nst b xss => ∃ p qs, ov = some (.ref p) ∧ O p ∧ H p = some (seqO b (qs.map V.ref)) ∧ (p ∉ qs ∧ qs.Nodup) ∧ NsR C g F H O qs xss
  | .two xs ys => ∃ p q r vs us, ov = some (.ref p) ∧ (O p ∧ O q ∧ O r) ∧ (p ≠ q ∧ p ≠ r ∧ q ≠ r) ∧ (H p = some (.lst [.ref q, .ref r]) ∧ H q = some (.lst vs) ∧ H r = some (.lst us)) ∧ RpL C g F vs xs ∧ RpL C g F us ys
structure RelS (C : Cf) (g : Gp) (F0 Fx F H : Hp) (own : Ow) (σ : St) (s : DS) : Prop extends Rel C g F0 Fx F H own s.w where
  len : s.sl.length = σ.length
  at_ : ∀ i r ov, s.sl[i]? = some r → σ[i]? = some ov → SlR C g F H (fun a => own a = some (.s i)) ov r
section
variable {C : Cf} {g : Gp} {F0 Fx F F' H H' : Hp} {own own' : Ow} {σ : St} {s : DS} {w : Wd} {O O' : Addr → Prop} {ov : Option V} {r : Sl}
theorem SlR.mono (h : SlR C g F H O ov r) (eF : LeH F F') (eH : ∀ a o, O a → H a = some o → H' a = some o) (eO : ∀ a, O a → O' a) : SlR C g F' H' O' ov r := by
  cases r with
  | no => trivial
  | fz d => obtain ⟨v, e, p⟩ := h; exact ⟨v, e, p.mono eF⟩
  | ow xs => obtain ⟨p, vs, e, o, hp, q⟩ := h; exact ⟨p, vs, e, eO _ o, eH _ _ o hp, q.mono eF⟩
  | ds ks => obtain ⟨p, e, o, hp⟩ := h; exact ⟨p, e, eO _ o, eH _ _ o hp⟩
  | dm kvs => obtain ⟨p, e, o, hp⟩ := h; exact ⟨p, e, eO _ o, eH _ _ o hp⟩
  | tb P q => exact h
  | tt T => exact h
  | nst b xss => obtain ⟨p, qs, e, o, hp, d, n⟩ := h; exact ⟨p, qs, e, eO _ o, eH _ _ o hp, d, n.mono eF eH eO⟩
  | two xs ys => obtain ⟨p, q, r, vs, us, e, ⟨o1, o2, o3⟩, d, ⟨h1, h2, h3⟩, q1, q2⟩ := h; exact ⟨p, q, r, vs, us, e, ⟨eO _ o1, eO _ o2, eO _ o3⟩, d, ⟨eH _ _ o1 h1, eH _ _ o2 h2, eH _ _ o3 h3⟩, q1.mono eF, q2.mono eF⟩
theorem Rel.refl (h : Rel C g F0 Fx F H own w) : Rel C g F Fx F H own w := ⟨h.le, fun _ _ e => e, fun _ e _ => e, h.fx, h.ow, h.pen, h.penF, h.penX, h.cells, h.tab⟩
theorem RelS.refl (h : RelS C g F0 Fx F H own σ s) : RelS C g F Fx F H own σ s := { h.toRel.refl with len := h.len, at_ := h.at_ }
theorem Rel.trans {Fx' : Hp} (h : Rel C g F0 Fx F H own w) {w' : Wd} (h' : Rel C g F Fx' F' H' own' w') (e : LeH Fx Fx') : Rel C g F0 Fx F' H' own' w' where
  le := h'.le
  ge := fun a o q => h'.ge a o (h.ge a o q)
  nw := fun a n x => h'.nw a (h.nw a n x) (by
    cases q : Fx a with
    | none => exact absurd q x
    | some o => rw [e a o q]; exact fun z => nomatch z)
  fx := fun a o q => h'.fx a o (e a o q)
  ow := fun a l q => by
    obtain ⟨h1, h2, h3, h4⟩ := h'.ow a l q
    refine ⟨h1, ?_, h3, h4⟩
    cases z : Fx a with
    | none => rfl
    | some o => rw [e a o z] at h2; cases h2
  pen := h'.pen
  penF := h'.penF
  penX := h.penX
  cells := h'.cells
  tab := h'.tab.to (fun a ps q1 q2 q3 q4 => ⟨q1, q2, (by
    cases z : Fx a with
    | none => rfl
    | some o => rw [e a o z] at q3; cases q3), q4⟩) (fun _ _ q => q)
theorem RelS.trans {Fx' : Hp} {σ' : St} {s' : DS} (h : RelS C g F0 Fx F H own σ s) (h' : RelS C g F Fx' F' H' own' σ' s') (e : LeH Fx Fx') : RelS C g F0 Fx F' H' own' σ' s' :=
  { h.toRel.trans h'.toRel e with len := h'.len, at_ := h'.at_ }
theorem Rel.new {p : Addr} {o : HO} (h : Rel C g F0 Fx F H own w) (hp : H p = none) : Rel C g F0 Fx (upd F p o) (upd H p o) own w := by
  have nF : ∀ a o, F a = some o → a ≠ p := fun a o q z => by rw [z] at q; rw [h.le _ _ q] at hp; cases hp
  have nX : ∀ a o, Fx a = some o → a ≠ p := fun a o q z => by rw [z] at q; rw [h.fx _ _ q] at hp; cases hp
  have nP : g.P ≠ p := fun z => by rw [← z, h.pen] at hp; cases hp
  refine ⟨fun a u q => ?_, fun a u q => ?_, fun a n x => ?_, fun a u q => ?_, fun a l q => ?_, ?_, ?_, h.penX, ?_, (h.tab.to (fun a ps q1 q2 q3 q4 => have e : a ≠ p := fun z => by rw [z, hp] at q1; cases q1
    ⟨by rw [upd_ne e]; exact q1, by rw [upd_ne e]; exact q2, q3, q4⟩) (fun a u q => by rw [upd_ne (nF a u q)]; exact q))⟩
  · by_cases e : a = p
    · rw [e, upd_same] at q; rw [e, upd_same]; exact q
    · rw [upd_ne e] at q; rw [upd_ne e]; exact h.le _ _ q
  · rw [upd_ne (nF a u (h.ge _ _ q))]; exact h.ge _ _ q
  · cases q : Fx a with
    | none => exact absurd q x
    | some u => rw [upd_ne (nX a u q)]; exact h.nw a n x
  · rw [upd_ne (nX a u q)]; exact h.fx _ _ q
  · obtain ⟨h1, h2, h3, h4⟩ := h.ow a l q
    have e : a ≠ p := fun z => h4 (by rw [z]; exact hp)
    exact ⟨by rw [upd_ne e]; exact h1, h2, h3, by rw [upd_ne e]; exact h4⟩
  · rw [upd_ne nP]; exact h.pen
  · rw [upd_ne nP]; exact h.penF
  · rw [upd_ne (nF _ _ h.cells)]; exact h.cells
theorem upd_le {p : Addr} {o : HO} (hp : H p = none) : LeH H (upd H p o) := fun a u q => by
  rw [upd_ne (fun z => by rw [z, hp] at q; cases q)]; exact q
theorem Rel.Fnone (h : Rel C g F0 Fx F H own w) {p : Addr} (hp : H p = none) : F p = none := by
  cases q : F p with
  | none => rfl
  | some o => rw [h.le _ _ q] at hp; cases hp
theorem RelS.new {p : Addr} {o : HO} (h : RelS C g F0 Fx F H own σ s) (hp : H p = none) : RelS C g F0 Fx (upd F p o) (upd H p o) own σ s :=
  { h.toRel.new hp with len := h.len, at_ := fun i r ov h1 h2 => (h.at_ i r ov h1 h2).mono (upd_le (h.toRel.Fnone hp)) (fun a u _ q => upd_le hp a u q) (fun _ q => q) }
def own1 (own : Ow) (p : Addr) : Ow := fun a => if a = p then some .v else own a
theorem RelS.newOwn {p : Addr} {o : HO} (h : RelS C g F0 Fx F H own σ s) (hp : H p = none) : RelS C g F0 Fx F (upd H p o) (own1 own p) σ s := by
  have nF : ∀ a o, F a = some o → a ≠ p := fun a o q z => by rw [z] at q; rw [h.le _ _ q] at hp; cases hp
  have nX : ∀ a o, Fx a = some o → a ≠ p := fun a o q z => by rw [z] at q; rw [h.fx _ _ q] at hp; cases hp
  have nP : g.P ≠ p := fun z => by rw [← z, h.pen] at hp; cases hp
  refine { le := fun a u q => ?_, ge := h.ge, nw := h.nw, fx := fun a u q => ?_, ow := fun a l q => ?_, pen := ?_, penF := h.penF, penX := h.penX, cells := h.cells, tab := (h.tab.to (fun a ps q1 q2 q3 q4 => have e : a ≠ p := fun z => by rw [z, hp] at q1; cases q1
    ⟨by rw [upd_ne e]; exact q1, q2, q3, by show own1 own p a = none; unfold own1; rw [if_neg e]; exact q4⟩) (fun _ _ q => q)), len := h.len, at_ := fun i r ov h1 h2 => ?_ }
  · rw [upd_ne (nF a u q)]; exact h.le _ _ q
  · rw [upd_ne (nX a u q)]; exact h.fx _ _ q
  · unfold own1 at q
    by_cases e : a = p
    · subst e
      refine ⟨h.toRel.Fnone hp, ?_, fun z => nP z.symm, by rw [upd_same]; exact fun z => nomatch z⟩
      cases z : Fx a with
      | none => rfl
      | some u => exact absurd rfl (nX a u z)
    · rw [if_neg e] at q
      obtain ⟨h1, h2, h3, h4⟩ := h.ow a l q
      exact ⟨h1, h2, h3, by rw [upd_ne e]; exact h4⟩
  · rw [upd_ne nP]; exact h.pen
  · refine (h.at_ i r ov h1 h2).mono (fun _ _ q => q) (fun a u _ q => upd_le hp a u q) (fun a q => ?_)
    show own1 own p a = _
    unfold own1
    rw [if_neg (fun z => (h.ow a _ q).2.2.2 (by rw [z]; exact hp))]
    exact q
def own0 (own : Ow) (p : Addr) : Ow := fun a => if a = p then none else own a
theorem RelS.frz {p : Addr} {o : HO} {l : Lb} (h : RelS C g F0 Fx F H own σ s) (hp : H p = some o) (hl : own p = some l) (hs : ∀ i, l = .s i → s.sl[i]? ≠ none → ∃ d, s.sl[i]? = some (.fz d) ∨ s.sl[i]? = some .no) :
    RelS C g F0 Fx (upd F p o) H (own0 own p) σ s := by
  obtain ⟨z1, z2, z3, z4⟩ := h.ow p l hl
  have leF : LeH F (upd F p o) := upd_le z1
  refine { le := fun a u q => ?_, ge := fun a u q => leF _ _ (h.ge _ _ q), nw := fun a n x => ?_, fx := h.fx, ow := fun a l q => ?_, pen := h.pen, penF := ?_, penX := h.penX, cells := leF _ _ h.cells, tab := (h.tab.to (fun a ps q1 q2 q3 q4 => have e : a ≠ p := fun z => by rw [z, hl] at q4; cases q4
    ⟨q1, by rw [upd_ne e]; exact q2, q3, by show own0 own p a = none; unfold own0; rw [if_neg e]; exact q4⟩) leF), len := h.len, at_ := fun i r ov h1 h2 => ?_ }
  · by_cases e : a = p
    · subst e; rw [upd_same] at q; rw [hp]; exact q
    · rw [upd_ne e] at q; exact h.le _ _ q
  · rw [upd_ne (fun e => x (by rw [e]; exact z2))]; exact h.nw a n x
  · unfold own0 at q
    by_cases e : a = p
    · rw [if_pos e] at q; cases q
    · rw [if_neg e] at q
      obtain ⟨h1, h2, h3, h4⟩ := h.ow a l q
      exact ⟨by rw [upd_ne e]; exact h1, h2, h3, h4⟩
  · rw [upd_ne (fun e => z3 e.symm)]; exact h.penF
  · have q := h.at_ i r ov h1 h2
    by_cases e : l = .s i
    · obtain ⟨d, z⟩ := hs i e (by rw [h1]; exact fun z => nomatch z)
      rw [h1] at z
      rcases z with z | z
      · cases z; obtain ⟨v, e, r⟩ := q; exact ⟨v, e, r.mono leF⟩
      · cases z; trivial
    · refine q.mono leF (fun _ _ _ q => q) (fun a qa => ?_)
      show own0 own p a = _
      unfold own0
      rw [if_neg (fun z => e (by rw [z, hl] at qa; exact Option.some.inj qa))]
      exact qa
def DS.put (s : DS) (i : Nat) (r : Sl) : DS := ⟨s.sl.set i r, s.w⟩
theorem RelS.forget {i : Nat} (h : RelS C g F0 Fx F H own σ s) : RelS C g F0 Fx F H own σ (s.put i .no) :=
  { h.toRel with
    len := by show (s.sl.set i .no).length = _; rw [List.length_set]; exact h.len
    at_ := fun j r ov h1 h2 => by
      have h1 : (s.sl.set i .no)[j]? = some r := h1
      by_cases e : i = j
      · subst e
        have z : r = .no := by
          rw [List.getElem?_set] at h1
          simp at h1
          exact h1.2.symm
        rw [z]; trivial
      · rw [List.getElem?_set_ne e] at h1
        exact h.at_ j r ov h1 h2 }
theorem RelS.frzS {i : Nat} {xs : List D} (h : RelS C g F0 Fx F H own σ s) (hi : s.sl[i]? = some (.ow xs)) :
    ∃ v F' own', RelS C g F0 Fx F' H own' σ (s.put i (.fz (.lst xs))) ∧ σ[i]? = some (some v) ∧ Rp C g F' v (.lst xs) ∧ LeH F F' := by
  have hlt : i < σ.length := by rw [← h.len]; exact (List.getElem?_eq_some_iff.mp hi).1
  obtain ⟨p, vs, e, o, hp, q⟩ := h.at_ i _ σ[i] hi (List.getElem?_eq_getElem hlt)
  have z := h.ow p _ o
  have leF : LeH F (upd F p (.lst vs)) := upd_le z.1
  have R1 := (h.forget (i := i)).frz hp o (fun j ej _ => by
    cases ej
    refine ⟨.non, .inr ?_⟩
    show (s.sl.set i .no)[i]? = _
    rw [List.getElem?_set_self (by rw [h.len]; exact hlt)])
  have rp : Rp C g (upd F p (.lst vs)) (.ref p) (.lst xs) := .lst upd_same (q.mono leF)
  refine ⟨.ref p, _, _, { R1.toRel with len := ?_, at_ := fun j r ov h1 h2 => ?_ }, by rw [List.getElem?_eq_getElem hlt, e], rp, leF⟩
  · show (s.sl.set i _).length = _; rw [List.length_set]; exact h.len
  · have h1 : (s.sl.set i (.fz (.lst xs)))[j]? = some r := h1
    by_cases e' : i = j
    · subst e'
      rw [List.getElem?_set_self (by rw [h.len]; exact hlt)] at h1
      cases h1
      rw [List.getElem?_eq_getElem hlt, e] at h2
      cases h2
      exact ⟨_, rfl, rp⟩
    · rw [List.getElem?_set_ne e'] at h1
      refine R1.at_ j r ov ?_ h2
      show (s.sl.set i .no)[j]? = _
      rw [List.getElem?_set_ne e']; exact h1
def ownS (own : Ow) (i : Nat) : Ow := fun a => if own a = some .v then some (.s i) else if own a = some (.s i) then none else own a
theorem RelS.setS {i : Nat} {v : V} (h : RelS C g F0 Fx F H own σ s) (hv : SlR C g F H (fun a => own a = some .v) (some v) r) : RelS C g F0 Fx F H (ownS own i) (σ.set i (some v)) (s.put i r) := by
  refine { le := h.le, ge := h.ge, nw := h.nw, fx := h.fx, ow := fun a l q => ?_, pen := h.pen, penF := h.penF, penX := h.penX, cells := h.cells, tab := (h.tab.to (fun a ps q1 q2 q3 q4 => ⟨q1, q2, q3, by show ownS own i a = none; unfold ownS; rw [q4]; rfl⟩) (fun _ _ q => q)), len := ?_, at_ := fun j r' ov h1 h2 => ?_ }
  · unfold ownS at q
    by_cases e : own a = some .v
    · exact h.ow a _ e
    · rw [if_neg e] at q
      by_cases e2 : own a = some (.s i)
      · rw [if_pos e2] at q; cases q
      · rw [if_neg e2] at q; exact h.ow a l q
  · show (s.sl.set i _).length = _; rw [List.length_set, List.length_set]; exact h.len
  · have h1 : (s.sl.set i r)[j]? = some r' := h1
    by_cases e' : i = j
    · subst e'
      have hlt : i < s.sl.length := by
        have := (List.getElem?_eq_some_iff.mp h1).1; rwa [List.length_set] at this
      rw [List.getElem?_set_self hlt] at h1
      rw [List.getElem?_set_self (by rw [← h.len]; exact hlt)] at h2
      cases h1; cases h2
      exact hv.mono (fun _ _ q => q) (fun _ _ _ q => q) (fun a q => by
        show ownS own i a = _
        unfold ownS
        rw [if_pos q])
    · rw [List.getElem?_set_ne e'] at h1 h2
      refine (h.at_ j r' ov h1 h2).mono (fun _ _ q => q) (fun _ _ _ q => q) (fun a q => ?_)
      show ownS own i a = _
      unfold ownS
      rw [if_neg (by rw [q]; exact fun z => nomatch z), if_neg (by rw [q]; exact fun z => e' (by injection z with z; injection z with z; exact z.symm))]
      exact q
end
def exOk (C : Cf) (E : XK) (g : Gp) (F H : Hp) (x : Exn) : Prop :=
  ∀ cl dx vs, C.mg x.c = some (.ref cl) → H dx = some (.xd ((x.fs.map (·.1)).zip vs)) → RpL C g F vs (x.fs.map (·.2)) → E (.ref cl) (some dx) H
def Post {α : Type} (C : Cf) (E : XK) (g : Gp) (F0 Fx : Hp) (σ : St) (R : α → Hp → Hp → Ow → DS → Prop) : Oc α → Prop
  | .ok a s' => ∀ F' H' own', RelS C g F0 Fx F' H' own' σ s' → R a F' H' own' s'
  | .ex x s' => ∀ F' H' own', RelS C g F0 Fx F' H' own' σ s' → exOk C E g F' H' x
  | .wr => False
def tF (C : Cf) (E : XK) (f : DS → Oc D) : TE := fun σ H Q => ∃ g Fx F own s, RelS C g F Fx F H own σ s ∧ Post C E g F Fx σ (fun d F' H' _ _ => ∀ v, Rp C g F' v d → Q v H') (f s)
def tO (C : Cf) (E : XK) (f : DS → Oc Sl) : TE := fun σ H Q => ∃ g Fx F own s, RelS C g F Fx F H own σ s ∧ Post C E g F Fx σ (fun r F' H' own' _ => ∀ v, SlR C g F' H' (fun a => own' a = some .v) (some v) r → Q v H') (f s)
def tD (C : Cf) (E : XK) (f : DS → Oc Bool) : TT := fun σ H Q => ∃ g Fx F own s, RelS C g F Fx F H own σ s ∧ Post C E g F Fx σ (fun b _ H' _ _ => Q b H') (f s)
def tA (C : Cf) (E : XK) (f : DS → Oc (List D)) : TA := fun σ H Q => ∃ g Fx F own s, RelS C g F Fx F H own σ s ∧ Post C E g F Fx σ (fun ds F' H' _ _ => ∀ vs, RpL C g F' vs ds → Q vs H') (f s)
abbrev EF (X : Cx) (E : XK) (e : Expr) (f : DS → Oc D) : Prop := PE X e (tF ⟨X.K, X.mg⟩ E f)
abbrev EO (X : Cx) (E : XK) (e : Expr) (f : DS → Oc Sl) : Prop := PE X e (tO ⟨X.K, X.mg⟩ E f)
abbrev ET (X : Cx) (E : XK) (e : Expr) (f : DS → Oc Bool) : Prop := PT X e (tD ⟨X.K, X.mg⟩ E f)
abbrev EA (X : Cx) (E : XK) (es : List Expr) (f : DS → Oc (List D)) : Prop := PA X es (tA ⟨X.K, X.mg⟩ E f)
section
variable {C : Cf} {E : XK} {g : Gp} {F0 Fx F F' H H' : Hp} {own own' : Ow} {σ : St} {s : DS} {α β : Type}
theorem Post.bind {R : β → Hp → Hp → Ow → DS → Prop} {o : Oc α} {k : α → DS → Oc β} (h0 : RelS C g F0 Fx F H own σ s) (h : Post C E g F0 Fx σ R (o.bind k)) {R' : α → Hp → Hp → Ow → DS → Prop}
    (hk : ∀ a F1 H1 own1 s1, RelS C g F Fx F1 H1 own1 σ s1 → RelS C g F0 Fx F1 H1 own1 σ s1 → LeH F F1 → Post C E g F0 Fx σ R (k a s1) → R' a F1 H1 own1 s1) : Post C E g F Fx σ R' o := by
  cases o with
  | ok a s1 => exact fun F1 H1 own1 r => hk a F1 H1 own1 s1 r (h0.trans r fun _ _ q => q) r.ge h
  | ex x s1 => exact fun F1 H1 own1 r => h F1 H1 own1 (h0.trans r fun _ _ q => q)
  | wr => exact h
theorem tF.bind {R : β → Hp → Hp → Ow → DS → Prop} {f : DS → Oc D} {k : D → DS → Oc β} {Q : VK} (h0 : RelS C g F0 Fx F H own σ s) (h : Post C E g F0 Fx σ R ((f s).bind k))
    (hk : ∀ d F1 H1 own1 s1 v, RelS C g F0 Fx F1 H1 own1 σ s1 → LeH F F1 → Rp C g F1 v d → Post C E g F0 Fx σ R (k d s1) → Q v H1) : tF C E f σ H Q :=
  ⟨g, Fx, F, own, s, h0.refl, Post.bind h0 h fun d F1 H1 own1 s1 _ r le p v hv => hk d F1 H1 own1 s1 v r le hv p⟩
theorem tO.bind {R : β → Hp → Hp → Ow → DS → Prop} {f : DS → Oc Sl} {k : Sl → DS → Oc β} {Q : VK} (h0 : RelS C g F0 Fx F H own σ s) (h : Post C E g F0 Fx σ R ((f s).bind k))
    (hk : ∀ r F1 H1 own1 s1 v, RelS C g F0 Fx F1 H1 own1 σ s1 → LeH F F1 → SlR C g F1 H1 (fun a => own1 a = some .v) (some v) r → Post C E g F0 Fx σ R (k r s1) → Q v H1) : tO C E f σ H Q :=
  ⟨g, Fx, F, own, s, h0.refl, Post.bind h0 h fun d F1 H1 own1 s1 _ r le p v hv => hk d F1 H1 own1 s1 v r le hv p⟩
theorem tD.bind {R : β → Hp → Hp → Ow → DS → Prop} {f : DS → Oc Bool} {k : Bool → DS → Oc β} {Q : Bool → Hp → Prop} (h0 : RelS C g F0 Fx F H own σ s) (h : Post C E g F0 Fx σ R ((f s).bind k))
    (hk : ∀ b F1 H1 own1 s1, RelS C g F0 Fx F1 H1 own1 σ s1 → LeH F F1 → Post C E g F0 Fx σ R (k b s1) → Q b H1) : tD C E f σ H Q :=
  ⟨g, Fx, F, own, s, h0.refl, Post.bind h0 h fun d F1 H1 own1 s1 _ r le p => hk d F1 H1 own1 s1 r le p⟩
theorem tA.bind {R : β → Hp → Hp → Ow → DS → Prop} {f : DS → Oc (List D)} {k : List D → DS → Oc β} {Q : List V → Hp → Prop} (h0 : RelS C g F0 Fx F H own σ s) (h : Post C E g F0 Fx σ R ((f s).bind k))
    (hk : ∀ d F1 H1 own1 s1 v, RelS C g F0 Fx F1 H1 own1 σ s1 → LeH F F1 → RpL C g F1 v d → Post C E g F0 Fx σ R (k d s1) → Q v H1) : tA C E f σ H Q :=
  ⟨g, Fx, F, own, s, h0.refl, Post.bind h0 h fun d F1 H1 own1 s1 _ r le p v hv => hk d F1 H1 own1 s1 v r le hv p⟩
theorem Post.ok {R : α → Hp → Hp → Ow → DS → Prop} {a : α} (h : Post C E g F0 Fx σ R (.ok a s)) (r : RelS C g F0 Fx F H own σ s) : R a F H own s := h F H own r
end
theorem _root_.L2.PE.mono {X : Cx} {e : Expr} {t t' : TE} (h : PE X e t) (k : ∀ σ H Q, t' σ H Q → t σ H Q) : PE X e t' := ⟨fun pins s σ H Q I q => h.run pins s σ H Q I (k σ H Q q)⟩
theorem _root_.L2.PT.mono {X : Cx} {e : Expr} {t t' : TT} (h : PT X e t) (k : ∀ σ H Q, t' σ H Q → t σ H Q) : PT X e t' := ⟨fun pins s σ H Q I q => h.run pins s σ H Q I (k σ H Q q)⟩
theorem _root_.L2.PA.mono {X : Cx} {e : List Expr} {t t' : TA} (h : PA X e t) (k : ∀ σ H Q, t' σ H Q → t σ H Q) : PA X e t' := ⟨fun pos pins s σ H Q I q => h.run pos pins s σ H Q I (k σ H Q q)⟩
theorem _root_.L2.PS.mono {X : Cx} {e : Stmt} {t t' : TS} (h : PS X e t) (k : ∀ D σ H, t' D σ H → t D σ H) : PS X e t' := ⟨fun pins s σ H Q I q => h.run pins s σ H Q I (k Q σ H q)⟩
theorem _root_.L2.PSs.mono {X : Cx} {e : List Stmt} {t t' : TS} (h : PSs X e t) (k : ∀ D σ H, t' D σ H → t D σ H) : PSs X e t' := ⟨fun pins s σ H Q I q => h.run pins s σ H Q I (k Q σ H q)⟩
end DL
namespace DL
open PySem PySem.Spec L2
open PyProof.Rows hiding St
namespace D
mutual
def toPy : D → PyData
  | .non => .none
  | .bl b => .bool b
  | .int i => .int i
  | .str x => .str x
  | .lst xs => .list (toPyL xs)
  | .tup xs => .tuple (toPyL xs)
  | .fn _ => .none
  | .ty _ => .none
  | .obj _ _ _ => .none
  | .pen => .none
  | .any => .none
  | .dct _ => .none
  | .sd _ _ => .none
  | .tupX _ => .none
  | .dn _ => .none
def toPyL : List D → List PyData
  | [] => []
  | x :: xs => toPy x :: toPyL xs
end
mutual
def isPy : D → Bool
  | .non => true
  | .bl _ => true
  | .int _ => true
  | .str x => PyData.strOk x
  | .lst xs => isPyL xs
  | .tup xs => isPyL xs
  | .fn _ => false
  | .ty _ => false
  | .obj _ _ _ => false
  | .pen => false
  | .any => false
  | .dct _ => false
  | .sd _ _ => false
  | .tupX _ => false
  | .dn _ => false
def isPyL : List D → Bool
  | [] => true
  | x :: xs => isPy x && isPyL xs
end
def fit (d : D) : Bool := isPy d && decide ((toPy d).depth ≤ 64)
def eqv (d e : D) : Bool := PyData.eqv (toPy d) (toPy e)
mutual
theorem lay : ∀ d : D, isPy d = true → (toPy d).canLay0 = true
  | .non, _ => by simp [toPy, PyData.canLay0]
  | .bl _, _ => by simp [toPy, PyData.canLay0]
  | .int _, _ => by simp [toPy, PyData.canLay0]
  | .str _, h => by simpa [toPy, PyData.canLay0, isPy] using h
  | .lst xs, h => by simp only [toPy, PyData.canLay0]; exact layL xs (by simpa only [isPy] using h)
  | .tup xs, h => by simp only [toPy, PyData.canLay0]; exact layL xs (by simpa only [isPy] using h)
  | .fn _, h => by simp [isPy] at h
  | .ty _, h => by simp [isPy] at h
  | .obj _ _ _, h => by simp [isPy] at h
  | .pen, h => by simp [isPy] at h
  | .any, h => by simp [isPy] at h
  | .dct _, h => by simp [isPy] at h
  | .sd _ _, h => by simp [isPy] at h
  | .tupX _, h => by simp [isPy] at h
  | .dn _, h => by simp [isPy] at h
theorem layL : ∀ xs : List D, isPyL xs = true → PyData.canLayAll0 (toPyL xs) = true
  | [], _ => by simp [toPyL, PyData.canLayAll0]
  | x :: xs, h => by
    simp only [isPyL, Bool.and_eq_true] at h
    simp only [toPyL, PyData.canLayAll0, Bool.and_eq_true]
    exact ⟨lay x h.1, layL xs h.2⟩
end
theorem shaped {d : D} (h : fit d = true) : SeqAt.shaped (toPy d) = true := by
  unfold fit at h
  unfold SeqAt.shaped
  rw [Bool.and_eq_true] at h ⊢
  exact ⟨lay d h.1, h.2⟩
end D
mutual
theorem Rp.dp {C : Cf} {g : Gp} {F H : Hp} (le : LeH F H) : ∀ {v : V} {d : D}, Rp C g F v d → d.isPy = true → Dp C.K H v d.toPy
  | _, _, .non, _ => by simp only [D.toPy]; exact .non
  | _, _, .bl b, _ => by simp only [D.toPy]; exact .bl b
  | _, _, .int i, _ => by simp only [D.toPy]; exact .int i
  | _, _, .str x, _ => by simp only [D.toPy]; exact .str x
  | _, _, .lst h r, q => by simp only [D.toPy]; exact .lst (.inl (.inl (le _ _ h))) (RpL.dp le r (by simpa only [D.isPy] using q))
  | _, _, .tup h r, q => by simp only [D.toPy]; exact .tup (sqT le h) (RpL.dp le r (by simpa only [D.isPy] using q))
  | _, _, .fn h, q => by simp [D.isPy] at q
  | _, _, .ty n, q => by simp [D.isPy] at q
  | _, _, .obj h m l r, q => by simp [D.isPy] at q
  | _, _, .pen, q => by simp [D.isPy] at q
  | _, _, .any v, q => by simp [D.isPy] at q
  | _, _, .dct h, q => by simp [D.isPy] at q
  | _, _, .sd h l r, q => by simp [D.isPy] at q
  | _, _, .tupX h c d r, q => by simp [D.isPy] at q
  | _, _, .dn h, q => by simp [D.isPy] at q
theorem RpL.dp {C : Cf} {g : Gp} {F H : Hp} (le : LeH F H) : ∀ {vs : List V} {ds : List D}, RpL C g F vs ds → D.isPyL ds = true → DpAll C.K H vs (D.toPyL ds)
  | _, _, .nil, _ => by simp only [D.toPyL]; exact .nil
  | _, _, .cons a b, q => by
    simp only [D.isPyL, Bool.and_eq_true] at q
    simp only [D.toPyL]
    exact .cons (Rp.dp le a q.1) (RpL.dp le b q.2)
end
def frz : Sl → DS → Oc D
  | .fz d, s => .ok d s
  | .ow xs, s => .ok (.lst xs) s
  | _, _ => .wr
def fr (f : DS → Oc Sl) : DS → Oc D := fun s => (f s).bind frz
abbrev RO (C : Cf) (g : Gp) (Q : VK) : Sl → Hp → Hp → Ow → DS → Prop := fun r F' H' own' _ => ∀ v, SlR C g F' H' (fun a => own' a = some .v) (some v) r → Q v H'
section
variable {X : Cx} {E : XK} {e a b : Expr} {f h : DS → Oc Sl} {pos : Pos}
theorem EO.fr (he : EO X E e f) : EF X E e (fr f) := he.mono fun σ H Q ⟨g, Fx, F, own, s, R, p⟩ => by
  refine tO.bind (k := frz) R p fun r F1 H1 own1 s1 v R1 le hv p1 => ?_
  cases r with
  | no => exact p1.elim
  | ds _ => exact p1.elim
  | dm _ => exact p1.elim
  | two _ _ => exact p1.elim
  | nst _ _ => exact p1.elim
  | tb _ _ => exact p1.elim
  | tt _ => exact p1.elim
  | fz d => obtain ⟨v', e', hv⟩ := hv; cases e'; exact p1.ok R1 v hv
  | ow xs =>
    obtain ⟨p, vs, e', o, hp, q⟩ := hv
    cases e'
    have z := R1.ow p _ o
    have R2 := R1.frz hp o (fun i ei => nomatch ei)
    exact p1 _ _ _ R2 _ (.lst upd_same (q.mono (upd_le z.1)))
end
def rd (i : Nat) : DS → Oc Sl := fun s => match s.sl[i]? with
  | some (.fz d) => .ok (.fz d) s
  | some (.ow xs) => .ok (.fz (.lst xs)) (s.put i (.fz (.lst xs)))
  | _ => .wr
def mv (i : Nat) : DS → Oc Sl := fun s => match s.sl[i]? with
  | some (.fz d) => .ok (.fz d) s
  | some (.ow xs) => .ok (.ow xs) (s.put i .no)
  | _ => .wr
def cn (d : D) : DS → Oc Sl := fun s => .ok (.fz d) s
section
variable {C : Cf} {E : XK} {g : Gp} {F0 Fx F F' H H' : Hp} {own own' : Ow} {σ : L2.St} {s : DS}
theorem RelS.fz_at {i : Nat} {d : D} (R : RelS C g F0 Fx F H own σ s) (h : s.sl[i]? = some (.fz d)) : ∃ v, σ[i]? = some (some v) ∧ Rp C g F v d := by
  have hlt : i < σ.length := by rw [← R.len]; exact (List.getElem?_eq_some_iff.mp h).1
  obtain ⟨v, e, r⟩ := R.at_ i _ σ[i] h (List.getElem?_eq_getElem hlt)
  exact ⟨v, by rw [List.getElem?_eq_getElem hlt, e], r⟩
theorem RelS.ow_at {i : Nat} {xs : List D} (R : RelS C g F0 Fx F H own σ s) (h : s.sl[i]? = some (.ow xs)) : ∃ p vs, σ[i]? = some (some (.ref p)) ∧ own p = some (.s i) ∧ H p = some (.lst vs) ∧ RpL C g F vs xs := by
  have hlt : i < σ.length := by rw [← R.len]; exact (List.getElem?_eq_some_iff.mp h).1
  obtain ⟨p, vs, e, o, hp, r⟩ := R.at_ i _ σ[i] h (List.getElem?_eq_getElem hlt)
  exact ⟨p, vs, by rw [List.getElem?_eq_getElem hlt, e], o, hp, r⟩
def ownV (own : Ow) (i : Nat) : Ow := fun a => if own a = some (.s i) then some .v else if own a = some .v then none else own a
theorem RelS.move {i : Nat} (R : RelS C g F0 Fx F H own σ s) : RelS C g F0 Fx F H (ownV own i) σ (s.put i .no) := by
  have R1 := R.forget (i := i)
  refine { le := R.le, ge := R.ge, nw := R.nw, fx := R.fx, ow := fun a l q => ?_, pen := R.pen, penF := R.penF, penX := R.penX, cells := R.cells, tab := (R.tab.to (fun a ps q1 q2 q3 q4 => ⟨q1, q2, q3, by show ownV own i a = none; unfold ownV; rw [q4]; rfl⟩) (fun _ _ q => q)), len := R1.len, at_ := fun j r ov h1 h2 => ?_ }
  · unfold ownV at q
    by_cases e : own a = some (.s i)
    · exact R.ow a _ e
    · rw [if_neg e] at q
      by_cases e2 : own a = some .v
      · rw [if_pos e2] at q; cases q
      · rw [if_neg e2] at q; exact R.ow a l q
  · by_cases e : i = j
    · subst e
      have h1 : (s.sl.set i .no)[i]? = some r := h1
      have z : r = .no := by rw [List.getElem?_set] at h1; simp at h1; exact h1.2.symm
      rw [z]; trivial
    · refine (R1.at_ j r ov h1 h2).mono (fun _ _ q => q) (fun _ _ _ q => q) (fun a q => ?_)
      show ownV own i a = _
      unfold ownV
      rw [if_neg (by rw [q]; exact fun z => e (by injection z with z; injection z with z; exact z.symm)), if_neg (by rw [q]; exact fun z => nomatch z)]
      exact q
end
section
variable {X : Cx} {E : XK} {e a b c : Expr} {f h k : DS → Oc Sl} {pos : Pos}
theorem eo_var {i : Nat} {x : Str} (hv : PE X (.Name x pos) (tVar i)) : EO X E (.Name x pos) (rd i) := hv.mono fun σ H Q ⟨g, Fx, F, own, s, R, p⟩ => by
  unfold rd at p
  split at p
  · rename_i d hd
    obtain ⟨v, e, r⟩ := R.fz_at hd
    exact ⟨v, e, p.ok R v ⟨v, rfl, r⟩⟩
  · rename_i xs hd
    obtain ⟨v, F', own', R', e, r, le⟩ := R.frzS hd
    exact ⟨v, e, p.ok R' v ⟨v, rfl, r⟩⟩
  · exact p.elim
theorem eo_mv {i : Nat} {x : Str} (hv : PE X (.Name x pos) (tVar i)) : EO X E (.Name x pos) (mv i) := hv.mono fun σ H Q ⟨g, Fx, F, own, s, R, p⟩ => by
  unfold mv at p
  split at p
  · rename_i d hd
    obtain ⟨v, e, r⟩ := R.fz_at hd
    exact ⟨v, e, p.ok R v ⟨v, rfl, r⟩⟩
  · rename_i xs hd
    obtain ⟨q, vs, e, o, hp, r⟩ := R.ow_at hd
    refine ⟨_, e, p.ok (R.move (i := i)) _ ⟨q, vs, rfl, ?_, hp, r⟩⟩
    show ownV own i q = _
    unfold ownV
    rw [if_pos o]
  · exact p.elim
theorem eo_cn {d : D} {v : V} (h : PE X e (tC v)) (r : ∀ C g F, Rp C g F v d) : EO X E e (cn d) := h.mono fun σ H Q ⟨g, Fx, F, own, s, R, p⟩ => p.ok R v ⟨v, rfl, r _ _ _⟩
theorem eo_int {i : Int} {j} : EO X E (.Constant (.int i) j pos) (cn (.int i)) := eo_cn pe_int fun _ _ _ => .int i
theorem eo_bl {i : Bool} {j} : EO X E (.Constant (.bool i) j pos) (cn (.bl i)) := eo_cn pe_bl fun _ _ _ => .bl i
theorem eo_str {i : Str} {j} : EO X E (.Constant (.str i) j pos) (cn (.str i)) := eo_cn pe_str fun _ _ _ => .str i
theorem eo_non {j} : EO X E (.Constant .none j pos) (cn .non) := eo_cn pe_non fun _ _ _ => .non
theorem eo_gint {x : Str} {i : Int} {t : Tok} (hm : X.mg x = some (.int i t)) (hg : Gl X x := by rfl) (hd : (x == ("__debug__" : Str)) = false := by decide) : EO X E (.Name x pos) (cn (.int i)) := eo_cn (pe_glob (v := .int i) hg hm ⟨t, rfl⟩ hd) fun _ _ _ => .int i
end
def bin (op : D → D → DS → Oc Sl) (f h : DS → Oc Sl) : DS → Oc Sl := fun s => (fr f s).bind fun x s1 => (fr h s1).bind fun y s2 => op x y s2
def una (op : D → DS → Oc Sl) (f : DS → Oc Sl) : DS → Oc Sl := fun s => (fr f s).bind fun x s1 => op x s1
def OpD (C : Cf) (E : XK) (r : R2) (op : D → D → DS → Oc Sl) : Prop :=
  ∀ g F0 Fx F H own σ s x y d e Q, RelS C g F0 Fx F H own σ s → Rp C g F x d → Rp C g F y e → Post C E g F0 Fx σ (RO C g Q) (op d e s) → r x y H Q
def UnD (C : Cf) (E : XK) (r : V → Hp → VK → Prop) (op : D → DS → Oc Sl) : Prop :=
  ∀ g F0 Fx F H own σ s x d Q, RelS C g F0 Fx F H own σ s → Rp C g F x d → Post C E g F0 Fx σ (RO C g Q) (op d s) → r x H Q
section
variable {X : Cx} {E : XK} {e a b c : Expr} {f h k : DS → Oc Sl} {pos : Pos} {r : R2} {op : D → D → DS → Oc Sl}
theorem OpR.or {F : Value → Value → Sem Value} {r r' : R2} (h : OpR X F r) (h' : OpR X F r') : OpR X F (fun x y H Q => r x y H Q ∨ r' x y H Q) := fun pins s σ H x y v u Q I rx ry q => by
  rcases q with q | q
  · exact h pins s σ H x y v u Q I rx ry q
  · exact h' pins s σ H x y v u Q I rx ry q
theorem tOp_D (ha : OpD ⟨X.K, X.mg⟩ E r op) {σ : L2.St} {H : Hp} {Q : VK} (p : tO ⟨X.K, X.mg⟩ E (bin op f h) σ H Q) : tOp r (tF ⟨X.K, X.mg⟩ E (fr f)) (tF ⟨X.K, X.mg⟩ E (fr h)) σ H Q := by
  obtain ⟨g, Fx, F, own, s, R, p⟩ := p
  refine tF.bind (k := fun x s1 => (fr h s1).bind fun y s2 => op x y s2) R p fun d F1 H1 own1 s1 v R1 le hv p1 => ?_
  refine tF.bind (k := fun y s2 => op d y s2) R1 p1 fun d2 F2 H2 own2 s2 v2 R2 le2 hv2 p2 => ?_
  exact ha g F Fx F2 H2 own2 σ s2 v v2 d d2 Q R2 (hv.mono le2) hv2 p2
theorem eo_bin {o : Operator} (ho : OpR X (binaryOp o) r) (hD : OpD ⟨X.K, X.mg⟩ E r op) (ha : EO X E a f) (hb : EO X E b h) : EO X E (.BinOp a o b pos) (bin op f h) :=
  (pe_op ho ha.fr hb.fr).mono fun σ H Q p => tOp_D hD p
theorem eo_cmp {o : CmpOp} (ho : OpR X (compareOp o) r) (hD : OpD ⟨X.K, X.mg⟩ E r op) (ha : EO X E a f) (hb : EO X E b h) (hm : behindInMarks o b = false) : EO X E (.Compare a [o] [b] pos) (bin op f h) :=
  (pe_cmpR ho ha.fr hb.fr hm).mono fun σ H Q p => tOp_D hD p
theorem eo_un {o : UnaryOp} {r : V → Hp → VK → Prop} {op : D → DS → Oc Sl} (ho : UnR X (unaryOp o) r) (hD : UnD ⟨X.K, X.mg⟩ E r op) (ha : EO X E a f) : EO X E (.UnaryOp o a pos) (una op f) :=
  (pe_un ho ha.fr).mono fun σ H Q ⟨g, Fx, F, own, s, R, p⟩ => by
    refine tF.bind (k := op) R p fun d F1 H1 own1 s1 v R1 le hv p1 => ?_
    exact hD g F Fx F1 H1 own1 σ s1 v d Q R1 hv p1
theorem post_ow {C : Cf} {g : Gp} {F0 Fx F H : Hp} {own : Ow} {σ : L2.St} {s : DS} {Q : VK} {vs : List V} {ds : List D} (R : RelS C g F0 Fx F H own σ s) (r : RpL C g F vs ds) (p : Post C E g F0 Fx σ (RO C g Q) (.ok (.ow ds) s)) :
    ∀ q, H q = none → Q (.ref q) (upd H q (.lst vs)) := fun q hq =>
  p _ _ _ (R.newOwn hq) _ ⟨q, vs, rfl, by show own1 own q q = _; unfold own1; rw [if_pos rfl], upd_same, r⟩
theorem post_tup {C : Cf} {g : Gp} {F0 Fx F H : Hp} {own : Ow} {σ : L2.St} {s : DS} {Q : VK} {vs : List V} {ds : List D} (R : RelS C g F0 Fx F H own σ s) (r : RpL C g F vs ds) (p : Post C E g F0 Fx σ (RO C g Q) (.ok (.fz (.tup ds)) s)) :
    ∀ q, H q = none → Q (.ref q) (upd H q (.tup vs)) := fun q hq =>
  p _ _ _ (R.new hq) _ ⟨_, rfl, .tup upd_same (r.mono (upd_le (R.toRel.Fnone hq)))⟩
end
def b2 (b : Bool) : Int := if b = true then 1 else 0
section
variable {X : Cx}
def rBI (g : Int → Int → Int) : R2 := fun x y H Q => ∃ a j, x = .bl a ∧ y = .int j ∧ Q (.int (g (b2 a) j)) H
def rIB (g : Int → Int → Int) : R2 := fun x y H Q => ∃ i b, x = .int i ∧ y = .bl b ∧ Q (.int (g i (b2 b))) H
theorem opBI {f : Value → Value → Sem Value} {g : Int → Int → Int}
    (rule : ∀ (a : Bool) (j : Int) (u : Tok) (s : Shared) (Q : Value → Shared → Prop) (E : Value → Shared → Prop), Q (.int (g (b2 a) j) s.toks) { s with toks := s.toks + 1 } → wpAny (model X.prog X.w) X.A (f (.bool a) (.int j u)) Q E s) : OpR X f (rBI g) := by
  intro pins s σ H x y v u Q I rx ry h
  obtain ⟨a, j, rfl, rfl, q⟩ := h
  cases rx
  obtain ⟨t', rfl⟩ := ry
  exact rule a j t' s _ _ ⟨.int _, H, I.tok _, ⟨_, rfl⟩, q⟩
theorem opIB {f : Value → Value → Sem Value} {g : Int → Int → Int}
    (rule : ∀ (i : Int) (b : Bool) (u : Tok) (s : Shared) (Q : Value → Shared → Prop) (E : Value → Shared → Prop), Q (.int (g i (b2 b)) s.toks) { s with toks := s.toks + 1 } → wpAny (model X.prog X.w) X.A (f (.int i u) (.bool b)) Q E s) : OpR X f (rIB g) := by
  intro pins s σ H x y v u Q I rx ry h
  obtain ⟨i, b, rfl, rfl, q⟩ := h
  cases ry
  obtain ⟨t, rfl⟩ := rx
  exact rule i b t s _ _ ⟨.int _, H, I.tok _, ⟨_, rfl⟩, q⟩
theorem op_addBI : OpR X (binaryOp .Add) (rBI (· + ·)) := opBI fun _ _ _ _ _ _ q => IntBool.add_bool_int q
theorem op_subBI : OpR X (binaryOp .Sub) (rBI (· - ·)) := opBI fun _ _ _ _ _ _ q => IntBool.sub_bool_int q
theorem op_subIB : OpR X (binaryOp .Sub) (rIB (· - ·)) := opIB fun _ _ _ _ _ _ q => IntBool.sub_int_bool q
theorem op_mulIB : OpR X (binaryOp .Mult) (rIB (· * ·)) := opIB fun _ _ _ _ _ _ q => IntBool.mul_int_bool q
theorem tuple_mulE (l : Addr) (n : Nat) (dd : Option Addr) (sl : Array (Option Value)) (x : Int) (u : Tok) (c0 : (decide (x < -(2 ^ 63)) || decide (x ≥ 2 ^ 63)) = false) :
    Meets (Builtin.«tuple.__mul__» ⟨[.ref l, .int x u], []⟩) (fun _ R s => s.heap.get? l = some { cls := .type "tuple", dict := dd, data := .seq #[] n, slots := sl } ∧ R (.ok (.ret (Value.ref l))) s) :=
  .of_wp fun prog w A R s h => by
    obtain ⟨hp, g, d, tk, os⟩ := s
    obtain ⟨hl, h⟩ := h
    have f1 := AutoSeq1.idx_int
    wp_walk using wpAny_loadPart' hl
    repeat (first
      | (refine wpAny_ite_false (decide_eq_false (by rw [c0]; exact Bool.false_ne_true)) ?_; wp_walk using wpAny_loadPart' hl))
    exact ⟨_, rfl, h⟩
def rRepE (K : PySem.W.Frag) : R2 := fun x y H Q => ∃ l k, x = .ref l ∧ y = .int k ∧ SqT K H l [] ∧ 2 ≤ k ∧ k ≤ 1000 ∧ Q (.ref l) H
theorem op_repE : OpR X (binaryOp .Mult) (rRepE X.K) := by
  intro pins s σ H x y v u Q I rx ry h
  obtain ⟨l, k, rfl, rfl, hT, h1, h2, q⟩ := h
  cases rx
  obtain ⟨t, rfl⟩ := ry
  obtain ⟨its, r, ⟨⟨cls, dd, data, sl⟩, ho, hc, n, hd⟩, hs⟩ := I.tuple hT
  cases r
  simp only at hc hd
  subst hc hd
  have c0 : (decide (k < -(2 ^ 63)) || decide (k ≥ 2 ^ 63)) = false := by
    rw [decide_eq_false (by omega), decide_eq_false (by omega)] <;> rfl
  exact wpAny_binaryOp_repeat_ref (T := "tuple") (U := "int") (by decide) ⟨_, ho, rfl⟩ (fun s' => typeIs_int s' k t) noFill_tuple_mul F.fills_int_mul F.slot_int_rmul repeat_tuple F.slot_int_index.lookup
    (call_meets F.slot_int_rmul (typeIs_int s k t) F.entry_int_rmul (F.args_int_rmul_2 _ _) (int_rmul_tuple k t l _ n dd sl)
      ⟨ho, rfl, ⟨_, ho, rfl⟩, call_meets F.slot_tuple_mul ⟨_, ho, rfl⟩ F.entry_tuple_mul (F.args_tuple_mul_2 _ _) (tuple_mulE l n dd sl k t c0) ⟨ho, ⟨.ref l, H, I, rfl, q⟩⟩⟩)
end
def opAdd : D → D → DS → Oc Sl
  | .int i, .int j, s => .ok (.fz (.int (i + j))) s
  | .lst xs, .lst ys, s => if xs.length + ys.length ≤ sizeLine then .ok (.ow (xs ++ ys)) s else .wr
  | .tup xs, .tup ys, s => if xs.length + ys.length ≤ sizeLine then .ok (.fz (.tup (xs ++ ys))) s else .wr
  | .str x, .str y, s => if x.length + y.length ≤ sizeLine then .ok (.fz (.str (x ++ y))) s else .wr
  | .bl a, .int j, s => .ok (.fz (.int (b2 a + j))) s
  | _, _, _ => .wr
def opSub : D → D → DS → Oc Sl
  | .int i, .int j, s => .ok (.fz (.int (i - j))) s
  | .bl a, .int j, s => .ok (.fz (.int (b2 a - j))) s
  | .int i, .bl b, s => .ok (.fz (.int (i - b2 b))) s
  | _, _, _ => .wr
def mulFit (i j : Int) : Bool := decide (i.natAbs.log2 + j.natAbs.log2 < 1000000)
def opMod : D → D → DS → Oc Sl
  | .int i, .int j, s => if 0 < j then .ok (.fz (.int (i % j))) s else .wr
  | _, _, _ => .wr
def opFdiv : D → D → DS → Oc Sl
  | .int i, .int j, s => if 0 < j ∧ j.natAbs.log2 < 9000 then .ok (.fz (.int (i / j))) s else .wr
  | _, _, _ => .wr
def opPow : D → D → DS → Oc Sl
  | .int i, .int j, s => if 0 ≤ j ∧ j ≤ 1000000 ∧ i.natAbs < 2 ^ 64 then .ok (.fz (.int (i ^ j.toNat))) s else .wr
  | _, _, _ => .wr
def opNeg : D → DS → Oc Sl
  | .int i, s => .ok (.fz (.int (-i))) s
  | _, _ => .wr
theorem Post.ite {α : Type} {C : Cf} {E : XK} {g : Gp} {F0 Fx : Hp} {σ : L2.St} {R : α → Hp → Hp → Ow → DS → Prop} {c : Prop} [Decidable c] {o : Oc α} (h : Post C E g F0 Fx σ R (if c then o else .wr)) : c ∧ Post C E g F0 Fx σ R o := by
  by_cases hc : c
  · rw [if_pos hc] at h; exact ⟨hc, h⟩
  · rw [if_neg hc] at h; exact h.elim
section
variable {C : Cf} {E : XK} {X : Cx} {a b : Expr} {f h : DS → Oc Sl} {pos : Pos}
def rSubD : R2 := fun x y H Q => rI0 (fun i j => .int (i - j)) x y H Q ∨ (rBI (· - ·) x y H Q ∨ rIB (· - ·) x y H Q)
theorem op_subD : OpR X (binaryOp .Sub) rSubD := OpR.or op_sub (OpR.or op_subBI op_subIB)
theorem opD_sub : OpD C E rSubD opSub := by
  intro g F0 Fx F H own σ s x y d e Q R hx hy p
  unfold opSub at p
  split at p
  · cases hx; cases hy; exact .inl ⟨_, _, rfl, rfl, p.ok R _ ⟨_, rfl, .int _⟩⟩
  · cases hx; cases hy; exact .inr (.inl ⟨_, _, rfl, rfl, p.ok R _ ⟨_, rfl, .int _⟩⟩)
  · cases hx; cases hy; exact .inr (.inr ⟨_, _, rfl, rfl, p.ok R _ ⟨_, rfl, .int _⟩⟩)
  · exact p.elim
theorem opD_mod : OpD C E (rI (fun _ j => 0 < j) fun i j => .int (i % j)) opMod := by
  intro g F0 Fx F H own σ s x y d e Q R hx hy p
  unfold opMod at p
  split at p
  · cases hx; cases hy; obtain ⟨c, p⟩ := p.ite; exact ⟨_, _, rfl, rfl, c, p.ok R _ ⟨_, rfl, .int _⟩⟩
  · exact p.elim
theorem opD_fdiv : OpD C E (rI CDivW fun i j => .int (i / j)) opFdiv := by
  intro g F0 Fx F H own σ s x y d e Q R hx hy p
  unfold opFdiv at p
  split at p
  · cases hx; cases hy; obtain ⟨c, p⟩ := p.ite; exact ⟨_, _, rfl, rfl, c, p.ok R _ ⟨_, rfl, .int _⟩⟩
  · exact p.elim
theorem opD_pow : OpD C E (rI CPow fun i j => .int (i ^ j.toNat)) opPow := by
  intro g F0 Fx F H own σ s x y d e Q R hx hy p
  unfold opPow at p
  split at p
  · cases hx; cases hy; obtain ⟨c, p⟩ := p.ite; exact ⟨_, _, rfl, rfl, c, p.ok R _ ⟨_, rfl, .int _⟩⟩
  · exact p.elim
def rAddD (K : PySem.W.Frag) : R2 := fun x y H Q => ((rI0 (fun i j => .int (i + j)) x y H Q ∨ rCat x y H Q) ∨ (rCatA K x y H Q ∨ ∃ i j, x = .str i ∧ y = .str j ∧ i.length + j.length ≤ sizeLine ∧ Q (.str (i ++ j)) H)) ∨ rBI (· + ·) x y H Q
theorem op_addD : OpR X (binaryOp .Add) (rAddD X.K) := OpR.or (OpR.or (OpR.or op_add op_cat) (OpR.or op_catA op_add_str)) op_addBI
theorem opD_add : OpD C E (rAddD C.K) opAdd := by
  intro g F0 Fx F H own σ s x y d e Q R hx hy p
  unfold opAdd at p
  split at p
  · cases hx; cases hy; exact .inl (.inl (.inl ⟨_, _, rfl, rfl, p.ok R _ ⟨_, rfl, .int _⟩⟩))
  · cases hx with | lst h1 r1 => cases hy with | lst h2 r2 =>
    obtain ⟨c, p⟩ := p.ite
    exact .inl (.inl (.inr ⟨_, _, _, _, rfl, rfl, R.le _ _ h1, R.le _ _ h2, by rw [r1.length, r2.length]; exact c, post_ow R (r1.append r2) p⟩))
  · cases hx with | tup h1 r1 => cases hy with | tup h2 r2 =>
    obtain ⟨c, p⟩ := p.ite
    refine .inl (.inr (.inl ⟨_, _, _, _, rfl, rfl, sqT R.le h1, sqT R.le h2, by rw [r1.length, r2.length]; exact c, fun z => ?_, fun _ z => ?_, fun _ z => post_tup R (r1.append r2) p⟩))
    · have l1 := r1.length; rw [z] at l1
      have e1 := List.length_eq_zero_iff.mp l1.symm
      rw [e1, List.nil_append] at p
      exact p.ok R _ ⟨_, rfl, .tup h2 r2⟩
    · have l2 := r2.length; rw [z] at l2
      have e2 := List.length_eq_zero_iff.mp l2.symm
      rw [e2, List.append_nil] at p
      exact p.ok R _ ⟨_, rfl, .tup h1 r1⟩
  · cases hx; cases hy
    obtain ⟨c, p⟩ := p.ite
    exact .inl (.inr (.inr ⟨_, _, rfl, rfl, c, p.ok R _ ⟨_, rfl, .str _⟩⟩))
  · cases hx; cases hy; exact .inr ⟨_, _, rfl, rfl, p.ok R _ ⟨_, rfl, .int _⟩⟩
  · exact p.elim
theorem opD_neg : UnD C E (rU fun i => .int (-i)) opNeg := by
  intro g F0 Fx F H own σ s x d Q R hx p
  unfold opNeg at p
  split at p
  · cases hx; exact ⟨_, rfl, p.ok R _ ⟨_, rfl, .int _⟩⟩
  · exact p.elim
theorem eo_add (ha : EO X E a f) (hb : EO X E b h) : EO X E (.BinOp a .Add b pos) (bin opAdd f h) := eo_bin op_addD opD_add ha hb
theorem eo_sub (ha : EO X E a f) (hb : EO X E b h) : EO X E (.BinOp a .Sub b pos) (bin opSub f h) := eo_bin op_subD opD_sub ha hb
theorem eo_mod (ha : EO X E a f) (hb : EO X E b h) : EO X E (.BinOp a .Mod b pos) (bin opMod f h) := eo_bin op_mod opD_mod ha hb
theorem eo_fdiv (ha : EO X E a f) (hb : EO X E b h) : EO X E (.BinOp a .FloorDiv b pos) (bin opFdiv f h) := eo_bin op_fdivW opD_fdiv ha hb
theorem eo_pow (ha : EO X E a f) (hb : EO X E b h) : EO X E (.BinOp a .Pow b pos) (bin opPow f h) := eo_bin op_pow opD_pow ha hb
theorem eo_neg (ha : EO X E a f) : EO X E (.UnaryOp .USub a pos) (una opNeg f) := eo_un un_neg opD_neg ha
end
end DL
namespace DL
open PySem PySem.Spec L2
open PyProof.Rows hiding St
def opMulT : D → D → DS → Oc Sl
  | .int i, .int j, s => if mulFit i j then .ok (.fz (.int (i * j))) s else .wr
  | .lst xs, .int k, s => if k < 2 ^ 62 ∧ -(2 ^ 62) ≤ k ∧ xs.length * k.toNat ≤ sizeLine then .ok (.ow (List.replicate k.toNat xs).flatten) s else .wr
  | .tup xs, .int k, s => if 2 ≤ k ∧ k ≤ 1000 ∧ xs.length ≤ 1000 then .ok (.fz (.tup (List.replicate k.toNat xs).flatten)) s else .wr
  | .int i, .bl b, s => .ok (.fz (.int (i * b2 b))) s
  | _, _, _ => .wr
theorem RpL.rep {C : Cf} {g : Gp} {F : Hp} {vs : List V} {ds : List D} (r : RpL C g F vs ds) : ∀ n : Nat, RpL C g F (List.replicate n vs).flatten (List.replicate n ds).flatten
  | 0 => .nil
  | n + 1 => by rw [List.replicate_succ, List.replicate_succ, List.flatten_cons, List.flatten_cons]; exact r.append (RpL.rep r n)
section
variable {C : Cf} {E : XK} {X : Cx} {a b c : Expr} {f h k : DS → Oc Sl} {pos : Pos}
def rMulD (K : PySem.W.Frag) : R2 := fun x y H Q => rI CMulW (fun i j => .int (i * j)) x y H Q ∨ ((rRep x y H Q ∨ rRepT K x y H Q) ∨ (rRepE K x y H Q ∨ rIB (· * ·) x y H Q))
theorem op_mulD : OpR X (binaryOp .Mult) (rMulD X.K) := OpR.or op_mulW (OpR.or (OpR.or op_rep op_repT) (OpR.or op_repE op_mulIB))
theorem opD_mul : OpD C E (rMulD C.K) opMulT := by
  intro g F0 Fx F H own σ s x y d e Q R hx hy p
  unfold opMulT at p
  split at p
  · cases hx; cases hy; obtain ⟨c, p⟩ := p.ite
    exact .inl ⟨_, _, rfl, rfl, (by simp only [mulFit, decide_eq_true_eq] at c; exact c), p.ok R _ ⟨_, rfl, .int _⟩⟩
  · cases hx with | lst h1 r1 =>
    cases hy
    obtain ⟨c, p⟩ := p.ite
    exact .inr (.inl (.inl ⟨_, _, _, rfl, rfl, R.le _ _ h1, by omega, by omega, by rw [r1.length]; exact c.2.2, post_ow R (r1.rep _) p⟩))
  · cases hx with | tup h1 r1 =>
    cases hy
    obtain ⟨c, p⟩ := p.ite
    cases r1 with
    | nil =>
      have e : ∀ m, (List.replicate m ([] : List D)).flatten = [] := fun m => by simp
      rw [e] at p
      exact .inr (.inr (.inl ⟨_, _, rfl, rfl, sqT R.le h1, c.1, c.2.1, p.ok R _ ⟨_, rfl, .tup h1 .nil⟩⟩))
    | cons a b =>
      have r1 := RpL.cons a b
      exact .inr (.inl (.inr ⟨_, _, _, rfl, rfl, sqT R.le h1, fun z => (nomatch z), c.1, c.2.1, by rw [r1.length]; exact c.2.2, post_tup R (r1.rep _) p⟩))
  · cases hx; cases hy; exact .inr (.inr (.inr ⟨_, _, rfl, rfl, p.ok R _ ⟨_, rfl, .int _⟩⟩))
  · exact p.elim
theorem eo_mul (ha : EO X E a f) (hb : EO X E b h) : EO X E (.BinOp a .Mult b pos) (bin opMulT f h) := eo_bin op_mulD opD_mul ha hb
end
def opEq (neg : Bool) : D → D → DS → Oc Sl := fun d e s => if d.fit = true ∧ e.fit = true then .ok (.fz (.bl (if neg then !D.eqv d e else D.eqv d e))) s else .wr
def opIcmp (p : Int → Int → Bool) : D → D → DS → Oc Sl
  | .int i, .int j, s => .ok (.fz (.bl (p i j))) s
  | _, _, _ => .wr
def opIsN (neg : Bool) : D → D → DS → Oc Sl
  | .non, .non, s => .ok (.fz (.bl (!neg))) s
  | .fn _, .non, s => .ok (.fz (.bl neg)) s
  | .obj _ _ _, .non, s => .ok (.fz (.bl neg)) s
  | d, .non, s => if d.isPy = true then .ok (.fz (.bl neg)) s else .wr
  | _, _, _ => .wr
section
variable {C : Cf} {E : XK} {X : Cx} {a b c : Expr} {f h k : DS → Oc Sl} {pos : Pos}
theorem opD_eq : OpD C E (rEqD C.K) (opEq false) := by
  intro g F0 Fx F H own σ s x y d e Q R hx hy p
  obtain ⟨⟨c1, c2⟩, p⟩ := p.ite
  exact ⟨_, _, hx.dp R.le (Bool.and_eq_true_iff.mp c1).1, hy.dp R.le (Bool.and_eq_true_iff.mp c2).1, D.shaped c1, D.shaped c2, p.ok R _ ⟨_, rfl, .bl _⟩⟩
theorem opD_ne : OpD C E (rNeD C.K) (opEq true) := by
  intro g F0 Fx F H own σ s x y d e Q R hx hy p
  obtain ⟨⟨c1, c2⟩, p⟩ := p.ite
  exact ⟨_, _, hx.dp R.le (Bool.and_eq_true_iff.mp c1).1, hy.dp R.le (Bool.and_eq_true_iff.mp c2).1, D.shaped c1, D.shaped c2, p.ok R _ ⟨_, rfl, .bl _⟩⟩
theorem opD_icmp (p : Int → Int → Bool) : OpD C E (rI0 fun i j => .bl (p i j)) (opIcmp p) := by
  intro g F0 Fx F H own σ s x y d e Q R hx hy q
  unfold opIcmp at q
  split at q
  · cases hx; cases hy; exact ⟨_, _, rfl, rfl, q.ok R _ ⟨_, rfl, .bl _⟩⟩
  · exact q.elim
def rIsNB (neg : Bool) : R2 := fun x y H Q => y = .non ∧ Q (.bl (if neg then !decide (x = .non) else decide (x = .non))) H
theorem opD_isN (neg : Bool) : OpD C E (rIsNB neg) (opIsN neg) := by
  intro g F0 Fx F H own σ s x y d e Q R hx hy p
  have key : ∀ b : Bool, Post C E g F0 Fx σ (RO C g Q) (.ok (.fz (.bl b)) s) → Q (.bl b) H := fun b p => p.ok R _ ⟨_, rfl, .bl _⟩
  unfold opIsN at p
  split at p
  · cases hx; cases hy; refine ⟨rfl, ?_⟩; have q := key _ p; cases neg <;> exact q
  · cases hx; cases hy; refine ⟨rfl, ?_⟩; have q := key _ p; cases neg <;> exact q
  · cases hx; cases hy; refine ⟨rfl, ?_⟩; have q := key _ p; cases neg <;> exact q
  · obtain ⟨c, p⟩ := p.ite
    cases hy
    refine ⟨rfl, ?_⟩
    have q := key _ p
    have nn : x ≠ .non := by
      rintro rfl
      cases hx <;> first | contradiction | (simp [D.isPy] at c; done)
    rw [decide_eq_false nn]
    cases neg <;> exact q
  · exact p.elim
theorem eo_eq (hu : X.A.units + 64 < cLine) (ha : EO X E a f) (hb : EO X E b h) : EO X E (.Compare a [.Eq] [b] pos) (bin (opEq false) f h) := eo_cmp (op_eqD hu) opD_eq ha hb (nomark _)
end
def boolOf : Sl → DS → Oc Bool
  | .fz (.bl b), s => .ok b s
  | _, _ => .wr
def asB (f : DS → Oc Sl) : DS → Oc Bool := fun s => (f s).bind boolOf
def truD : D → DS → Oc Bool
  | .non, s => .ok false s
  | .bl b, s => .ok b s
  | .int i, s => .ok (i != 0) s
  | .lst xs, s => .ok (!xs.isEmpty) s
  | .tup xs, s => .ok (!xs.isEmpty) s
  | .str y, s => if y.length ≤ sizeLine then .ok ((y.length : Int) != 0) s else .wr
  | _, _ => .wr
def tru (f : DS → Oc Sl) : DS → Oc Bool := fun s => (fr f s).bind truD
def tNo (t : DS → Oc Bool) : DS → Oc Bool := fun s => (t s).bind fun b s1 => .ok (!b) s1
def tAn (t u : DS → Oc Bool) : DS → Oc Bool := fun s => (t s).bind fun b s1 => if b = true then u s1 else .ok false s1
def tOu (t u : DS → Oc Bool) : DS → Oc Bool := fun s => (t s).bind fun b s1 => if b = true then .ok true s1 else u s1
def vNo (f : DS → Oc Sl) : DS → Oc Sl := fun s => (asB f s).bind fun b s1 => .ok (.fz (.bl (!b))) s1
def vAn (f h : DS → Oc Sl) : DS → Oc Sl := fun s => (asB f s).bind fun b s1 => if b = true then h s1 else .ok (.fz (.bl false)) s1
def vOu (f h : DS → Oc Sl) : DS → Oc Sl := fun s => (asB f s).bind fun b s1 => if b = true then .ok (.fz (.bl true)) s1 else h s1
def vIf (t : DS → Oc Bool) (f h : DS → Oc Sl) : DS → Oc Sl := fun s => (t s).bind fun b s1 => if b = true then f s1 else h s1
section
variable {E : XK} {X : Cx} {a b c e : Expr} {rest : List Expr} {f h k : DS → Oc Sl} {t u : DS → Oc Bool} {pos : Pos} {r r' : R2} {op op' : D → D → DS → Oc Sl}
theorem tD_asB {C : Cf} {σ : L2.St} {H : Hp} {Q : Bool → Hp → Prop} (p : tD C E (asB f) σ H Q) : tO C E f σ H (fun x H' => ∃ k, x = .bl k ∧ Q k H') := by
  obtain ⟨g, Fx, F, own, s, R, p⟩ := p
  refine tO.bind (k := boolOf) R p fun r F1 H1 own1 s1 v R1 le hv p1 => ?_
  unfold boolOf at p1
  split at p1
  · obtain ⟨v', e', hv⟩ := hv; cases e'; cases hv; exact ⟨_, rfl, p1.ok R1⟩
  · exact p1.elim
theorem tB_of {C : Cf} {α : Type} {σ : L2.St} {H : Hp} {Q : α → Hp → Hp → Ow → DS → Prop} {m : Bool → DS → Oc α} {g : Gp} {F0 Fx F : Hp} {own : Ow} {s : DS} {Z : VK} (R : RelS C g F0 Fx F H own σ s) (p : Post C E g F0 Fx σ Q ((asB f s).bind m))
    (hk : ∀ d F1 H1 own1 s1, RelS C g F0 Fx F1 H1 own1 σ s1 → LeH F F1 → Post C E g F0 Fx σ Q (m d s1) → Z (.bl d) H1) : tO C E f σ H Z := by
  refine tO.bind (k := fun r s1 => (boolOf r s1).bind m) R (by
    have e : ((f s).bind boolOf).bind m = (f s).bind fun r s1 => (boolOf r s1).bind m := by cases f s <;> rfl
    rw [← e]; exact p) fun r F1 H1 own1 s1 v R1 le hv p1 => ?_
  unfold boolOf at p1
  split at p1
  · obtain ⟨v', e', hv⟩ := hv; cases e'; cases hv; exact hk _ F1 H1 own1 s1 R1 le p1
  · exact p1.elim
theorem et_cmp {o : CmpOp} (ho : OpR X (compareOp o) r) (hD : OpD ⟨X.K, X.mg⟩ E r op) (ha : EO X E a f) (hb : EO X E b h) (hm : behindInMarks o b = false) : ET X E (.Compare a [o] [b] pos) (asB (bin op f h)) :=
  (pt_cmpR ho ha.fr hb.fr hm).mono fun σ H Q p => tOp_D hD (tD_asB p)
theorem et_eq (hu : X.A.units + 64 < cLine) (ha : EO X E a f) (hb : EO X E b h) : ET X E (.Compare a [.Eq] [b] pos) (asB (bin (opEq false) f h)) := et_cmp (op_eqD hu) opD_eq ha hb (nomark _)
theorem et_ne (hu : X.A.units + 64 < cLine) (ha : EO X E a f) (hb : EO X E b h) : ET X E (.Compare a [.NotEq] [b] pos) (asB (bin (opEq true) f h)) := et_cmp (op_neD hu) opD_ne ha hb (nomark _)
theorem et_lt (ha : EO X E a f) (hb : EO X E b h) : ET X E (.Compare a [.Lt] [b] pos) (asB (bin (opIcmp fun i j => decide (i < j)) f h)) := et_cmp op_lt (opD_icmp _) ha hb (nomark _)
theorem et_gt (ha : EO X E a f) (hb : EO X E b h) : ET X E (.Compare a [.Gt] [b] pos) (asB (bin (opIcmp fun i j => decide (j < i)) f h)) := et_cmp op_gt (opD_icmp _) ha hb (nomark _)
theorem et_ge (ha : EO X E a f) (hb : EO X E b h) : ET X E (.Compare a [.GtE] [b] pos) (asB (bin (opIcmp fun i j => decide (j ≤ i)) f h)) := et_cmp op_ge (opD_icmp _) ha hb (nomark _)
theorem et_isN (ha : EO X E a f) (hb : EO X E b h) : ET X E (.Compare a [.Is] [b] pos) (asB (bin (opIsN false) f h)) := et_cmp (r := rIsNB false) op_isN (opD_isN false) ha hb (nomark _)
theorem et_notN (ha : EO X E a f) (hb : EO X E b h) : ET X E (.Compare a [.IsNot] [b] pos) (asB (bin (opIsN true) f h)) := et_cmp (r := rIsNB true) op_notN (opD_isN true) ha hb (nomark _)
theorem et_tru (ha : EO X E a f) (he : ∀ whole, isTrue a X.env whole = (do let v ← whole; standAt a.pos; holding [v] (truthy v)) := by intro _; rfl) : ET X E a (tru f) := by
  refine PT.mono (pt_truth ha.fr he) fun σ H Q ⟨g, Fx, F, own, s, R, p⟩ => ?_
  refine tF.bind (k := truD) R p fun d F1 H1 own1 s1 v R1 le hv p1 => ?_
  unfold truD at p1
  split at p1
  · cases hv; exact ⟨_, rfl, p1.ok R1⟩
  · cases hv; exact ⟨_, rfl, p1.ok R1⟩
  · cases hv; exact ⟨_, rfl, p1.ok R1⟩
  · cases hv with | lst h1 r1 =>
    refine ⟨_, .inl ⟨_, .inl (.inl (R1.le _ _ h1)), rfl⟩, ?_⟩
    have q := p1.ok R1
    cases r1 <;> exact q
  · cases hv with | tup h1 r1 =>
    refine ⟨_, .inr (.inl ⟨_, sqT R1.le h1, rfl⟩), ?_⟩
    have q := p1.ok R1
    cases r1 <;> exact q
  · cases hv
    obtain ⟨c, p1⟩ := p1.ite
    exact ⟨_, ⟨c, rfl⟩, p1.ok R1⟩
  · exact p1.elim
theorem et_not (ha : ET X E a t) : ET X E (.UnaryOp .Not a pos) (tNo t) := (pt_not ha).mono fun σ H Q ⟨g, Fx, F, own, s, R, p⟩ => by
  exact tD.bind (k := fun b s1 => .ok (!b) s1) R p fun b F1 H1 own1 s1 R1 le p1 => p1.ok R1
abbrev EW (X : Cx) (E : XK) (e : Expr) (f : DS → Oc Bool) : Prop := PW X e (tD ⟨X.K, X.mg⟩ E f)
theorem _root_.L2.PW.mono {X : Cx} {e : Expr} {t t' : TT} (h : PW X e t) (k : ∀ σ H Q, t' σ H Q → t σ H Q) : PW X e t' := ⟨fun wh pins s σ H Q I q => h.run wh pins s σ H Q I (k σ H Q q)⟩
theorem ew_and1 (ha : ET X E a t) : EW X E (.BoolOp .And [a] pos) t := pw_and1 ha
theorem ew_or1 (ha : ET X E a t) : EW X E (.BoolOp .Or [a] pos) t := pw_or1 ha
theorem ew_and (ha : ET X E a t) (hb : EW X E (.BoolOp .And (b :: rest) pos) u) : EW X E (.BoolOp .And (a :: b :: rest) pos) (tAn t u) := (pw_and ha hb).mono fun σ H Q ⟨g, Fx, F, own, s, R, p⟩ => by
  refine tD.bind (k := fun b s1 => if b = true then u s1 else .ok false s1) R p fun b F1 H1 own1 s1 R1 le p1 => ?_
  cases b with
  | true => exact ⟨g, Fx, F1, own1, s1, R1.refl, by
      have z := Post.bind (k := fun b s => .ok b s) R1 (o := u s1) (R := fun b _ H' _ _ => Q b H') (by
        have e : (u s1).bind (fun b s => Oc.ok b s) = u s1 := by cases u s1 <;> rfl
        rw [e]; exact p1) (R' := fun b _ H' _ _ => Q b H') (fun _ _ _ _ _ _ R2 _ p => p.ok R2)
      exact z⟩
  | false => exact p1.ok R1
theorem ew_or (ha : ET X E a t) (hb : EW X E (.BoolOp .Or (b :: rest) pos) u) : EW X E (.BoolOp .Or (a :: b :: rest) pos) (tOu t u) := (pw_or ha hb).mono fun σ H Q ⟨g, Fx, F, own, s, R, p⟩ => by
  refine tD.bind (k := fun b s1 => if b = true then .ok true s1 else u s1) R p fun b F1 H1 own1 s1 R1 le p1 => ?_
  cases b with
  | false => exact ⟨g, Fx, F1, own1, s1, R1.refl, by
      have z := Post.bind (k := fun b s => .ok b s) R1 (o := u s1) (R := fun b _ H' _ _ => Q b H') (by
        have e : (u s1).bind (fun b s => Oc.ok b s) = u s1 := by cases u s1 <;> rfl
        rw [e]; exact p1) (R' := fun b _ H' _ _ => Q b H') (fun _ _ _ _ _ _ R2 _ p => p.ok R2)
      exact z⟩
  | true => exact p1.ok R1
theorem EW.et (h : EW X E e t) : ET X E e t := PW.pt h
theorem tO.again {C : Cf} {g : Gp} {F0 Fx F H : Hp} {own : Ow} {σ : L2.St} {s : DS} {Q : VK} (R : RelS C g F0 Fx F H own σ s) (p : Post C E g F0 Fx σ (RO C g Q) (f s)) : tO C E f σ H Q := by
  refine ⟨g, Fx, F, own, s, R.refl, ?_⟩
  have z := Post.bind (k := fun b s => .ok b s) R (o := f s) (R := RO C g Q) (by
    have e : (f s).bind (fun b s => Oc.ok b s) = f s := by cases f s <;> rfl
    rw [e]; exact p) (R' := RO C g Q) (fun _ _ _ _ _ _ R2 _ p => p.ok R2)
  exact z
theorem eo_not (ha : EO X E a f) : EO X E (.UnaryOp .Not a pos) (vNo f) := (pe_not ha).mono fun σ H Q ⟨g, Fx, F, own, s, R, p⟩ => by
  exact tB_of R p fun b F1 H1 own1 s1 R1 le p1 => ⟨_, rfl, p1.ok R1 _ ⟨_, rfl, .bl _⟩⟩
theorem eo_one {o : BoolOp} (ha : EO X E a f) : EO X E (.BoolOp o [a] pos) f := pe_one ha
theorem eo_and (ha : EO X E a f) (hb : EO X E (.BoolOp .And (b :: rest) pos) h) : EO X E (.BoolOp .And (a :: b :: rest) pos) (vAn f h) := (pe_and ha hb).mono fun σ H Q ⟨g, Fx, F, own, s, R, p⟩ => by
  refine tB_of R p fun b F1 H1 own1 s1 R1 le p1 => ⟨_, rfl, ?_⟩
  cases b with
  | true => exact tO.again R1 p1
  | false => exact p1.ok R1 _ ⟨_, rfl, .bl _⟩
theorem eo_if (hc : ET X E c t) (ha : EO X E a f) (hb : EO X E b h) : EO X E (.IfExp c a b pos) (vIf t f h) := (pe_ifExp hc ha hb).mono fun σ H Q ⟨g, Fx, F, own, s, R, p⟩ => by
  refine tD.bind (k := fun b s1 => if b = true then f s1 else h s1) R p fun b F1 H1 own1 s1 R1 le p1 => ?_
  cases b with
  | true => exact tO.again R1 p1
  | false => exact tO.again R1 p1
def vCh (op op' : D → D → DS → Oc Sl) (f h k : DS → Oc Sl) : DS → Oc Sl := fun s => (fr f s).bind fun x s1 => (fr h s1).bind fun y s2 => ((op x y s2).bind boolOf).bind fun b s3 => if b = true then (fr k s3).bind fun z s4 => op' y z s4 else .ok (.fz (.bl false)) s3
theorem tChain_D (h1 : OpD ⟨X.K, X.mg⟩ E r op) (h2 : OpD ⟨X.K, X.mg⟩ E r' op') {σ : L2.St} {H : Hp} {Q : VK} (p : tO ⟨X.K, X.mg⟩ E (vCh op op' f h k) σ H Q) :
    tChain r r' (tF ⟨X.K, X.mg⟩ E (fr f)) (tF ⟨X.K, X.mg⟩ E (fr h)) (tF ⟨X.K, X.mg⟩ E (fr k)) σ H Q := by
  obtain ⟨g, Fx, F, own, s, R, p⟩ := p
  refine tF.bind R p fun d F1 H1 own1 s1 v R1 le hv p1 => ?_
  refine tF.bind R1 p1 fun d2 F2 H2 own2 s2 v2 R2 le2 hv2 p2 => ?_
  refine h1 g F2 Fx F2 H2 own2 σ s2 v v2 d d2 _ R2.refl (hv.mono le2) hv2 (Post.bind (k := fun r s3 => (boolOf r s3).bind fun b s3 => if b = true then (fr k s3).bind fun z s4 => op' d2 z s4 else .ok (.fz (.bl false)) s3) R2 (by
    have e : ∀ (o : Oc Sl) (m : Bool → DS → Oc Sl), (o.bind boolOf).bind m = o.bind fun r s3 => (boolOf r s3).bind m := fun o m => by cases o <;> rfl
    rw [← e]; exact p2) ?_)
  intro r' F3 H3 own3 s3 R3' R3 le3 p3 v3 hv3
  unfold boolOf at p3
  split at p3
  · obtain ⟨v', e', hv3⟩ := hv3; cases e'; cases hv3
    rename_i b
    refine ⟨b, rfl, ?_⟩
    cases b with
    | false => exact p3.ok R3 _ ⟨_, rfl, .bl _⟩
    | true =>
      refine tF.bind R3 p3 fun d4 F4 H4 own4 s4 v4 R4 le4 hv4 p4 => ?_
      exact h2 g F Fx F4 H4 own4 σ s4 v2 v4 d2 d4 Q R4 ((hv2.mono le3).mono le4) hv4 p4
  · exact p3.elim
theorem eo_chain {o o' : CmpOp} (ho : OpR X (compareOp o) r) (hD : OpD ⟨X.K, X.mg⟩ E r op) (ho' : OpR X (compareOp o') r') (hD' : OpD ⟨X.K, X.mg⟩ E r' op') (ha : EO X E a f) (hb : EO X E b h) (hc : EO X E c k)
    (hm : lastMarks [o, o'] [b, c] = false := by with_unfolding_all rfl) : EO X E (.Compare a [o, o'] [b, c] pos) (vCh op op' f h k) := (pe_chain ho ho' ha.fr hb.fr hc.fr hm).mono fun σ H Q p => tChain_D hD hD' p
end
def aNil : DS → Oc (List D) := fun s => .ok [] s
def aCons (f : DS → Oc Sl) (fs : DS → Oc (List D)) : DS → Oc (List D) := fun s => (fr f s).bind fun x s1 => (fs s1).bind fun xs s2 => .ok (x :: xs) s2
def vTup (fs : DS → Oc (List D)) : DS → Oc Sl := fun s => (fs s).bind fun xs s1 => if xs.length ≤ sizeLine then .ok (.fz (.tup xs)) s1 else .wr
def vLst (fs : DS → Oc (List D)) : DS → Oc Sl := fun s => (fs s).bind fun xs s1 => if xs.length ≤ sizeLine then .ok (.ow xs) s1 else .wr
section
variable {E : XK} {X : Cx} {e : Expr} {es : List Expr} {f : DS → Oc Sl} {fs : DS → Oc (List D)} {pos : Pos}
theorem ea_nil : EA X E [] aNil := pa_nil.mono fun σ H Q ⟨g, Fx, F, own, s, R, p⟩ => p.ok R [] .nil
theorem ea_cons (he : EO X E e f) (hs : EA X E es fs) (hst : starEach (e :: es) X.env = (false, eval e X.env) :: starEach es X.env := by rfl) : EA X E (e :: es) (aCons f fs) := (pa_cons he.fr hs hst).mono fun σ H Q ⟨g, Fx, F, own, s, R, p⟩ => by
  refine tF.bind R p fun d F1 H1 own1 s1 v R1 le hv p1 => ?_
  refine tA.bind R1 p1 fun ds F2 H2 own2 s2 vs R2 le2 hvs p2 => ?_
  exact p2.ok R2 _ (.cons (hv.mono le2) hvs)
theorem eo_tup {x1} (hs : EA X E es fs) : EO X E (.Tuple es x1 pos) (vTup fs) := (pe_tup hs).mono fun σ H Q ⟨g, Fx, F, own, s, R, p⟩ => by
  refine tA.bind R p fun ds F1 H1 own1 s1 vs R1 le hvs p1 => ?_
  obtain ⟨c, p1⟩ := p1.ite
  exact ⟨by rw [hvs.length]; exact c, post_tup R1 hvs p1⟩
theorem eo_lst (hs : EA X E es fs) : EO X E (.List es pos) (vLst fs) := (pe_lst hs).mono fun σ H Q ⟨g, Fx, F, own, s, R, p⟩ => by
  refine tA.bind R p fun ds F1 H1 own1 s1 vs R1 le hvs p1 => ?_
  obtain ⟨c, p1⟩ := p1.ite
  exact ⟨by rw [hvs.length]; exact c, post_ow R1 hvs p1⟩
end
end DL
namespace DL
open PySem PySem.Spec L2
open PyProof.Rows hiding St
inductive Pl where
  | val (d : D) | slot (i : Nat)
def vw (s : DS) : Pl → Option D
  | .val d => some d
  | .slot i => match s.sl[i]? with
    | some (.fz d) => some d
    | some (.ow xs) => some (.lst xs)
    | _ => none
def PlR (C : Cf) (g : Gp) (F : Hp) (σ : L2.St) (v : V) : Pl → Prop
  | .val d => Rp C g F v d
  | .slot i => σ[i]? = some (some v)
def RdV (C : Cf) (g : Gp) (F H : Hp) (v : V) : D → Prop
  | .lst xs => ∃ p vs, v = .ref p ∧ H p = some (.lst vs) ∧ RpL C g F vs xs
  | d => Rp C g F v d
def tP (C : Cf) (E : XK) (f : DS → Oc Pl) : TE := fun σ H Q => ∃ g Fx F own s, RelS C g F Fx F H own σ s ∧ Post C E g F Fx σ (fun pl F' H' _ _ => ∀ v, PlR C g F' σ v pl → Q v H') (f s)
abbrev EP' (X : Cx) (E : XK) (e : Expr) (f : DS → Oc Pl) : Prop := PE X e (tP ⟨X.K, X.mg⟩ E f)
def pn (i : Nat) : DS → Oc Pl := fun s => match s.sl[i]? with
  | some (.fz _) => .ok (.slot i) s
  | some (.ow _) => .ok (.slot i) s
  | _ => .wr
def pval (f : DS → Oc Sl) : DS → Oc Pl := fun s => (fr f s).bind fun d s1 => .ok (.val d) s1
def onP {α : Type} (φ : D → DS → Oc α) (pl : Pl) (s : DS) : Oc α := match vw s pl with
  | some d => φ d s
  | none => .wr
section
variable {C : Cf} {E : XK} {g : Gp} {F0 Fx F F' H H' : Hp} {own own' : Ow} {σ : L2.St} {s : DS} {α β : Type} {v : V} {pl : Pl} {d : D}
theorem PlR.mono (h : PlR C g F σ v pl) (e : LeH F F') : PlR C g F' σ v pl := by
  cases pl with
  | val d => exact Rp.mono e h
  | slot i => exact h
theorem Rp.rdv (R : RelS C g F0 Fx F H own σ s) (h : Rp C g F v d) : RdV C g F H v d := by
  cases d with
  | lst xs => cases h with | lst h1 r1 => exact ⟨_, _, rfl, R.le _ _ h1, r1⟩
  | _ => exact h
theorem PlR.view (R : RelS C g F0 Fx F H own σ s) (h : PlR C g F σ v pl) (e : vw s pl = some d) : RdV C g F H v d := by
  cases pl with
  | val d' => cases e; exact h.rdv R
  | slot i =>
    have h : σ[i]? = some (some v) := h
    unfold vw at e
    simp only at e
    split at e
    · rename_i d' hd
      cases e
      obtain ⟨v', e', r⟩ := R.fz_at hd
      rw [h] at e'; cases e'
      exact r.rdv R
    · rename_i xs hd
      cases e
      obtain ⟨p, vs, e', o, hp, r⟩ := R.ow_at hd
      rw [h] at e'; cases e'
      exact ⟨p, vs, rfl, hp, r⟩
    · cases e
theorem tP.bind {R : β → Hp → Hp → Ow → DS → Prop} {f : DS → Oc Pl} {k : Pl → DS → Oc β} {Q : VK} (h0 : RelS C g F0 Fx F H own σ s) (h : Post C E g F0 Fx σ R ((f s).bind k))
    (hk : ∀ d F1 H1 own1 s1 v, RelS C g F0 Fx F1 H1 own1 σ s1 → LeH F F1 → PlR C g F1 σ v d → Post C E g F0 Fx σ R (k d s1) → Q v H1) : tP C E f σ H Q :=
  ⟨g, Fx, F, own, s, h0.refl, Post.bind h0 h fun d F1 H1 own1 s1 _ r le p v hv => hk d F1 H1 own1 s1 v r le hv p⟩
theorem Post.onP {R : β → Hp → Hp → Ow → DS → Prop} {φ : D → DS → Oc β} (p : Post C E g F0 Fx σ R (onP φ pl s)) : ∃ d, vw s pl = some d ∧ Post C E g F0 Fx σ R (φ d s) := by
  unfold DL.onP at p
  split at p
  · rename_i d h; exact ⟨d, h, p⟩
  · exact p.elim
end
def PlD (C : Cf) (E : XK) (r : V → Hp → VK → Prop) (φ : D → DS → Oc Sl) : Prop :=
  ∀ g F0 Fx F H own σ s x d Q, RelS C g F0 Fx F H own σ s → RdV C g F H x d → Post C E g F0 Fx σ (RO C g Q) (φ d s) → r x H Q
def call1 (φ : D → DS → Oc Sl) (f : DS → Oc Pl) : DS → Oc Sl := fun s => (f s).bind fun pl s1 => onP φ pl s1
def item (φ : D → D → DS → Oc Sl) (f : DS → Oc Pl) (h : DS → Oc Sl) : DS → Oc Sl := fun s => (f s).bind fun pl s1 => (fr h s1).bind fun i s2 => onP (fun d s => φ d i s) pl s2
section
variable {X : Cx} {E : XK} {e a b c : Expr} {es : List Expr} {f : DS → Oc Pl} {h k : DS → Oc Sl} {fs : DS → Oc (List D)} {pos p : Pos} {x : Str} {id T : String} {φ : D → DS → Oc Sl} {r : V → Hp → VK → Prop} {ρ : List V → Hp → VK → Prop}
theorem ep_pn {i : Nat} {x : Str} (hv : PE X (.Name x pos) (tVar i)) : EP' X E (.Name x pos) (pn i) := hv.mono fun σ H Q ⟨g, Fx, F, own, s, R, p⟩ => by
  unfold pn at p
  split at p
  · rename_i d hd
    obtain ⟨v, e, r⟩ := R.fz_at hd
    exact ⟨v, e, p.ok R v e⟩
  · rename_i xs hd
    obtain ⟨q, vs, e, o, hp, r⟩ := R.ow_at hd
    exact ⟨_, e, p.ok R _ e⟩
  · exact p.elim
theorem ep_val (he : EO X E e h) : EP' X E e (pval h) := he.fr.mono fun σ H Q ⟨g, Fx, F, own, s, R, p⟩ =>
  tF.bind R p fun d F1 H1 own1 s1 v R1 le hv p1 => p1.ok R1 v hv
theorem tCons1 {C : Cf} {E : XK} {f : DS → Oc Pl} {σ : L2.St} {H : Hp} {Q : VK} (hD : PlD C E (fun x H Q => ρ [x] H Q) φ) (p : tO C E (call1 φ f) σ H Q) : tCB ρ (tCons (tP C E f) tNil) σ H Q := by
  obtain ⟨g, Fx, F, own, s, R, p⟩ := p
  refine tP.bind R p fun pl F1 H1 own1 s1 v R1 le hv p1 => ?_
  obtain ⟨d, hd, p1⟩ := p1.onP
  exact hD g F Fx F1 H1 own1 σ s1 v d Q R1 (hv.view R1 hd) p1
theorem eo_callB (hc : CallR X (.builtin id) ρ) (hD : PlD ⟨X.K, X.mg⟩ E (fun x H Q => ρ [x] H Q) φ) (hm : X.mg x = none) (hv : bootBuiltins x = some (.builtin id)) (he : EP' X E e f) (hg : Gl X x := by rfl) (hn : x ≠ "__name__" := by decide) (hdb : (x == ("__debug__" : Str)) = false := by decide)
    (hst : starEach [e] X.env = (false, eval e X.env) :: starEach [] X.env := by rfl) (hpl : (backTo pos (starEach [] X.env)).any (·.1) = false := by rfl) : EO X E (.Call (.Name x p) [e] [] pos) (call1 φ f) :=
  (pe_callB hc hg hm hv (pa_cons he pa_nil hst) hn hdb hst hpl).mono fun σ H Q q => tCons1 hD q
theorem eo_callTy (hc : CallR X (.type T) ρ) (hD : PlD ⟨X.K, X.mg⟩ E (fun x H Q => ρ [x] H Q) φ) (hm : X.mg x = none) (hv : bootBuiltins x = some (.type T)) (he : EP' X E e f) (hg : Gl X x := by rfl) (hn : x ≠ "__name__" := by decide) (hdb : (x == ("__debug__" : Str)) = false := by decide)
    (hst : starEach [e] X.env = (false, eval e X.env) :: starEach [] X.env := by rfl) (hpl : (backTo pos (starEach [] X.env)).any (·.1) = false := by rfl) : EO X E (.Call (.Name x p) [e] [] pos) (call1 φ f) :=
  (pe_callTy hc hg hm hv (pa_cons he pa_nil hst) hn hdb hst hpl).mono fun σ H Q q => tCons1 hD q
def call2 (op : D → D → DS → Oc Sl) (h k : DS → Oc Sl) : DS → Oc Sl := bin op h k
theorem eo_callB2 {op : D → D → DS → Oc Sl} (hc : CallR X (.builtin id) ρ) (hD : OpD ⟨X.K, X.mg⟩ E (fun x y H Q => ρ [x, y] H Q) op) (hm : X.mg x = none) (hv : bootBuiltins x = some (.builtin id)) (ha : EO X E a h) (hb : EO X E b k) (hg : Gl X x := by rfl) (hn : x ≠ "__name__" := by decide) (hdb : (x == ("__debug__" : Str)) = false := by decide)
    (hst : starEach [a, b] X.env = (false, eval a X.env) :: starEach [b] X.env := by rfl) (hst2 : starEach [b] X.env = (false, eval b X.env) :: starEach [] X.env := by rfl) (hpl : (backTo pos (starEach [b] X.env)).any (·.1) = false := by rfl) : EO X E (.Call (.Name x p) [a, b] [] pos) (call2 op h k) :=
  (pe_callB hc hg hm hv (pa_cons ha.fr (pa_cons hb.fr pa_nil hst2) hst) hn hdb hst hpl).mono fun σ H Q q => tOp_D (r := fun x y H Q => ρ [x, y] H Q) hD q
theorem eo_ix {ψ : D → D → DS → Oc Sl} {r : R2} (hr : IxR X r) (hD : ∀ g F0 Fx F H own σ s x y d i Q, RelS ⟨X.K, X.mg⟩ g F0 Fx F H own σ s → RdV ⟨X.K, X.mg⟩ g F H x d → Rp ⟨X.K, X.mg⟩ g F y i → Post ⟨X.K, X.mg⟩ E g F0 Fx σ (RO ⟨X.K, X.mg⟩ g Q) (ψ d i s) → r x y H Q)
    (ha : EP' X E a f) (hb : EO X E b h) (hs : PlainIx b := by exact fun _ _ => rfl) : EO X E (.Subscript a b pos) (item ψ f h) := (pe_ix hr ha hb.fr hs).mono fun σ H Q ⟨g, Fx, F, own, s, R, p⟩ => by
  refine tP.bind R p fun pl F1 H1 own1 s1 v R1 le hv p1 => ?_
  refine tF.bind R1 p1 fun i F2 H2 own2 s2 v2 R2 le2 hv2 p2 => ?_
  obtain ⟨d, hd, p2⟩ := p2.onP
  exact hD g F Fx F2 H2 own2 σ s2 v v2 d i Q R2 ((hv.mono le2).view R2 hd) hv2 p2
end
def ixD : D → D → DS → Oc Sl
  | .lst xs, .int i, s => match atI xs i with
    | some d => .ok (.fz d) s
    | none => .wr
  | .tup xs, .int i, s => match atI xs i with
    | some d => .ok (.fz d) s
    | none => .wr
  | .tupX xs, .int i, s => match atI xs i with
    | some d => .ok (.fz d) s
    | none => .wr
  | _, _, _ => .wr
def cut {α : Type} (xs : List α) (lo hi : Option Int) : List α := (xs.drop (HT.sIx xs.length 0 lo)).take (HT.sIx xs.length xs.length hi - HT.sIx xs.length 0 lo)
theorem cut_whole {α : Type} {xs : List α} {lo hi : Option Int} (h : HT.sIx xs.length 0 lo = 0 ∧ HT.sIx xs.length xs.length hi = xs.length) : cut xs lo hi = xs := by
  unfold cut
  rw [h.1, h.2, List.drop_zero, Nat.sub_zero]
  exact List.take_length
def slD (lo hi : Option Int) : D → DS → Oc Sl
  | .lst xs, s => .ok (.ow (cut xs lo hi)) s
  | .tup xs, s => .ok (.fz (.tup (cut xs lo hi))) s
  | _, _ => .wr
theorem RpL.cut {C : Cf} {g : Gp} {F : Hp} {vs : List V} {ds : List D} (r : RpL C g F vs ds) (lo hi : Option Int) : RpL C g F (cutV vs lo hi) (DL.cut ds lo hi) := by
  unfold cutV DL.cut
  rw [r.length]
  exact (r.drop _).take _
theorem RpL.atI {C : Cf} {g : Gp} {F : Hp} {vs : List V} {ds : List D} {i : Int} {d : D} (r : RpL C g F vs ds) (h : L2.atI ds i = some d) : ∃ v, L2.atI vs i = some v ∧ Rp C g F v d := by
  unfold L2.atI at h ⊢
  rw [r.length]
  cases e : ixN ds.length i with
  | none => rw [e] at h; cases h
  | some j => rw [e] at h; exact r.get h
def partOf (h : Option (DS → Oc Sl)) : DS → Oc (Option Int) := fun s => match h with
  | none => .ok none s
  | some f => (fr f s).bind fun d s1 => match d with
    | .int i => .ok (some i) s1
    | _ => .wr
def slice (f : DS → Oc Pl) (lo hi : Option (DS → Oc Sl)) : DS → Oc Sl := fun s => (f s).bind fun pl s1 => (partOf lo s1).bind fun l s2 => (partOf hi s2).bind fun u s3 => onP (slD l u) pl s3
def tPt (C : Cf) (E : XK) (f : DS → Oc (Option Int)) : TO := fun σ H Q => ∃ g Fx F own s, RelS C g F Fx F H own σ s ∧ Post C E g F Fx σ (fun i _ H' _ _ => Q i H') (f s)
section
variable {X : Cx} {E : XK} {e a b c : Expr} {f : DS → Oc Pl} {h k : DS → Oc Sl} {pos p : Pos}
theorem eo_item (ha : EP' X E a f) (hb : EO X E b h) (hs : PlainIx b := by exact fun _ _ => rfl) : EO X E (.Subscript a b pos) (item ixD f h) :=
  eo_ix (ix_list.or ix_tup) (fun g F0 Fx F H own σ s x y d i Q R hx hy p => by
    unfold ixD at p
    split at p
    · split at p
      · rename_i d' hd
        obtain ⟨q, vs, rfl, hq, r⟩ := hx
        cases hy
        obtain ⟨v, hv, rv⟩ := r.atI hd
        exact .inl ⟨q, vs, _, v, rfl, rfl, .inl (.inl hq), hv, p.ok R v ⟨v, rfl, rv⟩⟩
      · exact p.elim
    · split at p
      · rename_i d' hd
        cases hx with | tup h1 r =>
        cases hy
        obtain ⟨v, hv, rv⟩ := r.atI hd
        exact .inr ⟨_, _, _, v, rfl, rfl, sqT R.le h1, hv, p.ok R v ⟨v, rfl, rv⟩⟩
      · exact p.elim
    · split at p
      · rename_i d' hd
        cases hx with | tupX h1 c1 d1 r =>
        cases hy
        obtain ⟨v, hv, rv⟩ := r.atI hd
        exact .inr ⟨_, _, _, v, rfl, rfl, .inl (.inr ⟨_, R.le _ _ h1⟩), hv, p.ok R v ⟨v, rfl, rv⟩⟩
      · exact p.elim
    · exact p.elim) ha hb hs
structure PtOk (X : Cx) (E : XK) (lo : Option Expr) (f : Option (DS → Oc Sl)) : Prop where
  po : PO X lo (tPt ⟨X.K, X.mg⟩ E (partOf f))
theorem po_n : PtOk X E none none := ⟨⟨fun pins s σ H Q I ⟨g, Fx, F, own, s', R, p⟩ => po_none.run pins s σ H Q I (p.ok R)⟩⟩
theorem po_s (he : EO X E e h) : PtOk X E (some e) (some h) := ⟨⟨fun pins s σ H Q I ⟨g, Fx, F, own, s', R, p⟩ => (po_some he.fr).run pins s σ H Q I (by
  refine tF.bind R p fun d F1 H1 own1 s1 v R1 le hv p1 => ?_
  split at p1
  · cases hv; exact ⟨_, rfl, p1.ok R1⟩
  · exact p1.elim)⟩⟩
theorem eo_slice {lo hi : Option Expr} {l u : Option (DS → Oc Sl)} {p2 : Pos} (ha : EP' X E a f) (hl : PtOk X E lo l) (hu : PtOk X E hi u) : EO X E (.Subscript a (.Slice lo hi none p2) pos) (slice f l u) :=
  (pe_slice (sl_list.or sl_tupA) ha hl.po hu.po).mono fun σ H Q ⟨g, Fx, F, own, s, R, p⟩ => by
    refine tP.bind R p fun pl F1 H1 own1 s1 v R1 le hv p1 => ?_
    refine ⟨g, Fx, F1, own1, s1, R1.refl, Post.bind R1 p1 fun lo F2 H2 own2 s2 _ R2 le2 p2 => ?_⟩
    refine ⟨g, Fx, F2, own2, s2, R2.refl, Post.bind R2 p2 fun hi F3 H3 own3 s3 _ R3 le3 p3 => ?_⟩
    obtain ⟨d, hd, p3⟩ := p3.onP
    have hx := ((hv.mono le2).mono le3).view R3 hd
    unfold slD at p3
    split at p3
    · obtain ⟨q, vs, rfl, hq, r⟩ := hx
      exact .inl ⟨q, vs, rfl, .inl (.inl hq), post_ow R3 (r.cut lo hi) p3⟩
    · cases hx with | tup h1 r =>
      refine .inr ⟨_, _, rfl, sqT R3.le h1, fun z => ?_, fun z => post_tup R3 (r.cut lo hi) p3⟩
      refine p3.ok R3 _ ⟨_, rfl, ?_⟩
      rw [cut_whole (by rw [← r.length]; exact z)]
      exact .tup h1 r
    · exact p3.elim
end
def lenD : D → DS → Oc Sl
  | .lst xs, s => .ok (.fz (.int xs.length)) s
  | .tup xs, s => .ok (.fz (.int xs.length)) s
  | .str z, s => if z.length ≤ sizeLine then .ok (.fz (.int z.length)) s else .wr
  | _, _ => .wr
def D.ints? : List D → Option (List Int)
  | [] => some []
  | .int i :: r => (D.ints? r).map (i :: ·)
  | _ :: _ => none
def D.bools? : List D → Option (List Bool)
  | [] => some []
  | .bl i :: r => (D.bools? r).map (i :: ·)
  | _ :: _ => none
theorem D.ints_of : ∀ {ds : List D} {ns : List Int}, D.ints? ds = some ns → ds = ns.map D.int
  | [], ns, h => by cases h; rfl
  | .int i :: r, ns, h => by
    simp only [D.ints?] at h
    cases e : D.ints? r with
    | none => rw [e] at h; cases h
    | some m => rw [e] at h; cases h; rw [List.map_cons, ← D.ints_of e]
  | .non :: r, ns, h => by cases h
  | .bl _ :: r, ns, h => by cases h
  | .str _ :: r, ns, h => by cases h
  | .lst _ :: r, ns, h => by cases h
  | .tup _ :: r, ns, h => by cases h
  | .fn _ :: r, ns, h => by cases h
  | .ty _ :: r, ns, h => by cases h
  | .obj _ _ _ :: r, ns, h => by cases h
  | .pen :: r, ns, h => by cases h
  | .any :: r, ns, h => by cases h
  | .dct _ :: r, ns, h => by cases h
  | .sd _ _ :: r, ns, h => by cases h
  | .tupX _ :: r, ns, h => by cases h
  | .dn _ :: r, ns, h => by cases h
theorem D.ints_map : ∀ ns : List Int, D.ints? (ns.map D.int) = some ns
  | [] => rfl
  | n :: ns => by rw [List.map_cons, D.ints?, D.ints_map ns]; rfl
theorem D.bools_of : ∀ {ds : List D} {ns : List Bool}, D.bools? ds = some ns → ds = ns.map D.bl
  | [], ns, h => by cases h; rfl
  | .bl i :: r, ns, h => by
    simp only [D.bools?] at h
    cases e : D.bools? r with
    | none => rw [e] at h; cases h
    | some m => rw [e] at h; cases h; rw [List.map_cons, ← D.bools_of e]
  | .non :: r, ns, h => by cases h
  | .int _ :: r, ns, h => by cases h
  | .str _ :: r, ns, h => by cases h
  | .lst _ :: r, ns, h => by cases h
  | .tup _ :: r, ns, h => by cases h
  | .fn _ :: r, ns, h => by cases h
  | .ty _ :: r, ns, h => by cases h
  | .obj _ _ _ :: r, ns, h => by cases h
  | .pen :: r, ns, h => by cases h
  | .any :: r, ns, h => by cases h
  | .dct _ :: r, ns, h => by cases h
  | .sd _ _ :: r, ns, h => by cases h
  | .tupX _ :: r, ns, h => by cases h
  | .dn _ :: r, ns, h => by cases h
theorem D.bools_map : ∀ ns : List Bool, D.bools? (ns.map D.bl) = some ns
  | [] => rfl
  | n :: ns => by rw [List.map_cons, D.bools?, D.bools_map ns]; rfl
def sumD : D → DS → Oc Sl
  | .lst xs, s => match D.ints? xs with
    | some ns => .ok (.fz (.int ns.sum)) s
    | none => .wr
  | _, _ => .wr
def allD : D → DS → Oc Sl
  | .lst xs, s => match D.bools? xs with
    | some ns => .ok (.fz (.bl (ns.all id))) s
    | none => .wr
  | _, _ => .wr
def absD : D → DS → Oc Sl
  | .int i, s => .ok (.fz (.int (if i < 0 then -i else i))) s
  | _, _ => .wr
def intD : D → DS → Oc Sl
  | .int i, s => .ok (.fz (.int i)) s
  | .bl b, s => .ok (.fz (.int (if b then 1 else 0))) s
  | _, _ => .wr
def listD : D → DS → Oc Sl
  | .lst xs, s => .ok (.ow xs) s
  | .tup xs, s => .ok (.ow xs) s
  | _, _ => .wr
def tupD : D → DS → Oc Sl
  | .lst xs, s => .ok (.fz (.tup xs)) s
  | .tup xs, s => .ok (.fz (.tup xs)) s
  | _, _ => .wr
def opMax2 : D → D → DS → Oc Sl
  | .int i, .int j, s => .ok (.fz (.int (max i j))) s
  | _, _, _ => .wr
section
variable {X : Cx} {E : XK} {C : Cf} {e a b c : Expr} {f : DS → Oc Pl} {h k : DS → Oc Sl} {pos p : Pos}
theorem CallR.or {F : Value} {r r' : List V → Hp → VK → Prop} (h : CallR X F r) (h' : CallR X F r') : CallR X F (fun x H Q => r x H Q ∨ r' x H Q) := fun pins s σ H x v Q I rx q => by
  rcases q with q | q
  · exact h pins s σ H x v Q I rx q
  · exact h' pins s σ H x v Q I rx q
theorem eo_len (hm : X.mg "len" = none) (he : EP' X E e f) (hg : Gl X "len" := by rfl) (hst : starEach [e] X.env = (false, eval e X.env) :: starEach [] X.env := by rfl) (hpl : (backTo pos (starEach [] X.env)).any (·.1) = false := by rfl) : EO X E (.Call (.Name "len" p) [e] [] pos) (call1 lenD f) :=
  eo_callB (CallR.or call_len_seq call_len_str) (fun g F0 Fx F H own σ s x d Q R hx p => by
    unfold lenD at p
    split at p
    · obtain ⟨q, vs, rfl, hq, r⟩ := hx
      exact .inl ⟨q, vs, rfl, .inl (.inl (.inl hq)), by rw [r.length]; exact p.ok R _ ⟨_, rfl, .int _⟩⟩
    · cases hx with | tup h1 r => exact .inl ⟨_, _, rfl, .inr (sqT R.le h1), by rw [r.length]; exact p.ok R _ ⟨_, rfl, .int _⟩⟩
    · cases hx
      obtain ⟨c, p⟩ := p.ite
      exact .inr ⟨_, rfl, c, p.ok R _ ⟨_, rfl, .int _⟩⟩
    · exact p.elim) hm PySem.boot_len he hg (by decide) (by decide) hst hpl
theorem eo_all (hc : X.calm = true) (hm : X.mg "all" = none) (he : EP' X E e f) (hg : Gl X "all" := by rfl) (hst : starEach [e] X.env = (false, eval e X.env) :: starEach [] X.env := by rfl) (hpl : (backTo pos (starEach [] X.env)).any (·.1) = false := by rfl) : EO X E (.Call (.Name "all" p) [e] [] pos) (call1 allD f) :=
  eo_callB (cr_all hc) (fun g F0 Fx F H own σ s x d Q R hx p => by
    unfold allD at p
    split at p
    · split at p
      · rename_i ns hn
        obtain ⟨q, vs, rfl, hq, r⟩ := hx
        rw [D.bools_of hn] at r
        exact ⟨q, ns, rfl, .inl (.inl (by rw [← r.bools]; exact hq)), p.ok R _ ⟨_, rfl, .bl _⟩⟩
      · exact p.elim
    · exact p.elim) hm (by decide +kernel) he hg (by decide) (by decide) hst hpl
theorem eo_abs (hm : X.mg "abs" = none) (he : EP' X E e f) (hg : Gl X "abs" := by rfl) (hst : starEach [e] X.env = (false, eval e X.env) :: starEach [] X.env := by rfl) (hpl : (backTo pos (starEach [] X.env)).any (·.1) = false := by rfl) : EO X E (.Call (.Name "abs" p) [e] [] pos) (call1 absD f) :=
  eo_callB call_abs (fun g F0 Fx F H own σ s x d Q R hx p => by
    unfold absD at p
    split at p
    · cases hx; exact ⟨_, rfl, p.ok R _ ⟨_, rfl, .int _⟩⟩
    · exact p.elim) hm boot_abs he hg (by decide) (by decide) hst hpl
theorem eo_listOf (hm : X.mg "list" = none) (he : EP' X E e f) (hg : Gl X "list" := by rfl) (hst : starEach [e] X.env = (false, eval e X.env) :: starEach [] X.env := by rfl) (hpl : (backTo pos (starEach [] X.env)).any (·.1) = false := by rfl) : EO X E (.Call (.Name "list" p) [e] [] pos) (call1 listD f) :=
  eo_callTy call_list_of (fun g F0 Fx F H own σ s x d Q R hx p => by
    unfold listD at p
    split at p
    · obtain ⟨q, vs, rfl, hq, r⟩ := hx
      exact ⟨q, vs, rfl, .inl (.inl (.inl hq)), post_ow R r p⟩
    · cases hx with | tup h1 r => exact ⟨_, _, rfl, .inr (sqT R.le h1), post_ow R r p⟩
    · exact p.elim) hm boot_list he hg (by decide) (by decide) hst hpl
theorem eo_tupleOf (hm : X.mg "tuple" = none) (he : EP' X E e f) (hg : Gl X "tuple" := by rfl) (hst : starEach [e] X.env = (false, eval e X.env) :: starEach [] X.env := by rfl) (hpl : (backTo pos (starEach [] X.env)).any (·.1) = false := by rfl) : EO X E (.Call (.Name "tuple" p) [e] [] pos) (call1 tupD f) :=
  eo_callTy call_tuple_of (fun g F0 Fx F H own σ s x d Q R hx p => by
    unfold tupD at p
    split at p
    · obtain ⟨q, vs, rfl, hq, r⟩ := hx
      exact ⟨q, vs, rfl, .inl ⟨.inl (.inl hq), post_tup R r p⟩⟩
    · cases hx with | tup h1 r => exact ⟨_, _, rfl, .inr ⟨sqT R.le h1, p.ok R _ ⟨_, rfl, .tup h1 r⟩⟩⟩
    · exact p.elim) hm boot_tuple he hg (by decide) (by decide) hst hpl
end
end DL
namespace DL
open PySem PySem.Spec L2
open PyProof.Rows hiding St
def SameOut (vs : List Nat) (σ σ' : L2.St) : Prop := σ'.length = σ.length ∧ ∀ i, i ∉ vs → σ'[i]? = σ[i]?
def PostG (C : Cf) (g : Gp) (F0 Fx F H : Hp) (vs : List Nat) (σ : L2.St) (Q : L2.St → Hp → Prop) : Oc Unit → Prop
  | .ok _ s' => ∀ own' σ', RelS C g F0 Fx F H own' σ' s' → SameOut vs σ σ' → Q σ' H
  | _ => False
def tG (C : Cf) (vs : List Nat) (φ : D → DS → Oc Unit) : TG := fun v σ H Q => ∃ g F0 Fx F own s d, RelS C g F0 Fx F H own σ s ∧ Rp C g F v d ∧ PostG C g F0 Fx F H vs σ Q (φ d s)
def tGs (C : Cf) (vs : List Nat) (φ : List D → DS → Oc Unit) : TGs := fun v σ H Q => ∃ g F0 Fx F own s ds, RelS C g F0 Fx F H own σ s ∧ RpL C g F v ds ∧ PostG C g F0 Fx F H vs σ Q (φ ds s)
abbrev GT (X : Cx) (vs : List Nat) (e : Expr) (φ : D → DS → Oc Unit) : Prop := PG X e (tG ⟨X.K, X.mg⟩ vs φ)
abbrev GTs (X : Cx) (vs : List Nat) (es : List Expr) (φ : List D → DS → Oc Unit) : Prop := PGs X es (tGs ⟨X.K, X.mg⟩ vs φ)
def gSet (i : Nat) : D → DS → Oc Unit := fun d s => .ok () (s.put i (.fz d))
def gUn (n : Nat) (φ : List D → DS → Oc Unit) : D → DS → Oc Unit
  | .tup ds, s => if ds.length = n then φ ds s else .wr
  | _, _ => .wr
def gsNil : List D → DS → Oc Unit
  | [], s => .ok () s
  | _, _ => .wr
def gsCons (φ : D → DS → Oc Unit) (ψ : List D → DS → Oc Unit) : List D → DS → Oc Unit
  | d :: r, s => match φ d s with
    | .ok _ s1 => ψ r s1
    | _ => .wr
  | _, _ => .wr
theorem _root_.L2.PG.mono {X : Cx} {e : Expr} {t t' : TG} (h : PG X e t) (k : ∀ v σ H Q, t' v σ H Q → t v σ H Q) : PG X e t' := ⟨fun pins s σ H v u Q I r q => h.run pins s σ H v u Q I r (k v σ H Q q)⟩
theorem _root_.L2.PGs.mono {X : Cx} {e : List Expr} {t t' : TGs} (h : PGs X e t) (k : ∀ v σ H Q, t' v σ H Q → t v σ H Q) : PGs X e t' := ⟨fun pins s σ H v u Q I r q => h.run pins s σ H v u Q I r (k v σ H Q q)⟩
section
variable {X : Cx} {vs : List Nat} {e : Expr} {es : List Expr} {φ : D → DS → Oc Unit} {ψ : List D → DS → Oc Unit} {pos : Pos}
theorem gt_name {i : Nat} {x : Str} (hp : PG X (.Name x pos) (gName i)) (hi : i ∈ vs) : GT X vs (.Name x pos) (gSet i) := hp.mono fun v σ H Q ⟨g, F0, Fx, F, own, s, d, R, r, p⟩ => by
  refine p _ _ (R.setS (i := i) (r := .fz d) ⟨v, rfl, r⟩) ⟨List.length_set .., fun j hj => ?_⟩
  rw [List.getElem?_set_ne (fun z : i = j => hj (by rw [← z]; exact hi))]
theorem gts_nil : GTs X vs [] gsNil := pgs_nil.mono fun v σ H Q ⟨g, F0, Fx, F, own, s, d, R, r, p⟩ => by
  unfold gsNil at p
  split at p
  · cases r; exact ⟨rfl, p _ _ R ⟨rfl, fun _ _ => rfl⟩⟩
  · exact p.elim
theorem gts_cons (h1 : GT X vs e φ) (h2 : GTs X vs es ψ) (hs : (assignEach (e :: es) X.env).map (·.2) = assign e X.env :: (assignEach es X.env).map (·.2) := by rfl) : GTs X vs (e :: es) (gsCons φ ψ) := (pgs_cons h1 h2 hs).mono fun v σ H Q ⟨g, F0, Fx, F, own, s, d, R, r, p⟩ => by
  unfold gsCons at p
  split at p
  · rename_i d0 r0
    cases r with | cons a b =>
    refine ⟨_, _, rfl, g, F0, Fx, F, own, s, d0, R, a, ?_⟩
    split at p
    · rename_i u s1 e1
      rw [e1]
      refine fun own1 σ1 R1 o1 => ⟨g, F0, Fx, F, own1, s1, r0, R1, b, ?_⟩
      unfold PostG at p ⊢
      split at p
      · rename_i u2 s2 e2
        exact fun own2 σ2 R2 o2 => p own2 σ2 R2 ⟨o2.1.trans o1.1, fun i hi => (o2.2 i hi).trans (o1.2 i hi)⟩
      · exact p.elim
    · exact p.elim
  · exact p.elim
theorem gt_tup {n : Nat} {k : Nat} (hc : X.calm = true) (h : GTs X vs es ψ) (hn : (assignEach es X.env).length = n := by rfl) (hst : (assignEach es X.env).findIdx? (·.1) = none := by rfl) : GT X vs (.Tuple es k pos) (gUn n ψ) :=
  (pg_tup hc h hn hst).mono fun v σ H Q ⟨g, F0, Fx, F, own, s, d, R, r, p⟩ => by
    unfold gUn at p
    split at p
    · cases r with | tup h1 r =>
      split at p
      · rename_i hl
        exact ⟨_, _, rfl, sqT R.le h1, r.length.trans hl, g, F0, Fx, F, own, s, _, R, r, p⟩
      · exact p.elim
    · exact p.elim
end
def ItD (C : Cf) (g : Gp) (F : Hp) (J : It) (ds : List D) : Prop :=
  ∀ F' H, LeH F F' → LeH F' H → (∀ i d, ds[i]? = some d → J.go i H ∧ ∀ x H', J.yld i H x H' → (H' = H ∧ Rp C g F' x d) ∨ ∃ T o, H T = none ∧ H' = upd H T o ∧ Rp C g (upd F' T o) x d) ∧ ∀ i, ds.length ≤ i → J.stop i H
theorem ItD.mono {C : Cf} {g : Gp} {F F1 : Hp} {J : It} {ds : List D} (h : ItD C g F J ds) (e : LeH F F1) : ItD C g F1 J ds := fun F' H h1 h2 => h F' H (fun a o q => h1 a o (e a o q)) h2
def tI (C : Cf) (E : XK) (f : DS → Oc (List D)) : TI := fun σ H R => ∃ g Fx F own s, RelS C g F Fx F H own σ s ∧ Post C E g F Fx σ (fun ds F' H' _ _ => ∀ J, ItD C g F' J ds → R J H') (f s)
abbrev EI (X : Cx) (E : XK) (tg e : Expr) (f : DS → Oc (List D)) : Prop := PI X tg e (tI ⟨X.K, X.mg⟩ E f)
theorem _root_.L2.PI.mono {X : Cx} {tg e : Expr} {t t' : TI} (h : PI X tg e t) (k : ∀ σ H R, t' σ H R → t σ H R) : PI X tg e t' := ⟨fun pins s σ H R I q => h.run pins s σ H R I (k σ H R q)⟩
theorem _root_.L2.PI.or {X : Cx} {tg e : Expr} {t t' : TI} (h : PI X tg e t) (h' : PI X tg e t') : PI X tg e (fun σ H R => t σ H R ∨ t' σ H R) := ⟨fun pins s σ H R I q => q.elim (h.run pins s σ H R I) (h'.run pins s σ H R I)⟩
theorem tI.bind {C : Cf} {E : XK} {g : Gp} {F0 Fx F H : Hp} {own : Ow} {σ : L2.St} {s : DS} {β : Type} {R : β → Hp → Hp → Ow → DS → Prop} {f : DS → Oc (List D)} {k : List D → DS → Oc β} {Q : It → Hp → Prop} (h0 : RelS C g F0 Fx F H own σ s) (h : Post C E g F0 Fx σ R ((f s).bind k))
    (hk : ∀ d F1 H1 own1 s1 J, RelS C g F0 Fx F1 H1 own1 σ s1 → LeH F F1 → ItD C g F1 J d → Post C E g F0 Fx σ R (k d s1) → Q J H1) : tI C E f σ H Q :=
  ⟨g, Fx, F, own, s, h0.refl, Post.bind h0 h fun d F1 H1 own1 s1 _ r le p v hv => hk d F1 H1 own1 s1 v r le hv p⟩
section
variable {C : Cf} {g : Gp} {F : Hp} {a : Addr} {vs : List V} {ds : List D}
theorem itD_list (h : F a = some (.lst vs)) (r : RpL C g F vs ds) : ItD C g F (Itl C.K a) ds := fun F' H h1 h2 => by
  have q : SqL C.K H a vs := .inl (.inl (h2 _ _ (h1 _ _ h)))
  refine ⟨fun i d hd => ?_, fun i hi => ⟨vs, q, by rw [r.length]; exact hi⟩⟩
  obtain ⟨v, hv, rv⟩ := r.get hd
  exact ⟨⟨vs, v, q, hv⟩, fun x H' ⟨e, y⟩ => by
    have z := y vs q
    rw [hv] at z; cases z
    exact .inl ⟨e, rv.mono h1⟩⟩
theorem itD_tup (h : F a = some (.tup vs)) (r : RpL C g F vs ds) : ItD C g F (Itt C.K a) ds := fun F' H h1 h2 => by
  have q : SqT C.K H a vs := sqT h2 (h1 _ _ h)
  refine ⟨fun i d hd => ?_, fun i hi => ⟨vs, q, by rw [r.length]; exact hi⟩⟩
  obtain ⟨v, hv, rv⟩ := r.get hd
  exact ⟨⟨vs, v, q, hv⟩, fun x H' ⟨e, y⟩ => by
    have z := y vs q
    rw [hv] at z; cases z
    exact .inl ⟨e, rv.mono h1⟩⟩
def rngD (lo : Int) (n : Nat) : List D := (List.range n).map fun i => D.int (lo + (i : Nat))
theorem rngD_len (lo : Int) (n : Nat) : (rngD lo n).length = n := by unfold rngD; rw [List.length_map, List.length_range]
theorem itD_rng (lo : Int) (n : Nat) : ItD C g F (Itr lo n) (rngD lo n) := fun F' H h1 h2 => by
  refine ⟨fun i d hd => ?_, fun i hi => by rw [rngD_len] at hi; exact hi⟩
  have hi : i < n := by have := (List.getElem?_eq_some_iff.mp hd).1; rwa [rngD_len] at this
  have e : d = D.int (lo + (i : Nat)) := by
    unfold rngD at hd
    rw [List.getElem?_map, List.getElem?_range hi] at hd
    exact (Option.some.inj hd).symm
  subst e
  exact ⟨hi, fun x H' ⟨e, y⟩ => .inl ⟨e, by rw [y]; exact .int _⟩⟩
end
def rOk (j : Int) : Bool := Nat.ble j.natAbs.log2 60
theorem rOk_c {j : Int} (h : rOk j = true) : -(2 ^ 62) ≤ j ∧ j < 2 ^ 62 := by
  have h1 : j.natAbs.log2 ≤ 60 := Nat.le_of_ble_eq_true h
  have h2 : j.natAbs < 2 ^ 61 := by
    by_cases z : j.natAbs = 0
    · rw [z]; exact Nat.pos_of_neZero _
    · exact (Nat.log2_lt z).mp (by omega)
  generalize hn : j.natAbs = n at h2
  have h3 : (n : Int) < 2 ^ 61 := by exact_mod_cast h2
  have h4 : j = n ∨ j = -(n : Int) := by omega
  have h5 : (0 : Int) ≤ n := Int.natCast_nonneg n
  generalize (n : Int) = m at h3 h4 h5
  rcases h4 with rfl | rfl
  · exact ⟨by omega, by omega⟩
  · exact ⟨by omega, by omega⟩
theorem rOk_of {j : Int} (h : -1000 ≤ j) (h2 : j ≤ 1000) : rOk j = true := by
  refine Nat.ble_eq_true_of_le ?_
  by_cases z : j.natAbs = 0
  · rw [z]; decide
  · have : j.natAbs.log2 < 10 := (Nat.log2_lt z).mpr (by show _ < 1024; omega)
    omega
def itSeq (f : DS → Oc Sl) : DS → Oc (List D) := fun s => (fr f s).bind fun d s1 => match d with
  | .lst xs => .ok xs s1
  | .tup xs => .ok xs s1
  | _ => .wr
def itRng1 (f : DS → Oc Sl) : DS → Oc (List D) := fun s => (fr f s).bind fun d s1 => match d with
  | .int j => if rOk j = true then .ok (rngD 0 j.toNat) s1 else .wr
  | _ => .wr
def itRng2 (f h : DS → Oc Sl) : DS → Oc (List D) := fun s => (fr f s).bind fun d s1 => (fr h s1).bind fun e s2 => match d, e with
  | .int i, .int j => if rOk i = true ∧ rOk j = true then .ok (rngD i (j - i).toNat) s2 else .wr
  | _, _ => .wr
section
variable {X : Cx} {E : XK} {tg e a b : Expr} {f h : DS → Oc Sl} {pos p : Pos}
theorem ei_seq (he : EO X E e f) : EI X E tg e (itSeq f) := ((pi_list he.fr).or (pi_tup he.fr)).mono fun σ H Q ⟨g, Fx, F, own, s, R, p⟩ => by
  unfold itSeq at p
  cases e1 : fr f s with
  | ok d s1 =>
    rw [e1] at p
    cases d with
    | lst xs =>
      refine .inl ⟨g, Fx, F, own, s, R, ?_⟩
      rw [e1]
      intro F' H' own' R' v hv
      cases hv with | lst h1 r => exact ⟨_, rfl, ⟨_, .inl (.inl (R'.le _ _ h1))⟩, p F' H' own' R' _ (itD_list h1 r)⟩
    | tup xs =>
      refine .inr ⟨g, Fx, F, own, s, R, ?_⟩
      rw [e1]
      intro F' H' own' R' v hv
      cases hv with | tup h1 r => exact ⟨_, rfl, ⟨_, sqT R'.le h1⟩, p F' H' own' R' _ (itD_tup h1 r)⟩
    | _ => exact p.elim
  | ex x s1 =>
    rw [e1] at p
    refine .inl ⟨g, Fx, F, own, s, R, ?_⟩
    rw [e1]
    exact p
  | wr => rw [e1] at p; exact p.elim
theorem ei_rng1 (hm : X.mg "range" = none) (ha : EO X E a f) (hg : Gl X "range" := by rfl) (hst : starEach [a] X.env = (false, eval a X.env) :: starEach [] X.env := by rfl) (hs : starEach [a] X.env = [(false, eval a X.env)] := by rfl) : EI X E tg (.Call (.Name "range" p) [a] [] pos) (itRng1 f) :=
  (pi_range1 hg hm (pa_cons ha.fr pa_nil hst) hs).mono fun σ H Q ⟨g, Fx, F, own, s, R, p⟩ => by
    refine tF.bind R p fun d F1 H1 own1 s1 v R1 le hv p1 => ?_
    split at p1
    · obtain ⟨c, p1⟩ := p1.ite
      cases hv
      exact ⟨_, rfl, (rOk_c c).1, (rOk_c c).2, p1.ok R1 _ (itD_rng 0 _)⟩
    · exact p1.elim
theorem ei_rng2 (hm : X.mg "range" = none) (ha : EO X E a f) (hb : EO X E b h) (hg : Gl X "range" := by rfl) (hst : starEach [a, b] X.env = (false, eval a X.env) :: starEach [b] X.env := by rfl) (hst2 : starEach [b] X.env = (false, eval b X.env) :: starEach [] X.env := by rfl)
    (hs : starEach [a, b] X.env = [(false, eval a X.env), (false, eval b X.env)] := by rfl) (hs2 : starEach [b] X.env = [(false, eval b X.env)] := by rfl) : EI X E tg (.Call (.Name "range" p) [a, b] [] pos) (itRng2 f h) :=
  (pi_range2 hg hm (pa_cons ha.fr (pa_cons hb.fr pa_nil hst2) hst) hs hs2).mono fun σ H Q ⟨g, Fx, F, own, s, R, p⟩ => by
    refine tF.bind R p fun d F1 H1 own1 s1 v R1 le hv p1 => ?_
    refine tF.bind R1 p1 fun d2 F2 H2 own2 s2 v2 R2 le2 hv2 p2 => ?_
    split at p2
    · obtain ⟨c, p2⟩ := p2.ite
      cases hv; cases hv2
      exact ⟨_, _, rfl, ⟨(rOk_c c.1).1, (rOk_c c.1).2, (rOk_c c.2).1, (rOk_c c.2).2⟩, p2.ok R2 _ (itD_rng _ _)⟩
    · exact p2.elim
end
def DS.wipe (s : DS) (vs : List Nat) : DS := ⟨vs.foldr (fun i l => l.set i .no) s.sl, s.w⟩
def bk1 (s0 : DS) (i : Nat) : Sl := match s0.sl[i]? with
  | some (Sl.fz d) => .fz d
  | _ => .no
def DS.back (s : DS) (s0 : DS) (vs : List Nat) : DS := ⟨vs.foldr (fun i l => l.set i (bk1 s0 i)) s.sl, s.w⟩
theorem wipe_get {σ : L2.St} {i : Nat} : ∀ {vs : List Nat}, i ∈ vs → i < σ.length → (wipe σ vs)[i]? = some none
  | [], h, _ => by simp at h
  | v :: vs, h, hl => by
    show ((wipe σ vs).set v none)[i]? = _
    by_cases e : v = i
    · subst e; rw [List.getElem?_set_self (by rw [wipe_length]; exact hl)]
    · rw [List.getElem?_set_ne e]
      exact wipe_get ((List.mem_cons.mp h).resolve_left (fun z => e z.symm)) hl
theorem wipe_other {σ : L2.St} {i : Nat} : ∀ {vs : List Nat}, i ∉ vs → (wipe σ vs)[i]? = σ[i]?
  | [], _ => rfl
  | v :: vs, h => by
    show ((wipe σ vs).set v none)[i]? = _
    rw [List.getElem?_set_ne (fun z : v = i => h (by rw [z]; exact List.mem_cons_self))]
    exact wipe_other (fun z => h (List.mem_cons_of_mem _ z))
theorem wipe_same {σ σ' : L2.St} {vs : List Nat} (h : SameOut vs σ σ') : wipe σ' vs = wipe σ vs := by
  apply List.ext_getElem?
  intro i
  by_cases hi : i ∈ vs
  · by_cases hl : i < σ.length
    · rw [wipe_get hi hl, wipe_get hi (by rw [h.1]; exact hl)]
    · rw [List.getElem?_eq_none (by rw [wipe_length, h.1]; omega), List.getElem?_eq_none (by rw [wipe_length]; omega)]
  · rw [wipe_other hi, wipe_other hi]; exact h.2 i hi
theorem wipe_wipe {σ : L2.St} {vs : List Nat} : wipe (wipe σ vs) vs = wipe σ vs := wipe_same ⟨wipe_length σ vs, fun i hi => wipe_other hi⟩
theorem swipe_len (s : DS) : ∀ vs : List Nat, (s.wipe vs).sl.length = s.sl.length
  | [] => rfl
  | v :: vs => by
    show ((s.wipe vs).sl.set v .no).length = _
    rw [List.length_set]; exact swipe_len s vs
theorem swipe_get {s : DS} {i : Nat} {r : Sl} : ∀ {vs : List Nat}, (s.wipe vs).sl[i]? = some r → (i ∈ vs ∧ r = .no) ∨ (i ∉ vs ∧ s.sl[i]? = some r)
  | [], h => .inr ⟨by simp, h⟩
  | v :: vs, h => by
    have h : ((s.wipe vs).sl.set v .no)[i]? = some r := h
    by_cases e : v = i
    · subst e
      refine .inl ⟨List.mem_cons_self, ?_⟩
      rw [List.getElem?_set] at h
      simp at h
      exact h.2.symm
    · rw [List.getElem?_set_ne e] at h
      rcases swipe_get h with ⟨h1, h2⟩ | ⟨h1, h2⟩
      · exact .inl ⟨List.mem_cons_of_mem _ h1, h2⟩
      · exact .inr ⟨fun z => (List.mem_cons.mp z).elim (fun z => e z.symm) h1, h2⟩
theorem sback_len (s s0 : DS) : ∀ vs : List Nat, (s.back s0 vs).sl.length = s.sl.length
  | [] => rfl
  | v :: vs => by
    show ((s.back s0 vs).sl.set v (bk1 s0 v)).length = _
    rw [List.length_set]; exact sback_len s s0 vs
theorem bk1_is (s0 : DS) (i : Nat) : bk1 s0 i = .no ∨ ∃ d, bk1 s0 i = .fz d ∧ s0.sl[i]? = some (.fz d) := by
  unfold bk1
  split
  · rename_i d h; exact .inr ⟨d, rfl, h⟩
  · exact .inl rfl
theorem sback_get {s s0 : DS} {i : Nat} {r : Sl} : ∀ {vs : List Nat}, (s.back s0 vs).sl[i]? = some r → (i ∈ vs ∧ (r = .no ∨ ∃ d, r = .fz d ∧ s0.sl[i]? = some (.fz d))) ∨ (i ∉ vs ∧ s.sl[i]? = some r)
  | [], h => .inr ⟨by simp, h⟩
  | v :: vs, h => by
    have h : ((s.back s0 vs).sl.set v (bk1 s0 v))[i]? = some r := h
    by_cases e : v = i
    · subst e
      refine .inl ⟨List.mem_cons_self, ?_⟩
      rw [List.getElem?_set] at h
      simp at h
      have z := bk1_is s0 v
      rw [h.2] at z
      exact z
    · rw [List.getElem?_set_ne e] at h
      rcases sback_get h with ⟨h1, h2⟩ | ⟨h1, h2⟩
      · exact .inl ⟨List.mem_cons_of_mem _ h1, h2⟩
      · exact .inr ⟨fun z => (List.mem_cons.mp z).elim (fun z => e z.symm) h1, h2⟩
section
variable {C : Cf} {g : Gp} {F0 Fx F H : Hp} {own : Ow} {σ : L2.St} {s : DS} {vs : List Nat}
theorem RelS.wipe (R : RelS C g F0 Fx F H own σ s) : RelS C g F0 Fx F H own (L2.wipe σ vs) (s.wipe vs) :=
  { R.toRel with
    len := by rw [swipe_len, wipe_length]; exact R.len
    at_ := fun i r ov h1 h2 => by
      rcases swipe_get h1 with ⟨_, e⟩ | ⟨hi, h1⟩
      · rw [e]; trivial
      · rw [wipe_other hi] at h2; exact R.at_ i r ov h1 h2 }
theorem RelS.bump {D : Addr} {o o' : HO} (R : RelS C g F0 (upd Fx D o) F H own σ s) (hF : F D = none) : RelS C g F0 (upd Fx D o') F (upd H D o') own σ s := by
  have hD : H D = some o := R.fx _ _ upd_same
  have nP : g.P ≠ D := fun z => by have := R.penX; rw [z, upd_same] at this; cases this
  have nO : ∀ a l, own a = some l → a ≠ D := fun a l q z => by have := (R.ow a l q).2.1; rw [z, upd_same] at this; cases this
  refine { le := fun a u q => ?_, ge := R.ge, nw := fun a n x => ?_, fx := fun a u q => ?_, ow := fun a l q => ?_, pen := ?_, penF := R.penF, penX := ?_, cells := R.cells, tab := (R.tab.to (fun a ps q1 q2 q3 q4 => have e : a ≠ D := fun z => by rw [z, upd_same] at q3; cases q3
    ⟨by rw [upd_ne e]; exact q1, q2, by rw [upd_ne e] at q3 ⊢; exact q3, q4⟩) (fun _ _ q => q)), len := R.len, at_ := fun i r ov h1 h2 => ?_ }
  · rw [upd_ne (fun z => by rw [z, hF] at q; cases q)]; exact R.le _ _ q
  · by_cases e : a = D
    · subst e; exact R.nw a n (by rw [upd_same]; exact fun z => nomatch z)
    · refine R.nw a n ?_; rw [upd_ne e] at x ⊢; exact x
  · by_cases e : a = D
    · subst e; rw [upd_same] at q ⊢; exact q
    · rw [upd_ne e] at q ⊢; exact R.fx _ _ (by rw [upd_ne e]; exact q)
  · have h := R.ow a l q
    have e := nO a l q
    rw [upd_ne e] at h
    exact ⟨h.1, by rw [upd_ne e]; exact h.2.1, h.2.2.1, by rw [upd_ne e]; exact h.2.2.2⟩
  · rw [upd_ne nP]; exact R.pen
  · rw [upd_ne nP]; have := R.penX; rwa [upd_ne nP] at this
  · exact (R.at_ i r ov h1 h2).mono (fun _ _ q => q) (fun a u q h => by rw [upd_ne (nO a _ q)]; exact h) (fun _ q => q)
end
def lcRun (vs : List Nat) (tg : D → DS → Oc Unit) (tt : DS → Oc Bool) (te : DS → Oc Sl) : List D → DS → List D → Oc (List D)
  | [], s, acc => .ok acc s
  | d :: r, s, acc => match tg d (s.wipe vs) with
    | .ok _ s1 => match tt s1 with
      | .ok true s2 => match fr te s2 with
        | .ok x s3 => if acc.length < sizeLine then lcRun vs tg tt te r s3 (acc ++ [x]) else .wr
        | _ => .wr
      | .ok false s2 => lcRun vs tg tt te r s2 acc
      | _ => .wr
    | _ => .wr
def lcRun2 (vs vs1 : List Nat) (tg : D → DS → Oc Unit) (tt : DS → Oc Bool) (it1 : DS → Oc (List D)) (tg1 : D → DS → Oc Unit) (tt1 : DS → Oc Bool) (te : DS → Oc Sl) : List D → DS → List D → Oc (List D)
  | [], s, acc => .ok acc s
  | d :: r, s, acc => match tg d (s.wipe vs) with
    | .ok _ s1 => match tt s1 with
      | .ok true s2 => match it1 s2 with
        | .ok ds1 s3 => match lcRun vs1 tg1 tt1 te ds1 s3 acc with
          | .ok acc' s4 => lcRun2 vs vs1 tg tt it1 tg1 tt1 te r s4 acc'
          | _ => .wr
        | _ => .wr
      | .ok false s2 => lcRun2 vs vs1 tg tt it1 tg1 tt1 te r s2 acc
      | _ => .wr
    | _ => .wr
def vLc (vs : List Nat) (it : DS → Oc (List D)) (tg : D → DS → Oc Unit) (tt : DS → Oc Bool) (te : DS → Oc Sl) : DS → Oc Sl := fun s => (it s).bind fun ds s1 => match lcRun vs tg tt te ds s1 [] with
  | .ok xs s2 => .ok (.ow xs) (s2.back s1 vs)
  | _ => .wr
def vLc2 (vs vs1 : List Nat) (it : DS → Oc (List D)) (tg : D → DS → Oc Unit) (tt : DS → Oc Bool) (it1 : DS → Oc (List D)) (tg1 : D → DS → Oc Unit) (tt1 : DS → Oc Bool) (te : DS → Oc Sl) : DS → Oc Sl := fun s => (it s).bind fun ds s1 => match lcRun2 vs vs1 tg tt it1 tg1 tt1 te ds s1 [] with
  | .ok xs s2 => .ok (.ow xs) (s2.back s1 vs)
  | _ => .wr
def tYesD : DS → Oc Bool := fun s => .ok true s
structure PTd (X : Cx) (ifs : List Expr) (t : DS → Oc Bool) : Prop where
  pts : PTs X ifs (tD ⟨X.K, X.mg⟩ E0 t)
theorem ptd_nil {X : Cx} : PTd X [] tYesD := ⟨⟨fun pins s σ H Q I ⟨g, Fx, F, own, s', R, p⟩ => pts_nil.run pins s σ H Q I (p.ok R)⟩⟩
theorem ptd_one {X : Cx} {c : Expr} {t : DS → Oc Bool} (h : ET X E0 c t) : PTd X [c] t := ⟨pts_one h⟩
end DL
namespace DL
open PySem PySem.Spec L2
open PyProof.Rows hiding St
section
variable {C : Cf} {g : Gp} {F0 Fx F H : Hp} {own : Ow} {σ : L2.St} {s : DS} {vs : List Nat} {D : Addr} {o : HO}
theorem RelS.pin (R : RelS C g F0 Fx F H own σ s) (hD : H D = none) : RelS C g F0 (upd Fx D o) F (upd H D o) own σ s := by
  have nF := R.toRel.Fnone hD
  have nP : g.P ≠ D := fun z => by have := R.pen; rw [z, hD] at this; cases this
  have nO : ∀ a l, own a = some l → a ≠ D := fun a l q z => (R.ow a l q).2.2.2 (by rw [z]; exact hD)
  refine { le := fun a u q => ?_, ge := R.ge, nw := fun a n x => ?_, fx := fun a u q => ?_, ow := fun a l q => ?_, pen := ?_, penF := R.penF, penX := ?_, cells := R.cells, tab := (R.tab.to (fun a ps q1 q2 q3 q4 => have e : a ≠ D := fun z => by rw [z, hD] at q1; cases q1
    ⟨by rw [upd_ne e]; exact q1, q2, by rw [upd_ne e]; exact q3, q4⟩) (fun _ _ q => q)), len := R.len, at_ := fun i r ov h1 h2 => ?_ }
  · rw [upd_ne (fun z => by rw [z, nF] at q; cases q)]; exact R.le _ _ q
  · by_cases e : a = D
    · subst e; exact nF
    · rw [upd_ne e] at x; exact R.nw a n x
  · by_cases e : a = D
    · subst e; rw [upd_same] at q ⊢; exact q
    · rw [upd_ne e] at q ⊢; exact R.fx _ _ q
  · have h := R.ow a l q
    have e := nO a l q
    exact ⟨h.1, by rw [upd_ne e]; exact h.2.1, h.2.2.1, by rw [upd_ne e]; exact h.2.2.2⟩
  · rw [upd_ne nP]; exact R.pen
  · rw [upd_ne nP]; exact R.penX
  · exact (R.at_ i r ov h1 h2).mono (fun _ _ q => q) (fun a u q h => by rw [upd_ne (nO a _ q)]; exact h) (fun _ q => q)
theorem swipe_other {i : Nat} : ∀ {vs : List Nat}, i ∉ vs → (s.wipe vs).sl[i]? = s.sl[i]?
  | [], _ => rfl
  | v :: vs, h => by
    show ((s.wipe vs).sl.set v .no)[i]? = _
    rw [List.getElem?_set_ne (fun z : v = i => h (by rw [z]; exact List.mem_cons_self))]
    exact swipe_other (fun z => h (List.mem_cons_of_mem _ z))
theorem RelS.unpin {F1 H1 : Hp} {own0 : Ow} {s1 : DS} (R1 : RelS C g F0 Fx F1 H1 own0 σ s1) (hD : H1 D = none) (R : RelS C g F1 (upd Fx D o) F H own (L2.wipe σ vs) (s.wipe vs)) : RelS C g F0 Fx F H (own1 own D) σ (s.back s1 vs) := by
  have nF1 := R1.toRel.Fnone hD
  have nX : Fx D = none := by
    cases z : Fx D with
    | none => rfl
    | some u => rw [R1.fx _ _ z] at hD; cases hD
  have nF : F D = none := R.nw D nF1 (by rw [upd_same]; exact fun z => nomatch z)
  have hH : H D = some o := R.fx _ _ upd_same
  have nP : D ≠ g.P := fun z => by have := R.penX; rw [← z, upd_same] at this; cases this
  have nO : ∀ a l, own a = some l → a ≠ D := fun a l q z => by have := (R.ow a l q).2.1; rw [z, upd_same] at this; cases this
  refine { le := R.le, ge := fun a u q => R.ge _ _ (R1.ge _ _ q), nw := fun a n x => ?_, fx := fun a u q => ?_, ow := fun a l q => ?_, pen := R.pen, penF := R.penF, penX := R1.penX, cells := R.cells, tab := (R.tab.to (fun a ps q1 q2 q3 q4 => have e : a ≠ D := fun z => by rw [z, upd_same] at q3; cases q3
    ⟨q1, q2, by rw [upd_ne e] at q3; exact q3, by show own1 own D a = none; unfold own1; rw [if_neg e]; exact q4⟩) (fun _ _ q => q)), len := ?_, at_ := fun i r ov h1 h2 => ?_ }
  · refine R.nw a (R1.nw a n x) ?_
    rw [upd_ne (fun z => x (by rw [z]; exact nX))]; exact x
  · exact R.fx _ _ (by rw [upd_ne (fun z => by rw [z, nX] at q; cases q)]; exact q)
  · unfold own1 at q
    by_cases e : a = D
    · subst e; exact ⟨nF, nX, nP, by rw [hH]; exact fun z => nomatch z⟩
    · rw [if_neg e] at q
      have h := R.ow a l q
      rw [upd_ne e] at h
      exact h
  · rw [sback_len]
    have := R.len
    rw [swipe_len, wipe_length] at this
    exact this
  · rcases sback_get h1 with ⟨hi, e | ⟨d, e, hd⟩⟩ | ⟨hi, h1⟩
    · rw [e]; trivial
    · rw [e]
      obtain ⟨v, e2, r2⟩ := R1.fz_at hd
      rw [h2] at e2
      exact ⟨v, Option.some.inj e2, r2.mono R.ge⟩
    · rw [← swipe_other hi] at h1
      rw [← wipe_other hi] at h2
      refine (R.at_ i r ov h1 h2).mono (fun _ _ q => q) (fun _ _ _ q => q) (fun a q => ?_)
      show own1 own D a = _
      unfold own1
      rw [if_neg (nO a _ q)]
      exact q
end
section
variable {X : Cx} {E : XK} {elt tg iter : Expr} {ifs : List Expr} {scope : Scope} {own : List (Str × Nat)} {pos : Pos} {it : DS → Oc (List D)} {tgD : D → DS → Oc Unit} {tt : DS → Oc Bool} {te : DS → Oc Sl}
theorem lc_turns {C : Cf} {g : Gp} {F1 Fx : Hp} {σ : L2.St} {vs : List Nat} {J : It} {ds : List D} {Dd : Addr} {Z : Oc (List DL.D) → Prop} {Qd : Hp → Prop} {H0 : Hp}
    (hJ : ItD C g F1 J ds) (hF : F1 Dd = none) (hzok : ∀ s acc accd F' H own, Z (.ok accd s) → RelS C g F1 (upd Fx Dd (.lst acc)) F' H own (wipe σ vs) (s.wipe vs) → RpL C g F' acc accd → Qd H) (hzx : ∀ x s, ¬ Z (.ex x s)) (hzw : ¬ Z .wr)
    {F0 : Hp} {own0 : Ow} {s0 : DS} {acc0 : List V} {accd0 : List DL.D} (R0 : RelS C g F1 (upd Fx Dd (.lst acc0)) F0 H0 own0 (wipe σ vs) (s0.wipe vs)) (r0 : RpL C g F0 acc0 accd0) (z0 : Z (lcRun vs tgD tt te ds s0 accd0)) :
    ∃ W : Nat → Nat → Hp → Prop, (∃ m, W 0 m H0) ∧ ∀ i m H, W i m H →
      (J.stop i H ∧ Qd H) ∨ (J.go i H ∧ ∃ Nx : Hp → Prop, (∀ H', Nx H' → ∃ m', m' < m ∧ W (i + 1) m' H') ∧ ∀ x H', J.yld i H x H' → tG C vs tgD x (wipe σ vs) H' fun σ2 H2 => wipe σ2 vs = wipe σ vs ∧ tD C E0 tt σ2 H2 fun b H3 =>
        if b = true then tF C E0 (fr te) σ2 H3 fun y H4 => ∃ acc, H4 Dd = some (.lst acc) ∧ acc.length < sizeLine ∧ Nx (upd H4 Dd (.lst (acc ++ [y]))) else Nx H3) := by
  refine ⟨fun i m H => m = ds.length - i ∧ i ≤ ds.length ∧ ∃ F' own' s' acc accd, RelS C g F1 (upd Fx Dd (.lst acc)) F' H own' (wipe σ vs) (s'.wipe vs) ∧ RpL C g F' acc accd ∧ Z (lcRun vs tgD tt te (ds.drop i) s' accd),
    ⟨ds.length, by omega, Nat.zero_le _, F0, own0, s0, acc0, accd0, R0, r0, z0⟩, ?_⟩
  rintro i m H ⟨rfl, hi, F', own', s', acc, accd, R, r, z⟩
  obtain ⟨go, stop⟩ := hJ F' H R.ge R.le
  by_cases hlt : i < ds.length
  · right
    obtain ⟨hgo, hy⟩ := go i ds[i] (List.getElem?_eq_getElem hlt)
    rw [List.drop_eq_getElem_cons hlt] at z
    unfold lcRun at z
    refine ⟨hgo, fun H' => ∃ F' own' s' acc accd, RelS C g F1 (upd Fx Dd (.lst acc)) F' H' own' (wipe σ vs) (s'.wipe vs) ∧ RpL C g F' acc accd ∧ Z (lcRun vs tgD tt te (ds.drop (i + 1)) s' accd), fun H' h => ⟨ds.length - (i + 1), by omega, rfl, hlt, h⟩, fun x H' yx => ?_⟩
    obtain ⟨F2, R2, hx, le2⟩ : ∃ F2, RelS C g F1 (upd Fx Dd (.lst acc)) F2 H' own' (wipe σ vs) (s'.wipe vs) ∧ Rp C g F2 x ds[i] ∧ LeH F' F2 := by
      rcases hy x H' yx with ⟨e, hx⟩ | ⟨T, o, hT, e, hx⟩
      · subst e; exact ⟨F', R, hx, fun _ _ q => q⟩
      · subst e; exact ⟨upd F' T o, R.new hT, hx, upd_le (R.toRel.Fnone hT)⟩
    refine ⟨g, F1, _, F2, own', s'.wipe vs, ds[i], R2, hx, ?_⟩
    split at z
    · rename_i u s1 e1
      rw [e1]
      intro own3 σ3 R3 so3
      have w3 : wipe σ3 vs = wipe σ vs := (wipe_same so3).trans wipe_wipe
      refine ⟨w3, g, _, F2, own3, s1, R3.refl, ?_⟩
      split at z
      · rename_i s2 e2
        rw [e2]
        intro F4 H4 own4 R4
        dsimp only
        rw [if_pos rfl]
        refine ⟨g, _, F4, own4, s2, R4.refl, ?_⟩
        split at z
        · rename_i y s3 e3
          rw [e3]
          intro F5 H5 own5 R5 v hv
          have le24 := R4.ge
          have le45 := R5.ge
          have hl : acc.length < sizeLine := by
            by_cases c : accd.length < sizeLine
            · rw [r.length]; exact c
            · rw [if_neg c] at z; exact absurd z hzw
          have R15 : RelS C g F1 (upd Fx Dd (.lst acc)) F5 H5 own5 σ3 s3 := (R3.trans R4 fun _ _ q => q).trans R5 fun _ _ q => q
          have nF5 : F5 Dd = none := R15.nw Dd hF (by rw [upd_same]; exact fun z => nomatch z)
          refine ⟨acc, R15.fx _ _ upd_same, hl, ?_⟩
          rw [if_pos (by rw [← r.length]; exact hl)] at z
          have R6 := (R15.bump (o' := .lst (acc ++ [v])) nF5).wipe (vs := vs)
          rw [w3] at R6
          exact ⟨F5, own5, s3, acc ++ [v], accd ++ [y], R6, ((((r.mono le2).mono le24).mono le45)).append (.cons hv .nil), z⟩
        · exact absurd z hzw
      · rename_i s2 e2
        rw [e2]
        intro F4 H4 own4 R4
        dsimp only
        rw [if_neg Bool.false_ne_true]
        have R14 := (R3.trans R4 fun _ _ q => q).wipe (vs := vs)
        rw [w3] at R14
        exact ⟨F4, own4, s2, acc, accd, R14, (r.mono le2).mono R4.ge, z⟩
      · exact absurd z hzw
    · exact absurd z hzw
  · left
    have e : i = ds.length := by omega
    refine ⟨stop i (by omega), ?_⟩
    rw [List.drop_eq_nil_of_le (by omega)] at z
    unfold lcRun at z
    exact hzok s' acc accd F' H own' z R r
theorem lc_imp {g0 : TG} {C : Cf} {vs : List Nat} {σ : L2.St} {H : Hp} {Q : VK} (h : tO C E (vLc vs it tgD tt te) σ H Q) : tLc (tI C E it) (tG C vs tgD) (tD C E0 tt) (tF C E0 (fr te)) vs σ H Q := by
    obtain ⟨g, Fx, F, own', s, R, p⟩ := h
    refine tI.bind R p fun ds F1 H1 own1' s1 J R1 le hJ p1 Dd hD => ?_
    have R1r := R1.refl
    have nF1 := R1.toRel.Fnone hD
    refine lc_turns (Z := fun o => Post C E g F Fx σ (RO C g Q) (match o with
      | .ok xs s2 => .ok (.ow xs) (s2.back s1 vs)
      | _ => .wr)) (acc0 := []) (accd0 := []) (s0 := s1) (Fx := Fx) hJ nF1 (fun s2 acc accd F' H' own2 z R2 r2 => ?_) (fun x s h => h) (fun h => h) ((R1r.pin hD).wipe) .nil p1
    have R3 := RelS.unpin R1 hD R2
    exact z F' H' _ R3 _ ⟨Dd, acc, rfl, by show own1 own2 Dd Dd = _; unfold own1; rw [if_pos rfl], R2.fx _ _ upd_same, r2⟩
theorem eo_lc (hc : X.calm = true) (hN : X.N.Nodup) (hi : EI X E tg iter it) (ok : BlkOk X.N X.env.scope scope own)
    (hg : ∀ (s : Shared) (H : Hp) (C : Addr) (cl : List (Str × Addr)) (fp : List Addr), GT (X.blk s H scope (compEnvC scope cl C X.env) fp) (own.map (·.2)) tg tgD) (ht : ∀ (s : Shared) (H : Hp) (C : Addr) (cl : List (Str × Addr)) (fp : List Addr), PTd (X.blk s H scope (compEnvC scope cl C X.env) fp) ifs tt)
    (he : ∀ (s : Shared) (H : Hp) (C : Addr) (cl : List (Str × Addr)) (fp : List Addr), EO (X.blk s H scope (compEnvC scope cl C X.env) fp) E0 elt te) (hs : ∀ x, foldedSetIterable iter X.env x = pure x := by intro _; rfl) :
    EO X E (.ListComp elt [⟨tg, iter, ifs, 0⟩] scope pos) (vLc (own.map (·.2)) it tgD tt te) :=
  (pe_lc hc hN hi ok hg (fun s H C cl fp => (ht s H C cl fp).pts) (fun s H C cl fp => (he s H C cl fp).fr) hs).mono fun σ H Q h => lc_imp (g0 := gName 0) h
theorem wipe_sub {σ : L2.St} {vs vs1 : List Nat} (h : ∀ i ∈ vs1, i ∈ vs) : wipe (wipe σ vs1) vs = wipe σ vs := wipe_same ⟨wipe_length σ vs1, fun i hi => wipe_other fun z => hi (h i z)⟩
theorem swipe_sub {s : DS} {vs vs1 : List Nat} (h : ∀ i ∈ vs1, i ∈ vs) : (s.wipe vs1).wipe vs = s.wipe vs := by
  have e : ((s.wipe vs1).wipe vs).sl = (s.wipe vs).sl := by
    apply List.ext_getElem?
    intro i
    by_cases hl : i < s.sl.length
    · by_cases hi : i ∈ vs
      · have a : ∀ t : DS, t.sl.length = s.sl.length → (t.wipe vs).sl[i]? = some .no := fun t ht => by
          have hl' : i < (t.wipe vs).sl.length := by rw [swipe_len, ht]; exact hl
          rcases swipe_get (List.getElem?_eq_getElem hl') with ⟨_, e⟩ | ⟨h', _⟩
          · rw [List.getElem?_eq_getElem hl', e]
          · exact absurd hi h'
        rw [a _ (swipe_len _ _), a _ rfl]
      · rw [swipe_other hi, swipe_other hi, swipe_other fun z => hi (h i z)]
    · rw [List.getElem?_eq_none (by rw [swipe_len, swipe_len]; omega), List.getElem?_eq_none (by rw [swipe_len]; omega)]
  show (⟨_, _⟩ : DS) = ⟨_, _⟩
  have e' : ((s.wipe vs1).wipe vs).sl = (s.wipe vs).sl := e
  unfold DS.wipe at e' ⊢
  simp only at e' ⊢
  rw [e']
variable {tg1 iter1 : Expr} {ifs1 : List Expr} {vs1 : List Nat} {it1 : DS → Oc (List D)} {tgD1 : D → DS → Oc Unit} {tt1 : DS → Oc Bool}
theorem lc_turns2 {C : Cf} {g : Gp} {F1 Fx : Hp} {σ : L2.St} {vs : List Nat} {J : It} {ds : List D} {Dd : Addr} {Z : Oc (List DL.D) → Prop} {Qd : Hp → Prop} {H0 : Hp} (hv : ∀ i ∈ vs1, i ∈ vs)
    (hJ : ItD C g F1 J ds) (hF : F1 Dd = none) (hzok : ∀ s acc accd F' H own, Z (.ok accd s) → RelS C g F1 (upd Fx Dd (.lst acc)) F' H own (wipe σ vs) (s.wipe vs) → RpL C g F' acc accd → Qd H) (hzx : ∀ x s, ¬ Z (.ex x s)) (hzw : ¬ Z .wr)
    {F0 : Hp} {own0 : Ow} {s0 : DS} {acc0 : List V} {accd0 : List DL.D} (R0 : RelS C g F1 (upd Fx Dd (.lst acc0)) F0 H0 own0 (wipe σ vs) (s0.wipe vs)) (r0 : RpL C g F0 acc0 accd0) (z0 : Z (lcRun2 vs vs1 tgD tt it1 tgD1 tt1 te ds s0 accd0)) :
    ∃ W : Nat → Nat → Hp → Prop, (∃ m, W 0 m H0) ∧ ∀ i m H, W i m H →
      (J.stop i H ∧ Qd H) ∨ (J.go i H ∧ ∃ Nx : Hp → Prop, (∀ H', Nx H' → ∃ m', m' < m ∧ W (i + 1) m' H') ∧ ∀ x H', J.yld i H x H' → tG C vs tgD x (wipe σ vs) H' fun σ2 H2 => wipe σ2 vs = wipe σ vs ∧ tD C E0 tt σ2 H2 fun b H3 =>
        if b = true then tI C E0 it1 σ2 H3 fun J1 H4 => ∃ W1 : Nat → Nat → Hp → Prop, (∃ m, W1 0 m H4) ∧ ∀ j k H, W1 j k H →
          (J1.stop j H ∧ Nx H) ∨ (J1.go j H ∧ ∃ Nx1 : Hp → Prop, (∀ H', Nx1 H' → ∃ k', k' < k ∧ W1 (j + 1) k' H') ∧ ∀ x H', J1.yld j H x H' → tG C vs1 tgD1 x (wipe σ2 vs1) H' fun σ3 H5 => wipe σ3 vs1 = wipe σ2 vs1 ∧ tD C E0 tt1 σ3 H5 fun b H6 =>
            if b = true then tF C E0 (fr te) σ3 H6 fun y H7 => ∃ acc, H7 Dd = some (.lst acc) ∧ acc.length < sizeLine ∧ Nx1 (upd H7 Dd (.lst (acc ++ [y]))) else Nx1 H6)
        else Nx H3) := by
  refine ⟨fun i m H => m = ds.length - i ∧ i ≤ ds.length ∧ ∃ F' own' s' acc accd, RelS C g F1 (upd Fx Dd (.lst acc)) F' H own' (wipe σ vs) (s'.wipe vs) ∧ RpL C g F' acc accd ∧ Z (lcRun2 vs vs1 tgD tt it1 tgD1 tt1 te (ds.drop i) s' accd),
    ⟨ds.length, by omega, Nat.zero_le _, F0, own0, s0, acc0, accd0, R0, r0, z0⟩, ?_⟩
  rintro i m H ⟨rfl, hi, F', own', s', acc, accd, R, r, z⟩
  obtain ⟨go, stop⟩ := hJ F' H R.ge R.le
  by_cases hlt : i < ds.length
  · right
    obtain ⟨hgo, hy⟩ := go i ds[i] (List.getElem?_eq_getElem hlt)
    rw [List.drop_eq_getElem_cons hlt] at z
    unfold lcRun2 at z
    refine ⟨hgo, fun H' => ∃ F' own' s' acc accd, RelS C g F1 (upd Fx Dd (.lst acc)) F' H' own' (wipe σ vs) (s'.wipe vs) ∧ RpL C g F' acc accd ∧ Z (lcRun2 vs vs1 tgD tt it1 tgD1 tt1 te (ds.drop (i + 1)) s' accd), fun H' h => ⟨ds.length - (i + 1), by omega, rfl, hlt, h⟩, fun x H' yx => ?_⟩
    obtain ⟨F2, R2, hx, le2⟩ : ∃ F2, RelS C g F1 (upd Fx Dd (.lst acc)) F2 H' own' (wipe σ vs) (s'.wipe vs) ∧ Rp C g F2 x ds[i] ∧ LeH F' F2 := by
      rcases hy x H' yx with ⟨e, hx⟩ | ⟨T, o, hT, e, hx⟩
      · subst e; exact ⟨F', R, hx, fun _ _ q => q⟩
      · subst e; exact ⟨upd F' T o, R.new hT, hx, upd_le (R.toRel.Fnone hT)⟩
    refine ⟨g, F1, _, F2, own', s'.wipe vs, ds[i], R2, hx, ?_⟩
    split at z
    · rename_i u s1 e1
      rw [e1]
      intro own3 σ3 R3 so3
      have w3 : wipe σ3 vs = wipe σ vs := (wipe_same so3).trans wipe_wipe
      refine ⟨w3, g, _, F2, own3, s1, R3.refl, ?_⟩
      split at z
      · rename_i s2 e2
        rw [e2]
        intro F4 H4 own4 R4
        dsimp only
        rw [if_pos rfl]
        refine ⟨g, _, F4, own4, s2, R4.refl, ?_⟩
        split at z
        · rename_i ds1 s3 e3
          rw [e3]
          intro F5 H5 own5 R5 J1 hJ1
          have le24 := R4.ge
          have le45 := R5.ge
          have R15 : RelS C g F1 (upd Fx Dd (.lst acc)) F5 H5 own5 σ3 s3 := (R3.trans R4 fun _ _ q => q).trans R5 fun _ _ q => q
          have nF5 : F5 Dd = none := R15.nw Dd hF (by rw [upd_same]; exact fun z => nomatch z)
          refine lc_turns (Z := fun o => Z (match o with
            | .ok acc' s4 => lcRun2 vs vs1 tgD tt it1 tgD1 tt1 te (List.drop (i + 1) ds) s4 acc'
            | _ => .wr)) (Fx := Fx) (F1 := F5) (σ := σ3) hJ1 nF5 (fun s4 acc4 accd4 F6 H6 own6 z4 R6 r6 => ?_) (fun x s h => hzw h) (fun h => hzw h) (R15.refl.wipe (vs := vs1)) (((r.mono le2).mono le24).mono le45) z
          have R7 := R6.wipe (vs := vs)
          rw [wipe_sub hv, swipe_sub hv, w3] at R7
          refine ⟨F6, own6, s4, acc4, accd4, { R7 with ge := fun a u q => R7.ge _ _ (R15.ge _ _ q), nw := fun a n x => ?_ }, r6, z4⟩
          by_cases e : a = Dd
          · subst e; exact R7.nw a nF5 x
          · refine R7.nw a (R15.nw a n ?_) x
            rw [upd_ne e] at x ⊢; exact x
        · exact absurd z hzw
      · rename_i s2 e2
        rw [e2]
        intro F4 H4 own4 R4
        dsimp only
        rw [if_neg Bool.false_ne_true]
        have R14 := (R3.trans R4 fun _ _ q => q).wipe (vs := vs)
        rw [w3] at R14
        exact ⟨F4, own4, s2, acc, accd, R14, (r.mono le2).mono R4.ge, z⟩
      · exact absurd z hzw
    · exact absurd z hzw
  · left
    have e : i = ds.length := by omega
    refine ⟨stop i (by omega), ?_⟩
    rw [List.drop_eq_nil_of_le (by omega)] at z
    unfold lcRun2 at z
    exact hzok s' acc accd F' H own' z R r
theorem eo_lc2 (hc : X.calm = true) (hN : X.N.Nodup) (hi : EI X E tg iter it) (ok : BlkOk X.N X.env.scope scope own) (hv : ∀ i ∈ vs1, i ∈ own.map (·.2))
    (hg : ∀ (s : Shared) (H : Hp) (C : Addr) (cl : List (Str × Addr)) (fp : List Addr), GT (X.blk s H scope (compEnvC scope cl C X.env) fp) (own.map (·.2)) tg tgD) (ht : ∀ (s : Shared) (H : Hp) (C : Addr) (cl : List (Str × Addr)) (fp : List Addr), PTd (X.blk s H scope (compEnvC scope cl C X.env) fp) ifs tt)
    (hi1 : ∀ (s : Shared) (H : Hp) (C : Addr) (cl : List (Str × Addr)) (fp : List Addr), EI (X.blk s H scope (compEnvC scope cl C X.env) fp) E0 tg1 iter1 it1)
    (hg1 : ∀ (s : Shared) (H : Hp) (C : Addr) (cl : List (Str × Addr)) (fp : List Addr), GT (X.blk s H scope (compEnvC scope cl C X.env) fp) vs1 tg1 tgD1) (ht1 : ∀ (s : Shared) (H : Hp) (C : Addr) (cl : List (Str × Addr)) (fp : List Addr), PTd (X.blk s H scope (compEnvC scope cl C X.env) fp) ifs1 tt1)
    (he : ∀ (s : Shared) (H : Hp) (C : Addr) (cl : List (Str × Addr)) (fp : List Addr), EO (X.blk s H scope (compEnvC scope cl C X.env) fp) E0 elt te) (hs : ∀ x, foldedSetIterable iter X.env x = pure x := by intro _; rfl) (hs1 : ∀ env x, foldedSetIterable iter1 env x = pure x := by intro _ _; rfl) :
    EO X E (.ListComp elt [⟨tg, iter, ifs, 0⟩, ⟨tg1, iter1, ifs1, 0⟩] scope pos) (vLc2 (own.map (·.2)) vs1 it tgD tt it1 tgD1 tt1 te) :=
  (pe_lc2 hc hN hi ok hv hg (fun s H C cl fp => (ht s H C cl fp).pts) hi1 hg1 (fun s H C cl fp => (ht1 s H C cl fp).pts) (fun s H C cl fp => (he s H C cl fp).fr) hs hs1).mono fun σ H Q ⟨g, Fx, F, own', s, R, p⟩ => by
    refine tI.bind R p fun ds F1 H1 own1' s1 J R1 le hJ p1 Dd hD => ?_
    have R1r := R1.refl
    have nF1 := R1.toRel.Fnone hD
    refine lc_turns2 hv (Z := fun o => Post ⟨X.K, X.mg⟩ E g F Fx σ (RO ⟨X.K, X.mg⟩ g Q) (match o with
      | .ok xs s2 => .ok (.ow xs) (s2.back s1 (own.map (·.2)))
      | _ => .wr)) (acc0 := []) (accd0 := []) (s0 := s1) (Fx := Fx) hJ nF1 (fun s2 acc accd F' H' own2 z R2 r2 => ?_) (fun x s h => h) (fun h => h) ((R1r.pin hD).wipe) .nil p1
    have R3 := RelS.unpin R1 hD R2
    exact z F' H' _ R3 _ ⟨Dd, acc, rfl, by show own1 own2 Dd Dd = _; unfold own1; rw [if_pos rfl], R2.fx _ _ upd_same, r2⟩
end
end DL
namespace DL
open PySem PySem.Spec L2
open PyProof.Rows hiding St
inductive Fl where
  | nx | rt (r : Sl) | bk | ct
def PostS (C : Cf) (E : XK) (g : Gp) (F0 Fx : Hp) (Dn : Ends) : Oc Fl → Prop
  | .ok .nx s' => ∀ F' H' own' σ', RelS C g F0 Fx F' H' own' σ' s' → Dn.nx σ' H'
  | .ok (.rt r) s' => ∀ v F' H' own' σ', RelS C g F0 Fx F' H' own' σ' s' → SlR C g F' H' (fun a => own' a = some .v) (some v) r → Dn.rt v H'
  | .ok .bk s' => ∀ F' H' own' σ', RelS C g F0 Fx F' H' own' σ' s' → Dn.bk σ' H'
  | .ok .ct s' => ∀ F' H' own' σ', RelS C g F0 Fx F' H' own' σ' s' → Dn.ct σ' H'
  | .ex x s' => ∀ F' H' own' σ', RelS C g F0 Fx F' H' own' σ' s' → exOk C E g F' H' x
  | .wr => False
def tS (C : Cf) (E : XK) (f : DS → Oc Fl) : TS := fun Dn σ H => ∃ g Fx F own s, RelS C g F Fx F H own σ s ∧ PostS C E g F Fx Dn (f s)
abbrev SS (X : Cx) (E : XK) (st : Stmt) (f : DS → Oc Fl) : Prop := PS X st (tS ⟨X.K, X.mg⟩ E f)
abbrev SB (X : Cx) (E : XK) (st : List Stmt) (f : DS → Oc Fl) : Prop := PSs X st (tS ⟨X.K, X.mg⟩ E f)
section
variable {C : Cf} {E : XK} {g : Gp} {F0 Fx F F' H H' : Hp} {own own' : Ow} {σ : L2.St} {s : DS} {α : Type} {Dn : Ends}
theorem PostS.since {o : Oc Fl} (h : PostS C E g F0 Fx Dn o) (R : RelS C g F0 Fx F H own σ s) : PostS C E g F Fx Dn o := by
  cases o with
  | ok a s' =>
    cases a with
    | nx => exact fun F' H' own' σ' r => h F' H' own' σ' (R.trans r fun _ _ q => q)
    | rt v => exact fun v F' H' own' σ' r => h v F' H' own' σ' (R.trans r fun _ _ q => q)
    | bk => exact fun F' H' own' σ' r => h F' H' own' σ' (R.trans r fun _ _ q => q)
    | ct => exact fun F' H' own' σ' r => h F' H' own' σ' (R.trans r fun _ _ q => q)
  | ex x s' => exact fun F' H' own' σ' r => h F' H' own' σ' (R.trans r fun _ _ q => q)
  | wr => exact h
theorem tS.again {f : DS → Oc Fl} (R : RelS C g F0 Fx F H own σ s) (p : PostS C E g F0 Fx Dn (f s)) : tS C E f Dn σ H := ⟨g, Fx, F, own, s, R.refl, p.since R⟩
theorem Post.bindS {o : Oc α} {k : α → DS → Oc Fl} (h0 : RelS C g F0 Fx F H own σ s) (h : PostS C E g F0 Fx Dn (o.bind k)) {R' : α → Hp → Hp → Ow → DS → Prop}
    (hk : ∀ a F1 H1 own1 s1, RelS C g F0 Fx F1 H1 own1 σ s1 → LeH F F1 → PostS C E g F0 Fx Dn (k a s1) → R' a F1 H1 own1 s1) : Post C E g F Fx σ R' o := by
  cases o with
  | ok a s1 => exact fun F1 H1 own1 r => hk a F1 H1 own1 s1 (h0.trans r fun _ _ q => q) r.ge h
  | ex x s1 => exact fun F1 H1 own1 r => h F1 H1 own1 σ (h0.trans r fun _ _ q => q)
  | wr => exact h
theorem tF.bindS {f : DS → Oc D} {k : D → DS → Oc Fl} {Q : VK} (h0 : RelS C g F0 Fx F H own σ s) (h : PostS C E g F0 Fx Dn ((f s).bind k))
    (hk : ∀ d F1 H1 own1 s1 v, RelS C g F0 Fx F1 H1 own1 σ s1 → LeH F F1 → Rp C g F1 v d → PostS C E g F0 Fx Dn (k d s1) → Q v H1) : tF C E f σ H Q :=
  ⟨g, Fx, F, own, s, h0.refl, Post.bindS h0 h fun d F1 H1 own1 s1 r le p v hv => hk d F1 H1 own1 s1 v r le hv p⟩
theorem tO.bindS {f : DS → Oc Sl} {k : Sl → DS → Oc Fl} {Q : VK} (h0 : RelS C g F0 Fx F H own σ s) (h : PostS C E g F0 Fx Dn ((f s).bind k))
    (hk : ∀ d F1 H1 own1 s1 v, RelS C g F0 Fx F1 H1 own1 σ s1 → LeH F F1 → SlR C g F1 H1 (fun a => own1 a = some .v) (some v) d → PostS C E g F0 Fx Dn (k d s1) → Q v H1) : tO C E f σ H Q :=
  ⟨g, Fx, F, own, s, h0.refl, Post.bindS h0 h fun d F1 H1 own1 s1 r le p v hv => hk d F1 H1 own1 s1 v r le hv p⟩
theorem tD.bindS {f : DS → Oc Bool} {k : Bool → DS → Oc Fl} {Q : Bool → Hp → Prop} (h0 : RelS C g F0 Fx F H own σ s) (h : PostS C E g F0 Fx Dn ((f s).bind k))
    (hk : ∀ b F1 H1 own1 s1, RelS C g F0 Fx F1 H1 own1 σ s1 → LeH F F1 → PostS C E g F0 Fx Dn (k b s1) → Q b H1) : tD C E f σ H Q :=
  ⟨g, Fx, F, own, s, h0.refl, Post.bindS h0 h fun d F1 H1 own1 s1 r le p => hk d F1 H1 own1 s1 r le p⟩
theorem tA.bindS {f : DS → Oc (List D)} {k : List D → DS → Oc Fl} {Q : List V → Hp → Prop} (h0 : RelS C g F0 Fx F H own σ s) (h : PostS C E g F0 Fx Dn ((f s).bind k))
    (hk : ∀ d F1 H1 own1 s1 v, RelS C g F0 Fx F1 H1 own1 σ s1 → LeH F F1 → RpL C g F1 v d → PostS C E g F0 Fx Dn (k d s1) → Q v H1) : tA C E f σ H Q :=
  ⟨g, Fx, F, own, s, h0.refl, Post.bindS h0 h fun d F1 H1 own1 s1 r le p v hv => hk d F1 H1 own1 s1 v r le hv p⟩
theorem tI.bindS {f : DS → Oc (List D)} {k : List D → DS → Oc Fl} {Q : It → Hp → Prop} (h0 : RelS C g F0 Fx F H own σ s) (h : PostS C E g F0 Fx Dn ((f s).bind k))
    (hk : ∀ d F1 H1 own1 s1 J, RelS C g F0 Fx F1 H1 own1 σ s1 → LeH F F1 → ItD C g F1 J d → PostS C E g F0 Fx Dn (k d s1) → Q J H1) : tI C E f σ H Q :=
  ⟨g, Fx, F, own, s, h0.refl, Post.bindS h0 h fun d F1 H1 own1 s1 r le p v hv => hk d F1 H1 own1 s1 v r le hv p⟩
end
def sNil : DS → Oc Fl := fun s => .ok .nx s
def sSeq (f h : DS → Oc Fl) : DS → Oc Fl := fun s => match f s with
  | .ok .nx s1 => h s1
  | o => o
def sNever : DS → Oc Fl := fun _ => .wr
def sSet (i : Nat) (f : DS → Oc Sl) : DS → Oc Fl := fun s => (f s).bind fun r s1 => .ok .nx (s1.put i r)
def sAsg (f : DS → Oc Sl) (φ : D → DS → Oc Unit) : DS → Oc Fl := fun s => (fr f s).bind fun d s1 => match φ d s1 with
  | .ok _ s2 => .ok .nx s2
  | _ => .wr
def sPar (i j : Nat) (fs : DS → Oc (List D)) : DS → Oc Fl := fun s => (fs s).bind fun ds s1 => match ds with
  | [d, e] => .ok .nx ((s1.put i (.fz d)).put j (.fz e))
  | _ => .wr
def sPar3 (i j l : Nat) (fs : DS → Oc (List D)) : DS → Oc Fl := fun s => (fs s).bind fun ds s1 => match ds with
  | [d, e, c] => .ok .nx (((s1.put i (.fz d)).put j (.fz e)).put l (.fz c))
  | _ => .wr
def sPar1 (i j : Nat) (f h : DS → Oc Sl) : DS → Oc Fl := fun s => (fr f s).bind fun d s1 => (h s1).bind fun r s2 => .ok .nx ((s2.put i (.fz d)).put j r)
def sExpr (f : DS → Oc Sl) : DS → Oc Fl := fun s => (f s).bind fun _ s1 => .ok .nx s1
def appD (i : Nat) : D → DS → Oc Sl := fun d s1 => match s1.sl[i]? with
  | some (.ow xs) => if xs.length < sizeLine then .ok (.fz .non) (s1.put i (.ow (xs ++ [d]))) else .wr
  | _ => .wr
def extD (i : Nat) : D → DS → Oc Sl := fun d s1 => match s1.sl[i]?, d with
  | some (.ow xs), .lst ys => if xs.length + ys.length ≤ sizeLine then .ok (.fz .non) (s1.put i (.ow (xs ++ ys))) else .wr
  | _, _ => .wr
def popAtD (i : Nat) : D → DS → Oc Sl := fun d s1 => match s1.sl[i]?, d with
  | some (.ow xs), .int k => if -(2 ^ 63) ≤ k ∧ k < 2 ^ 63 then match seqIndex? k xs.length with
    | some j => match xs[j]? with
      | some x => .ok (.fz x) (s1.put i (.ow (xs.eraseIdx j)))
      | none => .wr
    | none => .wr else .wr
  | _, _ => .wr
def meth1 (i : Nat) (φ : D → DS → Oc Sl) (f : DS → Oc Sl) : DS → Oc Sl := fun s => match s.sl[i]? with
  | some (.ow _) => (fr f s).bind φ
  | _ => .wr
def sRet (f : DS → Oc Sl) : DS → Oc Fl := fun s => (f s).bind fun r s1 => .ok (.rt r) s1
def sIf (t : DS → Oc Bool) (f h : DS → Oc Fl) : DS → Oc Fl := fun s => (t s).bind fun b s1 => if b = true then f s1 else h s1
def sBk : DS → Oc Fl := fun s => .ok .bk s
def forD (φ : D → DS → Oc Unit) (b : DS → Oc Fl) : List D → DS → Oc Fl
  | [], s => .ok .nx s
  | d :: r, s => match φ d s with
    | .ok _ s1 => match b s1 with
      | .ok .nx s2 => forD φ b r s2
      | .ok .ct s2 => forD φ b r s2
      | .ok .bk s2 => .ok .nx s2
      | o => o
    | _ => .wr
def sFor (it : DS → Oc (List D)) (φ : D → DS → Oc Unit) (b : DS → Oc Fl) : DS → Oc Fl := fun s => (it s).bind fun ds s1 => forD φ b ds s1
section
variable {X : Cx} {E : XK} {st : Stmt} {sts a b : List Stmt} {e tg iter : Expr} {es : List Expr} {f h : DS → Oc Sl} {fs : DS → Oc (List D)} {u v : DS → Oc Fl} {t : DS → Oc Bool} {φ : D → DS → Oc Unit} {it : DS → Oc (List D)} {vs : List Nat} {pos : Pos} {c : Expr}
theorem sb_nil : SB X E [] sNil := pss_nil.mono fun Dn σ H ⟨g, Fx, F, own, s, R, p⟩ => p F H own σ R
theorem sb_one (h1 : SS X E st u) : SB X E [st] u := pss_one h1
theorem sb_cons (h1 : SS X E st u) (h2 : SB X E sts v) : SB X E (st :: sts) (sSeq u v) := (pss_cons h1 h2).mono fun Dn σ H ⟨g, Fx, F, own, s, R, p⟩ => by
  refine ⟨g, Fx, F, own, s, R, ?_⟩
  unfold sSeq at p
  cases e : u s with
  | ok q s1 =>
    rw [e] at p
    cases q with
    | nx => exact fun F' H' own' σ' R' => tS.again R' p
    | rt r => exact p
    | bk => exact p
    | ct => exact p
  | ex x s1 => rw [e] at p; exact p
  | wr => rw [e] at p; exact p
theorem ss_never : SS X E st sNever := ps_never.mono fun Dn σ H ⟨g, Fx, F, own, s, R, p⟩ => p
theorem sb_never : SB X E sts sNever := pss_never.mono fun Dn σ H ⟨g, Fx, F, own, s, R, p⟩ => p
theorem ss_set {i : Nat} (hp : ∀ te, PE X e te → PS X st (tAsg te (gName i))) (he : EO X E e f) : SS X E st (sSet i f) := (hp _ he).mono fun Dn σ H ⟨g, Fx, F, own, s, R, p⟩ =>
  tO.bindS R p fun r F1 H1 own1 s1 v R1 le hv p1 => p1 F1 H1 _ _ (R1.setS hv)
theorem ss_setLc {i : Nat} {tgD : D → DS → Oc Unit} {tt : DS → Oc Bool} {te : DS → Oc Sl} (hp : PS X st (tAsg (tLc (tI ⟨X.K, X.mg⟩ E it) (tG ⟨X.K, X.mg⟩ vs tgD) (tD ⟨X.K, X.mg⟩ E0 tt) (tF ⟨X.K, X.mg⟩ E0 (fr te)) vs) (gName i))) : SS X E st (sSet i (vLc vs it tgD tt te)) := hp.mono fun Dn σ H ⟨g, Fx, F, own, s, R, p⟩ =>
  lc_imp (g0 := gName 0) (tO.bindS R p fun r F1 H1 own1 s1 v R1 le hv p1 => p1 F1 H1 _ _ (R1.setS hv))
theorem ss_setC {i : Nat} {y : Str} {py spos : Pos} {elt : Expr} {ifs : List Expr} {scope : Scope} {own : List (Str × Nat)} {tgD : D → DS → Oc Unit} {tt : DS → Oc Bool} {te : DS → Oc Sl} (hc : X.calm = true) (hN : X.N.Nodup) (hy : X.N[i]? = some y) (hyl : X.env.scope.names.lookup y = some .local) (hi : EI X E tg iter it) (ok : BlkOk X.N X.env.scope scope own)
    (hg : ∀ (s : Shared) (H : Hp) (C : Addr) (cl : List (Str × Addr)) (fp : List Addr), GT (X.blk s H scope (compEnvC scope cl C X.env) fp) (own.map (·.2)) tg tgD) (ht : ∀ (s : Shared) (H : Hp) (C : Addr) (cl : List (Str × Addr)) (fp : List Addr), PTd (X.blk s H scope (compEnvC scope cl C X.env) fp) ifs tt)
    (he : ∀ (s : Shared) (H : Hp) (C : Addr) (cl : List (Str × Addr)) (fp : List Addr), EO (X.blk s H scope (compEnvC scope cl C X.env) fp) E0 elt te)
    (hsw : swapsWith (.ListComp elt [⟨tg, iter, ifs, 0⟩] scope pos) (some (.Name y py)) spos.line X.env = pure true) (hs : ∀ x, foldedSetIterable iter X.env x = pure x := by intro _; rfl) :
    SS X E (.Assign [.Name y py] (.ListComp elt [⟨tg, iter, ifs, 0⟩] scope pos) spos) (sSet i (vLc (own.map (·.2)) it tgD tt te)) :=
  ss_setLc (ps_setLc hc hN hy hyl hsw hi ok hg (fun s H C cl fp => (ht s H C cl fp).pts) (fun s H C cl fp => (he s H C cl fp).fr) hs)
theorem ss_asg (hp : ∀ te g, PE X e te → PG X tg g → PS X st (tAsg te g)) (he : EO X E e f) (hg : GT X vs tg φ) : SS X E st (sAsg f φ) := (hp _ _ he.fr hg).mono fun Dn σ H ⟨g, Fx, F, own, s, R, p⟩ => by
  refine tF.bindS R p fun d F1 H1 own1 s1 v R1 le hv p1 => ?_
  refine ⟨g, F, Fx, F1, own1, s1, d, R1, hv, ?_⟩
  split at p1
  · rename_i u s2 e2
    rw [e2]
    exact fun own2 σ2 R2 _ => p1 F1 H1 own2 σ2 R2
  · exact p1.elim
theorem RelS.setFz {C : Cf} {g : Gp} {F0 Fx F H : Hp} {own : Ow} {σ : L2.St} {s : DS} {i : Nat} {v : V} {d : D} (R : RelS C g F0 Fx F H own σ s) (hv : Rp C g F v d) : ∃ own', RelS C g F0 Fx F H own' (σ.set i (some v)) (s.put i (.fz d)) := ⟨_, R.setS ⟨v, rfl, hv⟩⟩
theorem ss_par {i j : Nat} (hp : ∀ ta, PA X es ta → PS X st (tPar i j ta)) (he : EA X E es fs) : SS X E st (sPar i j fs) := (hp _ he).mono fun Dn σ H ⟨g, Fx, F, own, s, R, p⟩ => by
  refine tA.bindS R p fun ds F1 H1 own1 s1 vs R1 le hv p1 => ?_
  split at p1
  · cases hv with | cons a b =>
    cases b with | cons b c =>
    cases c
    obtain ⟨o2, R2⟩ := R1.setFz (i := i) a
    obtain ⟨o3, R3⟩ := R2.setFz (i := j) b
    exact ⟨_, _, rfl, p1 F1 H1 _ _ R3⟩
  · exact p1.elim
theorem RelS.set2 {C : Cf} {g : Gp} {F0 Fx F H : Hp} {own : Ow} {σ : L2.St} {s : DS} {i j : Nat} {v w : V} {d : D} {r : Sl} (hij : i ≠ j) (R : RelS C g F0 Fx F H own σ s) (hv : Rp C g F v d) (hw : SlR C g F H (fun a => own a = some .v) (some w) r) :
    ∃ own', RelS C g F0 Fx F H own' ((σ.set i (some v)).set j (some w)) ((s.put i (.fz d)).put j r) := by
  have R1 := R.setS (i := j) hw
  obtain ⟨o, R2⟩ := R1.setFz (i := i) hv
  refine ⟨o, ?_⟩
  have e1 : (σ.set j (some w)).set i (some v) = (σ.set i (some v)).set j (some w) := List.set_comm _ _ (Ne.symm hij)
  have e2 : (s.put j r).put i (.fz d) = (s.put i (.fz d)).put j r := by unfold DS.put; rw [List.set_comm _ _ (Ne.symm hij)]
  rw [e1, e2] at R2
  exact R2
theorem ss_par1 {i j : Nat} {e' : Expr} (hij : i ≠ j) (hp : ∀ ta, PA X [e, e'] ta → PS X st (tPar i j ta)) (he : EO X E e f) (he' : EO X E e' h) (hst : starEach [e, e'] X.env = (false, eval e X.env) :: starEach [e'] X.env := by rfl) (hst2 : starEach [e'] X.env = (false, eval e' X.env) :: starEach [] X.env := by rfl) : SS X E st (sPar1 i j f h) :=
  (hp _ (pa_cons he.fr (pa_cons he' pa_nil hst2) hst)).mono fun Dn σ H ⟨g, Fx, F, own, s, R, p⟩ => by
    refine tF.bindS R p fun d F1 H1 own1 s1 v R1 le hv p1 => ?_
    refine tO.bindS R1 p1 fun r F2 H2 own2 s2 w R2 le2 hw p2 => ?_
    obtain ⟨o, R3⟩ := R2.set2 hij (hv.mono le2) hw
    exact ⟨_, _, rfl, p2 F2 H2 _ _ R3⟩
theorem ss_expr (hp : ∀ te, PE X e te → PS X st (tDrop te)) (he : EO X E e f) : SS X E st (sExpr f) := (hp _ he).mono fun Dn σ H ⟨g, Fx, F, own, s, R, p⟩ =>
  tO.bindS R p fun r F1 H1 own1 s1 v R1 le hv p1 => p1 F1 H1 _ _ R1
theorem ss_ret (he : EO X E e f) : SS X E (.Return (some e) pos) (sRet f) := (ps_ret he).mono fun Dn σ H ⟨g, Fx, F, own, s, R, p⟩ =>
  tO.bindS R p fun r F1 H1 own1 s1 v R1 le hv p1 => p1 v F1 H1 _ _ R1 hv
theorem ss_if (hc : ET X E c t) (ha : SB X E a u) (hb : SB X E b v) : SS X E (.If c a b pos) (sIf t u v) := (ps_if hc ha hb).mono fun Dn σ H ⟨g, Fx, F, own, s, R, p⟩ => by
  refine tD.bindS R p fun d F1 H1 own1 s1 R1 le p1 => ?_
  cases d with
  | true => exact tS.again R1 p1
  | false => exact tS.again R1 p1
theorem RelS.chg {C : Cf} {g : Gp} {F0 Fx F H : Hp} {own : Ow} {σ : L2.St} {s : DS} {i : Nat} {p : Addr} {xs ys : List D} {us : List V} (R : RelS C g F0 Fx F H own σ s) (hi : s.sl[i]? = some (.ow xs)) (hσ : σ[i]? = some (some (.ref p))) (ho : own p = some (.s i)) (r : RpL C g F us ys) :
    RelS C g F0 Fx F (upd H p (.lst us)) own σ (s.put i (.ow ys)) := by
  obtain ⟨z1, z2, z3, z4⟩ := R.ow p _ ho
  refine { le := fun a o q => ?_, ge := R.ge, nw := R.nw, fx := fun a o q => ?_, ow := fun a l q => ?_, pen := ?_, penF := R.penF, penX := R.penX, cells := R.cells, tab := (R.tab.to (fun a ps q1 q2 q3 q4 => have e : a ≠ p := fun z => by rw [z, ho] at q4; cases q4
    ⟨by rw [upd_ne e]; exact q1, q2, q3, q4⟩) (fun _ _ q => q)), len := ?_, at_ := fun j r' ov h1 h2 => ?_ }
  · rw [upd_ne (fun z => by rw [z, z1] at q; cases q)]; exact R.le _ _ q
  · rw [upd_ne (fun z => by rw [z, z2] at q; cases q)]; exact R.fx _ _ q
  · obtain ⟨h1, h2, h3, h4⟩ := R.ow a l q
    refine ⟨h1, h2, h3, ?_⟩
    by_cases e : a = p
    · subst e; rw [upd_same]; exact fun z => nomatch z
    · rw [upd_ne e]; exact h4
  · rw [upd_ne (fun z => z3 z.symm)]; exact R.pen
  · show (s.sl.set i _).length = _; rw [List.length_set]; exact R.len
  · have h1 : (s.sl.set i (.ow ys))[j]? = some r' := h1
    by_cases e : i = j
    · subst e
      have hlt : i < s.sl.length := (List.getElem?_eq_some_iff.mp hi).1
      rw [List.getElem?_set_self hlt] at h1
      cases h1
      rw [hσ] at h2
      exact ⟨p, us, (Option.some.inj h2).symm, ho, upd_same, r⟩
    · rw [List.getElem?_set_ne e] at h1
      refine (R.at_ j r' ov h1 h2).mono (fun _ _ q => q) (fun a u q h => ?_) (fun _ q => q)
      rw [upd_ne (fun z => e (by rw [z, ho] at q; injection q with q; injection q with q))]
      exact h
def MtD (C : Cf) (E : XK) (i : Nat) (r : V → List V → Hp → VK → Prop) (φ : D → DS → Oc Sl) : Prop :=
  ∀ g F0 Fx F H own σ s p v d Q, RelS C g F0 Fx F H own σ s → σ[i]? = some (some (.ref p)) → Rp C g F v d → Post C E g F0 Fx σ (RO C g Q) (φ d s) → r (.ref p) [v] H Q
theorem eo_meth1 {i : Nat} {x m : Str} {p' ap : Pos} {r : V → List V → Hp → VK → Prop} {φ : D → DS → Oc Sl} (hp : ∀ to t, PE X (.Name x p') to → PA X [e] t → PE X (.Call (.Attribute (.Name x p') m ap) [e] [] pos) (tBM X.K "list" r to t)) (hx : PE X (.Name x p') (tVar i)) (hD : MtD ⟨X.K, X.mg⟩ E i r φ) (he : EO X E e f) (hst : starEach [e] X.env = (false, eval e X.env) :: starEach [] X.env := by rfl) :
    EO X E (.Call (.Attribute (.Name x p') m ap) [e] [] pos) (meth1 i φ f) := (hp _ _ hx (pa_cons he.fr pa_nil hst)).mono fun σ H Q ⟨g, Fx, F, own, s, R, p⟩ => by
    unfold meth1 at p
    split at p
    · rename_i xs0 hs0
      obtain ⟨q0, vs0, e0, o0, hp0, r0⟩ := R.ow_at hs0
      refine ⟨_, e0, .inl ⟨rfl, _, .inl (.inl hp0)⟩, tF.bind R p fun d F1 H1 own1 s1 v R1 le hv p1 => ?_⟩
      exact hD g F Fx F1 H1 own1 σ s1 q0 v d Q R1 e0 hv p1
    · exact p.elim
theorem mtD_app {C : Cf} {i : Nat} : MtD C E i rAppend (appD i) := by
  intro g F0 Fx F H own σ s q0 v d Q R e0 hv p1
  unfold appD at p1
  split at p1
  · rename_i xs hs
    obtain ⟨q, vs, e3, o3, hp3, r3⟩ := R.ow_at hs
    rw [e0] at e3
    cases e3
    obtain ⟨hl, p1⟩ := p1.ite
    exact ⟨q0, vs, v, rfl, rfl, hp3, by rw [r3.length]; exact hl, p1 _ _ _ (R.chg hs e0 o3 (r3.append (.cons hv .nil))) _ ⟨_, rfl, .non⟩⟩
  · exact p1.elim
theorem mtD_popAt {C : Cf} {i : Nat} : MtD C E i rPopAt (popAtD i) := by
  intro g F0 Fx F H own σ s q0 v d Q R e0 hv p1
  unfold popAtD at p1
  split at p1
  · rename_i xs k hs
    obtain ⟨q, vs, e3, o3, hp3, r3⟩ := R.ow_at hs
    rw [e0] at e3
    cases e3
    cases hv
    obtain ⟨hl, p1⟩ := p1.ite
    split at p1
    · rename_i j hj
      split at p1
      · rename_i x hx
        obtain ⟨w, hw, rw'⟩ := r3.get hx
        exact ⟨q0, vs, k, j, w, rfl, rfl, hp3, hl.1, hl.2, by rw [r3.length]; exact hj, hw, p1 _ _ _ (R.chg hs e0 o3 (r3.eraseIdx j)) _ ⟨_, rfl, rw'⟩⟩
      · exact p1.elim
    · exact p1.elim
  · exact p1.elim
theorem ss_for {n : Nat} (hp : PassesOwn (model X.prog X.w) X.A X.env X.xe) (hc : X.calm = true) (hi : EI X E tg iter it) (hg : GT X vs tg φ) (hb : SB X E a u) (hs : ∀ x, foldedSetIterable iter X.env x = pure x := by intro _; rfl) : SS X E (.For tg iter a [] pos) (sFor it φ u) :=
  (ps_for hp hc hi hg hb hs).mono fun Dn σ H ⟨g, Fx, F, own, s, R, p⟩ => by
    refine tI.bindS R p fun ds F1 H1 own1 s1 J R1 le hJ p1 => ?_
    refine ⟨fun i m σ H => m = ds.length - i ∧ i ≤ ds.length ∧ ∃ F' own' s', RelS ⟨X.K, X.mg⟩ g F Fx F' H own' σ s' ∧ LeH F1 F' ∧ PostS ⟨X.K, X.mg⟩ E g F Fx Dn (forD φ u (ds.drop i) s'), ⟨ds.length, by omega, Nat.zero_le _, F1, own1, s1, R1, fun _ _ q => q, p1⟩, ?_⟩
    rintro i m σ' H' ⟨rfl, hi, F', own', s', R', le', z⟩
    obtain ⟨go, stop⟩ := hJ F' H' le' R'.le
    by_cases hlt : i < ds.length
    · right
      obtain ⟨hgo, hy⟩ := go i ds[i] (List.getElem?_eq_getElem hlt)
      rw [List.drop_eq_getElem_cons hlt] at z
      unfold forD at z
      refine ⟨hgo, fun σ H => ∃ F' own' s', RelS ⟨X.K, X.mg⟩ g F Fx F' H own' σ s' ∧ LeH F1 F' ∧ PostS ⟨X.K, X.mg⟩ E g F Fx Dn (forD φ u (ds.drop (i + 1)) s'), fun σ' H' h => ⟨ds.length - (i + 1), by omega, rfl, hlt, h⟩, fun x H2 yx => ?_⟩
      obtain ⟨F2, R2, hx, le2⟩ : ∃ F2, RelS ⟨X.K, X.mg⟩ g F Fx F2 H2 own' σ' s' ∧ Rp ⟨X.K, X.mg⟩ g F2 x ds[i] ∧ LeH F' F2 := by
        rcases hy x H2 yx with ⟨e, hx⟩ | ⟨T, o, hT, e, hx⟩
        · subst e; exact ⟨F', R', hx, fun _ _ q => q⟩
        · subst e; exact ⟨upd F' T o, R'.new hT, hx, upd_le (R'.toRel.Fnone hT)⟩
      have le12 : LeH F1 F2 := fun a o q => le2 _ _ (le' _ _ q)
      refine ⟨g, F, Fx, F2, own', s', ds[i], R2, hx, ?_⟩
      split at z
      · rename_i q0 s3 e3
        rw [e3]
        intro own3 σ3 R3 so3
        refine ⟨g, Fx, F2, own3, s3, R3.refl, ?_⟩
        have nxt : ∀ s4, PostS ⟨X.K, X.mg⟩ E g F Fx Dn (forD φ u (ds.drop (i + 1)) s4) → ∀ F4 H4 own4 σ4, RelS ⟨X.K, X.mg⟩ g F2 Fx F4 H4 own4 σ4 s4 → ∃ F' own' s', RelS ⟨X.K, X.mg⟩ g F Fx F' H4 own' σ4 s' ∧ LeH F1 F' ∧ PostS ⟨X.K, X.mg⟩ E g F Fx Dn (forD φ u (ds.drop (i + 1)) s') :=
          fun s4 z4 F4 H4 own4 σ4 R4 => ⟨F4, own4, s4, R3.trans R4 fun _ _ q => q, fun a o q => R4.ge _ _ (le12 _ _ q), z4⟩
        split at z
        · rename_i s4 e4
          rw [e4]
          exact nxt s4 z
        · rename_i s4 e4
          rw [e4]
          exact nxt s4 z
        · rename_i s4 e4
          rw [e4]
          exact fun F4 H4 own4 σ4 R4 => z F4 H4 own4 σ4 (R3.trans R4 fun _ _ q => q)
        · rename_i o n1 n2 n3
          have z := z.since R3
          cases e5 : u s3 with
          | ok q s4 =>
            cases q with
            | nx => exact absurd e5 (n1 s4)
            | rt r => rw [e5] at z; exact z
            | bk => exact absurd e5 (n3 s4)
            | ct => exact absurd e5 (n2 s4)
          | ex x s4 => rw [e5] at z; exact z
          | wr => rw [e5] at z; exact z
      · exact z.elim
    · left
      refine ⟨stop i (by omega), ?_⟩
      rw [List.drop_eq_nil_of_le (by omega)] at z
      unfold forD at z
      exact z F' H' own' σ' R'
end
end DL
namespace DL
open PySem PySem.Spec L2
open PyProof.Rows hiding St
inductive Rs where
  | ok (r : Sl) (w : Wd) | ex (x : Exn) (w : Wd) | wr
abbrev MF := List D → Wd → Rs
def PostR (C : Cf) (E : XK) (g : Gp) (F Fx : Hp) (Q : VK) : Rs → Prop
  | .ok r w' => ∀ v F' H' own', Rel C g F Fx F' H' own' w' → SlR C g F' H' (fun a => own' a = some .v) (some v) r → Q v H'
  | .ex x w' => ∀ F' H' own', Rel C g F Fx F' H' own' w' → exOk C E g F' H' x
  | .wr => False
def spD (C : Cf) (n : Nat) (m : MF) : Sp := fun vs H Q E => vs.length = n ∧ ∃ g Fx F ds w, Rel C g F Fx F H (fun _ => none) w ∧ RpL C g F vs ds ∧ PostR C E g F Fx Q (m ds w)
def runD (n N : Nat) (b : DS → Oc Fl) : MF := fun ds w => if ds.length = n then match b ⟨ds.map Sl.fz ++ List.replicate (N - ds.length) .no, w⟩ with
  | .ok .nx s => .ok (.fz .non) s.w
  | .ok (.rt r) s => .ok r s.w
  | .ok _ _ => .wr
  | .ex x s => .ex x s.w
  | .wr => .wr
  else .wr
theorem runD_n {n N : Nat} {b : DS → Oc Fl} : ∀ ds w, ds.length ≠ n → runD n N b ds w = .wr := fun ds w h => by unfold runD; rw [if_neg h]
section
variable {C : Cf} {E : XK} {g : Gp} {F0 Fx F F' H H' : Hp} {own own' : Ow} {σ : L2.St} {s : DS} {w w' : Wd}
theorem RelS.start (R : Rel C g F Fx F H (fun _ => none) w) {vs : List V} {ds : List D} (r : RpL C g F vs ds) (N : List Str) : RelS C g F Fx F H (fun _ => none) (L2.start N vs) ⟨ds.map Sl.fz ++ List.replicate (N.length - ds.length) .no, w⟩ := by
  refine { R with len := ?_, at_ := fun i q ov h1 h2 => ?_ }
  · unfold L2.start
    show (ds.map Sl.fz ++ List.replicate (N.length - ds.length) Sl.no).length = _
    rw [List.length_append, List.length_append, List.length_map, List.length_map, List.length_replicate, List.length_replicate, r.length]
  · have h1 : (ds.map Sl.fz ++ List.replicate (N.length - ds.length) Sl.no)[i]? = some q := h1
    unfold L2.start at h2
    by_cases hi : i < ds.length
    · rw [List.getElem?_append_left (by rw [List.length_map]; exact hi), List.getElem?_map, List.getElem?_eq_getElem hi] at h1
      cases h1
      obtain ⟨v, hv, rv⟩ := r.get (List.getElem?_eq_getElem hi)
      rw [List.getElem?_append_left (by rw [List.length_map, r.length]; exact hi), List.getElem?_map, hv] at h2
      cases h2
      exact ⟨v, rfl, rv⟩
    · rw [List.getElem?_append_right (by rw [List.length_map]; omega), List.getElem?_replicate] at h1
      split at h1
      · cases h1; trivial
      · cases h1
def fixO (Fx H : Hp) (own : Ow) : Hp := fun a => if (own a).isSome then H a else Fx a
theorem Rel.callee (R : Rel C g F0 Fx F H own w) : Rel C g F (fixO Fx H own) F H (fun _ => none) w := by
  refine ⟨R.le, fun _ _ q => q, fun a n _ => n, fun a o q => ?_, fun a l q => (nomatch q), R.pen, R.penF, ?_, R.cells, (R.tab.to (fun a ps q1 q2 q3 q4 => ⟨q1, q2, by unfold fixO; rw [q4]; exact q3, rfl⟩) (fun _ _ q => q))⟩
  · unfold fixO at q; split at q
    · exact q
    · exact R.fx _ _ q
  · unfold fixO; split
    · rename_i h
      obtain ⟨l, hl⟩ := Option.isSome_iff_exists.mp h
      exact absurd rfl (R.ow _ _ hl).2.2.1
    · exact R.penX
def mergeO (own own' : Ow) : Ow := fun a => if own' a = some .v then some .v else if own a = some .v then none else own a
theorem Rel.back (R : Rel C g F0 Fx F H own w) (R' : Rel C g F (fixO Fx H own) F' H' own' w') : Rel C g F0 Fx F' H' (mergeO own own') w' := by
  have fxl : ∀ a o, Fx a = some o → fixO Fx H own a = some o := fun a o q => by
    unfold fixO; split
    · exact R.fx _ _ q
    · exact q
  have ownF : ∀ a l, own a = some l → fixO Fx H own a = H a := fun a l q => by unfold fixO; rw [if_pos (by rw [q]; rfl)]
  refine ⟨R'.le, fun a o q => R'.ge _ _ (R.ge _ _ q), fun a n x => R'.nw a (R.nw a n x) ?_, fun a o q => R'.fx _ _ (fxl _ _ q), fun a l q => ?_, R'.pen, R'.penF, R.penX, R'.cells, (R'.tab.to (fun a ps q1 q2 q3 q4 => by
    have o : own a = none := by
      cases z : own a with
      | none => rfl
      | some l => rw [ownF a l z] at q3; exact absurd q3 (R.ow a l z).2.2.2
    have x : Fx a = none := by
      cases z : Fx a with
      | none => rfl
      | some u => rw [fxl _ _ z] at q3; cases q3
    exact ⟨q1, q2, x, by unfold mergeO; rw [q4, o]; rfl⟩) (fun _ _ q => q))⟩
  · cases q : Fx a with
    | none => exact absurd q x
    | some o => rw [fxl _ _ q]; exact fun z => nomatch z
  · unfold mergeO at q
    by_cases e : own' a = some .v
    · obtain ⟨h1, h2, h3, h4⟩ := R'.ow a _ e
      refine ⟨h1, ?_, h3, h4⟩
      cases z : Fx a with
      | none => rfl
      | some o => rw [fxl _ _ z] at h2; cases h2
    · rw [if_neg e] at q
      by_cases e2 : own a = some .v
      · rw [if_pos e2] at q; cases q
      · rw [if_neg e2] at q
        obtain ⟨h1, h2, h3, h4⟩ := R.ow a l q
        have z : fixO Fx H own a = H a := ownF a l q
        refine ⟨R'.nw a h1 (by rw [z]; exact h4), h2, h3, ?_⟩
        cases e3 : H a with
        | none => exact absurd e3 h4
        | some o => rw [R'.fx a o (by rw [z, e3])]; exact fun z => nomatch z
theorem RelS.back (R : RelS C g F0 Fx F H own σ s) (R' : Rel C g F (fixO Fx H own) F' H' own' w') : RelS C g F0 Fx F' H' (mergeO own own') σ ⟨s.sl, w'⟩ :=
  { R.toRel.back R' with
    len := R.len
    at_ := fun i r ov h1 h2 => by
      have q := R.at_ i r ov h1 h2
      have kp : ∀ a l, own a = some l → ∀ o, H a = some o → H' a = some o := fun a l ha o ho => R'.fx a o (by unfold fixO; rw [if_pos (by rw [ha]; rfl)]; exact ho)
      refine q.mono R'.ge (fun a o ha ho => kp a _ ha o ho) (fun a ha => ?_)
      show mergeO own own' a = _
      unfold mergeO
      have z := R.ow a _ ha
      have n : own' a ≠ some .v := fun e => by
        have z2 := (R'.ow a _ e).2.1
        unfold fixO at z2
        rw [if_pos (by rw [ha]; rfl)] at z2
        exact z.2.2.2 z2
      rw [if_neg n, if_neg (by rw [ha]; exact fun z => nomatch z)]
      exact ha }
end
def callD (m : MF) (dd : List D) (fs : DS → Oc (List D)) : DS → Oc Sl := fun s => (fs s).bind fun ds s1 => match m (ds ++ dd) s1.w with
  | .ok r w' => .ok r ⟨s1.sl, w'⟩
  | .ex x w' => .ex x ⟨s1.sl, w'⟩
  | .wr => .wr
section
variable {P : Program} {w : World} {K : PySem.W.Frag} {mg : Str → Option Value} {base : Heap}
theorem passD {N : List Str} {qual : Str} {sc : Scope} {f : Addr} {cdv : Value} {A : Around} {outer : List Env} {s : Shared} {H : Hp} {E : XK} : Passes (L2.CX P w) (cxOf (L2.CX P w) P w K mg base N qual sc f cdv A outer s H E) E :=
  passes_call (takes_of rfl rfl rfl rfl) fun _ _ _ _ h => h
theorem passB {X : Cx} : Passes (L2.CX X.prog X.w) X E0 := passL
end
section
variable {X : Cx} {E : XK} {k : Nat} {f : Addr} {fd : FuncData} {ps : List Str} {n : Nat} {m : MF} {x : Str} {e o : Expr} {es : List Expr} {fs : DS → Oc (List D)} {p pos apos : Pos} {dvs : List V} {dus : List Value} {dd : List D}
theorem spD_imp {C : Cf} {σ : L2.St} {H : Hp} {Q : VK} (hdd : ∀ g F, RpL C g F dvs dd) (hn : ∀ ds w, ds.length ≠ n → m ds w = .wr) (q : tO C E (callD m dd fs) σ H Q) : tCall (spD C n m) dvs E (tA C E fs) σ H Q := by
  obtain ⟨g, Fx, F, own, s, R, p⟩ := q
  refine tA.bind R p fun ds F1 H1 own1 s1 vs R1 le hv p1 => ?_
  have hr := hv.append (hdd g F1)
  refine ⟨?_, g, _, F1, ds ++ dd, s1.w, R1.toRel.callee, hr, ?_⟩
  · rw [hr.length]
    by_cases h : (ds ++ dd).length = n
    · exact h
    · rw [hn _ _ h] at p1; exact p1.elim
  · cases e1 : m (ds ++ dd) s1.w with
    | ok r w' =>
      rw [e1] at p1
      refine fun v F' H' own' R' hv' => p1 F' H' _ (R1.back R') v (hv'.mono (fun _ _ q => q) (fun _ _ _ q => q) (fun a ha => ?_))
      show mergeO own1 own' a = _
      unfold mergeO
      rw [if_pos ha]
    | ex q w' =>
      rw [e1] at p1
      exact fun F' H' own' R' => p1 F' H' _ (R1.back R')
    | wr => rw [e1] at p1; exact p1
theorem eo_call (G : FnOk X.prog X.w X.K X.mg X.base (L2.CX X.prog X.w) k f fd ps (spD ⟨X.K, X.mg⟩ n m)) (hr : Room k X.A) (hm : X.mg x = some (.ref f)) (hk : PySem.W.keepIn X.K (.ref f) = true) (hb : Binds X.K fd ps dus) (hd : Vals dvs dus) (hx : Passes (L2.CX X.prog X.w) X E) (hdd : ∀ g F, RpL ⟨X.K, X.mg⟩ g F dvs dd) (hn : ∀ ds w, ds.length ≠ n → m ds w = .wr)
    (ha : EA X E (e :: es) fs) (hg : Gl X x := by rfl) (hdb : (x == ("__debug__" : Str)) = false := by decide) (he : starEach (e :: es) X.env = (false, eval e X.env) :: starEach es X.env := by rfl) (hpl : (backTo pos (starEach es X.env)).any (·.1) = false := by rfl) :
    EO X E (.Call (.Name x p) (e :: es) [] pos) (callD m dd fs) := (pe_call G hr hg hm hk hb hd hx ha hdb he hpl).mono fun σ H Q q => spD_imp hdd hn q
end
end DL
namespace DL
open PySem PySem.Spec L2
open PyProof.Rows hiding St
def D.tyn : D → Option String
  | .non => some "NoneType"
  | .bl _ => some "bool"
  | .int _ => some "int"
  | .str _ => some "str"
  | .lst _ => some "list"
  | .tup _ => some "tuple"
  | .sd _ _ => some "dict"
  | .dn _ => some "dict"
  | _ => none
def tyns : List String := ["NoneType", "bool", "int", "str", "list", "tuple", "dict"]
def isB (t n : String) : Bool := t == n || (t == "bool" && n == "int")
theorem kit_tab : (tyns.all fun t => tyns.all fun n => kitB t n == some (isB t n)) = true := by decide +kernel
theorem kit_one {K : PySem.W.Frag} {t n : String} (ht : t ∈ tyns) (hn : n ∈ tyns) : PySem.W.kitOne K (.type t) (.type n) = some (isB t n) := by
  have h := List.all_eq_true.mp kit_tab t ht
  have h2 := List.all_eq_true.mp h n hn
  exact kit_ty (eq_of_beq h2)
theorem D.tyn_in {d : D} {t : String} (h : d.tyn = some t) : t ∈ tyns := by
  cases d <;> simp only [D.tyn, Option.some.injEq, reduceCtorEq] at h <;> subst h <;> decide
def D.tys? : List D → Option (List String)
  | [] => some []
  | .ty n :: r => (D.tys? r).map (n :: ·)
  | _ :: _ => none
def opIsi : D → D → DS → Oc Sl
  | d, .ty n, s => match d.tyn with
    | some t => if tyns.contains n then .ok (.fz (.bl (isB t n))) s else .wr
    | none => .wr
  | d, .tup ts, s => match d.tyn, D.tys? ts with
    | some t, some ns => if ns.all tyns.contains then .ok (.fz (.bl (ns.any (isB t)))) s else .wr
    | _, _ => .wr
  | _, _, _ => .wr
section
variable {C : Cf} {E : XK} {X : Cx} {g : Gp} {F H : Hp} {a b c d e : Expr} {f h k l : DS → Oc Sl} {pos p : Pos}
theorem Rp.tyx {v : V} {d : D} {t : String} (r : Rp C g F v d) (le : LeH F H) (ht : d.tyn = some t) : TyX C.K H v (.type t) := by
  cases r with
  | non => cases ht; exact .base .non
  | bl b => cases ht; exact .base (.bl b)
  | int i => cases ht; exact .base (.int i)
  | str x => cases ht; exact .base (.str x)
  | lst h1 _ => cases ht; exact .base (.lst (le _ _ h1))
  | tup h1 _ =>
    cases ht
    exact .base (.tup (le _ _ h1))
  | fn _ => cases ht
  | ty _ => cases ht
  | obj _ _ _ _ => cases ht
  | pen => cases ht
  | any _ => cases ht
  | dct _ => cases ht
  | sd h1 _ _ => cases ht; exact .base (.dK (le _ _ h1))
  | tupX h1 _ _ _ => cases ht
  | dn h1 => cases ht; exact .base (.dK (le _ _ h1))
theorem D.tys_of : ∀ {ds : List D} {ns : List String}, D.tys? ds = some ns → ds = ns.map D.ty
  | [], ns, h => by cases h; rfl
  | .ty i :: r, ns, h => by
    simp only [D.tys?] at h
    cases e : D.tys? r with
    | none => rw [e] at h; cases h
    | some m => rw [e] at h; cases h; rw [List.map_cons, ← D.tys_of e]
  | .non :: r, ns, h => by cases h
  | .bl _ :: r, ns, h => by cases h
  | .int _ :: r, ns, h => by cases h
  | .str _ :: r, ns, h => by cases h
  | .lst _ :: r, ns, h => by cases h
  | .tup _ :: r, ns, h => by cases h
  | .fn _ :: r, ns, h => by cases h
  | .obj _ _ _ :: r, ns, h => by cases h
  | .pen :: r, ns, h => by cases h
  | .any :: r, ns, h => by cases h
  | .dct _ :: r, ns, h => by cases h
  | .sd _ _ :: r, ns, h => by cases h
  | .tupX _ :: r, ns, h => by cases h
  | .dn _ :: r, ns, h => by cases h
theorem RpL.tys : ∀ {vs : List V} {ns : List String}, RpL C g F vs (ns.map D.ty) → vs = ns.map V.ty
  | [], [], _ => rfl
  | v :: vs, n :: ns, h => by
    cases h with
    | cons a b => cases a; rw [List.map_cons, RpL.tys b]
  | [], n :: ns, h => nomatch h
  | v :: vs, [], h => nomatch h
theorem clsV_tys : ∀ ns : List String, Paired ClsV (ns.map V.ty) (ns.map Value.type)
  | [] => .nil
  | n :: ns => .cons (.ty n) (clsV_tys ns)
theorem kit_any {K : PySem.W.Frag} {t : String} (ht : t ∈ tyns) : ∀ {ns : List String}, ns.all tyns.contains = true → PySem.W.kitAny K (.type t) (ns.map Value.type) = some (ns.any (isB t))
  | [], _ => rfl
  | n :: ns, h => by
    simp only [List.all_cons, Bool.and_eq_true] at h
    have h1 := kit_one (K := K) ht (List.contains_iff_mem.mp h.1)
    have ih := kit_any (K := K) ht h.2
    rw [List.map_cons, List.any_cons]
    refine kitAny_cons h1 (fun e => ?_) (fun e => ?_)
    · rw [e, Bool.false_or]; exact ih
    · rw [e, Bool.true_or]
def rIsiA (K : PySem.W.Frag) : List V → Hp → VK → Prop := fun xs H Q => rIsi K xs H Q ∨ rIsiT K xs H Q
theorem call_isiA : CallR X (.builtin "isinstance") (rIsiA X.K) := CallR.or call_isi call_isiT
theorem opD_isi : OpD C E (fun x y H Q => rIsiA C.K [x, y] H Q) opIsi := by
  intro g F0 Fx F H own σ s x y d e Q R hx hy p
  unfold opIsi at p
  split at p
  · split at p
    · rename_i t ht
      obtain ⟨c, p⟩ := p.ite
      cases hy
      exact .inl ⟨x, _, _, _, _, rfl, .ty _, hx.tyx R.le ht, kit_one (D.tyn_in ht) (List.contains_iff_mem.mp c), p.ok R _ ⟨_, rfl, .bl _⟩⟩
    · exact p.elim
  · split at p
    · rename_i t ns ht hns
      obtain ⟨c, p⟩ := p.ite
      have e1 := D.tys_of hns
      subst e1
      cases hy with | tup h1 r =>
      have e2 := r.tys
      subst e2
      exact .inr ⟨x, _, _, _, _, _, rfl, R.le _ _ h1, clsV_tys _, hx.tyx R.le ht, kit_any (D.tyn_in ht) c, p.ok R _ ⟨_, rfl, .bl _⟩⟩
    · exact p.elim
  · exact p.elim
end
end DL
namespace DL
open PySem PySem.Spec L2
open PyProof.Rows hiding St
structure BigS (P : Program) (w : World) (h : Heap) (a : Addr) (L : List (Addr × List Int)) (es : Array (Int × Value)) (ep : Nat) (t : SetTable) : Prop where
  is : ∃ o, h.get? a = some o ∧ o.ExactSet ∧ o.data = .set es ep t
  rows : es.toList = rowsOf P w L
  tab : TabOk t (L.map fun p => thash P w p.2)
  once : (L.map (·.2)).Nodup
  each : ∀ p ∈ L, IsT P w h p.2 p.1
  plain : t.plain = true
  led : w.params.followText "set-order" = true ∨ t.led = true
  mask : t.mask = 127
  few : L.length ≤ 75
abbrev prb (t : SetTable) (hsh : Int) (c : Nat) : SetTable.Probe := nth t.mask (runAt t.mask (SetTable.bits hsh % (t.mask + 1)) (SetTable.bits hsh)) c
theorem nth_plain (m : Nat) : ∀ (c : Nat) (p : SetTable.Probe), p.dummy = none → (nth m p c).dummy = none
  | 0, _, z => z
  | c + 1, p, z => nth_plain m c (adv m p) (by unfold adv; split <;> exact z)
theorem prb_add (t : SetTable) (hsh : Int) (c q : Nat) : nth t.mask (prb t hsh c) q = prb t hsh (c + q) := (nth_add t.mask c _ q).symm
section
variable {P : Program} {w : World} {A : Around} {E : Value → Shared → Prop} {s : Shared} {a x : Addr} {L : List (Addr × List Int)} {es : Array (Int × Value)} {ep : Nat} {t : SetTable} {k : List Int}
theorem BigS.size (R : BigS P w s.heap a L es ep t) : es.size = L.length := by
  have z := congrArg List.length R.rows
  simpa [rowsOf] using z
theorem BigS.places (R : BigS P w s.heap a L es ep t) : t.place.toList.length = L.length := by
  have z := R.tab.sz
  rw [List.length_map] at z
  rw [Array.length_toList]; exact z
theorem BigS.fits (R : BigS P w s.heap a L es ep t) : t.fits es.size = true := by
  have z1 := R.places
  rw [Array.length_toList] at z1
  have z2 := R.size
  have z3 := R.few
  have z4 := R.mask
  simp only [SetTable.fits, SetTable.fill, R.tab.dm, Bool.and_eq_true, beq_iff_eq, decide_eq_true_eq]
  show t.place.size = es.size ∧ t.place.size + 0 ≤ t.mask
  exact ⟨by omega, by omega⟩
theorem BigS.row (R : BigS P w s.heap a L es ep t) {i : Nat} {p : Addr × List Int} (z : L[i]? = some p) : es[i]? = some (thash P w p.2, Value.ref p.1) := by
  have e : es.toList[i]? = some (thash P w p.2, Value.ref p.1) := by
    rw [R.rows]
    show (L.map _)[i]? = _
    rw [List.getElem?_map, z]; rfl
  rwa [Array.getElem?_toList] at e
theorem BigS.hash (R : BigS P w s.heap a L es ep t) {i : Nat} {p : Addr × List Int} (z : L[i]? = some p) : (fun i => (es[i]?.map (·.1)).getD 0) i = thash P w p.2 := by
  show (es[i]?.map (·.1)).getD 0 = _
  rw [R.row z]; rfl
theorem BigS.kept (R : BigS P w s.heap a L es ep t) : ¬ t.gaveWay = true := by
  unfold SetTable.gaveWay
  rw [R.mask]
  decide
theorem BigS.seek (R : BigS P w s.heap a L es ep t) (hx : IsT P w s.heap k x) (room : A.units < cLine) {K : Nat} (near : K < 10 * SetTable.turns t.mask) (empty : way t.mask (thash P w k) K ∉ t.place.toList)
    (taken : ∀ c, c < K → way t.mask (thash P w k) c ∈ t.place.toList) {Q : SetFound → Shared → Prop} (yes : k ∈ L.map (·.2) → Q (.there none) s) (no : k ∉ L.map (·.2) → Q (.free (way t.mask (thash P w k) K) false) s) :
    ∀ (n c f : Nat) (stand : Option SetTable.Probe), K - c ≤ n → c ≤ K → n < f → stand.getD (t.probeStart (thash P w k)) = prb t (thash P w k) c →
      (∀ (i : Nat) (p : Addr × List Int), L[i]? = some p → p.2 = k → ∃ c', (c ≤ c' ∧ c' < K) ∧ t.place.toList[i]? = some (way t.mask (thash P w k) c')) →
      wpAny (model P w) A (setSearchFrom a (.ref x) (thash P w k) true f stand) Q E s := by
  intro n
  induction n with
  | zero =>
    intro c f stand hn hc hf hst ahead
    have ec : c = K := by omega
    subst ec
    obtain ⟨f, rfl⟩ : ∃ f', f = f' + 1 := ⟨f - 1, by omega⟩
    obtain ⟨o, ho, _, hd⟩ := R.is
    rw [setSearchFrom_succ]
    refine wpAny_bind (wpAny_setState_of ho hd R.fits ?_)
    dsimp only
    refine wp_if_neg R.kept ?_
    rcases go_spec t R.tab.ris R.tab.dm (fun i => (es[i]?.map (·.1)).getD 0) (thash P w k) (10 * SetTable.turns t.mask) 0 (prb t (thash P w k) c) (nth_plain _ _ _ rfl) (by omega) (fun q hq => absurd hq (Nat.not_lt_zero _)) empty with ⟨q, _, hq, _⟩ | ⟨_, found⟩
    · exact absurd hq (Nat.not_lt_zero _)
    · have met : t.probe (fun i => (es[i]?.map (·.1)).getD 0) (thash P w k) (stand.getD (t.probeStart (thash P w k))) = some (.empty (way t.mask (thash P w k) c) none) := by rw [hst]; exact found
      rw [met]
      dsimp only
      refine wpAny_pure (no fun m => ?_)
      obtain ⟨p, hp, ek⟩ := List.mem_map.mp m
      obtain ⟨i, hi⟩ := List.getElem?_of_mem hp
      obtain ⟨c', z, _⟩ := ahead i p hi ek
      omega
  | succ n ih =>
    intro c f stand hn hc hf hst ahead
    obtain ⟨f, rfl⟩ : ∃ f', f = f' + 1 := ⟨f - 1, by omega⟩
    obtain ⟨o, ho, _, hd⟩ := R.is
    rw [setSearchFrom_succ]
    refine wpAny_bind (wpAny_setState_of ho hd R.fits ?_)
    dsimp only
    refine wp_if_neg R.kept ?_
    have js : ∀ q, (nth t.mask (prb t (thash P w k) c) q).j = way t.mask (thash P w k) (c + q) := fun q => by rw [prb_add]
    have last : c + (K - c) = K := by omega
    rcases go_spec t R.tab.ris R.tab.dm (fun i => (es[i]?.map (·.1)).getD 0) (thash P w k) (10 * SetTable.turns t.mask) (K - c) (prb t (thash P w k) c) (nth_plain _ _ _ rfl) (by omega) (fun q hq => by rw [js]; exact taken _ (by omega)) (by rw [js, last]; exact empty) with ⟨q, i, hq, hi, hh, before, found⟩ | ⟨nobody, found⟩
    · have met : t.probe (fun i => (es[i]?.map (·.1)).getD 0) (thash P w k) (stand.getD (t.probeStart (thash P w k))) = some (.candidate (way t.mask (thash P w k) (c + q)) i (prb t (thash P w k) (c + (q + 1)))) := by
        rw [hst, ← js, ← prb_add]; exact found
      rw [met]
      dsimp only
      rw [js] at hi
      have inL : i < L.length := by
        have := (List.getElem?_eq_some_iff.mp hi).1
        rwa [R.places] at this
      obtain ⟨p, hp⟩ : ∃ p, L[i]? = some p := ⟨_, List.getElem?_eq_getElem inL⟩
      have pin := List.mem_of_getElem? hp
      have go : wpAny (model P w) A (searchRest a (.ref x) (thash P w k) true f es t (way t.mask (thash P w k) (c + q)) i (prb t (thash P w k) (c + (q + 1)))) Q E s := by
        unfold searchRest
        rw [R.row hp]
        dsimp only
        refine wpAny_bind (wpAny_holding (wpAny_eqBool_tuple room (R.each p pin) hx (wpAny_bind (wpAny_setState_of ho hd R.fits ?_))))
        dsimp only
        rcases Classical.em (p.2 = k) with same | other
        · exact wp_if_pos (by simp [same]) (wpAny_pure (yes (List.mem_map.mpr ⟨p, pin, same⟩)))
        · refine wp_if_neg (by simp [other]) ?_
          rw [sameMem]
          have live : t.slot (way t.mask (thash P w k) (c + q)) = .live i := slot_live R.tab.ris hi
          simp only [if_true, live, R.row hp]
          refine wpAny_bind (wpAny_isSame_ref_self (wpAny_bind (wpAny_pure ?_)))
          simp only [if_true]
          refine wp_if_neg (by simp [other]) ?_
          refine ih (c + (q + 1)) f _ (by omega) (by omega) (by omega) rfl fun i' p' hp' ek => ?_
          obtain ⟨c', ⟨z1, z2⟩, z3⟩ := ahead i' p' hp' ek
          refine ⟨c', ⟨?_, z2⟩, z3⟩
          rcases Nat.lt_trichotomy c' (c + q) with lt | eq | gt
          · exact absurd ((R.hash hp').trans (congrArg (thash P w) ek)) (before (c' - c) i' (by omega) (by rw [js, show c + (c' - c) = c' by omega]; exact z3))
          · subst eq
            have live' := slot_live R.tab.ris z3
            rw [live] at live'
            injection live' with ei
            subst ei
            rw [hp] at hp'
            cases hp'
            exact absurd ek other
          · omega
      rcases Bool.eq_false_or_eq_true t.led with yes' | no'
      · exact wp_if_neg (by simp [yes']) go
      · refine wp_if_pos (by simp [no']) (wpAny_bind (seen_tup hx (fun y hy => ?_) (wp_if_neg (by decide) go)))
        obtain ⟨e, he, rfl⟩ := List.mem_map.mp hy
        have he' : e ∈ es.toList := (by simpa using he : e ∈ es ∧ _).1.val
        rw [R.rows] at he'
        obtain ⟨p', hp', rfl⟩ := List.mem_map.mp he'
        exact ⟨p'.2, p'.1, rfl, R.each p' hp'⟩
    · have met : t.probe (fun i => (es[i]?.map (·.1)).getD 0) (thash P w k) (stand.getD (t.probeStart (thash P w k))) = some (.empty (way t.mask (thash P w k) K) none) := by
        have e := js (K - c)
        rw [last] at e
        rw [hst, ← e]; exact found
      rw [met]
      dsimp only
      refine wpAny_pure (no fun m => ?_)
      obtain ⟨p, hp, ek⟩ := List.mem_map.mp m
      obtain ⟨i, hi⟩ := List.getElem?_of_mem hp
      obtain ⟨c', ⟨z1, z2⟩, z3⟩ := ahead i p hi ek
      exact absurd ((R.hash hi).trans (congrArg (thash P w) ek)) (nobody (c' - c) i (by omega) (by rw [js, show c + (c' - c) = c' by omega]; exact z3))
theorem BigS.add (R : BigS P w s.heap a L es ep t) (hx : IsT P w s.heap k x) (room : A.units < cLine) (few : L.length < 75) {Q : Bool → Shared → Prop}
    (done : ∀ b h' L' es' ep' t', Heap.SameBut a s.heap h' → BigS P w h' a L' es' ep' t' → (k ∈ L.map (·.2) → L' = L) → (k ∉ L.map (·.2) → L'.Perm ((x, k) :: L)) → Q b { s with heap := h' }) :
    wpAny (model P w) A (setAddHashed a (.ref x) (thash P w k)) Q E s := by
  obtain ⟨o, ho, exact_, hd⟩ := R.is
  have m127 := R.mask
  obtain ⟨K, near, empty, taken⟩ := R.tab.first (by rw [List.length_map]; omega) (thash P w k)
  have short : K < 100000 := by
    rw [m127] at near
    have : 10 * SetTable.turns 127 ≤ 1420 := by decide
    omega
  unfold setAddHashed
  refine wpAny_holding ?_
  rw [show (100000 : Nat) = 99999 + 1 from rfl, setAddHashedIn_succ]
  refine wpAny_bind (wpAny_setState_of ho hd R.fits ?_)
  dsimp only
  refine wp_if_neg (by simp [byScan, Value.scannable]) (wpAny_bind ?_)
  unfold setSearch
  refine R.seek hx room near empty taken (fun m => ?_) (fun m => ?_) K 0 100000 none (Nat.le_of_eq (Nat.sub_zero K)) (Nat.zero_le _) short rfl (fun i p hp ek => ?_)
  · exact wpAny_pure (done false s.heap L es ep t (Heap.SameBut.refl a s.heap) R (fun _ => rfl) fun z => absurd m z)
  · dsimp only
    refine wpAny_bind (wpAny_setState_of ho hd R.fits ?_)
    dsimp only
    obtain ⟨at_, _, tab', mask', led', plain', _, _, fill'⟩ := R.tab.put empty taken
    have plain2 : (t.put (way t.mask (thash P w k) K)).1.plain = true := plain'.trans R.plain
    refine wp_if_pos plain2 (wpAny_bind (hashBy_tup hx ?_))
    simp only [if_true]
    have pm := put_perm L (SetTable.below t.place (way t.mask (thash P w k) K)) (x, k)
    have rows' : (SetTable.insertAt es (t.put (way t.mask (thash P w k) K)).2 (thash P w k, Value.ref x)).toList = rowsOf P w (L.take (SetTable.below t.place (way t.mask (thash P w k) K)) ++ (x, k) :: L.drop (SetTable.below t.place (way t.mask (thash P w k) K))) := by
      rw [at_, SetTable.toList_insertAt, rows_put, R.rows]
    have hashes : (L.take (SetTable.below t.place (way t.mask (thash P w k) K)) ++ (x, k) :: L.drop (SetTable.below t.place (way t.mask (thash P w k) K))).map (fun p => thash P w p.2) = (L.map fun p => thash P w p.2).take (SetTable.below t.place (way t.mask (thash P w k) K)) ++ thash P w k :: (L.map fun p => thash P w p.2).drop (SetTable.below t.place (way t.mask (thash P w k) K)) := by
      simp [List.map_take, List.map_drop]
    rw [← hashes] at tab'
    generalize SetTable.insertAt es (t.put (way t.mask (thash P w k) K)).2 (thash P w k, Value.ref x) = es1 at rows' ⊢
    generalize L.take (SetTable.below t.place (way t.mask (thash P w k) K)) ++ (x, k) :: L.drop (SetTable.below t.place (way t.mask (thash P w k) K)) = L1 at pm rows' tab'
    generalize (t.put (way t.mask (thash P w k) K)).1 = t1 at tab' mask' led' plain' plain2 fill' ⊢
    have len1 : L1.length = L.length + 1 := pm.length_eq
    have sz1 : es1.size = L1.length := by
      have z := congrArg List.length rows'
      simpa [rowsOf] using z
    refine wpAny_bind (wpAny_storeSet_of ho hd ?_ (by rw [sz1, len1, sizeLine_eq]; omega))
    have same : Heap.SameBut a s.heap (s.heap.update a (Obj.putSet es1 t1)) := Heap.SameBut.update ..
    have there := store_at (es' := es1) (t' := t1) ho hd
    generalize s.heap.update a (Obj.putSet es1 t1) = h1 at same there ⊢
    have full : ¬ t1.tooFull = true := by
      unfold SetTable.tooFull
      rw [decide_eq_true_eq, fill', List.length_map, mask', m127]
      omega
    refine wp_if_neg (by simp [full]) (wpAny_pure ?_)
    refine done true h1 L1 es1 (ep + 1) t1 same ⟨⟨_, there, ⟨exact_.1, exact_.2.1, exact_.2.2⟩, rfl⟩, rows', tab', ?_, fun p hp => ?_, plain2, led' ▸ R.led, mask'.trans m127, by omega⟩ (fun z => absurd z m) fun _ => pm
    · exact (pm.map (·.2)).nodup_iff.mpr (List.nodup_cons.mpr ⟨m, R.once⟩)
    · rcases List.mem_cons.mp (pm.mem_iff.mp hp) with rfl | hp
      · exact isT_same hx ho hd same
      · exact isT_same (R.each p hp) ho hd same
  · have hi : (L.map fun p => thash P w p.2)[i]? = some (thash P w k) := by rw [List.getElem?_map, hp, ← ek]; rfl
    have inL := (List.getElem?_eq_some_iff.mp hp).1
    have hj := List.getElem?_eq_getElem (l := t.place.toList) (i := i) (by rw [R.places]; exact inL)
    obtain ⟨c, hc, e⟩ := R.tab.before empty hi hj
    exact ⟨c, ⟨Nat.zero_le _, hc⟩, by rw [hj, e]⟩
theorem big_of (R : SetTR P w s.heap a L es ep t) (full : 63 ≤ L.length) : BigS P w s.heap a L es ep t := by
  have z1 := R.room
  have z2 := R.few
  refine ⟨R.ob, R.rows, R.tab, R.nd, R.tup, R.plain, R.led, ?_, by omega⟩
  rcases R.tab.mok with e | e | e <;> omega
end
inductive AnyS (P : Program) (w : World) (h : Heap) (a : Addr) (L : List (Addr × List Int)) : Prop
  | small (z : SetT0 P w h a L)
  | big (es : Array (Int × Value)) (ep : Nat) (t : SetTable) (is : ∃ o, h.get? a = some o ∧ o.ExactSet ∧ o.data = .set es ep t) (rows : es.toList = rowsOf P w L) (tab : TabOk t (L.map fun p => thash P w p.2)) (once : (L.map (·.2)).Nodup)
      (plain : t.plain = true) (led : w.params.followText "set-order" = true ∨ t.led = true) (mask : t.mask = 127) (few : L.length ≤ 75)
def SetAO (P : Program) (w : World) (a : Addr) (L : List (Addr × List Int)) : HO := .ext fun h => AnyS P w h a L
section
variable {P : Program} {w : World} {A : Around} {E : Value → Shared → Prop} {s : Shared} {h : Heap} {H : Hp} {a x : Addr} {L : List (Addr × List Int)} {es : Array (Int × Value)} {ep : Nat} {t : SetTable} {k : List Int}
theorem AnyS.is (z : AnyS P w h a L) : ∃ o, h.get? a = some o := by
  rcases z with z | ⟨_, _, _, ⟨o, ho, _⟩, _⟩
  · obtain ⟨_, _, _, ⟨o, ho, _⟩, _⟩ := z.ex
    exact ⟨o, ho⟩
  · exact ⟨o, ho⟩
theorem setAO_new (z : AnyS P w h a L) : ObjOk P w H h a (SetAO P w a L) := by
  refine ⟨z, z.is, fun h1 h2 p k => ?_⟩
  rcases (show AnyS P w h1 a L from p) with z | ⟨es, ep, t, ⟨o, ho, r⟩, r2, r3, r4, r5, r6, r7, r8⟩
  · obtain ⟨es, ep, t, ⟨o, ho, r⟩, q⟩ := z.ex
    exact AnyS.small ⟨es, ep, t, ⟨o, k o ho, r⟩, q⟩
  · exact AnyS.big es ep t ⟨o, k o ho, r⟩ r2 r3 r4 r5 r6 r7 r8
theorem BigS.any (R : BigS P w h a L es ep t) : AnyS P w h a L := .big es ep t R.is R.rows R.tab R.once R.plain R.led R.mask R.few
theorem add_any {Q : Value → Shared → Prop} (z : AnyS P w s.heap a L) (each : ∀ p ∈ L, IsT P w s.heap p.2 p.1) (hx : IsT P w s.heap k x) (room : A.units + 1 < cLine) (few : L.length < 75)
    (done : ∀ h' tk L', Heap.SameBut a s.heap h' → AnyS P w h' a L' → (k ∈ L.map (·.2) → L' = L) → (k ∉ L.map (·.2) → L'.Perm ((x, k) :: L)) → Q .none { s with heap := h', toks := tk }) :
    wpAny (model P w) A (call (.builtin "set.add") [.ref a, .ref x]) Q E s := by
  obtain ⟨o, ho, ex⟩ : ∃ o, s.heap.get? a = some o ∧ o.ExactSet := by
    rcases z with z | ⟨_, _, _, ⟨o, ho, e, _⟩, _⟩
    · obtain ⟨_, _, _, ⟨o, ho, e, _⟩, _⟩ := z.ex
      exact ⟨o, ho, e⟩
    · exact ⟨o, ho, e⟩
  refine wpAny_call_entry F.slot_set_add ⟨o, ho, ex.1⟩ F.entry_set_add ?_ (F.args_set_add_2 _ _)
  unfold Builtin.«set.add» Builtin.Frozenset.oneOther
  simp only [List.isEmpty_nil, bind_assoc]
  unfold Builtin.Frozenset.addrOf setAdd
  refine wpAny_bind (wpAny_pure ?_)
  try dsimp only
  refine wpAny_bind (wpAny_pure ?_)
  try dsimp only
  refine wpAny_bind (wpAny_holding (wpAny_bind (wpAny_pyHash_tuple (A := A.in1) room hx ?_)))
  have fin : ∀ (b : Bool) (h' : Heap) (L' : List (Addr × List Int)), Heap.SameBut a s.heap h' → AnyS P w h' a L' → (k ∈ L.map (·.2) → L' = L) → (k ∉ L.map (·.2) → L'.Perm ((x, k) :: L)) →
      wpAny (model P w) A.in1 (ret Value.none) (fun r s' => ∃ v, r = .done (.ret v) ∧ Q v s') E { s with heap := h', toks := s.toks + (k.length + 1) } := fun b h' L' sb z' c1 c2 => wpAny_pure ⟨_, rfl, done h' _ L' sb z' c1 c2⟩
  have kind : (∃ es ep t, SetTR P w s.heap a L es ep t) ∧ L.length + 1 < 64 ∨ ∃ es ep t, BigS P w s.heap a L es ep t := by
    rcases z with z | ⟨es, ep, t, r1, r2, r3, r4, r5, r6, r7, r8⟩
    · obtain ⟨es, ep, t, R⟩ := z.full each
      rcases Nat.lt_or_ge (L.length + 1) 64 with lt | ge
      · exact .inl ⟨⟨es, ep, t, R⟩, lt⟩
      · exact .inr ⟨es, ep, t, big_of (s := s) R (by omega)⟩
    · exact .inr ⟨es, ep, t, r1, r2, r3, r4, each, r5, r6, r7, r8⟩
  rcases kind with ⟨⟨es, ep, t, R⟩, lt⟩ | ⟨es, ep, t, R⟩
  · exact add_at (s := { s with toks := s.toks + (k.length + 1) }) (R.keep (fun _ e => e) R.tup) hx room lt fun b h' L' es' ep' t' sb R' c1 c2 => fin b h' L' sb (.small R'.t0) c1 c2
  · exact BigS.add (s := { s with toks := s.toks + (k.length + 1) }) R hx room few fun b h' L' es' ep' t' sb R' c1 c2 => fin b h' L' sb R'.any c1 c2
end
end DL
namespace DL
open PySem PySem.Spec L2
open PyProof.Rows hiding St
section
variable {X : Cx} {τ : Type}
structure SetAcc (X : Cx) (τ : Type) where
  O : Addr → τ → HO
  t0 : τ
  Ad : τ → V → Hp → (τ → Prop) → Prop
  fresh : ∀ (H : Hp) (h : Heap) (a : Addr), h.get? a = some { cls := .type "set", dict := none, data := .set #[] 0 (.fresh 0 0 (!X.w.params.followText "set-order")) } → ObjOk X.prog X.w H h a (O a t0)
  add : ∀ (Y : Cx) (pins : List (Addr × Obj)) (σ : L2.St) (H : Hp) (s : Shared) (D : Addr) (t : τ) (y : V) (v : Value) (R : τ → Prop) (Q : Value → Shared → Prop) (E : Value → Shared → Prop), Y.prog = X.prog → Y.w = X.w → Y.K = X.K → Y.A = X.A →
    Inv Y pins σ H s → H D = some (O D t) → RelV y v → Ad t y H R → (∀ t' s', R t' → Inv Y pins σ (upd H D (O D t')) s' → Q .none s') → wpAny (model Y.prog Y.w) Y.A (call (.builtin "set.add") [.ref D, v]) Q E s
def tSg (A : SetAcc X τ) (wi : TI) (g : TG) (tt : TT) (te : TE) (vs : List Nat) : TE := fun σ H Q => wi σ H fun J H1 => ∀ D, H1 D = none → ∃ W : Nat → Nat → Hp → Prop, (∃ m, W 0 m (upd H1 D (A.O D A.t0))) ∧ ∀ i m H, W i m H →
  (J.stop i H ∧ Q (.ref D) H) ∨ (J.go i H ∧ ∃ Nx : Hp → Prop, (∀ H', Nx H' → ∃ m', m' < m ∧ W (i + 1) m' H') ∧ ∀ x H', J.yld i H x H' → g x (wipe σ vs) H' fun σ2 H2 => wipe σ2 vs = wipe σ vs ∧ tt σ2 H2 fun b H3 =>
    if b = true then te σ2 H3 fun y H4 => ∃ t, H4 D = some (A.O D t) ∧ A.Ad t y H4 fun t' => Nx (upd H4 D (A.O D t')) else Nx H3)
variable {elt tg iter : Expr} {ifs : List Expr} {scope : Scope} {own : List (Str × Nat)} {pos : Pos} {wi : TI} {g : TG} {tt : TT} {te : TE}
theorem pe_sg (A : SetAcc X τ) (calm : X.calm = true) (nodup : X.N.Nodup) (walk : PI X tg iter wi) (blk : BlkOk X.N X.env.scope scope own)
    (target : ∀ (s : Shared) (H : Hp) (C : Addr) (cl : List (Str × Addr)) (fp : List Addr), PG (X.blk s H scope (compEnvC scope cl C X.env) fp) tg g) (tests : ∀ (s : Shared) (H : Hp) (C : Addr) (cl : List (Str × Addr)) (fp : List Addr), PTs (X.blk s H scope (compEnvC scope cl C X.env) fp) ifs tt)
    (item : ∀ (s : Shared) (H : Hp) (C : Addr) (cl : List (Str × Addr)) (fp : List Addr), PE (X.blk s H scope (compEnvC scope cl C X.env) fp) elt te) (plain : ∀ x, foldedSetIterable iter X.env x = pure x := by intro _; rfl) :
    PE X (.SetComp elt [⟨tg, iter, ifs, 0⟩] scope pos) (tSg A wi g tt te (own.map (·.2))) := by
  refine ⟨fun pins s σ H Q inv reading => ?_⟩
  rw [PpSet.eval_SetComp]
  have caught : ∀ y ∈ scope.names, y.2 = .free → ∃ c, X.env.cells.lookup y.1 = some c := fun y hy e => (blk.free y hy e).elim (fun k => inv.ok.has _ (.inl k)) fun k => inv.ok.has _ (.inr k)
  refine wpAny_comprehension_free (use := none) rfl plain (closure_ok caught) blk.kind (fun y hy e => (blk.uniq y hy).trans (congrArg some e)) (thn (walk.run pins s σ H _ inv reading) fun _ _ q0 => thn q0 fun _ sA q1 => ?_)
  obtain ⟨it, fp, tn, J, HA, rfl, invA, T, stA, okA, q⟩ := q1
  refine PpSet.newSet_ok (newEnv_comp ?_)
  -- the set stands at Dd
  obtain ⟨Dd, eD⟩ : ∃ Dd, sA.heap.objs.size = Dd := ⟨_, rfl⟩
  rw [eD]
  have freeD : HA Dd = none := invA.hok.fresh (Nat.le_of_eq eD)
  obtain ⟨W, ⟨m0, w0⟩, turn⟩ := q Dd freeD
  obtain ⟨sB, eB⟩ : ∃ sB : Shared, ({ sA with heap := sA.heap.push { cls := .type "set", dict := none, data := .set #[] 0 (.fresh 0 0 (!X.w.params.followText "set-order")) } } : Shared) = sB := ⟨_, rfl⟩
  obtain ⟨HB, eH⟩ : ∃ HB, upd HA Dd (A.O Dd A.t0) = HB := ⟨_, rfl⟩
  have heapB : sB.heap = sA.heap.push { cls := .type "set", dict := none, data := .set #[] 0 (.fresh 0 0 (!X.w.params.followText "set-order")) } := by rw [← eB]
  have keptB : ∀ b o, sA.heap.get? b = some o → sB.heap.get? b = some o := fun b o e => by rw [heapB]; exact Heap.get?_push_of_some _ e
  have invB : Inv X pins σ HB sB := by
    rw [← eH, ← eB]
    refine invA.laid (t' := sA.toks) (fun b o e => Heap.get?_push_of_some _ e) (Nat.le_of_eq eD) (A.fresh _ _ _ ?_)
    rw [← eD]
    exact Heap.get?_push_size _ rfl
  have young : ∀ b ∈ fp, b < sA.heap.objs.size := fun b hb => let ⟨o, e, _⟩ := T.obj _ _ stA b hb; Heap.lt_size e
  have okB : ∀ b ∈ fp, FpOk X pins HB b ∧ b < sB.heap.objs.size := fun b hb => by
    have lt := young b hb
    refine ⟨⟨?_, (okA b hb).2⟩, ?_⟩
    · rw [← eH, upd_ne (by rw [← eD]; exact Nat.ne_of_lt lt)]
      exact (okA b hb).1
    · rw [heapB, Heap.size_push]
      exact Nat.lt_succ_of_lt lt
  have stB : tn 0 sB.heap := T.keep _ _ _ stA fun b _ o e => keptB b o e
  have invC := block_start invB blk nodup okB
  -- the block's own surroundings
  have pgC := target sB HB sB.heap.objs.size (cellsFrom (sB.heap.objs.size + 1) scope.names (cloFrom X.env.cells scope.names [])) fp
  have ptC := tests sB HB sB.heap.objs.size (cellsFrom (sB.heap.objs.size + 1) scope.names (cloFrom X.env.cells scope.names [])) fp
  have peC := item sB HB sB.heap.objs.size (cellsFrom (sB.heap.objs.size + 1) scope.names (cloFrom X.env.cells scope.names [])) fp
  rw [eB]
  obtain ⟨ce, eE⟩ : ∃ ce, compEnvC scope (cellsFrom (sB.heap.objs.size + 1) scope.names (cloFrom X.env.cells scope.names [])) sB.heap.objs.size X.env = ce := ⟨_, rfl⟩
  show codeAny _ _ (.compStart (.SetComp elt [⟨tg, iter, ifs, 0⟩] scope pos) 0 (.ref it) (.ref Dd) (compEnvC scope (cellsFrom (sB.heap.objs.size + 1) scope.names (cloFrom X.env.cells scope.names [])) sB.heap.objs.size X.env)) (compPost (model X.prog X.w) X.A X.xe none (EP X pins σ Q) (.ref Dd) sB.heap.objs.size) { sB with heap := pushCells (sB.heap.push { cls := .type "dict", data := .dict #[] }) scope.names }
  rw [eE] at invC pgC ptC peC ⊢
  have localsE : ce.locals = sB.heap.objs.size := by rw [← eE]; rfl
  obtain ⟨sC, eC⟩ : ∃ sC : Shared, ({ sB with heap := pushCells (sB.heap.push { cls := .type "dict", data := .dict #[] }) scope.names } : Shared) = sC := ⟨_, rfl⟩
  rw [eC] at invC ⊢
  have stC : tn 0 sC.heap := T.keep _ _ _ stB fun b _ o e => by rw [← eC]; exact pushCells_keeps _ _ _ _ (Heap.get?_push_of_some _ e)
  have bare : ∀ b ∈ fp, HB b = none := fun b hb => (okB b hb).1.1
  rw [eH] at w0
  have again : ∀ {σ' : L2.St} {H' : Hp} {s' : Shared}, Inv (X.blk sB HB scope ce fp) [] σ' H' s' → (∀ b ∈ fp, H' b = none) → ∀ b ∈ fp, FpOk (X.blk sB HB scope ce fp) [] H' b := fun I' hn b hb =>
    ⟨hn b hb, (I'.ok.exf b hb).1, I'.ok.exfs b hb, .inl hb, (I'.ok.exf b hb).2, fun p hp => absurd (show p ∈ ([] : List (Addr × Obj)) ++ [] from hp) (by simp)⟩
  have whole : codeAny (model X.prog X.w) X.A (.compLoop (.SetComp elt [⟨tg, iter, ifs, 0⟩] scope pos) 0 (.ref it) (.ref Dd) ce) (compPost (model X.prog X.w) X.A X.xe none (EP X pins σ Q) (.ref Dd) sB.heap.objs.size) sC := by
    refine PpSet.compLoopS_any (fun n s' => ∃ i H', Inv (X.blk sB HB scope ce fp) [] (wipe σ (own.map (·.2))) H' s' ∧ tn i s'.heap ∧ (∀ b ∈ fp, H' b = none) ∧ W i n H') (fun n s5 ⟨i, H5, I5, st5, n5, w5⟩ => ?_) m0 ⟨0, HB, invC, stC, bare, w0⟩
    rcases turn i n H5 w5 with ⟨stop, wish⟩ | ⟨go, Nx, next, step⟩
    · refine thnF (T.done (X.blk sB HB scope ce fp) rfl rfl rfl calm i [] s5 _ H5 (fun _ _ => False) I5 (again I5 n5) st5 stop) fun r s6 ⟨er, I6⟩ => ?_
      subst er
      have invZ : Inv X pins σ H5 s6 := invB.call' (ch := fp) I6.os I6.base I6.hok I6.bare fun b hb => let z := (okB b hb).1.2; ⟨z.2.2.1, z.1, z.2.2.2.1, z.2.2.2.2⟩
      have freeC : H5 sB.heap.objs.size = none := by rw [← localsE]; exact I6.free
      obtain ⟨m, names, _⟩ := I6.loc
      have names : s6.heap.Ns ce.locals m := names
      rw [localsE] at names
      obtain ⟨f0, f1, f2, f3, f4, f5⟩ := invB.fpOk (Nat.le_refl _) freeC
      exact ⟨m, names, fun h'' sb => ⟨.ref Dd, H5, invZ.turned (t' := s6.toks) (fun b o hb e => (sb.2 b hb).trans e) f0 f1 f3 f4 f5, rfl, wish⟩⟩
    · refine thnF (T.item (X.blk sB HB scope ce fp) rfl rfl rfl calm i [] s5 _ H5 (fun _ _ => False) I5 (again I5 n5) st5 go) fun r s6 ⟨u, er, h6⟩ => ?_
      subst er
      refine thnF h6 fun _ s7 ⟨x, H7, I7, r7, y7, st7, n7⟩ => ?_
      refine thnF (pgC.run _ s7 _ H7 x u _ (I7.pinned (again I7 n7) (T.obj _ _ st7)) r7 (step x H7 y7)) fun _ s8 ⟨σ8, H8, I8, hw8, q8⟩ => ?_
      refine thnF (ptC.run _ s8 σ8 H8 _ I8 q8) fun b s9 ⟨H9, I9, q9⟩ => ?_
      have fin : ∀ {s' : Shared} {H' : Hp}, Inv (X.blk sB HB scope ce fp) ([] ++ pinsAt fp s7.heap) σ8 H' s' → Nx H' → ∃ m, m < n ∧ ∃ i H', Inv (X.blk sB HB scope ce fp) [] (wipe σ (own.map (·.2))) H' s' ∧ tn i s'.heap ∧ (∀ b ∈ fp, H' b = none) ∧ W i m H' := fun {s' H'} I' nx => by
        obtain ⟨m', hm, w'⟩ := next H' nx
        have same : ∀ b ∈ fp, ∀ o, s7.heap.get? b = some o → s'.heap.get? b = some o ∧ H' b = none := fun b hb o e => (I'.pin (b, o) (List.mem_append_right _ (List.mem_append_right _ (mem_pinsAt hb e)))).imp id And.left
        refine ⟨m', hm, i + 1, H', (I'.unpinned (pins := [])).weak ((congrArg List.length hw8).symm.trans (wipe_length _ _)) (fun j v e => (wipe_some (vs := own.map (·.2)) (hw8.symm ▸ e)).1), T.keep _ _ _ st7 fun b hb o e => (same b hb o e).1, fun b hb => ?_, w'⟩
        obtain ⟨o, e, _⟩ := T.obj _ _ st7 b hb
        exact (same b hb o e).2
      cases b with
      | false => exact fin I9 q9
      | true =>
        refine thnF (peC.run _ s9 σ8 H9 _ I9 q9) fun z s10 ⟨yv, H10, I10, r10, t, hD, had⟩ => ?_
        exact A.add (X.blk sB HB scope ce fp) _ σ8 H10 s10 Dd t yv z _ _ _ rfl rfl rfl rfl I10 hD r10 had fun t' s11 nx I11 => fin I11 nx
  exact PpSet.codeAny_compStart_set whole (T.self X.A 0 _ _ _ stC whole)
def tupAcc (X : Cx) (hu : X.A.units + 64 < cLine) : SetAcc X (List (Addr × List Int)) where
  O := fun a L => SetAO X.prog X.w a L
  t0 := []
  Ad := fun L y H R => ∃ x k, y = .ref x ∧ SqT X.K H x (k.map V.int) ∧ (∀ p ∈ L, SqT X.K H p.1 (p.2.map V.int)) ∧ L.length < 75 ∧ ∀ L', (k ∈ L.map (·.2) → L' = L) → (k ∉ L.map (·.2) → L'.Perm ((x, k) :: L)) → R L'
  fresh := fun H h a ho => setAO_new (.small (setTR_fresh ho).t0)
  add := fun Y pins σ H s D L y v R Q E e1 e2 e3 e4 I hD hv had hQ => by
    obtain ⟨x, k, rfl, hx, hL, few, hR⟩ := had
    cases hv
    obtain ⟨P, w, K, _, _, A, _, _, _, _, _, _, _, _, _, _, _⟩ := Y
    simp only at e1 e2 e3 e4
    subst e1 e2 e3 e4
    have z : AnyS X.prog X.w s.heap D L := (I.hok D _ hD).1
    refine add_any z (fun p hp => I.isT (hL p hp)) (I.isT hx) (by show X.A.units + 1 < cLine; omega) few fun h' tk L' sb z' c1 c2 => ?_
    exact hQ L' _ (hR L' c1 c2) (I.write (e := D) (t' := tk) (by rw [hD]; trivial) (.inl rfl) (fun b u hb hu => (sb.2 b hb).trans hu) z'.is (setAO_new z'))
theorem call_len_tups : CallR X (.builtin "len") (fun xs H Q => ∃ a L, xs = [.ref a] ∧ H a = some (SetAO X.prog X.w a L) ∧ (∀ p ∈ L, SqT X.K H p.1 (p.2.map V.int)) ∧ Q (.int L.length) H) := by
  intro pins s σ H xs us Q I r h
  obtain ⟨a, L, rfl, ha, hL, q⟩ := h
  rw [Vals.ref1 r]
  have z : AnyS X.prog X.w s.heap a L := (I.hok a _ ha).1
  have told : ∃ o es ep t, s.heap.get? a = some o ∧ o.ExactSet ∧ o.data = .set es ep t ∧ t.fits es.size = true ∧ es.size = L.length ∧ L.length ≤ 75 := by
    rcases z with z | ⟨es, ep, t, r1, r2, r3, r4, r5, r6, r7, r8⟩
    · obtain ⟨es, ep, t, R⟩ := z.full fun p hp => I.isT (hL p hp)
      obtain ⟨o, ho, hex, hd⟩ := R.ob
      have few := R.few
      exact ⟨o, es, ep, t, ho, hex, hd, R.fits, R.size (s := s), by omega⟩
    · have R : BigS X.prog X.w s.heap a L es ep t := ⟨r1, r2, r3, r4, fun p hp => I.isT (hL p hp), r5, r6, r7, r8⟩
      obtain ⟨o, ho, hex, hd⟩ := R.is
      exact ⟨o, es, ep, t, ho, hex, hd, R.fits, R.size, r8⟩
  obtain ⟨o, es, ep, t, ho, hex, hd, fits, n, few⟩ := told
  exact call_len_set ho hex hd fits (by rw [n]; omega) ⟨.int L.length, H, I.tok _, ⟨_, by rw [n]⟩, q⟩
def scRun (vs : List Nat) (tg : D → DS → Oc Unit) (tt : DS → Oc Bool) (te : DS → Oc Sl) : List D → DS → List (List Int) → Oc (List (List Int))
  | [], s, acc => .ok acc s
  | d :: r, s, acc => match tg d (s.wipe vs) with
    | .ok _ s1 => match tt s1 with
      | .ok true s2 => match fr te s2 with
        | .ok (.tup ds) s3 => match D.ints? ds with
          | some k => if acc.length < 75 then scRun vs tg tt te r s3 (if k ∈ acc then acc else k :: acc) else .wr
          | none => .wr
        | _ => .wr
      | .ok false s2 => scRun vs tg tt te r s2 acc
      | _ => .wr
    | _ => .wr
def vLenSc (vs : List Nat) (it : DS → Oc (List D)) (tg : D → DS → Oc Unit) (tt : DS → Oc Bool) (te : DS → Oc Sl) : DS → Oc Sl := fun s => (it s).bind fun ds s1 => match scRun vs tg tt te ds s1 [] with
  | .ok ks s2 => .ok (.fz (.int ks.length)) (s2.back s1 vs)
  | _ => .wr
variable {E : XK} {it : DS → Oc (List D)} {tgD : D → DS → Oc Unit} {td : DS → Oc Bool} {ted : DS → Oc Sl} {p : Pos}
theorem sc_turns {hu : X.A.units + 64 < cLine} {g : Gp} {F1 Fx : Hp} {σ : L2.St} {vs : List Nat} {J : It} {ds : List D} {Dd : Addr} {Z : Oc (List (List Int)) → Prop} {Qd : Hp → Prop} {H0 : Hp}
    (hJ : ItD ⟨X.K, X.mg⟩ g F1 J ds) (hF : F1 Dd = none) (hzok : ∀ s L acc F' H own, Z (.ok acc s) → RelS ⟨X.K, X.mg⟩ g F1 (upd Fx Dd (SetAO X.prog X.w Dd L)) F' H own (wipe σ vs) (s.wipe vs) → (L.map (·.2)).Perm acc → (∀ p ∈ L, SqT X.K F' p.1 (p.2.map V.int)) → Qd H) (hzw : ¬ Z .wr)
    {F0 : Hp} {own0 : Ow} {s0 : DS} {L0 : List (Addr × List Int)} {acc0 : List (List Int)} (R0 : RelS ⟨X.K, X.mg⟩ g F1 (upd Fx Dd (SetAO X.prog X.w Dd L0)) F0 H0 own0 (wipe σ vs) (s0.wipe vs)) (r0 : (L0.map (·.2)).Perm acc0) (a0 : ∀ p ∈ L0, SqT X.K F0 p.1 (p.2.map V.int)) (z0 : Z (scRun vs tgD td ted ds s0 acc0)) :
    ∃ W : Nat → Nat → Hp → Prop, (∃ m, W 0 m H0) ∧ ∀ i m H, W i m H →
      (J.stop i H ∧ Qd H) ∨ (J.go i H ∧ ∃ Nx : Hp → Prop, (∀ H', Nx H' → ∃ m', m' < m ∧ W (i + 1) m' H') ∧ ∀ x H', J.yld i H x H' → tG ⟨X.K, X.mg⟩ vs tgD x (wipe σ vs) H' fun σ2 H2 => wipe σ2 vs = wipe σ vs ∧ tD ⟨X.K, X.mg⟩ E0 td σ2 H2 fun b H3 =>
        if b = true then tF ⟨X.K, X.mg⟩ E0 (fr ted) σ2 H3 fun y H4 => ∃ L, H4 Dd = some ((tupAcc X hu).O Dd L) ∧ (tupAcc X hu).Ad L y H4 fun L' => Nx (upd H4 Dd ((tupAcc X hu).O Dd L')) else Nx H3) := by
  refine ⟨fun i m H => m = ds.length - i ∧ i ≤ ds.length ∧ ∃ F' own' s' L acc, RelS ⟨X.K, X.mg⟩ g F1 (upd Fx Dd (SetAO X.prog X.w Dd L)) F' H own' (wipe σ vs) (s'.wipe vs) ∧ (L.map (·.2)).Perm acc ∧ (∀ p ∈ L, SqT X.K F' p.1 (p.2.map V.int)) ∧ Z (scRun vs tgD td ted (ds.drop i) s' acc),
    ⟨ds.length, by omega, Nat.zero_le _, F0, own0, s0, L0, acc0, R0, r0, a0, z0⟩, ?_⟩
  rintro i m H ⟨rfl, hi, F', own', s', L, acc, R, r, al, z⟩
  obtain ⟨go, stop⟩ := hJ F' H R.ge R.le
  by_cases hlt : i < ds.length
  · right
    obtain ⟨hgo, hy⟩ := go i ds[i] (List.getElem?_eq_getElem hlt)
    rw [List.drop_eq_getElem_cons hlt] at z
    unfold scRun at z
    refine ⟨hgo, fun H' => ∃ F' own' s' L acc, RelS ⟨X.K, X.mg⟩ g F1 (upd Fx Dd (SetAO X.prog X.w Dd L)) F' H' own' (wipe σ vs) (s'.wipe vs) ∧ (L.map (·.2)).Perm acc ∧ (∀ p ∈ L, SqT X.K F' p.1 (p.2.map V.int)) ∧ Z (scRun vs tgD td ted (ds.drop (i + 1)) s' acc), fun H' h => ⟨ds.length - (i + 1), by omega, rfl, hlt, h⟩, fun x H' yx => ?_⟩
    obtain ⟨F2, R2, hx, le2⟩ : ∃ F2, RelS ⟨X.K, X.mg⟩ g F1 (upd Fx Dd (SetAO X.prog X.w Dd L)) F2 H' own' (wipe σ vs) (s'.wipe vs) ∧ Rp ⟨X.K, X.mg⟩ g F2 x ds[i] ∧ LeH F' F2 := by
      rcases hy x H' yx with ⟨e, hx⟩ | ⟨T, o, hT, e, hx⟩
      · subst e; exact ⟨F', R, hx, fun _ _ q => q⟩
      · subst e; exact ⟨upd F' T o, R.new hT, hx, upd_le (R.toRel.Fnone hT)⟩
    refine ⟨g, F1, _, F2, own', s'.wipe vs, ds[i], R2, hx, ?_⟩
    split at z
    · rename_i u s1 e1
      rw [e1]
      intro own3 σ3 R3 so3
      have w3 : wipe σ3 vs = wipe σ vs := (wipe_same so3).trans wipe_wipe
      refine ⟨w3, g, _, F2, own3, s1, R3.refl, ?_⟩
      split at z
      · rename_i s2 e2
        rw [e2]
        intro F4 H4 own4 R4
        dsimp only
        rw [if_pos rfl]
        refine ⟨g, _, F4, own4, s2, R4.refl, ?_⟩
        split at z
        · rename_i dt s3 e3
          rw [e3]
          intro F5 H5 own5 R5 v hv
          have le25 : LeH F' F5 := fun a o q => R5.ge _ _ (R4.ge _ _ (le2 _ _ q))
          have R15 : RelS ⟨X.K, X.mg⟩ g F1 (upd Fx Dd (SetAO X.prog X.w Dd L)) F5 H5 own5 σ3 s3 := (R3.trans R4 fun _ _ q => q).trans R5 fun _ _ q => q
          have nF5 : F5 Dd = none := R15.nw Dd hF (by rw [upd_same]; exact fun z => nomatch z)
          split at z
          · rename_i k hk
            have eds := D.ints_of hk
            subst eds
            cases hv with | tup h1 rv =>
            have evs := rv.ints
            subst evs
            split at z
            · rename_i few
              refine ⟨L, R15.fx _ _ upd_same, _, k, rfl, sqT R15.le h1, fun p hp => SqT.mono R15.le (SqT.mono le25 (al p hp)), ?_, fun L' c1 c2 => ?_⟩
              · have := r.length_eq; rw [List.length_map] at this; rw [this]; exact few
              have R6 := (R15.bump (o' := SetAO X.prog X.w Dd L') nF5).wipe (vs := vs)
              rw [w3] at R6
              have al5 : ∀ p ∈ L, SqT X.K F5 p.1 (p.2.map V.int) := fun p hp => SqT.mono le25 (al p hp)
              by_cases hm : k ∈ L.map (·.2)
              · have e := c1 hm
                subst e
                rw [if_pos (r.mem_iff.mp hm)] at z
                exact ⟨F5, own5, s3, L', acc, R6, r, al5, z⟩
              · rw [if_neg (fun q => hm (r.mem_iff.mpr q))] at z
                have pm := c2 hm
                refine ⟨F5, own5, s3, L', k :: acc, R6, (pm.map _).trans (r.cons k), fun p hp => ?_, z⟩
                rcases List.mem_cons.mp (pm.mem_iff.mp hp) with e | hp'
                · subst e; exact sqT (fun _ _ q => q) h1
                · exact al5 p hp'
            · exact absurd z hzw
          · exact absurd z hzw
        · exact absurd z hzw
      · rename_i s2 e2
        rw [e2]
        intro F4 H4 own4 R4
        dsimp only
        rw [if_neg Bool.false_ne_true]
        have R14 := (R3.trans R4 fun _ _ q => q).wipe (vs := vs)
        rw [w3] at R14
        exact ⟨F4, own4, s2, L, acc, R14, r, fun p hp => SqT.mono R4.ge (SqT.mono le2 (al p hp)), z⟩
      · exact absurd z hzw
    · exact absurd z hzw
  · left
    have e : i = ds.length := by omega
    refine ⟨stop i (by omega), ?_⟩
    rw [List.drop_eq_nil_of_le (by omega)] at z
    unfold scRun at z
    exact hzok s' L acc F' H own' z R r al
theorem eo_lenSc (hu : X.A.units + 64 < cLine) (hm : X.mg "len" = none) (hc : X.calm = true) (hN : X.N.Nodup) (hi : EI X E tg iter it) (ok : BlkOk X.N X.env.scope scope own)
    (hg : ∀ (s : Shared) (H : Hp) (C : Addr) (cl : List (Str × Addr)) (fp : List Addr), GT (X.blk s H scope (compEnvC scope cl C X.env) fp) (own.map (·.2)) tg tgD) (ht : ∀ (s : Shared) (H : Hp) (C : Addr) (cl : List (Str × Addr)) (fp : List Addr), PTd (X.blk s H scope (compEnvC scope cl C X.env) fp) ifs td)
    (he : ∀ (s : Shared) (H : Hp) (C : Addr) (cl : List (Str × Addr)) (fp : List Addr), EO (X.blk s H scope (compEnvC scope cl C X.env) fp) E0 elt ted) (hs : ∀ x, foldedSetIterable iter X.env x = pure x := by intro _; rfl) (hgl : Gl X "len" := by rfl)
    {q : Pos} (hst : starEach [.SetComp elt [⟨tg, iter, ifs, 0⟩] scope pos] X.env = (false, eval (.SetComp elt [⟨tg, iter, ifs, 0⟩] scope pos) X.env) :: starEach [] X.env := by rfl) (hpl : (backTo q (starEach [] X.env)).any (·.1) = false := by rfl) :
    EO X E (.Call (.Name "len" p) [.SetComp elt [⟨tg, iter, ifs, 0⟩] scope pos] [] q) (vLenSc (own.map (·.2)) it tgD td ted) :=
  (pe_callB call_len_tups hgl hm PySem.boot_len (pa_cons (pe_sg (tupAcc X hu) hc hN hi ok hg (fun s H C cl fp => (ht s H C cl fp).pts) (fun s H C cl fp => (he s H C cl fp).fr) hs) pa_nil hst) (by decide) (by decide) hst hpl).mono fun σ H Q ⟨g, Fx, F, own', s, R, p⟩ => by
    refine tI.bind R p fun ds F1 H1 own1' s1 J R1 le hJ p1 Dd hD => ?_
    have R1r := R1.refl
    have nF1 := R1.toRel.Fnone hD
    refine sc_turns (hu := hu) (Z := fun o => Post ⟨X.K, X.mg⟩ E g F Fx σ (RO ⟨X.K, X.mg⟩ g Q) (match o with
      | .ok ks s2 => .ok (.fz (.int ks.length)) (s2.back s1 (own.map (·.2)))
      | _ => .wr)) (L0 := []) (acc0 := []) (s0 := s1) (Fx := Fx) hJ nF1 (fun s2 L acc F' H' own2 z R2 r2 al => ?_) (fun h => h) ((R1r.pin hD).wipe) (List.Perm.refl _) (fun p hp => nomatch hp) p1
    have R3 := RelS.unpin R1 hD R2
    have e : L.length = acc.length := by rw [← r2.length_eq, List.length_map]
    exact ⟨Dd, L, rfl, R2.fx _ _ upd_same, fun p hp => SqT.mono R2.le (al p hp), by rw [e]; exact z F' H' _ R3 _ ⟨_, rfl, .int _⟩⟩
end
end DL
namespace DL
open PySem PySem.Spec L2
open PyProof.Rows hiding St
def tCh3 (o1 o2 o3 : D → D → DS → Oc Sl) (f h k l : DS → Oc Sl) : DS → Oc Bool := fun s => (fr f s).bind fun x s1 => (fr h s1).bind fun y s2 => ((o1 x y s2).bind boolOf).bind fun b s3 => if b = true then (fr k s3).bind fun z s4 => ((o2 y z s4).bind boolOf).bind fun b2 s5 => if b2 = true then (fr l s5).bind fun u s6 => (o3 z u s6).bind boolOf else .ok false s5 else .ok false s3
section
variable {C : Cf} {E : XK} {X : Cx} {a b c d e : Expr} {f h k l : DS → Oc Sl} {pos : Pos} {r1 r2 r3 : R2} {p1 p2 p3 : D → D → DS → Oc Sl}
theorem oc_assoc {α β γ : Type} (o : Oc α) (m : α → DS → Oc β) (n : β → DS → Oc γ) : (o.bind m).bind n = o.bind fun a s => (m a s).bind n := by cases o <;> rfl
theorem opD_bool {g : Gp} {F0 Fx F H : Hp} {own : Ow} {σ : L2.St} {s : DS} {β : Type} {R : β → Hp → Hp → Ow → DS → Prop} {op : D → D → DS → Oc Sl} {r : R2} {m : Bool → DS → Oc β} {x y : V} {dx dy : D} {Z : VK} (hD : OpD C E r op) (R0 : RelS C g F0 Fx F H own σ s) (hx : Rp C g F x dx) (hy : Rp C g F y dy)
    (p : Post C E g F0 Fx σ R (((op dx dy s).bind boolOf).bind m)) (hk : ∀ bo F1 H1 own1 s1, RelS C g F0 Fx F1 H1 own1 σ s1 → LeH F F1 → Post C E g F0 Fx σ R (m bo s1) → Z (.bl bo) H1) : r x y H Z := by
  rw [oc_assoc] at p
  refine hD g F Fx F H own σ s x y dx dy Z R0.refl hx hy (Post.bind R0 p fun q F1 H1 own1 s1 R1' R1 le p1 v hv => ?_)
  unfold boolOf at p1
  split at p1
  · obtain ⟨v', e', hv⟩ := hv; cases e'; cases hv
    exact hk _ F1 H1 own1 s1 R1 le p1
  · exact p1.elim
theorem et_chain3 {o1 o2 o3 : CmpOp} (h1 : OpR X (compareOp o1) r1) (d1 : OpD ⟨X.K, X.mg⟩ E r1 p1) (h2 : OpR X (compareOp o2) r2) (d2 : OpD ⟨X.K, X.mg⟩ E r2 p2) (h3 : OpR X (compareOp o3) r3) (d3 : OpD ⟨X.K, X.mg⟩ E r3 p3)
    (ha : EO X E a f) (hb : EO X E b h) (hc : EO X E c k) (hd : EO X E d l) (hm : lastMarks [o1, o2, o3] [b, c, d] = false := by with_unfolding_all rfl) : ET X E (.Compare a [o1, o2, o3] [b, c, d] pos) (tCh3 p1 p2 p3 f h k l) := by
  refine ⟨fun pins s σ H Q I ⟨g, Fx, F, own, sd, R, p⟩ => ?_⟩
  have key : tF ⟨X.K, X.mg⟩ E (fr f) σ H fun x H1 => tF ⟨X.K, X.mg⟩ E (fr h) σ H1 fun y H2 => r1 x y H2 fun z H3 => ∃ q, z = .bl q ∧ if q = true then tF ⟨X.K, X.mg⟩ E (fr k) σ H3 fun y2 H4 => r2 y y2 H4 fun z H5 => ∃ q, z = .bl q ∧ if q = true then tF ⟨X.K, X.mg⟩ E (fr l) σ H5 fun y3 H6 => r3 y2 y3 H6 fun z H7 => ∃ q, z = .bl q ∧ Q q H7 else Q false H5 else Q false H3 := by
    refine tF.bind R p fun dx F1 H1 own1 s1 x R1 le hx q1 => ?_
    refine tF.bind R1 q1 fun dy F2 H2 own2 s2 y R2 le2 hy q2 => ?_
    refine opD_bool d1 R2 (hx.mono le2) hy q2 fun b1 F3 H3 own3 s3 R3 le3 q3 => ⟨_, rfl, ?_⟩
    cases b1 with
    | false => exact q3.ok R3
    | true =>
      refine tF.bind R3 q3 fun dz F4 H4 own4 s4 z R4 le4 hz q4 => ?_
      refine opD_bool d2 R4 ((hy.mono le3).mono le4) hz q4 fun b2 F5 H5 own5 s5 R5 le5 q5 => ⟨_, rfl, ?_⟩
      cases b2 with
      | false => exact q5.ok R5
      | true =>
        refine tF.bind R5 q5 fun du F6 H6 own6 s6 u R6 le6 hu q6 => ?_
        have e6 : ((p3 dz du s6).bind boolOf).bind (fun b s => Oc.ok b s) = (p3 dz du s6).bind boolOf := by cases (p3 dz du s6).bind boolOf <;> rfl
        rw [← e6] at q6
        exact opD_bool d3 R6 ((hz.mono le5).mono le6) hu q6 fun b3 F7 H7 own7 s7 R7 le7 q7 => ⟨_, rfl, q7.ok R7⟩
  refine isTrue_chain (thn (ha.fr.run pins s σ H _ I key) fun v s1 ⟨x, H1, I1, rx, q1⟩ => test_link (thn (hb.fr.run pins s1 σ H1 _ I1 q1) fun u s2 ⟨y, H2, I2, ry, q2⟩ => thn (h1 pins s2 σ H2 x y v u _ I2 rx ry q2) fun t s3 ⟨z, H3, I3, rz, w1, ez, q3⟩ => ?_)) hm
  subst ez
  cases rz
  refine wpAny_truthy_bool ?_
  cases w1 with
  | false => exact ite_ff ⟨H3, I3, q3⟩
  | true =>
    refine ite_tt (test_link (thn (hc.fr.run pins s3 σ H3 _ I3 q3) fun u2 s4 ⟨y2, H4, I4, ry2, q4⟩ => thn (h2 pins s4 σ H4 y y2 u u2 _ I4 ry ry2 q4) fun t s5 ⟨z, H5, I5, rz, w2, ez, q5⟩ => ?_))
    subst ez
    cases rz
    refine wpAny_truthy_bool ?_
    cases w2 with
    | false => exact ite_ff ⟨H5, I5, q5⟩
    | true =>
      refine ite_tt (test_last (thn (hd.fr.run pins s5 σ H5 _ I5 q5) fun u3 s6 ⟨y3, H6, I6, ry3, q6⟩ => thn (h3 pins s6 σ H6 y2 y3 u2 u3 _ I6 ry2 ry3 q6) fun t s7 ⟨z, H7, I7, rz, w3, ez, q7⟩ => ?_))
      subst ez
      cases rz
      exact wpAny_truthy_bool ⟨H7, I7, q7⟩
end
def D.fld (x : Str) : List Str → List D → Option D
  | n :: ns, d :: ds => if x = n then some d else D.fld x ns ds
  | _, _ => none
theorem lookup_zip {C : Cf} {g : Gp} {F : Hp} {x : Str} : ∀ {ns : List Str} {vs : List V} {ds : List D} {d : D}, RpL C g F vs ds → D.fld x ns ds = some d → ∃ v, (ns.zip vs).lookup x = some v ∧ Rp C g F v d
  | n :: ns, _, _, d, .cons a b, h => by
    unfold D.fld at h
    by_cases e : x = n
    · rw [if_pos e] at h; cases h
      exact ⟨_, by rw [e]; simp [List.lookup], a⟩
    · rw [if_neg e] at h
      obtain ⟨v, h1, h2⟩ := lookup_zip b h
      have q : (x == n) = false := by simpa using e
      exact ⟨v, by rw [List.zip_cons_cons, List.lookup_cons, q]; exact h1, h2⟩
  | [], _, _, _, _, h => by simp [D.fld] at h
def fldD (c x : Str) : D → DS → Oc Sl
  | .obj c' ns ds, s => if c' = c then match D.fld x ns ds with
    | some d => .ok (.fz d) s
    | none => .wr else .wr
  | _, _ => .wr
section
variable {E : XK} {X : Cx} {k n : Nat} {e o : Expr} {es : List Expr} {f : DS → Oc Sl} {fs : DS → Oc (List D)} {pos apos p : Pos} {CA fm : Addr} {c x m : Str} {fd : FuncData} {ps : List Str} {mf : MF} {dvs : List V} {dus : List Value} {dd : List D}
theorem eo_fld (hC : X.mg c = some (.ref CA)) (cls : Cls X.K CA) (na : NoAttr X.K CA x) (he : EO X E e f) (hb : attributeBase e x X.env (eval e X.env) = eval e X.env := by rfl) : EO X E (.Attribute e x pos) (una (fldD c x) f) := (pe_fld he.fr hb).mono fun σ H Q ⟨g, Fx, F, own, s, R, p⟩ => by
  refine tF.bind (k := fldD c x) R p fun d F1 H1 own1 s1 v R1 le hv p1 => ?_
  unfold fldD at p1
  split at p1
  · split at p1
    · rename_i ec
      split at p1
      · rename_i d' hd'
        cases hv with | obj h1 h2 h3 h4 =>
        obtain ⟨v, hl, rv⟩ := lookup_zip h4 hd'
        have h2 : X.mg _ = some _ := h2
        rw [ec, hC] at h2
        cases h2
        exact ⟨_, CA, _, _, v, rfl, R1.le _ _ h1, cls, na, hl, p1.ok R1 _ ⟨_, rfl, rv⟩⟩
      · exact p1.elim
    · exact p1.elim
  · exact p1.elim
def callM (c m : Str) (mf : MF) (dd : List D) (f : DS → Oc Sl) (fs : DS → Oc (List D)) : DS → Oc Sl := fun s => (fr f s).bind fun d s1 => match d with
  | .obj c' ns ds => if c' = c ∧ m ∉ ns then callD (fun as w => mf (.obj c' ns ds :: as) w) dd fs s1 else .wr
  | _ => .wr
theorem call_lenOwn {sp : Sp} (hs : PySem.W.findIn X.K (.ref CA) "__len__" = some (some (.ref fm))) (hf : PySem.W.isFn X.K (.ref fm) = true) (G : FnOk X.prog X.w X.K X.mg X.base (L2.CX X.prog X.w) k fm fd ["self"] sp) (hb : Binds X.K fd ["self"] []) (hr : Room (k + 1) X.A) :
    CallR X (.builtin "len") (fun xs H Q => ∃ x dx fs, xs = [.ref x] ∧ H x = some (.ins CA dx fs) ∧ sp [.ref x] H (fun v H' => ∃ n : Int, v = .int n ∧ 0 ≤ n ∧ n < 2 ^ 63 ∧ Q (.int n) H') E0) := by
  intro pins s σ H xs us Q I r h
  obtain ⟨x, dx, fs, rfl, hx, q⟩ := h
  rw [Vals.ref1 r]
  obtain ⟨mA, O, _⟩ := ins_get I.hok hx
  obtain ⟨m, F⟩ := I.fr
  obtain ⟨od, ho, _⟩ := lookIn_ns O.ns
  refine PySem.W.len_K (f := fm) F I.mod.kin (od := some od) ⟨O.obj, rfl, rfl, ho⟩ hs hf ?_
  refine wpAny_call (codeAny_mono (G.run X.A.in1 X.stack s H ⟨[.ref x], []⟩ [.ref x] [.ref x] _ E0 hr.in1 I.env0.in1 (hb s [.ref x] I.kIn rfl) (.cons rfl .nil) q) fun r s' hq => ?_)
  cases r with
  | error e =>
    obtain ⟨_, _, _, _, _, _, _, _, _, _, _, _, z⟩ := hq
    exact z.elim
  | ok fl =>
    cases fl with
    | ret u =>
      obtain ⟨v, H', I', rv, n, ev, h0, h1, qn⟩ := I.after hq
      subst ev
      obtain ⟨t, rfl⟩ := rv
      exact ⟨⟨h0, h1⟩, .int n, H', I'.tok _, ⟨_, rfl⟩, qn⟩
    | next => exact False.elim hq
    | brk => exact False.elim hq
    | cont => exact False.elim hq
def lenM (c : Str) (mf : MF) : D → DS → Oc Sl
  | .obj c' ns ds, s => if c' = c then match mf [.obj c' ns ds] s.w with
    | .ok (.fz (.int n)) w' => if 0 ≤ n ∧ rOk n = true then .ok (.fz (.int n)) ⟨s.sl, w'⟩ else .wr
    | _ => .wr else .wr
  | _, _ => .wr
theorem eo_lenM (hC : X.mg c = some (.ref CA)) (hs : PySem.W.findIn X.K (.ref CA) "__len__" = some (some (.ref fm))) (hf : PySem.W.isFn X.K (.ref fm) = true) (G : FnOk X.prog X.w X.K X.mg X.base (L2.CX X.prog X.w) k fm fd ["self"] (spD ⟨X.K, X.mg⟩ 1 mf)) (hb : Binds X.K fd ["self"] []) (hr : Room (k + 1) X.A) (hm : X.mg "len" = none) (he : EO X E e f)
    (hg : Gl X "len" := by rfl) (hst : starEach [e] X.env = (false, eval e X.env) :: starEach [] X.env := by rfl) (hpl : (backTo pos (starEach [] X.env)).any (·.1) = false := by rfl) : EO X E (.Call (.Name "len" p) [e] [] pos) (una (lenM c mf) f) :=
  (pe_callB (call_lenOwn hs hf G hb hr) hg hm PySem.boot_len (pa_cons he.fr pa_nil hst) (by decide) (by decide) hst hpl).mono fun σ H Q ⟨g, Fx, F, own, s, R, p⟩ => by
    refine tF.bind (k := lenM c mf) R p fun d F1 H1 own1 s1 v R1 le hv p1 => ?_
    unfold lenM at p1
    split at p1
    · split at p1
      · rename_i ec
        split at p1
        · rename_i n w' em
          obtain ⟨hn, p1⟩ := p1.ite
          have hv0 := hv
          cases hv with | obj h1 h2 h3 h4 =>
          have h2 : X.mg _ = some _ := h2
          rw [ec, hC] at h2
          cases h2
          refine ⟨_, _, _, rfl, R1.le _ _ h1, rfl, g, _, F1, _, s1.w, R1.toRel.callee, .cons hv0 .nil, ?_⟩
          rw [em]
          intro v F' H' own' R' hv'
          obtain ⟨v', e', hv'⟩ := hv'
          cases e'; cases hv'
          exact ⟨n, rfl, hn.1, (by have := (rOk_c hn.2).2; omega), p1 F' H' _ (R1.back R') _ ⟨_, rfl, .int _⟩⟩
        · exact p1.elim
      · exact p1.elim
    · exact p1.elim
def spI (C : Cf) (CA : Addr) (n : Nat) (m : MF) : Sp := fun vs H Q E => ∃ x dx rest, vs = .ref x :: rest ∧ rest.length = n ∧ H x = some (.ins CA dx []) ∧ ∃ g Fx F ds w, F x = none ∧ Fx x = none ∧ x ≠ g.P ∧ Rel C g F Fx F H (fun _ => none) w ∧ RpL C g F rest ds ∧
  match m ds w with
  | .ok (.fz d) w' => ∀ F' H' own', Rel C g F Fx F' H' own' w' → Rp C g F' (.ref x) d → Q .non H'
  | .ex e w' => ∀ F' H' own', Rel C g F Fx F' H' own' w' → exOk C E g F' H' e
  | _ => False
theorem Rel.grow {C : Cf} {g : Gp} {F0 Fx F H H' : Hp} {own : Ow} {w : Wd} (R : Rel C g F0 Fx F H own w) (le : LeH H H') : Rel C g F0 Fx F H' own w :=
  ⟨fun a o q => le _ _ (R.le _ _ q), R.ge, R.nw, fun a o q => le _ _ (R.fx _ _ q), fun a l q => by
    obtain ⟨h1, h2, h3, h4⟩ := R.ow a l q
    refine ⟨h1, h2, h3, ?_⟩
    cases e : H a with
    | none => exact absurd e h4
    | some o => rw [le _ _ e]; exact (fun z => nomatch z), le _ _ R.pen, R.penF, R.penX, R.cells, (R.tab.to (fun a ps q1 q2 q3 q4 => ⟨le _ _ q1, q2, q3, q4⟩) (fun _ _ q => q))⟩
theorem eo_make (hC : X.mg c = some (.ref CA)) (M : Mk X.K CA fm) (G : FnOk X.prog X.w X.K X.mg X.base (L2.CX X.prog X.w) k fm fd ps (spI ⟨X.K, X.mg⟩ CA n mf)) (hr : Room (k + 1) X.A) (hb : Binds X.K fd ps []) (hx : Passes (L2.CX X.prog X.w) X E) (hn : ∀ ds w, ds.length ≠ n → mf ds w = .wr)
    (hno : ∀ ds w r w', mf ds w = .ok r w' → ∃ d, r = .fz d) (ha : EA X E (e :: es) fs) (hg : Gl X c := by rfl) (hdb : (c == ("__debug__" : Str)) = false := by decide) (he : starEach (e :: es) X.env = (false, eval e X.env) :: starEach es X.env := by rfl) (hpl : (backTo pos (starEach es X.env)).any (·.1) = false := by rfl) :
    EO X E (.Call (.Name c p) (e :: es) [] pos) (callD mf [] fs) := (pe_make (dvs := []) M G hr hg hC hb .nil hx ha hdb he hpl).mono fun σ H Q ⟨g, Fx, F, own, s, R, p⟩ => by
    refine tA.bind R p fun ds F1 H1 own1 s1 vs R1 le hv p1 x dx hx0 hd0 hne => ?_
    have le2 : LeH H1 (upd (upd H1 dx (.own x)) x (.ins CA dx [])) := fun a o q => by
      rw [upd_ne (fun z => by rw [z, hx0] at q; cases q), upd_ne (fun z => by rw [z, hd0] at q; cases q)]; exact q
    have R2 := R1.toRel.callee.grow le2
    have xFx : fixO Fx H1 own1 x = none := by
      unfold fixO
      split
      · exact hx0
      · cases z : Fx x with
        | none => rfl
        | some o => rw [R1.fx _ _ z] at hx0; cases hx0
    rw [List.append_nil] at p1 ⊢
    refine ⟨x, dx, vs, rfl, ?_, upd_same, g, _, F1, ds, s1.w, R1.toRel.Fnone hx0, xFx, (fun z => by rw [z, R1.pen] at hx0; cases hx0), R2, hv, ?_⟩
    · rw [hv.length]
      by_cases h : ds.length = n
      · exact h
      · rw [hn _ _ h] at p1; exact p1.elim
    · cases e1 : mf ds s1.w with
      | ok r w' =>
        obtain ⟨d, rfl⟩ := hno _ _ _ _ e1
        rw [e1] at p1
        exact fun F' H' own' R' hd => ⟨rfl, p1 F' H' _ (R1.back R') _ ⟨_, rfl, hd⟩⟩
      | ex q w' =>
        rw [e1] at p1
        exact fun F' H' own' R' => p1 F' H' _ (R1.back R')
      | wr => rw [e1] at p1; exact p1
end
end DL
namespace DL
open PySem PySem.Spec L2
open PyProof.Rows hiding St
abbrev EK (X : Cx) (E : XK) (kws : List Keyword) (f : DS → Oc (List D)) : Prop := PK X kws (tA ⟨X.K, X.mg⟩ E f)
theorem _root_.L2.PK.mono {X : Cx} {e : List Keyword} {t t' : TA} (h : PK X e t) (k : ∀ σ H Q, t' σ H Q → t σ H Q) : PK X e t' := ⟨fun pos pins s σ H Q I q => h.run pos pins s σ H Q I (k σ H Q q)⟩
def callKD (m : MF) (fs ks : DS → Oc (List D)) : DS → Oc Sl := fun s => (fs s).bind fun ds s1 => (ks s1).bind fun es s2 => match m (ds ++ es) s2.w with
  | .ok r w' => .ok r ⟨s2.sl, w'⟩
  | .ex x w' => .ex x ⟨s2.sl, w'⟩
  | .wr => .wr
section
variable {X : Cx} {E : XK} {k n n1 n2 : Nat} {f : Addr} {fd : FuncData} {ps kn : List Str} {m : MF} {x : Str} {e : Expr} {es : List Expr} {kws : List Keyword} {fs ks : DS → Oc (List D)} {ff : DS → Oc Sl} {p pos kpos : Pos} {nm : Option Str}
theorem ek_nil : EK X E [] aNil := pk_nil.mono fun σ H Q ⟨g, Fx, F, own, s, R, p⟩ => p.ok R [] .nil
theorem ek_cons (ha : EO X E e ff) (hr : EK X E kws fs) : EK X E (⟨nm, e, kpos⟩ :: kws) (aCons ff fs) := (pk_cons ha.fr hr).mono fun σ H Q ⟨g, Fx, F, own, s, R, p⟩ => by
  refine tF.bind R p fun d F1 H1 own1 s1 v R1 le hv p1 => ?_
  refine tA.bind R1 p1 fun ds F2 H2 own2 s2 vs R2 le2 hvs p2 => ?_
  exact p2.ok R2 _ (.cons (hv.mono le2) hvs)
theorem eo_callK (G : FnOk X.prog X.w X.K X.mg X.base (L2.CX X.prog X.w) k f fd ps (spD ⟨X.K, X.mg⟩ n m)) (hr : Room k X.A) (hm : X.mg x = some (.ref f)) (hk : PySem.W.keepIn X.K (.ref f) = true) (hb : KBn X.K fd ps n1 kn (fun us ws => us ++ ws) (fun vs zs => vs ++ zs)) (hx : Passes (L2.CX X.prog X.w) X E)
    (h1 : ∀ s ds s', fs s = .ok ds s' → ds.length = n1) (h2 : ∀ s ds s', ks s = .ok ds s' → ds.length = kn.length) (hn : n1 + kn.length = n) (ha : EA X E (e :: es) fs) (hkw : EK X E kws ks) (hg : Gl X x := by rfl)
    (hall : (backToKw pos (keywordEach kws X.env)).all (·.1.isSome) = true := by rfl) (hks : (backToKw pos (keywordEach kws X.env)).filterMap (·.1) = kn := by rfl)
    (hdb : (x == ("__debug__" : Str)) = false := by decide) (he : starEach (e :: es) X.env = (false, eval e X.env) :: starEach es X.env := by rfl)
    (hpl : ((backTo pos (starEach (e :: es) X.env)).any (·.1) || (backToKw pos (keywordEach kws X.env)).any (·.1.isNone)) = false := by rfl) :
    EO X E (.Call (.Name x p) (e :: es) kws pos) (callKD m fs ks) := (pe_callN G hr hg hm hk hb hx ha hkw hall hks hdb he hpl).mono fun σ H Q ⟨g, Fx, F, own, s, R, q⟩ => by
  unfold callKD at q
  have lenA : ∀ {ds s1}, fs s = .ok ds s1 → ds.length = n1 := fun h => h1 _ _ _ h
  refine ⟨g, Fx, F, own, s, R.refl, ?_⟩
  cases e1 : fs s with
  | ok ds s1 =>
    rw [e1] at q
    intro F1 H1 own1 R1 vs hv
    have q : Post _ E g F Fx σ _ ((ks s1).bind _) := q
    refine ⟨g, Fx, F1, own1, s1, R1.refl, ?_⟩
    cases e2 : ks s1 with
    | ok es' s2 =>
      rw [e2] at q
      intro F2 H2 own2 R2 zs hz
      have R02 := R1.trans R2 fun _ _ q => q
      have l1 := lenA e1
      have l2 := h2 _ _ _ e2
      have hvz := (hv.mono R2.ge).append hz
      refine ⟨hv.length.trans l1, hz.length.trans l2, by rw [hvz.length, List.length_append, l1, l2]; exact hn, g, _, F2, ds ++ es', s2.w, R2.toRel.callee, hvz, ?_⟩
      have q : Post _ E g F Fx σ _ (match m (ds ++ es') s2.w with
        | .ok r w' => .ok r ⟨s2.sl, w'⟩
        | .ex x w' => .ex x ⟨s2.sl, w'⟩
        | .wr => .wr) := q
      cases e3 : m (ds ++ es') s2.w with
      | ok r w' =>
        rw [e3] at q
        refine fun v F' H' own' R' hv' => q F' H' _ (R02.back R') v (hv'.mono (fun _ _ q => q) (fun _ _ _ q => q) (fun a ha => ?_))
        show mergeO own2 own' a = _
        unfold mergeO
        rw [if_pos ha]
      | ex y w' =>
        rw [e3] at q
        exact fun F' H' own' R' => q F' H' _ (R02.back R')
      | wr => rw [e3] at q; exact q
    | ex y s2 => rw [e2] at q; exact fun F2 H2 own2 R2 => q F2 H2 own2 (R1.trans R2 fun _ _ q => q)
    | wr => rw [e2] at q; exact q
  | ex y s1 => rw [e1] at q; exact q
  | wr => rw [e1] at q; exact q
theorem aNil_len : ∀ s ds s', aNil s = .ok ds s' → ds.length = 0 := fun s ds s' h => by cases h; rfl
theorem aCons_len {j : Nat} (h : ∀ s ds s', fs s = .ok ds s' → ds.length = j) : ∀ s ds s', aCons ff fs s = .ok ds s' → ds.length = j + 1 := fun s ds s' hh => by
  unfold aCons at hh
  cases e1 : fr ff s with
  | ok d s1 =>
    rw [e1] at hh
    have hh : (fs s1).bind (fun xs s2 => Oc.ok (d :: xs) s2) = .ok ds s' := hh
    cases e2 : fs s1 with
    | ok xs s2 =>
      rw [e2] at hh
      cases hh
      rw [List.length_cons, h _ _ _ e2]
    | ex y s2 => rw [e2] at hh; cases hh
    | wr => rw [e2] at hh; cases hh
  | ex y s1 => rw [e1] at hh; cases hh
  | wr => rw [e1] at hh; cases hh
end
def enumD : Nat → List D → List D
  | _, [] => []
  | i, d :: r => .tup [.int i, d] :: enumD (i + 1) r
section
variable {C : Cf} {g : Gp} {F : Hp} {a b : Addr} {vs us : List V} {ds es : List D}
end
section
variable {X : Cx} {E : XK} {a b : Expr} {f h : DS → Oc Sl} {pos p tpos : Pos} {elts : List Expr} {kk : Nat}
end
end DL
namespace DL
open PySem PySem.Spec L2
open PyProof.Rows hiding St
theorem applied_rev {prog : Program} {w : World} {A : Around} {E : Value → Shared → Prop} {s : Shared} {sl : Addr} {vs : Value} {n : Nat} {Q : Int × Int × Nat → Shared → Prop} (hs : s.heap.IsSliceOf sl .none .none vs) (ps : IsPart vs (some (-1)))
    (h : Q ((n : Int) - 1, -1, n) s) : wpAny (model prog w) A (Builtin.Slice.sliceApplied (.ref sl) (pure (n : Int))) Q E s := by
  obtain ⟨ob, hob, hcl, hda⟩ := id hs
  unfold Builtin.Slice.sliceApplied Builtin.Slice.sliceFields
  have inner : wpAny (model prog w) A (Builtin.Slice.slicePartIndex vs) (fun o s' => o = some (-1) ∧ s' = s) E s := HT.slicePart_ ps ⟨rfl, rfl⟩
  refine wpAny_bind (wpAny_bind (wpAny_field hob hda (x := .none) rfl (wpAny_bind (wpAny_field hob hda (x := .none) rfl (wpAny_bind (wpAny_field hob hda (x := vs) rfl (wpAny_pure ?_)))))))
  refine wpAny_bind (HT.slicePart_ ps ?_)
  show wpAny _ _ (if ((-1 : Int) == 0) = true then _ else _) _ _ s
  rw [if_neg (by decide)]
  refine wpAny_bind (HT.slicePart_ .none (wpAny_bind (HT.slicePart_ .none (wpAny_bind (wpAny_pure ?_)))))
  have e1 : Builtin.Slice.sliceAdjust none none (-1) (n : Int) = ((n : Int) - 1, -1) := by simp [Builtin.Slice.sliceAdjust]
  show wpAny _ _ (match Builtin.Slice.sliceAdjust none none (-1) (n : Int) with | (lo, hi) => pure (lo, (-1 : Int), Builtin.Slice.slicePlaces lo hi (-1))) _ _ s
  rw [e1]
  have e2 : Builtin.Slice.slicePlaces ((n : Int) - 1) (-1) (-1) = n := by
    unfold Builtin.Slice.slicePlaces
    have a : ¬ ((-1 : Int) > 0) := by decide
    have b : (-(-1) : Int) = 1 := by decide
    simp only [a, if_false, b, Int.ediv_one]
    by_cases c : (n : Int) - 1 > -1
    · rw [if_pos c]; omega
    · rw [if_neg c]; omega
  show wpAny _ _ (pure ((n : Int) - 1, (-1 : Int), Builtin.Slice.slicePlaces ((n : Int) - 1) (-1) (-1))) _ _ s
  rw [e2]
  exact wpAny_pure h
theorem pick_rev (xs : Array Value) : ((List.range xs.size).filterMap fun (k : Nat) => xs[((xs.size : Int) - 1 + (k : Int) * -1).toNat]?).toArray = xs.toList.reverse.toArray := by
  congr 1
  have e : (fun (k : Nat) => xs[((xs.size : Int) - 1 + (k : Int) * -1).toNat]?) = fun (k : Nat) => xs[((xs.size : Int) - 1 - (k : Int)).toNat]? := by
    funext k
    congr 2
    omega
  rw [e]
  have z : (List.range xs.size).filterMap (fun (k : Nat) => xs[((xs.size : Int) - 1 - (k : Int)).toNat]?) = ((List.range xs.size).map fun k => xs.size - 1 - k).filterMap (xs[·]?) := by
    rw [show (fun (k : Nat) => xs[((xs.size : Int) - 1 - (k : Int)).toNat]?) = (xs[·]?) ∘ (fun (k : Nat) => ((xs.size : Int) - 1 - (k : Int)).toNat) from rfl, ← List.filterMap_map]
    congr 1
    refine List.map_congr_left fun k hk => ?_
    have := List.mem_range.mp hk
    omega
  rw [z, PySem.W.krv_range, List.filterMap_reverse, PySem.W.krv_all]
theorem get_tup_rev {prog : Program} {w : World} {A : Around} {E : Value → Shared → Prop} {s : Shared} {t sl : Addr} {items : Array Value} {vs : Value} {Q : Value → Shared → Prop} (ht : IsTup s.heap t items) (hs : s.heap.IsSliceOf sl .none .none vs) (ps : IsPart vs (some (-1))) (hsz : items.size ≤ sizeLine)
    (h : Q (.ref s.heap.objs.size) { s with heap := s.heap.push { cls := .type "tuple", data := .seq items.toList.reverse.toArray } }) : wpAny (model prog w) A (getItem (.ref t) (.ref sl)) Q E s := by
  have htake : sizeOk (.seq items.toList.reverse.toArray) := by
    show items.toList.reverse.toArray.size ≤ sizeLine
    simpa using hsz
  obtain ⟨ob, hob, hcl, hda⟩ := id hs
  have hTy : s.TypeIs (.ref sl) "slice" := ⟨ob, hob, hcl⟩
  unfold getItem
  try with_reducible refine wpAny_holding ?_
  first | refine wpAny_bind (wpAny_pure ?_) | skip
  refine wpAny_bind (wpAny_sequenceKey ht.typeIs (by decide) (wpAny_bind (wpAny_callSpecial?_slot (name := Str.ofString "__getitem__") ht.typeIs PyProof.Rows.slot_tuple_getitem (wpAny_call_entry PyProof.Rows.slot_tuple_getitem ht.typeIs entry_tuple_getitem ?_ (args_tuple_getitem _ _)))))
  show wpAny _ _ (Builtin.Tuple.tupleItemsOf (.ref t) >>= _) _ _ s
  refine wpAny_bind (tupleItemsOf_ ht (wpAny_bind (wpAny_typeOf hTy ?_)))
  rw [if_pos (by decide)]
  refine wpAny_bind (applied_rev hs ps ?_)
  have hno : ¬ ((((items.size : Int) - 1 == 0) && (-1 : Int) == 1 && items.size == items.size) = true) := by
    intro q
    rw [Bool.and_eq_true, Bool.and_eq_true] at q
    exact absurd q.1.2 (by decide)
  show wpAny _ _ (if (((items.size : Int) - 1 == 0) && (-1 : Int) == 1 && items.size == items.size) = true then _ else _) _ _ s
  rw [if_neg hno, pick_rev]
  first
    | exact wpAny_bind (m := Builtin.Tuple.tupleExact _) (wpAny_newObj_type (wpAny_pure ⟨_, rfl, wpAny_pure h⟩) htake)
    | exact wpAny_bind (m := Builtin.Tuple.tupleExact _) (wpAny_newObj_type (wpAny_bind (wpAny_pure (wpAny_pure ⟨_, rfl, wpAny_pure h⟩))) htake)
    | exact wpAny_bind (wpAny_bind (m := Builtin.Tuple.tupleExact _) (wpAny_newObj_type (wpAny_pure (wpAny_pure ⟨_, rfl, wpAny_pure h⟩)) htake))
    | exact wpAny_bind (wpAny_bind (m := Builtin.Tuple.tupleExact _) (wpAny_newObj_type (wpAny_pure ⟨_, rfl, wpAny_pure h⟩) htake))
def tRevA (K : PySem.W.Frag) (te : TE) : TE := fun σ H Q => te σ H fun x H1 => ∃ a xs, x = .ref a ∧ ((SqL K H1 a xs ∧ ∀ p, H1 p = none → Q (.ref p) (upd H1 p (.lst xs.reverse))) ∨ (SqT K H1 a xs ∧ ∀ p, H1 p = none → Q (.ref p) (upd H1 p (.tup xs.reverse))))
abbrev m1E (k : Nat) (p1 p2 p3 : Pos) : Expr := .Slice none none (some (.UnaryOp .USub (.Constant (.int 1) k p1) p2)) p3
section
variable {X : Cx} {E : XK} {e : Expr} {te : TE} {f h : DS → Oc Sl} {k : Nat} {p1 p2 p3 pos : Pos}
theorem pe_revA (he : PE X e te) : PE X (.Subscript e (m1E k p1 p2 p3) pos) (tRevA X.K te) := ⟨fun pins s σ H Q I hh => by
  refine Subscript_ (thn (he.run pins s σ H _ I hh) fun v s1 ⟨x, H1, I1, r1, a, xs, ex, alt⟩ => ?_)
  subst ex
  cases r1
  have hstep : PO X (some (.UnaryOp .USub (.Constant (.int 1) k p1) p2)) (tPart (tUn (rU fun i => .int (-i)) (tC (.int 1)))) := po_some (pe_un un_neg pe_int)
  refine wpAny_Slice (thn (po_none.run pins s1 σ H1 (fun o Hz => o = none ∧ Hz = H1) I1 ⟨rfl, rfl⟩) fun vl s2 ⟨l, H2, I2, pl, el, e2⟩ => thn (po_none.run pins s2 σ H2 (fun o Hz => o = none ∧ Hz = H2) I2 ⟨rfl, rfl⟩) fun vu s3 ⟨u, H3, I3, pu, eu, e3⟩ => thn (hstep.run pins s3 σ H3 (fun o Hz => o = some (-1) ∧ Hz = H3) I3 ⟨1, rfl, -1, rfl, rfl, rfl⟩) fun vs s4 ⟨o, H4, I4, ps, eo, e4⟩ => ?_)
  subst el e2 eu e3 eo e4
  cases pl
  cases pu
  have I5 : Inv X pins σ H4 { s4 with heap := s4.heap.push { cls := .type "slice", data := .fields #[.none, .none, vs] } } := I4.kept (t' := s4.toks) fun b ob q => Heap.get?_push_of_some _ q
  show wpAny (model X.prog X.w) X.A (subscriptTail e (m1E k p1 p2 p3) (.ref a) (.ref s4.heap.objs.size)) (EP X pins σ Q) X.xe { s4 with heap := s4.heap.push { cls := .type "slice", data := .fields #[.none, .none, vs] } }
  rcases alt with ⟨hx, q⟩ | ⟨hx, q⟩
  · obtain ⟨its, r, ht, hz⟩ := I5.list hx
    have hlen := r.length
    refine tail_any (ops := [.ref a, .ref s4.heap.objs.size]) ht.isList.typeIs (PySem.slot_list_getitem.lookup) (wpAny_getItem_list_slice ht.isList (Heap.IsSliceOf.new _ _ _ vs) .none .none ps (by decide) ?_ (by rw [List.size_toArray]; omega)) (by with_unfolding_all rfl)
    rw [PySem.W.krv_pick]
    exact ⟨.ref _, _, I5.laid (t' := s4.toks) (o := .lst xs.reverse) (fun b ob q => Heap.get?_push_of_some _ q) (Nat.le_refl _) ⟨by rw [List.length_reverse]; exact hz, _, 0, r.reverse, Heap.get?_push_size _ rfl⟩, rfl, q _ (I5.hok.fresh (Nat.le_refl _))⟩
  · obtain ⟨its, r, ht, hz⟩ := I5.tuple hx
    have hlen := r.length
    refine tail_any (ops := [.ref a, .ref s4.heap.objs.size]) ht.typeIs (PyProof.Rows.slot_tuple_getitem.lookup) (get_tup_rev ht (Heap.IsSliceOf.new _ _ _ vs) ps (by rw [List.size_toArray]; omega) ?_) (by with_unfolding_all rfl)
    exact ⟨.ref _, _, I5.laid (t' := s4.toks) (o := .tup xs.reverse) (fun b ob q => Heap.get?_push_of_some _ q) (Nat.le_refl _) ⟨by rw [List.length_reverse]; exact hz, _, r.reverse, IsTup.new _ _⟩, rfl, q _ (I5.hok.fresh (Nat.le_refl _))⟩⟩
def revD : D → DS → Oc Sl
  | .lst xs, s => .ok (.ow xs.reverse) s
  | .tup xs, s => .ok (.fz (.tup xs.reverse)) s
  | _, _ => .wr
theorem eo_rev (he : EO X E e f) : EO X E (.Subscript e (m1E k p1 p2 p3) pos) (una revD f) := (pe_revA he.fr).mono fun σ H Q ⟨g, Fx, F, own, s, R, p⟩ => by
  refine tF.bind (k := revD) R p fun d F1 H1 own1 s1 v R1 le hv p1 => ?_
  unfold revD at p1
  split at p1
  · cases hv with | lst h1 r1 =>
    exact ⟨_, _, rfl, .inl ⟨.inl (.inl (R1.le _ _ h1)), post_ow R1 r1.reverse p1⟩⟩
  · cases hv with | tup h1 r1 =>
    exact ⟨_, _, rfl, .inr ⟨sqT R1.le h1, post_tup R1 r1.reverse p1⟩⟩
  · exact p1.elim
end
def vListRng (f : DS → Oc Sl) : DS → Oc Sl := fun s => (fr f s).bind fun d s1 => match d with
  | .int n => if rOk n = true ∧ n ≤ 1000 then .ok (.ow (rngD 0 n.toNat)) s1 else .wr
  | _ => .wr
def dnD (i : Int) (n : Nat) : List D := (List.range n).map fun k => D.int (i + (k : Nat) * (-1))
def itRngD (f h : DS → Oc Sl) : DS → Oc (List D) := fun s => (fr f s).bind fun d s1 => (fr h s1).bind fun e s2 => match d, e with
  | .int i, .int j => if rOk i = true ∧ rOk j = true then .ok (dnD i (i - j).toNat) s2 else .wr
  | _, _ => .wr
section
variable {X : Cx} {E : XK} {tg a b c : Expr} {f h : DS → Oc Sl} {p pr pos : Pos} {k : Nat} {p1 p2 : Pos}
end
section
variable {X : Cx} {E : XK} {fe e : Expr} {es : List Expr} {h : DS → Oc Sl} {fs : DS → Oc (List D)} {pos : Pos} {k n : Nat} {tab : List (Str × MF)}
structure HeldD (X : Cx) (k n : Nat) (x : Str) (m : MF) : Prop where
  ex : ∃ f fd ps, X.mg x = some (.ref f) ∧ FnOk X.prog X.w X.K X.mg X.base (L2.CX X.prog X.w) k f fd ps (spD ⟨X.K, X.mg⟩ n m) ∧ PySem.W.keepIn X.K (.ref f) = true ∧ Binds X.K fd ps [] ∧ ∀ ds w, ds.length ≠ n → m ds w = .wr
end
section
variable {X : Cx} {E : XK} {C : Cf} {e : Expr} {f : DS → Oc Pl} {pos p : Pos}
end
def sPar0 (i j : Nat) (f : DS → Oc Sl) (n : Int) : DS → Oc Fl := fun s => (f s).bind fun r s1 => .ok .nx ((s1.put i r).put j (.fz (.int n)))
end DL
namespace DL
open PySem PySem.Spec L2
open PyProof.Rows hiding St
section
variable {P : Program} {w : World} {K : PySem.W.Frag} {mg : Str → Option Value} {base : Heap}
theorem fn_DD {x qual : Str} {st : Stmt} {dvs : List V} {f : Addr} {fd : FuncData} {N ps : List Str} {k : Nat} {b : DS → Oc Fl} (F : FunD K x qual (defArgs st) (defBody st) (defScope st) dvs [] f fd) (S : FnScope N ps (defScope st))
    (hbody : ∀ (cdv : Value) (A : Around) (outer : List Env) (s : Shared) (H : Hp) (E : XK), Room k (A.deeper (envOfC qual (defScope st) s.heap.objs.size f cdv)) →
      SB (cxOf (L2.CX P w) P w K mg base N qual (defScope st) f cdv A outer s H E) E (defBody st) b) : FnOk P w K mg base (L2.CX P w) (k + 1) f fd ps (spD ⟨K, mg⟩ ps.length (runD ps.length N.length b)) := by
  refine F.ok S (fun vs H Q E h => h.1) fun cdv A outer s H vs Q E hr h => ⟨_, hbody cdv A outer s H E hr, ?_⟩
  obtain ⟨hl, g, Fx, Fz, ds, wd, R, r, p⟩ := h
  refine ⟨g, Fx, Fz, fun _ => none, _, RelS.start R r N, ?_⟩
  unfold runD at p
  rw [if_pos (by rw [← r.length]; exact hl)] at p
  cases e : b ⟨ds.map Sl.fz ++ List.replicate (N.length - ds.length) .no, wd⟩ with
  | ok q s' =>
    rw [e] at p
    cases q with
    | nx => exact fun F' H' own' σ' R' => p .non F' H' own' R'.toRel ⟨_, rfl, .non⟩
    | rt v => exact fun v F' H' own' σ' R' hv => p v F' H' own' R'.toRel hv
    | bk => exact p.elim
    | ct => exact p.elim
  | ex q s' => rw [e] at p; exact fun F' H' own' σ' R' => p F' H' own' R'.toRel
  | wr => rw [e] at p; exact p
end
structure OkF (P : Program) (w : World) (K : PySem.W.Frag) (mg : Str → Option Value) (base : Heap) (k : Nat) (a : Addr) (ps : List Str) (m : MF) : Prop where
  ex : ∃ fd, FnOk P w K mg base (L2.CX P w) k a fd ps (spD ⟨K, mg⟩ ps.length m) ∧ Binds K fd ps []
  kp : PySem.W.keepIn K (.ref a) = true
structure OkFd (P : Program) (w : World) (K : PySem.W.Frag) (mg : Str → Option Value) (base : Heap) (k : Nat) (a : Addr) (ps : List Str) (dvs : List V) (n : Nat) (ks : List Str) (m : MF) : Prop where
  ex : ∃ fd, FnOk P w K mg base (L2.CX P w) k a fd ps (spD ⟨K, mg⟩ ps.length m) ∧ (∃ dus, Vals dvs dus ∧ Binds K fd ps dus) ∧ KBn K fd ps n ks (fun us ws => us ++ ws) (fun vs zs => vs ++ zs)
  kp : PySem.W.keepIn K (.ref a) = true
section
variable {X : Cx} {k n : Nat} {x : Str} {m : MF} {tab : List (Str × MF)}
theorem OkF.held {j : Nat} {a : Addr} {ps : List Str} (o : OkF X.prog X.w X.K X.mg X.base j a ps m) (hj : j ≤ k) (g : X.mg x = some (.ref a)) (hn : ∀ ds w, ds.length ≠ n → m ds w = .wr) (hl : ps.length = n) : HeldD X k n x m := by
  obtain ⟨fd, G, b⟩ := o.ex
  subst hl
  exact ⟨a, fd, ps, g, G.mono hj, o.kp, b, hn⟩
end
theorem kbn_all {K : PySem.W.Frag} {x qual : Str} {params : Arguments} {body : List Stmt} {scope : Scope} {dvs : List V} {f : Addr} {fd : FuncData} {ps ks : List Str} {n : Nat} (F : FunD K x qual params body scope dvs [] f fd) (hd : dvs ≠ [])
    (h : ∀ (T : Addr) (kV doc pm : Value) (an : Option Addr) (cdv ct : Value) (us its ws : List Value), us.length = n → its.length = dvs.length → ws.length = ks.length →
      ∃ k, bindArgs (PySem.W.fnOf x qual params body scope (.ref T) kV doc pm an cdv ct) ⟨us, ks.zip ws⟩ = seqItems? (.ref T) >>= k ∧ k (some its.toArray) = pure (ps.zip (us ++ ws))) : KBn K fd ps n ks (fun us ws => us ++ ws) (fun vs zs => vs ++ zs) := by
  obtain ⟨oc, od, dV, kV, doc, pm, an, cdv, ct, osl, rfl, lk, hcd, hD, hK⟩ := F.ex
  rcases hD with ⟨e, _⟩ | ⟨_, T, o, its, m, rfl, lT, oT, rT⟩
  · exact absurd e hd
  · refine ⟨fun s us ws X l1 l2 => ?_, fun r1 r2 => r1.append r2⟩
    obtain ⟨k, e1, e2⟩ := h T kV doc pm an cdv ct us its ws l1 rT.length.symm l2
    refine BindsTo.of_looks fun M => ?_
    rw [e1]
    exact looks_items X lT oT (.of_pure e2)
end DL
namespace DL
open PySem PySem.Spec L2
open PyProof.Rows hiding St
def penG (v : Wd → D) (f : DS → Oc Sl) : DS → Oc Sl := fun s => (fr f s).bind fun d s1 => match d with
  | .pen => .ok (.fz (v s1.w)) s1
  | _ => .wr
def penS (v : Int → Wd → Wd) (f h : DS → Oc Sl) : DS → Oc Fl := fun s => (fr f s).bind fun d s1 => (fr h s1).bind fun q s2 => match d, q with
  | .int n, .pen => .ok .nx ⟨s2.sl, v n s2.w⟩
  | _, _ => .wr
def setT (n : Int) (w : Wd) : Wd := { w with turn := n }
def setL (n : Int) (w : Wd) : Wd := { w with left := n }
def penKV (g : Gp) (w : Wd) : List (Key × V) := [(.inr "cells", .ref g.c), (.inr "turn", .int w.turn), (.inr "left", .int w.left)]
theorem RelS.penSet {C : Cf} {g : Gp} {F0 Fx F H : Hp} {own : Ow} {σ : L2.St} {s : DS} {w' : Wd} (R : RelS C g F0 Fx F H own σ s) (hc : w'.cs = s.w.cs) : RelS C g F0 Fx F (upd H g.P (penO g w')) own σ ⟨s.sl, w'⟩ := by
  have nF : ∀ a o, F a = some o → a ≠ g.P := fun a o q z => by rw [z, R.penF] at q; cases q
  have nX : ∀ a o, Fx a = some o → a ≠ g.P := fun a o q z => by rw [z, R.penX] at q; cases q
  refine { le := fun a o q => by rw [upd_ne (nF a o q)]; exact R.le _ _ q, ge := R.ge, nw := R.nw, fx := fun a o q => by rw [upd_ne (nX a o q)]; exact R.fx _ _ q, ow := fun a l q => ?_, pen := upd_same, penF := R.penF, penX := R.penX, cells := ?_, tab := (R.tab.to (fun a ps q1 q2 q3 q4 => have e : a ≠ g.P := fun z => by rw [z, R.pen] at q1; exact nomatch q1
    ⟨by rw [upd_ne e]; exact q1, q2, q3, q4⟩) (fun _ _ q => q)), len := R.len, at_ := fun i r ov h1 h2 => ?_ }
  · obtain ⟨h1, h2, h3, h4⟩ := R.ow a l q
    exact ⟨h1, h2, h3, by rw [upd_ne h3]; exact h4⟩
  · show F g.c = some (.lst (w'.cs.map V.int))
    rw [hc]; exact R.cells
  · refine (R.at_ i r ov h1 h2).mono (fun _ _ q => q) (fun a o qa q => ?_) (fun _ q => q)
    rw [upd_ne (R.ow a _ qa).2.2.1]; exact q
section
variable {X : Cx} {E : XK} {o e : Expr} {f h : DS → Oc Sl} {pos pos' pk : Pos} {kk : Nat}
theorem eo_penL (hu : X.A.units + 64 < cLine) (ho : EO X E o f) : EO X E (.Subscript o (.Constant (.str "left") kk pk) pos) (penG (fun w => .int w.left) f) := (pe_dget (by omega) ho.fr pe_str (fun _ _ => rfl)).mono fun σ H Q ⟨g, Fx, F, own, s, R, p⟩ => by
  refine tF.bind R p fun d F1 H1 own1 s1 v R1 le hv p1 => ?_
  split at p1
  · cases hv
    exact ⟨g.P, .int s1.w.left, rfl, .inl ⟨penKV g s1.w, .inr "left", .inl R1.pen, rfl, rfl⟩, p1.ok R1 _ ⟨_, rfl, .int _⟩⟩
  · exact p1.elim
theorem eo_penT (hu : X.A.units + 64 < cLine) (ho : EO X E o f) : EO X E (.Subscript o (.Constant (.str "turn") kk pk) pos) (penG (fun w => .int w.turn) f) := (pe_dget (by omega) ho.fr pe_str (fun _ _ => rfl)).mono fun σ H Q ⟨g, Fx, F, own, s, R, p⟩ => by
  refine tF.bind R p fun d F1 H1 own1 s1 v R1 le hv p1 => ?_
  split at p1
  · cases hv
    exact ⟨g.P, .int s1.w.turn, rfl, .inl ⟨penKV g s1.w, .inr "turn", .inl R1.pen, rfl, rfl⟩, p1.ok R1 _ ⟨_, rfl, .int _⟩⟩
  · exact p1.elim
theorem eo_penC (hu : X.A.units + 64 < cLine) (ho : EO X E o f) : EO X E (.Subscript o (.Constant (.str "cells") kk pk) pos) (penG (fun w => .lst (w.cs.map D.int)) f) := (pe_dget (by omega) ho.fr pe_str (fun _ _ => rfl)).mono fun σ H Q ⟨g, Fx, F, own, s, R, p⟩ => by
  refine tF.bind R p fun d F1 H1 own1 s1 v R1 le hv p1 => ?_
  split at p1
  · cases hv
    exact ⟨g.P, .ref g.c, rfl, .inl ⟨penKV g s1.w, .inr "cells", .inl R1.pen, rfl, rfl⟩, p1.ok R1 _ ⟨_, rfl, .lst R1.cells (RpL.ofInts _)⟩⟩
  · exact p1.elim
theorem ss_penL (hu : X.A.units + 64 < cLine) (he : EO X E e f) (ho : EO X E o h) (hs : swapsWith e (some (.Subscript o (.Constant (.str "left") kk pk) pos')) pos.line X.env = pure false := by rfl) :
    SS X E (.Assign [.Subscript o (.Constant (.str "left") kk pk) pos'] e pos) (penS setL f h) := (ps_dput (by omega) ho.fr pe_str he.fr hs).mono fun Dn σ H ⟨g, Fx, F, own, s, R, p⟩ => by
  refine tF.bindS R p fun d F1 H1 own1 s1 v R1 le hv p1 => ?_
  refine tF.bindS R1 p1 fun q F2 H2 own2 s2 v2 R2 le2 hv2 p2 => ?_
  split at p2
  · rename_i n
    cases hv; cases hv2
    refine ⟨g.P, _, rfl, DPut.k (k := .inr "left") R2.pen (by rw [sizeLine_eq]; show (3 : Nat) < 16777216; decide), ?_⟩
    exact p2 _ _ _ _ (R2.penSet (w' := setL n s2.w) rfl)
  · exact p2.elim
theorem ss_penT (hu : X.A.units + 64 < cLine) (he : EO X E e f) (ho : EO X E o h) (hs : swapsWith e (some (.Subscript o (.Constant (.str "turn") kk pk) pos')) pos.line X.env = pure false := by rfl) :
    SS X E (.Assign [.Subscript o (.Constant (.str "turn") kk pk) pos'] e pos) (penS setT f h) := (ps_dput (by omega) ho.fr pe_str he.fr hs).mono fun Dn σ H ⟨g, Fx, F, own, s, R, p⟩ => by
  refine tF.bindS R p fun d F1 H1 own1 s1 v R1 le hv p1 => ?_
  refine tF.bindS R1 p1 fun q F2 H2 own2 s2 v2 R2 le2 hv2 p2 => ?_
  split at p2
  · rename_i n
    cases hv; cases hv2
    refine ⟨g.P, _, rfl, DPut.k (k := .inr "turn") R2.pen (by rw [sizeLine_eq]; show (3 : Nat) < 16777216; decide), ?_⟩
    exact p2 _ _ _ _ (R2.penSet (w' := setT n s2.w) rfl)
  · exact p2.elim
end
theorem eo_ty {X : Cx} {E : XK} {x : Str} {id : String} {pos : Pos} (hm : X.mg x = none) (hv : bootBuiltins x = some (.type id)) (hg : Gl X x := by rfl) (hn : x ≠ "__name__" := by decide) (hd : (x == ("__debug__" : Str)) = false := by decide) : EO X E (.Name x pos) (cn (.ty id)) :=
  eo_cn (pe_bltn (v := .ty id) hg hm hv rfl hn hd) fun _ _ _ => .ty _
theorem eo_gintE {X : Cx} {E : XK} {x : Str} {i : Int} {pos : Pos} (h : ∃ t, X.mg x = some (.int i t)) (hg : Gl X x := by rfl) (hd : (x == ("__debug__" : Str)) = false := by decide) : EO X E (.Name x pos) (cn (.int i)) := by
  obtain ⟨t, h⟩ := h
  exact eo_gint h hg hd
theorem hu65 {k : Nat} {A : Around} (r : Room k A) : A.units + 65 < cLine := by have := r.un; omega
def spPen (K : PySem.W.Frag) : Sp := fun vs H Q _ => ∃ (a : Addr) (ns : List Int), vs = [.ref a] ∧ SqL K H a (ns.map V.int) ∧ ns.length ≤ 63 ∧
  ∀ (P c : Addr) (H' : Hp), c ≠ P → H' P = some (penO ⟨P, c, []⟩ ⟨0, 0, ns⟩) → H' c = some (.lst (ns.map V.int)) → H P = none → H c = none → LeH H H' → Q (.ref P) H'
theorem cut63 {xs : List V} (h : xs.length ≤ 63) : cutV xs none (some 63) = xs := by
  unfold cutV
  have e1 : HT.sIx xs.length 0 none = 0 := rfl
  have e2 : HT.sIx xs.length xs.length (some 63) = xs.length := by
    show (if (63 : Int) < 0 then ((63 : Int) + (xs.length : Int)).toNat else min (63 : Int).toNat xs.length) = _
    rw [if_neg (by decide)]
    show min 63 xs.length = xs.length
    omega
  rw [e1, e2]
  simp
abbrev tPenT (K : PySem.W.Frag) : TE := tDisp [(tC (.str "cells"), tCB (fun xs H Q => ∃ p ys, xs = [.ref p] ∧ (SqL K H p ys ∨ SqT K H p ys) ∧ ∀ l, H l = none → Q (.ref l) (upd H l (.lst ys))) (tCons (tSl (rSlL K) (tVar 0) tNoPart (tPart (tC (.int 63)))) tNil)), (tC (.str "turn"), tC (.int 0)), (tC (.str "left"), tC (.int 0))]
theorem pure_pen {K : PySem.W.Frag} {N : List Str} {vs : List V} {H : Hp} {Q : VK} {E : XK} (h : spPen K vs H Q E) : tRet (tPenT K) { nx := fun _ H' => Q .non H', rt := Q } (L2.start N vs) H := by
  obtain ⟨a, ns, rfl, hS, hl, q⟩ := h
  intro p hp
  have hl' : (ns.map V.int).length ≤ 63 := by rw [List.length_map]; exact hl
  have hS1 : SqL K (upd H p (.dK [])) a (ns.map V.int) := by
    rcases hS with (h | ⟨o, h⟩) | h
    · exact .inl (.inl (upd_le hp _ _ h))
    · exact .inl (.inr ⟨o, upd_le hp _ _ h⟩)
    · exact .inr h
  refine ⟨.ref a, rfl, 63, rfl, a, _, rfl, hS1, fun b hb => ⟨b, _, rfl, .inl (.inl (.inl upd_same)), fun c hc => ?_⟩⟩
  rw [cut63 hl'] at hc ⊢
  have n1 : p ≠ c := fun z => by rw [z] at hc; by_cases e : c = b
                                 · rw [e, upd_same] at hc; cases hc
                                 · rw [upd_ne e, ← z, upd_same] at hc; cases hc
  have n2 : p ≠ b := fun z => by rw [← z, upd_same] at hb; cases hb
  refine ⟨by rw [upd_ne n1, upd_ne n2, upd_same], [(.inr "cells", .ref c), (.inr "turn", .int 0), (.inr "left", .int 0)], rfl, (by show (3 : Nat) ≤ 15; decide), ?_⟩
  have kp : ∀ x u, H x = some u → x ≠ p := fun x u e z => by rw [z, hp] at e; cases e
  have kb : ∀ x u, H x = some u → x ≠ b := fun x u e z => by have e2 := upd_le (o := .dK []) hp x u e; rw [z, hb] at e2; cases e2
  have kc : ∀ x u, H x = some u → x ≠ c := fun x u e z => by have e2 := upd_le (o := .lst (ns.map V.int)) hb x u (upd_le (o := .dK []) hp x u e); rw [z, hc] at e2; cases e2
  have nc : H c = none := by
    cases e : H c with
    | none => rfl
    | some u => exact absurd rfl (kc c u e)
  refine q p c _ (Ne.symm n1) ?_ ?_ hp nc ?_
  · rw [upd_same]; rfl
  · rw [upd_ne (Ne.symm n1), upd_same]
  · exact fun x u e => by rw [upd_ne (kp x u e), upd_ne (kc x u e), upd_ne (kb x u e), upd_ne (kp x u e)]; exact e
def s0 (n : Nat) (ns : List Int) : DS := ⟨.no :: .fz .pen :: List.replicate n .no, ⟨0, 0, ns⟩⟩
end DL
namespace DL
open PySem PySem.Spec L2
open PyProof.Rows hiding St
def ltT (h : Heap) (B : Int) (v u : Value) : Bool := decide (TS.code B (TS.intsOf h v) < TS.code B (TS.intsOf h u))
theorem ltT_swo (h : Heap) (B : Int) : SrtO.Swo (ltT h B) := by
  constructor
  · intro x y z
    have z := of_decide_eq_true (p := TS.code B (TS.intsOf h x) < TS.code B (TS.intsOf h y)) z
    exact decide_eq_false (p := TS.code B (TS.intsOf h y) < TS.code B (TS.intsOf h x)) (by omega)
  · intro x y z z1 z2
    have z1 := of_decide_eq_false (p := TS.code B (TS.intsOf h y) < TS.code B (TS.intsOf h x)) z1
    have z2 := of_decide_eq_false (p := TS.code B (TS.intsOf h z) < TS.code B (TS.intsOf h y)) z2
    exact decide_eq_false (p := TS.code B (TS.intsOf h z) < TS.code B (TS.intsOf h x)) (by omega)
section
variable {prog : Program} {w : World} {A : Around} {E : Value → Shared → Prop} {s : Shared}
theorem tups_cmp {h0 : Heap} {d : Nat} {B : Int} {vs : List Value} (each : TS.TupsOk s.heap d B vs) (old : ∀ v ∈ vs, ∀ ns, TS.TupInts s.heap v ns → TS.intsOf h0 v = ns) : SrtO.Cmp prog w A s (tuples' true) (fun p => p.1 ∈ vs) (SrtO.lt2 (ltT h0 B)) := by
  intro p q mp mq
  obtain ⟨ns, tp, lp, bp⟩ := each _ mp
  obtain ⟨ms, tq, lq, bq⟩ := each _ mq
  have word : SrtO.lt2 (ltT h0 B) p q = decide (TS.code B ns < TS.code B ms) := by
    show decide (TS.code B (TS.intsOf h0 p.1) < TS.code B (TS.intsOf h0 q.1)) = _
    rw [old _ mp _ tp, old _ mq _ tq]
  obtain ⟨x, xs, ex, ⟨o, ho, hc, n, hd⟩, ix⟩ := tp
  obtain ⟨y, ys, ey, ⟨o', ho', hc', n', hd'⟩, iy⟩ := tq
  rw [ex, ey]
  refine PySem.W.kat_lt ho hd ho' hd' ?_
  have nx := ix.length
  have ny := iy.length
  rw [Array.length_toList] at nx ny
  rw [decide_eq_false (show ¬ xs.size < ys.size by omega)]
  exact TS.lex_ints 0 ix iy (by omega) bp bq ⟨rfl, word.symm⟩
theorem tups_sortable {h0 : Heap} {a : Addr} {d : Nat} {B : Int} {vs : List Value} (hd : 1 ≤ d) (some_ : 0 < vs.length) (each : TS.TupsOk s.heap d B vs) (old : ∀ v ∈ vs, ∀ ns, TS.TupInts s.heap v ns → TS.intsOf h0 v = ns) (notT : ∀ o, s.heap.get? a = some o → o.cls ≠ .type "tuple") :
    SrtO.SortableO prog w A s a vs (ltT h0 B) := by
  intro h' same
  have stays : ∀ b o, s.heap.get? b = some o → o.cls = .type "tuple" → h'.get? b = some o := fun b o e c => same b o (fun z => notT o (by rw [← z]; exact e) c) e
  have each' : TS.TupsOk h' d B vs := each.keeps stays
  obtain ⟨fs, z1, z2, z3⟩ := TS.firsts_of hd vs each'
  refine ⟨tuples' true, fun Q E q => ?_, tups_cmp (s := { s with heap := h' }) each' fun v m ns t => ?_⟩
  · refine PySem.W.kat_kind (s := { s with heap := h' }) (T := .type "int") z1 (by omega) (fun f m => ?_) (by rfl) ?_
    · obtain ⟨i, tk, rfl⟩ := z3 f m
      exact PySem.W.Looks.now
    · rw [show (Value.type "int" != Value.type "tuple") = true by decide +kernel]
      exact q
  · obtain ⟨ms, t', _⟩ := each v m
    have e : ns = ms := t.ints.symm.trans (t'.keeps stays).ints
    rw [e]
    exact old v m ms t'
end
def rSortB (K : PySem.W.Frag) (d : Nat) (B : Int) : List V → Hp → VK → Prop := fun vs H Q => ∃ (a : Addr) (xs : List V), vs = [V.ref a] ∧ SqL K H a xs ∧ (∀ x ∈ xs, ∃ ns, TupI K H x ns ∧ ns.length = d ∧ TS.Bd B ns) ∧
  ∀ (ys : List V) (p : Addr), ys.Perm xs → ys.Pairwise (fun x y => ∀ n m, TupI K H x n → TupI K H y m → TS.code B n ≤ TS.code B m) → H p = none → Q (.ref p) (upd H p (.lst ys))
theorem cr_sortB {X : Cx} {d : Nat} {B : Int} (hd : 1 ≤ d) : CallR X (.builtin "sorted") (rSortB X.K d B) := by
  intro pins s σ H vs us Q I r pre
  obtain ⟨a, xs, rfl, isL, each, q⟩ := pre
  obtain ⟨its, rel, at_, few⟩ := I.list isL
  rw [Vals.ref1 r]
  obtain ⟨back, refs⟩ := bkV_refs rel fun x m => let ⟨_, ⟨t, e, _⟩, _⟩ := each x m; ⟨t, e⟩
  have each' : TS.TupsOk s.heap d B its := fun v m => by
    obtain ⟨t, rfl⟩ := refs v m
    obtain ⟨ns, ⟨t', e, sq⟩, nl, nb⟩ := each (V.ref t) (by rw [back]; exact List.mem_map.mpr ⟨_, m, rfl⟩)
    cases e
    exact ⟨ns, tupI_raw I sq, nl, nb⟩
  refine SrtO.sorted_ord (ltT_swo s.heap B) at_.isList (by rw [← rel.length]; exact few) (fun two h1 b is kept => ?_) fun out up st => ?_
  · have stays : ∀ c o, s.heap.get? c = some o → o.cls = .type "tuple" → h1.get? c = some o := fun c o e _ => (kept c o e).2
    refine tups_sortable (s := { s with heap := h1 }) hd (by omega) (each'.keeps stays) (fun v m ns t => ?_) fun o e c => ?_
    · obtain ⟨ms, t', _⟩ := each' v m
      exact t'.ints.trans ((t'.keeps stays).ints.symm.trans t.ints)
    · cases (is.symm.trans e)
      exact absurd (Value.type.inj c) (by decide)
  · obtain ⟨ep, laid⟩ := PyProof.Rows.sortedAll_at s.heap its out.toArray
    have outR : ∀ u ∈ out, ∃ t, u = Value.ref t := fun u m => refs u (st.perm.mem_iff.mp m)
    have pm : (out.map bkV).Perm xs := by rw [back]; exact st.perm.map bkV
    refine ⟨.ref _, upd H (s.heap.objs.size + 1) (.lst (out.map bkV)), I.laid (t' := s.toks) (fun _ _ => PyProof.Rows.sortedAll_old) (Nat.le_succ _) ⟨pm.length_eq ▸ few, out, ep, bkV_vals outR, laid⟩, rfl, q _ _ pm ?_ (I.hok.fresh (Nat.le_succ _))⟩
    refine List.pairwise_map.mpr (up.imp fun {u v} no n m hn hm => ?_)
    obtain ⟨t, et, ht⟩ := hn
    obtain ⟨t', et', ht'⟩ := hm
    have no := of_decide_eq_false (p := TS.code B (TS.intsOf s.heap v) < TS.code B (TS.intsOf s.heap u)) no
    rw [bkV_ref et, bkV_ref et', (tupI_raw I ht).ints, (tupI_raw I ht').ints] at no
    omega
section
variable {prog : Program} {w : World} {A : Around} {E : Value → Shared → Prop} {s : Shared}
theorem collect_tup {l : Addr} {vs : List Value} {Q : List Value → Shared → Prop} (hl : IsTup s.heap l vs.toArray)
    (h : Q vs { s with heap := (s.heap.push (seqObj "list" #[] 0)).update s.heap.objs.size (Obj.mapSeq (· ++ vs.toArray)) }) (hsz : vs.length ≤ sizeLine) :
    wpAny (model prog w) A (collect (.ref l)) Q E s := by
  obtain ⟨o, ho, hc, n, hd⟩ := id hl
  unfold collect
  refine wpAny_bind (wpAny_runValue (codeAny_builtin entry_proto_collect' ?_))
  show wpAny _ _ (do again (.builtin "list.__iadd__" ⟨[← newList [], .ref l], []⟩)) _ _ s
  refine wpAny_bind (wpAny_newList (wpAny_pure ⟨Code.quiet_builtin _ (by decide +kernel), codeAny_builtin entry_list_iadd' ?_⟩))
  show wpAny _ _ (Builtin.List.listExtendWith (.ref s.heap.objs.size) (.ref l) (.ref s.heap.objs.size)) _ _ { s with heap := s.heap.push (seqObj "list" #[] 0) }
  unfold Builtin.List.listExtendWith
  have ho' : (s.heap.push (seqObj "list" #[] 0)).get? l = some o := Heap.get?_push_of_some _ ho
  refine wpAny_bind (wpAny_typeOf (T := "tuple") ⟨o, ho', hc⟩ ?_)
  have ht : (Value.type "tuple" == Value.type "tuple") = true := by rfl
  rw [if_pos (by rw [ht]; simp)]
  refine wpAny_bind (listItems_at ho' hd ?_)
  refine wpAny_bind (listItems_at (xs := #[]) (n := 0) (Heap.get?_push_size _ rfl) rfl ?_)
  rw [if_neg (by simp)]
  refine wpAny_bind (listUpdate_at (xs := #[]) (n := 0) (Heap.get?_push_size _ rfl) rfl ?_ (Nat.zero_le _) (by show (#[] ++ vs.toArray).size ≤ sizeLine + 1; simp only [Array.size_append, List.size_toArray, List.length_nil]; omega))
  refine wpAny_pure ?_
  show wpAny (model prog w) A (do
      let o ← load s.heap.objs.size
      match o.data with
      | .seq xs _ => pure xs.toList
      | _ => unsupported "internal:collect") Q E { s with heap := (s.heap.push (seqObj "list" #[] 0)).update s.heap.objs.size (Obj.mapSeq (· ++ vs.toArray)) }
  refine wpAny_bind (wpAny_load (get?_update_seq (Heap.get?_push_size _ rfl) _) ?_)
  show wpAny _ _ (pure ((#[] : Array Value) ++ vs.toArray).toList) Q E _
  rw [show ((#[] : Array Value) ++ vs.toArray).toList = vs by simp]
  exact wpAny_pure h
theorem sorted_ordT {l : Addr} {vs : List Value} {ltv : Value → Value → Bool} {Q : Value → Shared → Prop} (O : SrtO.Swo ltv) (hl : IsTup s.heap l vs.toArray) (hz : vs.length ≤ sizeLine)
    (hS : 2 ≤ vs.length → ∀ (h₁ : Heap) (a : Addr), h₁.get? a = some (seqObj "list" vs.toArray 0) → (∀ b o, s.heap.get? b = some o → b ≠ a ∧ h₁.get? b = some o) → SrtO.SortableO prog w A.in1.in1 { s with heap := h₁ } a vs ltv)
    (h : ∀ out : List Value, SrtO.Srtd ltv out → SrtO.Stb ltv out vs → Q (.ref (s.heap.objs.size + 1)) { s with heap := sortedAll s.heap vs out.toArray }) :
    wpAny (model prog w) A (call (.builtin "sorted") [.ref l]) Q E s := by
  refine Calls.call_function_entry kind_sorted plain_sorted entry_sorted (args_sorted1 _) ?_
  unfold Builtin.«sorted»
  refine wpAny_bind (m := checkCount "sorted" 1 1 _) (wpAny_pure ?_)
  refine wpAny_bind (collect_tup hl ?_ hz)
  refine wpAny_bind (wpAny_newList ?_ hz)
  have hsz : ((s.heap.push (seqObj "list" #[] 0)).update s.heap.objs.size (Obj.mapSeq (· ++ vs.toArray))).objs.size = s.heap.objs.size + 1 := by
    rw [Heap.size_update, size_push']
  have hoL : (((s.heap.push (seqObj "list" #[] 0)).update s.heap.objs.size (Obj.mapSeq (· ++ vs.toArray))).push (seqObj "list" vs.toArray 0)).get? (s.heap.objs.size + 1) = some (seqObj "list" vs.toArray 0) := by
    rw [← hsz]; exact Heap.get?_push_size _ rfl
  have keep : ∀ b o, s.heap.get? b = some o → b ≠ s.heap.objs.size + 1 ∧ (((s.heap.push (seqObj "list" #[] 0)).update s.heap.objs.size (Obj.mapSeq (· ++ vs.toArray))).push (seqObj "list" vs.toArray 0)).get? b = some o := fun b o q => by
    have hlt : b < s.heap.objs.size := Heap.lt_size q
    refine ⟨Nat.ne_of_lt (Nat.lt_succ_of_lt hlt), Heap.get?_push_of_some _ ?_⟩
    rw [Heap.get?_update_ne _ _ _ _ (Nat.ne_of_lt hlt)]
    exact Heap.get?_push_of_some _ q
  show wpAny _ _ _ _ _ { s with heap := ((s.heap.push (seqObj "list" #[] 0)).update s.heap.objs.size (Obj.mapSeq (· ++ vs.toArray))).push (seqObj "list" vs.toArray 0) }
  rw [hsz]
  refine wpAny_bind (wpAny_holding (wpAny_call_entry slot_list_sort ⟨_, hoL, rfl⟩ entry_list_sort (SrtO.list_sort_ord O hoL hz (fun h2 => hS h2 _ _ hoL keep) fun out hs hb => ⟨_, rfl, ?_⟩) (args_list_sort _)))
  exact wpAny_pure ⟨_, rfl, h out hs hb⟩
end
def rSortBT (K : PySem.W.Frag) (d : Nat) (B : Int) : List V → Hp → VK → Prop := fun vs H Q => ∃ (a : Addr) (xs : List V), vs = [V.ref a] ∧ SqT K H a xs ∧ (∀ x ∈ xs, ∃ ns, TupI K H x ns ∧ ns.length = d ∧ TS.Bd B ns) ∧
  ∀ (ys : List V) (p : Addr), ys.Perm xs → ys.Pairwise (fun x y => ∀ n m, TupI K H x n → TupI K H y m → TS.code B n ≤ TS.code B m) → H p = none → Q (.ref p) (upd H p (.lst ys))
theorem cr_sortBT {X : Cx} {d : Nat} {B : Int} (hd : 1 ≤ d) : CallR X (.builtin "sorted") (rSortBT X.K d B) := by
  intro pins s σ H vs us Q I r pre
  obtain ⟨a, xs, rfl, isT, each, q⟩ := pre
  obtain ⟨its, rel, at_, few⟩ := I.tuple isT
  rw [Vals.ref1 r]
  obtain ⟨back, refs⟩ := bkV_refs rel fun x m => let ⟨_, ⟨t, e, _⟩, _⟩ := each x m; ⟨t, e⟩
  have each' : TS.TupsOk s.heap d B its := fun v m => by
    obtain ⟨t, rfl⟩ := refs v m
    obtain ⟨ns, ⟨t', e, sq⟩, nl, nb⟩ := each (V.ref t) (by rw [back]; exact List.mem_map.mpr ⟨_, m, rfl⟩)
    cases e
    exact ⟨ns, tupI_raw I sq, nl, nb⟩
  refine sorted_ordT (ltT_swo s.heap B) at_ (by rw [← rel.length]; exact few) (fun two h1 b is kept => ?_) fun out up st => ?_
  · have stays : ∀ c o, s.heap.get? c = some o → o.cls = .type "tuple" → h1.get? c = some o := fun c o e _ => (kept c o e).2
    refine tups_sortable (s := { s with heap := h1 }) hd (by omega) (each'.keeps stays) (fun v m ns t => ?_) fun o e c => ?_
    · obtain ⟨ms, t', _⟩ := each' v m
      exact t'.ints.trans ((t'.keeps stays).ints.symm.trans t.ints)
    · cases (is.symm.trans e)
      exact absurd (Value.type.inj c) (by decide)
  · obtain ⟨ep, laid⟩ := PyProof.Rows.sortedAll_at s.heap its out.toArray
    have outR : ∀ u ∈ out, ∃ t, u = Value.ref t := fun u m => refs u (st.perm.mem_iff.mp m)
    have pm : (out.map bkV).Perm xs := by rw [back]; exact st.perm.map bkV
    refine ⟨.ref _, upd H (s.heap.objs.size + 1) (.lst (out.map bkV)), I.laid (t' := s.toks) (fun _ _ => PyProof.Rows.sortedAll_old) (Nat.le_succ _) ⟨pm.length_eq ▸ few, out, ep, bkV_vals outR, laid⟩, rfl, q _ _ pm ?_ (I.hok.fresh (Nat.le_succ _))⟩
    refine List.pairwise_map.mpr (up.imp fun {u v} no n m hn hm => ?_)
    obtain ⟨t, et, ht⟩ := hn
    obtain ⟨t', et', ht'⟩ := hm
    have no := of_decide_eq_false (p := TS.code B (TS.intsOf s.heap v) < TS.code B (TS.intsOf s.heap u)) no
    rw [bkV_ref et, bkV_ref et', (tupI_raw I ht).ints, (tupI_raw I ht').ints] at no
    omega
end DL
namespace DL
open PySem PySem.Spec L2
open PyProof.Rows hiding St
def ownL (O : List Addr) : Ow := fun a => if a ∈ O then some .v else none
section
variable {C : Cf} {g : Gp} {F0 Fx F H : Hp} {w : Wd} {O O' : List Addr} {own : Ow} {p : Addr} {o : HO}
theorem Rel.sub {own' : Ow} (R : Rel C g F0 Fx F H own w) (h : ∀ a, own' a ≠ none → own a ≠ none) : Rel C g F0 Fx F H own' w :=
  ⟨R.le, R.ge, R.nw, R.fx, fun a l q => by
    cases e : own a with
    | none => exact absurd e (h a (by rw [q]; exact fun z => nomatch z))
    | some l' => exact R.ow a l' e, R.pen, R.penF, R.penX, R.cells, (R.tab.to (fun a ps q1 q2 q3 q4 => ⟨q1, q2, q3, by
    cases z : own' a with
    | none => rfl
    | some l => exact absurd q4 (h a (by rw [z]; exact fun z => nomatch z))⟩) (fun _ _ q => q))⟩
theorem Rel.updO (R : Rel C g F0 Fx F H (ownL O) w) (hp : p ∈ O) : Rel C g F0 Fx F (upd H p o) (ownL O) w := by
  have z := R.ow p .v (by unfold ownL; rw [if_pos hp])
  refine { R with le := fun a u q => ?_, fx := fun a u q => ?_, ow := fun a l q => ?_, pen := ?_, tab := (R.tab.to (fun a ps q1 q2 q3 q4 => have e : a ≠ p := fun z => by unfold ownL at q4; rw [z, if_pos hp] at q4; cases q4
    ⟨by rw [upd_ne e]; exact q1, q2, q3, q4⟩) (fun _ _ q => q)) }
  · rw [upd_ne (fun e => by rw [e, z.1] at q; cases q)]; exact R.le _ _ q
  · rw [upd_ne (fun e => by rw [e, z.2.1] at q; cases q)]; exact R.fx _ _ q
  · obtain ⟨h1, h2, h3, h4⟩ := R.ow a l q
    refine ⟨h1, h2, h3, ?_⟩
    by_cases e : a = p
    · rw [e, upd_same]; exact fun z => nomatch z
    · rw [upd_ne e]; exact h4
  · rw [upd_ne (Ne.symm z.2.2.1)]; exact R.pen
theorem Rel.emp (R : Rel C g F0 Fx F H own w) : RelS C g F0 Fx F H own [] ⟨[], w⟩ := { R with len := rfl, at_ := fun i r ov h => by simp at h }
theorem Rel.newO (R : Rel C g F0 Fx F H (ownL O) w) (hp : H p = none) : Rel C g F0 Fx F (upd H p o) (ownL (p :: O)) w := by
  refine ((R.emp.newOwn (o := o) hp).toRel).sub fun a q => ?_
  unfold ownL at q
  unfold own1 ownL
  by_cases e : a = p
  · rw [if_pos e]; exact fun z => nomatch z
  · rw [if_neg e]
    by_cases m : a ∈ O
    · rw [if_pos m]; exact fun z => nomatch z
    · rw [if_neg (by simp [e, m])] at q; exact absurd rfl q
theorem Rel.Onone (R : Rel C g F0 Fx F H (ownL O) w) (hp : H p = none) : p ∉ O := fun m => (R.ow p .v (by unfold ownL; rw [if_pos m])).2.2.2 hp
theorem Rel.inO (R : Rel C g F0 Fx F H (ownL O) w) (hp : p ∈ O) : F p = none ∧ Fx p = none ∧ p ≠ g.P ∧ H p ≠ none := R.ow p .v (by unfold ownL; rw [if_pos hp])
def mrg (F H : Hp) (O : List Addr) : Hp := fun a => if a ∈ O then H a else F a
theorem Rel.mrg_le (R : Rel C g F0 Fx F H (ownL O) w) : LeH F (mrg F H O) := fun a u q => by
  unfold mrg
  rw [if_neg (fun m => by rw [(R.inO m).1] at q; cases q)]; exact q
theorem Rel.frzAll (R : Rel C g F0 Fx F H (ownL O) w) : Rel C g F0 Fx (mrg F H O) H (fun _ => none) w := by
  refine ⟨fun a u q => ?_, fun a u q => R.mrg_le _ _ (R.ge _ _ q), fun a n x => ?_, R.fx, fun _ _ q => (nomatch q), R.pen, ?_, R.penX, R.mrg_le _ _ R.cells, (R.tab.to (fun a ps q1 q2 q3 q4 => ⟨q1, (by
    unfold mrg
    rw [if_neg (fun m => by unfold ownL at q4; rw [if_pos m] at q4; cases q4)]; exact q2), q3, rfl⟩) R.mrg_le)⟩
  · unfold mrg at q
    by_cases m : a ∈ O
    · rw [if_pos m] at q; exact q
    · rw [if_neg m] at q; exact R.le _ _ q
  · unfold mrg
    rw [if_neg (fun m => x (R.inO m).2.1)]; exact R.nw a n x
  · unfold mrg
    rw [if_neg (fun m => (R.inO m).2.2.1 rfl)]; exact R.penF
theorem Rel.unfix {x : Addr} (hF : F0 x = none) (hX : Fx x = none) (hP : x ≠ g.P) (R : Rel C g F0 (upd Fx x o) F H own w) : Rel C g F0 Fx F H (ownL [x]) w ∧ H x = some o := by
  have hx : H x = some o := R.fx _ _ upd_same
  refine ⟨⟨R.le, R.ge, fun a n q => R.nw a n (by
    by_cases e : a = x
    · rw [e, upd_same]; exact fun z => nomatch z
    · rw [upd_ne e]; exact q), fun a u q => R.fx _ _ (by rw [upd_ne (fun e => by rw [e, hX] at q; cases q)]; exact q), fun a l q => ?_, R.pen, R.penF, ?_, R.cells, (R.tab.to (fun a ps q1 q2 q3 q4 => have e : a ≠ x := fun z => by rw [z, upd_same] at q3; cases q3
    ⟨q1, q2, by rw [upd_ne e] at q3; exact q3, by unfold ownL; rw [if_neg (by simpa using e)]⟩) (fun _ _ q => q))⟩, hx⟩
  · unfold ownL at q
    by_cases m : a ∈ [x]
    · obtain rfl : a = x := by simpa using m
      exact ⟨R.nw _ hF (by rw [upd_same]; exact fun z => nomatch z), hX, hP, by rw [hx]; exact fun z => nomatch z⟩
    · rw [if_neg m] at q; cases q
  · have := R.penX
    rw [upd_ne (Ne.symm hP)] at this
    exact this
theorem Rel.fix {x : Addr} (no : ∀ ps, o ≠ .tbl ps) (hF : F x = none) (hX : Fx x = none) (hP : x ≠ g.P) (hx : H x = some o) (R : Rel C g F Fx F H (fun _ => none) w) : Rel C g F (upd Fx x o) F H (fun _ => none) w :=
  ⟨R.le, R.ge, fun a n _ => n, fun a u q => by
    by_cases e : a = x
    · rw [e, upd_same] at q; rw [e, hx]; exact q
    · rw [upd_ne e] at q; exact R.fx _ _ q, fun _ _ q => (nomatch q), R.pen, R.penF, by rw [upd_ne (Ne.symm hP)]; exact R.penX, R.cells, (R.tab.to (fun a ps q1 q2 q3 q4 => have e : a ≠ x := fun z => by rw [z, hx] at q1; exact no ps (Option.some.inj q1)
    ⟨q1, q2, by rw [upd_ne e]; exact q3, rfl⟩) (fun _ _ q => q))⟩
end
def tupI (t : List Int) : D := .tup (t.map .int)
def leC (a b : List Int) : Bool := decide (TS.code 64 a ≤ TS.code 64 b)
def sortT (l : List (List Int)) : List (List Int) := l.mergeSort leC
def D.quads? : List D → Option (List (List Int))
  | [] => some []
  | .tup xs :: r => match D.ints? xs, D.quads? r with
    | some ns, some l => some (ns :: l)
    | _, _ => none
  | _ :: _ => none
theorem D.quads_of : ∀ {ds : List D} {l : List (List Int)}, D.quads? ds = some l → ds = l.map tupI
  | [], l, h => by cases h; rfl
  | .tup xs :: r, l, h => by
    simp only [D.quads?] at h
    cases e1 : D.ints? xs with
    | none => rw [e1] at h; simp at h
    | some ns =>
      cases e2 : D.quads? r with
      | none => rw [e1, e2] at h; simp at h
      | some l' =>
        rw [e1, e2] at h
        cases h
        rw [List.map_cons, ← D.quads_of e2]
        show _ = D.tup (ns.map D.int) :: r
        rw [← D.ints_of e1]
  | .non :: r, l, h => by cases h
  | .bl _ :: r, l, h => by cases h
  | .int _ :: r, l, h => by cases h
  | .str _ :: r, l, h => by cases h
  | .lst _ :: r, l, h => by cases h
  | .fn _ :: r, l, h => by cases h
  | .ty _ :: r, l, h => by cases h
  | .obj _ _ _ :: r, l, h => by cases h
  | .pen :: r, l, h => by cases h
  | .any :: r, l, h => by cases h
  | .dct _ :: r, l, h => by cases h
  | .sd _ _ :: r, l, h => by cases h
  | .tupX _ :: r, l, h => by cases h
  | .dn _ :: r, l, h => by cases h
theorem D.quads_map : ∀ l : List (List Int), D.quads? (l.map tupI) = some l
  | [] => rfl
  | t :: l => by
    rw [List.map_cons]
    show (match D.ints? (t.map D.int), D.quads? (l.map tupI) with | some ns, some l => some (ns :: l) | _, _ => none) = _
    rw [D.ints_map, D.quads_map l]
theorem code_inj : ∀ {a b : List Int}, a.length = b.length → TS.Bd 64 a → TS.Bd 64 b → TS.code 64 a = TS.code 64 b → a = b
  | [], [], _, _, _, _ => rfl
  | [], _ :: _, h, _, _, _ => by simp at h
  | _ :: _, [], h, _, _, _ => by simp at h
  | x :: r, y :: q, h, ha, hb, e => by
    have hl : r.length = q.length := by simpa using h
    rcases Int.lt_trichotomy x y with c | c | c
    · have := TS.code_lt hl ha.tail hb.tail c; omega
    · subst c
      have h1 := TS.code_same (B := 64) (d := x) hl
      have h2 := TS.code_same (B := 64) (d := x) hl.symm
      rw [code_inj hl ha.tail hb.tail (by omega)]
    · have := TS.code_lt hl.symm hb.tail ha.tail c; omega
theorem sort_unique {l l' : List (List Int)} (hb : ∀ t ∈ l, t.length = 4 ∧ TS.Bd 64 t) (pm : l'.Perm l) (pw : l'.Pairwise fun a b => TS.code 64 a ≤ TS.code 64 b) : l' = sortT l := by
  have p2 : (sortT l).Perm l := List.mergeSort_perm l leC
  have pw2 : (sortT l).Pairwise fun a b => TS.code 64 a ≤ TS.code 64 b := by
    have := List.pairwise_mergeSort (le := leC) (fun a b c h1 h2 => by simp only [leC, decide_eq_true_eq] at *; omega) (fun a b => by simp only [leC, Bool.or_eq_true, decide_eq_true_eq]; omega) l
    exact this.imp fun h => by simpa [leC] using h
  refine List.Perm.eq_of_pairwise (le := fun a b => TS.code 64 a ≤ TS.code 64 b) (fun a b ma mb h1 h2 => ?_) pw pw2 (pm.trans p2.symm)
  have a1 := hb a (pm.mem_iff.mp ma)
  have b1 := hb b (p2.mem_iff.mp mb)
  exact code_inj (by rw [a1.1, b1.1]) a1.2 b1.2 (by omega)
section
variable {C : Cf} {g : Gp} {F H : Hp}
theorem perm_rp {ys xs : List V} (pm : ys.Perm xs) : ∀ {l : List (List Int)}, RpL C g F xs (l.map tupI) → ∃ l' : List (List Int), l'.Perm l ∧ RpL C g F ys (l'.map tupI) := by
  induction pm with
  | nil =>
    intro l h
    cases l with
    | nil => exact ⟨[], .nil, .nil⟩
    | cons t l => cases h
  | cons x p ih =>
    intro l h
    cases l with
    | nil => cases h
    | cons t l =>
      cases h with
      | cons a b =>
      obtain ⟨l', p', r'⟩ := ih b
      exact ⟨t :: l', p'.cons t, .cons a r'⟩
  | swap x y l0 =>
    intro l h
    match l, h with
    | t :: u :: l, .cons a (.cons b c) => exact ⟨u :: t :: l, .swap t u l, .cons b (.cons a c)⟩
    | [], h => cases h
    | [t], .cons a h => cases h
  | trans p1 p2 ih1 ih2 =>
    intro l h
    obtain ⟨l2, q2, r2⟩ := ih2 h
    obtain ⟨l1, q1, r1⟩ := ih1 r2
    exact ⟨l1, q1.trans q2, r1⟩
theorem tupI_of {v : V} {t : List Int} (le : LeH F H) (r : Rp C g F v (tupI t)) : TupI C.K H v t := by
  cases r with | tup h1 r1 =>
  exact ⟨_, rfl, sqT le (by rw [← r1.ints]; exact h1)⟩
theorem pw_rp {R : V → V → Prop} {S : List Int → List Int → Prop} (hRS : ∀ v u a b, Rp C g F v (tupI a) → Rp C g F u (tupI b) → R v u → S a b) : ∀ {ys : List V} {l : List (List Int)}, RpL C g F ys (l.map tupI) → ys.Pairwise R → l.Pairwise S
  | [], [], _, _ => .nil
  | [], _ :: _, h, _ => nomatch h
  | _ :: _, [], h, _ => nomatch h
  | v :: ys, a :: l, .cons h1 h2, .cons p1 p2 => by
    refine .cons (fun b mb => ?_) (pw_rp hRS h2 p2)
    obtain ⟨i, hi⟩ := List.getElem?_of_mem mb
    obtain ⟨u, hu, ru⟩ := h2.get (i := i) (d := tupI b) (by rw [List.getElem?_map, hi]; rfl)
    exact hRS v u a b h1 ru (p1 u (List.mem_of_getElem? hu))
end
def nearStep (ns : List (List D)) (t : List Int) : List (List D) := match t with
  | [a, b, c, d] =>
    let n1 := ns.set b.toNat (ns.getD b.toNat [] ++ [.tup [.int a, .int c]])
    n1.set a.toNat (n1.getD a.toNat [] ++ [.tup [.int b, .int d]])
  | _ => ns
def nearOf (n : Nat) (rows : List (List Int)) : List (List D) := rows.foldl nearStep (List.replicate n [])
def webNs : List Str := ["size", "rows", "known_kinds", "rows_near"]
def webD (n : Int) (l : List (List Int)) : D := .obj "Web" webNs [.int n, .lst ((sortT l).map tupI), .any, .lst ((nearOf n.toNat (sortT l)).map D.lst)]
def okT (n : Int) (t : List Int) : Bool := match t with
  | [a, b, c, d] => decide (0 ≤ a ∧ a < n ∧ 0 ≤ b ∧ b < n ∧ 0 ≤ c ∧ c < 64 ∧ 0 ≤ d ∧ d < 64)
  | _ => false
def initM (need : MF) : MF := fun ds w => match ds with
  | [.int n, .lst ts] => match D.quads? ts with
    | some l => match need [.int n, .lst ts] w with
      | .ok _ w' => if 0 ≤ n ∧ n ≤ 60 ∧ l.length < 75 ∧ l.all (okT n) = true then .ok (.fz (webD n l)) w' else .wr
      | .ex x w' => .ex x w'
      | .wr => .wr
    | none => .wr
  | [.int n, .tup ts] => match D.quads? ts with
    | some l => match need [.int n, .tup ts] w with
      | .ok _ w' => if 0 ≤ n ∧ n ≤ 60 ∧ l.length < 75 ∧ l.all (okT n) = true then .ok (.fz (webD n l)) w' else .wr
      | .ex x w' => .ex x w'
      | .wr => .wr
    | none => .wr
  | _ => .wr
theorem initM_n {need : MF} : ∀ ds w, ds.length ≠ 2 → initM need ds w = .wr := fun ds w h => by
  unfold initM
  split
  · exact absurd rfl h
  · exact absurd rfl h
  · rfl
theorem initM_o {need : MF} : ∀ ds w r w', initM need ds w = .ok r w' → ∃ d, r = .fz d := fun ds w r w' h => by
  unfold initM at h
  split at h
  · split at h
    · split at h
      · split at h
        · cases h; exact ⟨_, rfl⟩
        · cases h
      · cases h
      · cases h
    · cases h
  · split at h
    · split at h
      · split at h
        · cases h; exact ⟨_, rfl⟩
        · cases h
      · cases h
      · cases h
    · cases h
  · cases h
end DL
namespace DL
open PySem PySem.Spec L2
open PyProof.Rows hiding St
theorem upd_keep {H : Hp} {T q : Addr} {o u : HO} (hT : H T = none) (h : H q = some o) : upd H T u q = some o := by
  rw [upd_ne (fun z => by rw [z, hT] at h; cases h)]; exact h
structure Nr (C : Cf) (g : Gp) (F0 Fx F H : Hp) (w : Wd) (x dx CA D : Addr) (fs : List (Str × V)) (qs : List Addr) (ns : List (List DL.D)) : Prop where
  rel : Rel C g F0 Fx F H (ownL (x :: D :: qs)) w
  nd : (x :: D :: qs).Nodup
  hx : H x = some (.ins CA dx fs)
  hD : H D = some (.lst (qs.map V.ref))
  len : qs.length = ns.length
  at_ : ∀ (j : Nat) (q : Addr) (ds : List DL.D), qs[j]? = some q → ns[j]? = some ds → ∃ vs, H q = some (.lst vs) ∧ RpL C g F vs ds
section
variable {C : Cf} {g : Gp} {F0 Fx F H : Hp} {w : Wd} {x dx CA D : Addr} {fs : List (Str × V)} {qs : List Addr} {ns : List (List DL.D)}
theorem Nr.newF {T : Addr} {o : HO} (N : Nr C g F0 Fx F H w x dx CA D fs qs ns) (hT : H T = none) : Nr C g F0 Fx (upd F T o) (upd H T o) w x dx CA D fs qs ns := by
  have ne : ∀ a u, H a = some u → a ≠ T := fun a u q z => by rw [z, hT] at q; cases q
  have leF : LeH F (upd F T o) := upd_le (N.rel.Fnone hT)
  refine ⟨N.rel.new hT, N.nd, by rw [upd_ne (ne _ _ N.hx)]; exact N.hx, by rw [upd_ne (ne _ _ N.hD)]; exact N.hD, N.len, fun j q ds h1 h2 => ?_⟩
  obtain ⟨vs, h3, h4⟩ := N.at_ j q ds h1 h2
  exact ⟨vs, by rw [upd_ne (ne _ _ h3)]; exact h3, h4.mono leF⟩
theorem Nr.app {j : Nat} {q : Addr} {ds : List DL.D} {vs : List V} {v : V} {d : DL.D} (N : Nr C g F0 Fx F H w x dx CA D fs qs ns) (hq : qs[j]? = some q) (hd : ns[j]? = some ds) (hv : H q = some (.lst vs)) (r : RpL C g F vs ds) (rv : Rp C g F v d) :
    Nr C g F0 Fx F (upd H q (.lst (vs ++ [v]))) w x dx CA D fs qs (ns.set j (ds ++ [d])) := by
  have mq : q ∈ qs := List.mem_of_getElem? hq
  have nd := N.nd
  simp only [List.nodup_cons, List.mem_cons, not_or] at nd
  have nx : x ≠ q := fun z => nd.1.2 (by rw [z]; exact mq)
  have nD : D ≠ q := fun z => nd.2.1 (by rw [z]; exact mq)
  refine ⟨N.rel.updO (List.mem_cons_of_mem _ (List.mem_cons_of_mem _ mq)), N.nd, by rw [upd_ne nx]; exact N.hx, by rw [upd_ne nD]; exact N.hD, by rw [List.length_set]; exact N.len, fun i p es h1 h2 => ?_⟩
  by_cases e : j = i
  · subst e
    rw [hq] at h1
    cases h1
    have hl : j < ns.length := (List.getElem?_eq_some_iff.mp hd).1
    rw [List.getElem?_set_self hl] at h2
    cases h2
    exact ⟨_, upd_same, r.append (.cons rv .nil)⟩
  · rw [List.getElem?_set_ne e] at h2
    obtain ⟨us, h3, h4⟩ := N.at_ i p es h1 h2
    have np : p ≠ q := fun z => e (by
      subst z
      obtain ⟨a1, b1⟩ := List.getElem?_eq_some_iff.mp hq
      obtain ⟨a2, b2⟩ := List.getElem?_eq_some_iff.mp h1
      exact (List.getElem_inj nd.2.2).mp (b1.trans b2.symm))
    exact ⟨us, by rw [upd_ne np]; exact h3, h4⟩
theorem Nr.seqD {K : PySem.W.Frag} (N : Nr C g F0 Fx F H w x dx CA D fs qs ns) : SqL K H D (qs.map V.ref) := .inl (.inl N.hD)
theorem Nr.done {n : Int} {l : List (List Int)} {r kk : Addr} {ys : List V} (N : Nr C g F0 Fx F H w x dx CA D [("size", .int n), ("rows", .ref r), ("known_kinds", .ref kk), ("rows_near", .ref D)] qs ns) (hC : C.mg "Web" = some (.ref CA)) (hr : F r = some (.lst ys)) (ry : RpL C g F ys ((sortT l).map tupI)) (hn : ns = nearOf n.toNat (sortT l)) :
    ∃ F', Rel C g F0 Fx F' H (fun _ => none) w ∧ Rp C g F' (.ref x) (webD n l) := by
  refine ⟨_, N.rel.frzAll, ?_⟩
  have le := N.rel.mrg_le
  have inO : ∀ a, a ∈ x :: D :: qs → mrg F H (x :: D :: qs) a = H a := fun a m => by unfold mrg; rw [if_pos m]
  have e1 : mrg F H (x :: D :: qs) x = some (.ins CA dx (webNs.zip [.int n, .ref r, .ref kk, .ref D])) := by rw [inO x (by simp), N.hx]; rfl
  have e2 : mrg F H (x :: D :: qs) D = some (.lst (qs.map V.ref)) := by rw [inO D (by simp), N.hD]
  refine .obj e1 hC rfl (.cons (.int n) (.cons (.lst (le _ _ hr) (ry.mono le)) (.cons (.any _) (.cons (.lst e2 ?_) .nil))))
  rw [← hn]
  have key : ∀ (k : Nat) (qs' : List Addr) (ns' : List (List DL.D)), qs'.length = ns'.length → (∀ j, qs'[j]? = qs[k + j]?) → (∀ j, ns'[j]? = ns[k + j]?) → RpL C g (mrg F H (x :: D :: qs)) (qs'.map V.ref) (ns'.map DL.D.lst) := by
    intro k qs'
    induction qs' generalizing k with
    | nil =>
      intro ns' hl _ _
      cases ns' with
      | nil => exact .nil
      | cons a b => simp at hl
    | cons q qs' ih =>
      intro ns' hl h1 h2
      cases ns' with
      | nil => simp at hl
      | cons ds ns' =>
        have q1 : qs[k]? = some q := (h1 0).symm
        have d1 : ns[k]? = some ds := (h2 0).symm
        obtain ⟨vs, h3, h4⟩ := N.at_ k q ds q1 d1
        refine .cons (.lst (by rw [inO q (by simp [List.mem_of_getElem? q1]), h3]) (h4.mono le)) (ih (k + 1) ns' (by simpa using hl) (fun j => ?_) fun j => ?_)
        · have := h1 (j + 1)
          rw [Nat.add_right_comm, Nat.add_assoc] at *
          simpa using this
        · have := h2 (j + 1)
          rw [Nat.add_right_comm, Nat.add_assoc] at *
          simpa using this
  exact key 0 qs ns N.len (fun j => by rw [Nat.zero_add]) fun j => by rw [Nat.zero_add]
end
abbrev tRows (K : PySem.W.Frag) : TE := tFld K (tVar 0) "rows"
abbrev tNear (K : PySem.W.Frag) : TE := tFld K (tVar 0) "rows_near"
abbrev tBody (K : PySem.W.Frag) : TS :=
  tSeq (tDrop (tBM K "list" rAppend (tOp (rIxL K) (tNear K) (tVar 5)) (tCons (tTup (tCons (tVar 4) (tCons (tVar 6) tNil))) tNil)))
    (tDrop (tBM K "list" rAppend (tOp (rIxL K) (tNear K) (tVar 4)) (tCons (tTup (tCons (tVar 5) (tCons (tVar 7) tNil))) tNil)))
abbrev tLoop (K : PySem.W.Frag) : TS := tFor (iList K (tRows K)) (gTup K 4 (gCons (gName 4) (gCons (gName 5) (gCons (gName 6) (gCons (gName 7) gNil))))) (tBody K)
abbrev tMakes (K : PySem.W.Frag) : TE := tLc (iRng1 (tCons (tVar 1) tNil)) (gName 3) tYes (tLst tNil) [3]
abbrev tInit (K : PySem.W.Frag) (spN : Sp) (E : XK) : TS :=
  tSeq (tDrop (tCall spN [] E (tCons (tVar 1) (tCons (tVar 2) tNil))))
  (tSeq (sFld K (tVar 0) (tVar 1) "size")
  (tSeq (sFld K (tVar 0) (tCB (fun x H Q => rSortB K 4 64 x H Q ∨ rSortBT K 4 64 x H Q) (tCons (tVar 2) tNil)) "rows")
  (tSeq (sFld K (tVar 0) tDNewK "known_kinds")
  (tSeq (sFld K (tVar 0) (tMakes K) "rows_near") (tLoop K)))))
structure WebC (K : PySem.W.Frag) (CA : Addr) : Prop where
  cls : Cls K CA
  size : NoAttr K CA "size"
  rows : NoAttr K CA "rows"
  kinds : NoAttr K CA "known_kinds"
  near : NoAttr K CA "rows_near"
theorem okT_bd {n : Int} {t : List Int} (hn : n ≤ 60) (h : okT n t = true) : t.length = 4 ∧ TS.Bd 64 t := by
  unfold okT at h
  split at h
  · rename_i a b c d
    simp only [decide_eq_true_eq] at h
    refine ⟨rfl, fun m hm => ?_⟩
    simp only [List.mem_cons, List.not_mem_nil, or_false] at hm
    rcases hm with rfl | rfl | rfl | rfl <;> omega
  · cases h
theorem nearStep_len {ns : List (List D)} {t : List Int} {k : Nat} (h : ∀ ds ∈ ns, ds.length ≤ k) : (nearStep ns t).length = ns.length ∧ ∀ ds ∈ nearStep ns t, ds.length ≤ k + 2 := by
  unfold nearStep
  split
  · rename_i a b c d
    have e1 : (ns.getD b.toNat []).length ≤ k := by
      rw [List.getD_eq_getElem?_getD]
      cases e : ns[b.toNat]? with
      | none => exact Nat.zero_le _
      | some ds => exact h ds (List.mem_of_getElem? e)
    have h1 : ∀ ds ∈ ns.set b.toNat (ns.getD b.toNat [] ++ [.tup [.int a, .int c]]), ds.length ≤ k + 1 := fun ds hd => by
      rcases List.mem_or_eq_of_mem_set hd with m | m
      · have := h ds m; omega
      · rw [m, List.length_append]; show _ + 1 ≤ _; omega
    refine ⟨by simp, fun ds hd => ?_⟩
    rcases List.mem_or_eq_of_mem_set hd with m | m
    · have := h1 ds m; omega
    · rw [m, List.length_append]
      have : ((ns.set b.toNat (ns.getD b.toNat [] ++ [.tup [.int a, .int c]])).getD a.toNat []).length ≤ k + 1 := by
        rw [List.getD_eq_getElem?_getD]
        cases e : (ns.set b.toNat (ns.getD b.toNat [] ++ [.tup [.int a, .int c]]))[a.toNat]? with
        | none => exact Nat.zero_le _
        | some ds => exact h1 ds (List.mem_of_getElem? e)
      show _ + 1 ≤ _; omega
  · exact ⟨rfl, fun ds hd => by have := h ds hd; omega⟩
theorem near_len : ∀ (rows : List (List Int)) (ns : List (List D)) (k : Nat), (∀ ds ∈ ns, ds.length ≤ k) → (rows.foldl nearStep ns).length = ns.length ∧ ∀ ds ∈ rows.foldl nearStep ns, ds.length ≤ k + 2 * rows.length
  | [], ns, k, h => ⟨rfl, fun ds hd => by have := h ds hd; simpa using this⟩
  | t :: rows, ns, k, h => by
    obtain ⟨a, b⟩ := nearStep_len (t := t) h
    obtain ⟨c, d⟩ := near_len rows (nearStep ns t) (k + 2) b
    refine ⟨c.trans a, fun ds hd => ?_⟩
    have := d ds hd
    rw [List.length_cons]; omega
theorem nearOf_len (n : Nat) (rows : List (List Int)) : (nearOf n rows).length = n ∧ ∀ ds ∈ nearOf n rows, ds.length ≤ 2 * rows.length := by
  obtain ⟨a, b⟩ := near_len rows (List.replicate n []) 0 (fun ds hd => by rw [List.eq_of_mem_replicate hd]; exact Nat.le_refl _)
  exact ⟨by rw [nearOf, a, List.length_replicate], fun ds hd => by have := b ds hd; omega⟩
theorem nearOf_step {n : Nat} {l : List (List Int)} {i : Nat} {t : List Int} (h : l[i]? = some t) : nearOf n (l.take (i + 1)) = nearStep (nearOf n (l.take i)) t := by
  unfold nearOf
  rw [List.take_add_one, h, List.foldl_append]; rfl
section
variable {C : Cf} {g : Gp} {F0 Fx F H : Hp} {w : Wd} {CA : Addr}
theorem loop_init {x dx D r : Addr} {a : V} {n : Int} {fs : List (Str × V)} {qs : List Addr} {ys : List V} {l : List (List Int)} {Dn : Ends} {σ : L2.St} (W : WebC C.K CA) (hl : ∀ t ∈ l, okT n t = true) (h64 : l.length < 75)
    (hrows : fs.lookup ("rows" : Str) = some (.ref r)) (hnear : fs.lookup ("rows_near" : Str) = some (.ref D)) (hq : qs.length = n.toNat)
    (N : Nr C g F0 Fx F H w x dx CA D fs qs (List.replicate n.toNat [])) (hr : F r = some (.lst ys)) (ry : RpL C g F ys (l.map tupI)) (hσ : ∃ y4 y5 y6 y7, σ = [some (.ref x), some (.int n), some a, none, y4, y5, y6, y7])
    (end_ : ∀ F' H' σ', Nr C g F0 Fx F' H' w x dx CA D fs qs (nearOf n.toNat l) → LeH F F' → Dn.nx σ' H') : tLoop C.K Dn σ H := by
  obtain ⟨y4, y5, y6, y7, rfl⟩ := hσ
  have hrH : SqL C.K H r ys := .inl (.inl (N.rel.le _ _ hr))
  refine ⟨.ref x, rfl, x, CA, dx, fs, .ref r, rfl, N.hx, W.cls, W.rows, hrows, r, rfl, ⟨ys, hrH⟩, ?_⟩
  refine ⟨fun i m σ H => m = l.length - i ∧ i ≤ l.length ∧ (∃ y4 y5 y6 y7, σ = [some (.ref x), some (.int n), some a, none, y4, y5, y6, y7]) ∧ ∃ F', LeH F F' ∧ Nr C g F0 Fx F' H w x dx CA D fs qs (nearOf n.toNat (l.take i)), ⟨l.length, by omega, Nat.zero_le _, ⟨_, _, _, _, rfl⟩, F, fun _ _ q => q, N⟩, ?_⟩
  rintro i m σ' H' ⟨rfl, hi, ⟨z4, z5, z6, z7, rfl⟩, F', leF, N'⟩
  have hrH' : SqL C.K H' r ys := .inl (.inl (N'.rel.le _ _ (leF _ _ hr)))
  by_cases hlt : i < l.length
  · right
    obtain ⟨t, et⟩ : ∃ t, l[i]? = some t := ⟨_, List.getElem?_eq_getElem hlt⟩
    obtain ⟨v, hv, rv⟩ := ry.get (i := i) (d := tupI t) (by rw [List.getElem?_map, et]; rfl)
    refine ⟨⟨ys, v, hrH', hv⟩, fun σ H => (∃ y4 y5 y6 y7, σ = [some (.ref x), some (.int n), some a, none, y4, y5, y6, y7]) ∧ ∃ F', LeH F F' ∧ Nr C g F0 Fx F' H w x dx CA D fs qs (nearOf n.toNat (l.take (i + 1))), fun σ H h => ⟨l.length - (i + 1), by omega, rfl, hlt, h⟩, fun y H1 ⟨e, hy⟩ => ?_⟩
    subst e
    have ev : y = v := Option.some.inj ((hy ys hrH').symm.trans hv)
    subst ev
    have ht := hl t (List.mem_of_getElem? et)
    match t, ht with
    | [a0, b0, c0, d0], ht =>
    simp only [okT, decide_eq_true_eq] at ht
    obtain ⟨tA, etA, hT⟩ := tupI_of (H := H1) (fun _ _ q => N'.rel.le _ _ (leF _ _ q)) rv
    subst etA
    refine ⟨tA, _, rfl, hT, rfl, _, _, rfl, _, _, rfl, _, _, rfl, _, _, rfl, rfl, ?_⟩
    -- the first append
    obtain ⟨q1, eq1⟩ : ∃ q, qs[b0.toNat]? = some q := ⟨_, List.getElem?_eq_getElem (by omega)⟩
    obtain ⟨d1, ed1⟩ : ∃ ds, (nearOf n.toNat (l.take i))[b0.toNat]? = some ds := ⟨_, List.getElem?_eq_getElem (by rw [← N'.len]; omega)⟩
    obtain ⟨v1, h1, r1⟩ := N'.at_ _ _ _ eq1 ed1
    have ix1 : atI (qs.map V.ref) b0 = some (.ref q1) := by
      have := atI_nat (xs := qs.map V.ref) (j := b0.toNat) (v := .ref q1) (by rw [List.getElem?_map, eq1]; rfl)
      rwa [Int.toNat_of_nonneg (by omega)] at this
    have small : ∀ (ns : List (List DL.D)) (i : Nat) (ds : List DL.D), (∀ ds ∈ ns, ds.length ≤ 200) → ns[i]? = some ds → ds.length < sizeLine := fun ns i ds h e => by
      have := h ds (List.mem_of_getElem? e)
      rw [sizeLine_eq]; omega
    have b200 : ∀ ds ∈ nearOf n.toNat (l.take i), ds.length ≤ 150 := fun ds hd => by
      have := (nearOf_len n.toNat (l.take i)).2 ds hd
      rw [List.length_take] at this; omega
    have s1 := small _ _ _ (fun ds hd => by have := b200 ds hd; omega) ed1
    have l1 := r1.length
    refine ⟨.ref x, rfl, x, CA, dx, fs, .ref D, rfl, N'.hx, W.cls, W.near, hnear, .int b0, rfl, D, qs.map V.ref, b0, .ref q1, rfl, rfl, N'.seqD, ix1, .inl ⟨rfl, v1, .inl (.inl h1)⟩, .int a0, rfl, .int c0, rfl, by rw [sizeLine_eq]; show (2 : Nat) ≤ 16777216; decide, fun T1 hT1 => ?_⟩
    have N1 := N'.newF (o := .tup [.int a0, .int c0]) hT1
    have le1 : LeH F' (upd F' T1 (.tup [.int a0, .int c0])) := upd_le (N'.rel.Fnone hT1)
    have h1' : (upd H1 T1 (.tup [.int a0, .int c0])) q1 = some (.lst v1) := by rw [upd_ne (fun z => by rw [z, hT1] at h1; cases h1)]; exact h1
    refine ⟨q1, v1, .ref T1, rfl, rfl, h1', by rw [l1]; exact s1, ?_⟩
    have N2 := N1.app (v := .ref T1) (d := .tup [.int a0, .int c0]) eq1 ed1 h1' (r1.mono le1) (.tup upd_same (.cons (.int _) (.cons (.int _) .nil)))
    -- the second append
    obtain ⟨q2, eq2⟩ : ∃ q, qs[a0.toNat]? = some q := ⟨_, List.getElem?_eq_getElem (by omega)⟩
    obtain ⟨d2, ed2⟩ : ∃ ds, ((nearOf n.toNat (l.take i)).set b0.toNat (d1 ++ [.tup [.int a0, .int c0]]))[a0.toNat]? = some ds := ⟨_, List.getElem?_eq_getElem (by rw [List.length_set, ← N'.len]; omega)⟩
    obtain ⟨v2, h2, r2⟩ := N2.at_ _ _ _ eq2 ed2
    have ix2 : atI (qs.map V.ref) a0 = some (.ref q2) := by
      have := atI_nat (xs := qs.map V.ref) (j := a0.toNat) (v := .ref q2) (by rw [List.getElem?_map, eq2]; rfl)
      rwa [Int.toNat_of_nonneg (by omega)] at this
    have s2 := small _ _ _ (fun ds hd => by
      rcases List.mem_or_eq_of_mem_set hd with m | m
      · have := b200 ds m; omega
      · rw [m, List.length_append]
        have := b200 d1 (List.mem_of_getElem? ed1)
        show _ + 1 ≤ _; omega) ed2
    have l2 := r2.length
    refine ⟨.ref x, rfl, x, CA, dx, fs, .ref D, rfl, N2.hx, W.cls, W.near, hnear, .int a0, rfl, D, qs.map V.ref, a0, .ref q2, rfl, rfl, N2.seqD, ix2, .inl ⟨rfl, v2, .inl (.inl h2)⟩, .int b0, rfl, .int d0, rfl, by rw [sizeLine_eq]; show (2 : Nat) ≤ 16777216; decide, fun T2 hT2 => ?_⟩
    have N3 := N2.newF (o := .tup [.int b0, .int d0]) hT2
    have le2 : LeH (upd F' T1 (.tup [.int a0, .int c0])) (upd (upd F' T1 (.tup [.int a0, .int c0])) T2 (.tup [.int b0, .int d0])) := upd_le (N2.rel.Fnone hT2)
    have h2' := upd_keep (u := .tup [.int b0, .int d0]) hT2 h2
    refine ⟨q2, v2, .ref T2, rfl, rfl, h2', by rw [l2]; exact s2, ?_⟩
    have N4 := N3.app (v := .ref T2) (d := .tup [.int b0, .int d0]) eq2 ed2 h2' (r2.mono le2) (.tup upd_same (.cons (.int _) (.cons (.int _) .nil)))
    refine ⟨⟨_, _, _, _, rfl⟩, _, fun a o q => le2 _ _ (le1 _ _ (leF _ _ q)), ?_⟩
    rw [nearOf_step et]
    have e : nearStep (nearOf n.toNat (l.take i)) [a0, b0, c0, d0] = ((nearOf n.toNat (l.take i)).set b0.toNat (d1 ++ [.tup [.int a0, .int c0]])).set a0.toNat (d2 ++ [.tup [.int b0, .int d0]]) := by
      show ((nearOf n.toNat (l.take i)).set b0.toNat ((nearOf n.toNat (l.take i)).getD b0.toNat [] ++ _)).set a0.toNat (((nearOf n.toNat (l.take i)).set b0.toNat ((nearOf n.toNat (l.take i)).getD b0.toNat [] ++ _)).getD a0.toNat [] ++ _) = _
      rw [List.getD_eq_getElem?_getD, ed1, Option.getD_some, List.getD_eq_getElem?_getD, ed2, Option.getD_some]
    rw [e]
    exact N4
  · left
    have ei : l.take i = l := List.take_of_length_le (by omega)
    rw [ei] at N'
    exact ⟨⟨ys, hrH', by rw [ry.length, List.length_map]; omega⟩, end_ F' H' _ N' leF⟩
theorem putF_len (f : Str) (v : V) : ∀ fs : List (Str × V), (putF f v fs).length ≤ fs.length + 1
  | [] => Nat.le_refl _
  | (g, x) :: r => by
    have := putF_len f v r
    unfold putF
    split
    · exact Nat.le_succ _
    · simp only [List.length_cons]; omega
abbrev webFs (a b c d : V) : List (Str × V) := [("size", a), ("rows", b), ("known_kinds", c), ("rows_near", d)]
theorem init_mkfs {y0 y1 y2 y3 : V} : putF ("rows_near" : Str) y3 (putF ("known_kinds" : Str) y2 (putF ("rows" : Str) y1 (putF ("size" : Str) y0 []))) = [(("size" : Str), y0), (("rows" : Str), y1), (("known_kinds" : Str), y2), (("rows_near" : Str), y3)] := by
  rfl
def sqD (t : Bool) (xs : List D) : D := if t = true then .tup xs else .lst xs
theorem initM_cases (need : MF) (ds : List D) (w : Wd) : initM need ds w = .wr ∨ ∃ (n : Int) (t : Bool) (l : List (List Int)), ds = [.int n, sqD t (l.map tupI)] ∧
    ((∃ y w', need ds w = .ex y w' ∧ initM need ds w = .ex y w') ∨ ∃ rr w', need ds w = .ok rr w' ∧ (0 ≤ n ∧ n ≤ 60 ∧ l.length < 75 ∧ l.all (okT n) = true) ∧ initM need ds w = .ok (.fz (webD n l)) w') := by
  unfold initM
  split
  · rename_i n ts
    split
    · rename_i l hq
      have ets := D.quads_of hq
      subst ets
      cases en : need [.int n, .lst (l.map tupI)] w with
      | wr => exact .inl rfl
      | ex y w' => exact .inr ⟨n, false, l, rfl, .inl ⟨y, w', rfl, rfl⟩⟩
      | ok rr w' =>
        by_cases hok : 0 ≤ n ∧ n ≤ 60 ∧ l.length < 75 ∧ l.all (okT n) = true
        · exact .inr ⟨n, false, l, rfl, .inr ⟨rr, w', rfl, hok, if_pos hok⟩⟩
        · exact .inl (if_neg hok)
    · exact .inl rfl
  · rename_i n ts
    split
    · rename_i l hq
      have ets := D.quads_of hq
      subst ets
      cases en : need [.int n, .tup (l.map tupI)] w with
      | wr => exact .inl rfl
      | ex y w' => exact .inr ⟨n, true, l, rfl, .inl ⟨y, w', rfl, rfl⟩⟩
      | ok rr w' =>
        by_cases hok : 0 ≤ n ∧ n ≤ 60 ∧ l.length < 75 ∧ l.all (okT n) = true
        · exact .inr ⟨n, true, l, rfl, .inr ⟨rr, w', rfl, hok, if_pos hok⟩⟩
        · exact .inl (if_neg hok)
    · exact .inl rfl
  · exact .inl rfl
theorem sqD_at {C : Cf} {g : Gp} {F : Hp} {t : Bool} {v : V} {ds : List D} (r : Rp C g F v (sqD t ds)) : ∃ a us, v = .ref a ∧ RpL C g F us ds ∧ (F a = some (.lst us) ∨ F a = some (.tup us)) := by
  cases t with
  | true =>
    cases (show Rp C g F v (.tup ds) from r) with | tup h1 r1 =>
    exact ⟨_, _, rfl, r1, .inr h1⟩
  | false =>
    cases (show Rp C g F v (.lst ds) from r) with | lst h1 r1 =>
    exact ⟨_, _, rfl, r1, .inl h1⟩
theorem sort_or {K : PySem.W.Frag} {d : Nat} {B : Int} {a : Addr} {us : List V} {H : Hp} {Q : VK} (h : SqL K H a us ∨ SqT K H a us) (each : ∀ x ∈ us, ∃ ns, TupI K H x ns ∧ ns.length = d ∧ TS.Bd B ns)
    (k : ∀ (ys : List V) (p : Addr), ys.Perm us → ys.Pairwise (fun x y => ∀ n m, TupI K H x n → TupI K H y m → TS.code B n ≤ TS.code B m) → H p = none → Q (.ref p) (upd H p (.lst ys))) : rSortB K d B [.ref a] H Q ∨ rSortBT K d B [.ref a] H Q := by
  rcases h with h | h
  · exact .inl ⟨a, us, rfl, h, each, k⟩
  · exact .inr ⟨a, us, rfl, h, each, k⟩
theorem pure_init {need : MF} {vs : List V} {Q : VK} {E : XK} {N : List Str} (hN : N.length = 8) (W : WebC C.K CA) (hC : C.mg "Web" = some (.ref CA)) (h : spI C CA 2 (initM need) vs H Q E) :
    tInit C.K (spD C 2 need) E { nx := fun _ H' => Q .non H', rt := Q } (L2.start N vs) H := by
  obtain ⟨x, dx, rest, rfl, hl, hx, g, Fx, F, ds, w, hFx, hXx, hPx, R, r, p⟩ := h
  rcases initM_cases need ds w with e | ⟨n, t, l, rfl, alt⟩
  · rw [e] at p; exact p.elim
  · cases r with | cons rn r =>
    cases rn
    cases r with | cons ra r =>
    cases r
    have ra0 := ra
    obtain ⟨a, us, rfl, ru, ha⟩ := sqD_at ra
    have est : L2.start N [V.ref x, .int n, .ref a] = [some (.ref x), some (.int n), some (.ref a), none, none, none, none, none] := by
      unfold L2.start
      rw [hN]; rfl
    rw [est]
    refine ⟨.int n, rfl, .ref a, rfl, rfl, g, upd Fx x (.ins CA dx []), F, [.int n, sqD t (l.map tupI)], w, R.fix (fun _ z => nomatch z) hFx hXx hPx hx, .cons (.int n) (.cons ra0 .nil), ?_⟩
    rcases alt with ⟨y, w', en, ei⟩ | ⟨rr, w', en, hok, ei⟩
    · rw [ei] at p
      rw [en]
      intro F1 H1 own1 R1
      obtain ⟨R1', hx1⟩ := R1.unfix hFx hXx hPx
      exact p F1 H1 _ R1'
    · rw [ei] at p
      rw [en]
      · · dsimp only at p
          intro v0 F1 H1 own1 R1 _
          obtain ⟨RL, hx1⟩ := R1.unfix hFx hXx hPx
          have hall : ∀ t ∈ l, okT n t = true := fun t m => List.all_eq_true.mp hok.2.2.2 t m
          -- self.size
          refine ⟨.int n, rfl, .ref x, rfl, x, CA, dx, [], rfl, hx1, W.cls, W.size, by decide, ?_⟩
          have R2 := RL.updO (o := .ins CA dx (putF "size" (.int n) [])) (List.mem_singleton.mpr rfl)
          -- self.rows
          have ha1 : F1 a = some (.lst us) ∨ F1 a = some (.tup us) := ha.imp (fun q => R1.ge _ _ q) fun q => R1.ge _ _ q
          have ru1 : RpL C g F1 us (l.map tupI) := ru.mono R1.ge
          have hbd : ∀ t ∈ l, t.length = 4 ∧ TS.Bd 64 t := fun t m => okT_bd hok.2.1 (hall t m)
          refine ⟨.ref a, rfl, sort_or (ha1.imp (fun q => .inl (.inl (R2.le _ _ q))) fun q => sqT R2.le q) (fun y my => ?_) fun ys q pm pw hq0 => ?_⟩
          · obtain ⟨i, hi⟩ := List.getElem?_of_mem my
            obtain ⟨d, hd, rd⟩ := ru1.getV hi
            rw [List.getElem?_map] at hd
            cases ht : l[i]? with
            | none => rw [ht] at hd; cases hd
            | some t =>
              rw [ht] at hd
              cases hd
              exact ⟨t, tupI_of R2.le rd, (hbd t (List.mem_of_getElem? ht)).1, (hbd t (List.mem_of_getElem? ht)).2⟩
          · obtain ⟨l', pl, ry⟩ := perm_rp pm ru1
            have pws : l'.Pairwise fun a b => TS.code 64 a ≤ TS.code 64 b := pw_rp (fun v u a b ra rb h => h a b (tupI_of R2.le ra) (tupI_of R2.le rb)) ry pw
            have es := sort_unique hbd pl pws
            subst es
            have hx2 : upd H1 x (.ins CA dx (putF "size" (.int n) [])) x = some (.ins CA dx (putF "size" (.int n) [])) := upd_same
            refine ⟨.ref x, rfl, x, CA, dx, _, rfl, upd_keep hq0 hx2, W.cls, W.rows, Nat.lt_of_le_of_lt (putF_len _ _ _) (by decide), ?_⟩
            have R3 := (R2.new (o := .lst ys) hq0).updO (p := x) (o := .ins CA dx (putF "rows" (.ref q) (putF "size" (.int n) []))) (List.mem_singleton.mpr rfl)
            have le3 : LeH F1 (upd F1 q (.lst ys)) := upd_le (R2.Fnone hq0)
            -- self.known_kinds
            intro kk hk0
            refine ⟨.ref x, rfl, x, CA, dx, _, rfl, upd_keep hk0 upd_same, W.cls, W.kinds, Nat.lt_of_le_of_lt (putF_len _ _ _) (Nat.lt_of_le_of_lt (Nat.succ_le_succ (putF_len _ _ _)) (by decide)), ?_⟩
            have R4 := (R3.new (o := .dK []) hk0).updO (p := x) (o := .ins CA dx (putF "known_kinds" (.ref kk) (putF "rows" (.ref q) (putF "size" (.int n) [])))) (List.mem_singleton.mpr rfl)
            have le4 : LeH (upd F1 q (.lst ys)) (upd (upd F1 q (.lst ys)) kk (.dK [])) := upd_le (R3.Fnone hk0)
            -- self.rows_near
            refine ⟨.int n, rfl, n, rfl, by omega, by omega, fun Dd hD0 => ?_⟩
            generalize hF4 : upd (upd F1 q (.lst ys)) kk (.dK []) = F4 at R4 le4
            generalize hfs : putF "known_kinds" (.ref kk) (putF "rows" (.ref q) (putF "size" (.int n) [])) = fs at R4 hD0 ⊢
            generalize hH4 : upd (upd (upd (upd (upd H1 x (.ins CA dx (putF "size" (.int n) []))) q (.lst ys)) x (.ins CA dx (putF "rows" (.ref q) (putF "size" (.int n) [])))) kk (.dK [])) x (.ins CA dx fs) = H4 at R4 hD0 ⊢
            have hx4 : H4 x = some (.ins CA dx fs) := by rw [← hH4]; exact upd_same
            have N0 : Nr C g F Fx F4 (upd H4 Dd (.lst [])) w' x dx CA Dd fs [] [] := by
              refine ⟨?_, ?_, upd_keep hD0 hx4, upd_same, rfl, fun j q ds h => by simp at h⟩
              · refine (R4.newO (o := .lst []) hD0).sub fun z hz => ?_
                unfold ownL at hz ⊢
                by_cases m : z ∈ [x, Dd]
                · rw [if_pos (by simp at m ⊢; exact m.symm)]; exact fun z => nomatch z
                · rw [if_neg m] at hz; exact absurd rfl hz
              · have : x ≠ Dd := fun z => by rw [z, hD0] at hx4; cases hx4
                simp [this]
            refine ⟨fun i m H => m = n.toNat - i ∧ i ≤ n.toNat ∧ ∃ qs, qs.length = i ∧ Nr C g F Fx F4 H w' x dx CA Dd fs qs (List.replicate i []), ⟨n.toNat, by omega, Nat.zero_le _, [], rfl, N0⟩, ?_⟩
            rintro i m H5 ⟨rfl, hi, qs, hqs, N5⟩
            by_cases hlt : i < n.toNat
            · right
              refine ⟨hlt, fun H => ∃ qs, qs.length = i + 1 ∧ Nr C g F Fx F4 H w' x dx CA Dd fs qs (List.replicate (i + 1) []), fun H h => ⟨n.toNat - (i + 1), by omega, rfl, hlt, h⟩, fun y H6 ⟨e6, ey⟩ => ?_⟩
              subst e6
              refine ⟨by rfl, ?_⟩
              unfold tYes
              dsimp only
              rw [if_pos rfl]
              refine ⟨Nat.zero_le _, fun q6 hq6 => ⟨qs.map V.ref, upd_keep hq6 N5.hD, by rw [List.length_map, hqs, sizeLine_eq]; omega, qs ++ [q6], by simp [hqs], ?_⟩⟩
              have hne : ∀ z u, H6 z = some u → z ≠ q6 := fun z u hz e => by rw [e, hq6] at hz; cases hz
              have nin : q6 ∉ x :: Dd :: qs := N5.rel.Onone hq6
              have nd := N5.nd
              simp only [List.nodup_cons, List.mem_cons, not_or] at nd nin
              refine ⟨?_, ?_, ?_, ?_, by simp [hqs], fun j z dz h1 h2 => ?_⟩
              · refine (((N5.rel.newO (o := .lst []) hq6).updO (p := Dd) (by simp)).sub fun z hz => ?_)
                unfold ownL at hz ⊢
                by_cases m : z ∈ x :: Dd :: (qs ++ [q6])
                · rw [if_pos (by simp at m ⊢; rcases m with m | m | m | m <;> simp [m])]; exact fun z => nomatch z
                · rw [if_neg m] at hz; exact absurd rfl hz
              · simp only [List.nodup_cons, List.mem_cons, List.mem_append, List.not_mem_nil, or_false, not_or, List.nodup_append]
                refine ⟨⟨nd.1.1, nd.1.2, fun z => nin.1 z.symm⟩, ⟨nd.2.1, fun z => nin.2.1 z.symm⟩, nd.2.2, by simp, fun a ha b hb => ?_⟩
                subst hb; exact fun z => nin.2.2 (by rw [← z]; exact ha)
              · rw [upd_ne nd.1.1]; exact upd_keep hq6 N5.hx
              · rw [upd_same, List.map_append]; rfl
              · have hz : dz = [] := List.eq_of_mem_replicate (List.mem_of_getElem? h2)
                subst hz
                have zD : z ≠ Dd := fun e => by
                  have := List.mem_of_getElem? h1
                  rw [e, List.mem_append] at this
                  rcases this with m | m
                  · exact nd.2.1 m
                  · simp at m; exact nin.2.1 m.symm
                by_cases c : j < qs.length
                · rw [List.getElem?_append_left c] at h1
                  obtain ⟨vs5, h3, h4⟩ := N5.at_ j z [] h1 (by rw [List.getElem?_replicate, if_pos (by omega)])
                  exact ⟨vs5, by rw [upd_ne zD]; exact upd_keep hq6 h3, h4⟩
                · rw [List.getElem?_append_right (by omega)] at h1
                  have : z = q6 := by
                    cases hj : j - qs.length with
                    | zero => rw [hj] at h1; simpa using h1.symm
                    | succ k => rw [hj] at h1; simp at h1
                  subst this
                  exact ⟨[], by rw [upd_ne zD, upd_same], .nil⟩
            · left
              have ei : i = n.toNat := by omega
              subst ei
              refine ⟨Nat.le_refl _, .ref x, rfl, x, CA, dx, fs, rfl, N5.hx, W.cls, W.near, by rw [← hfs]; exact Nat.lt_of_le_of_lt (putF_len _ _ _) (Nat.lt_of_le_of_lt (Nat.succ_le_succ (putF_len _ _ _)) (Nat.lt_of_le_of_lt (Nat.succ_le_succ (Nat.succ_le_succ (putF_len _ _ _))) (by decide))), ?_⟩
              have hfs2 : putF ("rows_near" : Str) (.ref Dd) fs = webFs (.int n) (.ref q) (.ref kk) (.ref Dd) := by rw [← hfs]; exact init_mkfs
              rw [hfs2]
              have N6 : Nr C g F Fx F4 (upd H5 x (.ins CA dx (webFs (.int n) (.ref q) (.ref kk) (.ref Dd)))) w' x dx CA Dd (webFs (.int n) (.ref q) (.ref kk) (.ref Dd)) qs (List.replicate n.toNat []) := by
                have nd := N5.nd
                simp only [List.nodup_cons, List.mem_cons, not_or] at nd
                refine ⟨N5.rel.updO (by simp), N5.nd, upd_same, by rw [upd_ne (Ne.symm nd.1.1)]; exact N5.hD, N5.len, fun j z dz h1 h2 => ?_⟩
                obtain ⟨vs5, h3, h4⟩ := N5.at_ j z dz h1 h2
                exact ⟨vs5, by rw [upd_ne (fun e => nd.1.2 (by rw [← e]; exact List.mem_of_getElem? h1))]; exact h3, h4⟩
              have hq4 : F4 q = some (.lst ys) := by rw [← hF4]; exact (by rw [hF4]; exact le4 _ _ upd_same)
              refine loop_init (l := sortT l) (r := q) (D := Dd) W (fun t m => hall t ((List.mergeSort_perm l leC).mem_iff.mp m)) (by unfold sortT; rw [List.length_mergeSort]; exact hok.2.2.1) (by rfl) (by rfl) hqs N6 hq4 (ry.mono fun a o e => le4 _ _ (le3 _ _ e)) ⟨_, _, _, _, rfl⟩ fun F' H' σ' N7 leF => ?_
              obtain ⟨F8, R8, r8⟩ := N7.done hC (leF _ _ hq4) (ry.mono fun a o e => leF _ _ (le4 _ _ (le3 _ _ e))) rfl
              exact p F8 H' _ R8 r8
end
end DL
namespace DL
open PySem PySem.Spec L2
open PyProof.Rows hiding St
section
variable {X : Cx} {E : XK} {a b c e : Expr} {f h : DS → Oc Sl} {q : DS → Oc Pl} {pos p : Pos} {neg : Bool}
end
def sortI (ns : List Int) : List Int := ns.mergeSort fun a b => decide (a ≤ b)
theorem sortI_pw (ns : List Int) : (sortI ns).Pairwise (· ≤ ·) := by
  have h := List.pairwise_mergeSort (le := fun a b : Int => decide (a ≤ b)) (fun a b c h1 h2 => by simp at *; omega) (fun a b => by simp; omega) ns
  exact h.imp fun {a b} q => by simpa using q
theorem sortI_perm (ns : List Int) : (sortI ns).Perm ns := List.mergeSort_perm ns _
section
variable {X : Cx} {E : XK} {a b c e : Expr} {f h : DS → Oc Sl} {q : DS → Oc Pl} {pos p : Pos}
end
def D.pairs? : List D → Option (List (Int × Int))
  | [] => some []
  | .tup [.int k, .int v] :: r => (D.pairs? r).map ((k, v) :: ·)
  | _ :: _ => none
def lookI (kvs : List (Int × Int)) (i : Int) : Option Int := (kvs.find? fun q => decide (q.1 = i)).map (·.2)
section
variable {X : Cx} {E : XK} {a b c e : Expr} {f h : DS → Oc Sl} {q : DS → Oc Pl} {pos p : Pos}
end
end DL
namespace DL
open PySem PySem.Spec L2
open PyProof.Rows hiding St
section
variable {X : Cx} {E : XK} {a b c e : Expr} {f h : DS → Oc Sl} {q : DS → Oc Pl} {pos p : Pos} {st : Stmt}
end
end DL
namespace DL
open PySem PySem.Spec L2
open PyProof.Rows hiding St
section
variable {C : Cf} {g : Gp} {F0 Fx F H : Hp} {own : Ow} {σ : L2.St} {s : DS}
theorem RelS.unpin1 {D : Addr} {o : HO} (R : RelS C g F0 (upd Fx D o) F H own σ s) (h0 : F0 D = none) (hX : Fx D = none) : RelS C g F0 Fx F H (own1 own D) σ s := by
  have nF : F D = none := R.nw D h0 (by rw [upd_same]; exact fun z => nomatch z)
  have hH : H D = some o := R.fx _ _ upd_same
  have nP : D ≠ g.P := fun z => by have := R.penX; rw [← z, upd_same] at this; cases this
  have nO : ∀ a l, own a = some l → a ≠ D := fun a l q z => by have := (R.ow a l q).2.1; rw [z, upd_same] at this; cases this
  refine { le := R.le, ge := R.ge, nw := fun a n x => ?_, fx := fun a u q => ?_, ow := fun a l q => ?_, pen := R.pen, penF := R.penF, penX := ?_, cells := R.cells, tab := (R.tab.to (fun a ps q1 q2 q3 q4 => have e : a ≠ D := fun z => by rw [z, upd_same] at q3; cases q3
    ⟨q1, q2, by rw [upd_ne e] at q3; exact q3, by show own1 own D a = none; unfold own1; rw [if_neg e]; exact q4⟩) (fun _ _ q => q)), len := R.len, at_ := fun i r ov h1 h2 => ?_ }
  · refine R.nw a n ?_
    rw [upd_ne (fun z => x (by rw [z]; exact hX))]; exact x
  · exact R.fx _ _ (by rw [upd_ne (fun z => by rw [z, hX] at q; cases q)]; exact q)
  · unfold own1 at q
    by_cases e : a = D
    · subst e; exact ⟨nF, hX, nP, by rw [hH]; exact fun z => nomatch z⟩
    · rw [if_neg e] at q
      have h := R.ow a l q
      rw [upd_ne e] at h
      exact h
  · have := R.penX
    rwa [upd_ne (fun z => nP z.symm)] at this
  · refine (R.at_ i r ov h1 h2).mono (fun _ _ q => q) (fun _ _ _ q => q) (fun a q => ?_)
    show own1 own D a = _
    unfold own1
    rw [if_neg (nO a _ q)]
    exact q
end
section
variable {X : Cx} {E : XK} {a b c e : Expr} {f h : DS → Oc Sl} {q : DS → Oc Pl} {pos p : Pos} {st : Stmt}
end
section
variable {X : Cx} {E : XK} {a b c e : Expr} {f h : DS → Oc Sl} {q : DS → Oc Pl} {pos p : Pos} {st : Stmt}
end
end DL
namespace DL
open PySem PySem.Spec L2
open PyProof.Rows hiding St
structure FnG (P : Program) (w : World) (K : PySem.W.Frag) (mg : Str → Option Value) (base : Heap) (CX : CXT) (k : Nat) (f : Addr) (fd : FuncData) (ps : List Str) (sp : Sp) : Prop where
  many : ∀ {vs H Q E}, sp vs H Q E → vs.length = ps.length
  call : ∀ {A : Around} {outer : List Env} {sh : Shared} {H : Hp} {args : Args} {us : List Value} {vs : List V} {Q : VK} {E : XK}, A.guards = some [] → Room k A → Env0 P w K mg base A outer sh H → BindsTo sh fd args (ps.zip us) → Vals vs us → sp vs H Q E →
    codeAny (model P w) A (.call (.ref f) args) (CR CX outer P w H sh Q E) sh
section
variable {P : Program} {w : World} {K : PySem.W.Frag} {mg : Str → Option Value} {base : Heap} {x qual : Str} {params : Arguments} {body : List Stmt} {scope : Scope} {dvs : List V} {kws : List (Str × V)} {f : Addr} {fd : FuncData} {CX : CXT} {N ps : List Str} {k : Nat} {sp : Sp}
end
structure Told (K : PySem.W.Frag) (P : Program) (w : World) (h : Heap) (a : Addr) (ns : List Int) (H : Hp) : Prop where
  only : Only H
  list : SqL K H a (ns.map V.int)
  held : HOk P w H h
  mine : ∀ b u, H b = some u → b = a ∧ K.lookup a = none
theorem told_ex {K : PySem.W.Frag} {P : Program} {w : World} {h : Heap} {a : Addr} {vs : List Value} {ns : List Int} (KX : K.In h) (at_ : h.get? a = some { cls := .type "list", data := .seq vs.toArray }) (are : IntsAre vs ns) (few : ns.length ≤ sizeLine) : ∃ H, Told K P w h a ns H := by
  have rel := vals_ints are
  have same := are.length
  rcases q : K.lookup a with _ | o
  · refine ⟨fun b => if b = a then some (.frz { cls := .type "list", data := .seq vs.toArray } (.lst (ns.map V.int))) else none, fun b => ?_, .inl (.inr ⟨_, if_pos rfl⟩), fun b u z => ?_, fun b u z => ?_⟩
    · rcases Classical.em (b = a) with e | e
      · exact .inr ⟨_, _, if_pos e⟩
      · exact .inl (if_neg e)
    · rcases Classical.em (b = a) with e | e
      · rw [if_pos e] at z; subst e; cases z
        exact ⟨at_, (List.length_map (f := V.int) (as := ns)).symm ▸ few, vs, _, rel, at_⟩
      · rw [if_neg e] at z; cases z
    · rcases Classical.em (b = a) with e | e
      · exact ⟨e, q⟩
      · rw [if_neg e] at z; cases z
  · obtain rfl : o = { cls := .type "list", data := .seq vs.toArray } := Option.some.inj ((KX a o q).symm.trans at_)
    exact ⟨fun _ => none, fun _ => .inl rfl, .inr ⟨_, vs.toArray, _, q, rfl, rfl, rfl, (List.size_toArray (as := vs)).symm ▸ same.symm ▸ few, by simpa using rel⟩, fun b u z => (nomatch z), fun b u z => (nomatch z)⟩
end DL
namespace DL
open PySem PySem.Spec L2
open PyProof.Rows hiding St
section
variable {X : Cx} {E : XK} {e : Expr} {pos p : Pos}
end
end DL
namespace DL
open PySem PySem.Spec L2
open PyProof.Rows hiding St
theorem RelS.grow {C : Cf} {g : Gp} {F0 Fx F H H' : Hp} {own : Ow} {σ : L2.St} {s : DS} (R : RelS C g F0 Fx F H own σ s) (le : LeH H H') : RelS C g F0 Fx F H' own σ s :=
  { R.toRel.grow le with len := R.len, at_ := fun i r ov h1 h2 => (R.at_ i r ov h1 h2).mono (fun _ _ q => q) (fun a o _ q => le a o q) (fun _ q => q) }
def spX1 (K : PySem.W.Frag) (f : Str) : Sp := fun vs H Q _ => ∃ (a C : Addr) (y : V), vs = [.ref a, y] ∧ OexC K C ∧ PySem.W.findIn K (.ref C) f = some none ∧ H a = some (exo a C none) ∧ ∀ dx, H dx = none → dx ≠ a → Q .non (upd (upd H dx (exd dx [(f, y)])) a (exo a C (some dx)))
theorem pure_X1 {K : PySem.W.Frag} {f : Str} {vs : List V} {H : Hp} {Q : VK} {E : XK} (h : spX1 K f vs H Q E) : tOst K f (tVar 0) (tVar 1) { nx := fun _ H' => Q .non H', rt := Q } (L2.start ["self", f] vs) H := by
  obtain ⟨a, C, y, rfl, T, hno, ha, q⟩ := h
  exact ⟨y, rfl, .ref a, rfl, a, C, rfl, T, hno, .inl ⟨ha, fun dx h1 h2 => q dx h1 h2⟩⟩
theorem spX1_len {K : PySem.W.Frag} {f : Str} {vs : List V} {H : Hp} {Q : VK} {E : XK} (h : spX1 K f vs H Q E) : vs.length = 2 := by
  obtain ⟨a, C, y, rfl, _⟩ := h
  rfl
def sRaise1 (c f : Str) (fe : DS → Oc Sl) : DS → Oc Fl := fun s => (fr fe s).bind fun d s1 => .ex ⟨c, [(f, d)]⟩ s1
theorem ss_raise1 {X : Cx} {E : XK} {C fI : Addr} {k : Nat} {fd : FuncData} {c f : Str} {e : Expr} {fe : DS → Oc Sl} {p pos pos' : Pos} (tk : Takes X (fun cls d _ H => E cls d H)) (hc : X.calm = true) (T : OexC X.K C) (hno : PySem.W.findIn X.K (.ref C) f = some none)
    (iC : PySem.W.findIn X.K (.ref C) "__init__" = some (some (.ref fI))) (tI : PySem.W.typeIn X.K (.ref fI) = some (.type "function")) (F1 : FnOk X.prog X.w X.K X.mg X.base (L2.CX X.prog X.w) k fI fd ["self", f] (spX1 X.K f)) (hr : Room (k + 1) X.A) (hb : Binds X.K fd ["self", f] [])
    (hm : X.mg c = some (.ref C)) (he : EO X E e fe) (hg : Gl X c := by rfl) (hdb : (c == ("__debug__" : Str)) = false := by decide) (hst : starEach [e] X.env = (false, eval e X.env) :: starEach [] X.env := by rfl) (hpl : (backTo pos (starEach [] X.env)).any (·.1) = false := by rfl) :
    SS X E (.Raise (some (.Call (.Name c p) [e] [] pos)) none pos') (sRaise1 c f fe) :=
  (ps_raise hc tk (pmk_oex (ds := []) (dvs := []) T iC tI F1 hr hb .nil (passes_call tk fun _ _ _ _ z => z.elim) hg hm (pa_cons he.fr pa_nil hst) hdb hst hpl)).mono fun Dn σ H ⟨g, Fx, F, own, s, R, q⟩ => by
    refine tF.bindS R q fun d F1' H1 own1 s1 v R1 le hv p1 => ?_
    refine ⟨by show (1 : Nat) ≤ 1000; decide, fun a ha => ⟨a, C, v, rfl, T, hno, upd_same, fun dx hdx hne => ⟨rfl, dx, [(f, v)], upd_same, by rw [upd_ne hne, upd_same], by rwa [upd_ne hne] at hdx, ?_⟩⟩⟩
    have hdx' : H1 dx = none := by rwa [upd_ne hne] at hdx
    have eH : upd (del (upd (upd (upd H1 a (exo a C none)) dx (exd dx [(f, v)])) a (exo a C (some dx))) a) dx (.xd [(f, v)]) = upd H1 dx (.xd [(f, v)]) := funext fun b => by
      by_cases e1 : b = dx
      · rw [e1, upd_same, upd_same]
      · rw [upd_ne e1, upd_ne e1]
        by_cases e2 : b = a
        · rw [e2, del_same, ha]
        · rw [del_ne e2, upd_ne e2, upd_ne e1, upd_ne e2]
    show E (.ref C) (some dx) _
    rw [eH]
    exact p1 F1' (upd H1 dx (.xd [(f, v)])) own1 σ (R1.grow (upd_le hdx')) C dx [v] hm upd_same (.cons hv .nil)
end DL
namespace DL
open PySem PySem.Spec L2
open PyProof.Rows hiding St
inductive HdsAs (X : Cx) (n : Str) : List ExceptHandler → List (Value × (Addr → Value → Option Addr → TS)) → Prop
  | nil : HdsAs X n [] []
  | cons {x : Str} {c : Value} {ts : Addr → Value → Option Addr → TS} {st0 : Stmt} {rest : List Stmt} {q1 q2 : Pos} {more : List ExceptHandler} {l : List (Value × (Addr → Value → Option Addr → TS))} (nm : Names X x c)
      (suite : ∀ (a : Addr) (oe : Obj) (cls : Value) (d : Option Addr) (pn : List (Addr × Obj)), Zc cls d oe → (∃ vs, oe.data = .fields vs) → PSs (X.suite a ((a, oe) :: pn)) (st0 :: rest) (ts a cls d)) (tail : HdsAs X n more l) :
      HdsAs X n (.ExceptHandler (some (.Name x q1)) (some n) (st0 :: rest) q2 :: more) ((c, ts) :: l)
section
variable {X : Cx} {n : Str} {i : Nat} {bd : List Stmt} {hd0 : ExceptHandler} {more : List ExceptHandler} {l : List (Value × (Addr → Value → Option Addr → TS))} {pos : Pos} {tb : WX → TS} {W0 : WX}
end
end DL
namespace DL
open PySem PySem.Spec PySem.Calls PySem.W
open PyProof.Rows hiding St
section
variable {prog : Program} {w : World} {A : Around} {E : Value → Shared → Prop} {s : Shared} {K : Frag} {x D : Addr} {ox : Obj} {od : Option Obj}
theorem find_cls (c : L2.ExcC K D) : findObj K D od "__class__" = some (.bind (.builtin "getset_descriptor.__get__") (.builtin "object.__class__")) := by
  obtain ⟨cd, isC, _⟩ := any_some c.hd
  unfold findObj
  rw [isC, Option.bind_some, c.ha]
  rw [Option.bind_some]
  simp [c.hn, c.ht]
theorem ask_cls {Q : Option Value → Shared → Prop} (c : L2.ExcC K D) (inK : K.In s.heap) (at_ : InstAt s.heap x ox D od) (goal : Q (some (.ref D)) { s with toks := s.toks + 1 }) : wpAny (model prog w) A (getAttr? (.ref x) "__class__") Q E s := by
  have found := find_cls (od := od) c
  obtain ⟨h0, g0, d0, t0, os0⟩ := s
  have ty := at_.type (M := model prog w)
  have l1 := looks_findIn (M := model prog w) inK c.hg
  have l2 := looks_findIn (M := model prog w) inK c.hk
  have l3 := looks_find (M := model prog w) inK at_ found
  have isExc : Looks (model prog w) h0 (isInstance (.ref x) (.type "BaseException")) true := ty.andThen (looks_subIn inK c.hs)
  have n0 : (false && onTheHeap (Value.builtin "BaseException.__getattribute__")) = false := rfl
  have n2 : (Value.builtin "BaseException.__getattribute__" == Value.builtin "object.__getattribute__") = false := by decide +kernel
  have n1 : (onTheHeap (Value.ref D) && Value.builtin "BaseException.__getattribute__" == Value.builtin "object.__getattribute__") = false := by rw [n2]; rfl
  unfold getAttr?
  unfold getAttrBy?; unfold getAttrBy
  refine wpAny_bind (wpAny_mkText (wpAny_bind (wpAny_attempt (wpAny_holding (wpAny_bind (ty.at (wpAny_bind (l1.at ?_))))))))
  show wpAny _ _ (if (onTheHeap (Value.ref D) && Value.builtin "BaseException.__getattribute__" == Value.builtin "object.__getattribute__") = true then _ else _) _ _ _
  rw [n1]; rw [if_neg Bool.false_ne_true]
  unfold getAttrByItsOwn; unfold hookBefore
  refine wpAny_bind ?_
  have isH : onTheHeap (Value.ref D) = true := rfl
  rw [if_pos isH]
  refine l2.at ?_
  refine wpAny_bind ?_
  refine wpAny_attempt (wpAny_holding ?_)
  unfold callGetattribute
  rw [n0]; rw [if_neg Bool.false_ne_true]
  unfold boundAndCalled
  rw [PySem.F.excAttr_ValueError.ga.bind (Value.ref x)]
  refine wpAny_bind (wpAny_pure ?_)
  show wpAny _ _ (call (.builtin "BaseException.__getattribute__") [.ref x, .str "__class__" t0]) _ _ _
  refine wpAny_call (codeAny_call_builtin PySem.F.excAttr_ValueError.ga.plain PySem.F.entry_bexc_ga ?go)
  case go =>
  refine @check_slot (model prog w) _ _ ⟨h0, g0, d0, t0 + 1, os0⟩ "BaseException.__getattribute__" "BaseException" "__getattribute__" (.ref x) [.str "__class__" t0] [] _ (by decide +kernel) (by decide +kernel) isExc (PySem.F.args_bexc_ga (.ref x) (.str "__class__" t0)) ?_
  unfold Builtin.«object.__getattribute__»
  refine wpAny_bind (wpAny_of_eq (a := ((Value.ref x : Value), [Value.str "__class__" t0])) (by first | rfl | (simp only [slotArgs]; rfl)) ?_)
  refine wpAny_bind (wpAny_pure (wpAny_bind (ty.at (wpAny_bind (l3.at ?_)))))
  show wpAny _ _ (holding [Value.builtin "object.__class__"] (call (.builtin "getset_descriptor.__get__") [.builtin "object.__class__", .ref x, .ref D]) >>= ret) _ _ _
  refine wpAny_bind (wpAny_holding (wpAny_call (class_get (s := ⟨h0, g0, d0, t0 + 1, os0⟩) (ox := ox) (od := od) inK at_ c.hm ?_)))
  refine wpAny_pure ?_
  show wpAny _ _ (handedOut (.ref D)) _ _ _
  rw [handedOut_of (v := Value.ref D) rfl]
  first
    | exact wpAny_pure (wpAny_pure goal)
    | exact wpAny_pure goal
    | exact wpAny_pure (wpAny_bind (wpAny_pure (wpAny_pure goal)))
theorem kitx_exc (c : L2.ExcC K D) : KitX K (.ref x) (.ref D) (fun h => InstAt h x ox D od) where
  ty := fun _ _ _ at_ => at_.type
  it := fun _ h inK _ => by
    obtain ⟨cd, isC, _⟩ := any_some c.hd
    unfold clsIn at isC
    split at isC
    · rename_i o1 o2 o3 o4 get
      intro A2 Q2 E2 s2 k2 q2
      unfold isType
      unfold loadHead
      exact wpAny_bind (wpAny_loadPart (k2 _ _ (inK _ _ get)) (wpAny_pure q2))
    · cases isC
  ne := fun h tp dd its n sl inK get => by
    obtain ⟨cd, isC, _⟩ := any_some c.hd
    refine Bool.eq_false_iff.mpr fun same => ?_
    obtain rfl : D = tp := Value.ref.inj (beq_iff_eq.mp same)
    unfold clsIn at isC
    split at isC
    · rename_i o1 o2 o3 o4 get2
      cases (inK _ _ get2).symm.trans get
    · cases isC
  ca := fun inK at_ k => ask_cls c inK at_ k
end
open L2 in
def rIsX (K : Frag) (D a dd : Addr) : List V → Hp → VK → Prop := fun xs H Q => ∃ (c : V) (b : Bool) (fs : List (Str × V)), xs = [.ref a, c] ∧ H dd = some (.xd fs) ∧
  ((∃ cv, (∀ u, L2.RelV c u → u = cv) ∧ kitOne K (.ref D) cv = some b) ∨ ∃ t vs its, c = .ref t ∧ H t = some (.tup vs) ∧ (∀ us, Vals vs us → us = its) ∧ kitAny K (.ref D) its = some b) ∧ Q (.bl b) H
end DL
namespace DL
open PySem PySem.Spec L2
open PyProof.Rows hiding St
structure Made (g : Gp) (P : Addr) (F Fx H F1 H1 : Hp) (own : Ow) : Prop where
  le : LeH F1 H1
  ge : LeH F F1
  old : ∀ a, H a ≠ none → F1 a = F a
  keep : ∀ a o, a ≠ P → H a = some o → H1 a = some o
  tab : Tb g F1 Fx H1 own
section
variable {X : Cx} {pins : List (Addr × Obj)} {σ : L2.St} {H F Fx F0 : Hp} {s : Shared} {g : Gp} {own : Ow} {c P : Addr}
theorem Made.refl {g : Gp} {P : Addr} (le : LeH F H) (tab : Tb g F Fx H own) : Made g P F Fx H F H own := ⟨le, fun _ _ e => e, fun _ _ => rfl, fun _ _ _ e => e, tab⟩
theorem RelS.made {C : Cf} {q : Str} {H1 F1 : Hp} {d : DS} (R : RelS C g F0 Fx F H own σ d) (only : g.T = [(P, q)]) (m : Made g P F Fx H F1 H1 own) : RelS C g F0 Fx F1 H1 own σ d := by
  obtain ⟨⟨ps, hP, _, _⟩, fP, xP, oP⟩ := R.tab (P, q) (by rw [only]; exact List.mem_cons_self)
  have nX : ∀ a o, Fx a = some o → a ≠ P := fun a o e z => by rw [z, xP] at e; cases e
  have nO : ∀ a l, own a = some l → a ≠ P := fun a l e z => by rw [z, oP] at e; cases e
  have nP : g.P ≠ P := fun z => by
    have e := R.pen
    rw [z, hP] at e
    exact nomatch e
  have some_ : ∀ {a o}, H a = some o → H a ≠ none := fun e z => by rw [z] at e; cases e
  refine { le := m.le, ge := fun a o e => m.ge _ _ (R.ge _ _ e), nw := fun a n x => ?_, fx := fun a o e => m.keep _ _ (nX a o e) (R.fx _ _ e), ow := fun a l e => ?_, pen := m.keep _ _ nP R.pen, penF := ?_, penX := R.penX, cells := m.ge _ _ R.cells, tab := m.tab, len := R.len, at_ := fun i r ov h1 h2 => ?_ }
  · have : H a ≠ none := by
      cases e : Fx a with
      | none => exact absurd e x
      | some o => exact some_ (R.fx _ _ e)
    rw [m.old a this]
    exact R.nw a n x
  · obtain ⟨h1, h2, h3, h4⟩ := R.ow a l e
    refine ⟨by rw [m.old a h4]; exact h1, h2, h3, ?_⟩
    cases z : H a with
    | none => exact absurd z h4
    | some o => rw [m.keep a o (nO a l e) z]; exact fun z => nomatch z
  · rw [m.old g.P (some_ R.pen)]; exact R.penF
  · exact (R.at_ i r ov h1 h2).mono m.ge (fun a o q e => m.keep a o (nO a _ q) e) fun _ q => q
theorem lam_mk {params : Arguments} {body : Expr} {scope : Scope} {pos : Pos} {E : Value → Shared → Prop} {Q : Value → Shared → Prop} (I : Inv X pins σ H s) (B : LamX.TabB X.base X.mg c P) (atC : X.env.code = .ref c) (only : g.T = [(P, X.env.qual ++ "<lambda>")])
    (le : LeH F H) (tb : Tb g F Fx H own) (noDef : defaultsOf params X.env = ([], [])) (frees : ∀ y ∈ scope.names, y.2 = .free → ∃ a, X.env.cells.lookup y.1 = some a)
    (goal : ∀ (f c1 : Addr) (pm ctv : Value) (F1 H1 : Hp) (s1 : Shared), Inv X pins σ H1 s1 → Made g P F Fx H F1 H1 own →
      s1.heap.get? f = some (PySem.W.kla_obj "<lambda>" (X.env.qual ++ "<lambda>") params body scope (cloFrom X.env.cells scope.names []) pm c1 ctv) → H1 f = none → f ∉ frs X.stack → F1 c1 = some (LamX.CodeO c1 (X.env.qual ++ "<lambda>")) → Q (.ref f) s1) :
    wpAny (model X.prog X.w) X.A (eval (.Lambda params body scope pos) X.env) Q E s := by
  obtain ⟨⟨ps, hP, three, codes⟩, fP, xP, oP⟩ := tb (P, X.env.qual ++ "<lambda>") (by rw [only]; exact List.mem_cons_self)
  refine PySem.W.kla_eval noDef ?_
  have mod_ : s.heap.BuiltinsAt X.mg P := B.bm.keeps I.bk
  have getP : s.heap.get? P = some { cls := .none, data := .fields ps } := I.hok P _ hP
  have notFrame : ∀ f, s.heap.objs.size ≤ f → f ∉ frs X.stack := fun f big m => by
    rcases List.mem_cons.mp (I.stkSub _ m) with e | m2
    · have lt := I.lt
      rw [← e] at lt
      exact Nat.lt_irrefl _ (Nat.lt_of_lt_of_le lt big)
    · exact I.nofs big m2
  cases look : codeAmong pos ps.toList with
  | some cv =>
    obtain ⟨c1, rfl, known⟩ := codes pos cv look
    refine PySem.W.kla_makeFunctionHit (mg := X.mg) (c := c) (P := P) (ps := ps) (closure_ok frees) I.ok.glob (I.mod.glob.keeps I.bk) atC (B.code.keeps I.bk) getP three look mod_ fun ctv hN tk kept big => ?_
    have I1 : Inv X pins σ H { s with heap := hN.push (PySem.W.kla_obj "<lambda>" (X.env.qual ++ "<lambda>") params body scope (cloFrom X.env.cells scope.names []) ((X.mg "__name__").getD .none) c1 ctv), toks := tk } :=
      I.kept fun b o e => Heap.get?_push_of_some _ (kept b o e)
    exact goal hN.objs.size c1 ((X.mg "__name__").getD .none) ctv F H _ I1 (.refl le tb) (Heap.get?_push_size _ rfl) (I.hok.fresh big) (notFrame _ big) known
  | none =>
    refine PySem.W.kla_makeFunction (mg := X.mg) (c := c) (P := P) (ps := ps) (closure_ok frees) I.ok.glob (I.mod.glob.keeps I.bk) atC (B.code.keeps I.bk) getP three look B.gP mod_ fun c1 ctv hN tk kept ge1 lt1 rec1 tabN => ?_
    obtain ⟨c2, oc, vs, t, e2, getC, datC, nmC⟩ := rec1
    cases e2
    have big : s.heap.objs.size ≤ hN.objs.size := Nat.le_trans ge1 (Nat.le_of_lt lt1)
    have newC : H c1 = none := I.hok.fresh ge1
    have I1 := LamX.inv_table (t' := tk) (more := #[rawInt pos.line, rawInt pos.col, .ref c1]) (h' := hN.push (PySem.W.kla_obj "<lambda>" (X.env.qual ++ "<lambda>") params body scope (cloFrom X.env.cells scope.names []) ((X.mg "__name__").getD .none) c1 ctv))
      I hP (fun b o nb e => Heap.get?_push_of_some _ (kept b o nb e)) (Heap.get?_push_of_some _ tabN) ge1 ⟨oc, vs, t, Heap.get?_push_of_some _ getC, datC, nmC⟩
    have nPC : P ≠ c1 := fun z => by rw [z, newC] at hP; cases hP
    have nFC : ∀ a o, F a = some o → a ≠ c1 := fun a o e z => by rw [z] at e; rw [le _ _ e] at newC; cases newC
    have eL : (ps ++ #[rawInt pos.line, rawInt pos.col, .ref c1]).toList = ps.toList ++ [rawInt pos.line, rawInt pos.col, .ref c1] := by simp
    have geF : LeH F (upd F c1 (LamX.CodeO c1 (X.env.qual ++ "<lambda>"))) := fun a o e => by rw [upd_ne (nFC a o e)]; exact e
    have made : Made g P F Fx H (upd F c1 (LamX.CodeO c1 (X.env.qual ++ "<lambda>"))) (upd (upd H P (.tbl (ps ++ #[rawInt pos.line, rawInt pos.col, .ref c1]))) c1 (LamX.CodeO c1 (X.env.qual ++ "<lambda>"))) own := by
      refine ⟨fun a o e => ?_, geF, fun a n => upd_ne (fun z => n (by rw [z]; exact newC)), fun a o n e => ?_, fun p m => ?_⟩
      · by_cases z : a = c1
        · rw [z, upd_same] at e ⊢; exact e
        · rw [upd_ne z] at e
          rw [upd_ne z, upd_ne (fun y => by rw [y, fP] at e; cases e)]
          exact le _ _ e
      · rw [upd_ne (fun z => by rw [z, newC] at e; cases e), upd_ne n]; exact e
      · rw [only] at m
        obtain rfl := List.mem_singleton.mp m
        refine ⟨⟨_, by rw [upd_ne nPC, upd_same], by rw [eL]; exact PySem.TriplesOk_snoc _ _ _ _ three, fun p1 cv found => ?_⟩, by rw [upd_ne nPC]; exact fP, xP, oP⟩
        rw [eL] at found
        rcases LamX.among_app _ three found with z | z
        · obtain ⟨c0, e1, e2⟩ := codes p1 cv z
          exact ⟨c0, e1, geF _ _ e2⟩
        · exact ⟨c1, z, upd_same⟩
    refine goal hN.objs.size c1 ((X.mg "__name__").getD .none) ctv _ _ _ I1 made (Heap.get?_push_size _ rfl) ?_ (notFrame _ big) upd_same
    rw [upd_ne (Nat.ne_of_gt lt1), upd_ne (Nat.ne_of_gt (Nat.lt_of_lt_of_le (Heap.lt_size getP) big))]
    exact I.hok.fresh big
end
end DL
namespace DL
open PySem PySem.Spec L2
open PyProof.Rows hiding St
theorem takes_len {X : Cx} {W : WX} (tk : Takes X W) : Takes X (fun cls d σ H => σ.length = X.N.length → W cls d σ H) := fun u s' ⟨a, B, sI, pins, σ, H, cls, d, e, I, nb, up, sky, na, os, ag, w⟩ =>
  tk u s' ⟨a, B, sI, pins, σ, H, cls, d, e, I, nb, up, sky, na, os, ag, w I.len⟩
end DL
namespace DL
open PySem PySem.Spec L2
open PyProof.Rows hiding St
theorem pss_no {X : Cx} {b : List Stmt} : PSs X b (fun _ _ _ => False) := ⟨fun _ _ _ _ _ _ z => z.elim⟩
section
variable {Z : Cx} {C : Addr} {x w f : Str} {e1 : Expr} {es : List Expr} {cs : List Addr} {more : List ExceptHandler} {l : List (Value × (Addr → Value → Option Addr → TS))} {j j2 j3 : Nat} {q1 q2 p1 p2 p3 p4 p5 p6 p7 p8 p9 p10 p11 p12 p13 p14 p15 : Pos}
end
end DL
namespace DL
open PySem PySem.Spec L2
open PyProof.Rows hiding St
def spLawT (K : PySem.W.Frag) (P : Addr) : Sp := fun vs H Q _ => ∃ (a : Addr) (ns : List Int), vs = [.ref a] ∧ SqL K H a (ns.map V.int) ∧ ns.length ≤ 63 ∧ H P = some (.tbl #[]) ∧ ∀ H', Q (.bl true) H'
def s0T (P : Addr) (q : Str) (n : Nat) (ns : List Int) : DS := ⟨.tb P q :: .fz .pen :: List.replicate n .no, ⟨0, 0, ns⟩⟩
theorem pure_lawT {K : PySem.W.Frag} {mg : Str → Option Value} {n : Nat} {N : List Str} {vs : List V} {H : Hp} {Q : VK} {E : XK} {b : DS → Oc Fl} {T : Addr} {tq : Str} (hN : N.length = n + 2) (math : ∀ ns : List Int, ns.length ≤ 63 → ∃ s', b (s0T T tq n ns) = .ok (.rt (.fz (.bl true))) s') (h : spLawT K T vs H Q E) :
    tSeq (tAsg (tCall (spPen K) [] E (tCons (tVar 0) tNil)) (gName 1)) (tS ⟨K, mg⟩ E b) { nx := fun _ H' => Q .non H', rt := Q } (L2.start N vs) H := by
  obtain ⟨a, ns, rfl, hS, hl, hT, q⟩ := h
  refine ⟨.ref a, rfl, a, ns, rfl, hS, hl, fun P c H' hne hP hc nP nc le => ?_⟩
  obtain ⟨s', e⟩ := math ns hl
  have hst : (L2.start N [.ref a]).set 1 (some (.ref P)) = some (.ref a) :: some (.ref P) :: List.replicate n none := by
    unfold L2.start
    rw [hN]
    show (some (V.ref a) :: List.replicate (n + 1) none).set 1 (some (V.ref P)) = _
    rw [List.replicate_succ]; rfl
  show tS ⟨K, mg⟩ E b _ ((L2.start N [.ref a]).set 1 (some (.ref P))) H'
  rw [hst]
  have nT : T ≠ c := fun z => by rw [z, nc] at hT; cases hT
  refine ⟨⟨P, c, [(T, tq)]⟩, fun _ => none, fun x => if x = c then some (.lst (ns.map V.int)) else none, fun _ => none, s0T T tq n ns, ?_, ?_⟩
  · refine { le := fun x o e => ?_, ge := fun _ _ q => q, nw := fun _ _ z => absurd rfl z, fx := fun _ _ z => (nomatch z), ow := fun _ _ z => (nomatch z), pen := hP, penF := if_neg hne.symm, penX := rfl, cells := if_pos rfl, tab := fun p m => ?_, len := ?_, at_ := fun i r ov h1 h2 => ?_ }
    · have e : (if x = c then some (HO.lst (ns.map V.int)) else none) = some o := e
      by_cases z : x = c
      · rw [if_pos z] at e; cases e; rw [z]; exact hc
      · rw [if_neg z] at e; cases e
    · obtain rfl := List.mem_singleton.mp m
      exact ⟨⟨#[], le _ _ hT, True.intro, fun pos cv z => by
        have z : codeAmong pos [] = some cv := z
        simp [codeAmong] at z⟩, if_neg nT, rfl, rfl⟩
    · show (Sl.tb T tq :: Sl.fz .pen :: List.replicate n Sl.no).length = _
      simp
    · have h1 : (Sl.tb T tq :: Sl.fz D.pen :: List.replicate n Sl.no)[i]? = some r := h1
      match i with
      | 0 => cases h1; exact rfl
      | 1 => cases h1; cases h2; exact ⟨_, rfl, .pen⟩
      | j + 2 =>
        have h1 : (List.replicate n Sl.no)[j]? = some r := h1
        rw [List.getElem?_replicate] at h1
        split at h1
        · cases h1; trivial
        · cases h1
  · rw [e]
    intro v F' H'' own' σ' R' hv
    obtain ⟨v', e', hv'⟩ := hv
    cases e'; cases hv'
    exact q H''
theorem lawT_call {P : Program} {w : World} {K : PySem.W.Frag} {mg mb : Str → Option Value} {CX : CXT} {k : Nat} {fa a c T : Addr} {fd : FuncData} {x : Str} {sp : Sp} {s1 : Shared} {vs : List Value} {ns : List Int}
    (KX : K.In s1.heap) (glob : s1.heap.Ns mainGlobals mg) (blt : s1.heap.Ns builtinsNs mb) (isB : ∀ x : Str, x ≠ "__name__" → mb x = bootBuiltins x) (noLimit : s1.heap.NoLimit) (noGens : s1.gens = #[])
    (empty : s1.heap.get? T = some { cls := .none, data := .fields #[] }) (noK : K.lookup T = none) (codeT : PySem.W.CodeHd s1.heap c T)
    (bmod : ∃ (bm : Addr) (ob : Obj), mg "__builtins__" = some (.ref bm) ∧ bm ≠ builtinsNs ∧ s1.heap.get? bm = some ob ∧ ob.cls = .type "module" ∧ ob.dict = some builtinsNs ∧ ob.data = .plain)
    (at_ : s1.heap.get? a = some { cls := .type "list", data := .seq vs.toArray }) (are : IntsAre vs ns) (few : ns.length ≤ sizeLine) (room : Room k callerA)
    (F : ∀ base : Heap, K.In base → base.Ns mainGlobals mg → LamX.TabB base mg c T → FnG P w K mg base CX k fa fd [x] sp) (binds : ∀ (s : Shared) (u : Value), BindsTo s fd ⟨[u], []⟩ [(x, u)])
    (pre : ∀ H : Hp, H T = some (.tbl #[]) → SqL K H a (ns.map V.int) → sp [.ref a] H (fun v _ => v = .bl true) fun _ _ _ => False)
    (none_ : ∀ H e s', CX [] H s1 (fun _ _ _ => False) e s' → False) :
    codeAny (model P w) callerA (.call (.ref fa) ⟨[.ref a], []⟩) (fun r s' => r = .ok (.ret (.bool true)) ∧ OldK s1.heap s'.heap ∧ s'.os = s1.os ∧ AllBare s'.gens) s1 := by
  obtain ⟨H0, told⟩ := told_ex (P := P) (w := w) KX at_ are few
  have aT : a ≠ T := fun z => by
    rw [z, empty] at at_
    cases at_
  have freeT : H0 T = none := by
    cases z : H0 T with
    | none => rfl
    | some u => exact absurd (told.mine T u z).1.symm aT
  obtain ⟨H, eH⟩ : ∃ H, upd H0 T (.tbl #[]) = H := ⟨_, rfl⟩
  have hH : H T = some (.tbl #[]) := by rw [← eH, upd_same]
  have old : ∀ b, b ≠ T → H b = H0 b := fun b n => by rw [← eH, upd_ne n]
  have list : SqL K H a (ns.map V.int) := by
    rcases told.list with (h | ⟨o, h⟩) | h
    · exact .inl (.inl ((old a aT).trans h))
    · exact .inl (.inr ⟨o, (old a aT).trans h⟩)
    · exact .inr h
  have held : HOk P w H s1.heap := fun b u z => by
    by_cases e : b = T
    · subst e
      rw [hH] at z
      cases z
      exact empty
    · rw [old b e] at z
      rcases told.only b with no | ⟨ob, xs, is⟩
      · cases no.symm.trans z
      · cases is.symm.trans z
        exact told.held b _ is
  have mine : ∀ {b u}, H b = some u → b = T ∨ (b = a ∧ K.lookup a = none) := fun {b u} z => by
    by_cases e : b = T
    · exact .inl e
    · rw [old b e] at z
      exact .inr (told.mine b u z)
  have clear : ∀ {b : Addr} {o : Obj}, s1.heap.get? b = some o → (∀ ws n, o.data ≠ .seq ws n) → o.data ≠ .fields #[] → H b = none := fun {b o} e d1 d2 => by
    rcases z : H b with _ | u
    · rfl
    · rcases mine z with rfl | ⟨rfl, _⟩
      · cases empty.symm.trans e
        exact (d2 rfl).elim
      · cases at_.symm.trans e
        exact (d1 _ _ rfl).elim
  have isDict : ∀ {b : Addr} {o : Obj} {es : Array DictEntry} {ep : Nat}, s1.heap.get? b = some o → o.data = .dict es ep → H b = none := fun {b o es ep} e d => clear e (fun ws n z => by rw [d] at z; cases z) fun z => by rw [d] at z; cases z
  have ns_ : ∀ {b : Addr} {m : Str → Option Value}, s1.heap.Ns b m → (hidT s1.heap H).Ns b m := fun ⟨o, es, ep, e, d, r⟩ => ⟨o, es, ep, hidT_get e (isDict e d), d, r⟩
  have inBase : K.In (hidT s1.heap H) := fun b o e => hidT_get (KX b o e) (by
    rcases z : H b with _ | u
    · rfl
    · rcases mine z with rfl | ⟨rfl, no⟩
      · cases noK.symm.trans e
      · cases no.symm.trans e)
  have tabB : LamX.TabB (hidT s1.heap H) mg c T := by
    refine ⟨?_, ?_, fun z => ?_⟩
    · obtain ⟨o, us, file, tf, flags, tg, inF, text, tt, e1, r1, r2, r3, r4, r5, r6, r7, r8, hne⟩ := codeT
      exact ⟨o, us, file, tf, flags, tg, inF, text, tt, hidT_get e1 (clear e1 (fun ws n z => by rw [r2] at z; cases z) fun z => by
        rw [r2] at z
        cases z
        simp at r3), r1, r2, r3, r4, r5, r6, r7, r8, hne⟩
    · obtain ⟨bm, ob, b1, b2, b3, b4, b5, b6⟩ := bmod
      have n1 : bm ≠ mainGlobals := fun q => by
        obtain ⟨o, es, ep, e, d, _⟩ := glob
        rw [q, e] at b3
        cases b3
        rw [d] at b6
        cases b6
      have n2 : bm ≠ T := fun q => by
        rw [q, empty] at b3
        cases b3
        cases b6
      exact ⟨bm, ob, b1, b2, n1, n2, hidT_get b3 (clear b3 (fun ws n z => by rw [b6] at z; cases z) fun z => by rw [b6] at z; cases z), b4, b5, b6⟩
    · obtain ⟨o, es, ep, e, d, _⟩ := glob
      rw [z, empty] at e
      cases e
      cases d
  obtain ⟨mc, l1, l2⟩ := noLimit
  refine codeAny_mono ((F _ inBase (ns_ glob) tabB).call (outer := []) (us := [.ref a]) (vs := [.ref a]) rfl room ⟨rfl, ⟨inBase, ns_ glob, ⟨mb, ns_ blt, isB⟩, ⟨mc, ns_ l1, l2⟩⟩, fun b o e => of_hidT e, Nat.le_of_eq (hidT_size _ _), trivial, fun b m => absurd (show b ∈ ([] : List Addr) from m) (by simp), held, .of_eq noGens⟩ (binds s1 (.ref a)) (.cons rfl .nil) (pre H hH list)) fun r s' ends => ?_
  match r, ends with
  | .error e, z => exact (none_ H e s' z).elim
  | .ok .next, z => exact z.elim
  | .ok .brk, z => exact z.elim
  | .ok .cont, z => exact z.elim
  | .ok (.ret u), ⟨v, H', os, bare, un, held', rel, (q : v = .bl true)⟩ =>
    subst q
    obtain rfl : u = Value.bool true := rel
    have keeps : ∀ b o, b ≠ T → s1.heap.get? b = some o → s'.heap.get? b = some o := fun b o n e => by
      rcases z : H b with _ | y
      · exact un.keep b o e z (fun m => absurd (show b ∈ ([] : List Addr) from m) (by simp)) (by simp)
      · have z0 := z
        rw [old b n] at z0
        rcases told.only b with no | ⟨ob, xs, is⟩
        · cases no.symm.trans z0
        · have is2 : H b = some (.frz ob (.lst xs)) := (old b n).trans is
          cases ((told.held b _ is).1).symm.trans e
          exact (held' b _ (un.frzs b _ _ is2)).1
    obtain ⟨more, grown⟩ : ∃ more : Array Value, s'.heap.get? T = some { cls := .none, data := .fields more } := by
      obtain ⟨more, z⟩ := un.tbls T #[] hH
      exact ⟨_, held' T _ z⟩
    refine ⟨rfl, ⟨fun b o e => ?_, fun b o e => ?_⟩, os, bare⟩
    · by_cases z : b = T
      · subst z
        cases empty.symm.trans e
        exact .inr (.inl ⟨(codeT.tab empty).isCodeTable, rfl, #[], more, rfl, by rw [Array.empty_append]; exact grown⟩)
      · exact .inl (keeps b o z e)
    · by_cases z : b = T
      · subst z
        exact ⟨_, grown⟩
      · exact ⟨o, keeps b o z e⟩
end DL
namespace DL
open PySem PySem.Spec PyProof.Rows
def codeOf (K : PySem.W.Frag) : Addr := match K.lookup (He.ga K "law") with
  | some ⟨_, _, .func fd, _⟩ => (match fd.code with
    | .ref c => c
    | _ => 0)
  | _ => 0
def tabOf (K : PySem.W.Frag) : Addr := match K.lookup (codeOf K) with
  | some ⟨_, _, .fields vs, _⟩ => (match (vs[(11 : Nat)]? : Option Value) with
    | some (.ref P) => P
    | _ => 0)
  | _ => 0
def headB (g : Addr → Option Obj) (K : PySem.W.Frag) (P : Addr) : Bool := (match K.lookup (He.ga K "law") with
    | some ⟨_, _, .func fd, _⟩ => decide (fd.code = .ref (codeOf K))
    | _ => false) &&
  ((match g (codeOf K) with
    | some ⟨.type t, _, .fields vs, _⟩ => decide (t = "code") && (decide (vs[11]? = some (.ref P)) && ((match vs.getD 18 .none with
      | .str _ _ => true
      | _ => false) && ((match vs.getD 7 .none with
      | .int _ _ => true
      | _ => false) && ((match vs.getD 9 .none with
      | .bool _ => true
      | _ => false) && ((match vs.getD 10 .none with
      | .int _ _ => true
      | _ => false) && decide (codeOf K ≠ P))))))
    | _ => false) &&
  (match g P with
    | some ⟨.none, none, .fields vs, sl⟩ => vs.isEmpty && sl.isEmpty
    | _ => false))
structure HasTab (K : PySem.W.Frag) (h : Heap) (c P : Addr) : Prop where
  law : ∃ oc od fd sl, K.lookup (He.ga K "law") = some ⟨oc, od, .func fd, sl⟩ ∧ fd.code = .ref c
  code : PySem.W.CodeHd h c P
  empty : h.get? P = some { cls := .none, data := .fields #[] }
theorem headB_ok {K : PySem.W.Frag} {h : Heap} {P : Addr} (t : headB h.get? K P = true) : HasTab K h (codeOf K) P := by
  unfold headB at t
  simp only [Bool.and_eq_true] at t
  obtain ⟨t1, t2, t3⟩ := t
  refine ⟨?_, ?_, ?_⟩
  · split at t1
    · rename_i oc od fd sl e
      exact ⟨oc, od, fd, sl, e, of_decide_eq_true t1⟩
    · cases t1
  · split at t2
    · rename_i ty od vs sl e
      obtain ⟨u1, t2⟩ := Bool.and_eq_true_iff.mp t2
      obtain ⟨u2, t2⟩ := Bool.and_eq_true_iff.mp t2
      obtain ⟨u3, t2⟩ := Bool.and_eq_true_iff.mp t2
      obtain ⟨u4, t2⟩ := Bool.and_eq_true_iff.mp t2
      obtain ⟨u5, t2⟩ := Bool.and_eq_true_iff.mp t2
      obtain ⟨u6, u7⟩ := Bool.and_eq_true_iff.mp t2
      have v2 := of_decide_eq_true u2
      have v7 := of_decide_eq_true u7
      obtain ⟨file, tf, v3⟩ : ∃ file tf, vs.getD 18 .none = .str file tf := by
        split at u3
        · rename_i a b e; exact ⟨a, b, e⟩
        · cases u3
      obtain ⟨flags, tg, v4⟩ : ∃ flags tg, vs.getD 7 .none = .int flags tg := by
        split at u4
        · rename_i a b e; exact ⟨a, b, e⟩
        · cases u4
      obtain ⟨inF, v5⟩ : ∃ inF, vs.getD 9 .none = .bool inF := by
        split at u5
        · rename_i a e; exact ⟨a, e⟩
        · cases u5
      obtain ⟨text, tt, v6⟩ : ∃ text tt, vs.getD 10 .none = .int text tt := by
        split at u6
        · rename_i a b e; exact ⟨a, b, e⟩
        · cases u6
      have v1 := of_decide_eq_true u1
      exact ⟨_, vs, file, tf, flags, tg, inF, text, tt, e, by rw [v1], rfl, v2, by simp [Array.getD_eq_getD_getElem?, v2], v3, v4, v5, v6, v7⟩
    · cases t2
  · split at t3
    · rename_i vs sl e
      obtain ⟨u1, u2⟩ := Bool.and_eq_true_iff.mp t3
      rw [e]
      have w1 : vs = #[] := by simpa using u1
      have w2 : sl = #[] := by simpa using u2
      rw [w1, w2]
    · cases t3
theorem frG_none {g : Addr → Option Obj} {P : Addr} : ∀ {as : List Addr}, P ∉ as → (He.frG g as).lookup P = none
  | [], _ => rfl
  | b :: r, n => by
    have ih := frG_none (g := g) (as := r) fun m => n (List.mem_cons_of_mem _ m)
    have nb : (P == b) = false := by
      simp only [beq_eq_false_iff_ne, ne_eq]
      exact fun z => n (by rw [z]; exact List.mem_cons_self)
    unfold He.frG at ih ⊢
    rw [List.filterMap_cons]
    cases g b with
    | none => exact ih
    | some o =>
      show List.lookup P ((b, o) :: _) = none
      unfold List.lookup
      rw [nb]
      exact ih
def fragX (n : Nat) (g : Addr → Option Obj) : PySem.W.Frag × Addr := (He.frG g ((sysModules :: He.asD g n).filter (· != tabOf (He.frG g (He.asD g n)))), tabOf (He.frG g (He.asD g n)))
def obsX (n : Nat) (fa : List He.Fa) (fx : List (PySem.W.Frag → Bool)) (fn : List He.DefD) (g : Addr → Option Obj) : He.AlD :=
  (((He.obsD fa fn (fragX n g).1).1 && fx.all fun f => f (fragX n g).1) && headB g (fragX n g).1 (fragX n g).2, (He.obsD fa fn (fragX n g).1).2)
structure SaysX (fa : List He.Fa) (fx : List (PySem.W.Frag → Bool)) (fn : List He.DefD) (K : PySem.W.Frag) (h : Heap) (c P : Addr) : Prop where
  inK : K.In h
  says : He.SaysD fa fn K
  facts : ∀ f ∈ fx, f K = true
  tab : HasTab K h c P
  noK : K.lookup P = none
def hookX (n : Nat) (fa : List He.Fa) (fx : List (PySem.W.Frag → Bool)) (fn : List He.DefD) : PySem.W.Hook where
  α := He.AlD
  obs := fun s => obsX n fa fx fn s.heap.get?
  val := fun _ => He.valD fn
  says := fun _ h => ∃ K c P, SaysX fa fx fn K h c P
  of := fun _ s e => by
    have e1 : (((He.obsD fa fn (fragX n s.heap.get?).1).1 && fx.all fun f => f (fragX n s.heap.get?).1) && headB s.heap.get? (fragX n s.heap.get?).1 (fragX n s.heap.get?).2) = true := congrArg (fun z : He.AlD => z.1) e
    have e2 : (He.obsD fa fn (fragX n s.heap.get?).1).2 = fn.map He.DefD.val := congrArg (fun z : He.AlD => z.2) e
    obtain ⟨e3, e4⟩ := Bool.and_eq_true_iff.mp e1
    obtain ⟨e5, e6⟩ := Bool.and_eq_true_iff.mp e3
    exact ⟨_, _, _, He.frG_in, Prod.ext e5 e2, fun f m => List.all_eq_true.mp e6 f m, headB_ok e4, frG_none (fun m => by
      simp at m
      exact m.2 rfl)⟩
  keeps := fun _ _ _ ⟨K, c, P, S⟩ k => ⟨K, c, P, PySem.W.Frag.In.keeps S.inK k, S.says, S.facts, ⟨S.tab.law, S.tab.code.keeps k, k _ _ S.tab.empty⟩, S.noK⟩
theorem obsX_eq {n : Nat} {fa : List He.Fa} {fx : List (PySem.W.Frag → Bool)} {fn : List He.DefD} {g : Addr → Option Obj} {s : Shared} (h : ∀ a, g a = s.heap.get? a) : obsX n fa fx fn g = (hookX n fa fx fn).obs s := by
  obtain rfl : g = s.heap.get? := funext h
  rfl
end DL
namespace DL
open PySem PySem.Spec L2
open PyProof.Rows hiding St
def oexB (K : PySem.W.Frag) (C : Addr) : Bool := (match K.lookup C with
    | some ⟨.type t, _, .cls cd, sl⟩ => decide (t = "type") && (match cd.mro, sl.toList with
      | .ref C1 :: bm, [_, _, _, _, some (.builtin n), _] => (decide (C1 = C) && decide (n = "ValueError.__new__")) && ((!cd.hasDel && cd.hasDict) && PySem.HandSPX.refsVE bm)
      | _, _ => false)
    | _ => false) &&
  (decide (PySem.W.findIn K (.ref C) "__setattr__" = some (some (.builtin "object.__setattr__"))) && (decide (PySem.W.subIn K (.ref C) (.type "BaseException") = some true) &&
    (decide (PySem.W.typeIn K (.ref C) = some (.type "type")) && PySem.W.keepIn K (.ref C))))
theorem oexB_ok {K : PySem.W.Frag} {C : Addr} (h : oexB K C = true) : OexC K C := by
  unfold oexB at h
  obtain ⟨h1, h⟩ := Bool.and_eq_true_iff.mp h
  obtain ⟨h2, h⟩ := Bool.and_eq_true_iff.mp h
  obtain ⟨h3, h⟩ := Bool.and_eq_true_iff.mp h
  obtain ⟨h4, h5⟩ := Bool.and_eq_true_iff.mp h
  refine ⟨?_, of_decide_eq_true h2, of_decide_eq_true h3, of_decide_eq_true h4, h5⟩
  split at h1
  · rename_i t dd cd sl get
    have hm := (Bool.and_eq_true_iff.mp h1).2
    have isT : t = "type" := of_decide_eq_true (Bool.and_eq_true_iff.mp h1).1
    clear h1
    subst isT
    split at hm
    · rename_i C1 bm k0 k1 k2 k3 n k5 isM isS
      obtain ⟨g1, g2⟩ := Bool.and_eq_true_iff.mp hm
      obtain ⟨g3, g4⟩ := Bool.and_eq_true_iff.mp g1
      obtain ⟨g5, g6⟩ := Bool.and_eq_true_iff.mp g2
      obtain ⟨g7, g8⟩ := Bool.and_eq_true_iff.mp g5
      have e1 := of_decide_eq_true g3
      have e2 := of_decide_eq_true g4
      subst e1 e2
      obtain ⟨c1, c2, c3, c4, c5, c6, c7, c8, c9, c10, c11⟩ := cd
      dsimp only at isM g7 g8
      simp only [Bool.not_eq_true'] at g7
      subst isM g7 g8
      obtain ⟨ls⟩ := sl
      simp only at isS
      subst isS
      exact ⟨_, _, _, _, bm, _, _, _, _, _, k0, k1, k2, k3, k5, get, g6⟩
    · cases hm
  · cases h1
def excB (K : PySem.W.Frag) (D : Addr) : Bool := (decide (PySem.W.findIn K (.ref D) "__getattribute__" = some (some (.builtin "BaseException.__getattribute__"))) && (decide (PySem.W.findIn K (.ref D) "__getattr__" = some none) && (decide (PySem.W.subIn K (.ref D) (.type "BaseException") = some true) && PySem.W.hasDictIn K D))) &&
  (decide (PySem.W.findIn K (.ref D) "__class__" = some (some (.builtin "object.__class__"))) && (decide (PySem.W.specialIn K (.builtin "object.__class__") "__get__" = some (some (.builtin "getset_descriptor.__get__"))) &&
    (decide (PySem.W.takesIn K (.builtin "object.__class__") = some true) && decide (PySem.W.mroIn K D (.type "object") = some true))))
theorem excB_ok {K : PySem.W.Frag} {D : Addr} (h : excB K D = true) : ExcC K D := by
  unfold excB at h
  obtain ⟨ha, hb⟩ := Bool.and_eq_true_iff.mp h
  obtain ⟨h1, ha⟩ := Bool.and_eq_true_iff.mp ha
  obtain ⟨h2, ha⟩ := Bool.and_eq_true_iff.mp ha
  obtain ⟨h3, h4⟩ := Bool.and_eq_true_iff.mp ha
  obtain ⟨h5, hb⟩ := Bool.and_eq_true_iff.mp hb
  obtain ⟨h6, hb⟩ := Bool.and_eq_true_iff.mp hb
  obtain ⟨h7, h8⟩ := Bool.and_eq_true_iff.mp hb
  exact ⟨of_decide_eq_true h1, of_decide_eq_true h2, of_decide_eq_true h3, h4, of_decide_eq_true h5, of_decide_eq_true h6, of_decide_eq_true h7, of_decide_eq_true h8⟩
def xinB (K : PySem.W.Frag) (C : Addr) (f : Str) : Bool := (decide (PySem.W.findIn K (.ref C) "__init__" = some (some (.ref (He.ma K C "__init__")))) && decide (PySem.W.typeIn K (.ref (He.ma K C "__init__")) = some (.type "function"))) && decide (PySem.W.findIn K (.ref C) f = some none)
theorem xinB_ok {K : PySem.W.Frag} {C : Addr} {f : Str} (h : xinB K C f = true) : PySem.W.findIn K (.ref C) "__init__" = some (some (.ref (He.ma K C "__init__"))) ∧ PySem.W.typeIn K (.ref (He.ma K C "__init__")) = some (.type "function") ∧ PySem.W.findIn K (.ref C) f = some none := by
  unfold xinB at h
  obtain ⟨h, h3⟩ := Bool.and_eq_true_iff.mp h
  obtain ⟨h1, h2⟩ := Bool.and_eq_true_iff.mp h
  exact ⟨of_decide_eq_true h1, of_decide_eq_true h2, of_decide_eq_true h3⟩
theorem fnGT_of {P : Program} {w : World} {K : PySem.W.Frag} {mg : Str → Option Value} {base : Heap} {x qual : Str} {params : Arguments} {body : List Stmt} {scope : Scope} {dvs : List V} {kws : List (Str × V)} {f c : Addr} {fd : FuncData} {CX : CXT} {N ps : List Str} {k : Nat} {sp : Sp}
    (F : FunD K x qual params body scope dvs kws f fd) (isC : fd.code = .ref c) (S : FnScope N ps scope) (many : ∀ {vs H Q E}, sp vs H Q E → vs.length = ps.length)
    (walk : ∀ (A : Around) (outer : List Env) (sh : Shared) (H : Hp) (vs : List V) (Q : VK) (E : XK), A.guards = some [] → Room k (A.deeper (envOfC qual scope sh.heap.objs.size f (.ref c))) → sp vs H Q E →
      ∃ t, PSs (cxOf CX P w K mg base N qual scope f (.ref c) A outer sh H E) body t ∧ t { nx := fun _ H' => Q .non H', rt := Q } (start N vs) H) : FnG P w K mg base CX (k + 1) f fd ps sp := by
  obtain ⟨oc, od, dV, kV, doc, pm, an, cdv, ct, osl, rfl, at_, code, r1, r2⟩ := F.ex
  obtain rfl : cdv = .ref c := isC
  refine ⟨many, fun {A outer sh H args us vs Q E} noRepr room env binds vals pre => ?_⟩
  have inB : K.In sh.heap := fun b o z => (env.bs b o (env.mod.kin b o z)).1
  have names : ∀ y ∈ ps.zip us, scope.names.lookup y.1 = some .local ∨ (scope.names.lookup y.1 = some .cell ∧ ((cellsFrom (sh.heap.objs.size + 1) scope.names []).lookup y.1).isSome = true) := by
    rintro ⟨y, u⟩ m
    exact (S.par y (List.of_mem_zip m).1).imp id fun z => ⟨z, PySem.W.cellsFrom_some _ _ _ (.inl z)⟩
  obtain ⟨t, steps, goal⟩ := walk A outer sh H vs Q E noRepr (room.deeper _) pre
  refine codeAny_call_function room.depth (inB _ _ at_) rfl S.co S.gen rfl (PySem.W.codeRec_of inB code) (binds _ _ _ _ (wpAny_newFunctionEnv_cells S.kind names fun fresh isIt sh1 made => ?_))
  subst isIt
  refine ⟨(env.mod.nolimit.keeps fun b o z => (env.bs b o z).1).keeps made.toInCall.keep, codeAny_func (wpAny_mono (steps.run [] sh1 (start N vs) H _ (inv_start S room.hd env (many pre) vals made) goal) (fun fl sh2 ends => ?_) fun _ _ z => z)⟩
  match fl, ends with
  | .ret u, ⟨v, _, H2, I, rel, q⟩ => exact ⟨v, H2, I.os, I.bare, I.base, I.hok, rel, q⟩
  | .next, ⟨_, H2, I, q⟩ => exact ⟨.non, H2, I.os, I.bare, I.base, I.hok, rfl, q⟩
  | .brk, ⟨_, _, _, q⟩ => exact q.elim
  | .cont, ⟨_, _, _, q⟩ => exact q.elim
end DL
namespace DL
open PySem PySem.Spec PyProof.Rows L2
theorem walkT {l : PySem.W.OpenLaw} {n k : Nat} {q : Program} {loose : List Str} {XP : (Str → Option Value) → Heap → Prop} {d : DefRec} {x : Str} {fa : List He.Fa} {fx : List (PySem.W.Frag → Bool)} {fn : List He.DefD} (most : l.most = some n) (few : n ≤ sizeLine) (plain : d.params.defaults = []) (room : Room k callerA)
    (make : ∀ (w : World) (mg : Str → Option Value) (f : Addr) (h : Heap) (K : PySem.W.Frag) (c T : Addr), SaysX fa fx fn K h c T → h.Ns mainGlobals mg → mg d.name = some (.ref f) → ∃ fd : FuncData, (∀ (s : Shared) (u : Value), BindsTo s fd ⟨[u], []⟩ [(x, u)]) ∧
      (∀ (H : Hp) (a : Addr) (ns : List Int), ns.length ≤ n → H T = some (.tbl #[]) → SqL K H a (ns.map V.int) → spLawT K T [.ref a] H (fun v _ => v = .bl true) fun _ _ _ => False) ∧
      ∀ base : Heap, K.In base → base.Ns mainGlobals mg → LamX.TabB base mg c T → FnG l.prog w K mg base (L2.CX l.prog w) k f fd [x] (spLawT K T)) :
    PySem.W.WalkO q loose XP (fun _ h => ∃ K c P, SaysX fa fx fn K h c P) l.row.toRowW d [] (fun f vs => PySem.call f vs) := by
  refine Att.attach_call most plain fun w sA sB mg mb f o pm cd doc a vs ns G Y isLaw isDef code global list hints small heap => ?_
  obtain ⟨K, c, T, S⟩ := Y
  obtain ⟨fd, binds, says, keeps⟩ := make w mg f _ K c T S G.T.g global
  exact lawT_call S.inK G.T.g G.T.b G.T.builtins G.T.nolimit heap S.tab.empty S.noK S.tab.code G.T.bmain list hints (Nat.le_trans small few) room keeps binds (fun H hT hS => says H a ns small hT hS) fun H e s' z => let ⟨_, _, _, _, _, _, _, _, _, _, _, _, bad⟩ := z; bad
end DL
namespace DL
open PySem PySem.Spec L2
open PyProof.Rows hiding St
section
variable {X : Cx} {E : XK} {a o e : Expr} {f h : DS → Oc Sl} {p pr pos p1 ap : Pos}
end
end DL
namespace K04
open PySem PySem.Spec L2 DL
open PyProof.Rows hiding St
def topS (i : Nat) : Stmt := PySem.Challenge.pw_giveback_k04_standings_or_not.main.body.getD i (.Pass ⟨0, 0, 0, 0⟩)
abbrev s__law_pen : Stmt := topS 103
abbrev s__law_draw : Stmt := topS 104
abbrev s__law_pick : Stmt := topS 105
abbrev s__law_shuffled : Stmt := topS 107
abbrev s__law_any_web : Stmt := topS 108
abbrev s__law_great : Stmt := topS 106
abbrev s__law_number : Stmt := topS 109
abbrev s__law_standing : Stmt := topS 110
abbrev s_is_whole : Stmt := topS 10
abbrev s_is_tie : Stmt := topS 17
abbrev s_need_web : Stmt := topS 18
abbrev s_Web___init__ : Stmt := inClass (topS 19) 0
abbrev s__law_anything : Stmt := topS 111
abbrev s__law_bent : Stmt := topS 112
abbrev s__law_whole : Stmt := topS 113
abbrev s__law_due : Stmt := topS 114
abbrev s_is_row_of : Stmt := topS 23
abbrev s_Web___len__ : Stmt := inClass (topS 19) 2
abbrev s_NoStanding___init__ : Stmt := inClass (topS 2) 0
abbrev s_need_standing : Stmt := topS 24
abbrev s_beat_on : Stmt := topS 29
abbrev s_beat_back : Stmt := topS 30
abbrev s_run_of : Stmt := topS 31
abbrev s_steps_of : Stmt := topS 56
abbrev s_standing_behind : Stmt := topS 101
abbrev s_never_paper : Stmt := topS 64
abbrev s_comes_back : Stmt := topS 65
abbrev s_shows_never : Stmt := topS 68
abbrev s__law_told : Stmt := topS 115
abbrev s_law : Stmt := topS 116
structure Txt (K : PySem.W.Frag) (mg : Str → Option Value) : Prop where
  z_len : mg "len" = none
  z_abs : mg "abs" = none
  z_list : mg "list" = none
  z_range : mg "range" = none
  z_tuple : mg "tuple" = none
  z_bool : mg "bool" = none
  z_isinstance : mg "isinstance" = none
  z_int : mg "int" = none
  z_all : mg "all" = none
  z_repr : mg "repr" = none
  z_sorted : mg "sorted" = none
  z_ValueError : mg "ValueError" = none
  c_MOST_CORDS : ∃ t, mg "MOST_CORDS" = some (.int 9 t)
  c_MOST_POSTS : ∃ t, mg "MOST_POSTS" = some (.int 12 t)
  g__law_pen : mg "_law_pen" = some (.ref (He.ga K "_law_pen"))
  g__law_draw : mg "_law_draw" = some (.ref (He.ga K "_law_draw"))
  g__law_pick : mg "_law_pick" = some (.ref (He.ga K "_law_pick"))
  g__law_shuffled : mg "_law_shuffled" = some (.ref (He.ga K "_law_shuffled"))
  g__law_any_web : mg "_law_any_web" = some (.ref (He.ga K "_law_any_web"))
  g__law_great : mg "_law_great" = some (.ref (He.ga K "_law_great"))
  g__law_number : mg "_law_number" = some (.ref (He.ga K "_law_number"))
  g__law_standing : mg "_law_standing" = some (.ref (He.ga K "_law_standing"))
  g_is_whole : mg "is_whole" = some (.ref (He.ga K "is_whole"))
  g_is_tie : mg "is_tie" = some (.ref (He.ga K "is_tie"))
  g_need_web : mg "need_web" = some (.ref (He.ga K "need_web"))
  g__law_anything : mg "_law_anything" = some (.ref (He.ga K "_law_anything"))
  g__law_bent : mg "_law_bent" = some (.ref (He.ga K "_law_bent"))
  g__law_whole : mg "_law_whole" = some (.ref (He.ga K "_law_whole"))
  g__law_due : mg "_law_due" = some (.ref (He.ga K "_law_due"))
  g_is_row_of : mg "is_row_of" = some (.ref (He.ga K "is_row_of"))
  g_need_standing : mg "need_standing" = some (.ref (He.ga K "need_standing"))
  g_beat_on : mg "beat_on" = some (.ref (He.ga K "beat_on"))
  g_beat_back : mg "beat_back" = some (.ref (He.ga K "beat_back"))
  g_run_of : mg "run_of" = some (.ref (He.ga K "run_of"))
  g_steps_of : mg "steps_of" = some (.ref (He.ga K "steps_of"))
  g_standing_behind : mg "standing_behind" = some (.ref (He.ga K "standing_behind"))
  g_never_paper : mg "never_paper" = some (.ref (He.ga K "never_paper"))
  g_comes_back : mg "comes_back" = some (.ref (He.ga K "comes_back"))
  g_shows_never : mg "shows_never" = some (.ref (He.ga K "shows_never"))
  g__law_told : mg "_law_told" = some (.ref (He.ga K "_law_told"))
  g_law : mg "law" = some (.ref (He.ga K "law"))
  g_Web : mg "Web" = some (.ref (He.ga K "Web"))
  k_Web : Cls K (He.ga K "Web")
  mk_Web : Mk K (He.ga K "Web") (He.ma K (He.ga K "Web") "__init__")
  g_NoStanding : mg "NoStanding" = some (.ref (He.ga K "NoStanding"))
  g_NoWeb : mg "NoWeb" = some (.ref (He.ga K "NoWeb"))
  g_NoPart : mg "NoPart" = some (.ref (He.ga K "NoPart"))
  f_Web_rows_near : NoAttr K (He.ga K "Web") "rows_near"
  f_Web_size : NoAttr K (He.ga K "Web") "size"
  f_Web_rows : NoAttr K (He.ga K "Web") "rows"
  f_Web_known_kinds : NoAttr K (He.ga K "Web") "known_kinds"
  M_Web___init__ : Meth K (He.ga K "Web") "__init__" (He.ma K (He.ga K "Web") "__init__")
  M_Web___len__ : Meth K (He.ga K "Web") "__len__" (He.ma K (He.ga K "Web") "__len__")
  D__law_pen : ∃ fd, FunD K "_law_pen" "_law_pen" (defArgs s__law_pen) (defBody s__law_pen) (defScope s__law_pen) [] [] (He.ga K "_law_pen") fd
  D__law_draw : ∃ fd, FunD K "_law_draw" "_law_draw" (defArgs s__law_draw) (defBody s__law_draw) (defScope s__law_draw) [] [] (He.ga K "_law_draw") fd
  D__law_pick : ∃ fd, FunD K "_law_pick" "_law_pick" (defArgs s__law_pick) (defBody s__law_pick) (defScope s__law_pick) [] [] (He.ga K "_law_pick") fd
  D__law_shuffled : ∃ fd, FunD K "_law_shuffled" "_law_shuffled" (defArgs s__law_shuffled) (defBody s__law_shuffled) (defScope s__law_shuffled) [] [] (He.ga K "_law_shuffled") fd
  D__law_any_web : ∃ fd, FunD K "_law_any_web" "_law_any_web" (defArgs s__law_any_web) (defBody s__law_any_web) (defScope s__law_any_web) [] [] (He.ga K "_law_any_web") fd
  D__law_great : ∃ fd, FunD K "_law_great" "_law_great" (defArgs s__law_great) (defBody s__law_great) (defScope s__law_great) [] [] (He.ga K "_law_great") fd
  D__law_number : ∃ fd, FunD K "_law_number" "_law_number" (defArgs s__law_number) (defBody s__law_number) (defScope s__law_number) [] [] (He.ga K "_law_number") fd
  D__law_standing : ∃ fd, FunD K "_law_standing" "_law_standing" (defArgs s__law_standing) (defBody s__law_standing) (defScope s__law_standing) [] [] (He.ga K "_law_standing") fd
  D_is_whole : ∃ fd, FunD K "is_whole" "is_whole" (defArgs s_is_whole) (defBody s_is_whole) (defScope s_is_whole) [.int (-1000000000000000000000000000000), .int 1000000000000000000000000000000] [] (He.ga K "is_whole") fd
  D_is_tie : ∃ fd, FunD K "is_tie" "is_tie" (defArgs s_is_tie) (defBody s_is_tie) (defScope s_is_tie) [] [] (He.ga K "is_tie") fd
  D_need_web : ∃ fd, FunD K "need_web" "need_web" (defArgs s_need_web) (defBody s_need_web) (defScope s_need_web) [] [] (He.ga K "need_web") fd
  D_Web___init__ : ∃ fd, FunD K "__init__" "Web.__init__" (defArgs s_Web___init__) (defBody s_Web___init__) (defScope s_Web___init__) [] [] (He.ma K (He.ga K "Web") "__init__") fd
  D__law_anything : ∃ fd, FunD K "_law_anything" "_law_anything" (defArgs s__law_anything) (defBody s__law_anything) (defScope s__law_anything) [] [] (He.ga K "_law_anything") fd
  D__law_bent : ∃ fd, FunD K "_law_bent" "_law_bent" (defArgs s__law_bent) (defBody s__law_bent) (defScope s__law_bent) [] [] (He.ga K "_law_bent") fd
  D__law_whole : ∃ fd, FunD K "_law_whole" "_law_whole" (defArgs s__law_whole) (defBody s__law_whole) (defScope s__law_whole) [] [] (He.ga K "_law_whole") fd
  D__law_due : ∃ fd, FunD K "_law_due" "_law_due" (defArgs s__law_due) (defBody s__law_due) (defScope s__law_due) [] [] (He.ga K "_law_due") fd
  D_is_row_of : ∃ fd, FunD K "is_row_of" "is_row_of" (defArgs s_is_row_of) (defBody s_is_row_of) (defScope s_is_row_of) [] [] (He.ga K "is_row_of") fd
  D_Web___len__ : ∃ fd, FunD K "__len__" "Web.__len__" (defArgs s_Web___len__) (defBody s_Web___len__) (defScope s_Web___len__) [] [] (He.ma K (He.ga K "Web") "__len__") fd
  D_NoStanding___init__ : ∃ fd, FunD K "__init__" "NoStanding.__init__" (defArgs s_NoStanding___init__) (defBody s_NoStanding___init__) (defScope s_NoStanding___init__) [] [] (He.ma K (He.ga K "NoStanding") "__init__") fd
  D_need_standing : ∃ fd, FunD K "need_standing" "need_standing" (defArgs s_need_standing) (defBody s_need_standing) (defScope s_need_standing) [] [] (He.ga K "need_standing") fd
  D_beat_on : ∃ fd, FunD K "beat_on" "beat_on" (defArgs s_beat_on) (defBody s_beat_on) (defScope s_beat_on) [] [] (He.ga K "beat_on") fd
  D_beat_back : ∃ fd, FunD K "beat_back" "beat_back" (defArgs s_beat_back) (defBody s_beat_back) (defScope s_beat_back) [] [] (He.ga K "beat_back") fd
  D_run_of : ∃ fd, FunD K "run_of" "run_of" (defArgs s_run_of) (defBody s_run_of) (defScope s_run_of) [] [] (He.ga K "run_of") fd
  D_steps_of : ∃ fd, FunD K "steps_of" "steps_of" (defArgs s_steps_of) (defBody s_steps_of) (defScope s_steps_of) [] [] (He.ga K "steps_of") fd
  D_standing_behind : ∃ fd, FunD K "standing_behind" "standing_behind" (defArgs s_standing_behind) (defBody s_standing_behind) (defScope s_standing_behind) [] [] (He.ga K "standing_behind") fd
  D_never_paper : ∃ fd, FunD K "never_paper" "never_paper" (defArgs s_never_paper) (defBody s_never_paper) (defScope s_never_paper) [] [] (He.ga K "never_paper") fd
  D_comes_back : ∃ fd, FunD K "comes_back" "comes_back" (defArgs s_comes_back) (defBody s_comes_back) (defScope s_comes_back) [] [] (He.ga K "comes_back") fd
  D_shows_never : ∃ fd, FunD K "shows_never" "shows_never" (defArgs s_shows_never) (defBody s_shows_never) (defScope s_shows_never) [] [] (He.ga K "shows_never") fd
  D__law_told : ∃ fd, FunD K "_law_told" "_law_told" (defArgs s__law_told) (defBody s__law_told) (defScope s__law_told) [] [] (He.ga K "_law_told") fd
  D_law : ∃ fd, FunD K "law" "law" (defArgs s_law) (defBody s_law) (defScope s_law) [] [] (He.ga K "law") fd
  sysM : ∃ o, K.lookup sysModules = some o
  e_NoStanding_NoStanding : PySem.W.exmOne K (.ref (He.ga K "NoStanding")) (.ref (He.ga K "NoStanding")) = some true
  k2_NoStanding : PySem.W.kitAny K (.ref (He.ga K "NoStanding")) ([He.ga K "NoWeb", He.ga K "NoPart"].map Value.ref) = some false
  X_NoStanding : OexC K (He.ga K "NoStanding")
  i_NoStanding : PySem.W.findIn K (.ref (He.ga K "NoStanding")) "__init__" = some (some (.ref (He.ma K (He.ga K "NoStanding") "__init__")))
  t_NoStanding : PySem.W.typeIn K (.ref (He.ma K (He.ga K "NoStanding") "__init__")) = some (.type "function")
  n_NoStanding : PySem.W.findIn K (.ref (He.ga K "NoStanding")) "part" = some none
  E_NoStanding : ExcC K (He.ga K "NoStanding")
  V_NoStanding : XfC K (He.ga K "NoStanding")
  k1_NoStanding : PySem.W.kitOne K (.ref (He.ga K "NoStanding")) (.type "ValueError") = some true
def fx : List (PySem.W.Frag → Bool) := [fun K => (K.lookup sysModules).isSome, fun K => decide (PySem.W.exmOne K (.ref (He.ga K "NoStanding")) (.ref (He.ga K "NoStanding")) = some true), fun K => decide (PySem.W.kitAny K (.ref (He.ga K "NoStanding")) ([He.ga K "NoWeb", He.ga K "NoPart"].map Value.ref) = some false), fun K => oexB K (He.ga K "NoStanding"), fun K => xinB K (He.ga K "NoStanding") "part", fun K => xinB K (He.ga K "NoStanding") "part", fun K => xinB K (He.ga K "NoStanding") "part", fun K => excB K (He.ga K "NoStanding"), fun K => xfB K (He.ga K "NoStanding"), fun K => decide (PySem.W.kitOne K (.ref (He.ga K "NoStanding")) (.type "ValueError") = some true)]
def dd__law_pen : He.DefD := ⟨("_law_pen", none), "_law_pen", "_law_pen", defArgs s__law_pen, defBody s__law_pen, defScope s__law_pen, [], []⟩
def dd__law_draw : He.DefD := ⟨("_law_draw", none), "_law_draw", "_law_draw", defArgs s__law_draw, defBody s__law_draw, defScope s__law_draw, [], []⟩
def dd__law_pick : He.DefD := ⟨("_law_pick", none), "_law_pick", "_law_pick", defArgs s__law_pick, defBody s__law_pick, defScope s__law_pick, [], []⟩
def dd__law_shuffled : He.DefD := ⟨("_law_shuffled", none), "_law_shuffled", "_law_shuffled", defArgs s__law_shuffled, defBody s__law_shuffled, defScope s__law_shuffled, [], []⟩
def dd__law_any_web : He.DefD := ⟨("_law_any_web", none), "_law_any_web", "_law_any_web", defArgs s__law_any_web, defBody s__law_any_web, defScope s__law_any_web, [], []⟩
def dd__law_great : He.DefD := ⟨("_law_great", none), "_law_great", "_law_great", defArgs s__law_great, defBody s__law_great, defScope s__law_great, [], []⟩
def dd__law_number : He.DefD := ⟨("_law_number", none), "_law_number", "_law_number", defArgs s__law_number, defBody s__law_number, defScope s__law_number, [], []⟩
def dd__law_standing : He.DefD := ⟨("_law_standing", none), "_law_standing", "_law_standing", defArgs s__law_standing, defBody s__law_standing, defScope s__law_standing, [], []⟩
def dd_is_whole : He.DefD := ⟨("is_whole", none), "is_whole", "is_whole", defArgs s_is_whole, defBody s_is_whole, defScope s_is_whole, [.int (-1000000000000000000000000000000), .int 1000000000000000000000000000000], []⟩
def dd_is_tie : He.DefD := ⟨("is_tie", none), "is_tie", "is_tie", defArgs s_is_tie, defBody s_is_tie, defScope s_is_tie, [], []⟩
def dd_need_web : He.DefD := ⟨("need_web", none), "need_web", "need_web", defArgs s_need_web, defBody s_need_web, defScope s_need_web, [], []⟩
def dd_Web___init__ : He.DefD := ⟨("Web", some "__init__"), "__init__", "Web.__init__", defArgs s_Web___init__, defBody s_Web___init__, defScope s_Web___init__, [], []⟩
def dd__law_anything : He.DefD := ⟨("_law_anything", none), "_law_anything", "_law_anything", defArgs s__law_anything, defBody s__law_anything, defScope s__law_anything, [], []⟩
def dd__law_bent : He.DefD := ⟨("_law_bent", none), "_law_bent", "_law_bent", defArgs s__law_bent, defBody s__law_bent, defScope s__law_bent, [], []⟩
def dd__law_whole : He.DefD := ⟨("_law_whole", none), "_law_whole", "_law_whole", defArgs s__law_whole, defBody s__law_whole, defScope s__law_whole, [], []⟩
def dd__law_due : He.DefD := ⟨("_law_due", none), "_law_due", "_law_due", defArgs s__law_due, defBody s__law_due, defScope s__law_due, [], []⟩
def dd_is_row_of : He.DefD := ⟨("is_row_of", none), "is_row_of", "is_row_of", defArgs s_is_row_of, defBody s_is_row_of, defScope s_is_row_of, [], []⟩
def dd_Web___len__ : He.DefD := ⟨("Web", some "__len__"), "__len__", "Web.__len__", defArgs s_Web___len__, defBody s_Web___len__, defScope s_Web___len__, [], []⟩
def dd_NoStanding___init__ : He.DefD := ⟨("NoStanding", some "__init__"), "__init__", "NoStanding.__init__", defArgs s_NoStanding___init__, defBody s_NoStanding___init__, defScope s_NoStanding___init__, [], []⟩
def dd_need_standing : He.DefD := ⟨("need_standing", none), "need_standing", "need_standing", defArgs s_need_standing, defBody s_need_standing, defScope s_need_standing, [], []⟩
def dd_beat_on : He.DefD := ⟨("beat_on", none), "beat_on", "beat_on", defArgs s_beat_on, defBody s_beat_on, defScope s_beat_on, [], []⟩
def dd_beat_back : He.DefD := ⟨("beat_back", none), "beat_back", "beat_back", defArgs s_beat_back, defBody s_beat_back, defScope s_beat_back, [], []⟩
def dd_run_of : He.DefD := ⟨("run_of", none), "run_of", "run_of", defArgs s_run_of, defBody s_run_of, defScope s_run_of, [], []⟩
def dd_steps_of : He.DefD := ⟨("steps_of", none), "steps_of", "steps_of", defArgs s_steps_of, defBody s_steps_of, defScope s_steps_of, [], []⟩
def dd_standing_behind : He.DefD := ⟨("standing_behind", none), "standing_behind", "standing_behind", defArgs s_standing_behind, defBody s_standing_behind, defScope s_standing_behind, [], []⟩
def dd_never_paper : He.DefD := ⟨("never_paper", none), "never_paper", "never_paper", defArgs s_never_paper, defBody s_never_paper, defScope s_never_paper, [], []⟩
def dd_comes_back : He.DefD := ⟨("comes_back", none), "comes_back", "comes_back", defArgs s_comes_back, defBody s_comes_back, defScope s_comes_back, [], []⟩
def dd_shows_never : He.DefD := ⟨("shows_never", none), "shows_never", "shows_never", defArgs s_shows_never, defBody s_shows_never, defScope s_shows_never, [], []⟩
def dd__law_told : He.DefD := ⟨("_law_told", none), "_law_told", "_law_told", defArgs s__law_told, defBody s__law_told, defScope s__law_told, [], []⟩
def dd_law : He.DefD := ⟨("law", none), "law", "law", defArgs s_law, defBody s_law, defScope s_law, [], []⟩
def fn : List He.DefD := [dd__law_pen, dd__law_draw, dd__law_pick, dd__law_shuffled, dd__law_any_web, dd__law_great, dd__law_number, dd__law_standing, dd_is_whole, dd_is_tie, dd_need_web, dd_Web___init__, dd__law_anything, dd__law_bent, dd__law_whole, dd__law_due, dd_is_row_of, dd_Web___len__, dd_NoStanding___init__, dd_need_standing, dd_beat_on, dd_beat_back, dd_run_of, dd_steps_of, dd_standing_behind, dd_never_paper, dd_comes_back, dd_shows_never, dd__law_told, dd_law]
def fa : List He.Fa := [.free "len", .free "abs", .free "list", .free "range", .free "tuple", .free "bool", .free "isinstance", .free "int", .free "all", .free "repr", .free "sorted", .free "ValueError", .int "MOST_CORDS" 9, .int "MOST_POSTS" 12, .glo "_law_pen", .glo "_law_draw", .glo "_law_pick", .glo "_law_shuffled", .glo "_law_any_web", .glo "_law_great", .glo "_law_number", .glo "_law_standing", .glo "is_whole", .glo "is_tie", .glo "need_web", .glo "_law_anything", .glo "_law_bent", .glo "_law_whole", .glo "_law_due", .glo "is_row_of", .glo "need_standing", .glo "beat_on", .glo "beat_back", .glo "run_of", .glo "steps_of", .glo "standing_behind", .glo "never_paper", .glo "comes_back", .glo "shows_never", .glo "_law_told", .glo "law", .glo "Web", .cls "Web", .mkr "Web", .glo "NoStanding", .glo "NoWeb", .glo "NoPart", .noat "Web" "rows_near", .noat "Web" "size", .noat "Web" "rows", .noat "Web" "known_kinds", .meth "Web" "__init__", .meth "Web" "__len__"]
end K04
set_option maxHeartbeats 0
namespace K04E
open PySem PySem.W PySem.Spec PyProof.Rows L2 DL K04
def names0 : List PySem.Str := ["NoWeb", "NoStanding", "NoPart", "NoBeats", "NoPost", "NotAll", "TooGreat", "MOST", "is_whole", "is_from", "divisor", "multiple", "MOST_POSTS", "MOST_CORDS", "is_tie", "need_web", "Web", "need_post", "need_part", "lots_of", "is_row_of", "need_standing", "next_of", "led", "led_back", "beat_on", "beat_back", "run_of", "put_together", "alone"]
def names1 : List PySem.Str := ["lessened", "cleared", "stepped", "free_line", "null_lines", "ALL", "WAVES", "NONE", "GREAT", "LESS", "MOST_TURNS", "outs", "word_by", "lines_of", "grown", "reckoned", "kind_of", "are_weights", "half_step", "steps_of", "LONGEST", "at_posts", "is_bare", "first_owed", "never_here", "back_here", "never_paper", "comes_back", "owes_then", "has_form"]
def names2 : List PySem.Str := ["shows_never", "ROW", "END", "MIDDLE", "THREE", "FORK", "ARMS", "ARMS_HOME", "most_cords", "line_from", "branched", "lined", "shape_of", "beats_by", "turned_by", "home_of", "own_beats", "linear", "changes_of", "times_over", "Waves", "owes", "WaveRun", "MOST_TOLD", "MOST_BEATS", "steep_behind", "round_behind", "wave_behind", "put_back", "forwards"]
def names3 : List PySem.Str := ["standing_behind", "_law_pen", "_law_draw", "_law_pick", "_law_great", "_law_shuffled", "_law_any_web", "_law_number", "_law_standing", "_law_anything", "_law_bent", "_law_whole", "_law_due", "_law_told"]
abbrev names : List PySem.Str := names0 ++ names1 ++ names2 ++ names3
abbrev R : PySem.W.OpenRow := PySem.W.OpenLaw.row PySem.Challenge.rw_giveback_k04_standings_or_not
abbrev hk : PySem.W.Hook := hookX 4 fa fx fn
def ob (s : PySem.W.SharedT) : He.AlD := obsX 4 fa fx fn (HandSHeadRun.getT s)
theorem ob_eq (s : PySem.W.SharedT) : ob s = hk.obs s.abs := obsX_eq (HandSHeadRun.getT_eq s)
open HandSHeadRun
theorem split4 {S A B C D : Type} {X : Option S} {f : S → A} {g : S → B} {o : S → C × D} {a : A} {b : B} {c : C} {d : D} (h1 : X.map f = some a) (h2 : X.map g = some b) (h3 : X.map (fun s => (o s).1) = some c) (h4 : X.map (fun s => (o s).2) = some d) : X.map (fun s => (f s, g s, o s)) = some (a, b, (c, d)) := by
  cases X with
  | none => cases h1
  | some s =>
    cases h1
    cases h2
    cases h3
    cases h4
    rfl
theorem splitA {S : Type} {X : Option S} {f g : S → Bool} (h1 : X.map f = some true) (h2 : X.map g = some true) : X.map (fun s => f s && g s) = some true := by
  cases X with
  | none => cases h1
  | some s =>
    have h1 : f s = true := Option.some.inj h1
    have h2 : g s = true := Option.some.inj h2
    show some (f s && g s) = some true
    rw [h1, h2]; rfl
def Kf (s : PySem.W.SharedT) : PySem.W.Frag := (fragX 4 (HandSHeadRun.getT s)).1
def rE0 (w : World) : Prop := ∀ os : OsState, (endF (stepQ (denQ tabQ) R.prog w) 12000 R.prog w os).map (fun s => (looksF R.prog (boot_heap w.params) s.abs, seenQ (PySem.W.view R.prog [116]) names (importedModules R.prog.main.body) (fun s => xlAt (PySem.W.view R.prog [116]) [] s && recOk R.toRowW.records s) s.abs)) = some (true, openGood (PySem.W.view R.prog [116]) names)
theorem r0F (w : World) : rE0 (w.withFollow "special-get-raises" false) := by
  intro os
  kernel_rfl
theorem r0T (w : World) : rE0 (w.withFollow "special-get-raises" true) := by
  intro os
  kernel_rfl
def rE3 (w : World) : Prop := ∀ os : OsState, (endF (stepQ (denQ tabQ) R.prog w) 12000 R.prog w os).map (fun s => (ob s).2) = some (fn.map He.DefD.val)
theorem r3F (w : World) : rE3 (w.withFollow "special-get-raises" false) := by
  intro os
  kernel_rfl
theorem r3T (w : World) : rE3 (w.withFollow "special-get-raises" true) := by
  intro os
  kernel_rfl
def rE2a (w : World) : Prop := ∀ os : OsState, (endF (stepQ (denQ tabQ) R.prog w) 12000 R.prog w os).map (fun s => (fa.all fun f => f.ok (Kf s)) && ((fx.all fun f => f (Kf s)) && headB (HandSHeadRun.getT s) (fragX 4 (HandSHeadRun.getT s)).1 (fragX 4 (HandSHeadRun.getT s)).2)) = some (true)
theorem r2aF (w : World) : rE2a (w.withFollow "special-get-raises" false) := by
  intro os
  kernel_rfl
theorem r2aT (w : World) : rE2a (w.withFollow "special-get-raises" true) := by
  intro os
  kernel_rfl
def rE2b (w : World) : Prop := ∀ os : OsState, (endF (stepQ (denQ tabQ) R.prog w) 12000 R.prog w os).map (fun s => (fn.take 15).all fun d => d.ok (Kf s)) = some (true)
theorem r2bF (w : World) : rE2b (w.withFollow "special-get-raises" false) := by
  intro os
  kernel_rfl
theorem r2bT (w : World) : rE2b (w.withFollow "special-get-raises" true) := by
  intro os
  kernel_rfl
def rE2c (w : World) : Prop := ∀ os : OsState, (endF (stepQ (denQ tabQ) R.prog w) 12000 R.prog w os).map (fun s => (fn.drop 15).all fun d => d.ok (Kf s)) = some (true)
theorem r2cF (w : World) : rE2c (w.withFollow "special-get-raises" false) := by
  intro os
  kernel_rfl
theorem r2cT (w : World) : rE2c (w.withFollow "special-get-raises" true) := by
  intro os
  kernel_rfl
theorem ob1 (s : PySem.W.SharedT) : (ob s).1 = (((fa.all fun f => f.ok (Kf s)) && (fn.all fun d => d.ok (Kf s)) && (fx.all fun f => f (Kf s))) && headB (HandSHeadRun.getT s) (fragX 4 (HandSHeadRun.getT s)).1 (fragX 4 (HandSHeadRun.getT s)).2) := by
  dsimp only [ob, obsX, He.obsD, Kf]
def gF (s : PySem.W.SharedT) (d : He.DefD) : Bool := d.ok (Kf s)
theorem all_cut {α : Type} (p : α → Bool) (n : Nat) (l : List α) : l.all p = ((l.take n).all p && (l.drop n).all p) := by
  rw [← List.all_append, List.take_append_drop]
theorem ob2 (s : PySem.W.SharedT) : (ob s).1 = (((fa.all fun f => f.ok (Kf s)) && ((fx.all fun f => f (Kf s)) && headB (HandSHeadRun.getT s) (fragX 4 (HandSHeadRun.getT s)).1 (fragX 4 (HandSHeadRun.getT s)).2)) && (((fn.take 15).all (gF s)) && ((fn.drop 15).all (gF s)))) := by
  rw [ob1]
  show (((fa.all fun f => f.ok (Kf s)) && (fn.all (gF s)) && (fx.all fun f => f (Kf s))) && headB (HandSHeadRun.getT s) (fragX 4 (HandSHeadRun.getT s)).1 (fragX 4 (HandSHeadRun.getT s)).2) = _
  rw [all_cut (gF s) 15 fn]
  generalize (fa.all fun f => f.ok (Kf s)) = a
  generalize ((fn.take 15).all (gF s) && (fn.drop 15).all (gF s)) = b
  generalize (fx.all fun f => f (Kf s)) = c
  generalize headB (HandSHeadRun.getT s) (fragX 4 (HandSHeadRun.getT s)).1 (fragX 4 (HandSHeadRun.getT s)).2 = d
  cases a <;> cases b <;> cases c <;> cases d <;> rfl
theorem comb {X : Option PySem.W.SharedT} (ha : X.map (fun s => (fa.all fun f => f.ok (Kf s)) && ((fx.all fun f => f (Kf s)) && headB (HandSHeadRun.getT s) (fragX 4 (HandSHeadRun.getT s)).1 (fragX 4 (HandSHeadRun.getT s)).2)) = some true) (hb : X.map (fun s => (fn.take 15).all fun d => d.ok (Kf s)) = some true) (hc : X.map (fun s => (fn.drop 15).all fun d => d.ok (Kf s)) = some true) : X.map (fun s => (ob s).1) = some true := by
  have hb' : X.map (fun s => (fn.take 15).all (gF s)) = some true := hb
  have hc' : X.map (fun s => (fn.drop 15).all (gF s)) = some true := hc
  have h4 := splitA ha (splitA hb' hc')
  rw [show (fun s => (ob s).1) = _ from funext ob2]
  exact h4
theorem prL {S A B : Type} {X : Option S} {f : S → A} {g : S → B} {a : A} {b : B} (h : X.map (fun s => (f s, g s)) = some (a, b)) : X.map f = some a ∧ X.map g = some b := by
  cases X with
  | none => cases h
  | some s => cases h; exact ⟨rfl, rfl⟩
theorem r2F (w : World) (os : OsState) : (endF (stepQ (denQ tabQ) R.prog (w.withFollow "special-get-raises" false)) 12000 R.prog (w.withFollow "special-get-raises" false) os).map (fun s => (ob s).1) = some true := comb (r2aF w os) (r2bF w os) (r2cF w os)
theorem r2T (w : World) (os : OsState) : (endF (stepQ (denQ tabQ) R.prog (w.withFollow "special-get-raises" true)) 12000 R.prog (w.withFollow "special-get-raises" true) os).map (fun s => (ob s).1) = some true := comb (r2aT w os) (r2bT w os) (r2cT w os)
theorem runF (w : World) : HandSHeadRun.RunEq R (PySem.W.view R.prog [116]) hk ob 12000 names (w.withFollow "special-get-raises" false) := fun os => split4 (prL (r0F w os)).1 (prL (r0F w os)).2 (r2F w os) (r3F w os)
theorem runT (w : World) : HandSHeadRun.RunEq R (PySem.W.view R.prog [116]) hk ob 12000 names (w.withFollow "special-get-raises" true) := fun os => split4 (prL (r0T w os)).1 (prL (r0T w os)).2 (r2T w os) (r3T w os)
theorem run (w : World) : HandSHeadRun.RunEq R (PySem.W.view R.prog [116]) hk ob 12000 names w := byRow2 (P := fun w => HandSHeadRun.RunEq R (PySem.W.view R.prog [116]) hk ob 12000 names w) "special-get-raises" runF runT w
end K04E
set_option maxHeartbeats 4000000
namespace GM
open PySem PySem.Spec L2 DL
open PyProof.Rows hiding St
def b__law_draw : DS → Oc Fl := (sSeq (sIf (asB (bin (opIcmp fun i j => decide (j < i)) (penG (fun w => .int w.left) (rd 0)) (cn (.int 0)))) (sSeq (sSet 2 (bin opMod (penG (fun w => .int w.left) (rd 0)) (rd 1)))
    (sSeq (penS setL (bin opFdiv (penG (fun w => .int w.left) (rd 0)) (rd 1)) (rd 0))
    (sRet (mv 2)))) sNil)
    (sSeq (sSet 3 (penG (fun w => .int w.turn) (rd 0)))
    (sSeq (penS setT (bin opAdd (rd 3) (cn (.int 1))) (rd 0))
    (sSeq (sSet 4 (bin opAdd (bin opMulT (cn (.int 37)) (rd 3)) (cn (.int 13))))
    (sSeq (sIf (asB (bin (opEq true) (penG (fun w => .lst (w.cs.map D.int)) (rd 0)) (vLst aNil))) (sSet 4 (item ixD (pval (penG (fun w => .lst (w.cs.map D.int)) (rd 0))) (bin opMod (rd 3) (call1 lenD (pval (penG (fun w => .lst (w.cs.map D.int)) (rd 0))))))) sNil)
    (sSeq (sIf (tAn (asB (bin (opIcmp fun i j => decide (i < j)) (rd 3) (call1 lenD (pval (penG (fun w => .lst (w.cs.map D.int)) (rd 0)))))) (asB (bin (opIcmp fun i j => decide (j ≤ i)) (call1 absD (pn 4)) (bin opPow (cn (.int 10)) (cn (.int 18)))))) (sSeq (penS setL (bin opFdiv (bin opSub (call1 absD (pn 4)) (bin opPow (cn (.int 10)) (cn (.int 18)))) (rd 1)) (rd 0))
    (sRet (bin opMod (bin opSub (call1 absD (pn 4)) (bin opPow (cn (.int 10)) (cn (.int 18)))) (rd 1)))) sNil)
    (sSeq (sSet 5 (vLst (aCons (cn (.int 2147483647)) (aCons (cn (.int 2147483629)) (aCons (cn (.int 2147483587)) (aCons (cn (.int 2147483579)) (aCons (cn (.int 2147483563)) aNil)))))))
    (sSeq (sSet 6 (item ixD (pn 5) (bin opMod (rd 3) (cn (.int 5)))))
    (sSeq (sSet 7 (bin opMod (bin opAdd (bin opAdd (bin opMulT (bin opMod (rd 4) (rd 6)) (cn (.int 48271))) (bin opMulT (bin opMulT (cn (.int 40692)) (rd 3)) (rd 3))) (cn (.int 31))) (rd 6)))
    (sSeq (sSet 7 (bin opMod (bin opMulT (rd 7) (bin opAdd (rd 7) (cn (.int 69621)))) (item ixD (pn 5) (bin opMod (bin opAdd (rd 3) (cn (.int 3))) (cn (.int 5))))))
    (sRet (bin opMod (bin opFdiv (bin opMod (bin opMulT (rd 7) (rd 7)) (cn (.int 2147483549))) (cn (.int 64))) (rd 1)))))))))))))
def m__law_draw : MF := runD 2 8 b__law_draw
theorem m__law_draw_n : ∀ ds w, ds.length ≠ 2 → m__law_draw ds w = .wr := runD_n
def b__law_pick : DS → Oc Fl := (sRet (item ixD (pn 1) (callD m__law_draw [] (aCons (rd 0) (aCons (call1 lenD (pn 1)) aNil)))))
def m__law_pick : MF := runD 2 2 b__law_pick
theorem m__law_pick_n : ∀ ds w, ds.length ≠ 2 → m__law_pick ds w = .wr := runD_n
def b__law_shuffled : DS → Oc Fl := (sSeq (sSet 2 (call1 listD (pn 1)))
    (sRet (vLc [3] (itRng1 (call1 lenD (pn 2))) (gSet 3) tYesD (meth1 2 (popAtD 2) (callD m__law_draw [] (aCons (rd 0) (aCons (call1 lenD (pn 2)) aNil)))))))
def m__law_shuffled : MF := runD 2 4 b__law_shuffled
theorem m__law_shuffled_n : ∀ ds w, ds.length ≠ 2 → m__law_shuffled ds w = .wr := runD_n
def b__law_any_web : DS → Oc Fl := (sSeq (sPar1 2 3 (bin opAdd (cn (.int 1)) (callD m__law_draw [] (aCons (rd 0) (aCons (rd 1) aNil)))) (vLst aNil))
    (sSeq (sSet 4 (bin opAdd (cn (.int 1)) (callD m__law_draw [] (aCons (rd 0) (aCons (cn (.int 6)) aNil)))))
    (sSeq (sFor (itRng1 (rd 2)) (gSet 5) (sFor (itRng2 (bin opAdd (rd 5) (cn (.int 1))) (rd 2)) (gSet 6) (sIf (tAn (asB (bin (opEq false) (callD m__law_draw [] (aCons (rd 0) (aCons (rd 4) aNil))) (cn (.int 0)))) (asB (bin (opEq false) (callD m__law_draw [] (aCons (rd 0) (aCons (cn (.int 2)) aNil))) (cn (.int 0))))) (sSeq (sSet 7 (vLc [8] (itRng1 (cn (.int 2))) (gSet 8) tYesD (callD m__law_pick [] (aCons (rd 0) (aCons (vLst (aCons (cn (.int 1)) (aCons (cn (.int 1)) (aCons (cn (.int 1)) (aCons (cn (.int 1)) (aCons (cn (.int 2)) (aCons (cn (.int 3)) (aCons (cn (.int 9)) aNil)))))))) aNil)))))
    (sExpr (meth1 3 (appD 3) (vTup (aCons (rd 5) (aCons (rd 6) (aCons (item ixD (pn 7) (cn (.int 0))) (aCons (item ixD (pn 7) (cn (.int 1))) aNil)))))))) sNil)))
    (sRet (vTup (aCons (rd 2) (aCons (callD m__law_shuffled [] (aCons (rd 0) (aCons (rd 3) aNil))) aNil)))))))
def m__law_any_web : MF := runD 2 9 b__law_any_web
theorem m__law_any_web_n : ∀ ds w, ds.length ≠ 2 → m__law_any_web ds w = .wr := runD_n
def b__law_great : DS → Oc Fl := (sSeq (sSet 2 (cn (.int 0)))
    (sSeq (sFor (itRng1 (rd 1)) (gSet 3) (sSet 2 (bin opAdd (bin opMulT (cn (.int 10)) (rd 2)) (callD m__law_draw [] (aCons (rd 0) (aCons (cn (.int 10)) aNil))))))
    (sRet (mv 2))))
def m__law_great : MF := runD 2 4 b__law_great
theorem m__law_great_n : ∀ ds w, ds.length ≠ 2 → m__law_great ds w = .wr := runD_n
def b__law_number : DS → Oc Fl := (sSeq (sSet 2 (callD m__law_great [] (aCons (rd 0) (aCons (item ixD (pval (vLst (aCons (cn (.int 1)) (aCons (cn (.int 1)) (aCons (cn (.int 1)) (aCons (cn (.int 2)) (aCons (rd 1) aNil))))))) (callD m__law_draw [] (aCons (rd 0) (aCons (cn (.int 5)) aNil)))) aNil))))
    (sRet (bin opMulT (rd 2) (callD m__law_pick [] (aCons (rd 0) (aCons (vLst (aCons (cn (.int 1)) (aCons (una opNeg (cn (.int 1))) (aCons (cn (.int 1)) (aCons (cn (.int 0)) aNil))))) aNil))))))
def m__law_number : MF := runD 2 3 b__law_number
theorem m__law_number_n : ∀ ds w, ds.length ≠ 2 → m__law_number ds w = .wr := runD_n
def b__law_standing : DS → Oc Fl := (sRet (call1 tupD (pval (vLc [3] (itRng1 (cn (.int 2))) (gSet 3) tYesD (call1 tupD (pval (vLc [4] (itRng1 (rd 1)) (gSet 4) tYesD (callD m__law_number [] (aCons (rd 0) (aCons (rd 2) aNil))))))))))
def m__law_standing : MF := runD 3 5 b__law_standing
theorem m__law_standing_n : ∀ ds w, ds.length ≠ 3 → m__law_standing ds w = .wr := runD_n
def b_is_whole : DS → Oc Fl := (sRet (vAn (call2 opIsi (rd 0) (cn (.ty "int"))) (vAn (vNo (call2 opIsi (rd 0) (cn (.ty "bool")))) (vCh (opIcmp fun i j => decide (i ≤ j)) (opIcmp fun i j => decide (i ≤ j)) (rd 1) (rd 0) (rd 2)))))
def m_is_whole : MF := runD 3 3 b_is_whole
theorem m_is_whole_n : ∀ ds w, ds.length ≠ 3 → m_is_whole ds w = .wr := runD_n
abbrev d_is_whole : List D := [.int (-1000000000000000000000000000000), .int 1000000000000000000000000000000]
theorem d_is_whole_r {C : Cf} {g : Gp} {F : Hp} : RpL C g F [.int (-1000000000000000000000000000000), .int 1000000000000000000000000000000] d_is_whole := .cons (.int _) (.cons (.int _) (.nil))
def b_is_tie : DS → Oc Fl := (sSeq (sIf (tOu (tNo (tru (call2 opIsi (rd 0) (cn (.ty "tuple"))))) (tOu (asB (bin (opEq true) (call1 lenD (pn 0)) (cn (.int 4)))) (tNo (tru (call1 allD (pval (vLc [2] (itSeq (rd 0)) (gSet 2) tYesD (callD m_is_whole d_is_whole (aCons (rd 2) aNil))))))))) (sRet (cn (.bl false))) sNil)
    (sSeq (sIf (tNo (tCh3 (opIcmp fun i j => decide (i ≤ j)) (opIcmp fun i j => decide (i < j)) (opIcmp fun i j => decide (i < j)) (cn (.int 0)) (item ixD (pn 0) (cn (.int 0))) (item ixD (pn 0) (cn (.int 1))) (rd 1))) (sRet (cn (.bl false))) sNil)
    (sRet (call1 allD (pval (vLc [3] (itSeq (slice (pn 0) (some (cn (.int 2))) none)) (gSet 3) tYesD (vCh (opIcmp fun i j => decide (i ≤ j)) (opIcmp fun i j => decide (i ≤ j)) (cn (.int 1)) (rd 3) (cn (.int 9)))))))))
def m_is_tie : MF := runD 2 4 b_is_tie
theorem m_is_tie_n : ∀ ds w, ds.length ≠ 2 → m_is_tie ds w = .wr := runD_n
def b_need_web : DS → Oc Fl := (sSeq (sIf (tNo (tru (callKD m_is_whole (aCons (rd 0) aNil) (aCons (cn (.int 1)) (aCons (cn (.int 12)) aNil))))) sNever sNil)
    (sSeq (sIf (tOu (tNo (tru (call2 opIsi (rd 1) (vTup (aCons (cn (.ty "list")) (aCons (cn (.ty "tuple")) aNil)))))) (tNo (tru (call1 allD (pval (vLc [2] (itSeq (rd 1)) (gSet 2) tYesD (callD m_is_tie [] (aCons (rd 2) (aCons (rd 0) aNil))))))))) sNever sNil)
    (sIf (asB (bin (opIcmp fun i j => decide (i < j)) (vLenSc [2] (itSeq (rd 1)) (gSet 2) tYesD (slice (pn 2) none (some (cn (.int 2))))) (call1 lenD (pn 1)))) sNever sNil)))
def m_need_web : MF := runD 2 3 b_need_web
def m_Web___init__ : MF := initM m_need_web
theorem m_Web___init___n : ∀ ds w, ds.length ≠ 2 → m_Web___init__ ds w = .wr := initM_n
theorem m_Web___init___o : ∀ ds w r w', m_Web___init__ ds w = .ok r w' → ∃ d, r = .fz d := initM_o
def b_is_row_of : DS → Oc Fl := (sRet (vAn (call2 opIsi (rd 0) (cn (.ty "tuple"))) (bin (opEq false) (call1 lenD (pn 0)) (rd 1))))
def m_is_row_of : MF := runD 2 2 b_is_row_of
theorem m_is_row_of_n : ∀ ds w, ds.length ≠ 2 → m_is_row_of ds w = .wr := runD_n
def b_Web___len__ : DS → Oc Fl := (sRet (call1 lenD (pval (una (fldD "Web" "rows_near") (rd 0)))))
def m_Web___len__ : MF := runD 1 1 b_Web___len__
def b_need_standing : DS → Oc Fl := (sSeq (sIf (tOu (tNo (tru (callD m_is_row_of [] (aCons (rd 1) (aCons (cn (.int 2)) aNil))))) (tNo (tru (call1 allD (pval (vLc [2] (itSeq (rd 1)) (gSet 2) tYesD (callD m_is_row_of [] (aCons (rd 2) (aCons (una (lenM "Web" m_Web___len__) (rd 0)) aNil))))))))) sNever sNil)
    (sIf (tNo (tru (call1 allD (pval (vLc2 [2, 3] [3] (itSeq (rd 1)) (gSet 2) tYesD (itSeq (rd 2)) (gSet 3) tYesD (callD m_is_whole d_is_whole (aCons (rd 3) aNil))))))) sNever sNil))
def m_need_standing : MF := runD 2 4 b_need_standing
theorem m_need_standing_n : ∀ ds w, ds.length ≠ 2 → m_need_standing ds w = .wr := runD_n
def b_Web_near : DS → Oc Fl := (sRet (call1 listD (pval (item ixD (pval (una (fldD "Web" "rows_near") (rd 0))) (rd 1)))))
def m_Web_near : MF := runD 2 2 b_Web_near
def b_next_of : DS → Oc Fl := (sSeq (sSet 3 (vLst aNil))
    (sSeq (sFor (itRng1 (una (lenM "Web" m_Web___len__) (rd 0))) (gSet 4) (sSeq (sSet 5 (call1 sumD (pval (vLc [6, 7] (itSeq (callM "Web" "near" m_Web_near [] (rd 0) (aCons (rd 4) aNil))) (gUn 2 (gsCons (gSet 6) (gsCons (gSet 7) gsNil))) tYesD (bin opMulT (rd 7) (call2 opMax2 (cn (.int 0)) (item ixD (pn 2) (rd 6))))))))
    (sExpr (meth1 3 (appD 3) (bin opSub (rd 5) (item ixD (pn 1) (rd 4)))))))
    (sRet (call1 tupD (pn 3)))))
def m_next_of : MF := runD 3 8 b_next_of
def b_led : DS → Oc Fl := (sSeq (sAsg (rd 1) (gUn 2 (gsCons (gSet 2) (gsCons (gSet 3) gsNil))))
    (sRet (vTup (aCons (rd 3) (aCons (callD m_next_of [] (aCons (rd 0) (aCons (rd 2) (aCons (rd 3) aNil)))) aNil)))))
def m_led : MF := runD 2 4 b_led
def b_run_of : DS → Oc Fl := (sSeq (sExpr (callD m_need_standing [] (aCons (rd 0) (aCons (rd 1) aNil))))
    (sSeq (sSet 3 (vLst (aCons (rd 1) aNil)))
    (sSeq (sFor (itRng1 (rd 2)) (gSet 4) (sExpr (meth1 3 (appD 3) (callD m_led [] (aCons (rd 0) (aCons (item ixD (pn 3) (una opNeg (cn (.int 1)))) aNil))))))
    (sRet (mv 3)))))
def m_run_of : MF := runD 3 5 b_run_of
theorem m_run_of_n : ∀ ds w, ds.length ≠ 3 → m_run_of ds w = .wr := runD_n
def b_led_back : DS → Oc Fl := (sSeq (sAsg (rd 1) (gUn 2 (gsCons (gSet 2) (gsCons (gSet 3) gsNil))))
    (sRet (vTup (aCons (callD m_next_of [] (aCons (rd 0) (aCons (rd 3) (aCons (rd 2) aNil)))) (aCons (rd 2) aNil)))))
def m_led_back : MF := runD 2 4 b_led_back
def b_beat_back : DS → Oc Fl := (sSeq (sExpr (callD m_need_standing [] (aCons (rd 0) (aCons (rd 1) aNil))))
    (sRet (callD m_led_back [] (aCons (rd 0) (aCons (rd 1) aNil)))))
def m_beat_back : MF := runD 2 2 b_beat_back
theorem m_beat_back_n : ∀ ds w, ds.length ≠ 2 → m_beat_back ds w = .wr := runD_n
end GM
namespace GM
open PySem PySem.Spec L2 DL
open PyProof.Rows hiding St
theorem eqv_int (a b : Int) : D.eqv (.int a) (.int b) = decide (a = b) := by
  unfold D.eqv
  simp only [D.toPy, PyData.eqv]
  exact PySem.W.beq_decide a b
theorem fit_int (a : Int) : D.fit (.int a) = true := by
  unfold D.fit
  simp [D.isPy, D.toPy, PyData.depth]
theorem int_py (l : List Int) : D.isPyL (l.map D.int) = true := by
  induction l with
  | nil => simp [D.isPyL]
  | cons a l ih => simp [D.isPyL, D.isPy, ih]
theorem int_dep (l : List Int) : PyData.depthAll (D.toPyL (l.map D.int)) = 0 := by
  induction l with
  | nil => simp [D.toPyL, PyData.depthAll]
  | cons a l ih => simp [D.toPyL, D.toPy, PyData.depthAll, PyData.depth, ih]
theorem fit_ints (l : List Int) : D.fit (.lst (l.map D.int)) = true := by
  unfold D.fit
  simp [D.isPy, D.toPy, PyData.depth, int_py, int_dep]
theorem fit_nil : D.fit (.lst []) = true := fit_ints []
theorem eqv_nil (l : List D) : D.eqv (.lst l) (.lst []) = l.isEmpty := by
  unfold D.eqv
  simp only [D.toPy, PyData.eqv]
  cases l with
  | nil => simp [D.toPyL, PyData.eqvAll]
  | cons a l => simp [D.toPyL, PyData.eqvAll]
theorem atI_map {α β : Type} (f : α → β) (l : List α) (i : Int) : atI (l.map f) i = (atI l i).map f := by
  unfold atI
  rw [List.length_map]
  cases ixN l.length i with
  | none => rfl
  | some j => simp
theorem atI_get {α : Type} {l : List α} {i : Int} (h0 : 0 ≤ i) (h1 : i < l.length) : ∃ x, atI l i = some x ∧ x ∈ l ∧ l[i.toNat]? = some x := by
  have hj : i.toNat < l.length := by omega
  have e := atI_nat (xs := l) (j := i.toNat) (v := l[i.toNat]) (List.getElem?_eq_getElem hj)
  rw [Int.toNat_of_nonneg h0] at e
  exact ⟨_, e, List.getElem_mem hj, List.getElem?_eq_getElem hj⟩
section
variable {α β : Type} {s : DS} {w : Wd} {a : α} {k : α → DS → Oc β} {f h u v : DS → Oc Sl} {fs : DS → Oc (List D)} {b c : DS → Oc Fl} {t t' : DS → Oc Bool} {i j l n : Nat} {ds xs ys : List D} {d e : D} {r : Sl} {φ : D → DS → Oc Unit} {ψ : List D → DS → Oc Unit}
@[simp] theorem bind_ok : (Oc.ok a s).bind k = k a s := rfl
@[simp] theorem bind_wr : (Oc.wr : Oc α).bind k = .wr := rfl
@[simp] theorem bind_ex {x : Exn} : (Oc.ex x s : Oc α).bind k = .ex x s := rfl
@[simp] theorem frz_fz : frz (.fz d) s = .ok d s := rfl
@[simp] theorem frz_ow : frz (.ow xs) s = .ok (.lst xs) s := rfl
@[simp] theorem fr_eq : fr f s = (f s).bind frz := rfl
@[simp] theorem cn_eq : cn d s = .ok (.fz d) s := rfl
@[simp] theorem bin_eq {op : D → D → DS → Oc Sl} : bin op f h s = (fr f s).bind fun x s1 => (fr h s1).bind fun y s2 => op x y s2 := rfl
@[simp] theorem una_eq {op : D → DS → Oc Sl} : una op f s = (fr f s).bind fun x s1 => op x s1 := rfl
@[simp] theorem aNil_eq : aNil s = .ok [] s := rfl
@[simp] theorem aCons_eq : aCons f fs s = (fr f s).bind fun x s1 => (fs s1).bind fun xs s2 => .ok (x :: xs) s2 := rfl
@[simp] theorem vTup_eq : vTup fs s = (fs s).bind fun xs s1 => if xs.length ≤ sizeLine then .ok (.fz (.tup xs)) s1 else .wr := rfl
@[simp] theorem vLst_eq : vLst fs s = (fs s).bind fun xs s1 => if xs.length ≤ sizeLine then .ok (.ow xs) s1 else .wr := rfl
@[simp] theorem sSeq_eq : sSeq b c s = match b s with
  | .ok .nx s1 => c s1
  | o => o := rfl
@[simp] theorem sNil_eq : sNil s = .ok .nx s := rfl
@[simp] theorem sNever_eq : sNever s = .wr := rfl
@[simp] theorem sSet_eq : sSet i f s = (f s).bind fun r s1 => .ok .nx (s1.put i r) := rfl
@[simp] theorem sAsg_eq : sAsg f φ s = (fr f s).bind fun d s1 => match φ d s1 with
  | .ok _ s2 => .ok .nx s2
  | _ => .wr := rfl
@[simp] theorem sPar_eq : sPar i j fs s = (fs s).bind fun ds s1 => match ds with
  | [d, e] => .ok .nx ((s1.put i (.fz d)).put j (.fz e))
  | _ => .wr := rfl
@[simp] theorem sPar3_eq : sPar3 i j l fs s = (fs s).bind fun ds s1 => match ds with
  | [d, e, c] => .ok .nx (((s1.put i (.fz d)).put j (.fz e)).put l (.fz c))
  | _ => .wr := rfl
@[simp] theorem sPar1_eq : sPar1 i j f h s = (fr f s).bind fun d s1 => (h s1).bind fun r s2 => .ok .nx ((s2.put i (.fz d)).put j r) := rfl
@[simp] theorem sPar0_eq {z : Int} : sPar0 i j f z s = (f s).bind fun r s1 => .ok .nx ((s1.put i r).put j (.fz (.int z))) := rfl
@[simp] theorem sExpr_eq : sExpr f s = (f s).bind fun _ s1 => .ok .nx s1 := rfl
@[simp] theorem sRet_eq : sRet f s = (f s).bind fun r s1 => .ok (.rt r) s1 := rfl
@[simp] theorem sIf_eq : sIf t b c s = (t s).bind fun z s1 => if z = true then b s1 else c s1 := rfl
@[simp] theorem sBk_eq : sBk s = .ok .bk s := rfl
@[simp] theorem asB_eq : asB f s = (f s).bind boolOf := rfl
@[simp] theorem boolOf_eq {z : Bool} : boolOf (.fz (.bl z)) s = .ok z s := rfl
@[simp] theorem tru_eq : tru f s = (fr f s).bind truD := rfl
@[simp] theorem truD_bl {z : Bool} : truD (.bl z) s = .ok z s := rfl
@[simp] theorem tNo_eq : tNo t s = (t s).bind fun b s1 => .ok (!b) s1 := rfl
@[simp] theorem tAn_eq : tAn t t' s = (t s).bind fun b s1 => if b = true then t' s1 else .ok false s1 := rfl
@[simp] theorem tOu_eq : tOu t t' s = (t s).bind fun b s1 => if b = true then .ok true s1 else t' s1 := rfl
@[simp] theorem vNo_eq : vNo f s = (asB f s).bind fun b s1 => .ok (.fz (.bl (!b))) s1 := rfl
@[simp] theorem vAn_eq : vAn f h s = (asB f s).bind fun b s1 => if b = true then h s1 else .ok (.fz (.bl false)) s1 := rfl
@[simp] theorem vOu_eq : vOu f h s = (asB f s).bind fun b s1 => if b = true then .ok (.fz (.bl true)) s1 else h s1 := rfl
@[simp] theorem vIf_eq : vIf t f h s = (t s).bind fun b s1 => if b = true then f s1 else h s1 := rfl
@[simp] theorem put_eq {sl : List Sl} : DS.put ⟨sl, w⟩ i r = ⟨sl.set i r, w⟩ := rfl
@[simp] theorem rd_eq {sl : List Sl} : rd i ⟨sl, w⟩ = match sl[i]? with
  | some (.fz d) => .ok (.fz d) ⟨sl, w⟩
  | some (.ow xs) => .ok (.fz (.lst xs)) ⟨sl.set i (.fz (.lst xs)), w⟩
  | _ => .wr := rfl
@[simp] theorem mv_eq {sl : List Sl} : mv i ⟨sl, w⟩ = match sl[i]? with
  | some (.fz d) => .ok (.fz d) ⟨sl, w⟩
  | some (.ow xs) => .ok (.ow xs) ⟨sl.set i .no, w⟩
  | _ => .wr := rfl
@[simp] theorem pn_eq {sl : List Sl} : pn i ⟨sl, w⟩ = match sl[i]? with
  | some (.fz _) => .ok (.slot i) ⟨sl, w⟩
  | some (.ow _) => .ok (.slot i) ⟨sl, w⟩
  | _ => .wr := rfl
@[simp] theorem pval_eq : pval f s = (fr f s).bind fun d s1 => .ok (.val d) s1 := rfl
@[simp] theorem onP_val {q : D → DS → Oc α} : onP q (.val d) s = q d s := rfl
@[simp] theorem onP_slot {q : D → DS → Oc α} {sl : List Sl} : onP q (.slot i) ⟨sl, w⟩ = match sl[i]? with
  | some (.fz d) => q d ⟨sl, w⟩
  | some (.ow xs) => q (.lst xs) ⟨sl, w⟩
  | _ => .wr := by
  unfold onP vw
  show (match (match sl[i]? with | some (.fz d) => some d | some (.ow xs) => some (D.lst xs) | _ => none) with | some d => q d _ | none => .wr) = _
  cases sl[i]? with
  | none => rfl
  | some z => cases z <;> rfl
@[simp] theorem call1_eq {q : D → DS → Oc Sl} {g : DS → Oc Pl} : call1 q g s = (g s).bind fun pl s1 => onP q pl s1 := rfl
@[simp] theorem call2_eq {op : D → D → DS → Oc Sl} : call2 op f h s = bin op f h s := rfl
@[simp] theorem item_eq {q : D → D → DS → Oc Sl} {g : DS → Oc Pl} : item q g h s = (g s).bind fun pl s1 => (fr h s1).bind fun i s2 => onP (fun d s => q d i s) pl s2 := rfl
@[simp] theorem slice_eq {g : DS → Oc Pl} {lo hi : Option (DS → Oc Sl)} : slice g lo hi s = (g s).bind fun pl s1 => (partOf lo s1).bind fun l s2 => (partOf hi s2).bind fun u s3 => onP (slD l u) pl s3 := rfl
@[simp] theorem partOf_n : partOf none s = .ok none s := rfl
@[simp] theorem partOf_s : partOf (some f) s = (fr f s).bind fun d s1 => match d with
    | .int i => .ok (some i) s1
    | _ => .wr := rfl
@[simp] theorem slD_lst {lo hi : Option Int} : slD lo hi (.lst xs) s = .ok (.ow (cut xs lo hi)) s := rfl
@[simp] theorem slD_tup {lo hi : Option Int} : slD lo hi (.tup xs) s = .ok (.fz (.tup (cut xs lo hi))) s := rfl
@[simp] theorem ixD_lst {i : Int} : ixD (.lst xs) (.int i) s = match atI xs i with
    | some d => .ok (.fz d) s
    | none => .wr := rfl
@[simp] theorem ixD_tup {i : Int} : ixD (.tup xs) (.int i) s = match atI xs i with
    | some d => .ok (.fz d) s
    | none => .wr := rfl
@[simp] theorem gSet_eq : gSet i d s = .ok () (s.put i (.fz d)) := rfl
@[simp] theorem gUn_eq : gUn n ψ (.tup ds) s = if ds.length = n then ψ ds s else .wr := rfl
@[simp] theorem gsNil_eq : gsNil [] s = .ok () s := rfl
@[simp] theorem gsCons_eq : gsCons φ ψ (d :: ds) s = match φ d s with
    | .ok _ s1 => ψ ds s1
    | _ => .wr := rfl
@[simp] theorem callD_eq {m : MF} {dd : List D} : callD m dd fs s = (fs s).bind fun ds s1 => match m (ds ++ dd) s1.w with
  | .ok r w' => .ok r ⟨s1.sl, w'⟩
  | .ex x w' => .ex x ⟨s1.sl, w'⟩
  | .wr => .wr := rfl
@[simp] theorem callKD_eq {m : MF} {ks : DS → Oc (List D)} : callKD m fs ks s = (fs s).bind fun ds s1 => (ks s1).bind fun es s2 => match m (ds ++ es) s2.w with
  | .ok r w' => .ok r ⟨s2.sl, w'⟩
  | .ex x w' => .ex x ⟨s2.sl, w'⟩
  | .wr => .wr := rfl
@[simp] theorem runD_eq {N : Nat} : runD n N b ds w = if ds.length = n then match b ⟨ds.map Sl.fz ++ List.replicate (N - ds.length) .no, w⟩ with
  | .ok .nx s => .ok (.fz .non) s.w
  | .ok (.rt r) s => .ok r s.w
  | .ok _ _ => .wr
  | .ex x s => .ex x s.w
  | .wr => .wr
  else .wr := rfl
@[simp] theorem add_int {x y : Int} : opAdd (.int x) (.int y) s = .ok (.fz (.int (x + y))) s := rfl
@[simp] theorem add_lst : opAdd (.lst xs) (.lst ys) s = if xs.length + ys.length ≤ sizeLine then .ok (.ow (xs ++ ys)) s else .wr := rfl
@[simp] theorem add_tup : opAdd (.tup xs) (.tup ys) s = if xs.length + ys.length ≤ sizeLine then .ok (.fz (.tup (xs ++ ys))) s else .wr := rfl
@[simp] theorem sub_int {x y : Int} : opSub (.int x) (.int y) s = .ok (.fz (.int (x - y))) s := rfl
@[simp] theorem mul_int {x y : Int} : opMulT (.int x) (.int y) s = if mulFit x y then .ok (.fz (.int (x * y))) s else .wr := rfl
@[simp] theorem mod_int {x y : Int} : opMod (.int x) (.int y) s = if 0 < y then .ok (.fz (.int (x % y))) s else .wr := rfl
@[simp] theorem fdiv_int {x y : Int} : opFdiv (.int x) (.int y) s = if 0 < y ∧ y.natAbs.log2 < 9000 then .ok (.fz (.int (x / y))) s else .wr := rfl
@[simp] theorem pow_int {x y : Int} : opPow (.int x) (.int y) s = if 0 ≤ y ∧ y ≤ 1000000 ∧ x.natAbs < 2 ^ 64 then .ok (.fz (.int (x ^ y.toNat))) s else .wr := rfl
@[simp] theorem neg_int {x : Int} : opNeg (.int x) s = .ok (.fz (.int (-x))) s := rfl
@[simp] theorem eq_op {z : Bool} : opEq z d e s = if d.fit = true ∧ e.fit = true then .ok (.fz (.bl (if z then !D.eqv d e else D.eqv d e))) s else .wr := rfl
@[simp] theorem icmp_int {p : Int → Int → Bool} {x y : Int} : opIcmp p (.int x) (.int y) s = .ok (.fz (.bl (p x y))) s := rfl
@[simp] theorem max2_int {x y : Int} : opMax2 (.int x) (.int y) s = .ok (.fz (.int (max x y))) s := rfl
@[simp] theorem len_lst : lenD (.lst xs) s = .ok (.fz (.int xs.length)) s := rfl
@[simp] theorem len_tup : lenD (.tup xs) s = .ok (.fz (.int xs.length)) s := rfl
@[simp] theorem abs_int {x : Int} : absD (.int x) s = .ok (.fz (.int (if x < 0 then -x else x))) s := rfl
@[simp] theorem list_lst : listD (.lst xs) s = .ok (.ow xs) s := rfl
@[simp] theorem list_tup : listD (.tup xs) s = .ok (.ow xs) s := rfl
@[simp] theorem tup_lst : tupD (.lst xs) s = .ok (.fz (.tup xs)) s := rfl
@[simp] theorem rev_tup : revD (.tup xs) s = .ok (.fz (.tup xs.reverse)) s := rfl
@[simp] theorem itSeq_eq : itSeq f s = (fr f s).bind fun d s1 => match d with
  | .lst xs => .ok xs s1
  | .tup xs => .ok xs s1
  | _ => .wr := rfl
@[simp] theorem itRng1_eq : itRng1 f s = (fr f s).bind fun d s1 => match d with
  | .int j => if rOk j = true then .ok (rngD 0 j.toNat) s1 else .wr
  | _ => .wr := rfl
@[simp] theorem itRng2_eq : itRng2 f h s = (fr f s).bind fun d s1 => (fr h s1).bind fun e s2 => match d, e with
  | .int i, .int j => if rOk i = true ∧ rOk j = true then .ok (rngD i (j - i).toNat) s2 else .wr
  | _, _ => .wr := rfl
@[simp] theorem itRngD_eq : itRngD f h s = (fr f s).bind fun d s1 => (fr h s1).bind fun e s2 => match d, e with
  | .int i, .int j => if rOk i = true ∧ rOk j = true then .ok (dnD i (i - j).toNat) s2 else .wr
  | _, _ => .wr := rfl
@[simp] theorem meth1_eq {q : D → DS → Oc Sl} {sl : List Sl} : meth1 i q f ⟨sl, w⟩ = match sl[i]? with
  | some (.ow _) => (fr f ⟨sl, w⟩).bind q
  | _ => .wr := rfl
@[simp] theorem appD_eq {sl : List Sl} : appD i d ⟨sl, w⟩ = match sl[i]? with
  | some (.ow xs) => if xs.length < sizeLine then .ok (.fz .non) ⟨sl.set i (.ow (xs ++ [d])), w⟩ else .wr
  | _ => .wr := rfl
@[simp] theorem extD_eq {sl : List Sl} : extD i (.lst ys) ⟨sl, w⟩ = match sl[i]? with
  | some (.ow xs) => if xs.length + ys.length ≤ sizeLine then .ok (.fz .non) ⟨sl.set i (.ow (xs ++ ys)), w⟩ else .wr
  | _ => .wr := by
  unfold extD
  show (match sl[i]?, D.lst ys with | some (.ow xs), .lst ys => _ | _, _ => _) = _
  cases sl[i]? with
  | none => rfl
  | some z => cases z <;> rfl
@[simp] theorem penG_eq {z : Wd → D} : penG z f s = (fr f s).bind fun d s1 => match d with
  | .pen => .ok (.fz (z s1.w)) s1
  | _ => .wr := rfl
@[simp] theorem penS_eq {z : Int → Wd → Wd} : penS z f h s = (fr f s).bind fun d s1 => (fr h s1).bind fun q s2 => match d, q with
  | .int n, .pen => .ok .nx ⟨s2.sl, z n s2.w⟩
  | _, _ => .wr := rfl
@[simp] theorem setL_eq {x a b : Int} {cs : List Int} : setL x ⟨a, b, cs⟩ = ⟨a, x, cs⟩ := rfl
@[simp] theorem setT_eq {x a b : Int} {cs : List Int} : setT x ⟨a, b, cs⟩ = ⟨x, b, cs⟩ := rfl
@[simp] theorem sFor_eq {it : DS → Oc (List D)} : sFor it φ b s = (it s).bind fun ds s1 => forD φ b ds s1 := rfl
@[simp] theorem get_0 {a : α} {l : List α} : (a :: l)[0]? = some a := rfl
@[simp] theorem get_s {a : α} {l : List α} : (a :: l)[n + 1]? = l[n]? := rfl
@[simp] theorem get_1 {a b : α} {l : List α} : (a :: b :: l)[1]? = some b := rfl
@[simp] theorem get_2 {a b c : α} {l : List α} : (a :: b :: c :: l)[2]? = some c := rfl
@[simp] theorem get_3 {a b c d : α} {l : List α} : (a :: b :: c :: d :: l)[3]? = some d := rfl
@[simp] theorem get_4 {a b c d e : α} {l : List α} : (a :: b :: c :: d :: e :: l)[4]? = some e := rfl
@[simp] theorem get_5 {a b c d e f : α} {l : List α} : (a :: b :: c :: d :: e :: f :: l)[5]? = some f := rfl
@[simp] theorem get_6 {a b c d e f g : α} {l : List α} : (a :: b :: c :: d :: e :: f :: g :: l)[6]? = some g := rfl
@[simp] theorem get_7 {a b c d e f g h : α} {l : List α} : (a :: b :: c :: d :: e :: f :: g :: h :: l)[7]? = some h := rfl
@[simp] theorem tYes_eq : tYesD s = .ok true s := rfl
end
section
variable {α : Type} {a b c d e : α}
theorem at5_0 : atI [a, b, c, d, e] 0 = some a := rfl
theorem at5_1 : atI [a, b, c, d, e] 1 = some b := rfl
theorem at5_2 : atI [a, b, c, d, e] 2 = some c := rfl
theorem at5_3 : atI [a, b, c, d, e] 3 = some d := rfl
theorem at5_4 : atI [a, b, c, d, e] 4 = some e := rfl
end
structure Adv (c : Int) (w w' : Wd) : Prop where
  lo : w.turn ≤ w'.turn
  hi : w'.turn ≤ w.turn + c
theorem Adv.refl (w : Wd) : Adv 0 w w := ⟨Int.le_refl _, by omega⟩
theorem Adv.trans {a b : Int} {w w1 w2 : Wd} (h : Adv a w w1) (h' : Adv b w1 w2) : Adv (a + b) w w2 := ⟨Int.le_trans h.lo h'.lo, by have := h.hi; have := h'.hi; omega⟩
theorem Adv.mono {a b : Int} {w w' : Wd} (h : Adv a w w') (hl : a ≤ b) : Adv b w w' := ⟨h.lo, by have := h.hi; omega⟩
def Rm (n : Int) (w : Wd) : Prop := 0 ≤ w.turn ∧ w.turn + n ≤ 1000000000
theorem Rm.adv {n c : Int} {w w' : Wd} (h : Rm n w) (a : Adv c w w') : Rm (n - c) w' := ⟨Int.le_trans h.1 a.lo, by have := a.hi; have := h.2; omega⟩
theorem Rm.mono {n m : Int} {w : Wd} (h : Rm n w) (hl : m ≤ n) : Rm m w := ⟨h.1, by have := h.2; omega⟩
theorem mulFit_small {a b : Int} (ha : a.natAbs < 2 ^ 5000) (hb : b.natAbs < 2 ^ 5000) : mulFit a b = true := by
  unfold mulFit
  have h1 : a.natAbs.log2 ≤ 5000 := by
    by_cases z : a.natAbs = 0
    · rw [z]; decide
    · exact Nat.le_of_lt ((Nat.log2_lt z).mpr ha)
  have h2 : b.natAbs.log2 ≤ 5000 := by
    by_cases z : b.natAbs = 0
    · rw [z]; decide
    · exact Nat.le_of_lt ((Nat.log2_lt z).mpr hb)
  exact decide_eq_true (by omega)
theorem mulFit_of {a b : Int} (ha : -(2 ^ 64) < a ∧ a < 2 ^ 64) (hb : -(2 ^ 64) < b ∧ b < 2 ^ 64) : mulFit a b = true := by
  have k : (2 : Nat) ^ 64 ≤ 2 ^ 5000 := Nat.pow_le_pow_right (by decide) (by decide)
  refine mulFit_small (Nat.lt_of_lt_of_le ?_ k) (Nat.lt_of_lt_of_le ?_ k)
  · have : (a.natAbs : Int) < 2 ^ 64 := by omega
    omega
  · have : (b.natAbs : Int) < 2 ^ 64 := by omega
    omega
theorem draw_ok {w : Wd} {many : Int} (h1 : 1 ≤ many) (h2 : many ≤ 1000) (hr : Rm 1 w) : ∃ r w', m__law_draw [.pen, .int many] w = .ok (.fz (.int r)) w' ∧ 0 ≤ r ∧ r < many ∧ Adv 1 w w' := by
  obtain ⟨turn, left, cs⟩ := w
  have hlog : many.natAbs.log2 < 9000 := by
    have : many.natAbs < 2 ^ 10 := by omega
    have := (Nat.log2_lt (n := many.natAbs) (k := 10) (by omega)).mpr this
    omega
  have r0 : ∀ z : Int, 0 ≤ z % many ∧ z % many < many := fun z => ⟨Int.emod_nonneg _ (by omega), Int.emod_lt_of_pos _ (by omega)⟩
  by_cases hl : 0 < left
  · refine ⟨left % many, ⟨turn, left / many, cs⟩, ?_, (r0 _).1, (r0 _).2, ⟨Int.le_refl _, by show turn ≤ turn + 1; omega⟩⟩
    simp [m__law_draw, b__law_draw, hl, hlog, show (0 : Int) < many by omega, eqv_int, fit_int]
  · obtain ⟨t0, t1⟩ := hr
    have t0 : 0 ≤ turn := t0
    have t1 : turn + 1 ≤ 1000000000 := t1
    have e64 : Nat.log2 64 < 9000 := by decide
    have hp : (0 : Int) < many := by omega
    have key : ∃ z w', m__law_draw [.pen, .int many] ⟨turn, left, cs⟩ = .ok (.fz (.int (z % many))) w' ∧ w'.turn = turn + 1 := by
      have cell : ∃ c : Int, ∀ P : Prop, (∀ c : Int, P) → P := ⟨0, fun _ h => h 0⟩
      rcases (by omega : turn % 5 = 0 ∨ turn % 5 = 1 ∨ turn % 5 = 2 ∨ turn % 5 = 3 ∨ turn % 5 = 4) with h5 | h5 | h5 | h5 | h5
      all_goals (
        have h53 : (turn + 3) % 5 = (turn % 5 + 3) % 5 := by omega
        rw [h5] at h53
        by_cases hc : cs = []
        · subst hc
          simp (disch := omega) [m__law_draw, b__law_draw, hl, hlog, hp, eqv_int, fit_int, fit_nil, eqv_nil, h5, h53, mulFit_of, e64, sizeLine_eq, show ¬ turn < 0 by omega, at5_0, at5_1, at5_2, at5_3, at5_4]
          first | exact ⟨_, _, ⟨rfl, rfl⟩, rfl⟩ | exact ⟨_, rfl⟩
        · have hl0 : 0 < cs.length := List.length_pos_iff.mpr hc
          obtain ⟨c, ec, _, _⟩ := atI_get (l := cs) (i := turn % (cs.length : Int)) (Int.emod_nonneg _ (by omega)) (Int.emod_lt_of_pos _ (by omega))
          have ec' : atI (cs.map D.int) (turn % (cs.length : Int)) = some (.int c) := by rw [atI_map, ec]; rfl
          have hne : cs.isEmpty = false := by cases cs with
            | nil => exact absurd rfl hc
            | cons a b => rfl
          have pl : (0 : Int) < (cs.length : Int) := by omega
          obtain ⟨A, hA⟩ : ∃ A : Int, (if c < 0 then -c else c) = A := ⟨_, rfl⟩
          by_cases hb : turn < (cs.length : Int) ∧ (1000000000000000000 : Int) ≤ A
          · obtain ⟨hb1, hb2⟩ := hb
            simp (disch := omega) [m__law_draw, b__law_draw, hl, hlog, hp, eqv_int, fit_int, fit_nil, fit_ints, eqv_nil, h5, h53, mulFit_of, e64, sizeLine_eq, hne, ec', hl0, hc, hA, hb1, hb2]
            first | exact ⟨_, _, ⟨rfl, rfl⟩, rfl⟩ | exact ⟨_, rfl⟩
          · by_cases hb1 : turn < (cs.length : Int)
            · have hb2 : (1000000000000000000 ≤ A) = False := eq_false fun z => hb ⟨hb1, z⟩
              simp (disch := omega) [m__law_draw, b__law_draw, hl, hlog, hp, eqv_int, fit_int, fit_nil, fit_ints, eqv_nil, h5, h53, mulFit_of, e64, sizeLine_eq, hne, ec', hl0, hc, hA, hb1, hb2, show ¬ turn < 0 by omega, at5_0, at5_1, at5_2, at5_3, at5_4]
              first | exact ⟨_, _, ⟨rfl, rfl⟩, rfl⟩ | exact ⟨_, rfl⟩
            · simp (disch := omega) [m__law_draw, b__law_draw, hl, hlog, hp, eqv_int, fit_int, fit_nil, fit_ints, eqv_nil, h5, h53, mulFit_of, e64, sizeLine_eq, hne, ec', hl0, hc, hA, hb1, show ¬ turn < 0 by omega, at5_0, at5_1, at5_2, at5_3, at5_4]
              first | exact ⟨_, _, ⟨rfl, rfl⟩, rfl⟩ | exact ⟨_, rfl⟩)
    obtain ⟨z, w', e, ht⟩ := key
    exact ⟨_, w', e, (r0 z).1, (r0 z).2, ⟨by rw [ht]; show turn ≤ turn + 1; omega, by rw [ht]; exact Int.le_refl _⟩⟩
end GM
namespace GM
open PySem PySem.Spec L2 DL
open PyProof.Rows hiding St
theorem pick_ok {w : Wd} {xs : List D} (h1 : xs ≠ []) (h2 : xs.length ≤ 1000) (hr : Rm 1 w) : ∃ x w', m__law_pick [.pen, .lst xs] w = .ok (.fz x) w' ∧ x ∈ xs ∧ Adv 1 w w' := by
  have hl : 0 < xs.length := List.length_pos_iff.mpr h1
  obtain ⟨r, w', e, r0, r1, ad⟩ := draw_ok (w := w) (many := xs.length) (by omega) (by omega) hr
  obtain ⟨x, ex, mx, _⟩ := atI_get (l := xs) r0 r1
  exact ⟨x, w', by simp [m__law_pick, b__law_pick, e, ex], mx, ad⟩
theorem lcRun_inv {vs : List Nat} {tg : D → DS → Oc Unit} {te : DS → Oc Sl} {ds : List D} (Iv : Nat → List D → DS → Prop)
    (step : ∀ k d acc s, ds[k]? = some d → Iv k acc s → ∃ s1 s3 y, tg d (s.wipe vs) = .ok () s1 ∧ fr te s1 = .ok y s3 ∧ acc.length < sizeLine ∧ Iv (k + 1) (acc ++ [y]) s3) {s0 : DS} (h0 : Iv 0 [] s0) : ∃ xs s', lcRun vs tg tYesD te ds s0 [] = .ok xs s' ∧ Iv ds.length xs s' := by
  have key : ∀ (r : List D) (k : Nat) (acc : List D) (s : DS), k + r.length = ds.length → ds.drop k = r → Iv k acc s → ∃ xs s', lcRun vs tg tYesD te r s acc = .ok xs s' ∧ Iv ds.length xs s' := by
    intro r
    induction r with
    | nil =>
      intro k acc s hl hd hi
      have e : k = ds.length := by simpa using hl
      exact ⟨acc, s, rfl, by rw [← e]; exact hi⟩
    | cons d r ih =>
      intro k acc s hl hd hi
      have hk : ds[k]? = some d := by
        have := List.getElem?_drop (xs := ds) (i := k) (j := 0)
        rw [hd] at this; simpa using this.symm
      obtain ⟨s1, s3, y, h1, h2, h3, h4⟩ := step k d acc s hk hi
      have hd' : ds.drop (k + 1) = r := by rw [← List.drop_drop, hd]; rfl
      obtain ⟨xs, s', e, hi'⟩ := ih (k + 1) (acc ++ [y]) s3 (by rw [List.length_cons] at hl; omega) hd' h4
      refine ⟨xs, s', ?_, hi'⟩
      simp only [lcRun, h1, tYes_eq, h2, if_pos h3]
      exact e
  exact key ds 0 [] s0 (by omega) rfl h0
theorem forD_inv {φ : D → DS → Oc Unit} {b : DS → Oc Fl} {ds : List D} (Iv : Nat → DS → Prop) (step : ∀ k d s, ds[k]? = some d → Iv k s → ∃ s1 s2, φ d s = .ok () s1 ∧ b s1 = .ok .nx s2 ∧ Iv (k + 1) s2) {s0 : DS} (h0 : Iv 0 s0) : ∃ s', forD φ b ds s0 = .ok .nx s' ∧ Iv ds.length s' := by
  have key : ∀ (r : List D) (k : Nat) (s : DS), k + r.length = ds.length → ds.drop k = r → Iv k s → ∃ s', forD φ b r s = .ok .nx s' ∧ Iv ds.length s' := by
    intro r
    induction r with
    | nil =>
      intro k s hl hd hi
      have e : k = ds.length := by simpa using hl
      exact ⟨s, rfl, by rw [← e]; exact hi⟩
    | cons d r ih =>
      intro k s hl hd hi
      have hk : ds[k]? = some d := by
        have := List.getElem?_drop (xs := ds) (i := k) (j := 0)
        rw [hd] at this; simpa using this.symm
      obtain ⟨s1, s2, h1, h2, h4⟩ := step k d s hk hi
      have hd' : ds.drop (k + 1) = r := by rw [← List.drop_drop, hd]; rfl
      obtain ⟨s', e, hi'⟩ := ih (k + 1) s2 (by rw [List.length_cons] at hl; omega) hd' h4
      refine ⟨s', ?_, hi'⟩
      simp only [forD, h1, h2]
      exact e
  exact key ds 0 s0 (by omega) rfl h0
theorem rngD_get {lo : Int} {n k : Nat} {d : D} (h : (rngD lo n)[k]? = some d) : k < n ∧ d = .int (lo + (k : Nat)) := by
  have hl : k < n := by
    have := (List.getElem?_eq_some_iff.mp h).1
    rwa [rngD_len] at this
  unfold rngD at h
  rw [List.getElem?_map, List.getElem?_range hl] at h
  cases h
  exact ⟨hl, rfl⟩
abbrev T := List Int
def rowL (f n : Int) : List T := (List.range (n - 1).toNat).map fun k => [f + (k : Nat), f + (k : Nat) + 1, 1, 1]
end GM
namespace GM
open PySem PySem.Spec L2 DL
open PyProof.Rows hiding St
theorem cut_take {α : Type} {xs : List α} {i : Int} (h : 0 ≤ i) : cut xs none (some i) = xs.take i.toNat := by
  unfold cut
  have e1 : HT.sIx xs.length 0 none = 0 := rfl
  have e2 : HT.sIx xs.length xs.length (some i) = min i.toNat xs.length := by
    show (if i < 0 then (i + (xs.length : Int)).toNat else min i.toNat xs.length) = _
    rw [if_neg (by omega)]
  rw [e1, e2]
  simp [List.take_eq_take_iff]
theorem cut_drop {α : Type} {xs : List α} {i : Int} (h : 0 ≤ i) : cut xs (some i) none = xs.drop i.toNat := by
  unfold cut
  have e1 : HT.sIx xs.length xs.length none = xs.length := rfl
  have e2 : HT.sIx xs.length 0 (some i) = min i.toNat xs.length := by
    show (if i < 0 then (i + (xs.length : Int)).toNat else min i.toNat xs.length) = _
    rw [if_neg (by omega)]
  rw [e1, e2]
  by_cases c : i.toNat ≤ xs.length
  · rw [Nat.min_eq_left c, List.take_of_length_le (by rw [List.length_drop]; omega)]
  · rw [Nat.min_eq_right (by omega)]
    simp
    omega
end GM
namespace GM
open PySem PySem.Spec L2 DL
open PyProof.Rows hiding St
theorem vLc_eq {vs : List Nat} {it : DS → Oc (List D)} {tg : D → DS → Oc Unit} {tt : DS → Oc Bool} {te : DS → Oc Sl} {s : DS} : vLc vs it tg tt te s = (it s).bind fun ds s1 => match lcRun vs tg tt te ds s1 [] with
  | .ok xs s2 => .ok (.ow xs) (s2.back s1 vs)
  | _ => .wr := rfl
theorem popAt_eq {i : Nat} {sl : List Sl} {w : Wd} {xs : List D} {k : Int} {x : D} (h : sl[i]? = some (.ow xs)) (h0 : 0 ≤ k) (h1 : k < 1000) (hx : xs[k.toNat]? = some x) : popAtD i (.int k) ⟨sl, w⟩ = .ok (.fz x) ⟨sl.set i (.ow (xs.eraseIdx k.toNat)), w⟩ := by
  have hj : k.toNat < xs.length := (List.getElem?_eq_some_iff.mp hx).1
  have e : seqIndex? k xs.length = some k.toNat := by
    have := seqIndex_of (k := k) (n := xs.length) h0 (by omega)
    exact this
  unfold popAtD
  show (match sl[i]?, D.int k with | some (.ow xs), .int k => _ | _, _ => _) = _
  rw [h]
  show (if -(2 ^ 63) ≤ k ∧ k < 2 ^ 63 then _ else _) = _
  rw [if_pos ⟨by omega, by omega⟩, e]
  dsimp only
  rw [hx]
  rfl
theorem erase_perm {α : Type} {xs : List α} {i : Nat} {x : α} (h : xs[i]? = some x) : (x :: xs.eraseIdx i).Perm xs := by
  induction xs generalizing i with
  | nil => simp at h
  | cons a xs ih =>
    cases i with
    | zero => simp at h; subst h; exact .refl _
    | succ i =>
      have h : xs[i]? = some x := by simpa using h
      exact (List.Perm.swap _ _ _).trans ((ih h).cons a)
theorem shuffled_ok {w : Wd} {xs : List D} (hl : xs.length ≤ 500) (hr : Rm xs.length w) : ∃ ys w', m__law_shuffled [.pen, .lst xs] w = .ok (.ow ys) w' ∧ ys.Perm xs ∧ Adv xs.length w w' := by
  obtain ⟨ys, s', e, rest, z, w', hp, hrl, had, hs⟩ := lcRun_inv (vs := [3]) (tg := gSet 3) (te := meth1 2 (popAtD 2) (callD m__law_draw [] (aCons (rd 0) (aCons (call1 lenD (pn 2)) aNil)))) (ds := rngD 0 xs.length)
    (fun k acc s => ∃ rest z w', (acc ++ rest).Perm xs ∧ k + rest.length = xs.length ∧ Adv k w w' ∧ s = ⟨[.fz .pen, .fz (.lst xs), .ow rest, z], w'⟩) (fun k d acc s hd ⟨rest, z, w', hp, hrl, had, hs⟩ => by
      obtain ⟨hk, rfl⟩ := rngD_get hd
      subst hs
      have hrest : 1 ≤ rest.length := by omega
      obtain ⟨r, w2, ed, r0, r1, ad⟩ := draw_ok (w := w') (many := rest.length) (by omega) (by omega) ((hr.adv had).mono (by omega))
      obtain ⟨x, hx⟩ : ∃ x, rest[r.toNat]? = some x := ⟨_, List.getElem?_eq_getElem (by omega)⟩
      have ep := popAt_eq (i := 2) (sl := [.fz .pen, .fz (.lst xs), .ow rest, .fz (.int (0 + (k : Nat)))]) (w := w2) (x := x) rfl r0 (by omega) hx
      refine ⟨⟨[.fz .pen, .fz (.lst xs), .ow rest, .fz (.int (0 + (k : Nat)))], w'⟩, ⟨[.fz .pen, .fz (.lst xs), .ow (rest.eraseIdx r.toNat), .fz (.int (0 + (k : Nat)))], w2⟩, x, ?_, ?_, ?_, rest.eraseIdx r.toNat, _, w2, ?_, ?_, ?_, rfl⟩
      · simp [DS.wipe]
      · simp at ep
        simp [ed, ep]
      · have := hp.length_eq
        rw [List.length_append] at this
        rw [sizeLine_eq]; omega
      · rw [List.append_assoc]
        exact ((erase_perm hx).append_left acc).trans hp
      · have := List.length_eraseIdx_of_lt (l := rest) (i := r.toNat) (by omega)
        omega
      · exact (had.trans ad).mono (by omega)) (s0 := ⟨[.fz .pen, .fz (.lst xs), .ow xs, .no], w⟩) ⟨xs, .no, w, .refl _, by omega, .refl _, rfl⟩
  rw [rngD_len] at hrl had
  have hn : rest = [] := List.eq_nil_of_length_eq_zero (by omega)
  subst hn
  rw [List.append_nil] at hp
  refine ⟨ys, w', ?_, hp, had⟩
  have hw : s'.w = w' := by rw [hs]


  simp [m__law_shuffled, b__law_shuffled, vLc, e, DS.back, hw, rOk_of (show (-1000 : Int) ≤ (xs.length : Int) by omega) (by omega)]
theorem pow_lt {n m : Nat} (h : n ≤ m) : (10 : Int) ^ n ≤ 10 ^ m := by
  have : (10 : Nat) ^ n ≤ 10 ^ m := Nat.pow_le_pow_right (by decide) h
  exact_mod_cast this
theorem great_ok {w : Wd} {n : Int} (h0 : 0 ≤ n) (h1 : n ≤ 30) (hr : Rm 30 w) : ∃ r w', m__law_great [.pen, .int n] w = .ok (.fz (.int r)) w' ∧ 0 ≤ r ∧ r < 10 ^ n.toNat ∧ Adv 30 w w' := by
  obtain ⟨s', e, r, z, w', r0, r1, had, hs⟩ := forD_inv (φ := gSet 3) (b := sSet 2 (bin opAdd (bin opMulT (cn (.int 10)) (rd 2)) (callD m__law_draw [] (aCons (rd 0) (aCons (cn (.int 10)) aNil))))) (ds := rngD 0 n.toNat)
    (fun k s => ∃ (r : Int) (z : Sl) (w' : Wd), 0 ≤ r ∧ r < 10 ^ k ∧ Adv k w w' ∧ s = ⟨[.fz .pen, .fz (.int n), .fz (.int r), z], w'⟩) (fun k d s hd ⟨r, z, w', r0, r1, had, hs⟩ => by
      obtain ⟨hk, rfl⟩ := rngD_get hd
      subst hs
      obtain ⟨q, w2, ed, q0, q1, ad⟩ := draw_ok (w := w') (many := 10) (by omega) (by omega) ((hr.adv had).mono (by omega))
      have hm : mulFit 10 r = true := by
        have k30 : (10 : Int) ^ k ≤ 10 ^ 30 := pow_lt (by omega)
        refine mulFit_small (Nat.lt_of_lt_of_le (show (10 : Int).natAbs < 2 ^ 4 by decide) (Nat.pow_le_pow_right (by decide) (by decide))) (Nat.lt_of_lt_of_le (m := 2 ^ 100) ?_ (Nat.pow_le_pow_right (by decide) (by decide)))
        have : r < 2 ^ 100 := Int.lt_trans (Int.lt_of_lt_of_le r1 k30) (by decide)
        omega
      refine ⟨_, _, rfl, ?_, 10 * r + q, .fz (.int (0 + (k : Nat))), w2, by omega, ?_, (had.trans ad).mono (by omega), rfl⟩
      · simp [hm, ed]
      · rw [Int.pow_succ]; omega) (s0 := ⟨[.fz .pen, .fz (.int n), .fz (.int 0), .no], w⟩) ⟨0, .no, w, by omega, by simp, .refl _, rfl⟩
  rw [rngD_len] at r1 had
  refine ⟨r, w', ?_, r0, r1, had.mono (by omega)⟩
  subst hs
  simp [m__law_great, b__law_great, e, rOk_of (show -1000 ≤ n by omega) (by omega)]
theorem number_ok {w : Wd} {far : Int} (h0 : 0 ≤ far) (h1 : far ≤ 30) (hr : Rm 40 w) : ∃ r w', m__law_number [.pen, .int far] w = .ok (.fz (.int r)) w' ∧ -(10 ^ 30) ≤ r ∧ r ≤ 10 ^ 30 ∧ -(10 ^ (max 2 far.toNat)) < r ∧ r < 10 ^ (max 2 far.toNat) ∧ Adv 40 w w' := by
  obtain ⟨q, w1, e1, q0, q1, a1⟩ := draw_ok (w := w) (many := 5) (by omega) (by omega) (hr.mono (by omega))
  obtain ⟨n, en, n0, n1⟩ : ∃ n : Int, atI [D.int 1, .int 1, .int 1, .int 2, .int far] q = some (.int n) ∧ 0 ≤ n ∧ n ≤ max 2 far := by
    rcases (by omega : q = 0 ∨ q = 1 ∨ q = 2 ∨ q = 3 ∨ q = 4) with rfl | rfl | rfl | rfl | rfl
    · exact ⟨1, rfl, by omega, by omega⟩
    · exact ⟨1, rfl, by omega, by omega⟩
    · exact ⟨1, rfl, by omega, by omega⟩
    · exact ⟨2, rfl, by omega, by omega⟩
    · exact ⟨far, rfl, by omega, by omega⟩
  obtain ⟨r, w2, e2, r0, r1, a2⟩ := great_ok (w := w1) (n := n) n0 (by omega) ((hr.adv a1).mono (by omega))
  obtain ⟨v, w3, e3, mv, a3⟩ := pick_ok (w := w2) (xs := [.int 1, .int (-1), .int 1, .int 0]) (by simp) (by simp) (((hr.adv a1).adv a2).mono (by omega))
  obtain ⟨k, rfl, hk⟩ : ∃ k : Int, v = .int k ∧ (k = 1 ∨ k = -1 ∨ k = 0) := by
    simp at mv
    rcases mv with rfl | rfl | rfl | rfl
    · exact ⟨_, rfl, by simp⟩
    · exact ⟨_, rfl, by simp⟩
    · exact ⟨_, rfl, by simp⟩
    · exact ⟨_, rfl, by simp⟩
  have rb : r < 10 ^ (max 2 far.toNat) := Int.lt_of_lt_of_le r1 (pow_lt (by omega))
  have r30 : (10 : Int) ^ (max 2 far.toNat) ≤ 10 ^ 30 := pow_lt (by omega)
  have hm : mulFit r k = true := by
    refine mulFit_small (Nat.lt_of_lt_of_le (m := 2 ^ 100) ?_ (Nat.pow_le_pow_right (by decide) (by decide))) (Nat.lt_of_lt_of_le (m := 2 ^ 4) ?_ (Nat.pow_le_pow_right (by decide) (by decide)))
    · have : r < 2 ^ 100 := Int.lt_trans (Int.lt_of_lt_of_le rb r30) (by decide)
      omega
    · rcases hk with rfl | rfl | rfl <;> decide
  refine ⟨r * k, w3, ?_, ?_, ?_, ?_, ?_, ((a1.trans a2).trans a3).mono (by omega)⟩
  · simp [m__law_number, b__law_number, e1, en, e2, e3, hm, sizeLine_eq]
  all_goals
    generalize (10 : Int) ^ (max 2 far.toNat) = B at rb r30
    generalize (10 : Int) ^ 30 = B2 at r30
    rcases hk with rfl | rfl | rfl <;> simp <;> omega
def stD (o n : List Int) : D := .tup [.tup (o.map .int), .tup (n.map .int)]
theorem row_ok {w : Wd} {size far : Int} {sl : List Sl} (hsl : ∃ z z2 : Sl, sl = [.fz .pen, .fz (.int size), .fz (.int far), z2, z]) (s0 : 0 ≤ size) (s1 : size ≤ 12) (h0 : 0 ≤ far) (h1 : far ≤ 30) (hr : Rm 600 w) :
    ∃ (ns : List Int) (w' : Wd) (z z2 : Sl), (call1 tupD (pval (vLc [4] (itRng1 (rd 1)) (gSet 4) tYesD (callD m__law_number [] (aCons (rd 0) (aCons (rd 2) aNil)))))) ⟨sl, w⟩ = .ok (.fz (.tup (ns.map .int))) ⟨[.fz .pen, .fz (.int size), .fz (.int far), z2, z], w'⟩ ∧ (∃ z3, sl = [.fz .pen, .fz (.int size), .fz (.int far), z2, z3]) ∧ ns.length = size.toNat ∧ (∀ x ∈ ns, -(10 ^ (max 2 far.toNat)) < x ∧ x < 10 ^ (max 2 far.toNat)) ∧ Adv 600 w w' := by
  obtain ⟨z, z2, rfl⟩ := hsl
  obtain ⟨xs, s', e, ns, hx, hn, ⟨z5, w', had, hs⟩⟩ := lcRun_inv (vs := [4]) (tg := gSet 4) (te := callD m__law_number [] (aCons (rd 0) (aCons (rd 2) aNil))) (ds := rngD 0 size.toNat)
    (fun k acc s => ∃ ns : List Int, acc = ns.map .int ∧ (ns.length = k ∧ ∀ x ∈ ns, -(10 ^ (max 2 far.toNat)) < x ∧ x < 10 ^ (max 2 far.toNat)) ∧ ∃ z w', Adv (40 * k) w w' ∧ s = ⟨[.fz .pen, .fz (.int size), .fz (.int far), z2, z], w'⟩) (fun k d acc s hd ⟨ns, ha, ⟨hl, hb⟩, z, w', had, hs⟩ => by
      obtain ⟨hk, rfl⟩ := rngD_get hd
      subst hs
      obtain ⟨r, w2, e2, _, _, r0, r1, a2⟩ := number_ok (w := w') h0 h1 ((hr.adv had).mono (by omega))
      refine ⟨⟨[.fz .pen, .fz (.int size), .fz (.int far), z2, .fz (.int (0 + (k : Nat)))], w'⟩, ⟨[.fz .pen, .fz (.int size), .fz (.int far), z2, .fz (.int (0 + (k : Nat)))], w2⟩, .int r, ?_, ?_, ?_, ns ++ [r], ?_, ⟨?_, ?_⟩, _, w2, (had.trans a2).mono (by omega), rfl⟩
      · simp [DS.wipe]
      · simp [e2]
      · rw [ha, List.length_map, hl, sizeLine_eq]; omega
      · rw [ha, List.map_append]; rfl
      · rw [List.length_append, hl]; rfl
      · intro x hx
        rcases List.mem_append.mp hx with m | m
        · exact hb x m
        · simp at m; subst m; exact ⟨r0, r1⟩) (s0 := ⟨[.fz .pen, .fz (.int size), .fz (.int far), z2, z], w⟩) ⟨[], rfl, ⟨rfl, fun x h => by simp at h⟩, z, w, Adv.refl w, rfl⟩
  rw [rngD_len] at hn had
  subst hx
  subst hs
  refine ⟨ns, w', bk1 ⟨[.fz .pen, .fz (.int size), .fz (.int far), z2, z], w⟩ 4, z2, ?_, ⟨z, rfl⟩, hn.1, hn.2, had.mono (by omega)⟩
  simp [vLc, e, DS.back, rOk_of (show -1000 ≤ size by omega) (by omega)]
theorem standing_ok {w : Wd} {size far : Int} (s0 : 0 ≤ size) (s1 : size ≤ 12) (h0 : 0 ≤ far) (h1 : far ≤ 30) (hr : Rm 1200 w) :
    ∃ (o n : List Int) (w' : Wd), m__law_standing [.pen, .int size, .int far] w = .ok (.fz (stD o n)) w' ∧ o.length = size.toNat ∧ n.length = size.toNat ∧ (∀ x ∈ o ++ n, -(10 ^ (max 2 far.toNat)) < x ∧ x < 10 ^ (max 2 far.toNat)) ∧ Adv 1200 w w' := by
  obtain ⟨o, w1, za, za2, e1, ⟨_, hz1⟩, lo, bo, a1⟩ := row_ok (w := w) (size := size) (far := far) (sl := [.fz .pen, .fz (.int size), .fz (.int far), .fz (.int 0), .no]) ⟨_, _, rfl⟩ s0 s1 h0 h1 (hr.mono (by omega))
  obtain ⟨n, w2, zb, zb2, e2, ⟨_, hz2⟩, ln, bn, a2⟩ := row_ok (w := w1) (size := size) (far := far) (sl := [.fz .pen, .fz (.int size), .fz (.int far), .fz (.int 1), za]) ⟨_, _, rfl⟩ s0 s1 h0 h1 ((hr.adv a1).mono (by omega))
  obtain rfl : za2 = .fz (.int 0) := by simp at hz1; exact hz1.1.symm
  obtain rfl : zb2 = .fz (.int 1) := by simp at hz2; exact hz2.1.symm
  refine ⟨o, n, w2, ?_, lo, ln, fun x hx => ?_, (a1.trans a2).mono (by omega)⟩
  · have r2 : rngD 0 (2 : Int).toNat = [.int 0, .int 1] := rfl
    have r2' : rOk 2 = true := by decide
    have hit : itRng1 (cn (.int 2)) ⟨[.fz .pen, .fz (.int size), .fz (.int far), .no, .no], w⟩ = .ok [.int 0, .int 1] ⟨[.fz .pen, .fz (.int size), .fz (.int far), .no, .no], w⟩ := by
      simp [r2']
      exact r2
    have hv : ∃ S3 : DS, vLc [3] (itRng1 (cn (.int 2))) (gSet 3) tYesD (call1 tupD (pval (vLc [4] (itRng1 (rd 1)) (gSet 4) tYesD (callD m__law_number [] (aCons (rd 0) (aCons (rd 2) aNil)))))) ⟨[.fz .pen, .fz (.int size), .fz (.int far), .no, .no], w⟩ = .ok (.ow [.tup (o.map .int), .tup (n.map .int)]) S3 ∧ S3.w = w2 := by
      refine ⟨DS.back ⟨[.fz .pen, .fz (.int size), .fz (.int far), .fz (.int 1), zb], w2⟩ ⟨[.fz .pen, .fz (.int size), .fz (.int far), .no, .no], w⟩ [3], ?_, rfl⟩
      rw [vLc_eq, hit, bind_ok]
      simp only [lcRun, DS.wipe, List.foldr_cons, List.foldr_nil, List.set_cons_succ, List.set_cons_zero, gSet_eq, put_eq, tYes_eq, fr_eq, e1, e2, bind_ok, frz_fz, List.length_nil, List.nil_append, List.cons_append, List.length_cons]
      rw [if_pos (by rw [sizeLine_eq]; decide), if_pos (by rw [sizeLine_eq]; decide)]
    obtain ⟨S3, hv, hw⟩ := hv
    simp [m__law_standing, b__law_standing, hv, hw, stD]
  · rcases List.mem_append.mp hx with m | m
    · exact bo x m
    · exact bn x m
end GM
namespace GM
open PySem PySem.Spec L2 DL
open PyProof.Rows hiding St
def TieOk (n : Int) (t : T) : Prop := ∃ a b c d, t = [a, b, c, d] ∧ 0 ≤ a ∧ a < b ∧ b < n ∧ 1 ≤ c ∧ c ≤ 9 ∧ 1 ≤ d ∧ d ≤ 9
def pr (t : T) : List Int := t.take 2
def sn (t : T) : Int := t.getD 1 0
structure Good (n : Int) (l : List T) : Prop where
  ok : ∀ t ∈ l, TieOk n t
  nd : (l.map pr).Nodup
theorem TieOk.mono {n m : Int} {t : T} (h : TieOk n t) (hl : n ≤ m) : TieOk m t := by
  obtain ⟨a, b, c, d, e, h1, h2, h3, h4⟩ := h
  exact ⟨a, b, c, d, e, h1, h2, by omega, h4⟩
theorem Good.mono {n m : Int} {l : List T} (h : Good n l) (hl : n ≤ m) : Good m l := ⟨fun t ht => (h.ok t ht).mono hl, h.nd⟩
theorem Good.perm {n : Int} {l l' : List T} (h : Good n l) (p : l'.Perm l) : Good n l' := ⟨fun t ht => h.ok t (p.mem_iff.mp ht), ((p.map pr).nodup_iff).mpr h.nd⟩
theorem Good.nil {n : Int} : Good n [] := ⟨fun _ h => by simp at h, by simp⟩
theorem Good.four {n : Int} {l : List T} (h : Good n l) : ∀ t ∈ l, ∃ a b c d, t = [a, b, c, d] := fun t ht => let ⟨a, b, c, d, e, _⟩ := h.ok t ht; ⟨a, b, c, d, e⟩
theorem nodup_of_map {α β : Type} {f : α → β} : ∀ {l : List α}, (l.map f).Nodup → l.Nodup
  | [], _ => .nil
  | a :: l, h => by
    rw [List.map_cons, List.nodup_cons] at h
    exact List.nodup_cons.mpr ⟨fun m => h.1 (List.mem_map_of_mem m), nodup_of_map h.2⟩
theorem Good.set {n : Int} {l : List T} {i : Nat} {a b c d x y : Int} (h : Good n l) (hi : l[i]? = some [a, b, c, d]) (hx : 1 ≤ x ∧ x ≤ 9) (hy : 1 ≤ y ∧ y ≤ 9) : Good n (l.set i [a, b, x, y]) := by
  refine ⟨fun t ht => ?_, ?_⟩
  · rcases List.mem_or_eq_of_mem_set ht with m | m
    · exact h.ok t m
    · subst m
      obtain ⟨a', b', c', d', e, h1, h2, h3, _⟩ := h.ok _ (List.mem_of_getElem? hi)
      simp at e
      obtain ⟨rfl, rfl, rfl, rfl⟩ := e
      exact ⟨_, _, _, _, rfl, h1, h2, h3, hx.1, hx.2, hy.1, hy.2⟩
  · have e : (l.set i [a, b, x, y]).map pr = l.map pr := by
      rw [List.map_set]
      refine List.ext_getElem? fun j => ?_
      by_cases c : i = j
      · subst c
        have hl := (List.getElem?_eq_some_iff.mp hi).1
        rw [List.getElem?_set_self (by rw [List.length_map]; exact hl), List.getElem?_map, hi]; rfl
      · rw [List.getElem?_set_ne c]
    rw [e]; exact h.nd
theorem rowL_mem {f n : Int} {t : T} (h : t ∈ rowL f n) : ∃ k : Int, t = [k, k + 1, 1, 1] ∧ f ≤ k ∧ k < f + n - 1 := by
  unfold rowL at h
  obtain ⟨k, hk, rfl⟩ := List.mem_map.mp h
  have := List.mem_range.mp hk
  exact ⟨f + k, rfl, by omega, by omega⟩
theorem Good.snoc {n : Int} {l : List T} {t : T} (h : Good n l) (ht : TieOk n t) (hn : pr t ∉ l.map pr) : Good n (l ++ [t]) := by
  refine ⟨fun u hu => ?_, ?_⟩
  · rcases List.mem_append.mp hu with m | m
    · exact h.ok u m
    · simp at m; subst m; exact ht
  · rw [List.map_append, List.nodup_append]
    refine ⟨h.nd, by simp, fun a ha b hb => ?_⟩
    simp at hb
    subst hb
    exact fun e => hn (by rw [← e]; exact ha)
theorem nodup_len : ∀ (N : Nat) (l : List Nat), l.Nodup → (∀ x ∈ l, x < N) → l.length ≤ N
  | 0, l, _, h => by
    cases l with
    | nil => exact Nat.le_refl _
    | cons a l => exact absurd (h a (by simp)) (Nat.not_lt_zero _)
  | N + 1, l, hn, h => by
    by_cases m : N ∈ l
    · have h1 := nodup_len N (l.erase N) (hn.erase N) fun x hx => by
        have := (hn.mem_erase_iff).mp hx
        have := h x this.2
        omega
      rw [List.length_erase_of_mem m] at h1
      omega
    · have h1 := nodup_len N l hn fun x hx => by
        have := h x hx
        have : x ≠ N := fun e => m (e ▸ hx)
        omega
      omega
def tri (a b : Nat) : Nat := b * (b - 1) / 2 + a
theorem tri_tab : ((List.range 12).all fun b => (List.range b).all fun a => (List.range 12).all fun b' => (List.range b').all fun a' => !(tri a b == tri a' b') || (a == a' && b == b')) = true := by decide +kernel
theorem tri_inj (b : Nat) (hb : b < 12) (a : Nat) (ha : a < b) (b' : Nat) (hb' : b' < 12) (a' : Nat) (ha' : a' < b') (e : tri a b = tri a' b') : a = a' ∧ b = b' := by
  have h1 := List.all_eq_true.mp tri_tab b (List.mem_range.mpr hb)
  have h2 := List.all_eq_true.mp h1 a (List.mem_range.mpr ha)
  have h3 := List.all_eq_true.mp h2 b' (List.mem_range.mpr hb')
  have h4 := List.all_eq_true.mp h3 a' (List.mem_range.mpr ha')
  rw [e] at h4
  simpa using h4
theorem tri_lt : ∀ n < 13, ∀ b < n, ∀ a < b, tri a b < n * (n - 1) / 2 := by decide +kernel
theorem Good.len {n : Int} {l : List T} (h : Good n l) (hn : n ≤ 12) : l.length ≤ n.toNat * (n.toNat - 1) / 2 := by
  have e : (l.map fun t => tri (t.getD 0 0).toNat (t.getD 1 0).toNat) = (l.map pr).map fun p => tri (p.getD 0 0).toNat (p.getD 1 0).toNat := by
    rw [List.map_map]
    refine List.map_congr_left fun t ht => ?_
    obtain ⟨a, b, c, d, rfl, _⟩ := h.ok t ht
    rfl
  have h1 := nodup_len (n.toNat * (n.toNat - 1) / 2) (l.map fun t => tri (t.getD 0 0).toNat (t.getD 1 0).toNat) ?_ ?_
  · rwa [List.length_map] at h1
  · have := h.nd
    unfold List.Nodup at this ⊢
    rw [List.pairwise_map] at this ⊢
    refine this.imp_of_mem fun {t u} mt mu hne e => hne ?_
    obtain ⟨a, b, c, d, rfl, a1, a2, a3, _⟩ := h.ok t mt
    obtain ⟨a', b', c', d', rfl, b1, b2, b3, _⟩ := h.ok u mu
    obtain ⟨q1, q2⟩ := tri_inj b.toNat (by omega) a.toNat (by omega) b'.toNat (by omega) a'.toNat (by omega) e
    show [a, b] = [a', b']
    rw [show a = a' by omega, show b = b' by omega]
  · intro x hx
    obtain ⟨t, ht, rfl⟩ := List.mem_map.mp hx
    obtain ⟨a, b, c, d, rfl, a1, a2, a3, _⟩ := h.ok t ht
    exact tri_lt n.toNat (by omega) b.toNat (by omega) a.toNat (by omega)
theorem Good.len144 {n : Int} {l : List T} (h : Good n l) (hn : n ≤ 12) : l.length ≤ 66 := by
  have h1 := h.len hn
  have : ∀ m < 13, m * (m - 1) / 2 ≤ 66 := by decide +kernel
  have := this n.toNat (by omega)
  omega
end GM
namespace GM
open PySem PySem.Spec L2 DL
open PyProof.Rows hiding St
@[simp] theorem listRng_eq {f : DS → Oc Sl} {s : DS} : vListRng f s = (fr f s).bind fun d s1 => match d with
  | .int n => if rOk n = true ∧ n ≤ 1000 then .ok (.ow (rngD 0 n.toNat)) s1 else .wr
  | _ => .wr := rfl
structure Names (n : Int) (ns : List Int) : Prop where
  len : ns.length = n.toNat
  nd : ns.Nodup
  rng : ∀ x ∈ ns, 0 ≤ x ∧ x < n
theorem Names.at {n a : Int} {ns : List Int} (N : Names n ns) (h0 : 0 ≤ a) (h1 : a < n) : ∃ x, ns[a.toNat]? = some x ∧ ns.getD a.toNat 0 = x ∧ 0 ≤ x ∧ x < n ∧ atI (ns.map D.int) a = some (.int x) := by
  obtain ⟨x, hx⟩ : ∃ x, ns[a.toNat]? = some x := ⟨_, List.getElem?_eq_getElem (by rw [N.len]; omega)⟩
  have hb := N.rng x (List.mem_of_getElem? hx)
  have e := atI_nat (xs := ns.map D.int) (j := a.toNat) (v := .int x) (by rw [List.getElem?_map, hx]; rfl)
  rw [Int.toNat_of_nonneg h0] at e
  exact ⟨x, hx, by rw [List.getD_eq_getElem?_getD, hx]; rfl, hb.1, hb.2, e⟩
theorem Names.inj {n a b : Int} {ns : List Int} (N : Names n ns) (ha : 0 ≤ a ∧ a < n) (hb : 0 ≤ b ∧ b < n) (e : ns.getD a.toNat 0 = ns.getD b.toNat 0) : a = b := by
  obtain ⟨x, hx, ex, _⟩ := N.at ha.1 ha.2
  obtain ⟨y, hy, ey, _⟩ := N.at hb.1 hb.2
  rw [ex, ey] at e
  subst e
  obtain ⟨h1, g1⟩ := List.getElem?_eq_some_iff.mp hx
  obtain ⟨h2, g2⟩ := List.getElem?_eq_some_iff.mp hy
  have := (List.getElem_inj N.nd).mp (g1.trans g2.symm)
  omega
theorem perm_ties {ys : List D} {l : List T} (h : ys.Perm (l.map tupI)) : ∃ l' : List T, ys = l'.map tupI ∧ l'.Perm l := by
  have key : ∀ {ys zs : List D}, ys.Perm zs → ∀ l : List T, zs = l.map tupI → ∃ l' : List T, ys = l'.map tupI ∧ l'.Perm l := by
    intro ys zs p
    induction p with
    | nil => intro l h; exact ⟨l, h, .refl _⟩
    | cons x p ih =>
      intro l h
      cases l with
      | nil => cases h
      | cons a l =>
        injection h with h1 h2
        obtain ⟨l', e1, e2⟩ := ih l h2
        exact ⟨a :: l', by rw [e1, h1]; rfl, e2.cons a⟩
    | swap x y l0 =>
      intro l h
      match l, h with
      | a :: b :: l, h =>
        injection h with h1 h2
        injection h2 with h2 h3
        exact ⟨b :: a :: l, by rw [h1, h2, h3]; rfl, .swap a b l⟩
      | [a], h => injection h with h1 h2; cases h2
      | [], h => cases h
    | trans p1 p2 ih1 ih2 =>
      intro l h
      obtain ⟨l2, e2, q2⟩ := ih2 l h
      obtain ⟨l1, e1, q1⟩ := ih1 l2 e2
      exact ⟨l1, e1, q1.trans q2⟩
  exact key h _ rfl
end GM
namespace GM
open PySem PySem.Spec L2 DL
open PyProof.Rows hiding St
def C4 (l : List T) : Prop := ∀ a b c d, [a, b, c, d] ∈ l → c ≤ 4 ∧ d ≤ 4
theorem C4.app {l l' : List T} (h : C4 l) (h' : C4 l') : C4 (l ++ l') := fun a b c d m => (List.mem_append.mp m).elim (h a b c d) (h' a b c d)
theorem C4.one {a b c d : Int} (hc : c ≤ 4) (hd : d ≤ 4) : C4 [[a, b, c, d]] := fun a' b' c' d' m => by
  simp at m
  obtain ⟨_, _, rfl, rfl⟩ := m
  exact ⟨hc, hd⟩
theorem C4.row {f n : Int} : C4 (rowL f n) := fun a b c d m => by
  obtain ⟨k, e, _⟩ := rowL_mem m
  simp at e
  obtain ⟨_, _, rfl, rfl⟩ := e
  omega
def Shp (most : Int) (c : Int) (w : Wd) (o : Rs) : Prop := ∃ size l w', o = .ok (.fz (.tup [.int size, .lst (l.map tupI)])) w' ∧ 1 ≤ size ∧ size ≤ most ∧ Good size l ∧ Adv c w w'
end GM
namespace GM
open PySem PySem.Spec L2 DL
open PyProof.Rows hiding St
end GM
namespace GM
open PySem PySem.Spec L2 DL
open PyProof.Rows hiding St
end GM
namespace GM
open PySem PySem.Spec L2 DL
open PyProof.Rows hiding St
structure Sofar (size one two : Int) (l : List T) : Prop where
  good : Good size l
  lex : ∀ a b c d, [a, b, c, d] ∈ l → a < one ∨ (a = one ∧ b < two)
theorem Sofar.step {size one two c d : Int} {l : List T} (h : Sofar size one two l) (h0 : 0 ≤ one) (h1 : one < two) (h2 : two < size) (hc : 1 ≤ c ∧ c ≤ 9) (hd : 1 ≤ d ∧ d ≤ 9) : Sofar size one (two + 1) (l ++ [[one, two, c, d]]) := by
  refine ⟨h.good.snoc ⟨one, two, c, d, rfl, h0, h1, h2, hc.1, hc.2, hd.1, hd.2⟩ fun m => ?_, fun a b c' d' m => ?_⟩
  · obtain ⟨t, ht, e⟩ := List.mem_map.mp m
    obtain ⟨a, b, c', d', rfl, _⟩ := h.good.ok t ht
    simp [pr] at e
    have := h.lex a b c' d' ht
    omega
  · rcases List.mem_append.mp m with z | z
    · have := h.lex a b c' d' z; omega
    · simp at z; omega
theorem Sofar.skip {size one two : Int} {l : List T} (h : Sofar size one two l) : Sofar size one (two + 1) l := ⟨h.good, fun a b c d m => by have := h.lex a b c d m; omega⟩
theorem Sofar.next {size one two two' : Int} {l : List T} (h : Sofar size one two l) : Sofar size (one + 1) two' l := ⟨h.good, fun a b c d m => by have := h.lex a b c d m; omega⟩
theorem rng2_eq {f h : DS → Oc Sl} {s s1 s2 : DS} {i j : Int} (h1 : fr f s = .ok (.int i) s1) (h2 : fr h s1 = .ok (.int j) s2) (hi : -1000 ≤ i ∧ i ≤ 1000) (hj : -1000 ≤ j ∧ j ≤ 1000) : itRng2 f h s = .ok (rngD i (j - i).toNat) s2 := by
  unfold itRng2
  rw [h1, bind_ok, h2, bind_ok]
  dsimp only
  rw [if_pos ⟨rOk_of hi.1 hi.2, rOk_of hj.1 hj.2⟩]
theorem cords_ok {w : Wd} {sl : List Sl} (z0 z1 z2 z3 z4 z5 z6 z7 z8 : Sl) (hsl : sl = [.fz .pen, z1, z2, z3, z4, z5, z6, z7, z8]) (hr : Rm 2 w) : ∃ x y w' y8, vLc [8] (itRng1 (cn (.int 2))) (gSet 8) tYesD (callD m__law_pick [] (aCons (rd 0) (aCons (vLst (aCons (cn (.int 1)) (aCons (cn (.int 1)) (aCons (cn (.int 1)) (aCons (cn (.int 1)) (aCons (cn (.int 2)) (aCons (cn (.int 3)) (aCons (cn (.int 9)) aNil)))))))) aNil))) ⟨sl, w⟩ = .ok (.ow [.int x, .int y]) ⟨[.fz .pen, z1, z2, z3, z4, z5, z6, z7, y8], w'⟩ ∧ (1 ≤ x ∧ x ≤ 9) ∧ (1 ≤ y ∧ y ≤ 9) ∧ Adv 2 w w' := by
  subst hsl
  have one : ∀ w1, Rm 1 w1 → ∃ x w2, m__law_pick [.pen, .lst [.int 1, .int 1, .int 1, .int 1, .int 2, .int 3, .int 9]] w1 = .ok (.fz (.int x)) w2 ∧ (1 ≤ x ∧ x ≤ 9) ∧ Adv 1 w1 w2 := fun w1 hr1 => by
    obtain ⟨v, w2, e, mv, a⟩ := pick_ok (w := w1) (xs := [D.int 1, .int 1, .int 1, .int 1, .int 2, .int 3, .int 9]) (by simp) (by simp) hr1
    obtain ⟨x, rfl, hx⟩ : ∃ x : Int, v = .int x ∧ 1 ≤ x ∧ x ≤ 9 := by
      simp at mv
      rcases mv with rfl | rfl | rfl | rfl <;> exact ⟨_, rfl, by omega, by omega⟩
    exact ⟨x, w2, e, hx, a⟩
  obtain ⟨x, w1, e1, hx, a1⟩ := one w (hr.mono (by omega))
  obtain ⟨y, w2, e2, hy, a2⟩ := one w1 ((hr.adv a1).mono (by omega))
  have r2 : rngD 0 (2 : Int).toNat = [.int 0, .int 1] := rfl
  have r2' : rOk 2 = true := by decide
  have hit : itRng1 (cn (.int 2)) ⟨[.fz .pen, z1, z2, z3, z4, z5, z6, z7, z8], w⟩ = .ok [.int 0, .int 1] ⟨[.fz .pen, z1, z2, z3, z4, z5, z6, z7, z8], w⟩ := by
    simp [r2']
    exact r2
  refine ⟨x, y, w2, bk1 ⟨[.fz .pen, z1, z2, z3, z4, z5, z6, z7, z8], w⟩ 8, ?_, hx, hy, (a1.trans a2).mono (by omega)⟩
  rw [vLc_eq, hit, bind_ok]
  simp [lcRun, DS.wipe, DS.back, e1, e2, sizeLine_eq]
theorem any_ok {w : Wd} {most : Int} (h1 : 1 ≤ most) (h2 : most ≤ 12) (hr : Rm 2000 w) : Shp most 2000 w (m__law_any_web [.pen, .int most] w) := by
  obtain ⟨q, w1, e1, q0, q1, a1⟩ := draw_ok (w := w) (many := most) (by omega) (by omega) (hr.mono (by omega))
  obtain ⟨r, w2, e2, r0, r1, a2⟩ := draw_ok (w := w1) (many := 6) (by omega) (by omega) ((hr.adv a1).mono (by omega))
  have a12 := a1.trans a2
  have hr2 : Rm 1900 w2 := (hr.adv a12).mono (by omega)
  obtain ⟨size, hs⟩ : ∃ size, 1 + q = size := ⟨_, rfl⟩
  obtain ⟨sp, hsp⟩ : ∃ sp, 1 + r = sp := ⟨_, rfl⟩
  obtain ⟨s', e, l, w3, z5, z6, z7, z8, hg, ha, hs'⟩ := forD_inv (φ := gSet 5) (b := sFor (itRng2 (bin opAdd (rd 5) (cn (.int 1))) (rd 2)) (gSet 6) (sIf (tAn (asB (bin (opEq false) (callD m__law_draw [] (aCons (rd 0) (aCons (rd 4) aNil))) (cn (.int 0)))) (asB (bin (opEq false) (callD m__law_draw [] (aCons (rd 0) (aCons (cn (.int 2)) aNil))) (cn (.int 0))))) (sSeq (sSet 7 (vLc [8] (itRng1 (cn (.int 2))) (gSet 8) tYesD (callD m__law_pick [] (aCons (rd 0) (aCons (vLst (aCons (cn (.int 1)) (aCons (cn (.int 1)) (aCons (cn (.int 1)) (aCons (cn (.int 1)) (aCons (cn (.int 2)) (aCons (cn (.int 3)) (aCons (cn (.int 9)) aNil)))))))) aNil)))))
    (sExpr (meth1 3 (appD 3) (vTup (aCons (rd 5) (aCons (rd 6) (aCons (item ixD (pn 7) (cn (.int 0))) (aCons (item ixD (pn 7) (cn (.int 1))) aNil)))))))) sNil)) (ds := rngD 0 size.toNat)
    (fun k s => ∃ l w3 z5 z6 z7 z8, Sofar size k 0 l ∧ Adv (48 * k) w2 w3 ∧ s = ⟨[.fz .pen, .fz (.int most), .fz (.int size), .ow (l.map tupI), .fz (.int sp), z5, z6, z7, z8], w3⟩) (fun k d s hd ⟨l, w3, z5, z6, z7, z8, hg, ha, hs⟩ => by
      obtain ⟨hk, rfl⟩ := rngD_get hd
      subst hs
      have hit : itRng2 (bin opAdd (rd 5) (cn (.int 1))) (rd 2) ⟨[.fz .pen, .fz (.int most), .fz (.int size), .ow (l.map tupI), .fz (.int sp), .fz (.int (0 + (k : Nat))), z6, z7, z8], w3⟩ = .ok (rngD (0 + (k : Nat) + 1) (size - (0 + (k : Nat) + 1)).toNat) ⟨[.fz .pen, .fz (.int most), .fz (.int size), .ow (l.map tupI), .fz (.int sp), .fz (.int (0 + (k : Nat))), z6, z7, z8], w3⟩ :=
        rng2_eq (s1 := ⟨[.fz .pen, .fz (.int most), .fz (.int size), .ow (l.map tupI), .fz (.int sp), .fz (.int (0 + (k : Nat))), z6, z7, z8], w3⟩) (by simp) (by simp) (by omega) (by omega)
      obtain ⟨s2, e2, l2, w4, y6, y7, y8, hg2, ha2, hs2⟩ := forD_inv (φ := gSet 6) (b := sIf (tAn (asB (bin (opEq false) (callD m__law_draw [] (aCons (rd 0) (aCons (rd 4) aNil))) (cn (.int 0)))) (asB (bin (opEq false) (callD m__law_draw [] (aCons (rd 0) (aCons (cn (.int 2)) aNil))) (cn (.int 0))))) (sSeq (sSet 7 (vLc [8] (itRng1 (cn (.int 2))) (gSet 8) tYesD (callD m__law_pick [] (aCons (rd 0) (aCons (vLst (aCons (cn (.int 1)) (aCons (cn (.int 1)) (aCons (cn (.int 1)) (aCons (cn (.int 1)) (aCons (cn (.int 2)) (aCons (cn (.int 3)) (aCons (cn (.int 9)) aNil)))))))) aNil)))))
    (sExpr (meth1 3 (appD 3) (vTup (aCons (rd 5) (aCons (rd 6) (aCons (item ixD (pn 7) (cn (.int 0))) (aCons (item ixD (pn 7) (cn (.int 1))) aNil)))))))) sNil) (ds := rngD (0 + (k : Nat) + 1) (size - (0 + (k : Nat) + 1)).toNat)
        (fun i s => ∃ l w4 y6 y7 y8, Sofar size k (k + 1 + i) l ∧ Adv (4 * i) w3 w4 ∧ s = ⟨[.fz .pen, .fz (.int most), .fz (.int size), .ow (l.map tupI), .fz (.int sp), .fz (.int (0 + (k : Nat))), y6, y7, y8], w4⟩) (fun i d s hd ⟨l, w4, y6, y7, y8, hg, hb, hs⟩ => by
          obtain ⟨hi, rfl⟩ := rngD_get hd
          subst hs
          have hrr : Rm 4 w4 := ((hr2.adv ha).adv hb).mono (by omega)
          obtain ⟨x, w5, e5, x0, x1, a5⟩ := draw_ok (w := w4) (many := sp) (by omega) (by omega) (hrr.mono (by omega))
          obtain ⟨two, htwo⟩ : ∃ two : Int, (0 + (k : Nat) + 1 + (i : Nat) : Int) = two := ⟨_, rfl⟩
          rw [htwo]
          have hg : Sofar size k two l := by rw [← htwo, Int.zero_add]; exact hg
          have hg' : (k : Int) + 1 + ((i + 1 : Nat) : Int) = two + 1 := by omega
          by_cases cx : x = 0
          · subst cx
            obtain ⟨y, w6, e6, y0, y1, a6⟩ := draw_ok (w := w5) (many := 2) (by omega) (by omega) ((hrr.adv a5).mono (by omega))
            by_cases cy : y = 0
            · subst cy
              obtain ⟨p, q, w7, y8', e7, hp, hq, a7⟩ := cords_ok (w := w6) y8 (.fz (.int most)) (.fz (.int size)) (.ow (l.map tupI)) (.fz (.int sp)) (.fz (.int (0 + (k : Nat)))) (.fz (.int two)) y7 y8 rfl (((hrr.adv a5).adv a6).mono (by omega))
              have hst := hg.step (c := p) (d := q) (by omega) (by omega) (by omega) hp hq
              have gl := hg.good.len144 (by omega)
              have hl : l.length < 16777216 := by omega
              refine ⟨_, ⟨[.fz .pen, .fz (.int most), .fz (.int size), .ow ((l ++ [[(k : Int), two, p, q]]).map tupI), .fz (.int sp), .fz (.int (0 + (k : Nat))), .fz (.int two), .ow [.int p, .int q], y8'], w7⟩, rfl, ?_, _, w7, _, _, _, by rw [hg']; exact hst, (((hb.trans a5).trans a6).trans a7).mono (by omega), rfl⟩
              simp at e7
              simp [e5, e6, e7, eqv_int, fit_int, sizeLine_eq, hl, atI, ixN, tupI]
            · refine ⟨_, ⟨[.fz .pen, .fz (.int most), .fz (.int size), .ow (l.map tupI), .fz (.int sp), .fz (.int (0 + (k : Nat))), .fz (.int two), y7, y8], w6⟩, rfl, ?_, l, w6, _, _, _, by rw [hg']; exact hg.skip, ((hb.trans a5).trans a6).mono (by omega), rfl⟩
              simp [e5, e6, eqv_int, fit_int, cy]
          · refine ⟨_, ⟨[.fz .pen, .fz (.int most), .fz (.int size), .ow (l.map tupI), .fz (.int sp), .fz (.int (0 + (k : Nat))), .fz (.int two), y7, y8], w5⟩, rfl, ?_, l, w5, _, _, _, by rw [hg']; exact hg.skip, (hb.trans a5).mono (by omega), rfl⟩
            simp [e5, eqv_int, fit_int, cx]) (s0 := ⟨[.fz .pen, .fz (.int most), .fz (.int size), .ow (l.map tupI), .fz (.int sp), .fz (.int (0 + (k : Nat))), z6, z7, z8], w3⟩) ⟨l, w3, _, _, _, ⟨hg.good, fun a b c d m => by have := hg.lex a b c d m; omega⟩, Adv.refl _, rfl⟩
      rw [rngD_len] at ha2 hg2
      refine ⟨_, s2, rfl, ?_, l2, w4, _, _, _, _, ?_, (ha.trans ha2).mono (by omega), hs2⟩
      · show sFor _ _ _ ⟨[.fz .pen, .fz (.int most), .fz (.int size), .ow (l.map tupI), .fz (.int sp), .fz (.int (0 + (k : Nat))), z6, z7, z8], w3⟩ = _
        rw [sFor_eq, hit, bind_ok, e2]
      · have := hg2.next (two' := 0)
        exact_mod_cast this) (s0 := ⟨[.fz .pen, .fz (.int most), .fz (.int size), .ow [], .fz (.int sp), .no, .no, .no, .no], w2⟩) ⟨[], w2, _, _, _, _, ⟨Good.nil, fun a b c d m => by simp at m⟩, Adv.refl _, rfl⟩
  rw [rngD_len] at ha
  have hgl := hg.good.len144 (by omega)
  obtain ⟨zs, w4, e4, p4, a4⟩ := shuffled_ok (w := w3) (xs := l.map tupI) (by simp; omega) ((hr2.adv ha).mono (by simp; omega))
  obtain ⟨l', rfl, pl⟩ := perm_ties p4
  refine ⟨size, l', w4, ?_, by omega, by omega, hg.good.perm pl, ((a12.trans ha).trans a4).mono (by simp; omega)⟩
  subst hs'
  simp [m__law_any_web, b__law_any_web, e1, e2, hs, hsp, e, e4, sizeLine_eq, rOk_of (show -1000 ≤ size by omega) (by omega)]
end GM
namespace GM
open PySem PySem.Spec L2 DL
open PyProof.Rows hiding St
theorem Shp.mono {most c c' : Int} {w : Wd} {o : Rs} (h : Shp most c w o) (hc : c ≤ c') : Shp most c' w o := let ⟨a, b, d, e, f, g, i, k⟩ := h; ⟨a, b, d, e, f, g, i, k.mono hc⟩
end GM
namespace GM
open PySem PySem.Spec L2 DL
open PyProof.Rows hiding St
theorem isi_int (x : Int) (s : DS) : opIsi (.int x) (.ty "int") s = .ok (.fz (.bl true)) s := by rfl
theorem isi_bool (x : Int) (s : DS) : opIsi (.int x) (.ty "bool") s = .ok (.fz (.bl false)) s := by rfl
theorem isi_tup (xs : List D) (s : DS) : opIsi (.tup xs) (.ty "tuple") s = .ok (.fz (.bl true)) s := by rfl
theorem isi_seq (xs : List D) (s : DS) : opIsi (.lst xs) (.tup [.ty "list", .ty "tuple"]) s = .ok (.fz (.bl true)) s := by rfl
theorem vCh_eq {o o' : D → D → DS → Oc Sl} {f h k : DS → Oc Sl} {s : DS} : vCh o o' f h k s = (fr f s).bind fun x s1 => (fr h s1).bind fun y s2 => ((o x y s2).bind boolOf).bind fun b s3 => if b = true then (fr k s3).bind fun z s4 => o' y z s4 else .ok (.fz (.bl false)) s3 := rfl
theorem tCh3_eq {o1 o2 o3 : D → D → DS → Oc Sl} {f h k l : DS → Oc Sl} {s : DS} : tCh3 o1 o2 o3 f h k l s = (fr f s).bind fun x s1 => (fr h s1).bind fun y s2 => ((o1 x y s2).bind boolOf).bind fun b s3 => if b = true then (fr k s3).bind fun z s4 => ((o2 y z s4).bind boolOf).bind fun b2 s5 => if b2 = true then (fr l s5).bind fun u s6 => (o3 z u s6).bind boolOf else .ok false s5 else .ok false s3 := rfl
theorem whole_ok {w : Wd} {x lo hi : Int} (h0 : lo ≤ x) (h1 : x ≤ hi) : m_is_whole [.int x, .int lo, .int hi] w = .ok (.fz (.bl true)) w := by
  simp [m_is_whole, b_is_whole, isi_int, isi_bool, vCh_eq, h0, h1]
theorem all_lst {xs : List D} {bs : List Bool} {s : DS} (h : D.bools? xs = some bs) : allD (.lst xs) s = .ok (.fz (.bl (bs.all id))) s := by
  unfold allD
  simp [h]
theorem all4 (s : DS) : allD (.lst [.bl true, .bl true, .bl true, .bl true]) s = .ok (.fz (.bl true)) s := rfl
theorem all2 (s : DS) : allD (.lst [.bl true, .bl true]) s = .ok (.fz (.bl true)) s := rfl
theorem tie_ok {w : Wd} {n : Int} {t : T} (h : TieOk n t) (hn : n ≤ 12) : m_is_tie [tupI t, .int n] w = .ok (.fz (.bl true)) w := by
  obtain ⟨a, b, c, d, rfl, h1, h2, h3, c1, c2, d1, d2⟩ := h
  have wa := whole_ok (w := w) (x := a) (lo := -1000000000000000000000000000000) (hi := 1000000000000000000000000000000) (by omega) (by omega)
  have wb := whole_ok (w := w) (x := b) (lo := -1000000000000000000000000000000) (hi := 1000000000000000000000000000000) (by omega) (by omega)
  have wc := whole_ok (w := w) (x := c) (lo := -1000000000000000000000000000000) (hi := 1000000000000000000000000000000) (by omega) (by omega)
  have wd := whole_ok (w := w) (x := d) (lo := -1000000000000000000000000000000) (hi := 1000000000000000000000000000000) (by omega) (by omega)
  have e0 : atI [D.int a, .int b, .int c, .int d] 0 = some (.int a) := rfl
  have e1 : atI [D.int a, .int b, .int c, .int d] 1 = some (.int b) := rfl
  have ec : cut [D.int a, .int b, .int c, .int d] (some 2) none = [.int c, .int d] := by rw [cut_drop (by omega)]; rfl
  simp [m_is_tie, b_is_tie, tupI, isi_tup, vLc_eq, lcRun, DS.wipe, DS.back, wa, wb, wc, wd, sizeLine_eq, all4, eqv_int, fit_int, tCh3_eq, e0, e1, ec, h1, h2, h3, vCh_eq, c1, c2, d1, d2, all2]
theorem scRun_good {w : Wd} {n : Int} {a1 : D} : ∀ (l : List T) (acc : List (List Int)) (z : Sl), (∀ t ∈ l, ∃ a b c d, t = [a, b, c, d]) → (l.map pr).Nodup → (∀ t ∈ l, pr t ∉ acc) → acc.length + l.length < 75 →
    ∃ z', scRun [2] (gSet 2) tYesD (slice (pn 2) none (some (cn (.int 2)))) (l.map tupI) ⟨[.fz (.int n), .fz a1, z], w⟩ acc = .ok ((l.map pr).reverse ++ acc) ⟨[.fz (.int n), .fz a1, z'], w⟩
  | [], acc, z, _, _, _, _ => ⟨z, rfl⟩
  | t :: l, acc, z, h4, hn, hd, hl => by
    obtain ⟨a, b, c, d, rfl⟩ := h4 t (by simp)
    rw [List.map_cons, List.nodup_cons] at hn
    have hna := hd _ (List.mem_cons_self)
    obtain ⟨z', e⟩ := scRun_good (w := w) (n := n) (a1 := a1) l (pr [a, b, c, d] :: acc) (.fz (tupI [a, b, c, d])) (fun t m => h4 t (List.mem_cons_of_mem _ m)) hn.2 (fun t m q => by
      rcases List.mem_cons.mp q with q | q
      · exact hn.1 (by rw [← q]; exact List.mem_map_of_mem m)
      · exact hd t (List.mem_cons_of_mem _ m) q) (by simp at hl ⊢; omega)
    refine ⟨z', ?_⟩
    have ec : cut [D.int a, .int b, .int c, .int d] none (some 2) = [.int a, .int b] := by rw [cut_take (by omega)]; rfl
    have q1 : acc.length < 75 := by simp at hl; omega
    have hna' : [a, b] ∉ acc := hna
    have pe : pr [a, b, c, d] = [a, b] := rfl
    rw [pe] at e
    simp [tupI] at e
    simp [scRun, DS.wipe, tupI, ec, D.ints?, q1, hna', e, pe]
theorem need_web_ok {w : Wd} {n : Int} {l : List T} (h1 : 1 ≤ n) (h2 : n ≤ 12) (g : Good n l) (hl : l.length < 70) : ∃ r, m_need_web [.int n, .lst (l.map tupI)] w = .ok r w := by
  have wn := whole_ok (w := w) (x := n) (lo := 1) (hi := 12) h1 h2
  obtain ⟨xs, s', e, hx, z, hs⟩ := lcRun_inv (vs := [2]) (tg := gSet 2) (te := callD m_is_tie [] (aCons (rd 2) (aCons (rd 0) aNil))) (ds := l.map tupI)
    (fun k acc s => acc = List.replicate k (.bl true) ∧ ∃ z, s = ⟨[.fz (.int n), .fz (.lst (l.map tupI)), z], w⟩) (fun k d acc s hd ⟨ha, z, hs⟩ => by
      rw [List.getElem?_map] at hd
      cases ht : l[k]? with
      | none => rw [ht] at hd; cases hd
      | some t =>
        rw [ht] at hd
        cases hd
        have hk := (List.getElem?_eq_some_iff.mp ht).1
        have et := tie_ok (w := w) (g.ok t (List.mem_of_getElem? ht)) h2
        subst hs
        refine ⟨⟨[.fz (.int n), .fz (.lst (l.map tupI)), .fz (tupI t)], w⟩, ⟨[.fz (.int n), .fz (.lst (l.map tupI)), .fz (tupI t)], w⟩, .bl true, ?_, ?_, ?_, ?_, _, rfl⟩
        · simp [DS.wipe]
        · simp [et]
        · rw [ha, List.length_replicate, sizeLine_eq]; omega
        · rw [ha, List.replicate_succ']) (s0 := ⟨[.fz (.int n), .fz (.lst (l.map tupI)), .no], w⟩) ⟨rfl, _, rfl⟩
  obtain ⟨z', e2⟩ := scRun_good (w := w) (n := n) (a1 := .lst (l.map tupI)) l [] .no g.four g.nd (fun _ _ m => by simp at m) (by simp; omega)
  have hb : ∀ k, D.bools? (List.replicate k (.bl true)) = some (List.replicate k true) := fun k => by
    induction k with
    | zero => rfl
    | succ k ih => simp [List.replicate_succ, D.bools?, ih]
  have hall : ∀ (k : Nat) (s : DS), allD (.lst (List.replicate k (.bl true))) s = .ok (.fz (.bl true)) s := fun k s => by
    rw [all_lst (hb k)]
    have : (List.replicate k true).all id = true := by simp
    rw [this]
  have hw : s'.w = w := by rw [hs]
  refine ⟨.fz .non, ?_⟩
  subst hx
  have hbk : bk1 ⟨[.fz (.int n), .fz (.lst (l.map tupI)), .no], w⟩ 2 = .no := rfl
  subst hs
  simp at e2
  simp [m_need_web, b_need_web, wn, isi_seq, vLc_eq, e, hbk, hall, vLenSc, e2, DS.back, sizeLine_eq]
end GM
namespace GM
open PySem PySem.Spec L2 DL
open PyProof.Rows hiding St
theorem init_ok {w : Wd} {n : Int} {l : List T} (h1 : 1 ≤ n) (h2 : n ≤ 12) (g : Good n l) (hl : l.length < 70) : m_Web___init__ [.int n, .lst (l.map tupI)] w = .ok (.fz (webD n l)) w := by
  obtain ⟨r, e⟩ := need_web_ok (w := w) h1 h2 g hl
  have hall : l.all (okT n) = true := List.all_eq_true.mpr fun t ht => by
    obtain ⟨a, b, c, d, rfl, a1, a2, a3, c1, c2, d1, d2⟩ := g.ok t ht
    simp only [okT, decide_eq_true_eq]
    omega
  unfold m_Web___init__ initM
  dsimp only
  rw [D.quads_map]
  dsimp only
  rw [e]
  dsimp only
  rw [if_pos ⟨by omega, by omega, by omega, hall⟩]
def pD (p : Int × Int) : D := .tup [.int p.1, .int p.2]
structure NearOk (n : Int) (near : List (List D)) (nps : List (List (Int × Int))) : Prop where
  eq : near = nps.map fun ps => ps.map pD
  len : nps.length = n.toNat
  ok : ∀ ps ∈ nps, ∀ p ∈ ps, 0 ≤ p.1 ∧ p.1 < n ∧ 1 ≤ p.2 ∧ p.2 ≤ 9
def nstep (nps : List (List (Int × Int))) (t : T) : List (List (Int × Int)) := match t with
  | [a, b, c, d] =>
    let n1 := nps.set b.toNat (nps.getD b.toNat [] ++ [(a, c)])
    n1.set a.toNat (n1.getD a.toNat [] ++ [(b, d)])
  | _ => nps
theorem getD_map {nps : List (List (Int × Int))} {i : Nat} : (nps.map fun ps => ps.map pD).getD i [] = (nps.getD i []).map pD := by
  rw [List.getD_eq_getElem?_getD, List.getD_eq_getElem?_getD, List.getElem?_map]
  cases nps[i]? <;> rfl
theorem near_step {n : Int} {near : List (List D)} {nps : List (List (Int × Int))} {t : T} (h : NearOk n near nps) (ht : TieOk n t) : NearOk n (nearStep near t) (nstep nps t) := by
  obtain ⟨a, b, c, d, rfl, a1, a2, a3, c1, c2, d1, d2⟩ := ht
  have mem : ∀ {q : List (List (Int × Int))} {i : Nat} {p x : Int × Int}, (∀ ps ∈ q, ∀ p ∈ ps, 0 ≤ p.1 ∧ p.1 < n ∧ 1 ≤ p.2 ∧ p.2 ≤ 9) → p ∈ q.getD i [] ++ [x] → (0 ≤ x.1 ∧ x.1 < n ∧ 1 ≤ x.2 ∧ x.2 ≤ 9) → 0 ≤ p.1 ∧ p.1 < n ∧ 1 ≤ p.2 ∧ p.2 ≤ 9 := fun {q i p x} hq hp hx => by
    rcases List.mem_append.mp hp with m | m
    · rw [List.getD_eq_getElem?_getD] at m
      cases e : q[i]? with
      | none => rw [e] at m; simp at m
      | some ps => rw [e] at m; exact hq ps (List.mem_of_getElem? e) p m
    · simp at m; subst m; exact hx
  have ok1 : ∀ ps ∈ nps.set b.toNat (nps.getD b.toNat [] ++ [(a, c)]), ∀ p ∈ ps, 0 ≤ p.1 ∧ p.1 < n ∧ 1 ≤ p.2 ∧ p.2 ≤ 9 := fun ps hps p hp => by
    rcases List.mem_or_eq_of_mem_set hps with m | m
    · exact h.ok ps m p hp
    · rw [m] at hp
      exact mem h.ok hp ⟨a1, by show a < n; omega, c1, c2⟩
  refine ⟨?_, ?_, ?_⟩
  · rw [h.eq]
    show ((nps.map fun ps => ps.map pD).set b.toNat ((nps.map fun ps => ps.map pD).getD b.toNat [] ++ [pD (a, c)])).set a.toNat (((nps.map fun ps => ps.map pD).set b.toNat ((nps.map fun ps => ps.map pD).getD b.toNat [] ++ [pD (a, c)])).getD a.toNat [] ++ [pD (b, d)]) = _
    have e1 : (nps.map fun ps => ps.map pD).set b.toNat ((nps.map fun ps => ps.map pD).getD b.toNat [] ++ [pD (a, c)]) = (nps.set b.toNat (nps.getD b.toNat [] ++ [(a, c)])).map fun ps => ps.map pD := by
      rw [getD_map, List.map_set, List.map_append]; rfl
    rw [e1, getD_map]
    show _ = ((nps.set b.toNat (nps.getD b.toNat [] ++ [(a, c)])).set a.toNat ((nps.set b.toNat (nps.getD b.toNat [] ++ [(a, c)])).getD a.toNat [] ++ [(b, d)])).map fun ps => ps.map pD
    generalize nps.set b.toNat (nps.getD b.toNat [] ++ [(a, c)]) = N1
    rw [List.map_set, List.map_append]; rfl
  · show ((nps.set b.toNat _).set a.toNat _).length = _
    rw [List.length_set, List.length_set]; exact h.len
  · intro ps hps p hp
    rcases List.mem_or_eq_of_mem_set hps with m | m
    · exact ok1 ps m p hp
    · rw [m] at hp
      exact mem ok1 hp ⟨by show 0 ≤ b; omega, a3, d1, d2⟩
theorem near_all {n : Int} : ∀ (rows : List T) (near : List (List D)) (nps : List (List (Int × Int))), (∀ t ∈ rows, TieOk n t) → NearOk n near nps → NearOk n (rows.foldl nearStep near) (rows.foldl nstep nps)
  | [], _, _, _, h => h
  | t :: rows, near, nps, ht, h => near_all rows _ _ (fun u m => ht u (List.mem_cons_of_mem _ m)) (near_step h (ht t (by simp)))
theorem near_ok {n : Int} {l : List T} (g : Good n l) : ∃ nps, NearOk n (nearOf n.toNat (sortT l)) nps ∧ ∀ ps ∈ nps, ps.length ≤ 2 * l.length := by
  have h0 : NearOk n (List.replicate n.toNat []) (List.replicate n.toNat []) := ⟨by simp, by simp, fun ps m p hp => by rw [List.eq_of_mem_replicate m] at hp; simp at hp⟩
  have h := near_all (sortT l) _ _ (fun t m => g.ok t ((List.mergeSort_perm l leC).mem_iff.mp m)) h0
  refine ⟨_, h, fun ps m => ?_⟩
  have h2 := (nearOf_len n.toNat (sortT l)).2 (ps.map pD) (by
    show _ ∈ (sortT l).foldl nearStep (List.replicate n.toNat [])
    rw [h.eq]; exact List.mem_map_of_mem m)
  rw [List.length_map] at h2
  have : (sortT l).length = l.length := List.length_mergeSort l
  omega
end GM
namespace GM
open PySem PySem.Spec L2 DL
open PyProof.Rows hiding St
def webOf (n : Int) (rows : D) (nps : List (List (Int × Int))) : D := .obj "Web" webNs [.int n, rows, .any, .lst (nps.map fun ps => .lst (ps.map pD))]
theorem webD_of {n : Int} {l : List T} (g : Good n l) (h0 : 0 ≤ n) : ∃ nps rows, webD n l = webOf n rows nps ∧ nps.length = n.toNat ∧ (∀ ps ∈ nps, ps.length ≤ 2 * l.length ∧ ∀ p ∈ ps, 0 ≤ p.1 ∧ p.1 < n ∧ 1 ≤ p.2 ∧ p.2 ≤ 9) := by
  obtain ⟨nps, h, hl⟩ := near_ok g
  refine ⟨nps, .lst ((sortT l).map tupI), ?_, h.len, fun ps m => ⟨hl ps m, h.ok ps m⟩⟩
  unfold webD webOf
  rw [h.eq, List.map_map]
  rfl
theorem fld_near {a b c d : D} {s : DS} : fldD "Web" "rows_near" (.obj "Web" webNs [a, b, c, d]) s = .ok (.fz d) s := by rfl
theorem len_ok {n : Int} {rows : D} {nps : List (List (Int × Int))} {w : Wd} (hl : nps.length = n.toNat) (h0 : 0 ≤ n) : m_Web___len__ [webOf n rows nps] w = .ok (.fz (.int n)) w := by
  have e : ((nps.length : Nat) : Int) = n := by omega
  simp [m_Web___len__, b_Web___len__, webOf, fld_near, e]
theorem lenM_ok {n : Int} {rows : D} {nps : List (List (Int × Int))} {s : DS} (hl : nps.length = n.toNat) (h0 : 0 ≤ n) (h1 : n ≤ 100) : lenM "Web" m_Web___len__ (webOf n rows nps) s = .ok (.fz (.int n)) s := by
  have e := len_ok (rows := rows) (w := s.w) hl h0
  unfold webOf at e ⊢
  unfold lenM
  dsimp only
  rw [if_pos rfl, e]
  dsimp only
  rw [if_pos ⟨h0, rOk_of (by omega) (by omega)⟩]
def gain (now : List Int) (ps : List (Int × Int)) : List Int := ps.map fun p => p.2 * max 0 (now.getD p.1.toNat 0)
def nxt (nps : List (List (Int × Int))) (old now : List Int) : List Int := (List.range nps.length).map fun k => (gain now (nps.getD k [])).sum - old.getD k 0
theorem smallN {m : Nat} (h : m ≤ 1000) : m < 16777216 := Nat.lt_of_le_of_lt h (by decide)
end GM
namespace GM
open PySem PySem.Spec L2 DL
open PyProof.Rows hiding St
structure Runs (n : Int) (nps : List (List (Int × Int))) : Prop where
  lo : 0 ≤ n
  hi : n ≤ 12
  len : nps.length = n.toNat
  ok : ∀ ps ∈ nps, ps.length ≤ 200 ∧ ∀ p ∈ ps, 0 ≤ p.1 ∧ p.1 < n ∧ 1 ≤ p.2 ∧ p.2 ≤ 9
def Whole (xs : List Int) : Prop := ∀ x ∈ xs, -1000000000000000000000000000000 ≤ x ∧ x ≤ 1000000000000000000000000000000
end GM
namespace GM
open PySem PySem.Spec L2 DL
open PyProof.Rows hiding St
theorem inner_ok {w : Wd} {a0 a1 a2 : Sl} : ∀ (xs : List Int) (acc : List D) (z : Sl), Whole xs → acc.length + xs.length ≤ 1000 →
    ∃ z', lcRun [3] (gSet 3) tYesD (callD m_is_whole d_is_whole (aCons (rd 3) aNil)) (xs.map .int) ⟨[a0, a1, a2, z], w⟩ acc = .ok (acc ++ List.replicate xs.length (.bl true)) ⟨[a0, a1, a2, z'], w⟩
  | [], acc, z, _, _ => ⟨z, by simp [lcRun]⟩
  | x :: xs, acc, z, h, hl => by
    have hx := h x (by simp)
    have wx := whole_ok (w := w) hx.1 hx.2
    obtain ⟨z', e⟩ := inner_ok (w := w) (a0 := a0) (a1 := a1) (a2 := a2) xs (acc ++ [.bl true]) (.fz (.int x)) (fun y m => h y (List.mem_cons_of_mem _ m)) (by simp at hl ⊢; omega)
    have hl' : acc.length < 16777216 := smallN (by simp at hl; omega)
    refine ⟨z', ?_⟩
    rw [List.append_assoc] at e
    simp [lcRun, DS.wipe, wx, sizeLine_eq, hl', e, List.replicate_succ]
end GM
namespace GM
open PySem PySem.Spec L2 DL
open PyProof.Rows hiding St
abbrev St2 := List Int × List Int
end GM
namespace GM
open PySem PySem.Spec L2 DL
open PyProof.Rows hiding St
end GM
namespace GM
open PySem PySem.Spec L2 DL
open PyProof.Rows hiding St
def Bnd (B : Int) (xs : List Int) : Prop := ∀ x ∈ xs, -B ≤ x ∧ x ≤ B
theorem Bnd.getD {B : Int} {xs : List Int} {i : Nat} (h : Bnd B xs) (hB : 0 ≤ B) : -B ≤ xs.getD i 0 ∧ xs.getD i 0 ≤ B := by
  rw [List.getD_eq_getElem?_getD]
  cases e : xs[i]? with
  | none => show -B ≤ 0 ∧ 0 ≤ B; omega
  | some x => exact h x (List.mem_of_getElem? e)
theorem Bnd.mono {B C : Int} {xs : List Int} (h : Bnd B xs) (hl : B ≤ C) : Bnd C xs := fun x m => by have := h x m; omega
end GM
namespace GM
open PySem PySem.Spec L2 DL
open PyProof.Rows hiding St
def rv (s : St2) : St2 := (s.2, s.1)
end GM
namespace GM
open PySem PySem.Spec L2 DL
open PyProof.Rows hiding St
end GM
namespace GM
open PySem PySem.Spec L2 DL
open PyProof.Rows hiding St
end GM
namespace GM
open PySem PySem.Spec L2 DL
open PyProof.Rows hiding St
mutual
theorem pd_refl : ∀ d : D, PyData.eqv d.toPy d.toPy = true
  | .non => by simp [D.toPy, PyData.eqv]
  | .bl _ => by simp [D.toPy, PyData.eqv]
  | .int _ => by simp [D.toPy, PyData.eqv]
  | .str _ => by simp [D.toPy, PyData.eqv]
  | .lst xs => by simp only [D.toPy, PyData.eqv]; exact pd_reflL xs
  | .tup xs => by simp only [D.toPy, PyData.eqv]; exact pd_reflL xs
  | .fn _ => by simp [D.toPy, PyData.eqv]
  | .ty _ => by simp [D.toPy, PyData.eqv]
  | .obj _ _ _ => by simp [D.toPy, PyData.eqv]
  | .pen => by simp [D.toPy, PyData.eqv]
  | .any => by simp [D.toPy, PyData.eqv]
  | .dct _ => by simp [D.toPy, PyData.eqv]
  | .sd _ _ => by simp [D.toPy, PyData.eqv]
  | .tupX _ => by simp [D.toPy, PyData.eqv]
  | .dn _ => by simp [D.toPy, PyData.eqv]
theorem pd_reflL : ∀ xs : List D, PyData.eqvAll (D.toPyL xs) (D.toPyL xs) = true
  | [] => by simp [D.toPyL, PyData.eqvAll]
  | x :: xs => by simp only [D.toPyL, PyData.eqvAll, Bool.and_eq_true]; exact ⟨pd_refl x, pd_reflL xs⟩
end
theorem eqv_refl (d : D) : D.eqv d d = true := pd_refl d
theorem py_all : ∀ {xs : List D} {n : Nat}, (∀ x ∈ xs, x.isPy = true ∧ x.toPy.depth ≤ n) → D.isPyL xs = true ∧ PyData.depthAll (D.toPyL xs) ≤ n
  | [], _, _ => by simp [D.isPyL, D.toPyL, PyData.depthAll]
  | x :: xs, n, h => by
    obtain ⟨a, b⟩ := py_all fun y m => h y (List.mem_cons_of_mem x m)
    obtain ⟨c, d⟩ := h x (by simp)
    simp only [D.isPyL, D.toPyL, PyData.depthAll, Bool.and_eq_true]
    exact ⟨⟨c, a⟩, by omega⟩
theorem py_lst {xs : List D} {n : Nat} (h : ∀ x ∈ xs, x.isPy = true ∧ x.toPy.depth ≤ n) : (D.lst xs).isPy = true ∧ (D.lst xs).toPy.depth ≤ n + 1 := by
  obtain ⟨a, b⟩ := py_all h
  simp only [D.isPy, D.toPy, PyData.depth]
  exact ⟨a, by omega⟩
theorem py_tup {xs : List D} {n : Nat} (h : ∀ x ∈ xs, x.isPy = true ∧ x.toPy.depth ≤ n) : (D.tup xs).isPy = true ∧ (D.tup xs).toPy.depth ≤ n + 1 := by
  obtain ⟨a, b⟩ := py_all h
  simp only [D.isPy, D.toPy, PyData.depth]
  exact ⟨a, by omega⟩
theorem py_int (i : Int) : (D.int i).isPy = true ∧ (D.int i).toPy.depth ≤ 0 := by simp [D.isPy, D.toPy, PyData.depth]
theorem fit_by {d : D} {n : Nat} (h : d.isPy = true ∧ d.toPy.depth ≤ n) (hn : n ≤ 64) : D.fit d = true := by
  unfold D.fit
  rw [h.1, decide_eq_true (Nat.le_trans h.2 hn)]
  rfl
def Sm (x : Int) : Prop := x.natAbs < 2 ^ 4000
theorem Sm.of {x : Int} (h : x.natAbs < 2 ^ 200) : Sm x := Nat.lt_of_lt_of_le h (Nat.pow_le_pow_right (by decide) (by decide))
end GM
namespace GM
open PySem PySem.Spec L2 DL
open PyProof.Rows hiding St
end GM
namespace DL
open PySem PySem.Spec L2
open PyProof.Rows hiding St
def pinX (l : Lb) (own : Ow) (H Fx : Hp) : Hp := fun a => if own a = some l then H a else Fx a
def reO (l : Lb) (own own' : Ow) : Ow := fun a => if own a = some l then some l else own' a
section
variable {C : Cf} {E : XK} {g : Gp} {F0 Fx F F' H H' : Hp} {own own' : Ow} {σ σ' : L2.St} {s s' : DS} {l : Lb} {α β : Type}
theorem RelS.keepL (R : RelS C g F0 Fx F H own σ s) (R' : RelS C g F (pinX l own H Fx) F' H' own' σ' s') {a : Addr} (h : own a = some l) : (∀ o, H a = some o → H' a = some o) ∧ F' a = none ∧ Fx a = none ∧ own' a = none ∧ H' a ≠ none := by
  obtain ⟨h1, h2, h3, h4⟩ := R.ow a l h
  have hx : pinX l own H Fx a = H a := by unfold pinX; rw [if_pos h]
  cases e : H a with
  | none => exact absurd e h4
  | some o =>
    have hH : H' a = some o := R'.fx a o (by rw [hx]; exact e)
    refine ⟨fun o' q => by rw [← q]; exact hH, R'.nw a h1 (by rw [hx]; exact h4), h2, ?_, by rw [hH]; exact fun z => nomatch z⟩
    cases q : own' a with
    | none => rfl
    | some k => exact absurd (hx ▸ (R'.ow a k q).2.1) h4
theorem RelS.unpinL (R : RelS C g F0 Fx F H own σ s) (R' : RelS C g F (pinX l own H Fx) F' H' own' σ' s') : RelS C g F0 Fx F' H' (reO l own own') σ' s' := by
  have kp := fun {a} (h : own a = some l) => R.keepL R' h
  have px : ∀ a, own a ≠ some l → pinX l own H Fx a = Fx a := fun a n => by unfold pinX; rw [if_neg n]
  refine { le := R'.le, ge := fun a o q => R'.ge a o (R.ge a o q), nw := fun a n x => R'.nw a (R.nw a n x) ?_, fx := fun a o q => ?_, ow := fun a k q => ?_, pen := R'.pen, penF := R'.penF, penX := R.penX, cells := R'.cells, tab := ?_, len := R'.len, at_ := fun i r ov h1 h2 => ?_ }
  · by_cases e : own a = some l
    · unfold pinX; rw [if_pos e]; exact (R.ow a l e).2.2.2
    · rw [px a e]; exact x
  · by_cases e : own a = some l
    · rw [(R.ow a l e).2.1] at q; cases q
    · exact R'.fx a o (by rw [px a e]; exact q)
  · unfold reO at q
    by_cases e : own a = some l
    · obtain ⟨_, k2, k3, _, k5⟩ := kp e
      exact ⟨k2, k3, (R.ow a l e).2.2.1, k5⟩
    · rw [if_neg e] at q
      have h := R'.ow a k q
      rw [px a e] at h
      exact h
  · refine R'.tab.to (fun a ps q1 q2 q3 q4 => ?_) (fun _ _ q => q)
    have e : own a ≠ some l := fun z => by unfold pinX at q3; rw [if_pos z] at q3; exact (R.ow a l z).2.2.2 q3
    rw [px a e] at q3
    exact ⟨q1, q2, q3, by show reO l own own' a = none; unfold reO; rw [if_neg e]; exact q4⟩
  · refine (R'.at_ i r ov h1 h2).mono (fun _ _ q => q) (fun _ _ _ q => q) (fun a q => ?_)
    show reO l own own' a = _
    unfold reO
    rw [if_neg (fun z => by rw [(kp z).2.2.2.1] at q; cases q)]
    exact q
theorem Post.pinned {R : β → Hp → Hp → Ow → DS → Prop} {R' : α → Hp → Hp → Ow → DS → Prop} {o : Oc α} {k : α → DS → Oc β} (R1 : RelS C g F0 Fx F H own σ s) (p : Post C E g F0 Fx σ R (o.bind k))
    (hk : ∀ a F2 H2 own2 s2, RelS C g F (pinX l own H Fx) F2 H2 own2 σ s2 → Post C E g F0 Fx σ R (k a s2) → R' a F2 H2 own2 s2) : Post C E g F (pinX l own H Fx) σ R' o := by
  cases o with
  | ok a s2 => exact fun F2 H2 own2 R2 => hk a F2 H2 own2 s2 R2 p
  | ex x s2 => exact fun F2 H2 own2 R2 => p _ _ _ (R1.unpinL R2)
  | wr => exact p
theorem PostS.pinned {Dn : Ends} {R' : α → Hp → Hp → Ow → DS → Prop} {o : Oc α} {k : α → DS → Oc Fl} (R1 : RelS C g F0 Fx F H own σ s) (p : PostS C E g F0 Fx Dn (o.bind k))
    (hk : ∀ a F2 H2 own2 s2, RelS C g F (pinX l own H Fx) F2 H2 own2 σ s2 → PostS C E g F0 Fx Dn (k a s2) → R' a F2 H2 own2 s2) : Post C E g F (pinX l own H Fx) σ R' o := by
  cases o with
  | ok a s2 => exact fun F2 H2 own2 R2 => hk a F2 H2 own2 s2 R2 p
  | ex x s2 => exact fun F2 H2 own2 R2 => p _ _ _ _ (R1.unpinL R2)
  | wr => exact p
end
section
variable {C : Cf} {E : XK} {g : Gp} {F0 Fx F F' H H' : Hp} {own own' : Ow} {σ σ' : L2.St} {s s' : DS} {O O' : Addr → Prop}
theorem NsR.length : ∀ {qs xss}, NsR C g F H O qs xss → qs.length = xss.length
  | _, _, .nil => rfl
  | _, _, .cons _ _ _ n => by rw [List.length_cons, List.length_cons, n.length]
theorem NsR.to : ∀ {qs xss}, NsR C g F H O qs xss → (∀ a ∈ qs, O a → O' a ∧ ∀ o, H a = some o → H' a = some o) → LeH F F' → NsR C g F' H' O' qs xss
  | _, _, .nil, _, _ => .nil
  | _, _, .cons o h r n, k, e => .cons (k _ List.mem_cons_self o).1 ((k _ List.mem_cons_self o).2 _ h) (r.mono e) (n.to (fun a m => k a (List.mem_cons_of_mem _ m)) e)
theorem NsR.get : ∀ {qs xss} {m : Nat} {xs : List D}, NsR C g F H O qs xss → xss[m]? = some xs → ∃ q vs, qs[m]? = some q ∧ O q ∧ H q = some (.lst vs) ∧ RpL C g F vs xs
  | _, _, _, _, .nil, e => by simp at e
  | _, _, 0, _, .cons o h r _, e => by simp at e; subst e; exact ⟨_, _, rfl, o, h, r⟩
  | _, _, m + 1, _, .cons _ _ _ n, e => by
    obtain ⟨q, vs, h1, h2⟩ := n.get (m := m) (by simpa using e)
    exact ⟨q, vs, by simpa using h1, h2⟩
theorem NsR.set : ∀ {qs xss} {m : Nat} {q : Addr} {us : List V} {ys : List D}, NsR C g F H O qs xss → qs.Nodup → qs[m]? = some q → RpL C g F us ys → NsR C g F (upd H q (.lst us)) O qs (xss.set m ys)
  | _, _, _, _, _, _, .nil, _, e, _ => by simp at e
  | _, _, 0, _, _, _, .cons o h r n, nd, e, ru => by
    simp at e; subst e
    refine .cons o upd_same ru (n.to (fun a ma oa => ⟨oa, fun o' h' => ?_⟩) fun _ _ q => q)
    rw [upd_ne (fun z => (List.nodup_cons.mp nd).1 (by rw [← z]; exact ma))]; exact h'
  | _, _, m + 1, _, _, _, .cons o h r n, nd, e, ru => by
    rw [List.getElem?_cons_succ] at e
    refine .cons o ?_ r (n.set (List.nodup_cons.mp nd).2 e ru)
    rw [upd_ne (fun z => (List.nodup_cons.mp nd).1 (by rw [z]; exact List.mem_of_getElem? e))]; exact h
end
def seqD (b : Bool) (xs : List D) : D := if b = true then .tup xs else .lst xs
def nst2 (b : Bool) (f h : DS → Oc Sl) : DS → Oc Sl := fun s => (f s).bind fun r s1 => (h s1).bind fun r2 s2 => match r, r2 with
  | .ow xs, .ow ys => .ok (.nst b [xs, ys]) s2
  | _, _ => .wr
def callR (φ : D → DS → Oc Sl) (f : DS → Oc D) : DS → Oc Sl := fun s => (f s).bind φ
section
variable {X : Cx} {E : XK} {a b c e k : Expr} {f h f1 : DS → Oc Sl} {fd : DS → Oc D} {pos p px ap : Pos} {x : Str} {st : Stmt} {id T : String} {φ : D → DS → Oc Sl} {ρ : List V → Hp → VK → Prop}
end
end DL
namespace DL
open PySem PySem.Spec L2
open PyProof.Rows hiding St
section
variable {C : Cf} {E : XK} {g : Gp} {F0 Fx F H : Hp} {own : Ow} {σ : L2.St} {s : DS}
end
def sParO (i j : Nat) (f h : DS → Oc Sl) : DS → Oc Fl := fun s => (f s).bind fun r s1 => (h s1).bind fun r2 s2 => .ok .nx ((s2.put i r).put j r2)
section
variable {X : Cx} {E : XK} {a b c d e k tg : Expr} {f h f1 : DS → Oc Sl} {pos p p' p2 px ap : Pos} {x m : Str} {st : Stmt}
def gUnL (n : Nat) (φ : List D → DS → Oc Unit) : D → DS → Oc Unit
  | .lst ds, s => if ds.length = n then φ ds s else .wr
  | _, _ => .wr
end
theorem NsR.dp {C : Cf} {g : Gp} {F H : Hp} {O : Addr → Prop} (le : LeH F H) : ∀ {qs : List Addr} {xss : List (List D)}, NsR C g F H O qs xss → D.isPyL (xss.map D.lst) = true → DpAll C.K H (qs.map V.ref) (D.toPyL (xss.map D.lst))
  | _, _, .nil, _ => by simp only [List.map_nil, D.toPyL]; exact .nil
  | _, _, .cons o h r n, q => by
    simp only [List.map_cons, D.isPyL, Bool.and_eq_true] at q
    simp only [List.map_cons, D.toPyL]
    refine .cons ?_ (n.dp le q.2)
    simp only [D.toPy]
    exact .lst (.inl (.inl h)) (r.dp le (by simpa only [D.isPy] using q.1))
section
variable {X : Cx} {E : XK} {pos p px : Pos} {x : Str}
end
end DL
namespace DL
open PySem PySem.Spec L2
open PyProof.Rows hiding St
section
variable {X : Cx} {E : XK} {e a b c : Expr} {fd : DS → Oc D} {f : DS → Oc Pl} {pos p : Pos} {d : Nat} {B : Int}
end
end DL
namespace DL
open PySem PySem.Spec L2
open PyProof.Rows hiding St
def bv (t : DS → Oc Bool) : DS → Oc Sl := fun s => (t s).bind fun b s1 => .ok (.fz (.bl b)) s1
section
variable {C : Cf} {E : XK} {X : Cx} {a b c d e : Expr} {f h k l : DS → Oc Sl} {pos : Pos} {r1 r2 r3 : R2} {p1 p2 p3 : D → D → DS → Oc Sl}
end
end DL
namespace DL
open PySem PySem.Spec L2
open PyProof.Rows hiding St
open AutoSeq1 (wpAny_loadPart')
section
variable {prog : Program} {w : World} {A : Around} {E : Value → Shared → Prop} {s : Shared}
end
def itEnA (f : DS → Oc Sl) : DS → Oc (List D) := fun s => (fr f s).bind fun d s1 => match d with
  | .lst xs => .ok (enumD 0 xs) s1
  | .tup xs => .ok (enumD 0 xs) s1
  | .tupX xs => .ok (enumD 0 xs) s1
  | _ => .wr
end DL
namespace DL
open PySem PySem.Spec L2
open PyProof.Rows hiding St
section
variable {X : Cx} {E : XK} {elt tg : Expr} {ifs : List Expr} {scope : Scope} {own : List (Str × Nat)} {pos px : Pos} {x : Str} {tgD : D → DS → Oc Unit} {tt : DS → Oc Bool} {te : DS → Oc Sl}
end
end DL
namespace DL
open PySem PySem.Spec L2
open PyProof.Rows hiding St
def vSd1 (x : Str) (f : DS → Oc Sl) : DS → Oc Sl := fun s => (fr f s).bind fun d s1 => .ok (.fz (.sd [x] [d])) s1
section
variable {X : Cx} {E : XK} {a b e : Expr} {f h : DS → Oc Sl} {pos kp : Pos}
theorem eo_sd0 : EO X E (.Dict [] [] pos) (cn (.sd [] [])) := pe_dnewK.mono fun σ H Q ⟨g, Fx, F, own, s, R, p⟩ => fun q hq =>
  p _ _ _ (R.new hq) _ ⟨_, rfl, .sd (ks := []) (vs := []) upd_same rfl .nil⟩
theorem eo_sd1 {x : Str} {j : Nat} (he : EO X E e f) : EO X E (.Dict [some (.Constant (.str x) j kp)] [e] pos) (vSd1 x f) :=
  (pe_disp (pps_cons pe_str he.fr pps_nil) rfl rfl (by simp) (by simp)).mono fun σ H Q ⟨g, Fx, F, own, s, R, p⟩ => by
    intro q hq
    have nF := R.toRel.Fnone hq
    have nX : Fx q = none := by
      cases z : Fx q with
      | none => rfl
      | some u => rw [R.fx _ _ z] at hq; cases hq
    have R1 := R.refl.pin (o := .dK []) hq
    refine ⟨g, _, F, own, s, R1, ?_⟩
    have key : ∀ d F2 H2 own2 s2, RelS ⟨X.K, X.mg⟩ g F (upd Fx q (.dK [])) F2 H2 own2 σ s2 → Post ⟨X.K, X.mg⟩ E g F Fx σ (RO ⟨X.K, X.mg⟩ g Q) (.ok (.fz (.sd [x] [d])) s2) → ∀ v, Rp ⟨X.K, X.mg⟩ g F2 v d →
        H2 q = some (.dK []) ∧ ∃ kvs : List (Key × V), [(V.str x, v)] = kvs.map (fun kv => (kV kv.1, kv.2)) ∧ kvs.length ≤ 15 ∧ Q (.ref q) (upd H2 q (.dK (mergeK [] kvs))) := fun d F2 H2 own2 s2 R2 p2 v hv => by
      have nF2 : F2 q = none := R2.nw q nF (by rw [upd_same]; exact fun z => nomatch z)
      refine ⟨R2.fx _ _ upd_same, [(.inr x, v)], rfl, by simp, ?_⟩
      have em : mergeK [] [((.inr x : Key), v)] = [(.inr x, v)] := rfl
      rw [em]
      have R3 := (R2.bump (o' := .dK [(.inr x, v)]) nF2).unpin1 nF nX
      have R4 := R3.frz (l := .v) upd_same (by unfold own1; rw [if_pos rfl]) (fun i ei => nomatch ei)
      refine p2 _ _ _ R4 _ ⟨_, rfl, .sd (ks := [x]) (vs := [v]) upd_same rfl (.cons (hv.mono (upd_le nF2)) .nil)⟩
    unfold vSd1 at p
    cases e1 : fr f s with
    | ok d s2 =>
      rw [e1] at p
      exact fun F2 H2 own2 R2 v hv => key d F2 H2 own2 s2 R2 p v hv
    | ex y s2 =>
      rw [e1] at p
      intro F2 H2 own2 R2
      exact p F2 H2 _ (R2.unpin1 nF nX)
    | wr => rw [e1] at p; exact p
def rNeN (K : PySem.W.Frag) : R2 := fun x y H Q => ∃ a b xs, x = .ref a ∧ y = .ref b ∧ SqL K H a xs ∧ SqL K H b [] ∧ Q (.bl (!xs.isEmpty)) H
theorem op_neN (hu : X.A.units + 64 < cLine) : OpR X (compareOp .NotEq) (rNeN X.K) := by
  intro pins s σ H x y v u Q I rx ry h
  obtain ⟨a, b, xs, rfl, rfl, ha, hb, q⟩ := h
  cases rx
  cases ry
  obtain ⟨its, r1, p1, _⟩ := I.list ha
  obtain ⟨its2, r2, p2, _⟩ := I.list hb
  cases r2
  have l1 := r1.length
  cases xs with
  | nil =>
    cases r1
    exact SeqAt.RcNeAt.lists (e := fun _ => true) p1.isList p2.isList rfl (by omega) (fun j h1 => absurd h1 (Nat.not_lt_zero _)) _ _ _ _ ⟨.bl false, H, I, rfl, q⟩
  | cons z zs =>
    have hne : (its.toArray.size != (#[] : Array Value).size) = true := by
      rw [List.length_cons] at l1
      simp
      exact fun e => by rw [e] at l1; simp at l1
    exact SeqAt.RcNeAt.lists_lengths p1.isList p2.isList hne (by omega) _ _ _ _ ⟨.bl true, H, I, rfl, q⟩
def opNeN : D → D → DS → Oc Sl
  | .lst xs, .lst [], s => .ok (.fz (.bl (!xs.isEmpty))) s
  | _, _, _ => .wr
theorem opD_neN {C : Cf} : OpD C E (rNeN C.K) opNeN := by
  intro g F0 Fx F H own σ s x y d e Q R hx hy p
  unfold opNeN at p
  split at p
  · cases hx with | lst h1 r1 => cases hy with | lst h2 r2 =>
    cases r2
    refine ⟨_, _, _, rfl, rfl, .inl (.inl (R.le _ _ h1)), .inl (.inl (R.le _ _ h2)), ?_⟩
    have e : ∀ {vs : List V} {ds : List D}, RpL C g F vs ds → vs.isEmpty = ds.isEmpty := fun r => by cases r <;> rfl
    rw [e r1]
    exact p.ok R _ ⟨_, rfl, .bl _⟩
  · exact p.elim
theorem et_neN (hu : X.A.units + 64 < cLine) (ha : EO X E a f) (hb : EO X E b h) : ET X E (.Compare a [.NotEq] [b] pos) (asB (bin opNeN f h)) := et_cmp (op_neN hu) opD_neN ha hb (nomark _)
end
end DL
namespace DL
open PySem PySem.Spec L2
open PyProof.Rows hiding St
structure PAr (X : Cx) (es : List Expr) (cs : List Addr) : Prop where
  pa : PA X es fun _ H Q => Q (cs.map V.ref) H
theorem par_nil {X : Cx} : PAr X [] [] := ⟨pa_nil⟩
theorem par_cons {X : Cx} {x : Str} {a : Addr} {es : List Expr} {cs : List Addr} {p : Pos} (hm : X.mg x = some (.ref a)) (r : PAr X es cs) (hg : Gl X x := by rfl) (hd : (x == ("__debug__" : Str)) = false := by decide) (hs : starEach (.Name x p :: es) X.env = (false, eval (.Name x p) X.env) :: starEach es X.env := by rfl) : PAr X (.Name x p :: es) (a :: cs) :=
  ⟨pa_cons (pe_glob (v := .ref a) hg hm rfl hd) r.pa hs⟩
theorem fn_wr {P : Program} {w : World} {K : PySem.W.Frag} {mg : Str → Option Value} {base : Heap} {CX : CXT} {k : Nat} {f : Addr} {fd : FuncData} {ps : List Str} {C : Cf} {n : Nat} : FnOk P w K mg base CX k f fd ps (spD C n fun _ _ => .wr) :=
  ⟨fun vs H Q E h => by obtain ⟨_, _, _, _, _, _, _, _, p⟩ := h; exact p.elim, fun A outer s H args us vs Q E _ _ _ _ h => by obtain ⟨_, _, _, _, _, _, _, _, p⟩ := h; exact p.elim⟩
theorem passLm {X : Cx} {A : Around} {outer : List Env} {s : Shared} {H : Hp} {E : XK} {scope : Scope} {f c : Addr} : Passes (L2.CX (LamX.lamCx X A outer s H E scope f c).prog (LamX.lamCx X A outer s H E scope f c).w) (LamX.lamCx X A outer s H E scope f c) E := passes_call (X := LamX.lamCx X A outer s H E scope f c) (takes_of rfl rfl rfl rfl) fun _ _ _ _ h => h
theorem law_code {K : PySem.W.Frag} {h : Heap} {c P0 : Addr} {x qual : Str} {params : Arguments} {body : List Stmt} {scope : Scope} {dvs : List V} {kws : List (Str × V)} {fd : FuncData} (F : FunD K x qual params body scope dvs kws (He.ga K "law") fd) (t : HasTab K h c P0) : fd.code = .ref c := by
  obtain ⟨oc, od, dV, kV, doc, pm, an, cdv, ct, osl, rfl, lk, hcd, hD, hK⟩ := F.ex
  obtain ⟨oc2, od2, fd2, sl2, lk2, e⟩ := t.law
  rw [lk] at lk2
  cases lk2
  exact e
theorem mem_at {α : Type} {l : List α} {i : Nat} {x : α} (h : l[i]? = some x) : x ∈ l := List.mem_of_getElem? h
end DL
namespace GM
open PySem PySem.Spec L2 DL
open PyProof.Rows hiding St
def b__law_anything (m : MF) : DS → Oc Fl := (sSeq (sSet 2 (vLc [3] (itRng1 (vIf (asB (bin (opIcmp fun i j => decide (j < i)) (rd 1) (cn (.int 0)))) (callD m__law_draw [] (aCons (rd 0) (aCons (cn (.int 4)) aNil))) (cn (.int 0)))) (gSet 3) tYesD (callD m [] (aCons (rd 0) (aCons (bin opSub (rd 1) (cn (.int 1))) aNil)))))
    (sSeq (sSet 4 (vLst (aCons (cn .non) (aCons (cn (.bl true)) (aCons (cn (.bl false)) (aCons (cn (.int 0)) (aCons (cn (.int 1)) (aCons (una opNeg (cn (.int 1))) (aCons (cn (.int 2)) (aCons (cn (.int 12)) (aCons (cn (.int 13)) (aCons (bin opPow (cn (.int 10)) (cn (.int 30))) (aCons (bin opAdd (bin opPow (cn (.int 10)) (cn (.int 30))) (cn (.int 1))) (aCons (bin opSub (una opNeg (bin opPow (cn (.int 10)) (cn (.int 30)))) (cn (.int 1))) (aCons (cn (.str "")) (aCons (cn (.str "a")) (aCons (cn (.str "all")) (aCons (cn (.str "none")) aNil))))))))))))))))))
    (sSeq (sExpr (meth1 4 (appD 4) (una opNeg (bin opPow (cn (.int 10)) (cn (.int 30))))))
    (sSeq (sSet 4 (bin opAdd (rd 4) (vLst (aCons (cn (.str "0")) (aCons (vLst aNil) (aCons (cn (.sd [] [])) (aCons (vTup aNil) (aCons (call1 tupD (pn 2)) (aCons (call1 tupD (pn 2)) (aCons (call1 listD (pn 2)) (aCons (vSd1 "a" (call1 tupD (pn 2))) aNil)))))))))))
    (sRet (item ixD (pn 4) (callD m__law_draw [] (aCons (rd 0) (aCons (call1 lenD (pn 4)) aNil)))))))))
def mr__law_anything : Nat → MF
  | 0 => fun _ _ => .wr
  | j + 1 => runD 2 5 (b__law_anything (mr__law_anything j))
theorem mr__law_anything_n : ∀ j ds w, ds.length ≠ 2 → mr__law_anything j ds w = .wr
  | 0, _, _, _ => rfl
  | j + 1, ds, w, h => runD_n ds w h
def m__law_anything : MF := mr__law_anything 4
theorem m__law_anything_n : ∀ ds w, ds.length ≠ 2 → m__law_anything ds w = .wr := mr__law_anything_n 4
def b__law_bent (m : MF) : DS → Oc Fl := (sSeq (sIf (tAn (tru (call2 opIsi (rd 1) (vTup (aCons (cn (.ty "list")) (aCons (cn (.ty "tuple")) aNil))))) (tAn (asB (bin (opIcmp fun i j => decide (j < i)) (call1 lenD (pn 1)) (cn (.int 0)))) (asB (bin (opIcmp fun i j => decide (j < i)) (callD m__law_draw [] (aCons (rd 0) (aCons (cn (.int 6)) aNil))) (cn (.int 0)))))) (sSeq (sSet 2 (callD m__law_draw [] (aCons (rd 0) (aCons (call1 lenD (pn 1)) aNil))))
    (sSeq (sSet 3 (vIf (tru (call2 opIsi (rd 1) (cn (.ty "list")))) (vLst (aCons (callD m [] (aCons (rd 0) (aCons (item ixD (pn 1) (rd 2)) aNil))) aNil)) (vTup (aCons (callD m [] (aCons (rd 0) (aCons (item ixD (pn 1) (rd 2)) aNil))) aNil))))
    (sRet (bin opAdd (bin opAdd (slice (pn 1) none (some (rd 2))) (rd 3)) (slice (pn 1) (some (bin opAdd (rd 2) (cn (.int 1)))) none))))) sNil)
    (sSeq (sSet 4 (callD m__law_draw [] (aCons (rd 0) (aCons (cn (.int 8)) aNil))))
    (sSeq (sIf (asB (bin (opEq false) (rd 4) (cn (.int 0)))) (sRet (callD m__law_anything [] (aCons (rd 0) (aCons (cn (.int 1)) aNil)))) sNil)
    (sSeq (sIf (tru (call2 opIsi (rd 1) (cn (.ty "int")))) (sRet (item ixD (pval (vLst (aCons (bin opAdd (rd 1) (cn (.int 1))) (aCons (bin opSub (rd 1) (cn (.int 1))) (aCons (bin opSub (cn (.int 0)) (rd 1)) (aCons (cn (.int 0)) (aCons (cn (.int 1)) (aCons (bin opAdd (bin opPow (cn (.int 10)) (cn (.int 30))) (cn (.int 1))) (aCons (bin opMulT (cn (.int 2)) (rd 1)) aNil))))))))) (bin opSub (rd 4) (cn (.int 1))))) sNil)
    (sSeq (sIf (tru (call2 opIsi (rd 1) (vTup (aCons (cn (.ty "list")) (aCons (cn (.ty "tuple")) aNil))))) (sRet (item ixD (pval (vLst (aCons (slice (pn 1) (some (cn (.int 1))) none) (aCons (slice (pn 1) none (some (una opNeg (cn (.int 1))))) (aCons (bin opAdd (rd 1) (slice (pn 1) (some (una opNeg (cn (.int 1)))) none)) (aCons (una revD (rd 1)) (aCons (call1 listD (pn 1)) (aCons (call1 tupD (pn 1)) (aCons (bin opMulT (rd 1) (cn (.int 2))) aNil))))))))) (bin opSub (rd 4) (cn (.int 1))))) sNil)
    (sRet (item ixD (pval (vLst (aCons (cn .non) (aCons (cn (.str "all")) (aCons (cn (.str "waves")) (aCons (cn (.str "none")) (aCons (cn (.str "step")) (aCons (cn (.int 1)) (aCons (vTup aNil) aNil))))))))) (bin opSub (rd 4) (cn (.int 1))))))))))
def mr__law_bent : Nat → MF
  | 0 => fun _ _ => .wr
  | j + 1 => runD 2 5 (b__law_bent (mr__law_bent j))
theorem mr__law_bent_n : ∀ j ds w, ds.length ≠ 2 → mr__law_bent j ds w = .wr
  | 0, _, _, _ => rfl
  | j + 1, ds, w, h => runD_n ds w h
def m__law_bent : MF := mr__law_bent 5
theorem m__law_bent_n : ∀ ds w, ds.length ≠ 2 → m__law_bent ds w = .wr := mr__law_bent_n 5
def b__law_whole : DS → Oc Fl := (sRet (vAn (call2 opIsi (rd 0) (cn (.ty "int"))) (vAn (vNo (call2 opIsi (rd 0) (cn (.ty "bool")))) (vCh (opIcmp fun i j => decide (i ≤ j)) (opIcmp fun i j => decide (i ≤ j)) (rd 1) (rd 0) (rd 2)))))
def m__law_whole : MF := runD 3 3 b__law_whole
theorem m__law_whole_n : ∀ ds w, ds.length ≠ 3 → m__law_whole ds w = .wr := runD_n
end GM
namespace GX
open PySem PySem.Spec L2 DL GM
open PyProof.Rows hiding St
def b_need_web : DS → Oc Fl := (sSeq (sIf (tNo (tru (callKD m_is_whole (aCons (rd 0) aNil) (aCons (cn (.int 1)) (aCons (cn (.int 12)) aNil))))) (sRaise1 "NoWeb" "part" (cn (.str "size"))) sNil)
    (sSeq (sIf (tOu (tNo (tru (call2 opIsi (rd 1) (vTup (aCons (cn (.ty "list")) (aCons (cn (.ty "tuple")) aNil)))))) (tNo (tru (call1 allD (pval (vLc [2] (itSeq (rd 1)) (gSet 2) tYesD (callD m_is_tie [] (aCons (rd 2) (aCons (rd 0) aNil))))))))) (sRaise1 "NoWeb" "part" (cn (.str "ties"))) sNil)
    (sIf (asB (bin (opIcmp fun i j => decide (i < j)) (vLenSc [2] (itSeq (rd 1)) (gSet 2) tYesD (slice (pn 2) none (some (cn (.int 2))))) (call1 lenD (pn 1)))) (sRaise1 "NoWeb" "part" (cn (.str "ties"))) sNil)))
def m_need_web : MF := runD 2 3 b_need_web
def m_Web___init__ : MF := initM m_need_web
theorem m_Web___init___n : ∀ ds w, ds.length ≠ 2 → m_Web___init__ ds w = .wr := initM_n
theorem m_Web___init___o : ∀ ds w r w', m_Web___init__ ds w = .ok r w' → ∃ d, r = .fz d := initM_o
def b_need_standing : DS → Oc Fl := (sSeq (sIf (tOu (tNo (tru (callD m_is_row_of [] (aCons (rd 1) (aCons (cn (.int 2)) aNil))))) (tNo (tru (call1 allD (pval (vLc [2] (itSeq (rd 1)) (gSet 2) tYesD (callD m_is_row_of [] (aCons (rd 2) (aCons (una (lenM "Web" m_Web___len__) (rd 0)) aNil))))))))) (sRaise1 "NoStanding" "part" (cn (.str "standing"))) sNil)
    (sIf (tNo (tru (call1 allD (pval (vLc2 [2, 3] [3] (itSeq (rd 1)) (gSet 2) tYesD (itSeq (rd 2)) (gSet 3) tYesD (callD m_is_whole d_is_whole (aCons (rd 3) aNil))))))) (sRaise1 "NoStanding" "part" (cn (.str "numbers"))) sNil))
def m_need_standing : MF := runD 2 4 b_need_standing
theorem m_need_standing_n : ∀ ds w, ds.length ≠ 2 → m_need_standing ds w = .wr := runD_n
end GX
namespace DL
open PySem PySem.Spec L2
open PyProof.Rows hiding St
def sRaise2 (c f1 f2 : Str) (fa fb : DS → Oc Sl) : DS → Oc Fl := fun s => (fr fa s).bind fun d s1 => (fr fb s1).bind fun e s2 => .ex ⟨c, [(f2, e), (f1, d)]⟩ s2
section
variable {Z : Cx} {C C2 : Addr} {x x2 w f1 f2 : Str} {more : List ExceptHandler} {l : List (Value × (Addr → Value → Option Addr → TS))} {j j2 j3 : Nat} {q1 q2 p1 p2 p3 p4 p5 p6 p7 p8 p9 p10 p11 p12 p13 p14 p15 p16 p17 : Pos}
end
end DL
namespace DL
open PySem PySem.Spec L2
open PyProof.Rows hiding St
def sPar3O (i j l : Nat) (z : Int) (f h : DS → Oc Sl) : DS → Oc Fl := fun s => (f s).bind fun r s1 => (h s1).bind fun r2 s2 => .ok .nx (((s2.put i r).put j (.fz (.int z))).put l r2)
end DL
namespace DL
open PySem PySem.Spec L2
open PyProof.Rows hiding St
def rdN (i : Nat) : DS → Oc Sl := fun s => match s.sl[i]? with
  | some (.nst b xss) => .ok (.fz (seqD b (xss.map D.lst))) (s.put i (.fz (seqD b (xss.map D.lst))))
  | some (.fz d) => .ok (.fz d) s
  | _ => .wr
end DL
namespace DL
open PySem PySem.Spec L2
open PyProof.Rows hiding St
inductive PR (C : Cf) (g : Gp) (F : Hp) : List (Addr × List V) → List (List D) → Prop
  | nil : PR C g F [] []
  | cons {p rs xs xss} : RpL C g F p.2 xs → PR C g F rs xss → PR C g F (p :: rs) (xs :: xss)
theorem PR.mono {C : Cf} {g : Gp} {F F' : Hp} (e : LeH F F') : ∀ {rs xss}, PR C g F rs xss → PR C g F' rs xss
  | _, _, .nil => .nil
  | _, _, .cons a b => .cons (a.mono e) (PR.mono e b)
theorem NsR.app {C : Cf} {g : Gp} {F H : Hp} {O : Addr → Prop} {ps : List Addr} {yss : List (List D)} (b : NsR C g F H O ps yss) : ∀ {qs xss}, NsR C g F H O qs xss → NsR C g F H O (qs ++ ps) (xss ++ yss)
  | _, _, .nil => b
  | _, _, .cons o h r n => .cons o h r (NsR.app b n)
theorem PR.rows {C : Cf} {g : Gp} {F H : Hp} {O : Addr → Prop} : ∀ {rs xss}, PR C g F rs xss → (∀ p ∈ rs, O p.1 ∧ H p.1 = some (.lst p.2)) → NsR C g F H O (rs.reverse.map (·.1)) xss.reverse
  | _, _, .nil, _ => .nil
  | _, _, .cons (p := p) a b, h => by
    have hp := h p List.mem_cons_self
    rw [List.reverse_cons, List.map_append, List.reverse_cons]
    exact NsR.app (.cons hp.1 hp.2 a .nil) (PR.rows b fun q m => h q (List.mem_cons_of_mem _ m))
def D.lsts? : List D → Option (List (List D))
  | [] => some []
  | .lst xs :: r => (D.lsts? r).map (xs :: ·)
  | _ :: _ => none
def vNsL (k : Nat) (it : DS → Oc (List D)) : DS → Oc Sl := fun s => (it s).bind fun ds s1 => match D.lsts? ds with
  | some xss => if xss.length < sizeLine ∧ k < s1.sl.length then .ok (.nst false xss) (s1.back s1 [k]) else .wr
  | none => .wr
end DL
namespace DL
open PySem PySem.Spec L2
open PyProof.Rows hiding St
section
variable {X : Cx} {E : XK} {k e : Expr} {f1 : DS → Oc Sl} {x y m : Str} {px px2 py p' p'' ap pos : Pos}
end
end DL
namespace DL
open PySem PySem.Spec L2
open PyProof.Rows hiding St
section
variable {pr : Program} {w : World} {A : Around} {E : Value → Shared → Prop} {t : Shared}
end
def itZipN (f h : DS → Oc Sl) : DS → Oc (List D) := fun s => (fr f s).bind fun d s1 => (fr h s1).bind fun e s2 => match d, e with
  | .lst xs, .lst ys => .ok ((xs.zip ys).map fun q => .tup [q.1, q.2]) s2
  | _, _ => .wr
end DL
namespace DL
open PySem PySem.Spec L2
open PyProof.Rows hiding St
mutual
def D.toPd : D → PyData
  | .non => .none
  | .bl b => .bool b
  | .int i => .int i
  | .str x => .str x
  | .lst xs => .list (D.toPdL xs)
  | .tup xs => .tuple (D.toPdL xs)
  | .sd ks ds => .dict ((ks.map PyData.str).zip (D.toPdL ds))
  | .dn ks => .dict (ks.map fun k => (PyData.int k, PyData.none))
  | _ => .none
def D.toPdL : List D → List PyData
  | [] => []
  | d :: r => d.toPd :: D.toPdL r
end
mutual
def D.isPd : D → Bool
  | .non => true
  | .bl _ => true
  | .int _ => true
  | .str _ => true
  | .lst xs => D.isPdL xs
  | .tup xs => D.isPdL xs
  | .sd ks ds => decide (ks.length = ds.length) && D.isPdL ds
  | .dn _ => true
  | _ => false
def D.isPdL : List D → Bool
  | [] => true
  | d :: r => d.isPd && D.isPdL r
end
theorem toPdL_len : ∀ ds : List D, (D.toPdL ds).length = ds.length
  | [] => rfl
  | d :: r => by simp [D.toPdL, toPdL_len r]
section
variable {X : Cx} {pins : List (Addr × Obj)} {σ : L2.St} {H F : Hp} {s : Shared} {C : Cf} {g : Gp}
theorem sys_free (hsys : ∃ o, X.K.lookup sysModules = some o) (I : Inv X pins σ H s) : H sysModules = none := by
  obtain ⟨o, e⟩ := hsys
  exact (I.bs _ _ (I.mod.kin _ _ e)).2
theorem keys_rd {h : Heap} {P : Program} {w : World} : ∀ {es : List DictEntry} {ks : List Str} {us : List Value}, PySem.Pairs (mixKind P w) es ((ks.map Sum.inr).zip us) → us.length = ks.length → ReadsAll h (es.map (·.key)) (ks.map PyData.str) [] ∧ es.map (·.val) = us
  | [], [], [], _, _ => ⟨.nil, rfl⟩
  | [], k :: ks, u :: us, p, _ => by cases p
  | e :: es, [], [], p, _ => by cases p
  | e :: es, k :: ks, u :: us, p, l => by
    have p : PySem.Pairs (mixKind P w) (e :: es) ((Sum.inr k, u) :: (ks.map Sum.inr).zip us) := p
    cases p with
    | cons h1 h2 h3 =>
      obtain ⟨a, b⟩ := keys_rd (h := h) h3 (by simpa using l)
      have h1 : keyIs (Sum.inr k) e.key = true := h1
      rcases keyIs_shape h1 with ⟨i, t, e1, _⟩ | ⟨x, t, e1, e2⟩
      · cases e1
      · have e1 : k = x := Sum.inr.inj e1
        subst e1
        refine ⟨?_, by rw [List.map_cons, h2, b]⟩
        rw [List.map_cons, List.map_cons, e2]
        exact .cons (as := []) (bs := []) (.str k t) a
  | _, [], _ :: _, _, l => by simp at l
  | _, _ :: _, [], _, l => by simp at l
theorem kv_zip {ks : List Str} : ∀ {vs : List V} {q : List (Key × Value)}, vs.length = ks.length → KV ((ks.map Sum.inr).zip vs) q → ∃ us, q = (ks.map Sum.inr).zip us ∧ Vals vs us ∧ us.length = ks.length := by
  induction ks with
  | nil =>
    intro vs q l h
    obtain rfl : vs = [] := List.length_eq_zero_iff.mp l
    cases h
    exact ⟨[], rfl, .nil, rfl⟩
  | cons k ks ih =>
    intro vs q l h
    match vs, l, h with
    | v :: vs, l, h =>
      have h : KV ((Sum.inr k, v) :: (ks.map Sum.inr).zip vs) q := h
      match q, h with
      | (k', u) :: q, .cons h1 h2 =>
        obtain ⟨us, e, r, lu⟩ := ih (by simpa using l) h2
        obtain ⟨e1, e2⟩ := h1
        have e1 : Sum.inr k = k' := e1
        subst e1
        exact ⟨u :: us, by rw [e]; rfl, .cons e2 r, by simp [lu]⟩
theorem int_rd {h : Heap} {P : Program} {w : World} : ∀ {es : List DictEntry} {ks : List Int} {q : List (Key × Value)}, KV (ks.map fun k => ((.inl k : Key), V.non)) q → PySem.Pairs (mixKind P w) es q → ReadsAll h (es.map (·.key)) (ks.map PyData.int) [] ∧ ReadsAll h (es.map (·.val)) (ks.map fun _ => PyData.none) []
  | es, [], q, kv, p => by
    cases kv
    cases p
    exact ⟨.nil, .nil⟩
  | es, k :: ks, q, kv, p => by
    match q, kv with
    | (k', u) :: q, .cons e r =>
      obtain ⟨e1, e2⟩ := e
      have e1 : (Sum.inl k : Key) = k' := e1
      have e2 : RelV .non u := e2
      subst e1
      cases e2
      cases p with
      | cons h1 h2 h3 =>
        obtain ⟨a, b⟩ := int_rd (h := h) r h3
        have h1 : keyIs (Sum.inl k) _ = true := h1
        rcases keyIs_shape h1 with ⟨i, t, e3, e4⟩ | ⟨x, t, e3, _⟩
        · have e3 : k = i := Sum.inl.inj e3
          subst e3
          refine ⟨?_, ?_⟩
          · rw [List.map_cons, List.map_cons, e4]
            exact .cons (as := []) (bs := []) (.int k t) a
          · rw [List.map_cons, List.map_cons, h2]
            exact .cons (as := []) (bs := []) .none b
        · cases e3
mutual
theorem Rp.rd2 (hs0 : H sysModules = none) (I : Inv X pins σ H s) (le : LeH F H) : ∀ {v : V} {d : D}, Rp C g F v d → ∀ u, d.isPd = true → RelV v u → ∃ as, Reads s.heap u d.toPd as ∧ sysModules ∉ as
  | _, _, .non, u, _, r => by cases r; exact ⟨_, by simp only [D.toPd]; exact .none, by simp⟩
  | _, _, .bl b, u, _, r => by cases r; exact ⟨_, by simp only [D.toPd]; exact .bool b, by simp⟩
  | _, _, .int i, u, _, r => by obtain ⟨t, rfl⟩ := r; exact ⟨_, by simp only [D.toPd]; exact .int i t, by simp⟩
  | _, _, .str x, u, _, r => by obtain ⟨t, rfl⟩ := r; exact ⟨_, by simp only [D.toPd]; exact .str x t, by simp⟩
  | _, _, .lst (a := a) h ra, u, q, r => by
    cases r
    obtain ⟨its, rv, ⟨o, n, ho, hc, _, hd⟩, _⟩ := I.list (.inl (.inl (le _ _ h)))
    obtain ⟨as, hr, na⟩ := RpL.rd2 hs0 I le ra its (by simpa only [D.isPd] using q) rv
    refine ⟨a :: as, by simp only [D.toPd]; exact .list ho hc hd hr, fun m => ?_⟩
    rcases List.mem_cons.mp m with e | m
    · have := le _ _ h
      rw [← e, hs0] at this; cases this
    · exact na m
  | _, _, .tup h ra, u, q, r => by
    cases r
    obtain ⟨its, rv, ⟨o, ho, hc, n, hd⟩, _⟩ := I.tuple (sqT le h)
    obtain ⟨as, hr, na⟩ := RpL.rd2 hs0 I le ra its (by simpa only [D.isPd] using q) rv
    exact ⟨as, by simp only [D.toPd]; exact .tuple ho hc hd hr, na⟩
  | _, _, .fn h, _, q, _ => by simp [D.isPd] at q
  | _, _, .ty n, _, q, _ => by simp [D.isPd] at q
  | _, _, .obj h m l r, _, q, _ => by simp [D.isPd] at q
  | _, _, .pen, _, q, _ => by simp [D.isPd] at q
  | _, _, .any v, _, q, _ => by simp [D.isPd] at q
  | _, _, .dct h, _, q, _ => by simp [D.isPd] at q
  | _, _, .tupX h c d r, _, q, _ => by simp [D.isPd] at q
  | _, _, .dn (a := a) (ks := ks) h, u, _, r => by
    cases r
    obtain ⟨_, hsm, q1, kv, dd⟩ := dk_of I.hok (le _ _ h)
    obtain ⟨o, es, ep, ho, ex, hd, _, pr, _⟩ := dd
    obtain ⟨k1, k2⟩ := int_rd (h := s.heap) kv pr
    have z1 : (ks.map fun k => (PyData.int k, PyData.none)).map (·.1) = ks.map PyData.int := by rw [List.map_map]; rfl
    have z2 : (ks.map fun k => (PyData.int k, PyData.none)).map (·.2) = ks.map fun _ => PyData.none := by rw [List.map_map]; rfl
    refine ⟨a :: [] ++ [], by simp only [D.toPd]; exact .dict ho ex.1 hd (by rw [z1]; exact k1) (by rw [z2]; exact k2), fun m => ?_⟩
    rcases List.mem_cons.mp m with e | m
    · rw [← e] at hsm; simp at hsm
    · exact absurd m (by simp)
  | _, _, .sd (a := a) (ks := ks) (vs := vs) (ds := ds) h l ra, u, q, r => by
    cases r
    simp only [D.isPd, Bool.and_eq_true] at q
    obtain ⟨_, hsm, q1, kv, dd⟩ := dk_of I.hok (le _ _ h)
    obtain ⟨us, rfl, rv, lu⟩ := kv_zip l kv
    obtain ⟨o, es, ep, ho, ex, hd, _, pr, _⟩ := dd
    obtain ⟨as, hr, na⟩ := RpL.rd2 hs0 I le ra us q.2 rv
    obtain ⟨k1, k2⟩ := keys_rd (h := s.heap) pr lu
    have lz : (ks.map PyData.str).length = (D.toPdL ds).length := by rw [toPdL_len, List.length_map]; exact of_decide_eq_true q.1
    have z1 : ((ks.map PyData.str).zip (D.toPdL ds)).map (·.1) = ks.map PyData.str := List.map_fst_zip (Nat.le_of_eq lz)
    have z2 : ((ks.map PyData.str).zip (D.toPdL ds)).map (·.2) = D.toPdL ds := List.map_snd_zip (Nat.le_of_eq lz.symm)
    refine ⟨a :: [] ++ as, by simp only [D.toPd]; exact .dict ho ex.1 hd (by rw [z1]; exact k1) (by rw [z2, k2]; exact hr), fun m => ?_⟩
    rcases List.mem_cons.mp m with e | m
    · rw [← e] at hsm; simp at hsm
    · exact na m
theorem RpL.rd2 (hs0 : H sysModules = none) (I : Inv X pins σ H s) (le : LeH F H) : ∀ {vs : List V} {ds : List D}, RpL C g F vs ds → ∀ us, D.isPdL ds = true → Vals vs us → ∃ as, ReadsAll s.heap us (D.toPdL ds) as ∧ sysModules ∉ as
  | _, _, .nil, us, _, r => by cases r; exact ⟨[], by simp only [D.toPdL]; exact .nil, by simp⟩
  | _, _, .cons a b, us, q, r => by
    cases r with
    | cons r1 r2 =>
      simp only [D.isPdL, Bool.and_eq_true] at q
      obtain ⟨as, h1, n1⟩ := Rp.rd2 hs0 I le a _ q.1 r1
      obtain ⟨bs, h2, n2⟩ := RpL.rd2 hs0 I le b _ q.2 r2
      refine ⟨as ++ bs, by simp only [D.toPdL]; exact .cons h1 h2, fun m => ?_⟩
      rcases List.mem_append.mp m with m | m
      · exact n1 m
      · exact n2 m
end
end
def reprOk2 (d : D) : Bool := (d.isPd && d.toPd.showable) && (decide (d.toPd.shown.length ≤ sizeLine) && decide (d.toPd.depth ≤ 60))
def reprP : D → DS → Oc Sl := fun d s => if reprOk2 d = true then .ok (.fz (.str d.toPd.shown)) s else .wr
def rReprP (C : Cf) : List V → Hp → VK → Prop := fun vs H Q => ∃ (v : V) (d : D) (g : Gp) (F : Hp), vs = [v] ∧ LeH F H ∧ RdV C g F H v d ∧ reprOk2 d = true ∧ Q (.str d.toPd.shown) H
theorem cr_reprP {X : Cx} (hsys : ∃ o, X.K.lookup sysModules = some o) (hg : X.A.guards = some []) (hu : X.A.units + 65 < cLine) : CallR X (.builtin "repr") (rReprP ⟨X.K, X.mg⟩) := by
  intro pins s σ H vs us Q I r h
  obtain ⟨v, d, g, F, rfl, le, hv, ok, q⟩ := h
  obtain ⟨u, rfl, ru⟩ := vals1 r
  have hs0 := sys_free hsys I
  unfold reprOk2 at ok
  simp only [Bool.and_eq_true, decide_eq_true_eq] at ok
  obtain ⟨⟨o1, o2⟩, o3, o4⟩ := ok
  have fin : ∀ a as, u = .ref a → Reads s.heap (.ref a) d.toPd as → sysModules ∉ as → wpAny (model X.prog X.w) X.A (call (.builtin "repr") [u]) (fun w s' => ∃ v' H', Inv X pins σ H' s' ∧ RelV v' w ∧ Q v' H') X.xe s := fun a as e rd na => by
    subst e
    refine repr_of_reads' rd o2 (fun _ => na) hg (by omega) (fun _ _ e => e) (fun h' u tk kept => ?_) o3
    exact ⟨.str _, H, I.kept (t' := tk) kept, ⟨u, rfl⟩, q⟩
  cases d with
  | non =>
    cases hv with | non =>
    cases ru
    simp only [D.toPd, PyData.shown] at q
    exact PySem.P.repr_of_none ⟨.str _, H, I.tok _, ⟨_, rfl⟩, q⟩
  | bl b =>
    cases hv with | bl =>
    cases ru
    simp only [D.toPd, PyData.shown] at q
    exact PySem.P.repr_of_bool ⟨.str _, H, I.tok _, ⟨_, rfl⟩, q⟩
  | int i =>
    cases hv with | int =>
    obtain ⟨t, rfl⟩ := ru
    simp only [D.toPd, PyData.shown] at q
    simp only [D.toPd, PyData.showable, decide_eq_true_eq] at o2
    exact PySem.P.repr_of_int o2 ⟨.str _, H, I.tok _, ⟨_, rfl⟩, q⟩
  | str x =>
    cases hv with | str =>
    obtain ⟨t, rfl⟩ := ru
    simp only [D.toPd, PyData.shown] at q o3
    exact PySem.P.repr_of_str ⟨.str _, H, I.tok _, ⟨_, rfl⟩, q⟩ o3
  | lst xs =>
    obtain ⟨a, ws, rfl, ha, ra⟩ := hv
    cases ru
    obtain ⟨its, rv, ⟨o, n, ho, hc, _, hd⟩, _⟩ := I.list (.inl (.inl ha))
    obtain ⟨as, hr, na⟩ := RpL.rd2 hs0 I le ra its (by simpa only [D.isPd] using o1) rv
    refine fin a (a :: as) rfl (by simp only [D.toPd]; exact .list ho hc hd hr) fun m => ?_
    rcases List.mem_cons.mp m with e | m
    · rw [← e, hs0] at ha; cases ha
    · exact na m
  | tup xs =>
    obtain ⟨as, hr, na⟩ := Rp.rd2 hs0 I le hv u o1 ru
    cases hv with | tup h1 r1 =>
    cases ru
    exact fin _ as rfl hr na
  | sd ks ds =>
    obtain ⟨as, hr, na⟩ := Rp.rd2 hs0 I le hv u o1 ru
    cases hv with | sd h1 l1 r1 =>
    cases ru
    exact fin _ as rfl hr na
  | dn ks =>
    obtain ⟨as, hr, na⟩ := Rp.rd2 hs0 I le hv u o1 ru
    cases hv with | dn h1 =>
    cases ru
    exact fin _ as rfl hr na
  | _ => simp [D.isPd] at o1
section
variable {X : Cx} {E : XK} {e : Expr} {pos p : Pos}
theorem eo_reprP {f : DS → Oc Pl} (hsys : ∃ o, X.K.lookup sysModules = some o) (hgd : X.A.guards = some []) (hu : X.A.units + 65 < cLine) (hm : X.mg "repr" = none) (he : EP' X E e f) (hg : Gl X "repr" := by rfl) (hst : starEach [e] X.env = (false, eval e X.env) :: starEach [] X.env := by rfl) (hpl : (backTo pos (starEach [] X.env)).any (·.1) = false := by rfl) : EO X E (.Call (.Name "repr" p) [e] [] pos) (call1 reprP f) :=
  eo_callB (cr_reprP hsys hgd hu) (fun g F0 Fx F H own σ s x d Q R hx p => by
    unfold reprP at p
    obtain ⟨c, p⟩ := p.ite
    exact ⟨x, d, g, F, rfl, R.le, hx, c, p.ok R _ ⟨_, rfl, .str _⟩⟩) hm (by decide +kernel) he hg (by decide) (by decide) hst hpl
end
end DL
namespace DL
open PySem PySem.Spec L2
open PyProof.Rows hiding St
section
variable {X : Cx} {E : XK} {tg iter elt tg1 iter1 : Expr} {ifs ifs1 : List Expr} {scope : Scope} {own : List (Str × Nat)} {vs1 : List Nat} {it it1 : DS → Oc (List D)} {tgD tgD1 : D → DS → Oc Unit} {tt tt1 : DS → Oc Bool} {te : DS → Oc Sl}
end
def vListRng2 (f h : DS → Oc Sl) : DS → Oc Sl := fun s => (fr f s).bind fun d s1 => (fr h s1).bind fun e s2 => match d, e with
  | .int i, .int j => if rOk i = true ∧ rOk j = true ∧ j - i ≤ 1000 then .ok (.ow (rngD i (j - i).toNat)) s2 else .wr
  | _, _ => .wr
section
variable {X : Cx} {E : XK} {a b : Expr} {f h : DS → Oc Sl} {p pr pos p1 : Pos}
end
end DL
namespace DL
open PySem PySem.Spec L2
open PyProof.Rows hiding St
section
variable {X : Cx}
def extAD (i : Nat) : D → DS → Oc Sl := fun d s1 => match s1.sl[i]?, d with
  | some (.ow xs), .lst ys => if xs.length + ys.length ≤ sizeLine then .ok (.fz .non) (s1.put i (.ow (xs ++ ys))) else .wr
  | some (.ow xs), .tup ys => if xs.length + ys.length ≤ sizeLine then .ok (.fz .non) (s1.put i (.ow (xs ++ ys))) else .wr
  | _, _ => .wr
end
end DL
namespace GM
open PySem PySem.Spec L2 DL
open PyProof.Rows hiding St
end GM
namespace GX
open PySem PySem.Spec L2 DL GM
open PyProof.Rows hiding St
end GX
namespace DL
open PySem PySem.Spec L2
open PyProof.Rows hiding St
section
variable {Z : Cx} {C : Addr} {x w f : Str} {more : List ExceptHandler} {l : List (Value × (Addr → Value → Option Addr → TS))} {j j3 : Nat} {q1 q2 p1 p2 p3 p4 p5 p6 p7 p14 p15 : Pos}
end
end DL
namespace DL
open PySem PySem.Spec L2
open PyProof.Rows hiding St
def swp (l : List (Int × Int)) : List (Int × Int) := l.map fun q => (q.2, q.1)
section
variable {X : Cx} {E : XK} {C : Cf}
def vDcS (k1 k2 : Nat) (it : DS → Oc (List D)) : DS → Oc Sl := fun s => (it s).bind fun ds s1 => match D.pairs? ds with
  | some l => if (l.length < sizeLine ∧ k1 < s1.sl.length ∧ k2 < s1.sl.length ∧ k1 ≠ k2) ∧ (l.map (·.2)).Nodup then .ok (.fz (.dct (swp l))) (s1.back s1 [k1, k2]) else .wr
  | none => .wr
end
end DL
namespace DL
open PySem PySem.Spec L2
open PyProof.Rows hiding St
section
variable {P : Program} {wl : World} {A : Around} {R : Result → Shared → Prop} {z : Shared} {kx vx ta ia tb ib : Expr} {sc : Scope} {ps : Pos} {u : Value} {D : Addr} {en : Env}
end
section
variable {X : Cx}
end
section
variable {C : Cf} {g : Gp} {tgA tgB : D → DS → Oc Unit} {ia ib : DS → Oc (List D)} {tk tv : DS → Oc Sl} {vs vb : List Nat}
end
section
variable {X : Cx} {E : XK} {tgA tgB : D → DS → Oc Unit} {ia ib : DS → Oc (List D)} {tk tv : DS → Oc Sl} {vb : List Nat} {kx vx ta ea tb eb : Expr} {sc : Scope} {own : List (Str × Nat)} {ps : Pos}
end
end DL
namespace PySem
namespace OwnKey
open PySem.W PySem.Calls PyProof.Rows PySem.HandSPX Builtin Builtin.ObjectAttr
section
variable {M : Model} {A : Around} {E : Value → Shared → Prop} {hp : Heap} {gs : Array GenState} {dr : Drawn} {tk : Nat} {sy : OsState}
variable {nm qn : Str} {C N : Addr} {bs : List Value} {hdct : Bool} {sn : List Str} {sub : List Value} {ab : Bool} {col : Option Bool} {dd : Option Addr} {k0 k1 k2 k3 k5 : Option Value}
end
section
variable {prog : Program} {w : World} {A : Around} {E : Value → Shared → Prop} {R : Result → Shared → Prop} {hp : Heap} {gs : Array GenState} {dr : Drawn} {tk : Nat} {sy : OsState}
variable {nm qn : Str} {C N : Addr} {bs : List Value} {hdct : Bool} {sn : List Str} {sub : List Value} {ab : Bool} {col : Option Bool} {dd : Option Addr} {k0 k1 k2 k3 k5 : Option Value}
end
end OwnKey
end PySem
namespace DL
open PySem PySem.Spec L2
open PyProof.Rows hiding St
section
variable {X : Cx} {pins : List (Addr × Obj)} {σ : L2.St} {H : Hp} {s : Shared} {a C dx : Addr} {f : Str} {y : V} {u : Value} {Q : Unit → Shared → Prop} {E : Value → Shared → Prop} {A : Around}
end
section
variable {X : Cx} {o e : Expr} {es : List Expr} {to te : TE} {ta : TA} {f : Str} {p p' pos : Pos}
end
section
variable {Z : Cx} {C : Addr} {x w f : Str} {more : List ExceptHandler} {l : List (Value × (Addr → Value → Option Addr → TS))} {j j3 : Nat} {q1 q2 p1 p2 p3 p4 p5 p6 p7 p14 p15 : Pos}
end
end DL
namespace DL
open PySem PySem.Spec L2
open PyProof.Rows hiding St
theorem pe_xfY {Y : Cx} {a C : Addr} {oe : Obj} {cls : Value} {d : Option Addr} {e : Expr} {te : TE} {pos : Pos} {n : Str} (here : (a, oe) ∈ Y.pn) (T : XfC Y.K C) (no : PySem.W.findIn Y.K (.ref C) n = some none)
    (hz : Zc cls d oe) (hf : ∃ vs, oe.data = .fields vs) (he : PE Y e te) (hb : attributeBase e n Y.env (eval e Y.env) = eval e Y.env := by rfl) : PE Y (.Attribute e n pos) (tXf a cls d C n te) := by
  refine ⟨fun pins s σ H Q I goal => ?_⟩
  refine attr_of hb (thn (he.run pins s σ H _ I goal) fun u s1 q => ?_)
  obtain ⟨x, H1, I1, rx, rfl, rfl, dd, fs, v, rfl, isD, look, q⟩ := q
  obtain rfl : u = Value.ref a := rx
  have get := (I1.pin (a, oe) (List.mem_append_left _ here)).1
  obtain ⟨vs, dat⟩ := hf
  obtain ⟨mA, ns, rel⟩ := (show ObjOk Y.prog Y.w H1 s1.heap dd (.xd fs) from I1.hok dd _ isD)
  obtain ⟨od, getD, atD⟩ := lookIn_ns ns
  obtain ⟨r, isR, relR⟩ := RelO.some_of (v := v) (o := mA n) (by rw [← look]; exact rel n)
  have inst : PySem.W.InstAt s1.heap a oe C (some od) := ⟨get, hz.1, by unfold PySem.W.notCls; rw [dat] <;> rfl, by rw [hz.2]; exact getD⟩
  exact HandSPX.exc_get I1.kIn inst T.ga T.gg T.exC (PySem.W.findObj_own T.hdC no rfl (by rw [atD, isR])) (handed_of relR) ⟨v, H1, I1.tok _, relR, q⟩
theorem call_isY {Y : Cx} {a C dd : Addr} {oe : Obj} (here : (a, oe) ∈ Y.pn) (T : ExcC Y.K C) (hz : Zc (.ref C) (some dd) oe) (hf : ∃ vs, oe.data = .fields vs) : CallR Y (.builtin "isinstance") (rIsX Y.K C a dd) := by
  intro pins s σ H xs us Q I r goal
  obtain ⟨c, b, fs, rfl, isD, isB, q⟩ := goal
  obtain ⟨u1, u2, rfl, r1, r2⟩ : ∃ u1 u2, us = [u1, u2] ∧ L2.RelV (.ref a) u1 ∧ L2.RelV c u2 := by
    cases r with
    | cons x1 y1 =>
      cases y1 with
      | cons x2 y2 =>
        cases y2
        exact ⟨_, _, rfl, x1, x2⟩
  cases r1
  have get := (I.pin (a, oe) (List.mem_append_left _ here)).1
  obtain ⟨vs, dat⟩ := hf
  obtain ⟨mA, ns, _⟩ := (show ObjOk Y.prog Y.w H s.heap dd (.xd fs) from I.hok dd _ isD)
  obtain ⟨od, getD, _⟩ := lookIn_ns ns
  have inst : PySem.W.InstAt s.heap a oe C (some od) := ⟨get, hz.1, by unfold PySem.W.notCls; rw [dat] <;> rfl, by rw [hz.2]; exact getD⟩
  rcases isB with ⟨cv, only, is⟩ | ⟨t, ws, its, rfl, ht, only, is⟩
  · obtain rfl := only _ r2
    exact PySem.W.kia_one (kitx_exc T) I.kIn inst is (fun z => nomatch z) fun tk => ⟨.bl b, H, I.kept (t' := tk) fun _ _ z => z, rfl, q⟩
  · cases r2
    obtain ⟨_, its2, rel, o, h1, h2, n, h3⟩ := (show ObjOk Y.prog Y.w H s.heap t (.tup ws) from I.hok t _ ht)
    obtain rfl := only _ rel
    obtain ⟨c1, c2, c3, c4⟩ := o
    simp only at h2 h3
    subst h2 h3
    exact PySem.W.kia_tup (kitx_exc T) I.kIn inst h1 is (fun z => nomatch z) fun tk => ⟨.bl b, H, I.kept (t' := tk) fun _ _ z => z, rfl, q⟩
def wAsK (K : PySem.W.Frag) (i : Nat) (W0 : WX) (D : Ends) (rk : Addr → Value → Option Addr → TS) : List (Value × (Addr → Value → Option Addr → TS)) → WX
  | [] => W0
  | (c, ts) :: r => fun cls d σ H => ∃ b, PySem.W.exmOne K cls c = some b ∧
      (b = true → ∀ a, H a = none → ts a cls d { nx := fun τ G => rk a cls d D (τ.set i none) G, rt := D.rt, bk := fun τ G => D.bk (τ.set i none) G, ct := fun τ G => D.ct (τ.set i none) G } (σ.set i (some (.ref a))) H) ∧
      (b = false → wAsK K i W0 D rk r cls d σ H)
section
variable {X : Cx} {n : Str} {i : Nat} {bd rest : List Stmt} {hd0 : ExceptHandler} {more : List ExceptHandler} {l : List (Value × (Addr → Value → Option Addr → TS))} {pos : Pos} {tb : WX → TS} {W0 : WX} {rk : Addr → Value → Option Addr → TS} {tr : TS}
theorem pss_tryK (stk : X.stack = X.env :: X.outer) (frm : X.env.frame = some X.env.locals) (nd : X.N.Nodup) (at_ : X.N[i]? = some n) (loc : X.env.kindOf n = some .local) (tk : Takes X W0)
    (hb : ∀ (W : WX) (pn : List (Addr × Obj)) (xe : Value → Shared → Prop), Takes (X.tr pn xe) W → PassesOwn (model X.prog X.w) X.A X.env xe → PSs (X.tr pn xe) bd (tb W))
    (hh : HdsAs X n (hd0 :: more) l) (hr : PSs X rest tr) (hk : ∀ (a : Addr) (oe : Obj) (cls : Value) (d : Option Addr) (pn : List (Addr × Obj)), Zc cls d oe → (∃ vs, oe.data = .fields vs) → PSs (X.tr ((a, oe) :: pn) X.xe) rest (rk a cls d)) :
    PSs X (.Try bd (hd0 :: more) [] [] pos :: rest) (fun D σ H => tb (wAsK X.K i W0 D rk l) { D with nx := fun τ G => tr D τ G } σ H) := by
  refine ⟨fun pins s σ H D I goal => ?_⟩
  have isOk := I.ok
  have frames : X.A.frames = some (X.env :: X.outer) := by rw [isOk.frames, stk]
  have isLoc : Loc X.env.scope n := .inl loc
  obtain ⟨Q, isQ⟩ : ∃ Q : Flow → Shared → Prop, Q = fun f z => match f with
    | .next => wpAny (model X.prog X.w) X.A (execs rest X.env) (SP X pins D) X.xe z
    | f => SP X pins D f z := ⟨_, rfl⟩
  refine wpAny_execs_cons (wpAny_mono (?_ : wpAny (model X.prog X.w) X.A (exec (.Try bd (hd0 :: more) [] [] pos) X.env) Q X.xe s) (fun f z q => ?_) fun _ _ z => z)
  case refine_2 =>
    rw [isQ] at q
    cases f <;> exact q
  refine wpAny_Try_except ?_
  have takes : Takes (X.tr (X.pn ++ pins) (fun e sA => wpAny (model X.prog X.w) X.A (noteFrame e X.env) (fun _ sB => wpAny (model X.prog X.w) X.A (setFlight e none)
    (fun _ sC => wpAny (model X.prog X.w) X.A (handleBy e X.env (hd0 :: more)) Q X.xe sC) X.xe sB) X.xe sA)) (wAsK X.K i W0 D rk l) := fun u sA caught => by
    obtain ⟨a, B, s0, ps0, τ, G, cls, d, rfl, Jt, keep, reach, sky, free, osE, bare, want⟩ := caught
    have J : Inv X pins τ G s0 := Jt.ofTry isOk
    have skyE : Sky B (X.env :: X.outer) a (Zc cls d) X.env.locals sA.heap := by rw [← stk]; exact sky
    show wpAny _ X.A (noteFrame (.ref a) X.env) _ _ _
    refine Sky.land Zc.steady frames frm skyE fun hL flL upL => ?_
    have JL : Inv X pins τ G { sA with heap := hL } := J.landed keep flL.1 (reach.trans upL) osE bare
    obtain ⟨oL, vL, getL, zL, datL⟩ := flL.there
    have apart : a ∉ frs (X.env :: X.outer) := fun m => by
      obtain ⟨_, o2, get2, isnt⟩ := flL.2.2.1.mem m
      rw [getL] at get2
      cases get2
      exact isnt _ datL
    have apartL : a ≠ X.env.locals := fun z => apart (List.mem_filterMap.mpr ⟨X.env, List.mem_cons_self, by rw [frm, z]⟩)
    have apartF : a ∉ X.fs := fun m => by
      obtain ⟨e, me, q⟩ := List.mem_filterMap.mp m
      exact apart (List.mem_filterMap.mpr ⟨e, List.mem_cons_of_mem _ me, q⟩)
    have SL := JL.suite getL datL free apartL apartF
    have walk : ∀ {hs2 : List ExceptHandler} {l2 : List (Value × (Addr → Value → Option Addr → TS))}, HdsAs X n hs2 l2 → wAsK X.K i W0 D rk l2 cls d τ G →
        wpAny (model X.prog X.w) X.A (handleBy (.ref a) X.env hs2) Q X.xe { sA with heap := hL } := by
      intro hs2 l2 they
      induction they with
      | nil =>
        intro out
        refine wpAny_handleBy_nil ?_
        obtain ⟨_, _, _, o5, v5, T5, _, _, get5, _, dat5, one5, _⟩ := id flL
        unfold PySem.passOn
        refine wpAny_bind (wpAny_field get5 dat5 one5 ?_)
        rw [if_neg (by simp : ¬ ((Value.ref T5 == Value.none) = true))]
        have last : wpAny (model X.prog X.w) X.A (setFlight (.ref a) X.env.frame) (fun _ sD => wpAny (model X.prog X.w) X.A (throw (.ref a) : Sem Flow) Q X.xe sD) X.xe { sA with heap := hL } := by
          rw [frm]
          refine HandSPX.setFlight_upZ flL fun hM fM uM => wpAny_throw (tk _ _ ?_)
          exact ⟨a, B, s0, pins, τ, G, cls, d, rfl, J, keep, (reach.trans upL).trans uM, .inr (.inr (by rw [stk]; exact fM)), free, osE, bare, out⟩
        first
          | exact wpAny_bind (wpAny_pure (wpAny_bind last))
          | exact wpAny_bind last
      | @cons x c ts st0 rest2 q1 q2 more2 l3 nm suite tail ih =>
        intro out
        obtain ⟨b, isB, yes, no⟩ := out
        refine wpAny_handleBy_cons (codeAny_handlers_test ?_) (by intro q; cases q)
        have tyL : PySem.W.Looks (model X.prog X.w) hL (typeOf (.ref a)) cls := fun A2 Q2 E2 s2 k2 q2 => wpAny_typeOf_ref (k2 _ _ getL) (by rw [zL.1]; exact q2)
        have mL := PySem.W.exm_one (M := model X.prog X.w) JL.kIn tyL isB
        have named : ∀ {Q2 : Value → Shared → Prop} {E2 : Value → Shared → Prop}, Q2 c { sA with heap := hL } → wpAny (model X.prog X.w) (X.A.mark (some (.ref a))) (eval (.Name x q1) X.env) Q2 E2 { sA with heap := hL } := fun {Q2 E2} q2 => by
          obtain ⟨isG, isD, byM | ⟨byM, byB, byN⟩⟩ := nm
          · exact ld_glob (X := X.suite a ((a, oL) :: (X.pn ++ pins))) SL isG byM q2 isD
          · exact ld_blt (X := X.suite a ((a, oL) :: (X.pn ++ pins))) SL isG byM byB q2 byN isD
        refine named (mL.here ?_)
        cases b with
        | true =>
          refine codeAny_handlers_suite_as ?_
          refine HandSPX.lands_againZ flL fun hN flN upN => ?_
          have JN : Inv X pins τ G { sA with heap := hN } := J.landed keep flN.1 ((reach.trans upL).trans upN) osE bare
          obtain ⟨oN, vN, getN, zN, datN⟩ := flN.there
          have SN := JN.suite getN datN free apartL apartF
          refine store_ok (X := X.suite a ((a, oN) :: (X.pn ++ pins))) (v := .ref a) SN nd at_ isLoc rfl (fun sE SE => ?_) (.inr loc)
          refine wpAny_mono ((suite a oN cls d (X.pn ++ pins) zN ⟨_, datN⟩).run [] sE _ G _ SE (yes rfl a free)) (fun fl sF done => ?_) (fun _ _ z => False.elim z)
          have toT : ∀ {τ6 : St} {G6 : Hp} {z6 : Shared}, Inv (X.suite a ((a, oN) :: (X.pn ++ pins))) [] τ6 G6 z6 → Inv (X.tr ((a, oN) :: (X.pn ++ pins)) X.xe) [] τ6 G6 z6 := fun S6 =>
            ⟨isOk.toTry _ _, S6.os, S6.bare, S6.base, S6.loc, S6.cell, S6.free, S6.freeC, S6.pin, S6.hok, S6.len⟩
          have unT : ∀ {τ6 : St} {G6 : Hp} {z6 : Shared}, Inv (X.tr ((a, oN) :: (X.pn ++ pins)) X.xe) [] τ6 G6 z6 → Inv X pins τ6 G6 z6 := fun S6 =>
            ⟨isOk, S6.os, S6.bare, S6.base, S6.loc, S6.cell, S6.free, S6.freeC, fun p hp => S6.pin p (List.mem_append_left _ (List.mem_cons_of_mem _ hp)), S6.hok, S6.len⟩
          have unbind : ∀ {τ6 : St} {G6 : Hp} {Q6 : Shared → Prop}, Inv (X.suite a ((a, oN) :: (X.pn ++ pins))) [] τ6 G6 sF → (∀ sG, Inv (X.tr ((a, oN) :: (X.pn ++ pins)) X.xe) [] (τ6.set i none) G6 sG → Q6 sG) →
              wpAny (model X.prog X.w) X.A (do bindName X.env n .none; unbindBehindTheSuite X.env n q2) (fun _ sG => Q6 sG) X.xe sF := fun {τ6 G6 Q6} S6 h6 => gone_ok (X := X.tr ((a, oN) :: (X.pn ++ pins)) X.xe) (toT S6) nd at_ loc h6
          match fl, done with
          | .next, ⟨τ6, G6, S6, r6⟩ =>
            refine unbind S6 fun sG JG => ?_
            rw [isQ]
            refine wpAny_mono ((hk a oN cls d (X.pn ++ pins) zN ⟨_, datN⟩).run [] sG _ _ D JG r6) (fun f z ends => ?_) fun _ _ z => z
            match f, ends with
            | .next, ⟨_, _, J7, r7⟩ => exact ⟨_, _, unT J7, r7⟩
            | .brk, ⟨_, _, J7, r7⟩ => exact ⟨_, _, unT J7, r7⟩
            | .cont, ⟨_, _, J7, r7⟩ => exact ⟨_, _, unT J7, r7⟩
            | .ret u, ⟨_, _, _, J7, rel7, r7⟩ => exact ⟨_, _, _, unT J7, rel7, r7⟩
          | .brk, ⟨_, _, S6, r6⟩ => exact unbind S6 fun sG JG => by rw [isQ]; exact ⟨_, _, unT JG, r6⟩
          | .cont, ⟨_, _, S6, r6⟩ => exact unbind S6 fun sG JG => by rw [isQ]; exact ⟨_, _, unT JG, r6⟩
          | .ret u, ⟨_, _, _, S6, rel6, r6⟩ => exact unbind S6 fun sG JG => by rw [isQ]; exact ⟨_, _, _, unT JG, rel6, r6⟩
        | false =>
          show wpAny _ X.A (handleBy (.ref a) X.env more2) _ _ _
          exact ih (no rfl)
    exact walk hh want
  refine wpAny_mono ((hb _ _ _ takes PassesOwn.looking).run [] s σ H { D with nx := fun τ G => tr D τ G } (I.toTry _) goal) (fun fl sA done => ?_) fun _ _ z => z
  match fl, done with
  | .next, ⟨τ, G, Jt, q⟩ =>
    refine wpAny_execs_nil ?_
    rw [isQ]
    exact hr.run pins sA τ G D (Jt.ofTry isOk) q
  | .brk, ⟨τ, G, Jt, q⟩ => rw [isQ]; exact ⟨τ, G, Jt.ofTry isOk, q⟩
  | .cont, ⟨τ, G, Jt, q⟩ => rw [isQ]; exact ⟨τ, G, Jt.ofTry isOk, q⟩
  | .ret u, ⟨v, τ, G, Jt, rel, q⟩ => rw [isQ]; exact ⟨v, τ, G, Jt.ofTry isOk, rel, q⟩
end
end DL
namespace DL
open PySem PySem.Spec L2
open PyProof.Rows hiding St
section
variable {X : Cx} {E : XK} {n : Str} {i : Nat} {bd rest : List Stmt} {hd0 : ExceptHandler} {more : List ExceptHandler} {l : List (Value × (Addr → Value → Option Addr → TS))} {pos : Pos} {rk : Addr → Value → Option Addr → TS} {mb nx : DS → Oc Fl} {kx : Exn → DS → Oc Fl}
end
end DL
namespace DL
open PySem PySem.Spec L2
open PyProof.Rows hiding St
def tTru (K : PySem.W.Frag) (t : TE) : TT := fun σ H Q => t σ H fun x H' => ∃ k, TruV K x H' k ∧ Q k H'
def tsKeep (i y : Nat) : Addr → Value → Option Addr → TS := fun _ _ _ => tAsg (tVar i) (gName y)
theorem hd_keep {Z : Cx} {i y : Nat} {x : Str} {c : Value} {q1 q2 p1 p2 p3 : Pos} {more : List ExceptHandler} {l : List (Value × (Addr → Value → Option Addr → TS))} (nd : Z.N.Nodup) (at_ : Z.N[i]? = some ("e" : Str)) (vis : Vis Z.env.scope "e") (atY : Z.N[y]? = some ("caught" : Str)) (locY : Z.env.scope.names.lookup ("caught" : Str) = some .local) (nm : Names Z x c)
    (sw : swapsWith (.Name "e" p2) (some (.Name "caught" p1)) p3.line Z.env = pure false) (tail : HdsAs Z "e" more l) :
    HdsAs Z "e" (.ExceptHandler (some (.Name x q1)) (some "e") [.Assign [.Name "caught" p1] (.Name "e" p2) p3] q2 :: more) ((c, tsKeep i y) :: l) := by
  refine .cons nm (fun a oe cls d pn hz hf => ?_) tail
  exact pss_one (ps_set (X := Z.suite a ((a, oe) :: pn)) (i := y) nd atY (.inl locY) (pe_var at_ vis) sw (hf := .inr locY))
section
variable {Z : Cx} {y : Nat} {C C2 : Addr} {f x2 w : Str} {B : String} {Bn : Str} {ret : List Stmt} {j0 j1 : Nat} {p1 p2 p3 p4 p5 p6 p7 p8 p9 p10 p11 p12 p13 p14 p15 p16 p17 p18 p19 p20 p21 p22 : Pos}
end
end DL
namespace DL
open PySem PySem.Spec L2
open PyProof.Rows hiding St
def wrapT : Bool → TE → TE
  | true, t => tLst (tCons t tNil)
  | false, t => t
def rkPl (K : PySem.W.Frag) (y pl : Nat) (C : Addr) (f : Str) (cs : List Addr) (L : Bool) (tY : TE) : Addr → Value → Option Addr → TS := fun a cls d Dn σ H => ∃ dd, cls = .ref C ∧ d = some dd ∧
  tSeq (tIfS (tTest (tOp (rIsNB false) (tVar y) (tC .non))) (fun _ _ _ => False) tNext)
    (tSeq (tAsg (tAndV (tCB (rIsX K C a dd) (tCons (tVar y) (tCons (tC (.ty "ValueError")) tNil))) (tNotV (tCB (rIsX K C a dd) (tCons (tVar y) (tCons (tTup fun _ H Q => Q (cs.map V.ref) H) tNil))))) (gName pl))
    (tRet (L2.tIf (tTru K (tVar pl)) (wrapT L (tXf a (.ref C) (some dd) C f (tVar y))) tY))) Dn σ H
section
variable {Z : Cx} {y pl : Nat} {C : Addr} {f : Str} {cs : List Addr} {L : Bool} {tY : TE} {ret : List Stmt} {e1 eX eY : Expr} {es : List Expr} {j0 j2 : Nat} {p1 p2 p3 p4 p5 p6 p7 p8 p9 p10 p11 p12 p13 p14 p15 p16 p17 p18 p19 p20 p21 p22 p23 : Pos}
theorem pk_plain (nd : Z.N.Nodup) (at_ : Z.N[y]? = some ("caught" : Str)) (vis : Vis Z.env.scope "caught") (atP : Z.N[pl]? = some ("plain" : Str)) (locP : Z.env.scope.names.lookup ("plain" : Str) = some .local) (visP : Vis Z.env.scope "plain") (T : XfC Z.K C) (no : PySem.W.findIn Z.K (.ref C) f = some none) (I : ExcC Z.K C)
    (gI : Gl Z "isinstance") (mI : Z.mg "isinstance" = none) (bI : bootBuiltins "isinstance" = some (.builtin "isinstance")) (gB : Gl Z "ValueError") (mB : Z.mg "ValueError" = none) (bB : bootBuiltins "ValueError" = some (.type "ValueError"))
    (hts : ∀ a oe pn, PA (Z.tr ((a, oe) :: pn) Z.xe) (e1 :: es) fun _ H Q => Q (cs.map V.ref) H)
    (tr1 : ∀ whole, isTrue (.Name "plain" p19) Z.env whole = (do let v ← whole; standAt p19; holding [v] (truthy v)))
    (sw : swapsWith (.BoolOp .And [.Call (.Name "isinstance" p6) [.Name "caught" p7, .Name "ValueError" p8] [] p9, .UnaryOp .Not (.Call (.Name "isinstance" p10) [.Name "caught" p11, .Tuple (e1 :: es) j2 p12] [] p13) p14] p15) (some (.Name "plain" p18)) p5.line Z.env = pure false)
    (eb : attributeBase (.Name "caught" p16) f Z.env (eval (.Name "caught" p16) Z.env) = eval (.Name "caught" p16) Z.env)
    (hX : ∀ (a : Addr) (oe : Obj) (pn : List (Addr × Obj)) (te : TE), PE (Z.tr ((a, oe) :: pn) Z.xe) (.Attribute (.Name "caught" p16) f p17) te → PE (Z.tr ((a, oe) :: pn) Z.xe) eX (wrapT L te))
    (hY : ∀ (a : Addr) (oe : Obj) (pn : List (Addr × Obj)), PE (Z.tr ((a, oe) :: pn) Z.xe) eY tY)
    (a : Addr) (oe : Obj) (cls : Value) (d : Option Addr) (pn : List (Addr × Obj)) (hz : Zc cls d oe) (hf : ∃ vs, oe.data = .fields vs) :
    PSs (Z.tr ((a, oe) :: pn) Z.xe) [.If (.Compare (.Name "caught" p1) [.Is] [.Constant .none j0 p2] p3) ret [] p4,
      .Assign [.Name "plain" p18] (.BoolOp .And [.Call (.Name "isinstance" p6) [.Name "caught" p7, .Name "ValueError" p8] [] p9, .UnaryOp .Not (.Call (.Name "isinstance" p10) [.Name "caught" p11, .Tuple (e1 :: es) j2 p12] [] p13) p14] p15) p5,
      .Return (some (.IfExp (.Name "plain" p19) eX eY p21)) p22] (rkPl Z.K y pl C f cs L tY a cls d) := by
  refine ⟨fun pins s σ H Dn In h => ?_⟩
  obtain ⟨dd, rfl, rfl, h⟩ := h
  have here : (a, oe) ∈ (Z.tr ((a, oe) :: pn) Z.xe).pn := List.mem_cons_self
  have v1 : PE (Z.tr ((a, oe) :: pn) Z.xe) (.Name "caught" p1) (tVar y) := pe_var at_ vis
  have v7 : PE (Z.tr ((a, oe) :: pn) Z.xe) (.Name "caught" p7) (tVar y) := pe_var at_ vis
  have v11 : PE (Z.tr ((a, oe) :: pn) Z.xe) (.Name "caught" p11) (tVar y) := pe_var at_ vis
  have v16 : PE (Z.tr ((a, oe) :: pn) Z.xe) (.Name "caught" p16) (tVar y) := pe_var at_ vis
  have v19 : PE (Z.tr ((a, oe) :: pn) Z.xe) (.Name "plain" p19) (tVar pl) := pe_var atP visP
  have i1 := pe_callB (X := Z.tr ((a, oe) :: pn) Z.xe) (p := p6) (pos := p9) (call_isY here I hz hf) gI mI bI (pa_cons v7 (pa_cons (pe_bltn (v := .ty "ValueError") (pos := p8) gB mB bB rfl) pa_nil))
  have i2 := pe_callB (X := Z.tr ((a, oe) :: pn) Z.xe) (p := p10) (pos := p13) (call_isY here I hz hf) gI mI bI (pa_cons v11 (pa_cons (pe_tup (x1 := j2) (pos := p12) (hts a oe pn)) pa_nil))
  have t1 := pt_truth v19 tr1
  exact (pss_cons (ps_if (pt_cmpR (r := rIsNB false) op_isN v1 pe_non (nomark _)) ⟨fun _ _ _ _ _ _ z => z.elim⟩ pss_nil)
    (pss_cons (ps_set (X := Z.tr ((a, oe) :: pn) Z.xe) (i := pl) nd atP (.inl locP) (pe_and i1 (pe_one (pe_not i2))) sw (hf := .inr locP))
    (pss_one (ps_ret (pe_ifExp t1 (hX a oe pn _ (pe_xfY here T no hz hf v16 eb)) (hY a oe pn)))))).run pins s σ H Dn In h
end
theorem vals_only : ∀ (cs : List Addr) (us : List Value), Vals (cs.map V.ref) us → us = cs.map Value.ref
  | [], us, r => by cases r; rfl
  | c :: cs, us, r => by
    cases r with
    | cons r1 r2 =>
      cases r1
      rw [vals_only cs _ r2]; rfl
theorem plain_tells {C : Cf} {i y pl N : Nat} {L : Bool} {tY : TE} {A dx : Addr} {f : Str} {cs : List Addr} {g : Gp} {F Fx F1 H1 : Hp} {own : Ow} {σ : L2.St} {s : DS} {Dn : Ends} {d : D} {v : V} (hi : i < N) (hy : y < N) (hp : pl < N) (ne : i ≠ y) (ne2 : pl ≠ y) (few : cs.length ≤ 1000)
    (k1 : PySem.W.kitOne C.K (.ref A) (.type "ValueError") = some true) (k2 : PySem.W.kitAny C.K (.ref A) (cs.map Value.ref) = some false) (R : RelS C g F Fx F1 H1 own σ s)
    (fin : ∀ F2 H2 own2, RelS C g F Fx F2 H2 own2 σ s → ∀ v, SlR C g F2 H2 (fun a => own2 a = some .v) (some v) (if L = true then .ow [d] else .fz d) → Dn.rt v H2) (hdx : H1 dx = some (.xd [(f, v)])) (hv : Rp C g F1 v d) {a : Addr} {τ : L2.St} (hl : τ.length = N) :
    tsKeep i y a (.ref A) (some dx) { nx := fun τ G => rkPl C.K y pl A f cs L tY a (.ref A) (some dx) Dn (τ.set i none) G, rt := Dn.rt, bk := fun τ G => Dn.bk (τ.set i none) G, ct := fun τ G => Dn.ct (τ.set i none) G } (τ.set i (some (.ref a))) H1 := by
  have si : (τ.set i (some (V.ref a)))[i]? = some (some (.ref a)) := by rw [List.getElem?_set_self (by omega)]
  refine ⟨.ref a, si, ?_⟩
  have sy : (((τ.set i (some (V.ref a))).set y (some (V.ref a))).set i none)[y]? = some (some (.ref a)) := by
    rw [List.getElem?_set_ne ne, List.getElem?_set_self (by rw [List.length_set]; omega)]
  have sl : (((τ.set i (some (V.ref a))).set y (some (V.ref a))).set i none).length = N := by rw [List.length_set, List.length_set, List.length_set]; exact hl
  refine ⟨dx, rfl, rfl, ?_⟩
  refine ⟨.ref a, sy, rfl, false, rfl, ?_⟩
  refine ⟨.ref a, sy, ?_⟩
  refine ⟨.ty "ValueError", true, [(f, v)], rfl, hdx, .inl ⟨.type "ValueError", fun u r => r, k1⟩, true, rfl, ?_⟩
  rw [if_pos rfl]
  refine ⟨.ref a, sy, ?_⟩
  refine ⟨by rw [List.length_map, sizeLine_eq]; omega, fun t ht => ?_⟩
  have R2 := R.grow (upd_le (o := .tup (cs.map V.ref)) ht)
  have hdx2 : (upd H1 t (.tup (cs.map V.ref))) dx = some (.xd [(f, v)]) := by rw [upd_ne (fun z => by rw [← z, hdx] at ht; cases ht)]; exact hdx
  refine ⟨.ref t, false, [(f, v)], rfl, hdx2, .inr ⟨t, _, _, rfl, upd_same, vals_only cs, k2⟩, false, rfl, ?_⟩
  have sp : ((((τ.set i (some (V.ref a))).set y (some (V.ref a))).set i none).set pl (some (V.bl true)))[pl]? = some (some (.bl true)) := by rw [List.getElem?_set_self (by omega)]
  have sy2 : ((((τ.set i (some (V.ref a))).set y (some (V.ref a))).set i none).set pl (some (V.bl true)))[y]? = some (some (.ref a)) := by rw [List.getElem?_set_ne ne2]; exact sy
  refine ⟨.bl true, sp, true, rfl, ?_⟩
  dsimp only
  rw [if_pos rfl]
  cases L with
  | true =>
    refine ⟨.ref a, sy2, rfl, rfl, dx, _, v, rfl, hdx2, by simp, ?_⟩
    refine ⟨by show (1 : Nat) ≤ sizeLine; rw [sizeLine_eq]; decide, fun t2 ht2 => ?_⟩
    have R3 := R2.newOwn (o := .lst [v]) ht2
    exact fin _ _ _ R3 (.ref t2) ⟨t2, [v], rfl, by show own1 own t2 t2 = _; unfold own1; rw [if_pos rfl], upd_same, .cons hv .nil⟩
  | false =>
    refine ⟨.ref a, sy2, rfl, rfl, dx, _, v, rfl, hdx2, by simp, ?_⟩
    exact fin _ _ _ R2 v ⟨v, rfl, hv⟩
end DL
namespace DL
open PySem PySem.Spec L2
open PyProof.Rows hiding St
def thD (P : Addr) (q : Str) (kok : D → Option D) (kex : Exn → Option D) (fb : DS → Oc Sl) : DS → Oc Sl := fun s => match (s.sl[(0 : Nat)]? : Option Sl) with
  | some (.tb P1 q1) => if P1 = P ∧ q1 = q then (match fr fb s with
      | .ok d s1 => (match kok d with
        | some d' => .ok (.fz d') s1
        | none => .wr)
      | .ex x s1 => (match kex x with
        | some d => .ok (.fz d) s1
        | none => .wr)
      | .wr => .wr) else .wr
  | _ => .wr
def ThOk (C : Cf) (N : List Str) (kok : D → Option D) (tB : (WX → TE) → TS) : Prop :=
  ∀ {g : Gp} {F0 Fx H1 : Hp} {σ : L2.St} {s2 : DS} {ta : WX → TE} {Fin : VK} {d d' : D} {f : Addr}, kok d = some d' →
    (∀ W (τ : L2.St) (Q : VK) (G : Hp), LeH H1 G → τ[0]? = some (some (V.ref f)) → (∀ F2 H2 own2, RelS C g F0 Fx F2 H2 own2 σ s2 → ∀ v, Rp C g F2 v d → Q v H2) → ta W τ G Q) →
    (∀ F2 H2 own2, RelS C g F0 Fx F2 H2 own2 σ s2 → ∀ v, Rp C g F2 v d' → Fin v H2) → tB ta { nx := fun _ H' => Fin .non H', rt := Fin } (L2.start N [V.ref f]) H1
def ThEx (C : Cf) (N : List Str) (kex : Exn → Option D) (tB : (WX → TE) → TS) : Prop :=
  ∀ {g : Gp} {F0 Fx H1 : Hp} {σ : L2.St} {s2 : DS} {ta : WX → TE} {Fin : VK} {x : Exn} {d' : D} {f : Addr}, kex x = some d' →
    (∀ (W : WX) (τ : L2.St) (Q : VK) (G : Hp), LeH H1 G → τ[0]? = some (some (V.ref f)) → (∀ F2 H2 own2, RelS C g F0 Fx F2 H2 own2 σ s2 → ∀ cl dx vs, C.mg x.c = some (.ref cl) → H2 dx = some (.xd ((x.fs.map (·.1)).zip vs)) → RpL C g F2 vs (x.fs.map (·.2)) → ∀ τ' : L2.St, τ'.length = N.length → W (.ref cl) (some dx) τ' H2) → ta W τ G Q) →
    (∀ F2 H2 own2, RelS C g F0 Fx F2 H2 own2 σ s2 → ∀ v, Rp C g F2 v d' → Fin v H2) → tB ta { nx := fun _ H' => Fin .non H', rt := Fin } (L2.start N [V.ref f]) H1
theorem eo_thunk {X : Cx} {E : XK} {k : Nat} {c P gA : Addr} {x : Str} {pg : Arguments} {sg : Scope} {fd : FuncData} {N : List Str} {body0 : List Stmt} {kok : D → Option D} {kex : Exn → Option D} {tB : (WX → TE) → TS} {params : Arguments} {body : Expr} {scope : Scope}
    {fb : DS → Oc Sl} {p2 p3 p lpos pos : Pos}
    (F : FunD X.K x x pg body0 sg [] [] gA fd) (S : FnScope (("asked" : Str) :: N) ["asked"] sg) (va : Vis sg "asked")
    (hm : X.mg x = some (.ref gA)) (hk : PySem.W.keepIn X.K (.ref gA) = true) (hb : L2.Binds X.K fd ["asked"] [])
    (hB : ∀ (cdv : Value) (s : Shared) (H : Hp) (ta : WX → TE), (∀ (W : WX) (pn : List (Addr × Obj)) (xe : Value → Shared → Prop), Takes ((cxOf C8.CX0 X.prog X.w X.K X.mg X.base (("asked" : Str) :: N) x sg gA cdv X.A X.stack s H C8.E0).nox.tr pn xe) W → PE ((cxOf C8.CX0 X.prog X.w X.K X.mg X.base (("asked" : Str) :: N) x sg gA cdv X.A X.stack s H C8.E0).nox.tr pn xe) (.Call (.Name "asked" p2) [] [] p3) (ta W)) →
      PSs (cxOf C8.CX0 X.prog X.w X.K X.mg X.base (("asked" : Str) :: N) x sg gA cdv X.A X.stack s H C8.E0).nox body0 (tB ta))
    (hok : ThOk ⟨X.K, X.mg⟩ (("asked" : Str) :: N) kok tB) (hex : ThEx ⟨X.K, X.mg⟩ (("asked" : Str) :: N) kex tB)
    (B : LamX.TabB X.base X.mg c P) (atC : X.env.code = .ref c) (hr : Room (k + 2) X.A) (L : LamX.LamS X.env.scope scope) (noDef : defaultsOf params X.env = ([], []))
    (binds : ∀ (q : Str) (cl : List (Str × Addr)) (pm cv ctv : Value), bindArgs (PySem.W.kla_fn "<lambda>" q params body scope cl pm cv ctv) ⟨[], []⟩ = pure [])
    (hbody : ∀ (A : Around) (outer : List Env) (s : Shared) (H : Hp) (E1 : XK) (f c1 : Addr), Room k (A.deeper (LamX.lamEnv X scope s.heap.objs.size f c1)) → EO (LamX.lamCx X A outer s H E1 scope f c1) E1 body fb)
    (hg : Gl X x := by rfl) (hdb : (x == ("__debug__" : Str)) = false := by decide) :
    EO X E (.Call (.Name x p) [.Lambda params body scope lpos] [] pos) (thD P (X.env.qual ++ "<lambda>") kok kex fb) := by
  refine ⟨fun pins s0 σ H Q I goal => ?_⟩
  obtain ⟨g, Fx, F0, own, s, R, q⟩ := goal
  unfold thD at q
  split at q
  · rename_i P1 q1 slot
    split at q
    · rename_i same
      obtain ⟨rfl, rfl⟩ := same
      have lt0 : 0 < σ.length := by rw [← R.len]; exact (List.getElem?_eq_some_iff.mp slot).1
      have only : g.T = [(P1, X.env.qual ++ "<lambda>")] := R.at_ 0 _ σ[0] slot (List.getElem?_eq_getElem lt0)
      obtain ⟨oc, od, dV, kV, doc, pm, an, cdv, ct, osl, rfl, at_, code, _, _⟩ := F.ex
      refine wpAny_Call_Name_kw (ld_glob I hg hm ?_ hdb)
      refine PySem.W.callWith_K (h₀ := X.base) I.ok.mod.kin hk ?_ (by rfl) (by rfl)
      show wpAny _ _ (spliced ((false, eval (.Lambda params body scope lpos) X.env) :: backTo pos (starEach [] X.env))) _ _ s0
      refine Calls.spliced_cons (lam_mk I B atC only R.le R.tab noDef (L.has I.ok) fun f c1 pm2 ctv F1 H1 s1 I1 M hf hfn hfr hco => ?_)
      refine Calls.spliced_nil ⟨I1.kIn, ?_⟩
      have R1 := R.made only M
      have rc : codeAny (model X.prog X.w) X.A (.call (.ref gA) ⟨[.ref f], []⟩) (CR C8.CX0 X.stack X.prog X.w H1 s1 Q C8.E0) s1 := by
        refine LamX.run_ofS (N := (("asked" : Str) :: N)) (ps := ["asked"]) (us := [.ref f]) (vs := [.ref f]) at_ code S hr I1.env0 (hb s1 [.ref f] I1.kIn rfl) (.cons rfl .nil) rfl fun hr2 => ?_
        refine ⟨_, (hB cdv s1 H1 (fun W τ G Q2 => ∃ Ech : XK, (∀ (cls : Value) (d : Option Addr) (τ' : L2.St) (G' : Hp), Ech cls d G' → τ'.length = (("asked" : Str) :: N).length → W cls d τ' G') ∧ τ[0]? = some (some (V.ref f)) ∧ G c1 = some (LamX.CodeO c1 (X.env.qual ++ "<lambda>")) ∧ tF ⟨X.K, X.mg⟩ Ech (fr fb) σ G Q2)
          (fun W pn xe tk => ⟨fun pinsZ sZ τ G Q2 IZ h => ?_⟩)).nox, ?_⟩
        · obtain ⟨Ech, hW, e0, e1, e2⟩ := h
          have act := LamX.pe_act (CXg := C8.CX0) (Eg := C8.E0) (Ng := (("asked" : Str) :: N)) (qg := x) (sg := sg) (g := gA) (cdg := cdv) (i := 0) (a := "asked") (E := Ech) (tb := tF ⟨X.K, X.mg⟩ Ech (fr fb)) (p1 := p2) (p2 := p3) I1 L hf hfn hfr (binds _ _ _ _ _) (takes_len tk) (fun cls d τ' G' z hl => hW cls d τ' G' z hl) hr2 (fun A outer s H hr3 => (hbody A outer s H Ech f c1 hr3).fr) rfl va
          exact act.run pinsZ sZ τ G Q2 IZ ⟨e0, e1, e2⟩
        · have codeAt := M.le _ _ hco
          cases e : fr fb s with
          | ok d s2 =>
            rw [e] at q
            have q : Post _ E g F0 Fx σ _ (match kok d with | some d' => Oc.ok (Sl.fz d') s2 | none => Oc.wr) := q
            cases ec : kok d with
            | some d' =>
              rw [ec] at q
              refine hok (g := g) (F0 := F1) (Fx := Fx) (σ := σ) (s2 := s2) ec (fun W τ Q2 G2 hle h0 hq => ⟨fun _ _ _ => False, fun _ _ _ _ z => z.elim, h0, hle _ _ codeAt, g, Fx, F1, own, s, R1.refl.grow hle, ?_⟩) fun F2 H2 own2 R2 v hv => q F2 H2 own2 (R1.trans R2 fun _ _ z => z) v ⟨v, rfl, hv⟩
              rw [e]
              exact fun F2 H2 own2 R2 v hv => hq F2 H2 own2 R2 v hv
            | none => rw [ec] at q; exact q.elim
          | ex y s2 =>
            rw [e] at q
            have q : Post _ E g F0 Fx σ _ (match kex y with | some d => Oc.ok (Sl.fz d) s2 | none => Oc.wr) := q
            cases ec : kex y with
            | some d =>
              rw [ec] at q
              refine hex (g := g) (F0 := F1) (Fx := Fx) (σ := σ) (s2 := s2) ec (fun W τ Q2 G2 hle h0 hq => ⟨fun cls d G' => ∀ τ' : L2.St, τ'.length = (("asked" : Str) :: N).length → W cls d τ' G', fun cls d τ' G' z hl => z τ' hl, h0, hle _ _ codeAt, g, Fx, F1, own, s, R1.refl.grow hle, ?_⟩) fun F2 H2 own2 R2 v hv => q F2 H2 own2 (R1.trans R2 fun _ _ z => z) v ⟨v, rfl, hv⟩
              rw [e]
              exact fun F2 H2 own2 R2 cl dx vs hcl hdx hvs τ' hl => hq F2 H2 own2 R2 cl dx vs hcl hdx hvs τ' hl
            | none => rw [ec] at q; exact q.elim
          | wr => rw [e] at q; exact q.elim
      refine wpAny_call (codeAny_mono rc fun r s2 done => ?_)
      match r, done with
      | .error e, z => exact (show False from z).elim
      | .ok (.ret u), z => exact I1.after z
      | .ok .next, z => exact z.elim
      | .ok .brk, z => exact z.elim
      | .ok .cont, z => exact z.elim
    · exact q.elim
  · exact q.elim
end DL
namespace DL
open PySem PySem.Spec L2
open PyProof.Rows hiding St
def tTold (K : PySem.W.Frag) (A : Addr) (f : Str) (cs : List Addr) (tY : TE) : (WX → TE) → TS := fun ta =>
  tSeq (tAsg (tTup (tCons (tC .non) (tCons (tC .non) tNil))) (gTup K 2 (gCons (gName 1) (gCons (gName 2) gNil))))
    (fun D σ H => tAsg (ta (wAsK K 3 (fun _ _ _ _ => False) D (rkPl K 1 4 A f cs false tY) [(.ref A, tsKeep 3 1)])) (gName 2) { D with nx := fun τ G => tSeq (tIfS (tTest (tOp (rIsNB false) (tVar 1) (tC .non))) (tRet (tLst (tCons (tVar 2) tNil))) tNext) (fun _ _ _ => False) D τ G } σ H)
def kokT (d : D) : Option D := some (.lst [d])
def kexT (c f : Str) (x : Exn) : Option D := if x.c = c then (match x.fs with
  | [(f', d)] => if f' = f then some d else none
  | _ => none) else none
section
variable {C : Cf} {A : Addr} {c f : Str} {cs : List Addr} {tY : TE} {n1 n2 n3 n4 : Str}
theorem toldK_ok : ThOk C ["asked", n1, n2, n3, n4] kokT (tTold C.K A f cs tY) := by
  intro g F0 Fx H1 σ s2 ta Fin d d' f0 hk call fin
  cases hk
  refine ⟨by show (2 : Nat) ≤ sizeLine; rw [sizeLine_eq]; decide, fun t ht => ⟨t, [.non, .non], rfl, .inl (.inl upd_same), rfl, _, _, rfl, _, _, rfl, rfl, ?_⟩⟩
  refine call _ _ _ _ (upd_le ht) rfl fun F2 H2 own2 R2 v hv => ?_
  refine ⟨.non, rfl, rfl, true, rfl, ?_⟩
  refine ⟨v, rfl, ?_⟩
  refine ⟨by show (1 : Nat) ≤ sizeLine; rw [sizeLine_eq]; decide, fun t ht => ?_⟩
  exact fin _ _ _ (R2.new (o := .lst [v]) ht) (.ref t) (.lst upd_same (.cons (hv.mono (upd_le (R2.toRel.Fnone ht))) .nil))
theorem toldK_ex (hm : C.mg c = some (.ref A)) (few : cs.length ≤ 1000) (e1 : PySem.W.exmOne C.K (.ref A) (.ref A) = some true) (k1 : PySem.W.kitOne C.K (.ref A) (.type "ValueError") = some true) (k2 : PySem.W.kitAny C.K (.ref A) (cs.map Value.ref) = some false) :
    ThEx C ["asked", n1, n2, n3, n4] (kexT c f) (tTold C.K A f cs tY) := by
  intro g F0 Fx H1 σ s2 ta Fin x d' f0 hk call fin
  unfold kexT at hk
  split at hk
  · rename_i same
    split at hk
    · rename_i f' d is
      split at hk
      · rename_i same2
        cases hk
        subst same2
        refine ⟨by show (2 : Nat) ≤ sizeLine; rw [sizeLine_eq]; decide, fun t ht => ⟨t, [.non, .non], rfl, .inl (.inl upd_same), rfl, _, _, rfl, _, _, rfl, rfl, ?_⟩⟩
        refine call _ _ _ _ (upd_le ht) rfl fun F2 H2 own2 R2 cl dx vs hcl hdx hvs τ' hl => ?_
        rw [same, hm] at hcl
        cases hcl
        rw [is] at hdx hvs
        have hvs : RpL C g F2 vs [d'] := hvs
        cases hvs with
        | cons hv r =>
          cases r
          refine ⟨true, e1, fun _ a ha => plain_tells (N := 5) (L := false) (by decide) (by decide) (by decide) (by decide) (by decide) few k1 k2 R2 (fun F3 H3 own3 R3 v hv => ?_) hdx hv hl, fun z => nomatch z⟩
          obtain ⟨v', e, r⟩ := hv
          cases e
          exact fin F3 H3 own3 R3 _ r
      · cases hk
    · cases hk
  · cases hk
end
end DL
namespace DL
open PySem PySem.Spec L2
open PyProof.Rows hiding St
def rEqN (K : PySem.W.Frag) : R2 := fun x y H Q => ∃ a b xs, x = .ref a ∧ y = .ref b ∧ SqL K H a xs ∧ SqL K H b [] ∧ Q (.bl xs.isEmpty) H
section
variable {X : Cx} {E : XK} {a b e : Expr} {f h : DS → Oc Sl} {pos kp : Pos}
theorem op_eqN (hu : X.A.units + 64 < cLine) : OpR X (compareOp .Eq) (rEqN X.K) := by
  intro pins s σ H x y v u Q I rx ry h
  obtain ⟨a, b, xs, rfl, rfl, ha, hb, q⟩ := h
  cases rx
  cases ry
  obtain ⟨its, r1, p1, _⟩ := I.list ha
  obtain ⟨its2, r2, p2, _⟩ := I.list hb
  cases r2
  have l1 := r1.length
  cases xs with
  | nil =>
    cases r1
    exact SeqAt.RcAt.lists (e := fun _ => true) p1.isList p2.isList rfl (by omega) (fun j h1 => absurd h1 (Nat.not_lt_zero _)) _ _ _ _ ⟨.bl true, H, I, rfl, q⟩
  | cons z zs =>
    have hne : (its.toArray.size != (#[] : Array Value).size) = true := by
      rw [List.length_cons] at l1
      simp
      exact fun e => by rw [e] at l1; simp at l1
    exact SeqAt.RcAt.lists_lengths p1.isList p2.isList hne (by omega) _ _ _ _ ⟨.bl false, H, I, rfl, q⟩
def opEqN : D → D → DS → Oc Sl
  | .lst xs, .lst [], s => .ok (.fz (.bl xs.isEmpty)) s
  | _, _, _ => .wr
theorem opD_eqN {C : Cf} : OpD C E (rEqN C.K) opEqN := by
  intro g F0 Fx F H own σ s x y d e Q R hx hy p
  unfold opEqN at p
  split at p
  · cases hx with | lst h1 r1 => cases hy with | lst h2 r2 =>
    cases r2
    refine ⟨_, _, _, rfl, rfl, .inl (.inl (R.le _ _ h1)), .inl (.inl (R.le _ _ h2)), ?_⟩
    have e : ∀ {vs : List V} {ds : List D}, RpL C g F vs ds → vs.isEmpty = ds.isEmpty := fun r => by cases r <;> rfl
    rw [e r1]
    exact p.ok R _ ⟨_, rfl, .bl _⟩
  · exact p.elim
theorem et_eqN (hu : X.A.units + 64 < cLine) (ha : EO X E a f) (hb : EO X E b h) : ET X E (.Compare a [.Eq] [b] pos) (asB (bin opEqN f h)) := et_cmp (op_eqN hu) opD_eqN ha hb (nomark _)
end
end DL
/- printed by gen.py from the linked text of giveback_k04_standings_or_not -/
namespace K04
open PySem PySem.Spec L2 DL GM
open PyProof.Rows hiding St
theorem txt_of' {K : PySem.W.Frag} {h : Heap} {mg : Str → Option Value} {c0 P0 : Addr} (S : SaysX fa fx fn K h c0 P0) (X : K.In h) (G : h.Ns mainGlobals mg) (c : He.SaysD fa fn K) : Txt K mg where
  z_len := He.free_ok X G (c.fact 0 rfl)
  z_abs := He.free_ok X G (c.fact 1 rfl)
  z_list := He.free_ok X G (c.fact 2 rfl)
  z_range := He.free_ok X G (c.fact 3 rfl)
  z_tuple := He.free_ok X G (c.fact 4 rfl)
  z_bool := He.free_ok X G (c.fact 5 rfl)
  z_isinstance := He.free_ok X G (c.fact 6 rfl)
  z_int := He.free_ok X G (c.fact 7 rfl)
  z_all := He.free_ok X G (c.fact 8 rfl)
  z_repr := He.free_ok X G (c.fact 9 rfl)
  z_sorted := He.free_ok X G (c.fact 10 rfl)
  z_ValueError := He.free_ok X G (c.fact 11 rfl)
  c_MOST_CORDS := He.int_ok X G (c.fact 12 rfl)
  c_MOST_POSTS := He.int_ok X G (c.fact 13 rfl)
  g__law_pen := He.glo_ok X G (c.fact 14 rfl)
  g__law_draw := He.glo_ok X G (c.fact 15 rfl)
  g__law_pick := He.glo_ok X G (c.fact 16 rfl)
  g__law_shuffled := He.glo_ok X G (c.fact 17 rfl)
  g__law_any_web := He.glo_ok X G (c.fact 18 rfl)
  g__law_great := He.glo_ok X G (c.fact 19 rfl)
  g__law_number := He.glo_ok X G (c.fact 20 rfl)
  g__law_standing := He.glo_ok X G (c.fact 21 rfl)
  g_is_whole := He.glo_ok X G (c.fact 22 rfl)
  g_is_tie := He.glo_ok X G (c.fact 23 rfl)
  g_need_web := He.glo_ok X G (c.fact 24 rfl)
  g__law_anything := He.glo_ok X G (c.fact 25 rfl)
  g__law_bent := He.glo_ok X G (c.fact 26 rfl)
  g__law_whole := He.glo_ok X G (c.fact 27 rfl)
  g__law_due := He.glo_ok X G (c.fact 28 rfl)
  g_is_row_of := He.glo_ok X G (c.fact 29 rfl)
  g_need_standing := He.glo_ok X G (c.fact 30 rfl)
  g_beat_on := He.glo_ok X G (c.fact 31 rfl)
  g_beat_back := He.glo_ok X G (c.fact 32 rfl)
  g_run_of := He.glo_ok X G (c.fact 33 rfl)
  g_steps_of := He.glo_ok X G (c.fact 34 rfl)
  g_standing_behind := He.glo_ok X G (c.fact 35 rfl)
  g_never_paper := He.glo_ok X G (c.fact 36 rfl)
  g_comes_back := He.glo_ok X G (c.fact 37 rfl)
  g_shows_never := He.glo_ok X G (c.fact 38 rfl)
  g__law_told := He.glo_ok X G (c.fact 39 rfl)
  g_law := He.glo_ok X G (c.fact 40 rfl)
  g_Web := He.glo_ok X G (c.fact 41 rfl)
  k_Web := He.cls_ok (c.fact 42 rfl)
  mk_Web := He.mkr_ok (c.fact 43 rfl)
  g_NoStanding := He.glo_ok X G (c.fact 44 rfl)
  g_NoWeb := He.glo_ok X G (c.fact 45 rfl)
  g_NoPart := He.glo_ok X G (c.fact 46 rfl)
  f_Web_rows_near := He.noat_ok (c.fact 47 rfl)
  f_Web_size := He.noat_ok (c.fact 48 rfl)
  f_Web_rows := He.noat_ok (c.fact 49 rfl)
  f_Web_known_kinds := He.noat_ok (c.fact 50 rfl)
  M_Web___init__ := He.meth_ok (c.fact 51 rfl)
  M_Web___len__ := He.meth_ok (c.fact 52 rfl)
  D__law_pen := c.def_ 0 (d := dd__law_pen) rfl
  D__law_draw := c.def_ 1 (d := dd__law_draw) rfl
  D__law_pick := c.def_ 2 (d := dd__law_pick) rfl
  D__law_shuffled := c.def_ 3 (d := dd__law_shuffled) rfl
  D__law_any_web := c.def_ 4 (d := dd__law_any_web) rfl
  D__law_great := c.def_ 5 (d := dd__law_great) rfl
  D__law_number := c.def_ 6 (d := dd__law_number) rfl
  D__law_standing := c.def_ 7 (d := dd__law_standing) rfl
  D_is_whole := c.def_ 8 (d := dd_is_whole) rfl
  D_is_tie := c.def_ 9 (d := dd_is_tie) rfl
  D_need_web := c.def_ 10 (d := dd_need_web) rfl
  D_Web___init__ := c.def_ 11 (d := dd_Web___init__) rfl
  D__law_anything := c.def_ 12 (d := dd__law_anything) rfl
  D__law_bent := c.def_ 13 (d := dd__law_bent) rfl
  D__law_whole := c.def_ 14 (d := dd__law_whole) rfl
  D__law_due := c.def_ 15 (d := dd__law_due) rfl
  D_is_row_of := c.def_ 16 (d := dd_is_row_of) rfl
  D_Web___len__ := c.def_ 17 (d := dd_Web___len__) rfl
  D_NoStanding___init__ := c.def_ 18 (d := dd_NoStanding___init__) rfl
  D_need_standing := c.def_ 19 (d := dd_need_standing) rfl
  D_beat_on := c.def_ 20 (d := dd_beat_on) rfl
  D_beat_back := c.def_ 21 (d := dd_beat_back) rfl
  D_run_of := c.def_ 22 (d := dd_run_of) rfl
  D_steps_of := c.def_ 23 (d := dd_steps_of) rfl
  D_standing_behind := c.def_ 24 (d := dd_standing_behind) rfl
  D_never_paper := c.def_ 25 (d := dd_never_paper) rfl
  D_comes_back := c.def_ 26 (d := dd_comes_back) rfl
  D_shows_never := c.def_ 27 (d := dd_shows_never) rfl
  D__law_told := c.def_ 28 (d := dd__law_told) rfl
  D_law := c.def_ 29 (d := dd_law) rfl
  sysM := Option.isSome_iff_exists.mp (S.facts (fx.getD 0 fun _ => false) (mem_at (i := 0) rfl))
  e_NoStanding_NoStanding := of_decide_eq_true (S.facts (fx.getD 1 fun _ => false) (mem_at (i := 1) rfl))
  k2_NoStanding := of_decide_eq_true (S.facts (fx.getD 2 fun _ => false) (mem_at (i := 2) rfl))
  X_NoStanding := oexB_ok (S.facts (fx.getD 3 fun _ => false) (mem_at (i := 3) rfl))
  i_NoStanding := (xinB_ok (S.facts (fx.getD 4 fun _ => false) (mem_at (i := 4) rfl))).1
  t_NoStanding := (xinB_ok (S.facts (fx.getD 5 fun _ => false) (mem_at (i := 5) rfl))).2.1
  n_NoStanding := (xinB_ok (S.facts (fx.getD 6 fun _ => false) (mem_at (i := 6) rfl))).2.2
  E_NoStanding := excB_ok (S.facts (fx.getD 7 fun _ => false) (mem_at (i := 7) rfl))
  V_NoStanding := xfB_ok (S.facts (fx.getD 8 fun _ => false) (mem_at (i := 8) rfl))
  k1_NoStanding := of_decide_eq_true (S.facts (fx.getD 9 fun _ => false) (mem_at (i := 9) rfl))
theorem txt_of {K : PySem.W.Frag} {h : Heap} {mg : Str → Option Value} {c0 P0 : Addr} (S : SaysX fa fx fn K h c0 P0) (G : h.Ns mainGlobals mg) : Txt K mg := txt_of' S S.inK G S.says
section
variable {P : Program} {w : World} {K : PySem.W.Frag} {mg : Str → Option Value} {base : Heap}
theorem sc__law_pen : FnScope ["script"] ["script"] (defScope s__law_pen) := ⟨rfl, rfl, rfl, by decide +kernel, rfl, by decide +kernel, by decide +kernel⟩
theorem ok__law_pen (T : Txt K mg) : ∃ fd, FnOk P w K mg base (L2.CX P w) 1 (He.ga K "_law_pen") fd ["script"] (spPen K) ∧ Binds K fd ["script"] [] ∧ PySem.W.keepIn K (.ref (He.ga K "_law_pen")) = true := by
  obtain ⟨fd, F⟩ := T.D__law_pen
  refine ⟨fd, F.ok sc__law_pen (fun vs H Q E h => ?_) (fun cdv A outer s H vs Q E hr h => ⟨_, ?_, pure_pen h⟩), F.bindsN fun _ _ _ _ _ _ us hl => match us, hl with | [_], _ => rfl, F.kp⟩
  · obtain ⟨a, ns, rfl, _⟩ := h
    rfl
  · exact pss_one (ps_ret (pe_disp (pps_cons pe_str (pe_callTy call_list_of rfl T.z_list (by decide +kernel) (pa_cons (pe_slice sl_list (pv 0) po_none (po_some pe_int)) pa_nil)) (pps_cons pe_str pe_int (pps_cons pe_str pe_int pps_nil))) rfl rfl (by simp) (by decide)))
theorem sc__law_draw : FnScope ["pen", "many", "digit", "turn", "cell", "primes", "prime", "drawn"] ["pen", "many"] (defScope s__law_draw) := ⟨rfl, rfl, rfl, by decide +kernel, rfl, by decide +kernel, by decide +kernel⟩
theorem ok__law_draw (T : Txt K mg) : OkF P w K mg base 1 (He.ga K "_law_draw") ["pen", "many"] m__law_draw := by
  obtain ⟨fd, F⟩ := T.D__law_draw
  refine ⟨⟨fd, fn_DD F sc__law_draw fun cdv A outer s H E hr => ?_, F.bindsN fun _ _ _ _ _ _ us hl => match us, hl with | [_, _], _ => rfl⟩, F.kp⟩
  exact (sb_cons (ss_if (et_gt (eo_penL hr.units (eo_var (pv 0))) eo_int) (sb_cons (ss_set (fun _ h => ps_set (i := 2) sc__law_draw.nd rfl (by first | exact Or.inl rfl | exact Or.inr rfl) h) (eo_mod (eo_penL hr.units (eo_var (pv 0))) (eo_var (pv 1))))
    (sb_cons (ss_penL hr.units (eo_fdiv (eo_penL hr.units (eo_var (pv 0))) (eo_var (pv 1))) (eo_var (pv 0)))
    (sb_one (ss_ret (eo_mv (pv 2)))))) sb_nil)
    (sb_cons (ss_set (fun _ h => ps_set (i := 3) sc__law_draw.nd rfl (by first | exact Or.inl rfl | exact Or.inr rfl) h) (eo_penT hr.units (eo_var (pv 0))))
    (sb_cons (ss_penT hr.units (eo_add (eo_var (pv 3)) eo_int) (eo_var (pv 0)))
    (sb_cons (ss_set (fun _ h => ps_set (i := 4) sc__law_draw.nd rfl (by first | exact Or.inl rfl | exact Or.inr rfl) h) (eo_add (eo_mul eo_int (eo_var (pv 3))) eo_int))
    (sb_cons (ss_if (et_ne hr.units (eo_penC hr.units (eo_var (pv 0))) (eo_lst ea_nil)) (sb_one (ss_set (fun _ h => ps_set (i := 4) sc__law_draw.nd rfl (by first | exact Or.inl rfl | exact Or.inr rfl) h) (eo_item (ep_val (eo_penC hr.units (eo_var (pv 0)))) (eo_mod (eo_var (pv 3)) (eo_len T.z_len (ep_val (eo_penC hr.units (eo_var (pv 0))))))))) sb_nil)
    (sb_cons (ss_if (ew_and (et_lt (eo_var (pv 3)) (eo_len T.z_len (ep_val (eo_penC hr.units (eo_var (pv 0)))))) (ew_and1 (et_ge (eo_abs T.z_abs (ep_pn (pv 4))) (eo_pow eo_int eo_int)))).et (sb_cons (ss_penL hr.units (eo_fdiv (eo_sub (eo_abs T.z_abs (ep_pn (pv 4))) (eo_pow eo_int eo_int)) (eo_var (pv 1))) (eo_var (pv 0)))
    (sb_one (ss_ret (eo_mod (eo_sub (eo_abs T.z_abs (ep_pn (pv 4))) (eo_pow eo_int eo_int)) (eo_var (pv 1)))))) sb_nil)
    (sb_cons (ss_set (fun _ h => ps_set (i := 5) sc__law_draw.nd rfl (by first | exact Or.inl rfl | exact Or.inr rfl) h) (eo_lst (ea_cons eo_int (ea_cons eo_int (ea_cons eo_int (ea_cons eo_int (ea_cons eo_int ea_nil)))))))
    (sb_cons (ss_set (fun _ h => ps_set (i := 6) sc__law_draw.nd rfl (by first | exact Or.inl rfl | exact Or.inr rfl) h) (eo_item (ep_pn (pv 5)) (eo_mod (eo_var (pv 3)) eo_int)))
    (sb_cons (ss_set (fun _ h => ps_set (i := 7) sc__law_draw.nd rfl (by first | exact Or.inl rfl | exact Or.inr rfl) h) (eo_mod (eo_add (eo_add (eo_mul (eo_mod (eo_var (pv 4)) (eo_var (pv 6))) eo_int) (eo_mul (eo_mul eo_int (eo_var (pv 3))) (eo_var (pv 3)))) eo_int) (eo_var (pv 6))))
    (sb_cons (ss_set (fun _ h => ps_set (i := 7) sc__law_draw.nd rfl (by first | exact Or.inl rfl | exact Or.inr rfl) h) (eo_mod (eo_mul (eo_var (pv 7)) (eo_add (eo_var (pv 7)) eo_int)) (eo_item (ep_pn (pv 5)) (eo_mod (eo_add (eo_var (pv 3)) eo_int) eo_int))))
    (sb_one (ss_ret (eo_mod (eo_fdiv (eo_mod (eo_mul (eo_var (pv 7)) (eo_var (pv 7))) eo_int) eo_int) (eo_var (pv 1)))))))))))))))
theorem sc__law_pick : FnScope ["pen", "some"] ["pen", "some"] (defScope s__law_pick) := ⟨rfl, rfl, rfl, by decide +kernel, rfl, by decide +kernel, by decide +kernel⟩
theorem ok__law_pick (T : Txt K mg) : OkF P w K mg base 2 (He.ga K "_law_pick") ["pen", "some"] m__law_pick := by
  have O__law_draw := ok__law_draw (P := P) (w := w) (base := base) T
  obtain ⟨fd__law_draw, G__law_draw, b__law_draw⟩ := O__law_draw.ex
  obtain ⟨fd, F⟩ := T.D__law_pick
  refine ⟨⟨fd, fn_DD F sc__law_pick fun cdv A outer s H E hr => ?_, F.bindsN fun _ _ _ _ _ _ us hl => match us, hl with | [_, _], _ => rfl⟩, F.kp⟩
  exact (sb_one (ss_ret (eo_item (ep_pn (pv 1)) (eo_call G__law_draw (hr.mono (by decide)) T.g__law_draw O__law_draw.kp b__law_draw .nil passD (fun _ _ => .nil) m__law_draw_n (ea_cons (eo_var (pv 0)) (ea_cons (eo_len T.z_len (ep_pn (pv 1))) ea_nil))))))
theorem sc__law_shuffled : FnScope ["pen", "some", "left", "k"] ["pen", "some"] (defScope s__law_shuffled) := ⟨rfl, rfl, rfl, by decide +kernel, rfl, by decide +kernel, by decide +kernel⟩
theorem ok__law_shuffled (T : Txt K mg) : OkF P w K mg base 2 (He.ga K "_law_shuffled") ["pen", "some"] m__law_shuffled := by
  have O__law_draw := ok__law_draw (P := P) (w := w) (base := base) T
  obtain ⟨fd__law_draw, G__law_draw, b__law_draw⟩ := O__law_draw.ex
  obtain ⟨fd, F⟩ := T.D__law_shuffled
  refine ⟨⟨fd, fn_DD F sc__law_shuffled fun cdv A outer s H E hr => ?_, F.bindsN fun _ _ _ _ _ _ us hl => match us, hl with | [_, _], _ => rfl⟩, F.kp⟩
  exact (sb_cons (ss_set (fun _ h => ps_set (i := 2) sc__law_shuffled.nd rfl (by first | exact Or.inl rfl | exact Or.inr rfl) h) (eo_listOf T.z_list (ep_pn (pv 1))))
    (sb_one (ss_ret (eo_lc rfl sc__law_shuffled.nd (ei_rng1 T.z_range (eo_len T.z_len (ep_pn (pv 2)))) (blkOk_by (own := [("k", 3)]) (by first | decide +kernel | kernel_rfl)) (fun _ _ _ _ _ => (gt_name (pg_name (i := 3) sc__law_shuffled.nd rfl (by first | exact Or.inl rfl | exact Or.inr rfl)) (by decide))) (fun _ _ _ _ _ => ptd_nil) (fun _ _ _ _ _ => (eo_meth1 (fun _ _ h1 h2 => pe_bm PySem.F.plainAttrs_list PySem.F.slot_list_pop PySem.F.type_list_pop mt_popAt h1 h2) (pv 2) mtD_popAt (eo_call G__law_draw (hr.mono (by decide)) T.g__law_draw O__law_draw.kp b__law_draw .nil passB (fun _ _ => .nil) m__law_draw_n (ea_cons (eo_var (pv 0)) (ea_cons (eo_len T.z_len (ep_pn (pv 2))) ea_nil)))))))))
theorem sc__law_any_web : FnScope ["pen", "most", "size", "ties", "sparse", "one", "two", "cords", "k"] ["pen", "most"] (defScope s__law_any_web) := ⟨rfl, rfl, rfl, by decide +kernel, rfl, by decide +kernel, by decide +kernel⟩
theorem ok__law_any_web (T : Txt K mg) : OkF P w K mg base 3 (He.ga K "_law_any_web") ["pen", "most"] m__law_any_web := by
  have O__law_draw := ok__law_draw (P := P) (w := w) (base := base) T
  obtain ⟨fd__law_draw, G__law_draw, b__law_draw⟩ := O__law_draw.ex
  have O__law_pick := ok__law_pick (P := P) (w := w) (base := base) T
  obtain ⟨fd__law_pick, G__law_pick, b__law_pick⟩ := O__law_pick.ex
  have O__law_shuffled := ok__law_shuffled (P := P) (w := w) (base := base) T
  obtain ⟨fd__law_shuffled, G__law_shuffled, b__law_shuffled⟩ := O__law_shuffled.ex
  obtain ⟨fd, F⟩ := T.D__law_any_web
  refine ⟨⟨fd, fn_DD F sc__law_any_web fun cdv A outer s H E hr => ?_, F.bindsN fun _ _ _ _ _ _ us hl => match us, hl with | [_, _], _ => rfl⟩, F.kp⟩
  exact (sb_cons (ss_par1 (by decide) (fun _ h => ps_par rfl sc__law_any_web.nd rfl rfl (by decide) rfl rfl h (by rfl)) (eo_add eo_int (eo_call G__law_draw (hr.mono (by decide)) T.g__law_draw O__law_draw.kp b__law_draw .nil passD (fun _ _ => .nil) m__law_draw_n (ea_cons (eo_var (pv 0)) (ea_cons (eo_var (pv 1)) ea_nil)))) (eo_lst ea_nil))
    (sb_cons (ss_set (fun _ h => ps_set (i := 4) sc__law_any_web.nd rfl (by first | exact Or.inl rfl | exact Or.inr rfl) h) (eo_add eo_int (eo_call G__law_draw (hr.mono (by decide)) T.g__law_draw O__law_draw.kp b__law_draw .nil passD (fun _ _ => .nil) m__law_draw_n (ea_cons (eo_var (pv 0)) (ea_cons eo_int ea_nil)))))
    (sb_cons (ss_for (n := 0) (vs := [5]) PassesOwn.leaving rfl (ei_rng1 T.z_range (eo_var (pv 2))) (gt_name (pg_name (i := 5) sc__law_any_web.nd rfl (by first | exact Or.inl rfl | exact Or.inr rfl)) (by decide)) (sb_one (ss_for (n := 0) (vs := [6]) PassesOwn.leaving rfl (ei_rng2 T.z_range (eo_add (eo_var (pv 5)) eo_int) (eo_var (pv 2))) (gt_name (pg_name (i := 6) sc__law_any_web.nd rfl (by first | exact Or.inl rfl | exact Or.inr rfl)) (by decide)) (sb_one (ss_if (ew_and (et_eq hr.units (eo_call G__law_draw (hr.mono (by decide)) T.g__law_draw O__law_draw.kp b__law_draw .nil passD (fun _ _ => .nil) m__law_draw_n (ea_cons (eo_var (pv 0)) (ea_cons (eo_var (pv 4)) ea_nil))) eo_int) (ew_and1 (et_eq hr.units (eo_call G__law_draw (hr.mono (by decide)) T.g__law_draw O__law_draw.kp b__law_draw .nil passD (fun _ _ => .nil) m__law_draw_n (ea_cons (eo_var (pv 0)) (ea_cons eo_int ea_nil))) eo_int))).et (sb_cons (ss_setC rfl sc__law_any_web.nd rfl rfl (ei_rng1 T.z_range eo_int) (blkOk_by (own := [("k", 8)]) (by first | decide +kernel | kernel_rfl)) (fun _ _ _ _ _ => (gt_name (pg_name (i := 8) sc__law_any_web.nd rfl (by first | exact Or.inl rfl | exact Or.inr rfl)) (by decide))) (fun _ _ _ _ _ => ptd_nil) (fun _ _ _ _ _ => (eo_call G__law_pick (hr.mono (by decide)) T.g__law_pick O__law_pick.kp b__law_pick .nil passB (fun _ _ => .nil) m__law_pick_n (ea_cons (eo_var (pv 0)) (ea_cons (eo_lst (ea_cons eo_int (ea_cons eo_int (ea_cons eo_int (ea_cons eo_int (ea_cons eo_int (ea_cons eo_int (ea_cons eo_int ea_nil)))))))) ea_nil)))) (sw_true rfl rfl rfl (by decide +kernel)))
    (sb_one (ss_expr (fun _ h => ps_expr h) (eo_meth1 (fun _ _ h1 h2 => pe_bm PySem.F.plainAttrs_list PySem.F.slot_list_append PySem.F.type_list_append mt_append h1 h2) (pv 3) mtD_app (eo_tup (ea_cons (eo_var (pv 5)) (ea_cons (eo_var (pv 6)) (ea_cons (eo_item (ep_pn (pv 7)) eo_int) (ea_cons (eo_item (ep_pn (pv 7)) eo_int) ea_nil))))))))) sb_nil)))))
    (sb_one (ss_ret (eo_tup (ea_cons (eo_var (pv 2)) (ea_cons (eo_call G__law_shuffled (hr.mono (by decide)) T.g__law_shuffled O__law_shuffled.kp b__law_shuffled .nil passD (fun _ _ => .nil) m__law_shuffled_n (ea_cons (eo_var (pv 0)) (ea_cons (eo_var (pv 3)) ea_nil))) ea_nil))))))))
theorem sc__law_great : FnScope ["pen", "figures", "found", "k"] ["pen", "figures"] (defScope s__law_great) := ⟨rfl, rfl, rfl, by decide +kernel, rfl, by decide +kernel, by decide +kernel⟩
theorem ok__law_great (T : Txt K mg) : OkF P w K mg base 2 (He.ga K "_law_great") ["pen", "figures"] m__law_great := by
  have O__law_draw := ok__law_draw (P := P) (w := w) (base := base) T
  obtain ⟨fd__law_draw, G__law_draw, b__law_draw⟩ := O__law_draw.ex
  obtain ⟨fd, F⟩ := T.D__law_great
  refine ⟨⟨fd, fn_DD F sc__law_great fun cdv A outer s H E hr => ?_, F.bindsN fun _ _ _ _ _ _ us hl => match us, hl with | [_, _], _ => rfl⟩, F.kp⟩
  exact (sb_cons (ss_set (fun _ h => ps_set (i := 2) sc__law_great.nd rfl (by first | exact Or.inl rfl | exact Or.inr rfl) h) eo_int)
    (sb_cons (ss_for (n := 0) (vs := [3]) PassesOwn.leaving rfl (ei_rng1 T.z_range (eo_var (pv 1))) (gt_name (pg_name (i := 3) sc__law_great.nd rfl (by first | exact Or.inl rfl | exact Or.inr rfl)) (by decide)) (sb_one (ss_set (fun _ h => ps_set (i := 2) sc__law_great.nd rfl (by first | exact Or.inl rfl | exact Or.inr rfl) h) (eo_add (eo_mul eo_int (eo_var (pv 2))) (eo_call G__law_draw (hr.mono (by decide)) T.g__law_draw O__law_draw.kp b__law_draw .nil passD (fun _ _ => .nil) m__law_draw_n (ea_cons (eo_var (pv 0)) (ea_cons eo_int ea_nil)))))))
    (sb_one (ss_ret (eo_mv (pv 2))))))
theorem sc__law_number : FnScope ["pen", "far", "found"] ["pen", "far"] (defScope s__law_number) := ⟨rfl, rfl, rfl, by decide +kernel, rfl, by decide +kernel, by decide +kernel⟩
theorem ok__law_number (T : Txt K mg) : OkF P w K mg base 3 (He.ga K "_law_number") ["pen", "far"] m__law_number := by
  have O__law_great := ok__law_great (P := P) (w := w) (base := base) T
  obtain ⟨fd__law_great, G__law_great, b__law_great⟩ := O__law_great.ex
  have O__law_draw := ok__law_draw (P := P) (w := w) (base := base) T
  obtain ⟨fd__law_draw, G__law_draw, b__law_draw⟩ := O__law_draw.ex
  have O__law_pick := ok__law_pick (P := P) (w := w) (base := base) T
  obtain ⟨fd__law_pick, G__law_pick, b__law_pick⟩ := O__law_pick.ex
  obtain ⟨fd, F⟩ := T.D__law_number
  refine ⟨⟨fd, fn_DD F sc__law_number fun cdv A outer s H E hr => ?_, F.bindsN fun _ _ _ _ _ _ us hl => match us, hl with | [_, _], _ => rfl⟩, F.kp⟩
  exact (sb_cons (ss_set (fun _ h => ps_set (i := 2) sc__law_number.nd rfl (by first | exact Or.inl rfl | exact Or.inr rfl) h) (eo_call G__law_great (hr.mono (by decide)) T.g__law_great O__law_great.kp b__law_great .nil passD (fun _ _ => .nil) m__law_great_n (ea_cons (eo_var (pv 0)) (ea_cons (eo_item (ep_val (eo_lst (ea_cons eo_int (ea_cons eo_int (ea_cons eo_int (ea_cons eo_int (ea_cons (eo_var (pv 1)) ea_nil))))))) (eo_call G__law_draw (hr.mono (by decide)) T.g__law_draw O__law_draw.kp b__law_draw .nil passD (fun _ _ => .nil) m__law_draw_n (ea_cons (eo_var (pv 0)) (ea_cons eo_int ea_nil)))) ea_nil))))
    (sb_one (ss_ret (eo_mul (eo_var (pv 2)) (eo_call G__law_pick (hr.mono (by decide)) T.g__law_pick O__law_pick.kp b__law_pick .nil passD (fun _ _ => .nil) m__law_pick_n (ea_cons (eo_var (pv 0)) (ea_cons (eo_lst (ea_cons eo_int (ea_cons (eo_neg eo_int) (ea_cons eo_int (ea_cons eo_int ea_nil))))) ea_nil)))))))
theorem sc__law_standing : FnScope ["pen", "size", "far", "k", "post"] ["pen", "size", "far"] (defScope s__law_standing) := ⟨rfl, rfl, rfl, by decide +kernel, rfl, by decide +kernel, by decide +kernel⟩
theorem ok__law_standing (T : Txt K mg) : OkF P w K mg base 4 (He.ga K "_law_standing") ["pen", "size", "far"] m__law_standing := by
  have O__law_number := ok__law_number (P := P) (w := w) (base := base) T
  obtain ⟨fd__law_number, G__law_number, b__law_number⟩ := O__law_number.ex
  obtain ⟨fd, F⟩ := T.D__law_standing
  refine ⟨⟨fd, fn_DD F sc__law_standing fun cdv A outer s H E hr => ?_, F.bindsN fun _ _ _ _ _ _ us hl => match us, hl with | [_, _, _], _ => rfl⟩, F.kp⟩
  exact (sb_one (ss_ret (eo_tupleOf T.z_tuple (ep_val (eo_lc rfl sc__law_standing.nd (ei_rng1 T.z_range eo_int) (blkOk_by (own := [("k", 3)]) (by first | decide +kernel | kernel_rfl)) (fun _ _ _ _ _ => (gt_name (pg_name (i := 3) sc__law_standing.nd rfl (by first | exact Or.inl rfl | exact Or.inr rfl)) (by decide))) (fun _ _ _ _ _ => ptd_nil) (fun _ _ _ _ _ => (eo_tupleOf T.z_tuple (ep_val (eo_lc rfl sc__law_standing.nd (ei_rng1 T.z_range (eo_var (pv 1))) (blkOk_by (own := [("post", 4)]) (by first | decide +kernel | kernel_rfl)) (fun _ _ _ _ _ => (gt_name (pg_name (i := 4) sc__law_standing.nd rfl (by first | exact Or.inl rfl | exact Or.inr rfl)) (by decide))) (fun _ _ _ _ _ => ptd_nil) (fun _ _ _ _ _ => (eo_call G__law_number (hr.mono (by decide)) T.g__law_number O__law_number.kp b__law_number .nil passB (fun _ _ => .nil) m__law_number_n (ea_cons (eo_var (pv 0)) (ea_cons (eo_var (pv 2)) ea_nil)))))))))))))
theorem sc_is_whole : FnScope ["thing", "low", "high"] ["thing", "low", "high"] (defScope s_is_whole) := ⟨rfl, rfl, rfl, by decide +kernel, rfl, by decide +kernel, by decide +kernel⟩
theorem ok_is_whole (T : Txt K mg) : OkFd P w K mg base 1 (He.ga K "is_whole") ["thing", "low", "high"] [.int (-1000000000000000000000000000000), .int 1000000000000000000000000000000] 1 ["low", "high"] m_is_whole := by
  obtain ⟨fd, F⟩ := T.D_is_whole
  refine ⟨⟨fd, fn_DD F sc_is_whole fun cdv A outer s H E hr => ?_, FunD.binds1 F 1 0 (by simp) rfl fun T kV doc pm an cdv ct us its h1 h2 => ?_, kbn_all F (by simp) fun T kV doc pm an cdv ct us its ws h1 h2 h3 => ?_⟩, F.kp⟩
  · exact (sb_one (ss_ret (eo_and (eo_callB2 call_isiA opD_isi T.z_isinstance PyProof.Rows.boot_isinstance (eo_var (pv 0)) (eo_ty T.z_int (by decide +kernel))) (eo_and (eo_not (eo_callB2 call_isiA opD_isi T.z_isinstance PyProof.Rows.boot_isinstance (eo_var (pv 0)) (eo_ty T.z_bool (by decide +kernel)))) (eo_one (eo_chain op_le (opD_icmp _) op_le (opD_icmp _) (eo_var (pv 1)) (eo_var (pv 0)) (eo_var (pv 2))))))))
  · match us, its, h1, h2 with | [_], [_, _], _, _ => exact ⟨_, rfl, rfl⟩
  · match us, its, ws, h1, h2, h3 with | [_], [_, _], [_, _], _, _, _ => exact ⟨_, rfl, rfl⟩
theorem sc_is_tie : FnScope ["thing", "size", "one", "cords"] ["thing", "size"] (defScope s_is_tie) := ⟨rfl, rfl, rfl, by decide +kernel, rfl, by decide +kernel, by decide +kernel⟩
theorem ok_is_tie (T : Txt K mg) : OkF P w K mg base 2 (He.ga K "is_tie") ["thing", "size"] m_is_tie := by
  have O_is_whole := ok_is_whole (P := P) (w := w) (base := base) T
  obtain ⟨fd_is_whole, G_is_whole, ⟨dus_is_whole, vd_is_whole, b_is_whole⟩, kb_is_whole⟩ := O_is_whole.ex
  obtain ⟨fd, F⟩ := T.D_is_tie
  refine ⟨⟨fd, fn_DD F sc_is_tie fun cdv A outer s H E hr => ?_, F.bindsN fun _ _ _ _ _ _ us hl => match us, hl with | [_, _], _ => rfl⟩, F.kp⟩
  exact (sb_cons (ss_if (ew_or (et_not (et_tru (eo_callB2 call_isiA opD_isi T.z_isinstance PyProof.Rows.boot_isinstance (eo_var (pv 0)) (eo_ty T.z_tuple (by decide +kernel))))) (ew_or (et_ne hr.units (eo_len T.z_len (ep_pn (pv 0))) eo_int) (ew_or1 (et_not (et_tru (eo_all rfl T.z_all (ep_val (eo_lc rfl sc_is_tie.nd (ei_seq (eo_var (pv 0))) (blkOk_by (own := [("one", 2)]) (by first | decide +kernel | kernel_rfl)) (fun _ _ _ _ _ => (gt_name (pg_name (i := 2) sc_is_tie.nd rfl (by first | exact Or.inl rfl | exact Or.inr rfl)) (by decide))) (fun _ _ _ _ _ => ptd_nil) (fun _ _ _ _ _ => (eo_call G_is_whole (hr.mono (by decide)) T.g_is_whole O_is_whole.kp b_is_whole vd_is_whole passB (fun _ _ => d_is_whole_r) m_is_whole_n (ea_cons (eo_var (pv 2)) ea_nil))))))))))).et (sb_one (ss_ret eo_bl)) sb_nil)
    (sb_cons (ss_if (et_not (et_chain3 op_le (opD_icmp _) op_lt (opD_icmp _) op_lt (opD_icmp _) eo_int (eo_item (ep_pn (pv 0)) eo_int) (eo_item (ep_pn (pv 0)) eo_int) (eo_var (pv 1)))) (sb_one (ss_ret eo_bl)) sb_nil)
    (sb_one (ss_ret (eo_all rfl T.z_all (ep_val (eo_lc rfl sc_is_tie.nd (ei_seq (eo_slice (ep_pn (pv 0)) (po_s eo_int) po_n)) (blkOk_by (own := [("cords", 3)]) (by first | decide +kernel | kernel_rfl)) (fun _ _ _ _ _ => (gt_name (pg_name (i := 3) sc_is_tie.nd rfl (by first | exact Or.inl rfl | exact Or.inr rfl)) (by decide))) (fun _ _ _ _ _ => ptd_nil) (fun _ _ _ _ _ => (eo_chain op_le (opD_icmp _) op_le (opD_icmp _) eo_int (eo_var (pv 3)) (eo_gintE T.c_MOST_CORDS))))))))))
theorem sc_need_web : FnScope ["size", "ties", "tie"] ["size", "ties"] (defScope s_need_web) := ⟨rfl, rfl, rfl, by decide +kernel, rfl, by decide +kernel, by decide +kernel⟩
theorem ok_need_web (T : Txt K mg) : OkF P w K mg base 3 (He.ga K "need_web") ["size", "ties"] m_need_web := by
  have O_is_whole := ok_is_whole (P := P) (w := w) (base := base) T
  obtain ⟨fd_is_whole, G_is_whole, ⟨dus_is_whole, vd_is_whole, b_is_whole⟩, kb_is_whole⟩ := O_is_whole.ex
  have O_is_tie := ok_is_tie (P := P) (w := w) (base := base) T
  obtain ⟨fd_is_tie, G_is_tie, b_is_tie⟩ := O_is_tie.ex
  obtain ⟨fd, F⟩ := T.D_need_web
  refine ⟨⟨fd, fn_DD F sc_need_web fun cdv A outer s H E hr => ?_, F.bindsN fun _ _ _ _ _ _ us hl => match us, hl with | [_, _], _ => rfl⟩, F.kp⟩
  exact (sb_cons (ss_if (et_not (et_tru (eo_callK G_is_whole (hr.mono (by decide)) T.g_is_whole O_is_whole.kp kb_is_whole passD (aCons_len aNil_len) (aCons_len (aCons_len aNil_len)) rfl (ea_cons (eo_var (pv 0)) ea_nil) (ek_cons eo_int (ek_cons (eo_gintE T.c_MOST_POSTS) ek_nil))))) (sb_one ss_never) sb_nil)
    (sb_cons (ss_if (ew_or (et_not (et_tru (eo_callB2 call_isiA opD_isi T.z_isinstance PyProof.Rows.boot_isinstance (eo_var (pv 1)) (eo_tup (ea_cons (eo_ty T.z_list (by decide +kernel)) (ea_cons (eo_ty T.z_tuple (by decide +kernel)) ea_nil)))))) (ew_or1 (et_not (et_tru (eo_all rfl T.z_all (ep_val (eo_lc rfl sc_need_web.nd (ei_seq (eo_var (pv 1))) (blkOk_by (own := [("tie", 2)]) (by first | decide +kernel | kernel_rfl)) (fun _ _ _ _ _ => (gt_name (pg_name (i := 2) sc_need_web.nd rfl (by first | exact Or.inl rfl | exact Or.inr rfl)) (by decide))) (fun _ _ _ _ _ => ptd_nil) (fun _ _ _ _ _ => (eo_call G_is_tie (hr.mono (by decide)) T.g_is_tie O_is_tie.kp b_is_tie .nil passB (fun _ _ => .nil) m_is_tie_n (ea_cons (eo_var (pv 2)) (ea_cons (eo_var (pv 0)) ea_nil))))))))))).et (sb_one ss_never) sb_nil)
    (sb_one (ss_if (et_lt (eo_lenSc hr.units T.z_len rfl sc_need_web.nd (ei_seq (eo_var (pv 1))) (blkOk_by (own := [("tie", 2)]) (by first | decide +kernel | kernel_rfl)) (fun _ _ _ _ _ => (gt_name (pg_name (i := 2) sc_need_web.nd rfl (by first | exact Or.inl rfl | exact Or.inr rfl)) (by decide))) (fun _ _ _ _ _ => ptd_nil) (fun _ _ _ _ _ => (eo_slice (ep_pn (pv 2)) po_n (po_s eo_int)))) (eo_len T.z_len (ep_pn (pv 1)))) (sb_one ss_never) sb_nil))))
theorem sc_Web___init__ : FnScope ["self", "size", "ties", "post", "one", "other", "there", "back"] ["self", "size", "ties"] (defScope s_Web___init__) := ⟨rfl, rfl, rfl, by decide +kernel, rfl, by decide +kernel, by decide +kernel⟩
theorem ok_Web___init__ (T : Txt K mg) : ∃ fd, FnOk P w K mg base (L2.CX P w) 4 (He.ma K (He.ga K "Web") "__init__") fd ["self", "size", "ties"] (spI ⟨K, mg⟩ (He.ga K "Web") 2 m_Web___init__) ∧ Binds K fd ["self", "size", "ties"] [] := by
  have O_need_web := ok_need_web (P := P) (w := w) (base := base) T
  obtain ⟨fdN, GN, bN⟩ := O_need_web.ex
  obtain ⟨fd, F⟩ := T.D_Web___init__
  have W : WebC K (He.ga K "Web") := ⟨T.k_Web, T.f_Web_size, T.f_Web_rows, T.f_Web_known_kinds, T.f_Web_rows_near⟩
  refine ⟨fd, F.ok sc_Web___init__ (fun vs H Q E h => ?_) (fun cdv A outer s H vs Q E hr h => ⟨_, ?_, pure_init (C := ⟨K, mg⟩) (E := E) rfl W T.g_Web h⟩), F.bindsN fun _ _ _ _ _ _ us hl => match us, hl with | [_, _, _], _ => rfl⟩
  · obtain ⟨x, dx, rest, rfl, hl, _⟩ := h
    show (V.ref x :: rest).length = 3
    simp [hl]
  · exact pss_cons (ps_expr (pe_call GN (hr.mono (by decide)) rfl T.g_need_web O_need_web.kp bN .nil passD (pa_cons (pv 1) (pa_cons (pv 2) pa_nil))))
      (pss_cons (ps_fld (pv 0) (pv 1) rfl)
      (pss_cons (ps_fld (pv 0) (pe_callB (DL.CallR.or (cr_sortB (by decide)) (cr_sortBT (by decide))) (by rfl) T.z_sorted (by decide +kernel) (pa_cons (pv 2) pa_nil)) rfl)
      (pss_cons (ps_fld (pv 0) pe_dnewK rfl)
      (pss_cons (ps_fld (pv 0) (pe_lc (by rfl) sc_Web___init__.nd (pi_range1 (by rfl) T.z_range (pa_cons (pv 1) pa_nil)) (blkOk_by (own := [("post", 3)]) (by first | decide +kernel | kernel_rfl)) (fun _ _ _ _ _ => pg_name (i := 3) sc_Web___init__.nd rfl (by first | exact Or.inl rfl | exact Or.inr rfl)) (fun _ _ _ _ _ => pts_nil) (fun _ _ _ _ _ => pe_lst pa_nil)) rfl)
      (pss_one (ps_for PassesOwn.leaving rfl (pi_list (pe_fld (pv 0) (by rfl))) (pg_tup rfl (pgs_cons (pg_name (i := 4) sc_Web___init__.nd rfl (by first | exact Or.inl rfl | exact Or.inr rfl)) (pgs_cons (pg_name (i := 5) sc_Web___init__.nd rfl (by first | exact Or.inl rfl | exact Or.inr rfl)) (pgs_cons (pg_name (i := 6) sc_Web___init__.nd rfl (by first | exact Or.inl rfl | exact Or.inr rfl)) (pgs_cons (pg_name (i := 7) sc_Web___init__.nd rfl (by first | exact Or.inl rfl | exact Or.inr rfl)) pgs_nil)))))
        (pss_cons (ps_expr (pe_bm PySem.F.plainAttrs_list PySem.F.slot_list_append PySem.F.type_list_append mt_append (pe_ix ix_list (pe_fld (pv 0) (by rfl)) (pv 5) (fun _ _ => rfl)) (pa_cons (pe_tup (pa_cons (pv 4) (pa_cons (pv 6) pa_nil))) pa_nil)))
          (pss_one (ps_expr (pe_bm PySem.F.plainAttrs_list PySem.F.slot_list_append PySem.F.type_list_append mt_append (pe_ix ix_list (pe_fld (pv 0) (by rfl)) (pv 4) (fun _ _ => rfl)) (pa_cons (pe_tup (pa_cons (pv 5) (pa_cons (pv 7) pa_nil))) pa_nil)))))))))))
theorem sc__law_anything : FnScope ["pen", "deep", "inner", "k", "some"] ["pen", "deep"] (defScope s__law_anything) := ⟨rfl, rfl, rfl, by decide +kernel, rfl, by decide +kernel, by decide +kernel⟩
theorem okr__law_anything (T : Txt K mg) : ∀ j : Nat, OkF P w K mg base (1 + j) (He.ga K "_law_anything") ["pen", "deep"] (mr__law_anything j)
  | 0 => by
    obtain ⟨fd, F⟩ := T.D__law_anything
    exact ⟨⟨fd, fn_wr, F.bindsN fun _ _ _ _ _ _ us hl => match us, hl with | [_, _], _ => rfl⟩, F.kp⟩
  | j + 1 => by
    have O__law_draw := ok__law_draw (P := P) (w := w) (base := base) T
    obtain ⟨fd__law_draw, G__law_draw, b__law_draw⟩ := O__law_draw.ex
    have O_R := okr__law_anything T j
    obtain ⟨fd_R, G_R, b_R⟩ := O_R.ex
    have n_R := mr__law_anything_n j
    obtain ⟨fd, F⟩ := T.D__law_anything
    refine ⟨⟨fd, fn_DD (k := 1 + j) F sc__law_anything fun cdv A outer s H E hr => ?_, F.bindsN fun _ _ _ _ _ _ us hl => match us, hl with | [_, _], _ => rfl⟩, F.kp⟩
    exact (sb_cons (ss_setC rfl sc__law_anything.nd rfl rfl (ei_rng1 T.z_range (eo_if (et_gt (eo_var (pv 1)) eo_int) (eo_call G__law_draw (hr.mono (by omega)) T.g__law_draw O__law_draw.kp b__law_draw .nil passD (fun _ _ => .nil) m__law_draw_n (ea_cons (eo_var (pv 0)) (ea_cons eo_int ea_nil))) eo_int)) (blkOk_by (own := [("k", 3)]) (by first | decide +kernel | kernel_rfl)) (fun _ _ _ _ _ => (gt_name (pg_name (i := 3) sc__law_anything.nd rfl (by first | exact Or.inl rfl | exact Or.inr rfl)) (by decide))) (fun _ _ _ _ _ => ptd_nil) (fun _ _ _ _ _ => (eo_call G_R (hr.mono (by omega)) T.g__law_anything O_R.kp b_R .nil passB (fun _ _ => .nil) n_R (ea_cons (eo_var (pv 0)) (ea_cons (eo_sub (eo_var (pv 1)) eo_int) ea_nil)))) (sw_true rfl rfl rfl (by decide +kernel)))
    (sb_cons (ss_set (fun _ h => ps_set (i := 4) sc__law_anything.nd rfl (by first | exact Or.inl rfl | exact Or.inr rfl) h) (eo_lst (ea_cons eo_non (ea_cons eo_bl (ea_cons eo_bl (ea_cons eo_int (ea_cons eo_int (ea_cons (eo_neg eo_int) (ea_cons eo_int (ea_cons eo_int (ea_cons eo_int (ea_cons (eo_pow eo_int eo_int) (ea_cons (eo_add (eo_pow eo_int eo_int) eo_int) (ea_cons (eo_sub (eo_neg (eo_pow eo_int eo_int)) eo_int) (ea_cons eo_str (ea_cons eo_str (ea_cons eo_str (ea_cons eo_str ea_nil))))))))))))))))))
    (sb_cons (ss_expr (fun _ h => ps_expr h) (eo_meth1 (fun _ _ h1 h2 => pe_bm PySem.F.plainAttrs_list PySem.F.slot_list_append PySem.F.type_list_append mt_append h1 h2) (pv 4) mtD_app (eo_neg (eo_pow eo_int eo_int))))
    (sb_cons (ss_set (fun _ h => ps_set (i := 4) sc__law_anything.nd rfl (by first | exact Or.inl rfl | exact Or.inr rfl) h) (eo_add (eo_var (pv 4)) (eo_lst (ea_cons eo_str (ea_cons (eo_lst ea_nil) (ea_cons eo_sd0 (ea_cons (eo_tup ea_nil) (ea_cons (eo_tupleOf T.z_tuple (ep_pn (pv 2))) (ea_cons (eo_tupleOf T.z_tuple (ep_pn (pv 2))) (ea_cons (eo_listOf T.z_list (ep_pn (pv 2))) (ea_cons (eo_sd1 (eo_tupleOf T.z_tuple (ep_pn (pv 2)))) ea_nil)))))))))))
    (sb_one (ss_ret (eo_item (ep_pn (pv 4)) (eo_call G__law_draw (hr.mono (by omega)) T.g__law_draw O__law_draw.kp b__law_draw .nil passD (fun _ _ => .nil) m__law_draw_n (ea_cons (eo_var (pv 0)) (ea_cons (eo_len T.z_len (ep_pn (pv 4))) ea_nil))))))))))
theorem ok__law_anything (T : Txt K mg) : OkF P w K mg base 5 (He.ga K "_law_anything") ["pen", "deep"] m__law_anything := okr__law_anything T 4
theorem sc__law_bent : FnScope ["pen", "thing", "at", "part", "turn"] ["pen", "thing"] (defScope s__law_bent) := ⟨rfl, rfl, rfl, by decide +kernel, rfl, by decide +kernel, by decide +kernel⟩
theorem okr__law_bent (T : Txt K mg) : ∀ j : Nat, OkF P w K mg base (5 + j) (He.ga K "_law_bent") ["pen", "thing"] (mr__law_bent j)
  | 0 => by
    obtain ⟨fd, F⟩ := T.D__law_bent
    exact ⟨⟨fd, fn_wr, F.bindsN fun _ _ _ _ _ _ us hl => match us, hl with | [_, _], _ => rfl⟩, F.kp⟩
  | j + 1 => by
    have O__law_draw := ok__law_draw (P := P) (w := w) (base := base) T
    obtain ⟨fd__law_draw, G__law_draw, b__law_draw⟩ := O__law_draw.ex
    have O__law_anything := ok__law_anything (P := P) (w := w) (base := base) T
    obtain ⟨fd__law_anything, G__law_anything, b__law_anything⟩ := O__law_anything.ex
    have O_R := okr__law_bent T j
    obtain ⟨fd_R, G_R, b_R⟩ := O_R.ex
    have n_R := mr__law_bent_n j
    obtain ⟨fd, F⟩ := T.D__law_bent
    refine ⟨⟨fd, fn_DD (k := 5 + j) F sc__law_bent fun cdv A outer s H E hr => ?_, F.bindsN fun _ _ _ _ _ _ us hl => match us, hl with | [_, _], _ => rfl⟩, F.kp⟩
    exact (sb_cons (ss_if (ew_and (et_tru (eo_callB2 call_isiA opD_isi T.z_isinstance PyProof.Rows.boot_isinstance (eo_var (pv 1)) (eo_tup (ea_cons (eo_ty T.z_list (by decide +kernel)) (ea_cons (eo_ty T.z_tuple (by decide +kernel)) ea_nil))))) (ew_and (et_gt (eo_len T.z_len (ep_pn (pv 1))) eo_int) (ew_and1 (et_gt (eo_call G__law_draw (hr.mono (by omega)) T.g__law_draw O__law_draw.kp b__law_draw .nil passD (fun _ _ => .nil) m__law_draw_n (ea_cons (eo_var (pv 0)) (ea_cons eo_int ea_nil))) eo_int)))).et (sb_cons (ss_set (fun _ h => ps_set (i := 2) sc__law_bent.nd rfl (by first | exact Or.inl rfl | exact Or.inr rfl) h) (eo_call G__law_draw (hr.mono (by omega)) T.g__law_draw O__law_draw.kp b__law_draw .nil passD (fun _ _ => .nil) m__law_draw_n (ea_cons (eo_var (pv 0)) (ea_cons (eo_len T.z_len (ep_pn (pv 1))) ea_nil))))
    (sb_cons (ss_set (fun _ h => ps_set (i := 3) sc__law_bent.nd rfl (by first | exact Or.inl rfl | exact Or.inr rfl) h) (eo_if (et_tru (eo_callB2 call_isiA opD_isi T.z_isinstance PyProof.Rows.boot_isinstance (eo_var (pv 1)) (eo_ty T.z_list (by decide +kernel)))) (eo_lst (ea_cons (eo_call G_R (hr.mono (by omega)) T.g__law_bent O_R.kp b_R .nil passD (fun _ _ => .nil) n_R (ea_cons (eo_var (pv 0)) (ea_cons (eo_item (ep_pn (pv 1)) (eo_var (pv 2))) ea_nil))) ea_nil)) (eo_tup (ea_cons (eo_call G_R (hr.mono (by omega)) T.g__law_bent O_R.kp b_R .nil passD (fun _ _ => .nil) n_R (ea_cons (eo_var (pv 0)) (ea_cons (eo_item (ep_pn (pv 1)) (eo_var (pv 2))) ea_nil))) ea_nil))))
    (sb_one (ss_ret (eo_add (eo_add (eo_slice (ep_pn (pv 1)) po_n (po_s (eo_var (pv 2)))) (eo_var (pv 3))) (eo_slice (ep_pn (pv 1)) (po_s (eo_add (eo_var (pv 2)) eo_int)) po_n)))))) sb_nil)
    (sb_cons (ss_set (fun _ h => ps_set (i := 4) sc__law_bent.nd rfl (by first | exact Or.inl rfl | exact Or.inr rfl) h) (eo_call G__law_draw (hr.mono (by omega)) T.g__law_draw O__law_draw.kp b__law_draw .nil passD (fun _ _ => .nil) m__law_draw_n (ea_cons (eo_var (pv 0)) (ea_cons eo_int ea_nil))))
    (sb_cons (ss_if (et_eq hr.units (eo_var (pv 4)) eo_int) (sb_one (ss_ret (eo_call G__law_anything (hr.mono (by omega)) T.g__law_anything O__law_anything.kp b__law_anything .nil passD (fun _ _ => .nil) m__law_anything_n (ea_cons (eo_var (pv 0)) (ea_cons eo_int ea_nil))))) sb_nil)
    (sb_cons (ss_if (et_tru (eo_callB2 call_isiA opD_isi T.z_isinstance PyProof.Rows.boot_isinstance (eo_var (pv 1)) (eo_ty T.z_int (by decide +kernel)))) (sb_one (ss_ret (eo_item (ep_val (eo_lst (ea_cons (eo_add (eo_var (pv 1)) eo_int) (ea_cons (eo_sub (eo_var (pv 1)) eo_int) (ea_cons (eo_sub eo_int (eo_var (pv 1))) (ea_cons eo_int (ea_cons eo_int (ea_cons (eo_add (eo_pow eo_int eo_int) eo_int) (ea_cons (eo_mul eo_int (eo_var (pv 1))) ea_nil))))))))) (eo_sub (eo_var (pv 4)) eo_int)))) sb_nil)
    (sb_cons (ss_if (et_tru (eo_callB2 call_isiA opD_isi T.z_isinstance PyProof.Rows.boot_isinstance (eo_var (pv 1)) (eo_tup (ea_cons (eo_ty T.z_list (by decide +kernel)) (ea_cons (eo_ty T.z_tuple (by decide +kernel)) ea_nil))))) (sb_one (ss_ret (eo_item (ep_val (eo_lst (ea_cons (eo_slice (ep_pn (pv 1)) (po_s eo_int) po_n) (ea_cons (eo_slice (ep_pn (pv 1)) po_n (po_s (eo_neg eo_int))) (ea_cons (eo_add (eo_var (pv 1)) (eo_slice (ep_pn (pv 1)) (po_s (eo_neg eo_int)) po_n)) (ea_cons (eo_rev (eo_var (pv 1))) (ea_cons (eo_listOf T.z_list (ep_pn (pv 1))) (ea_cons (eo_tupleOf T.z_tuple (ep_pn (pv 1))) (ea_cons (eo_mul (eo_var (pv 1)) eo_int) ea_nil))))))))) (eo_sub (eo_var (pv 4)) eo_int)))) sb_nil)
    (sb_one (ss_ret (eo_item (ep_val (eo_lst (ea_cons eo_non (ea_cons eo_str (ea_cons eo_str (ea_cons eo_str (ea_cons eo_str (ea_cons eo_int (ea_cons (eo_tup ea_nil) ea_nil))))))))) (eo_sub (eo_var (pv 4)) eo_int)))))))))
theorem ok__law_bent (T : Txt K mg) : OkF P w K mg base 10 (He.ga K "_law_bent") ["pen", "thing"] m__law_bent := okr__law_bent T 5
theorem sc__law_whole : FnScope ["thing", "low", "high"] ["thing", "low", "high"] (defScope s__law_whole) := ⟨rfl, rfl, rfl, by decide +kernel, rfl, by decide +kernel, by decide +kernel⟩
theorem ok__law_whole (T : Txt K mg) : OkF P w K mg base 1 (He.ga K "_law_whole") ["thing", "low", "high"] m__law_whole := by
  obtain ⟨fd, F⟩ := T.D__law_whole
  refine ⟨⟨fd, fn_DD F sc__law_whole fun cdv A outer s H E hr => ?_, F.bindsN fun _ _ _ _ _ _ us hl => match us, hl with | [_, _, _], _ => rfl⟩, F.kp⟩
  exact (sb_one (ss_ret (eo_and (eo_callB2 call_isiA opD_isi T.z_isinstance PyProof.Rows.boot_isinstance (eo_var (pv 0)) (eo_ty T.z_int (by decide +kernel))) (eo_and (eo_not (eo_callB2 call_isiA opD_isi T.z_isinstance PyProof.Rows.boot_isinstance (eo_var (pv 0)) (eo_ty T.z_bool (by decide +kernel)))) (eo_one (eo_chain op_le (opD_icmp _) op_le (opD_icmp _) (eo_var (pv 1)) (eo_var (pv 0)) (eo_var (pv 2))))))))
theorem sc__law_due : FnScope ["size", "thing", "row", "bad", "k"] ["size", "thing"] (defScope s__law_due) := ⟨rfl, rfl, rfl, by decide +kernel, rfl, by decide +kernel, by decide +kernel⟩
def b__law_due : DS → Oc Fl := (sSeq (sIf (tOu (tNo (tru (call2 opIsi (rd 1) (cn (.ty "tuple"))))) (asB (bin (opEq true) (call1 lenD (pn 1)) (cn (.int 2))))) (sRet (cn (.str "standing"))) sNil)
    (sSeq (sIf (asB (bin opNeN (vLc [2] (itSeq (rd 1)) (gSet 2) (tOu (tNo (tru (call2 opIsi (rd 2) (cn (.ty "tuple"))))) (asB (bin (opEq true) (call1 lenD (pn 2)) (rd 0)))) (rd 2)) (vLst aNil))) (sRet (cn (.str "standing"))) sNil)
    (sSeq (sSet 3 (vLc [2] (itSeq (rd 1)) (gSet 2) (asB (bin opNeN (vLc [4] (itSeq (rd 2)) (gSet 4) (tNo (tru (callD m__law_whole [] (aCons (rd 4) (aCons (una opNeg (bin opPow (cn (.int 10)) (cn (.int 30)))) (aCons (bin opPow (cn (.int 10)) (cn (.int 30))) aNil)))))) (rd 4)) (vLst aNil))) (rd 2)))
    (sRet (vIf (asB (bin opEqN (rd 3) (vLst aNil))) (cn .non) (cn (.str "numbers")))))))
def m__law_due : MF := runD 2 5 b__law_due
theorem m__law_due_n : ∀ ds w, ds.length ≠ 2 → m__law_due ds w = .wr := runD_n
theorem ok__law_due (T : Txt K mg) : OkF P w K mg base 2 (He.ga K "_law_due") ["size", "thing"] m__law_due := by
  have O__law_whole := ok__law_whole (P := P) (w := w) (base := base) T
  obtain ⟨fd__law_whole, G__law_whole, b__law_whole⟩ := O__law_whole.ex
  obtain ⟨fd, F⟩ := T.D__law_due
  refine ⟨⟨fd, fn_DD F sc__law_due fun cdv A outer s H E hr => ?_, F.bindsN fun _ _ _ _ _ _ us hl => match us, hl with | [_, _], _ => rfl⟩, F.kp⟩
  exact (sb_cons (ss_if (ew_or (et_not (et_tru (eo_callB2 call_isiA opD_isi T.z_isinstance PyProof.Rows.boot_isinstance (eo_var (pv 1)) (eo_ty T.z_tuple (by decide +kernel))))) (ew_or1 (et_ne hr.units (eo_len T.z_len (ep_pn (pv 1))) eo_int))).et (sb_one (ss_ret eo_str)) sb_nil)
    (sb_cons (ss_if (et_neN hr.units (eo_lc rfl sc__law_due.nd (ei_seq (eo_var (pv 1))) (blkOk_by (own := [("row", 2)]) (by first | decide +kernel | kernel_rfl)) (fun _ _ _ _ _ => (gt_name (pg_name (i := 2) sc__law_due.nd rfl (by first | exact Or.inl rfl | exact Or.inr rfl)) (by decide))) (fun _ _ _ _ _ => (ptd_one (ew_or (et_not (et_tru (eo_callB2 call_isiA opD_isi T.z_isinstance PyProof.Rows.boot_isinstance (eo_var (pv 2)) (eo_ty T.z_tuple (by decide +kernel))))) (ew_or1 (et_ne hr.units (eo_len T.z_len (ep_pn (pv 2))) (eo_var (pv 0))))).et)) (fun _ _ _ _ _ => (eo_var (pv 2)))) (eo_lst ea_nil)) (sb_one (ss_ret eo_str)) sb_nil)
    (sb_cons (ss_setC rfl sc__law_due.nd rfl rfl (ei_seq (eo_var (pv 1))) (blkOk_by (own := [("row", 2)]) (by first | decide +kernel | kernel_rfl)) (fun _ _ _ _ _ => (gt_name (pg_name (i := 2) sc__law_due.nd rfl (by first | exact Or.inl rfl | exact Or.inr rfl)) (by decide))) (fun _ _ _ _ _ => (ptd_one (et_neN hr.units (eo_lc rfl sc__law_due.nd (ei_seq (eo_var (pv 2))) (blkOk_by (own := [("k", 4)]) (by first | decide +kernel | kernel_rfl)) (fun _ _ _ _ _ => (gt_name (pg_name (i := 4) sc__law_due.nd rfl (by first | exact Or.inl rfl | exact Or.inr rfl)) (by decide))) (fun _ _ _ _ _ => (ptd_one (et_not (et_tru (eo_call G__law_whole (hr.mono (by decide)) T.g__law_whole O__law_whole.kp b__law_whole .nil passB (fun _ _ => .nil) m__law_whole_n (ea_cons (eo_var (pv 4)) (ea_cons (eo_neg (eo_pow eo_int eo_int)) (ea_cons (eo_pow eo_int eo_int) ea_nil)))))))) (fun _ _ _ _ _ => (eo_var (pv 4)))) (eo_lst ea_nil)))) (fun _ _ _ _ _ => (eo_var (pv 2))) (sw_true rfl rfl rfl (by decide +kernel)))
    (sb_one (ss_ret (eo_if (et_eqN hr.units (eo_var (pv 3)) (eo_lst ea_nil)) eo_non eo_str))))))
theorem sc_is_row_of : FnScope ["thing", "size"] ["thing", "size"] (defScope s_is_row_of) := ⟨rfl, rfl, rfl, by decide +kernel, rfl, by decide +kernel, by decide +kernel⟩
theorem ok_is_row_of (T : Txt K mg) : OkF P w K mg base 1 (He.ga K "is_row_of") ["thing", "size"] m_is_row_of := by
  obtain ⟨fd, F⟩ := T.D_is_row_of
  refine ⟨⟨fd, fn_DD F sc_is_row_of fun cdv A outer s H E hr => ?_, F.bindsN fun _ _ _ _ _ _ us hl => match us, hl with | [_, _], _ => rfl⟩, F.kp⟩
  exact (sb_one (ss_ret (eo_and (eo_callB2 call_isiA opD_isi T.z_isinstance PyProof.Rows.boot_isinstance (eo_var (pv 0)) (eo_ty T.z_tuple (by decide +kernel))) (eo_one (eo_eq hr.units (eo_len T.z_len (ep_pn (pv 0))) (eo_var (pv 1)))))))
theorem sc_Web___len__ : FnScope ["self"] ["self"] (defScope s_Web___len__) := ⟨rfl, rfl, rfl, by decide +kernel, rfl, by decide +kernel, by decide +kernel⟩
theorem ok_Web___len__ (T : Txt K mg) : OkF P w K mg base 1 (He.ma K (He.ga K "Web") "__len__") ["self"] m_Web___len__ := by
  obtain ⟨fd, F⟩ := T.D_Web___len__
  refine ⟨⟨fd, fn_DD F sc_Web___len__ fun cdv A outer s H E hr => ?_, F.bindsN fun _ _ _ _ _ _ us hl => match us, hl with | [_], _ => rfl⟩, F.kp⟩
  exact (sb_one (ss_ret (eo_len T.z_len (ep_val (eo_fld T.g_Web T.k_Web T.f_Web_rows_near (eo_var (pv 0)))))))
theorem sc_NoStanding___init__ : FnScope ["self", "part"] ["self", "part"] (defScope s_NoStanding___init__) := ⟨rfl, rfl, rfl, by decide +kernel, rfl, by decide +kernel, by decide +kernel⟩
theorem ok_NoStanding___init__ (T : Txt K mg) : ∃ fd, FnOk P w K mg base (L2.CX P w) 1 (He.ma K (He.ga K "NoStanding") "__init__") fd ["self", "part"] (spX1 K "part") ∧ Binds K fd ["self", "part"] [] := by
  obtain ⟨fd, F⟩ := T.D_NoStanding___init__
  refine ⟨fd, F.ok sc_NoStanding___init__ (fun vs H Q E h => spX1_len h) (fun cdv A outer s H vs Q E hr h => ⟨_, ?_, pure_X1 h⟩), F.bindsN fun _ _ _ _ _ _ us hl => match us, hl with | [_, _], _ => rfl⟩
  exact pss_one (ps_ost (pv 0) (pv 1))
theorem sc_need_standing : FnScope ["web", "standing", "row", "number"] ["web", "standing"] (defScope s_need_standing) := ⟨rfl, rfl, rfl, by decide +kernel, rfl, by decide +kernel, by decide +kernel⟩
abbrev b_need_standing := GX.b_need_standing
abbrev m_need_standing := GX.m_need_standing
theorem m_need_standing_n : ∀ ds w, ds.length ≠ 2 → m_need_standing ds w = .wr := GX.m_need_standing_n
theorem ok_need_standing (T : Txt K mg) : OkF P w K mg base 3 (He.ga K "need_standing") ["web", "standing"] m_need_standing := by
  have O_is_row_of := ok_is_row_of (P := P) (w := w) (base := base) T
  obtain ⟨fd_is_row_of, G_is_row_of, b_is_row_of⟩ := O_is_row_of.ex
  have O_Web___len__ := ok_Web___len__ (P := P) (w := w) (base := base) T
  obtain ⟨fd_Web___len__, G_Web___len__, b_Web___len__⟩ := O_Web___len__.ex
  have O_NoStanding___init__ := ok_NoStanding___init__ (P := P) (w := w) (base := base) T
  obtain ⟨fd_NoStanding___init__, G_NoStanding___init__, b_NoStanding___init__⟩ := O_NoStanding___init__
  have O_is_whole := ok_is_whole (P := P) (w := w) (base := base) T
  obtain ⟨fd_is_whole, G_is_whole, ⟨dus_is_whole, vd_is_whole, b_is_whole⟩, kb_is_whole⟩ := O_is_whole.ex
  obtain ⟨fd, F⟩ := T.D_need_standing
  refine ⟨⟨fd, fn_DD F sc_need_standing fun cdv A outer s H E hr => ?_, F.bindsN fun _ _ _ _ _ _ us hl => match us, hl with | [_, _], _ => rfl⟩, F.kp⟩
  exact (sb_cons (ss_if (ew_or (et_not (et_tru (eo_call G_is_row_of (hr.mono (by decide)) T.g_is_row_of O_is_row_of.kp b_is_row_of .nil passD (fun _ _ => .nil) m_is_row_of_n (ea_cons (eo_var (pv 1)) (ea_cons eo_int ea_nil))))) (ew_or1 (et_not (et_tru (eo_all rfl T.z_all (ep_val (eo_lc rfl sc_need_standing.nd (ei_seq (eo_var (pv 1))) (blkOk_by (own := [("row", 2)]) (by first | decide +kernel | kernel_rfl)) (fun _ _ _ _ _ => (gt_name (pg_name (i := 2) sc_need_standing.nd rfl (by first | exact Or.inl rfl | exact Or.inr rfl)) (by decide))) (fun _ _ _ _ _ => ptd_nil) (fun _ _ _ _ _ => (eo_call G_is_row_of (hr.mono (by decide)) T.g_is_row_of O_is_row_of.kp b_is_row_of .nil passB (fun _ _ => .nil) m_is_row_of_n (ea_cons (eo_var (pv 2)) (ea_cons (eo_lenM T.g_Web T.M_Web___len__.at_ T.M_Web___len__.fn G_Web___len__ b_Web___len__ (hr.mono (by decide)) T.z_len (eo_var (pv 0))) ea_nil))))))))))).et (sb_one (ss_raise1 (takes_of rfl rfl rfl rfl) rfl T.X_NoStanding T.n_NoStanding T.i_NoStanding T.t_NoStanding G_NoStanding___init__ (hr.mono (by decide)) b_NoStanding___init__ T.g_NoStanding eo_str)) sb_nil)
    (sb_one (ss_if (et_not (et_tru (eo_all rfl T.z_all (ep_val (eo_lc2 rfl sc_need_standing.nd (ei_seq (eo_var (pv 1))) (blkOk_by (own := [("row", 2), ("number", 3)]) (by first | decide +kernel | kernel_rfl)) (by decide) (fun _ _ _ _ _ => (gt_name (pg_name (i := 2) sc_need_standing.nd rfl (by first | exact Or.inl rfl | exact Or.inr rfl)) (by decide))) (fun _ _ _ _ _ => ptd_nil) (fun _ _ _ _ _ => (ei_seq (eo_var (pv 2)))) (fun _ _ _ _ _ => (gt_name (pg_name (i := 3) sc_need_standing.nd rfl (by first | exact Or.inl rfl | exact Or.inr rfl)) (by decide))) (fun _ _ _ _ _ => ptd_nil) (fun _ _ _ _ _ => (eo_call G_is_whole (hr.mono (by decide)) T.g_is_whole O_is_whole.kp b_is_whole vd_is_whole passB (fun _ _ => d_is_whole_r) m_is_whole_n (ea_cons (eo_var (pv 3)) ea_nil)))))))) (sb_one (ss_raise1 (takes_of rfl rfl rfl rfl) rfl T.X_NoStanding T.n_NoStanding T.i_NoStanding T.t_NoStanding G_NoStanding___init__ (hr.mono (by decide)) b_NoStanding___init__ T.g_NoStanding eo_str)) sb_nil)))
theorem sc_beat_on : FnScope ["web", "standing"] ["web", "standing"] (defScope s_beat_on) := ⟨rfl, rfl, rfl, by decide +kernel, rfl, by decide +kernel, by decide +kernel⟩
def b_beat_on : DS → Oc Fl := (sSeq (sExpr (callD m_need_standing [] (aCons (rd 0) (aCons (rd 1) aNil)))) sNever)
def m_beat_on : MF := runD 2 2 b_beat_on
theorem m_beat_on_n : ∀ ds w, ds.length ≠ 2 → m_beat_on ds w = .wr := runD_n
theorem ok_beat_on (T : Txt K mg) : OkF P w K mg base 4 (He.ga K "beat_on") ["web", "standing"] m_beat_on := by
  have O_need_standing := ok_need_standing (P := P) (w := w) (base := base) T
  obtain ⟨fd_need_standing, G_need_standing, b_need_standing⟩ := O_need_standing.ex
  obtain ⟨fd, F⟩ := T.D_beat_on
  refine ⟨⟨fd, fn_DD F sc_beat_on fun cdv A outer s H E hr => ?_, F.bindsN fun _ _ _ _ _ _ us hl => match us, hl with | [_, _], _ => rfl⟩, F.kp⟩
  exact (sb_cons (ss_expr (fun _ h => ps_expr h) (eo_call G_need_standing (hr.mono (by decide)) T.g_need_standing O_need_standing.kp b_need_standing .nil passD (fun _ _ => .nil) m_need_standing_n (ea_cons (eo_var (pv 0)) (ea_cons (eo_var (pv 1)) ea_nil)))) sb_never)
theorem sc_beat_back : FnScope ["web", "standing"] ["web", "standing"] (defScope s_beat_back) := ⟨rfl, rfl, rfl, by decide +kernel, rfl, by decide +kernel, by decide +kernel⟩
def b_beat_back : DS → Oc Fl := (sSeq (sExpr (callD m_need_standing [] (aCons (rd 0) (aCons (rd 1) aNil)))) sNever)
def m_beat_back : MF := runD 2 2 b_beat_back
theorem m_beat_back_n : ∀ ds w, ds.length ≠ 2 → m_beat_back ds w = .wr := runD_n
theorem ok_beat_back (T : Txt K mg) : OkF P w K mg base 4 (He.ga K "beat_back") ["web", "standing"] m_beat_back := by
  have O_need_standing := ok_need_standing (P := P) (w := w) (base := base) T
  obtain ⟨fd_need_standing, G_need_standing, b_need_standing⟩ := O_need_standing.ex
  obtain ⟨fd, F⟩ := T.D_beat_back
  refine ⟨⟨fd, fn_DD F sc_beat_back fun cdv A outer s H E hr => ?_, F.bindsN fun _ _ _ _ _ _ us hl => match us, hl with | [_, _], _ => rfl⟩, F.kp⟩
  exact (sb_cons (ss_expr (fun _ h => ps_expr h) (eo_call G_need_standing (hr.mono (by decide)) T.g_need_standing O_need_standing.kp b_need_standing .nil passD (fun _ _ => .nil) m_need_standing_n (ea_cons (eo_var (pv 0)) (ea_cons (eo_var (pv 1)) ea_nil)))) sb_never)
theorem sc_run_of : FnScope ["web", "standing", "beats", "found", "beat"] ["web", "standing", "beats"] (defScope s_run_of) := ⟨rfl, rfl, rfl, by decide +kernel, rfl, by decide +kernel, by decide +kernel⟩
def b_run_of : DS → Oc Fl := (sSeq (sExpr (callD m_need_standing [] (aCons (rd 0) (aCons (rd 1) aNil)))) sNever)
def m_run_of : MF := runD 3 5 b_run_of
theorem m_run_of_n : ∀ ds w, ds.length ≠ 3 → m_run_of ds w = .wr := runD_n
theorem ok_run_of (T : Txt K mg) : OkF P w K mg base 4 (He.ga K "run_of") ["web", "standing", "beats"] m_run_of := by
  have O_need_standing := ok_need_standing (P := P) (w := w) (base := base) T
  obtain ⟨fd_need_standing, G_need_standing, b_need_standing⟩ := O_need_standing.ex
  obtain ⟨fd, F⟩ := T.D_run_of
  refine ⟨⟨fd, fn_DD F sc_run_of fun cdv A outer s H E hr => ?_, F.bindsN fun _ _ _ _ _ _ us hl => match us, hl with | [_, _, _], _ => rfl⟩, F.kp⟩
  exact (sb_cons (ss_expr (fun _ h => ps_expr h) (eo_call G_need_standing (hr.mono (by decide)) T.g_need_standing O_need_standing.kp b_need_standing .nil passD (fun _ _ => .nil) m_need_standing_n (ea_cons (eo_var (pv 0)) (ea_cons (eo_var (pv 1)) ea_nil)))) sb_never)
theorem sc_steps_of : FnScope ["web", "posts", "weights", "standing", "lots", "worths", "first", "second"] ["web", "posts", "weights", "standing"] (defScope s_steps_of) := ⟨rfl, rfl, rfl, by decide +kernel, rfl, by decide +kernel, by decide +kernel⟩
def b_steps_of : DS → Oc Fl := (sSeq (sExpr (callD m_need_standing [] (aCons (rd 0) (aCons (rd 3) aNil)))) sNever)
def m_steps_of : MF := runD 4 8 b_steps_of
theorem m_steps_of_n : ∀ ds w, ds.length ≠ 4 → m_steps_of ds w = .wr := runD_n
theorem ok_steps_of (T : Txt K mg) : OkF P w K mg base 4 (He.ga K "steps_of") ["web", "posts", "weights", "standing"] m_steps_of := by
  have O_need_standing := ok_need_standing (P := P) (w := w) (base := base) T
  obtain ⟨fd_need_standing, G_need_standing, b_need_standing⟩ := O_need_standing.ex
  obtain ⟨fd, F⟩ := T.D_steps_of
  refine ⟨⟨fd, fn_DD F sc_steps_of fun cdv A outer s H E hr => ?_, F.bindsN fun _ _ _ _ _ _ us hl => match us, hl with | [_, _, _, _], _ => rfl⟩, F.kp⟩
  exact (sb_cons (ss_expr (fun _ h => ps_expr h) (eo_call G_need_standing (hr.mono (by decide)) T.g_need_standing O_need_standing.kp b_need_standing .nil passD (fun _ _ => .nil) m_need_standing_n (ea_cons (eo_var (pv 0)) (ea_cons (eo_var (pv 3)) ea_nil)))) sb_never)
theorem sc_standing_behind : FnScope ["web", "standing", "beats"] ["web", "standing", "beats"] (defScope s_standing_behind) := ⟨rfl, rfl, rfl, by decide +kernel, rfl, by decide +kernel, by decide +kernel⟩
def b_standing_behind : DS → Oc Fl := (sSeq (sExpr (callD m_need_standing [] (aCons (rd 0) (aCons (rd 1) aNil)))) sNever)
def m_standing_behind : MF := runD 3 3 b_standing_behind
theorem m_standing_behind_n : ∀ ds w, ds.length ≠ 3 → m_standing_behind ds w = .wr := runD_n
theorem ok_standing_behind (T : Txt K mg) : OkF P w K mg base 4 (He.ga K "standing_behind") ["web", "standing", "beats"] m_standing_behind := by
  have O_need_standing := ok_need_standing (P := P) (w := w) (base := base) T
  obtain ⟨fd_need_standing, G_need_standing, b_need_standing⟩ := O_need_standing.ex
  obtain ⟨fd, F⟩ := T.D_standing_behind
  refine ⟨⟨fd, fn_DD F sc_standing_behind fun cdv A outer s H E hr => ?_, F.bindsN fun _ _ _ _ _ _ us hl => match us, hl with | [_, _, _], _ => rfl⟩, F.kp⟩
  exact (sb_cons (ss_expr (fun _ h => ps_expr h) (eo_call G_need_standing (hr.mono (by decide)) T.g_need_standing O_need_standing.kp b_need_standing .nil passD (fun _ _ => .nil) m_need_standing_n (ea_cons (eo_var (pv 0)) (ea_cons (eo_var (pv 1)) ea_nil)))) sb_never)
theorem sc_never_paper : FnScope ["web", "standing", "posts", "found"] ["web", "standing"] (defScope s_never_paper) := ⟨rfl, rfl, rfl, by decide +kernel, rfl, by decide +kernel, by decide +kernel⟩
def b_never_paper : DS → Oc Fl := (sSeq (sExpr (callD m_need_standing [] (aCons (rd 0) (aCons (rd 1) aNil)))) sNever)
def m_never_paper : MF := runD 2 4 b_never_paper
theorem m_never_paper_n : ∀ ds w, ds.length ≠ 2 → m_never_paper ds w = .wr := runD_n
theorem ok_never_paper (T : Txt K mg) : OkF P w K mg base 4 (He.ga K "never_paper") ["web", "standing"] m_never_paper := by
  have O_need_standing := ok_need_standing (P := P) (w := w) (base := base) T
  obtain ⟨fd_need_standing, G_need_standing, b_need_standing⟩ := O_need_standing.ex
  obtain ⟨fd, F⟩ := T.D_never_paper
  refine ⟨⟨fd, fn_DD F sc_never_paper fun cdv A outer s H E hr => ?_, F.bindsN fun _ _ _ _ _ _ us hl => match us, hl with | [_, _], _ => rfl⟩, F.kp⟩
  exact (sb_cons (ss_expr (fun _ h => ps_expr h) (eo_call G_need_standing (hr.mono (by decide)) T.g_need_standing O_need_standing.kp b_need_standing .nil passD (fun _ _ => .nil) m_need_standing_n (ea_cons (eo_var (pv 0)) (ea_cons (eo_var (pv 1)) ea_nil)))) sb_never)
theorem sc_comes_back : FnScope ["web", "standing", "posts"] ["web", "standing"] (defScope s_comes_back) := ⟨rfl, rfl, rfl, by decide +kernel, rfl, by decide +kernel, by decide +kernel⟩
def b_comes_back : DS → Oc Fl := (sSeq (sIf (asB (bin (opIsN true) (callD m_never_paper [] (aCons (rd 0) (aCons (rd 1) aNil))) (cn .non))) sNever sNever) sNever)
def m_comes_back : MF := runD 2 3 b_comes_back
theorem m_comes_back_n : ∀ ds w, ds.length ≠ 2 → m_comes_back ds w = .wr := runD_n
theorem ok_comes_back (T : Txt K mg) : OkF P w K mg base 5 (He.ga K "comes_back") ["web", "standing"] m_comes_back := by
  have O_never_paper := ok_never_paper (P := P) (w := w) (base := base) T
  obtain ⟨fd_never_paper, G_never_paper, b_never_paper⟩ := O_never_paper.ex
  obtain ⟨fd, F⟩ := T.D_comes_back
  refine ⟨⟨fd, fn_DD F sc_comes_back fun cdv A outer s H E hr => ?_, F.bindsN fun _ _ _ _ _ _ us hl => match us, hl with | [_, _], _ => rfl⟩, F.kp⟩
  exact (sb_cons (ss_if (et_notN (eo_call G_never_paper (hr.mono (by decide)) T.g_never_paper O_never_paper.kp b_never_paper .nil passD (fun _ _ => .nil) m_never_paper_n (ea_cons (eo_var (pv 0)) (ea_cons (eo_var (pv 1)) ea_nil))) eo_non) sb_never sb_never) sb_never)
theorem sc_shows_never : FnScope ["web", "standing", "thing", "word", "posts", "weights", "rest", "steps"] ["web", "standing", "thing"] (defScope s_shows_never) := ⟨rfl, rfl, rfl, by decide +kernel, rfl, by decide +kernel, by decide +kernel⟩
def b_shows_never : DS → Oc Fl := (sSeq (sExpr (callD m_need_standing [] (aCons (rd 0) (aCons (rd 1) aNil)))) sNever)
def m_shows_never : MF := runD 3 8 b_shows_never
theorem m_shows_never_n : ∀ ds w, ds.length ≠ 3 → m_shows_never ds w = .wr := runD_n
theorem ok_shows_never (T : Txt K mg) : OkF P w K mg base 4 (He.ga K "shows_never") ["web", "standing", "thing"] m_shows_never := by
  have O_need_standing := ok_need_standing (P := P) (w := w) (base := base) T
  obtain ⟨fd_need_standing, G_need_standing, b_need_standing⟩ := O_need_standing.ex
  obtain ⟨fd, F⟩ := T.D_shows_never
  refine ⟨⟨fd, fn_DD F sc_shows_never fun cdv A outer s H E hr => ?_, F.bindsN fun _ _ _ _ _ _ us hl => match us, hl with | [_, _, _], _ => rfl⟩, F.kp⟩
  exact (sb_cons (ss_expr (fun _ h => ps_expr h) (eo_call G_need_standing (hr.mono (by decide)) T.g_need_standing O_need_standing.kp b_need_standing .nil passD (fun _ _ => .nil) m_need_standing_n (ea_cons (eo_var (pv 0)) (ea_cons (eo_var (pv 1)) ea_nil)))) sb_never)
theorem sc__law_told : FnScope ["asked", "caught", "found", "e", "plain"] ["asked"] (defScope s__law_told) := ⟨rfl, rfl, rfl, by decide +kernel, rfl, by decide +kernel, by decide +kernel⟩
def kokR : D → Option D := kokT
def kexR : Exn → Option D := kexT "NoStanding" "part"
theorem thOkR (T : Txt K mg) : ThOk ⟨K, mg⟩ ["asked", "caught", "found", "e", "plain"] kokR (tTold K (He.ga K "NoStanding") "part" [He.ga K "NoWeb", He.ga K "NoPart"] (tC (.str "odd"))) := toldK_ok
theorem thExR (T : Txt K mg) : ThEx ⟨K, mg⟩ ["asked", "caught", "found", "e", "plain"] kexR (tTold K (He.ga K "NoStanding") "part" [He.ga K "NoWeb", He.ga K "NoPart"] (tC (.str "odd"))) := toldK_ex T.g_NoStanding (by simp) T.e_NoStanding_NoStanding T.k1_NoStanding T.k2_NoStanding
abbrev thP : Pos × Pos := match defBody s__law_told with | [_, .Try [.Assign _ (.Call (.Name _ p2) _ _ p3) _] _ _ _ _, _, _, _] => (p2, p3) | _ => (⟨0, 0, 0, 0⟩, ⟨0, 0, 0, 0⟩)
theorem bdR (T : Txt K mg) {gA : Addr} {cdv : Value} {A : Around} {stk : List Env} {s : Shared} {H : Hp} {ta : WX → TE} (ht : ∀ (W : WX) (pn : List (Addr × Obj)) (xe : Value → Shared → Prop), Takes ((cxOf C8.CX0 P w K mg base ["asked", "caught", "found", "e", "plain"] "_law_told" (defScope s__law_told) gA cdv A stk s H C8.E0).nox.tr pn xe) W → PE ((cxOf C8.CX0 P w K mg base ["asked", "caught", "found", "e", "plain"] "_law_told" (defScope s__law_told) gA cdv A stk s H C8.E0).nox.tr pn xe) (.Call (.Name "asked" thP.1) [] [] thP.2) (ta W)) :
    PSs (cxOf C8.CX0 P w K mg base ["asked", "caught", "found", "e", "plain"] "_law_told" (defScope s__law_told) gA cdv A stk s H C8.E0).nox (defBody s__law_told) (tTold K (He.ga K "NoStanding") "part" [He.ga K "NoWeb", He.ga K "NoPart"] (tC (.str "odd")) ta) :=
  pss_cons (ps_asg (pe_tup (pa_cons pe_non (pa_cons pe_non pa_nil))) (pg_tup rfl (pgs_cons (pg_name (i := 1) sc__law_told.nd rfl (by first | exact Or.inl rfl | exact Or.inr rfl)) (pgs_cons (pg_name (i := 2) sc__law_told.nd rfl (by first | exact Or.inl rfl | exact Or.inr rfl)) pgs_nil)))) (pss_tryK (i := 3) (tb := fun W => tAsg (ta W) (gName 2)) (W0 := fun _ _ _ _ => False) rfl rfl sc__law_told.nd rfl rfl LamX.takes0 (fun W pn xe tk _ => pss_one (ps_set (i := 2) sc__law_told.nd rfl (by first | exact Or.inl rfl | exact Or.inr rfl) (ht W pn xe tk)))
    (hd_keep (i := 3) (y := 1) sc__law_told.nd rfl (by first | exact Or.inl rfl | exact Or.inr rfl) rfl rfl ⟨rfl, by decide, .inl T.g_NoStanding⟩ rfl .nil) (pss_cons (ps_if (pt_cmpR (r := rIsNB false) op_isN (pv 1) pe_non (nomark _)) (pss_one (ps_ret (pe_lst (pa_cons (pv 2) pa_nil)))) pss_nil) pss_no)
    (pk_plain (y := 1) (pl := 4) (L := false) sc__law_told.nd rfl (by first | exact Or.inl rfl | exact Or.inr rfl) rfl rfl (by first | exact Or.inl rfl | exact Or.inr rfl) T.V_NoStanding T.n_NoStanding T.E_NoStanding rfl T.z_isinstance PyProof.Rows.boot_isinstance rfl T.z_ValueError (by decide +kernel) (fun _ _ _ => (par_cons T.g_NoWeb (par_cons T.g_NoPart par_nil)).pa) (fun _ => rfl) rfl rfl (fun _ _ _ _ h => h) (fun _ _ _ => pe_str)))
theorem sc_law : FnScope ["script", "pen", "turn", "size", "ties", "web", "thing", "again", "due", "kept", "told"] ["script"] (defScope s_law) := ⟨rfl, rfl, rfl, by decide +kernel, rfl, by decide +kernel, by decide +kernel⟩
def b_law (P0 : Addr) : DS → Oc Fl := (sSeq (sFor (itRng1 (cn (.int 10))) (gSet 2) (sSeq (sAsg (callD m__law_any_web [] (aCons (rd 1) (aCons (cn (.int 6)) aNil))) (gUn 2 (gsCons (gSet 3) (gsCons (gSet 4) gsNil))))
    (sSeq (sAsg (vTup (aCons (callD m_Web___init__ [] (aCons (rd 3) (aCons (rd 4) aNil))) (aCons (callD m__law_standing [] (aCons (rd 1) (aCons (rd 3) (aCons (cn (.int 30)) aNil)))) aNil))) (gUn 2 (gsCons (gSet 5) (gsCons (gSet 6) gsNil))))
    (sSeq (sFor (itRng1 (callD m__law_draw [] (aCons (rd 1) (aCons (cn (.int 3)) aNil)))) (gSet 7) (sSet 6 (callD m__law_bent [] (aCons (rd 1) (aCons (rd 6) aNil)))))
    (sSeq (sIf (asB (bin (opEq false) (callD m__law_draw [] (aCons (rd 1) (aCons (cn (.int 6)) aNil))) (cn (.int 0)))) (sSet 6 (callD m__law_anything [] (aCons (rd 1) (aCons (cn (.int 2)) aNil)))) sNil)
    (sSeq (sPar 8 9 (aCons (callD m__law_due [] (aCons (rd 3) (aCons (rd 6) aNil))) (aCons (call1 reprP (pn 6)) aNil)))
    (sSeq (sIf (asB (bin (opEq true) (thD P0 "law.<locals>.<lambda>" kokR kexR (callD m_need_standing [] (aCons (rd 5) (aCons (rd 6) aNil)))) (vIf (asB (bin (opIsN false) (rd 8) (cn .non))) (vLst (aCons (cn .non) aNil)) (rd 8)))) (sRet (cn (.bl false))) sNil)
    (sSeq (sIf (asB (bin (opIsN true) (rd 8) (cn .non))) (sSeq (sSet 10 (vLst (aCons (thD P0 "law.<locals>.<lambda>" kokR kexR (callD m_beat_on [] (aCons (rd 5) (aCons (rd 6) aNil)))) aNil)))
    (sSeq (sExpr (meth1 10 (appD 10) (thD P0 "law.<locals>.<lambda>" kokR kexR (callD m_beat_back [] (aCons (rd 5) (aCons (rd 6) aNil))))))
    (sSeq (sExpr (meth1 10 (appD 10) (thD P0 "law.<locals>.<lambda>" kokR kexR (callD m_run_of [] (aCons (rd 5) (aCons (rd 6) (aCons (cn .non) aNil)))))))
    (sSeq (sExpr (meth1 10 (appD 10) (thD P0 "law.<locals>.<lambda>" kokR kexR (callD m_steps_of [] (aCons (rd 5) (aCons (cn .non) (aCons (cn .non) (aCons (rd 6) aNil))))))))
    (sSeq (sExpr (meth1 10 (appD 10) (thD P0 "law.<locals>.<lambda>" kokR kexR (callD m_standing_behind [] (aCons (rd 5) (aCons (rd 6) (aCons (cn .non) aNil)))))))
    (sSeq (sExpr (meth1 10 (appD 10) (thD P0 "law.<locals>.<lambda>" kokR kexR (callD m_comes_back [] (aCons (rd 5) (aCons (rd 6) aNil))))))
    (sSeq (sExpr (meth1 10 (appD 10) (thD P0 "law.<locals>.<lambda>" kokR kexR (callD m_never_paper [] (aCons (rd 5) (aCons (rd 6) aNil))))))
    (sSeq (sExpr (meth1 10 (appD 10) (thD P0 "law.<locals>.<lambda>" kokR kexR (callD m_shows_never [] (aCons (rd 5) (aCons (rd 6) (aCons (cn .non) aNil)))))))
    (sIf (asB (bin (opEq true) (rd 10) (bin opMulT (vLst (aCons (rd 8) aNil)) (cn (.int 8))))) (sRet (cn (.bl false))) sNil))))))))) sNil)
    (sIf (asB (bin (opEq true) (call1 reprP (pn 6)) (rd 9))) (sRet (cn (.bl false))) sNil)))))))))
    (sRet (cn (.bl true))))
theorem sb_law (T : Txt K mg) {c P0 : Addr} (B : LamX.TabB base mg c P0) {A : Around} {outer : List Env} {s : Shared} {H : Hp} {E : XK} {f : Addr} (hgd : A.guards = some []) (hr : Room 10 (A.deeper (envOfC "law" (defScope s_law) s.heap.objs.size f (.ref c)))) :
    SB (cxOf (L2.CX P w) P w K mg base ["script", "pen", "turn", "size", "ties", "web", "thing", "again", "due", "kept", "told"] "law" (defScope s_law) f (.ref c) A outer s H E) E (defBody s_law).tail (b_law P0) := by
  have O__law_any_web := ok__law_any_web (P := P) (w := w) (base := base) T
  obtain ⟨fd__law_any_web, G__law_any_web, b__law_any_web⟩ := O__law_any_web.ex
  have O__law_standing := ok__law_standing (P := P) (w := w) (base := base) T
  obtain ⟨fd__law_standing, G__law_standing, b__law_standing⟩ := O__law_standing.ex
  have O_Web___init__ := ok_Web___init__ (P := P) (w := w) (base := base) T
  obtain ⟨fd_Web___init__, G_Web___init__, b_Web___init__⟩ := O_Web___init__
  have O__law_draw := ok__law_draw (P := P) (w := w) (base := base) T
  obtain ⟨fd__law_draw, G__law_draw, b__law_draw⟩ := O__law_draw.ex
  have O__law_bent := ok__law_bent (P := P) (w := w) (base := base) T
  obtain ⟨fd__law_bent, G__law_bent, b__law_bent⟩ := O__law_bent.ex
  have O__law_anything := ok__law_anything (P := P) (w := w) (base := base) T
  obtain ⟨fd__law_anything, G__law_anything, b__law_anything⟩ := O__law_anything.ex
  have O__law_due := ok__law_due (P := P) (w := w) (base := base) T
  obtain ⟨fd__law_due, G__law_due, b__law_due⟩ := O__law_due.ex
  have O_need_standing := ok_need_standing (P := P) (w := w) (base := base) T
  obtain ⟨fd_need_standing, G_need_standing, b_need_standing⟩ := O_need_standing.ex
  have O_beat_on := ok_beat_on (P := P) (w := w) (base := base) T
  obtain ⟨fd_beat_on, G_beat_on, b_beat_on⟩ := O_beat_on.ex
  have O_beat_back := ok_beat_back (P := P) (w := w) (base := base) T
  obtain ⟨fd_beat_back, G_beat_back, b_beat_back⟩ := O_beat_back.ex
  have O_run_of := ok_run_of (P := P) (w := w) (base := base) T
  obtain ⟨fd_run_of, G_run_of, b_run_of⟩ := O_run_of.ex
  have O_steps_of := ok_steps_of (P := P) (w := w) (base := base) T
  obtain ⟨fd_steps_of, G_steps_of, b_steps_of⟩ := O_steps_of.ex
  have O_standing_behind := ok_standing_behind (P := P) (w := w) (base := base) T
  obtain ⟨fd_standing_behind, G_standing_behind, b_standing_behind⟩ := O_standing_behind.ex
  have O_comes_back := ok_comes_back (P := P) (w := w) (base := base) T
  obtain ⟨fd_comes_back, G_comes_back, b_comes_back⟩ := O_comes_back.ex
  have O_never_paper := ok_never_paper (P := P) (w := w) (base := base) T
  obtain ⟨fd_never_paper, G_never_paper, b_never_paper⟩ := O_never_paper.ex
  have O_shows_never := ok_shows_never (P := P) (w := w) (base := base) T
  obtain ⟨fd_shows_never, G_shows_never, b_shows_never⟩ := O_shows_never.ex
  obtain ⟨fdR, FR⟩ := T.D__law_told
  have bR : Binds K fdR ["asked"] [] := FR.bindsN fun _ _ _ _ _ _ us hl => match us, hl with | [_], _ => rfl
  exact (sb_cons (ss_for (n := 0) (vs := [2]) PassesOwn.leaving rfl (ei_rng1 T.z_range eo_int) (gt_name (pg_name (i := 2) sc_law.nd rfl (by first | exact Or.inl rfl | exact Or.inr rfl)) (by decide)) (sb_cons (ss_asg (vs := [3, 4]) (fun _ _ h hg => ps_asg h hg) (eo_call G__law_any_web (hr.mono (by decide)) T.g__law_any_web O__law_any_web.kp b__law_any_web .nil passD (fun _ _ => .nil) m__law_any_web_n (ea_cons (eo_var (pv 1)) (ea_cons eo_int ea_nil))) (gt_tup rfl (gts_cons (gt_name (pg_name (i := 3) sc_law.nd rfl (by first | exact Or.inl rfl | exact Or.inr rfl)) (by decide)) (gts_cons (gt_name (pg_name (i := 4) sc_law.nd rfl (by first | exact Or.inl rfl | exact Or.inr rfl)) (by decide)) gts_nil))))
    (sb_cons (ss_asg (vs := [5, 6]) (fun _ _ h hg => ps_asg h hg) (eo_tup (ea_cons (eo_make T.g_Web T.mk_Web G_Web___init__ (hr.mono (by decide)) b_Web___init__ passD m_Web___init___n m_Web___init___o (ea_cons (eo_var (pv 3)) (ea_cons (eo_var (pv 4)) ea_nil))) (ea_cons (eo_call G__law_standing (hr.mono (by decide)) T.g__law_standing O__law_standing.kp b__law_standing .nil passD (fun _ _ => .nil) m__law_standing_n (ea_cons (eo_var (pv 1)) (ea_cons (eo_var (pv 3)) (ea_cons eo_int ea_nil)))) ea_nil))) (gt_tup rfl (gts_cons (gt_name (pg_name (i := 5) sc_law.nd rfl (by first | exact Or.inl rfl | exact Or.inr rfl)) (by decide)) (gts_cons (gt_name (pg_name (i := 6) sc_law.nd rfl (by first | exact Or.inl rfl | exact Or.inr rfl)) (by decide)) gts_nil))))
    (sb_cons (ss_for (n := 0) (vs := [7]) PassesOwn.leaving rfl (ei_rng1 T.z_range (eo_call G__law_draw (hr.mono (by decide)) T.g__law_draw O__law_draw.kp b__law_draw .nil passD (fun _ _ => .nil) m__law_draw_n (ea_cons (eo_var (pv 1)) (ea_cons eo_int ea_nil)))) (gt_name (pg_name (i := 7) sc_law.nd rfl (by first | exact Or.inl rfl | exact Or.inr rfl)) (by decide)) (sb_one (ss_set (fun _ h => ps_set (i := 6) sc_law.nd rfl (by first | exact Or.inl rfl | exact Or.inr rfl) h) (eo_call G__law_bent (hr.mono (by decide)) T.g__law_bent O__law_bent.kp b__law_bent .nil passD (fun _ _ => .nil) m__law_bent_n (ea_cons (eo_var (pv 1)) (ea_cons (eo_var (pv 6)) ea_nil))))))
    (sb_cons (ss_if (et_eq hr.units (eo_call G__law_draw (hr.mono (by decide)) T.g__law_draw O__law_draw.kp b__law_draw .nil passD (fun _ _ => .nil) m__law_draw_n (ea_cons (eo_var (pv 1)) (ea_cons eo_int ea_nil))) eo_int) (sb_one (ss_set (fun _ h => ps_set (i := 6) sc_law.nd rfl (by first | exact Or.inl rfl | exact Or.inr rfl) h) (eo_call G__law_anything (hr.mono (by decide)) T.g__law_anything O__law_anything.kp b__law_anything .nil passD (fun _ _ => .nil) m__law_anything_n (ea_cons (eo_var (pv 1)) (ea_cons eo_int ea_nil))))) sb_nil)
    (sb_cons (ss_par (fun _ h => ps_par rfl sc_law.nd rfl rfl (by decide) rfl rfl h (by rfl)) (ea_cons (eo_call G__law_due (hr.mono (by decide)) T.g__law_due O__law_due.kp b__law_due .nil passD (fun _ _ => .nil) m__law_due_n (ea_cons (eo_var (pv 3)) (ea_cons (eo_var (pv 6)) ea_nil))) (ea_cons (eo_reprP T.sysM hgd (hu65 hr) T.z_repr (ep_pn (pv 6))) ea_nil)))
    (sb_cons (ss_if (et_ne hr.units (eo_thunk (k := 3) FR sc__law_told (Or.inl rfl) T.g__law_told FR.kp bR (fun cdv s H ta ht => by exact bdR T ht) (thOkR T) (thExR T) B rfl (hr.mono (by decide)) (LamX.lamS_by (sc := defScope s_law) (by decide +kernel)) rfl (fun _ _ _ _ _ => rfl) (fun _ _ _ _ _ _ _ hr => by exact (eo_call G_need_standing (hr.mono (by decide)) T.g_need_standing O_need_standing.kp b_need_standing .nil passLm (fun _ _ => .nil) m_need_standing_n (ea_cons (eo_var (pv 5)) (ea_cons (eo_var (pv 6)) ea_nil))))) (eo_if (et_isN (eo_var (pv 8)) eo_non) (eo_lst (ea_cons eo_non ea_nil)) (eo_var (pv 8)))) (sb_one (ss_ret eo_bl)) sb_nil)
    (sb_cons (ss_if (et_notN (eo_var (pv 8)) eo_non) (sb_cons (ss_set (fun _ h => ps_set (i := 10) sc_law.nd rfl (by first | exact Or.inl rfl | exact Or.inr rfl) h) (eo_lst (ea_cons (eo_thunk (k := 4) FR sc__law_told (Or.inl rfl) T.g__law_told FR.kp bR (fun cdv s H ta ht => by exact bdR T ht) (thOkR T) (thExR T) B rfl (hr.mono (by decide)) (LamX.lamS_by (sc := defScope s_law) (by decide +kernel)) rfl (fun _ _ _ _ _ => rfl) (fun _ _ _ _ _ _ _ hr => by exact (eo_call G_beat_on (hr.mono (by decide)) T.g_beat_on O_beat_on.kp b_beat_on .nil passLm (fun _ _ => .nil) m_beat_on_n (ea_cons (eo_var (pv 5)) (ea_cons (eo_var (pv 6)) ea_nil))))) ea_nil)))
    (sb_cons (ss_expr (fun _ h => ps_expr h) (eo_meth1 (fun _ _ h1 h2 => pe_bm PySem.F.plainAttrs_list PySem.F.slot_list_append PySem.F.type_list_append mt_append h1 h2) (pv 10) mtD_app (eo_thunk (k := 4) FR sc__law_told (Or.inl rfl) T.g__law_told FR.kp bR (fun cdv s H ta ht => by exact bdR T ht) (thOkR T) (thExR T) B rfl (hr.mono (by decide)) (LamX.lamS_by (sc := defScope s_law) (by decide +kernel)) rfl (fun _ _ _ _ _ => rfl) (fun _ _ _ _ _ _ _ hr => by exact (eo_call G_beat_back (hr.mono (by decide)) T.g_beat_back O_beat_back.kp b_beat_back .nil passLm (fun _ _ => .nil) m_beat_back_n (ea_cons (eo_var (pv 5)) (ea_cons (eo_var (pv 6)) ea_nil)))))))
    (sb_cons (ss_expr (fun _ h => ps_expr h) (eo_meth1 (fun _ _ h1 h2 => pe_bm PySem.F.plainAttrs_list PySem.F.slot_list_append PySem.F.type_list_append mt_append h1 h2) (pv 10) mtD_app (eo_thunk (k := 4) FR sc__law_told (Or.inl rfl) T.g__law_told FR.kp bR (fun cdv s H ta ht => by exact bdR T ht) (thOkR T) (thExR T) B rfl (hr.mono (by decide)) (LamX.lamS_by (sc := defScope s_law) (by decide +kernel)) rfl (fun _ _ _ _ _ => rfl) (fun _ _ _ _ _ _ _ hr => by exact (eo_call G_run_of (hr.mono (by decide)) T.g_run_of O_run_of.kp b_run_of .nil passLm (fun _ _ => .nil) m_run_of_n (ea_cons (eo_var (pv 5)) (ea_cons (eo_var (pv 6)) (ea_cons eo_non ea_nil))))))))
    (sb_cons (ss_expr (fun _ h => ps_expr h) (eo_meth1 (fun _ _ h1 h2 => pe_bm PySem.F.plainAttrs_list PySem.F.slot_list_append PySem.F.type_list_append mt_append h1 h2) (pv 10) mtD_app (eo_thunk (k := 4) FR sc__law_told (Or.inl rfl) T.g__law_told FR.kp bR (fun cdv s H ta ht => by exact bdR T ht) (thOkR T) (thExR T) B rfl (hr.mono (by decide)) (LamX.lamS_by (sc := defScope s_law) (by decide +kernel)) rfl (fun _ _ _ _ _ => rfl) (fun _ _ _ _ _ _ _ hr => by exact (eo_call G_steps_of (hr.mono (by decide)) T.g_steps_of O_steps_of.kp b_steps_of .nil passLm (fun _ _ => .nil) m_steps_of_n (ea_cons (eo_var (pv 5)) (ea_cons eo_non (ea_cons eo_non (ea_cons (eo_var (pv 6)) ea_nil)))))))))
    (sb_cons (ss_expr (fun _ h => ps_expr h) (eo_meth1 (fun _ _ h1 h2 => pe_bm PySem.F.plainAttrs_list PySem.F.slot_list_append PySem.F.type_list_append mt_append h1 h2) (pv 10) mtD_app (eo_thunk (k := 4) FR sc__law_told (Or.inl rfl) T.g__law_told FR.kp bR (fun cdv s H ta ht => by exact bdR T ht) (thOkR T) (thExR T) B rfl (hr.mono (by decide)) (LamX.lamS_by (sc := defScope s_law) (by decide +kernel)) rfl (fun _ _ _ _ _ => rfl) (fun _ _ _ _ _ _ _ hr => by exact (eo_call G_standing_behind (hr.mono (by decide)) T.g_standing_behind O_standing_behind.kp b_standing_behind .nil passLm (fun _ _ => .nil) m_standing_behind_n (ea_cons (eo_var (pv 5)) (ea_cons (eo_var (pv 6)) (ea_cons eo_non ea_nil))))))))
    (sb_cons (ss_expr (fun _ h => ps_expr h) (eo_meth1 (fun _ _ h1 h2 => pe_bm PySem.F.plainAttrs_list PySem.F.slot_list_append PySem.F.type_list_append mt_append h1 h2) (pv 10) mtD_app (eo_thunk (k := 5) FR sc__law_told (Or.inl rfl) T.g__law_told FR.kp bR (fun cdv s H ta ht => by exact bdR T ht) (thOkR T) (thExR T) B rfl (hr.mono (by decide)) (LamX.lamS_by (sc := defScope s_law) (by decide +kernel)) rfl (fun _ _ _ _ _ => rfl) (fun _ _ _ _ _ _ _ hr => by exact (eo_call G_comes_back (hr.mono (by decide)) T.g_comes_back O_comes_back.kp b_comes_back .nil passLm (fun _ _ => .nil) m_comes_back_n (ea_cons (eo_var (pv 5)) (ea_cons (eo_var (pv 6)) ea_nil)))))))
    (sb_cons (ss_expr (fun _ h => ps_expr h) (eo_meth1 (fun _ _ h1 h2 => pe_bm PySem.F.plainAttrs_list PySem.F.slot_list_append PySem.F.type_list_append mt_append h1 h2) (pv 10) mtD_app (eo_thunk (k := 5) FR sc__law_told (Or.inl rfl) T.g__law_told FR.kp bR (fun cdv s H ta ht => by exact bdR T ht) (thOkR T) (thExR T) B rfl (hr.mono (by decide)) (LamX.lamS_by (sc := defScope s_law) (by decide +kernel)) rfl (fun _ _ _ _ _ => rfl) (fun _ _ _ _ _ _ _ hr => by exact (eo_call G_never_paper (hr.mono (by decide)) T.g_never_paper O_never_paper.kp b_never_paper .nil passLm (fun _ _ => .nil) m_never_paper_n (ea_cons (eo_var (pv 5)) (ea_cons (eo_var (pv 6)) ea_nil)))))))
    (sb_cons (ss_expr (fun _ h => ps_expr h) (eo_meth1 (fun _ _ h1 h2 => pe_bm PySem.F.plainAttrs_list PySem.F.slot_list_append PySem.F.type_list_append mt_append h1 h2) (pv 10) mtD_app (eo_thunk (k := 5) FR sc__law_told (Or.inl rfl) T.g__law_told FR.kp bR (fun cdv s H ta ht => by exact bdR T ht) (thOkR T) (thExR T) B rfl (hr.mono (by decide)) (LamX.lamS_by (sc := defScope s_law) (by decide +kernel)) rfl (fun _ _ _ _ _ => rfl) (fun _ _ _ _ _ _ _ hr => by exact (eo_call G_shows_never (hr.mono (by decide)) T.g_shows_never O_shows_never.kp b_shows_never .nil passLm (fun _ _ => .nil) m_shows_never_n (ea_cons (eo_var (pv 5)) (ea_cons (eo_var (pv 6)) (ea_cons eo_non ea_nil))))))))
    (sb_one (ss_if (et_ne hr.units (eo_var (pv 10)) (eo_mul (eo_lst (ea_cons (eo_var (pv 8)) ea_nil)) eo_int)) (sb_one (ss_ret eo_bl)) sb_nil)))))))))) sb_nil)
    (sb_one (ss_if (et_ne hr.units (eo_reprP T.sysM hgd (hu65 hr) T.z_repr (ep_pn (pv 6))) (eo_var (pv 9))) (sb_one (ss_ret eo_bl)) sb_nil))))))))))
    (sb_one (ss_ret eo_bl)))
theorem ok_law {c P0 : Addr} {f : Addr} {fd : FuncData} (F : FunD K "law" "law" (defArgs s_law) (defBody s_law) (defScope s_law) [] [] f fd) (isC : fd.code = .ref c) (T : Txt K mg) (B : LamX.TabB base mg c P0) (math : ∀ ns : List Int, ns.length ≤ 63 → ∃ s', b_law P0 (s0T P0 "law.<locals>.<lambda>" 9 ns) = .ok (.rt (.fz (.bl true))) s') : FnG P w K mg base (L2.CX P w) 11 f fd ["script"] (spLawT K P0) := by
  obtain ⟨fdP, GP, bP, kP⟩ := ok__law_pen (P := P) (w := w) (base := base) T
  refine fnGT_of F isC sc_law (fun {vs H Q E} h => ?_) (fun A outer s H vs Q E hgd hr h => ⟨_, ?_, pure_lawT (mg := mg) (n := 9) (E := E) rfl math h⟩)
  · obtain ⟨a, ns, rfl, _⟩ := h
    rfl
  · exact pss_cons (ps_set (i := 1) sc_law.nd rfl (by first | exact Or.inl rfl | exact Or.inr rfl) (pe_call GP (hr.mono (by decide)) rfl T.g__law_pen kP bP .nil passD (pa_cons (pv 0) pa_nil))) (sb_law T B hgd hr)
end
end K04
namespace GM
open PySem PySem.Spec L2 DL
open PyProof.Rows hiding St
def ent (p : Nat) (t : T) : List (Int × Int) := match t with
  | [a, b, c, d] => (if b.toNat = p then [(a, c)] else []) ++ (if a.toNat = p then [(b, d)] else [])
  | _ => []
theorem getD_set_eq {α : Type} {l : List α} {i : Nat} {x d : α} (h : i < l.length) : (l.set i x).getD i d = x := by
  rw [List.getD_eq_getElem?_getD, List.getElem?_set_self h]; rfl
theorem getD_set_ne {α : Type} {l : List α} {i j : Nat} {x d : α} (h : i ≠ j) : (l.set i x).getD j d = l.getD j d := by
  rw [List.getD_eq_getElem?_getD, List.getD_eq_getElem?_getD, List.getElem?_set_ne h]
theorem nstep_len {nps : List (List (Int × Int))} {t : T} : (nstep nps t).length = nps.length := by
  unfold nstep
  split
  · show ((nps.set _ _).set _ _).length = _
    rw [List.length_set, List.length_set]
  · rfl
theorem nstep_at {n : Int} {nps : List (List (Int × Int))} {t : T} (h : TieOk n t) (hl : nps.length = n.toNat) {p : Nat} (hp : p < n.toNat) : (nstep nps t).getD p [] = nps.getD p [] ++ ent p t := by
  obtain ⟨a, b, c, d, rfl, a1, a2, a3, _⟩ := h
  show ((nps.set b.toNat (nps.getD b.toNat [] ++ [(a, c)])).set a.toNat ((nps.set b.toNat (nps.getD b.toNat [] ++ [(a, c)])).getD a.toNat [] ++ [(b, d)])).getD p [] = nps.getD p [] ++ ((if b.toNat = p then [(a, c)] else []) ++ (if a.toNat = p then [(b, d)] else []))
  have hne : b.toNat ≠ a.toNat := by omega
  by_cases e1 : a.toNat = p
  · rw [← e1, getD_set_eq (by rw [List.length_set]; omega), getD_set_ne hne, if_neg hne, if_pos rfl, List.nil_append]
  · rw [getD_set_ne e1, if_neg e1, List.append_nil]
    by_cases e2 : b.toNat = p
    · rw [← e2, getD_set_eq (by omega), if_pos rfl]
    · rw [getD_set_ne e2, if_neg e2, List.append_nil]
theorem near_fold {n : Int} {p : Nat} (hp : p < n.toNat) : ∀ (rows : List T) (nps : List (List (Int × Int))), (∀ t ∈ rows, TieOk n t) → nps.length = n.toNat → (rows.foldl nstep nps).getD p [] = nps.getD p [] ++ rows.flatMap (ent p)
  | [], nps, _, _ => by simp
  | t :: r, nps, h, hl => by
    rw [List.foldl_cons, near_fold hp r (nstep nps t) (fun u m => h u (List.mem_cons_of_mem _ m)) (nstep_len.trans hl), nstep_at (h t (by simp)) hl hp, List.flatMap_cons, List.append_assoc]
def nearN (n : Int) (l : List T) : List (List (Int × Int)) := (sortT l).foldl nstep (List.replicate n.toNat [])
theorem sortT_mem {l : List T} {t : T} : t ∈ sortT l ↔ t ∈ l := (List.mergeSort_perm l leC).mem_iff
section
variable {n : Int} {l : List T} {p : Nat}
theorem nearN_at (g : Good n l) (hp : p < n.toNat) : (nearN n l).getD p [] = (sortT l).flatMap (ent p) := by
  unfold nearN
  rw [near_fold hp (sortT l) _ (fun t m => g.ok t (sortT_mem.mp m)) (by simp)]
  have : (List.replicate n.toNat ([] : List (Int × Int))).getD p [] = [] := by
    rw [List.getD_eq_getElem?_getD, List.getElem?_replicate]
    split <;> rfl
  rw [this, List.nil_append]
end
def pairOf (p x : Int) : List Int := if x < p then [x, p] else [p, x]
theorem ent_pairs {n : Int} {t : T} {p : Nat} (h : TieOk n t) : ((ent p t).map fun e => pairOf p e.1).Sublist [pr t] := by
  obtain ⟨a, b, c, d, rfl, a1, a2, a3, _⟩ := h
  show (((if b.toNat = p then [(a, c)] else []) ++ (if a.toNat = p then [(b, d)] else [])).map fun e => pairOf p e.1).Sublist [[a, b]]
  by_cases e1 : b.toNat = p
  · have e2 : ¬ a.toNat = p := by omega
    rw [if_pos e1, if_neg e2]
    have : pairOf (p : Int) a = [a, b] := by
      unfold pairOf
      rw [if_pos (by omega)]
      congr 1
      congr 1
      omega
    simp [this]
  · rw [if_neg e1]
    by_cases e2 : a.toNat = p
    · rw [if_pos e2]
      have : pairOf (p : Int) b = [a, b] := by
        unfold pairOf
        rw [if_neg (by omega)]
        congr 1
        omega
      simp [this]
    · rw [if_neg e2]
      simp
theorem flat_pairs {n : Int} {p : Nat} : ∀ {rows : List T}, (∀ t ∈ rows, TieOk n t) → ((rows.flatMap (ent p)).map fun e => pairOf p e.1).Sublist (rows.map pr)
  | [], _ => by simp
  | t :: r, h => by
    rw [List.flatMap_cons, List.map_append, List.map_cons]
    exact (ent_pairs (h t (by simp))).append (flat_pairs fun u m => h u (List.mem_cons_of_mem _ m))
theorem near_nd {n : Int} {l : List T} {p : Nat} (g : Good n l) (hp : p < n.toNat) : (((nearN n l).getD p []).map (·.1)).Nodup := by
  rw [nearN_at g hp]
  have h1 := flat_pairs (p := p) (rows := sortT l) fun t m => g.ok t (sortT_mem.mp m)
  have h2 : ((sortT l).map pr).Nodup := (((List.mergeSort_perm l leC).map pr).nodup_iff).mpr g.nd
  have h3 := h2.sublist h1
  have e : ((sortT l).flatMap (ent p)).map (fun e => pairOf p e.1) = (((sortT l).flatMap (ent p)).map (·.1)).map (pairOf p) := by
    rw [List.map_map]; rfl
  rw [e] at h3
  exact nodup_of_map h3
end GM
namespace GM
open PySem PySem.Spec L2 DL
open PyProof.Rows hiding St
def fresh (fd : List Int) (ps : List (Int × Int)) : List Int := (ps.map (·.1)).filter fun x => !decide (x ∈ fd)
structure NearGo (n : Int) (nps : List (List (Int × Int))) : Prop where
  run : Runs n nps
  nd : ∀ k, k < n.toNat → ((nps.getD k []).map (·.1)).Nodup
theorem NearGo.row {n : Int} {nps : List (List (Int × Int))} (G : NearGo n nps) {k : Nat} (hk : k < n.toNat) : nps[k]? = some (nps.getD k []) ∧ (nps.getD k []).length ≤ 200 ∧ ∀ p ∈ nps.getD k [], 0 ≤ p.1 ∧ p.1 < n := by
  have hl := G.run.len
  have e : nps[k]? = some (nps.getD k []) := by rw [List.getD_eq_getElem?_getD, List.getElem?_eq_getElem (by omega)]; rfl
  have m : nps.getD k [] ∈ nps := List.mem_of_getElem? e
  exact ⟨e, (G.run.ok _ m).1, fun p hp => ⟨((G.run.ok _ m).2 p hp).1, ((G.run.ok _ m).2 p hp).2.1⟩⟩
structure Fnd (n : Int) (p : Int) (nps : List (List (Int × Int))) (fd : List Int) (k : Nat) : Prop where
  nd : fd.Nodup
  rng : ∀ x ∈ fd, 0 ≤ x ∧ x < n
  me : p ∈ fd
  cl : ∀ i x, i < k → fd[i]? = some x → ∀ e ∈ nps.getD x.toNat [], e.1 ∈ fd
theorem fd_len {n : Int} {fd : List Int} (hn : fd.Nodup) (hr : ∀ x ∈ fd, 0 ≤ x ∧ x < n) : fd.length ≤ n.toNat := by
  have h := nodup_len n.toNat (fd.map Int.toNat) (List.pairwise_map.mpr (List.Pairwise.imp_of_mem (fun {x y} hx hy (e : x ≠ y) => by
    have := hr x hx
    have := hr y hy
    omega) hn)) fun x hx => by
      obtain ⟨y, hy, rfl⟩ := List.mem_map.mp hx
      have := hr y hy
      omega
  rwa [List.length_map] at h
theorem Fnd.step {n p : Int} {nps : List (List (Int × Int))} {fd : List Int} {k : Nat} {x : Int} (G : NearGo n nps) (h : Fnd n p nps fd k) (hx : fd[k]? = some x) : Fnd n p nps (fd ++ fresh fd (nps.getD x.toNat [])) (k + 1) := by
  have rx := h.rng x (List.mem_of_getElem? hx)
  obtain ⟨_, _, rr⟩ := G.row (k := x.toNat) (by omega)
  have nd := G.nd x.toNat (by omega)
  refine ⟨?_, fun y hy => ?_, List.mem_append_left _ h.me, fun i y hi hy e he => ?_⟩
  · refine List.nodup_append.mpr ⟨h.nd, nd.sublist List.filter_sublist, fun a ha b hb e => ?_⟩
    subst e
    have := (List.mem_filter.mp hb).2
    simp at this
    exact this ha
  · rcases List.mem_append.mp hy with m | m
    · exact h.rng y m
    · obtain ⟨e, he, rfl⟩ := List.mem_map.mp (List.mem_filter.mp m).1
      exact rr e he
  · have hk : k < fd.length := (List.getElem?_eq_some_iff.mp hx).1
    rw [List.getElem?_append_left (by omega)] at hy
    by_cases c : i < k
    · exact List.mem_append_left _ (h.cl i y c hy e he)
    · have : i = k := by omega
      subst this
      rw [hx] at hy
      cases hy
      by_cases m : e.1 ∈ fd
      · exact List.mem_append_left _ m
      · exact List.mem_append_right _ (List.mem_filter.mpr ⟨List.mem_map_of_mem he, by simp [m]⟩)
structure Part (n : Int) (nps : List (List (Int × Int))) (ps : List Int) : Prop where
  asc : ps.Pairwise (· < ·)
  rng : ∀ x ∈ ps, 0 ≤ x ∧ x < n
  cl : ∀ q ∈ ps, ∀ e ∈ nps.getD q.toNat [], e.1 ∈ ps
  ne : ps ≠ []
theorem Fnd.part {n p : Int} {nps : List (List (Int × Int))} {fd : List Int} (h : Fnd n p nps fd fd.length) : Part n nps (sortI fd) := by
  have pm := sortI_perm fd
  refine ⟨?_, fun x hx => h.rng x (pm.mem_iff.mp hx), fun q hq e he => pm.mem_iff.mpr ?_, fun z => ?_⟩
  · have h1 := sortI_pw fd
    have h2 : (sortI fd).Pairwise (· ≠ ·) := pm.nodup_iff.mpr h.nd
    exact (h1.and h2).imp fun {a b} ⟨x, y⟩ => by omega
  · obtain ⟨i, hi, e1⟩ := List.getElem_of_mem (pm.mem_iff.mp hq)
    exact h.cl i q hi (by rw [List.getElem?_eq_getElem hi, e1]) e he
  · have := pm.mem_iff.mpr h.me
    rw [z] at this
    simp at this
end GM
namespace GM
open PySem PySem.Spec L2 DL
open PyProof.Rows hiding St
theorem Part.len {n : Int} {nps : List (List (Int × Int))} {q : List Int} (h : Part n nps q) : q.length ≤ n.toNat := fd_len (h.asc.imp fun {a b} (e : a < b) => by show a ≠ b; omega) h.rng
end GM
namespace GM
open PySem PySem.Spec L2 DL
open PyProof.Rows hiding St
def kvP (ps : List Int) : List (Int × Int) := (List.range ps.length).map fun (i : Nat) => (ps.getD i 0, (i : Int))
theorem kvP_keys (ps : List Int) : (kvP ps).map (·.1) = ps := by
  unfold kvP
  rw [List.map_map]
  refine List.ext_getElem? fun i => ?_
  rw [List.getElem?_map]
  by_cases h : i < ps.length
  · rw [List.getElem?_range h, List.getElem?_eq_getElem h]
    show some (ps.getD i 0) = _
    rw [List.getD_eq_getElem?_getD, List.getElem?_eq_getElem h]; rfl
  · rw [List.getElem?_eq_none (by rw [List.length_range]; omega), List.getElem?_eq_none (by omega)]; rfl
theorem look_mem : ∀ {l : List (Int × Int)} {q : Int × Int}, (l.map (·.1)).Nodup → q ∈ l → lookI l q.1 = some q.2
  | p :: r, q, hn, hq => by
    rw [List.map_cons, List.nodup_cons] at hn
    rcases List.mem_cons.mp hq with e | m
    · subst e; simp [lookI, List.find?_cons]
    · have hne : p.1 ≠ q.1 := fun z => hn.1 (by rw [z]; exact List.mem_map_of_mem m)
      have := look_mem hn.2 m
      unfold lookI at this ⊢
      rw [List.find?_cons]
      simp only [hne, decide_false]
      exact this
section
variable {ps : List Int} (nd : ps.Nodup)
include nd
theorem look_at {j : Nat} {x : Int} (h : ps[j]? = some x) : lookI (kvP ps) x = some (j : Int) := by
  have hj := (List.getElem?_eq_some_iff.mp h).1
  have m : (x, (j : Int)) ∈ kvP ps := List.mem_map.mpr ⟨j, List.mem_range.mpr hj, by rw [List.getD_eq_getElem?_getD, h]; rfl⟩
  exact look_mem (by rw [kvP_keys]; exact nd) m
def rk (ps : List Int) (x : Int) : Int := (lookI (kvP ps) x).getD 0
theorem rk_at {j : Nat} {x : Int} (h : ps[j]? = some x) : rk ps x = j := by unfold rk; rw [look_at nd h]; rfl
theorem rk_mem {x : Int} (h : x ∈ ps) : ∃ j : Nat, rk ps x = j ∧ ps[j]? = some x ∧ j < ps.length ∧ lookI (kvP ps) x = some (rk ps x) := by
  obtain ⟨j, hj⟩ := List.getElem?_of_mem h
  exact ⟨j, rk_at nd hj, hj, (List.getElem?_eq_some_iff.mp hj).1, by rw [rk_at nd hj, look_at nd hj]⟩
end
def mapT (ps : List Int) (t : T) : T := match t with
  | [a, b, c, d] => [rk ps a, rk ps b, c, d]
  | t => t
def alone (ps : List Int) (l : List T) : List T := (l.filter fun t => decide (t.getD 0 0 ∈ ps)).map (mapT ps)
section
variable {n : Int} {l : List T} {ps : List Int} (g : Good n l) (h : Part n (nearN n l) ps)
include g h
end
end GM
namespace GM
open PySem PySem.Spec L2 DL
open PyProof.Rows hiding St
theorem near_len {n : Int} {l : List T} {p : Nat} (g : Good n l) (h1 : n ≤ 12) (hp : p < n.toNat) : ((nearN n l).getD p []).length ≤ 11 := by
  have nd := near_nd g hp
  have mem : ∀ e ∈ (nearN n l).getD p [], 0 ≤ e.1 ∧ e.1 < n ∧ e.1.toNat ≠ p := fun e he => by
    rw [nearN_at g hp] at he
    obtain ⟨t, ht, he⟩ := List.mem_flatMap.mp he
    obtain ⟨a, b, c, d, rfl, a1, a2, a3, _⟩ := g.ok t (sortT_mem.mp ht)
    have he : e ∈ (if b.toNat = p then [(a, c)] else []) ++ (if a.toNat = p then [(b, d)] else []) := he
    rcases List.mem_append.mp he with h | h
    · by_cases c1 : b.toNat = p
      · rw [if_pos c1] at h
        obtain rfl := List.mem_singleton.mp h
        exact ⟨a1, show a < n by omega, show a.toNat ≠ p by omega⟩
      · rw [if_neg c1] at h
        simp at h
    · by_cases c1 : a.toNat = p
      · rw [if_pos c1] at h
        obtain rfl := List.mem_singleton.mp h
        exact ⟨show 0 ≤ b by omega, a3, show b.toNat ≠ p by omega⟩
      · rw [if_neg c1] at h
        simp at h
  have nd' : (((nearN n l).getD p []).map fun e => e.1.toNat).Nodup := List.pairwise_map.mpr ((List.pairwise_map.mp nd).imp_of_mem fun {a b} ha hb h e => by
    have := mem a ha
    have := mem b hb
    exact h (by omega))
  have key := nodup_len 12 (p :: ((nearN n l).getD p []).map fun e => e.1.toNat) (List.nodup_cons.mpr ⟨fun m => by
    obtain ⟨e, he, q⟩ := List.mem_map.mp m
    exact (mem e he).2.2 q, nd'⟩) (fun x m => by
    rcases List.mem_cons.mp m with rfl | m
    · omega
    · obtain ⟨e, he, rfl⟩ := List.mem_map.mp m
      have := mem e he
      omega)
  rw [List.length_cons, List.length_map] at key
  omega
def Lg (x : Int) : Prop := x.natAbs < 10 ^ 430
def Wf (x : Str) : Prop := ∀ c ∈ x.cps.toList, c < 0x110000
theorem Wf.ok {x : Str} (h : Wf x) : PyData.strOk x = true := by
  unfold PyData.strOk
  rw [← Array.all_toList]
  exact List.all_eq_true.mpr fun c m => decide_eq_true (h c m)
theorem Wf.of (s : String) : Wf (Str.ofString s) := fun c m => by
  rw [signs_ofString] at m
  obtain ⟨d, _, rfl⟩ := List.mem_map.mp m
  have := d.valid
  show d.val.toNat < 0x110000
  rcases this with h | h
  · have h : d.val.toNat < 0xd800 := h
    omega
  · exact h.2
theorem Wf.app {a b : Str} (ha : Wf a) (hb : Wf b) : Wf (a ++ b) := fun c m => (mem_cps_append.mp m).elim (ha c) (hb c)
theorem Wf.join {a : Str} {ts : List Str} (ha : Wf a) (h : ∀ t ∈ ts, Wf t) : Wf (Str.join a ts) := fun c m => by
  rcases (mem_join a c ts).mp m with ⟨t, q, r⟩ | ⟨_, r⟩
  · exact h t q c r
  · exact ha c r
theorem Wf.lst {ts : List Str} (h : ∀ t ∈ ts, Wf t) : Wf (listText ts) := by
  rw [listText_eq_join]
  exact ((Wf.of "[").app (Wf.join (Wf.of ", ") h)).app (Wf.of "]")
theorem Wf.tup {ts : List Str} (h : ∀ t ∈ ts, Wf t) : Wf (tupleText ts) := ((Wf.of "(").app (Wf.join (Wf.of ", ") h)).app (Wf.of _)
structure Rpr (d : D) (m k : Nat) : Prop where
  py : d.isPy = true ∧ d.toPy.depth ≤ m
  sh : d.toPy.showable = true
  len : d.toPy.shown.length ≤ k
  wf : Wf d.toPy.shown
theorem Rpr.mono {d : D} {m k m' k' : Nat} (h : Rpr d m k) (hm : m ≤ m') (hk : k ≤ k') : Rpr d m' k' := ⟨⟨h.py.1, Nat.le_trans h.py.2 hm⟩, h.sh, Nat.le_trans h.len hk, h.wf⟩
theorem lg_log {x : Int} (h : Lg x) : x.natAbs.log2 < 1920 := by
  by_cases z : x.natAbs = 0
  · rw [z]; decide
  · exact (Nat.log2_lt z).mpr (Nat.lt_trans h (by decide +kernel))
theorem Rpr.int {x : Int} (h : Lg x) : Rpr (.int x) 0 431 := by
  refine ⟨py_int x, ?_, ?_, ?_⟩
  · simp only [D.toPy, PyData.showable]
    exact decide_eq_true (lg_log h)
  · simp only [D.toPy, PyData.shown]
    rw [PySem.ofString_length]
    exact int_text_length_le10 (by decide) h
  · simp only [D.toPy, PyData.shown]
    exact Wf.of _
theorem shownAll_map : ∀ xs : List D, PyData.shownAll (D.toPyL xs) = xs.map fun d => d.toPy.shown
  | [] => rfl
  | x :: xs => by
    simp only [D.toPyL, PyData.shownAll, List.map_cons]
    rw [shownAll_map xs]
theorem showAll {m k : Nat} : ∀ {xs : List D}, (∀ x ∈ xs, Rpr x m k) → PyData.showableAll (D.toPyL xs) = true ∧ ((xs.map fun d => d.toPy.shown).map (·.length)).sum ≤ k * xs.length
  | [], _ => by simp [D.toPyL, PyData.showableAll]
  | x :: xs, h => by
    obtain ⟨a, b⟩ := showAll fun y q => h y (List.mem_cons_of_mem _ q)
    have hx := h x (by simp)
    refine ⟨?_, ?_⟩
    · simp only [D.toPyL, PyData.showableAll, hx.sh, a, Bool.and_self]
    · have := hx.len
      simp only [List.map_cons, List.sum_cons, List.length_cons, Nat.mul_succ]
      omega
theorem Rpr.tup {m k : Nat} {xs : List D} (h : ∀ x ∈ xs, Rpr x m k) : Rpr (.tup xs) (m + 1) ((k + 2) * xs.length + 3) := by
  obtain ⟨a, b⟩ := showAll h
  refine ⟨py_tup fun x q => (h x q).py, ?_, ?_, ?_⟩
  · simp only [D.toPy, PyData.showable, a]
  · simp only [D.toPy, PyData.shown, shownAll_map]
    have := tupleText_len_le (xs.map fun d => d.toPy.shown)
    rw [List.length_map] at this
    rw [Nat.add_mul]
    omega
  · simp only [D.toPy, PyData.shown, shownAll_map]
    exact Wf.tup fun t q => by
      obtain ⟨d, hd, rfl⟩ := List.mem_map.mp q
      exact (h d hd).wf
theorem Rpr.lst {m k : Nat} {xs : List D} (h : ∀ x ∈ xs, Rpr x m k) : Rpr (.lst xs) (m + 1) ((k + 2) * xs.length + 3) := by
  obtain ⟨a, b⟩ := showAll h
  refine ⟨py_lst fun x q => (h x q).py, ?_, ?_, ?_⟩
  · simp only [D.toPy, PyData.showable, a]
  · simp only [D.toPy, PyData.shown, shownAll_map]
    have := listText_len_le (xs.map fun d => d.toPy.shown)
    rw [List.length_map] at this
    rw [Nat.add_mul]
    omega
  · simp only [D.toPy, PyData.shown, shownAll_map]
    exact Wf.lst fun t q => by
      obtain ⟨d, hd, rfl⟩ := List.mem_map.mp q
      exact (h d hd).wf
theorem Rpr.row {xs : List Int} (h : ∀ x ∈ xs, Lg x) (hl : xs.length ≤ 12) : Rpr (.tup (xs.map .int)) 1 5199 := by
  refine (Rpr.tup (m := 0) (k := 431) fun d q => ?_).mono (by decide) (by rw [List.length_map]; omega)
  obtain ⟨x, hx, rfl⟩ := List.mem_map.mp q
  exact .int (h x hx)
theorem Rpr.st {o n : List Int} (h : ∀ x ∈ o ++ n, Lg x) (lo : o.length ≤ 12) (ln : n.length ≤ 12) : Rpr (stD o n) 2 10405 := by
  refine (Rpr.tup (m := 1) (k := 5199) fun d q => ?_).mono (by decide) (by simp)
  rcases List.mem_cons.mp q with rfl | q
  · exact .row (fun x m => h x (List.mem_append_left _ m)) lo
  · obtain rfl := List.mem_singleton.mp q
    exact .row (fun x m => h x (List.mem_append_right _ m)) ln
end GM
namespace GM
open PySem PySem.Spec L2 DL
open PyProof.Rows hiding St
section
variable {s : DS} {w : Wd} {f h f1 : DS → Oc Sl} {t : DS → Oc Bool} {fd : DS → Oc D} {i j k n : Nat} {b : Bool} {xs ys : List D} {xss : List (List D)} {d e : D} {sl : List Sl} {ψ : List D → DS → Oc Unit}
@[simp] theorem sParO_eq : sParO i j f h s = (f s).bind fun r s1 => (h s1).bind fun r2 s2 => .ok .nx ((s2.put i r).put j r2) := rfl
@[simp] theorem nst2_eq : nst2 b f h s = (f s).bind fun r s1 => (h s1).bind fun r2 s2 => match r, r2 with
  | .ow xs, .ow ys => .ok (.nst b [xs, ys]) s2
  | _, _ => .wr := rfl
@[simp] theorem bv_eq : bv t s = (t s).bind fun b s1 => .ok (.fz (.bl b)) s1 := rfl
@[simp] theorem callR_eq {φ : D → DS → Oc Sl} : callR φ fd s = (fd s).bind φ := rfl
@[simp] theorem gUnL_eq : gUnL n ψ (.lst xs) s = if xs.length = n then ψ xs s else .wr := rfl
@[simp] theorem itEnA_eq : itEnA f s = (fr f s).bind fun d s1 => match d with
  | .lst xs => .ok (enumD 0 xs) s1
  | .tup xs => .ok (enumD 0 xs) s1
  | .tupX xs => .ok (enumD 0 xs) s1
  | _ => .wr := rfl
end
theorem seq_nx {b c : DS → Oc Fl} {s s' : DS} (h : b s = .ok .nx s') : sSeq b c s = c s' := by rw [sSeq_eq, h]
theorem lcRun_filt {vs : List Nat} {tg : D → DS → Oc Unit} {tt : DS → Oc Bool} {te : DS → Oc Sl} (Iv : DS → Prop) (f : D → Option D) : ∀ (ds acc : List D) (s : DS),
    (∀ d ∈ ds, ∀ s, Iv s → ∃ s1 s2, tg d (s.wipe vs) = .ok () s1 ∧ match f d with
      | none => tt s1 = .ok false s2 ∧ Iv s2
      | some y => ∃ s3, tt s1 = .ok true s2 ∧ fr te s2 = .ok y s3 ∧ Iv s3) → acc.length + ds.length ≤ sizeLine → Iv s → ∃ s', lcRun vs tg tt te ds s acc = .ok (acc ++ ds.filterMap f) s' ∧ Iv s'
  | [], acc, s, _, _, h => ⟨s, by simp [lcRun], h⟩
  | d :: ds, acc, s, step, hl, h => by
    obtain ⟨s1, s2, h1, h2⟩ := step d (by simp) s h
    cases hf : f d with
    | none =>
      rw [hf] at h2
      obtain ⟨s', e, h4⟩ := lcRun_filt Iv f ds acc s2 (fun d m => step d (List.mem_cons_of_mem _ m)) (by rw [List.length_cons] at hl; omega) h2.2
      refine ⟨s', ?_, h4⟩
      rw [List.filterMap_cons, hf]
      simp only [lcRun, h1, h2.1]
      exact e
    | some y =>
      rw [hf] at h2
      obtain ⟨s3, q1, q2, q3⟩ := h2
      obtain ⟨s', e, h4⟩ := lcRun_filt Iv f ds (acc ++ [y]) s3 (fun d m => step d (List.mem_cons_of_mem _ m)) (by rw [List.length_cons] at hl; rw [List.length_append]; simp; omega) q3
      refine ⟨s', ?_, h4⟩
      rw [List.filterMap_cons, hf]
      simp only [lcRun, h1, q1, q2]
      rw [if_pos (by rw [List.length_cons] at hl; omega)]
      rw [List.append_assoc] at e
      exact e
end GM
namespace GM
open PySem PySem.Spec L2 DL
open PyProof.Rows hiding St
def ok0 : D → Bool
  | .non => true
  | .bl _ => true
  | .int _ => true
  | .str _ => true
  | .lst _ => true
  | .tup _ => true
  | .sd _ _ => true
  | .dn _ => true
  | _ => false
def Sh : Nat → D → Prop
  | 0, d => ok0 d = true
  | k + 1, d => ok0 d = true ∧ ∀ xs, d = .tup xs → xs.length ≤ 40 ∧ ∀ x ∈ xs, Sh k x
theorem Sh.ok {k : Nat} {d : D} (h : Sh k d) : ok0 d = true := by cases k <;> first | exact h | exact h.1
theorem Sh.base {d : D} (h : ok0 d = true) (hn : ∀ xs, d ≠ .tup xs) (k : Nat) : Sh k d := by
  cases k with
  | zero => exact h
  | succ k => exact ⟨h, fun xs e => absurd e (hn xs)⟩
theorem Sh.tup {k : Nat} {xs : List D} (hl : xs.length ≤ 40) (h : ∀ x ∈ xs, Sh k x) : Sh (k + 1) (.tup xs) := ⟨rfl, fun ys e => by cases e; exact ⟨hl, h⟩⟩
theorem Sh.int (i : Int) (k : Nat) : Sh k (.int i) := Sh.base rfl (by intro xs e; cases e) k
theorem Sh.nil (k : Nat) : Sh k (.tup []) := by
  cases k with
  | zero => rfl
  | succ k => exact Sh.tup (by simp) (fun _ m => by simp at m)
def ShA (d : D) : Prop := ∀ k, Sh k d
theorem ShA.tup {xs : List D} (hl : xs.length ≤ 40) (h : ∀ x ∈ xs, ShA x) : ShA (.tup xs) := fun k => by
  cases k with
  | zero => rfl
  | succ k => exact Sh.tup hl fun x m => h x m k
@[simp] theorem vSd1_eq {x : Str} {f : DS → Oc Sl} {s : DS} : vSd1 x f s = (fr f s).bind fun d s1 => .ok (.fz (.sd [x] [d])) s1 := rfl
def someL (inner : List D) : List D := [.non, .bl true, .bl false, .int 0, .int 1, .int (-1), .int 2, .int 12, .int 13, .int 1000000000000000000000000000000, .int 1000000000000000000000000000001, .int (-1000000000000000000000000000001), .str "", .str "a", .str "all", .str "none", .int (-1000000000000000000000000000000), .str "0", .lst [], .sd [] [], .tup [], .tup inner, .tup inner, .lst inner, .sd ["a"] [.tup inner]]
abbrev anyX (m : MF) : DS → Oc Sl := (vLc [3] (itRng1 (vIf (asB (bin (opIcmp fun i j => decide (j < i)) (rd 1) (cn (.int 0)))) (callD m__law_draw [] (aCons (rd 0) (aCons (cn (.int 4)) aNil))) (cn (.int 0)))) (gSet 3) tYesD (callD m [] (aCons (rd 0) (aCons (bin opSub (rd 1) (cn (.int 1))) aNil))))
abbrev anyR : DS → Oc Fl := (sSeq (sSet 4 (vLst (aCons (cn .non) (aCons (cn (.bl true)) (aCons (cn (.bl false)) (aCons (cn (.int 0)) (aCons (cn (.int 1)) (aCons (una opNeg (cn (.int 1))) (aCons (cn (.int 2)) (aCons (cn (.int 12)) (aCons (cn (.int 13)) (aCons (bin opPow (cn (.int 10)) (cn (.int 30))) (aCons (bin opAdd (bin opPow (cn (.int 10)) (cn (.int 30))) (cn (.int 1))) (aCons (bin opSub (una opNeg (bin opPow (cn (.int 10)) (cn (.int 30)))) (cn (.int 1))) (aCons (cn (.str "")) (aCons (cn (.str "a")) (aCons (cn (.str "all")) (aCons (cn (.str "none")) aNil))))))))))))))))))
    (sSeq (sExpr (meth1 4 (appD 4) (una opNeg (bin opPow (cn (.int 10)) (cn (.int 30))))))
    (sSeq (sSet 4 (bin opAdd (rd 4) (vLst (aCons (cn (.str "0")) (aCons (vLst aNil) (aCons (cn (.sd [] [])) (aCons (vTup aNil) (aCons (call1 tupD (pn 2)) (aCons (call1 tupD (pn 2)) (aCons (call1 listD (pn 2)) (aCons (vSd1 "a" (call1 tupD (pn 2))) aNil)))))))))))
    (sRet (item ixD (pn 4) (callD m__law_draw [] (aCons (rd 0) (aCons (call1 lenD (pn 4)) aNil))))))))
theorem any_b (m : MF) : b__law_anything m = sSeq (sSet 2 (anyX m)) anyR := rfl
theorem anyR_ok {w : Wd} {z1 z3 : Sl} {inner : List D} (hl : inner.length ≤ 40) (hr : Rm 1 w) : ∃ d sl w', anyR ⟨[.fz .pen, z1, .ow inner, z3, .no], w⟩ = .ok (.rt (.fz d)) ⟨sl, w'⟩ ∧ d ∈ someL inner ∧ Adv 1 w w' := by
  obtain ⟨r, w1, e1, r0, r1, a1⟩ := draw_ok (w := w) (many := 25) (by omega) (by omega) hr
  obtain ⟨d, ed, md, _⟩ := atI_get (l := someL inner) r0 (by show r < 25; exact r1)
  refine ⟨d, [.fz .pen, z1, .ow inner, z3, .ow (someL inner)], w1, ?_, md, a1⟩
  have q : inner.length < 16777216 := smallN (by omega)
  unfold someL at ed ⊢
  simp [anyR, sizeLine_eq, q, e1, ed]
end GM
namespace GM
open PySem PySem.Spec L2 DL
open PyProof.Rows hiding St
abbrev BN0 (m : MF) : DS → Oc Fl := (sIf (tAn (tru (call2 opIsi (rd 1) (vTup (aCons (cn (.ty "list")) (aCons (cn (.ty "tuple")) aNil))))) (tAn (asB (bin (opIcmp fun i j => decide (j < i)) (call1 lenD (pn 1)) (cn (.int 0)))) (asB (bin (opIcmp fun i j => decide (j < i)) (callD m__law_draw [] (aCons (rd 0) (aCons (cn (.int 6)) aNil))) (cn (.int 0)))))) (sSeq (sSet 2 (callD m__law_draw [] (aCons (rd 0) (aCons (call1 lenD (pn 1)) aNil))))
    (sSeq (sSet 3 (vIf (tru (call2 opIsi (rd 1) (cn (.ty "list")))) (vLst (aCons (callD m [] (aCons (rd 0) (aCons (item ixD (pn 1) (rd 2)) aNil))) aNil)) (vTup (aCons (callD m [] (aCons (rd 0) (aCons (item ixD (pn 1) (rd 2)) aNil))) aNil))))
    (sRet (bin opAdd (bin opAdd (slice (pn 1) none (some (rd 2))) (rd 3)) (slice (pn 1) (some (bin opAdd (rd 2) (cn (.int 1)))) none))))) sNil)
abbrev BN1 (m : MF) : DS → Oc Fl := (sSet 4 (callD m__law_draw [] (aCons (rd 0) (aCons (cn (.int 8)) aNil))))
abbrev BN2 (m : MF) : DS → Oc Fl := (sIf (asB (bin (opEq false) (rd 4) (cn (.int 0)))) (sRet (callD m__law_anything [] (aCons (rd 0) (aCons (cn (.int 1)) aNil)))) sNil)
abbrev BN3 (m : MF) : DS → Oc Fl := (sIf (tru (call2 opIsi (rd 1) (cn (.ty "int")))) (sRet (item ixD (pval (vLst (aCons (bin opAdd (rd 1) (cn (.int 1))) (aCons (bin opSub (rd 1) (cn (.int 1))) (aCons (bin opSub (cn (.int 0)) (rd 1)) (aCons (cn (.int 0)) (aCons (cn (.int 1)) (aCons (bin opAdd (bin opPow (cn (.int 10)) (cn (.int 30))) (cn (.int 1))) (aCons (bin opMulT (cn (.int 2)) (rd 1)) aNil))))))))) (bin opSub (rd 4) (cn (.int 1))))) sNil)
abbrev BN4 (m : MF) : DS → Oc Fl := (sIf (tru (call2 opIsi (rd 1) (vTup (aCons (cn (.ty "list")) (aCons (cn (.ty "tuple")) aNil))))) (sRet (item ixD (pval (vLst (aCons (slice (pn 1) (some (cn (.int 1))) none) (aCons (slice (pn 1) none (some (una opNeg (cn (.int 1))))) (aCons (bin opAdd (rd 1) (slice (pn 1) (some (una opNeg (cn (.int 1)))) none)) (aCons (una revD (rd 1)) (aCons (call1 listD (pn 1)) (aCons (call1 tupD (pn 1)) (aCons (bin opMulT (rd 1) (cn (.int 2))) aNil))))))))) (bin opSub (rd 4) (cn (.int 1))))) sNil)
abbrev BN5 (m : MF) : DS → Oc Fl := (sRet (item ixD (pval (vLst (aCons (cn .non) (aCons (cn (.str "all")) (aCons (cn (.str "waves")) (aCons (cn (.str "none")) (aCons (cn (.str "step")) (aCons (cn (.int 1)) (aCons (vTup aNil) aNil))))))))) (bin opSub (rd 4) (cn (.int 1)))))
theorem BNb (m : MF) : b__law_bent m = (sSeq (BN0 m) (sSeq (BN1 m) (sSeq (BN2 m) (sSeq (BN3 m) (sSeq (BN4 m) (BN5 m)))))) := rfl
@[simp] theorem tup_tup {xs : List D} {s : DS} : tupD (.tup xs) s = .ok (.fz (.tup xs)) s := rfl
@[simp] theorem mul_tup {xs : List D} {k : Int} {s : DS} : opMulT (.tup xs) (.int k) s = if 2 ≤ k ∧ k ≤ 1000 ∧ xs.length ≤ 1000 then .ok (.fz (.tup (List.replicate k.toNat xs).flatten)) s else .wr := rfl
theorem isi_si (x : Int) (s : DS) : opIsi (.int x) (.tup [.ty "list", .ty "tuple"]) s = .ok (.fz (.bl false)) s := by rfl
theorem isi_st (xs : List D) (s : DS) : opIsi (.tup xs) (.tup [.ty "list", .ty "tuple"]) s = .ok (.fz (.bl true)) s := by rfl
theorem isi_lt (xs : List D) (s : DS) : opIsi (.tup xs) (.ty "list") s = .ok (.fz (.bl false)) s := by rfl
theorem isi_it (xs : List D) (s : DS) : opIsi (.tup xs) (.ty "int") s = .ok (.fz (.bl false)) s := by rfl
theorem cut_mem {α : Type} {xs : List α} {lo hi : Option Int} {x : α} (h : x ∈ cut xs lo hi) : x ∈ xs := List.mem_of_mem_drop (List.mem_of_mem_take h)
theorem cut_len {α : Type} {xs : List α} {lo hi : Option Int} : (cut xs lo hi).length ≤ xs.length := by
  unfold cut
  rw [List.length_take, List.length_drop]; omega
theorem runD2 {b : DS → Oc Fl} {d : D} {w : Wd} {r : Sl} {sl : List Sl} {w' : Wd} (h : b ⟨[.fz .pen, .fz d, .no, .no, .no], w⟩ = .ok (.rt r) ⟨sl, w'⟩) : runD 2 5 b [.pen, d] w = .ok r w' := by
  have e : runD 2 5 b [.pen, d] w = (match b ⟨[.fz .pen, .fz d, .no, .no, .no], w⟩ with | .ok .nx s => Rs.ok (.fz .non) s.w | .ok (.rt r) s => .ok r s.w | .ok _ _ => .wr | .ex x s => .ex x s.w | .wr => .wr) := rfl
  rw [e, h]
theorem seq_rt {b c : DS → Oc Fl} {s s' : DS} {r : Sl} (h : b s = .ok (.rt r) s') : sSeq b c s = .ok (.rt r) s' := by rw [sSeq_eq, h]
theorem bent_not {w : Wd} {x : D} {z3 : Sl} {m : MF} {t : Int} (ht : t ≠ 0) : BN2 m ⟨[.fz .pen, .fz x, .no, z3, .fz (.int t)], w⟩ = .ok .nx ⟨[.fz .pen, .fz x, .no, z3, .fz (.int t)], w⟩ := by
  simp [BN2, eqv_int, fit_int, ht]
end GM
namespace GM
open PySem PySem.Spec L2 DL
open PyProof.Rows hiding St
def isW : D → Bool
  | .int i => decide (-1000000000000000000000000000000 ≤ i ∧ i ≤ 1000000000000000000000000000000)
  | _ => false
def rowOk (n : Int) : D → Bool
  | .tup xs => decide ((xs.length : Int) = n)
  | _ => false
def nums : D → List D
  | .tup xs => xs
  | _ => []
def badOf (n : Int) : D → Str
  | .tup [a, b] => if (rowOk n a && rowOk n b) = true then (if (nums a ++ nums b).all isW = true then "none" else "numbers") else "standing"
  | _ => "standing"
theorem badOf_two {n : Int} {a b : D} : badOf n (.tup [a, b]) = (if (rowOk n a && rowOk n b) = true then (if (nums a ++ nums b).all isW = true then ("none" : Str) else ("numbers" : Str)) else ("standing" : Str)) := rfl
theorem row_any {w : Wd} {x : D} {n : Int} (h : ok0 x = true) : m_is_row_of [x, .int n] w = .ok (.fz (.bl (rowOk n x))) w := by
  cases x with
  | tup xs => simp [m_is_row_of, b_is_row_of, isi_tup, eqv_int, fit_int, rowOk]
  | non => simp [m_is_row_of, b_is_row_of, rowOk, show ∀ s, opIsi .non (.ty "tuple") s = .ok (.fz (.bl false)) s from fun _ => rfl]
  | bl b => simp [m_is_row_of, b_is_row_of, rowOk, show ∀ s, opIsi (.bl b) (.ty "tuple") s = .ok (.fz (.bl false)) s from fun _ => rfl]
  | int i => simp [m_is_row_of, b_is_row_of, rowOk, show ∀ s, opIsi (.int i) (.ty "tuple") s = .ok (.fz (.bl false)) s from fun _ => rfl]
  | str i => simp [m_is_row_of, b_is_row_of, rowOk, show ∀ s, opIsi (.str i) (.ty "tuple") s = .ok (.fz (.bl false)) s from fun _ => rfl]
  | lst i => simp [m_is_row_of, b_is_row_of, rowOk, show ∀ s, opIsi (.lst i) (.ty "tuple") s = .ok (.fz (.bl false)) s from fun _ => rfl]
  | sd i j => simp [m_is_row_of, b_is_row_of, rowOk, show ∀ s, opIsi (.sd i j) (.ty "tuple") s = .ok (.fz (.bl false)) s from fun _ => rfl]
  | dn i => simp [m_is_row_of, b_is_row_of, rowOk, show ∀ s, opIsi (.dn i) (.ty "tuple") s = .ok (.fz (.bl false)) s from fun _ => rfl]
  | _ => cases h
def isWr (lo hi : Int) : D → Bool
  | .int i => decide (lo ≤ i) && decide (i ≤ hi)
  | _ => false
theorem vwhole_any {w : Wd} {x : D} {lo hi : Int} (h : ok0 x = true) : vAn (call2 opIsi (rd 0) (cn (.ty "int"))) (vAn (vNo (call2 opIsi (rd 0) (cn (.ty "bool")))) (vCh (opIcmp fun i j => decide (i ≤ j)) (opIcmp fun i j => decide (i ≤ j)) (rd 1) (rd 0) (rd 2))) ⟨[.fz x, .fz (.int lo), .fz (.int hi)], w⟩ = .ok (.fz (.bl (isWr lo hi x))) ⟨[.fz x, .fz (.int lo), .fz (.int hi)], w⟩ := by
  cases x with
  | non => simp [isWr, show ∀ s, opIsi .non (.ty "int") s = .ok (.fz (.bl false)) s from fun _ => rfl]
  | bl b => simp [isWr, show ∀ s, opIsi (.bl b) (.ty "int") s = .ok (.fz (.bl true)) s from fun _ => rfl, show ∀ s, opIsi (.bl b) (.ty "bool") s = .ok (.fz (.bl true)) s from fun _ => rfl]
  | int i =>
    by_cases c : lo ≤ i
    · simp [isWr, isi_int, isi_bool, vCh_eq, c]
    · simp [isWr, isi_int, isi_bool, vCh_eq, c]
  | str i => simp [isWr, show ∀ s, opIsi (.str i) (.ty "int") s = .ok (.fz (.bl false)) s from fun _ => rfl]
  | lst i => simp [isWr, show ∀ s, opIsi (.lst i) (.ty "int") s = .ok (.fz (.bl false)) s from fun _ => rfl]
  | tup i => simp [isWr, show ∀ s, opIsi (.tup i) (.ty "int") s = .ok (.fz (.bl false)) s from fun _ => rfl]
  | sd i j => simp [isWr, show ∀ s, opIsi (.sd i j) (.ty "int") s = .ok (.fz (.bl false)) s from fun _ => rfl]
  | dn i => simp [isWr, show ∀ s, opIsi (.dn i) (.ty "int") s = .ok (.fz (.bl false)) s from fun _ => rfl]
  | _ => cases h
theorem isWr_std {x : D} : isWr (-1000000000000000000000000000000) 1000000000000000000000000000000 x = isW x := by
  cases x <;> simp [isWr, isW]
theorem lwhole_any {w : Wd} {x : D} {lo hi : Int} (h : ok0 x = true) : m__law_whole [x, .int lo, .int hi] w = .ok (.fz (.bl (isWr lo hi x))) w := by
  have e := vwhole_any (w := w) (lo := lo) (hi := hi) h
  have : b__law_whole ⟨[.fz x, .fz (.int lo), .fz (.int hi)], w⟩ = .ok (.rt (.fz (.bl (isWr lo hi x)))) ⟨[.fz x, .fz (.int lo), .fz (.int hi)], w⟩ := by
    unfold b__law_whole
    rw [sRet_eq, e]; rfl
  show runD 3 3 b__law_whole [x, .int lo, .int hi] w = _
  unfold runD
  show (match b__law_whole ⟨[.fz x, .fz (.int lo), .fz (.int hi)], w⟩ with | .ok .nx s => Rs.ok (.fz .non) s.w | .ok (.rt r) s => .ok r s.w | .ok _ _ => .wr | .ex x s => .ex x s.w | .wr => .wr) = _
  rw [this]
theorem whole_any {w : Wd} {x : D} {lo hi : Int} (h : ok0 x = true) : m_is_whole [x, .int lo, .int hi] w = .ok (.fz (.bl (isWr lo hi x))) w := lwhole_any h
theorem neN_eq {xs : List D} {s : DS} : opNeN (.lst xs) (.lst []) s = .ok (.fz (.bl (!xs.isEmpty))) s := rfl
abbrev badT : DS → Oc Bool := tOu (tNo (tru (call2 opIsi (rd 2) (cn (.ty "tuple"))))) (asB (bin (opEq true) (call1 lenD (pn 2)) (rd 0)))
theorem badT_ok {x d : D} {n : Int} {w : Wd} (h : ok0 x = true) : badT ⟨[.fz (.int n), .fz d, .fz x, .no, .no], w⟩ = .ok (!rowOk n x) ⟨[.fz (.int n), .fz d, .fz x, .no, .no], w⟩ := by
  cases x with
  | tup xs => simp [badT, isi_tup, eqv_int, fit_int, rowOk]
  | non => simp [badT, rowOk, show ∀ s, opIsi .non (.ty "tuple") s = .ok (.fz (.bl false)) s from fun _ => rfl]
  | bl b => simp [badT, rowOk, show ∀ s, opIsi (.bl b) (.ty "tuple") s = .ok (.fz (.bl false)) s from fun _ => rfl]
  | int i => simp [badT, rowOk, show ∀ s, opIsi (.int i) (.ty "tuple") s = .ok (.fz (.bl false)) s from fun _ => rfl]
  | str i => simp [badT, rowOk, show ∀ s, opIsi (.str i) (.ty "tuple") s = .ok (.fz (.bl false)) s from fun _ => rfl]
  | lst i => simp [badT, rowOk, show ∀ s, opIsi (.lst i) (.ty "tuple") s = .ok (.fz (.bl false)) s from fun _ => rfl]
  | sd i j => simp [badT, rowOk, show ∀ s, opIsi (.sd i j) (.ty "tuple") s = .ok (.fz (.bl false)) s from fun _ => rfl]
  | dn i => simp [badT, rowOk, show ∀ s, opIsi (.dn i) (.ty "tuple") s = .ok (.fz (.bl false)) s from fun _ => rfl]
  | _ => cases h
theorem runD5 {b : DS → Oc Fl} {a d : D} {w : Wd} {r : Sl} {sl : List Sl} {w' : Wd} (h : b ⟨[.fz a, .fz d, .no, .no, .no], w⟩ = .ok (.rt r) ⟨sl, w'⟩) : runD 2 5 b [a, d] w = .ok r w' := by
  have e : runD 2 5 b [a, d] w = (match b ⟨[.fz a, .fz d, .no, .no, .no], w⟩ with | .ok .nx s => Rs.ok (.fz .non) s.w | .ok (.rt r) s => .ok r s.w | .ok _ _ => .wr | .ex x s => .ex x s.w | .wr => .wr) := rfl
  rw [e, h]
theorem rowOk_nums {n : Int} {x : D} {k : Nat} (h : rowOk n x = true) (hs : Sh (k + 1) x) : ∃ xs, x = .tup xs ∧ (xs.length : Int) = n ∧ xs.length ≤ 40 ∧ ∀ y ∈ xs, Sh k y := by
  cases x with
  | tup xs => exact ⟨xs, rfl, by simpa [rowOk] using h, (hs.2 xs rfl).1, (hs.2 xs rfl).2⟩
  | _ => cases h
end GM
namespace GM
open PySem PySem.Spec L2 DL
open PyProof.Rows hiding St
abbrev NS0 : DS → Oc Fl := (sIf (tOu (tNo (tru (callD m_is_row_of [] (aCons (rd 1) (aCons (cn (.int 2)) aNil))))) (tNo (tru (call1 allD (pval (vLc [2] (itSeq (rd 1)) (gSet 2) tYesD (callD m_is_row_of [] (aCons (rd 2) (aCons (una (lenM "Web" m_Web___len__) (rd 0)) aNil))))))))) (sRaise1 "NoStanding" "part" (cn (.str "standing"))) sNil)
abbrev NS1 : DS → Oc Fl := (sIf (tNo (tru (call1 allD (pval (vLc2 [2, 3] [3] (itSeq (rd 1)) (gSet 2) tYesD (itSeq (rd 2)) (gSet 3) tYesD (callD m_is_whole d_is_whole (aCons (rd 3) aNil))))))) (sRaise1 "NoStanding" "part" (cn (.str "numbers"))) sNil)
theorem NSb : GX.b_need_standing = (sSeq NS0 NS1) := rfl
theorem inner_any {w : Wd} {a0 a1 a2 : Sl} : ∀ (xs : List D) (acc : List D) (z : Sl), (∀ x ∈ xs, ok0 x = true) → acc.length + xs.length ≤ 1000 →
    ∃ z', lcRun [3] (gSet 3) tYesD (callD m_is_whole d_is_whole (aCons (rd 3) aNil)) xs ⟨[a0, a1, a2, z], w⟩ acc = .ok (acc ++ xs.map fun x => D.bl (isW x)) ⟨[a0, a1, a2, z'], w⟩
  | [], acc, z, _, _ => ⟨z, by simp [lcRun]⟩
  | x :: xs, acc, z, h, hl => by
    have hx := h x (by simp)
    have wx := whole_any (w := w) (lo := -1000000000000000000000000000000) (hi := 1000000000000000000000000000000) hx
    rw [isWr_std] at wx
    obtain ⟨z', e⟩ := inner_any (w := w) (a0 := a0) (a1 := a1) (a2 := a2) xs (acc ++ [.bl (isW x)]) (.fz x) (fun y m => h y (List.mem_cons_of_mem _ m)) (by simp at hl ⊢; omega)
    have hl' : acc.length < 16777216 := smallN (by simp at hl; omega)
    refine ⟨z', ?_⟩
    rw [List.append_assoc] at e
    simp [lcRun, DS.wipe, wx, sizeLine_eq, hl', e]
theorem bools_map (f : D → Bool) : ∀ xs : List D, D.bools? (xs.map fun x => D.bl (f x)) = some (xs.map f)
  | [] => rfl
  | x :: xs => by simp [D.bools?, bools_map f xs]
theorem all_map (f : D → Bool) (xs : List D) (s : DS) : allD (.lst (xs.map fun x => D.bl (f x))) s = .ok (.fz (.bl (xs.all f))) s := by
  rw [all_lst (bools_map f xs)]
  congr 3
  simp [List.all_map]
theorem bad_first {n : Int} {d : D} (h : ok0 d = true) (hr : rowOk 2 d = false) : badOf n d = "standing" := by
  cases d with
  | tup xs =>
    match xs, hr with
    | [], _ => rfl
    | [x], _ => rfl
    | [a, b], hr => simp [rowOk] at hr
    | x :: y :: z :: r, _ => rfl
  | non => rfl
  | bl b => rfl
  | int i => rfl
  | str i => rfl
  | lst i => rfl
  | sd i j => rfl
  | dn i => rfl
  | _ => cases h
theorem runD4 {b : DS → Oc Fl} {a d : D} {w : Wd} {sl : List Sl} {w' : Wd} (h : b ⟨[.fz a, .fz d, .no, .no], w⟩ = .ok .nx ⟨sl, w'⟩) : runD 2 4 b [a, d] w = .ok (.fz .non) w' := by
  have e : runD 2 4 b [a, d] w = (match b ⟨[.fz a, .fz d, .no, .no], w⟩ with | .ok .nx s => Rs.ok (.fz .non) s.w | .ok (.rt r) s => .ok r s.w | .ok _ _ => .wr | .ex x s => .ex x s.w | .wr => .wr) := rfl
  rw [e, h]
theorem runD4x {b : DS → Oc Fl} {a d : D} {w : Wd} {sl : List Sl} {w' : Wd} {x : Exn} (h : b ⟨[.fz a, .fz d, .no, .no], w⟩ = .ex x ⟨sl, w'⟩) : runD 2 4 b [a, d] w = .ex x w' := by
  have e : runD 2 4 b [a, d] w = (match b ⟨[.fz a, .fz d, .no, .no], w⟩ with | .ok .nx s => Rs.ok (.fz .non) s.w | .ok (.rt r) s => .ok r s.w | .ok _ _ => .wr | .ex x s => .ex x s.w | .wr => .wr) := rfl
  rw [e, h]
theorem seq_ex {b c : DS → Oc Fl} {s s' : DS} {x : Exn} (h : b s = .ex x s') : sSeq b c s = .ex x s' := by rw [sSeq_eq, h]
@[simp] theorem sRaise1_eq {c f : Str} {fe : DS → Oc Sl} {s : DS} : sRaise1 c f fe s = (fr fe s).bind fun d s1 => .ex ⟨c, [(f, d)]⟩ s1 := rfl
theorem need_ok {W d : D} {n : Int} {w : Wd} (hW : ∀ s : DS, lenM "Web" m_Web___len__ W s = .ok (.fz (.int n)) s) (h : Sh 3 d) :
    GX.m_need_standing [W, d] w = if badOf n d = "none" then .ok (.fz .non) w else .ex ⟨"NoStanding", [("part", .str (badOf n d))]⟩ w := by
  have e2 := row_any (w := w) (n := 2) h.ok
  have neq : ("standing" : Str) ≠ "none" := by decide
  have neq2 : ("numbers" : Str) ≠ "none" := by decide
  by_cases c : rowOk 2 d = true
  · obtain ⟨xs, rfl, lx, mx, ax⟩ := rowOk_nums c h
    match xs, lx, mx, ax with
    | [a, b], lx, mx, ax =>
      have sa := ax a (by simp)
      have sb := ax b (by simp)
      have ea := row_any (w := w) (n := n) sa.ok
      have eb := row_any (w := w) (n := n) sb.ok
      rw [c] at e2
      have b2 : bk1 ⟨[.fz W, .fz (.tup [a, b]), .no, .no], w⟩ 2 = .no := rfl
      have al : ∀ s : DS, allD (.lst [.bl (rowOk n a), .bl (rowOk n b)]) s = .ok (.fz (.bl (rowOk n a && rowOk n b))) s := fun s => by
        rw [show [D.bl (rowOk n a), .bl (rowOk n b)] = [a, b].map (fun x => D.bl (rowOk n x)) from rfl, all_map]
        simp
      rw [badOf_two]
      by_cases c2 : (rowOk n a && rowOk n b) = true
      · rw [if_pos c2]
        rw [c2] at al
        have s0 : NS0 ⟨[.fz W, .fz (.tup [a, b]), .no, .no], w⟩ = .ok .nx ⟨[.fz W, .fz (.tup [a, b]), .no, .no], w⟩ := by
          simp [NS0, e2, vLc_eq, lcRun, DS.wipe, DS.back, hW, ea, eb, sizeLine_eq, b2, al]
        have cc := Bool.and_eq_true_iff.mp c2
        obtain ⟨xs, rfl, lx1, mx1, ax1⟩ := rowOk_nums cc.1 sa
        obtain ⟨ys, rfl, ly, my, ay⟩ := rowOk_nums cc.2 sb
        obtain ⟨z1, i1⟩ := inner_any (w := w) (a0 := .fz W) (a1 := .fz (.tup [.tup xs, .tup ys])) (a2 := .fz (.tup xs)) xs [] .no (fun x m => (ax1 x m).ok) (by simp; omega)
        obtain ⟨z2, i2⟩ := inner_any (w := w) (a0 := .fz W) (a1 := .fz (.tup [.tup xs, .tup ys])) (a2 := .fz (.tup ys)) ys (xs.map fun x => D.bl (isW x)) .no (fun x m => (ay x m).ok) (by simp; omega)
        rw [List.nil_append] at i1
        rw [← List.map_append] at i2
        have b3 : bk1 ⟨[.fz W, .fz (.tup [.tup xs, .tup ys]), .no, .no], w⟩ 3 = .no := rfl
        have am := all_map isW (xs ++ ys)
        generalize ((xs ++ ys).map fun x => D.bl (isW x)) = R at i2 am
        generalize (xs.map fun x => D.bl (isW x)) = R1 at i1 i2
        show _ = if (if (xs ++ ys).all isW = true then ("none" : Str) else ("numbers" : Str)) = "none" then _ else _
        cases c3 : (xs ++ ys).all isW with
        | true =>
          rw [c3] at am
          have s1 : NS1 ⟨[.fz W, .fz (.tup [.tup xs, .tup ys]), .no, .no], w⟩ = .ok .nx ⟨[.fz W, .fz (.tup [.tup xs, .tup ys]), .no, .no], w⟩ := by
            simp [NS1, vLc2, lcRun2, DS.wipe, DS.back, i1, i2, b2, b3, am]
          rw [if_pos rfl, if_pos rfl]
          exact runD4 (by rw [NSb, seq_nx s0, s1])
        | false =>
          rw [c3] at am
          have s1 : NS1 ⟨[.fz W, .fz (.tup [.tup xs, .tup ys]), .no, .no], w⟩ = .ex ⟨"NoStanding", [("part", .str "numbers")]⟩ ⟨[.fz W, .fz (.tup [.tup xs, .tup ys]), .no, .no], w⟩ := by
            simp [NS1, vLc2, lcRun2, DS.wipe, DS.back, i1, i2, b2, b3, am]
          rw [if_neg (by decide : ¬ (false = true)), if_neg neq2]
          refine (runD4x (by rw [NSb, seq_nx s0, s1])).trans ?_
          show _ = Rs.ex ⟨"NoStanding", [("part", .str (if (xs ++ ys).all isW = true then ("none" : Str) else ("numbers" : Str)))]⟩ w
          rw [c3, if_neg (by decide : ¬ (false = true))]
      · rw [if_neg c2, if_neg neq]
        have c2 : (rowOk n a && rowOk n b) = false := by simpa using c2
        rw [c2] at al
        have s0 : NS0 ⟨[.fz W, .fz (.tup [a, b]), .no, .no], w⟩ = .ex ⟨"NoStanding", [("part", .str "standing")]⟩ ⟨[.fz W, .fz (.tup [a, b]), .no, .no], w⟩ := by
          simp [NS0, e2, vLc_eq, lcRun, DS.wipe, DS.back, hW, ea, eb, sizeLine_eq, b2, al]
        exact runD4x (by rw [NSb, seq_ex s0])
    | [], lx, _, _ => simp at lx
    | [x], lx, _, _ => simp at lx
    | x :: y :: z :: r, lx, _, _ => simp at lx; omega
  · have c : rowOk 2 d = false := by simpa using c
    rw [c] at e2
    rw [bad_first h.ok c, if_neg neq]
    have s0 : NS0 ⟨[.fz W, .fz d, .no, .no], w⟩ = .ex ⟨"NoStanding", [("part", .str "standing")]⟩ ⟨[.fz W, .fz d, .no, .no], w⟩ := by
      simp [NS0, e2]
    exact runD4x (by rw [NSb, seq_ex s0])
end GM
namespace GM
open PySem PySem.Spec L2 DL
open PyProof.Rows hiding St
end GM
namespace DL
open PySem PySem.Spec L2
open PyProof.Rows hiding St
section
variable {X : Cx} {E : XK} {a e o : Expr} {te : TE} {f h : DS → Oc Sl} {k : Nat} {p pr p1 p2 p3 pos ap : Pos}
end
end DL
namespace DL
open PySem PySem.Spec L2
open PyProof.Rows hiding St
section
variable {P : Program} {w : World} {K : PySem.W.Frag} {mg : Str → Option Value} {base : Heap}
end
section
variable {X : Cx} {E : XK} {a b : Expr} {f h : DS → Oc Sl} {pos : Pos} {CA : Addr} {c : Str}
end
end DL
namespace GM
open PySem PySem.Spec L2 DL
open PyProof.Rows hiding St
theorem Names.mem {n x : Int} {ns : List Int} (N : Names n ns) (h0 : 0 ≤ x) (h1 : x < n) : x ∈ ns := Classical.byContradiction fun h => by
  have nd : ((x :: ns).map Int.toNat).Nodup := by
    refine List.pairwise_map.mpr (List.Pairwise.imp_of_mem (R := fun a b => a ≠ b) ?_ (List.nodup_cons.mpr ⟨h, N.nd⟩))
    intro a b ha hb hne e
    have ra : 0 ≤ a := by
      rcases List.mem_cons.mp ha with rfl | m
      · exact h0
      · exact (N.rng a m).1
    have rb : 0 ≤ b := by
      rcases List.mem_cons.mp hb with rfl | m
      · exact h0
      · exact (N.rng b m).1
    exact hne (by omega)
  have := nodup_len n.toNat _ nd (fun y m => by
    obtain ⟨z, mz, rfl⟩ := List.mem_map.mp m
    rcases List.mem_cons.mp mz with rfl | m
    · omega
    · have := N.rng z m; omega)
  rw [List.length_map, List.length_cons, N.len] at this
  omega
def inv (ps : List Int) : List Int := (List.range ps.length).map fun (k : Nat) => rk ps (k : Int)
theorem Names.rk {n x : Int} {ps : List Int} (N : Names n ps) (h0 : 0 ≤ x) (h1 : x < n) : ∃ j : Nat, GM.rk ps x = j ∧ ps[j]? = some x ∧ j < ps.length ∧ lookI (kvP ps) x = some (GM.rk ps x) := rk_mem N.nd (N.mem h0 h1)
def en : Nat → List Int → List (Int × Int)
  | _, [] => []
  | k, p :: r => ((k : Int), p) :: en (k + 1) r
@[simp] theorem vDcS_eq {k1 k2 : Nat} {it : DS → Oc (List D)} {s : DS} : vDcS k1 k2 it s = (it s).bind fun ds s1 => match D.pairs? ds with
  | some l => if (l.length < sizeLine ∧ k1 < s1.sl.length ∧ k2 < s1.sl.length ∧ k1 ≠ k2) ∧ (l.map (·.2)).Nodup then .ok (.fz (.dct (swp l))) (s1.back s1 [k1, k2]) else .wr
  | none => .wr := rfl
end GM
namespace GM
open PySem PySem.Spec L2 DL
open PyProof.Rows hiding St
def Rs (x : Str) : Prop := Wf x ∧ (PyData.str x).shown.length ≤ 431 ∧ Wf (PyData.str x).shown
mutual
/-- plain data, its ints of at most e figures -/
def PlD (e : Nat) : D → Prop
  | .non => True
  | .bl _ => True
  | .int i => i.natAbs < 10 ^ e
  | .str x => Rs x
  | .lst xs => PlL e xs
  | .tup xs => PlL e xs
  | .sd ks ds => ks.length = ds.length ∧ (∀ k ∈ ks, Rs k) ∧ PlL e ds
  | .dn ks => ∀ k ∈ ks, k.natAbs < 10 ^ e
  | _ => False
def PlL (e : Nat) : List D → Prop
  | [] => True
  | d :: r => PlD e d ∧ PlL e r
end
mutual
/-- how heavy: no text of it is longer -/
def wt : D → Nat
  | .lst xs => 3 + wtL xs
  | .tup xs => 3 + wtL xs
  | .sd ks ds => 3 + (433 * ks.length + wtL ds)
  | .dn ks => 3 + 900 * ks.length
  | _ => 431
def wtL : List D → Nat
  | [] => 0
  | d :: r => wt d + 2 + wtL r
end
mutual
def dep : D → Nat
  | .lst xs => depL xs + 1
  | .tup xs => depL xs + 1
  | .sd _ ds => depL ds + 1
  | .dn _ => 1
  | _ => 0
def depL : List D → Nat
  | [] => 0
  | d :: r => max (dep d) (depL r)
end
theorem plL_iff {e : Nat} : ∀ {xs : List D}, PlL e xs ↔ ∀ x ∈ xs, PlD e x
  | [] => by simp [PlL]
  | d :: r => by
    show PlD e d ∧ PlL e r ↔ _
    rw [plL_iff (xs := r)]
    simp
theorem wtL_app : ∀ xs ys : List D, wtL (xs ++ ys) = wtL xs + wtL ys
  | [], ys => by simp [wtL]
  | d :: r, ys => by
    rw [List.cons_append, wtL, wtL, wtL_app r ys]; omega
theorem wtL_mem {x : D} : ∀ {xs : List D}, x ∈ xs → wt x + 2 ≤ wtL xs
  | d :: r, h => by
    rw [wtL]
    rcases List.mem_cons.mp h with rfl | h
    · omega
    · have := wtL_mem h; omega
theorem wtL_len : ∀ xs : List D, 2 * xs.length ≤ wtL xs
  | [] => by simp [wtL]
  | d :: r => by
    have := wtL_len r
    rw [wtL, List.length_cons]; omega
theorem wtL_sub {xs ys : List D} (h : xs.Sublist ys) : wtL xs ≤ wtL ys := by
  induction h with
  | slnil => exact Nat.le_refl _
  | cons a _ ih => rw [wtL]; omega
  | cons_cons a _ ih => rw [wtL, wtL]; omega
theorem wtL_perm {xs ys : List D} (h : xs.Perm ys) : wtL xs = wtL ys := by
  induction h with
  | nil => rfl
  | cons x _ ih => rw [wtL, wtL, ih]
  | swap x y l => rw [wtL, wtL, wtL, wtL]; omega
  | trans _ _ h1 h2 => rw [h1, h2]
theorem wtL_le {xs : List D} {m : Nat} (h : ∀ x ∈ xs, wt x ≤ m) : wtL xs ≤ (m + 2) * xs.length := by
  induction xs with
  | nil => simp [wtL]
  | cons d r ih =>
    have h1 := h d (by simp)
    have h2 := ih fun x q => h x (List.mem_cons_of_mem _ q)
    rw [wtL, List.length_cons, Nat.mul_succ]; omega
theorem depL_le {xs : List D} {m : Nat} : depL xs ≤ m ↔ ∀ x ∈ xs, dep x ≤ m := by
  induction xs with
  | nil => simp [depL]
  | cons d r ih =>
    rw [depL, List.forall_mem_cons, ← ih]
    omega
structure Pl (e k m : Nat) (d : D) : Prop where
  pl : PlD e d
  dp : dep d ≤ k
  wg : wt d ≤ m
theorem PlD.mono {e e' : Nat} (he : e ≤ e') : ∀ {d : D}, PlD e d → PlD e' d
  | .non, _ => trivial
  | .bl _, _ => trivial
  | .int i, h => Nat.lt_of_lt_of_le (show i.natAbs < 10 ^ e from h) (Nat.pow_le_pow_right (by decide) he)
  | .str _, h => h
  | .lst xs, h => plL_iff.mpr fun x m => PlD.mono he (plL_iff.mp (show PlL e xs from h) x m)
  | .tup xs, h => plL_iff.mpr fun x m => PlD.mono he (plL_iff.mp (show PlL e xs from h) x m)
  | .sd ks ds, h => ⟨h.1, h.2.1, plL_iff.mpr fun x m => PlD.mono he (plL_iff.mp (show PlL e ds from h.2.2) x m)⟩
  | .fn _, h => h.elim
  | .ty _, h => h.elim
  | .obj _ _ _, h => h.elim
  | .pen, h => h.elim
  | .any, h => h.elim
  | .dct _, h => h.elim
  | .tupX _, h => h.elim
  | .dn ks, h => fun k m => Nat.lt_of_lt_of_le (h k m) (Nat.pow_le_pow_right (by decide) he)
theorem Pl.mono {e k m e' k' m' : Nat} {d : D} (h : Pl e k m d) (he : e ≤ e') (hk : k ≤ k') (hm : m ≤ m') : Pl e' k' m' d := ⟨h.pl.mono he, Nat.le_trans h.dp hk, Nat.le_trans h.wg hm⟩
theorem Pl.lst {e k m : Nat} {xs : List D} (h : ∀ x ∈ xs, PlD e x ∧ dep x ≤ k) (hm : 3 + wtL xs ≤ m) : Pl e (k + 1) m (.lst xs) := ⟨plL_iff.mpr fun x q => (h x q).1, Nat.succ_le_succ (depL_le.mpr fun x q => (h x q).2), hm⟩
theorem Pl.tup {e k m : Nat} {xs : List D} (h : ∀ x ∈ xs, PlD e x ∧ dep x ≤ k) (hm : 3 + wtL xs ≤ m) : Pl e (k + 1) m (.tup xs) := ⟨plL_iff.mpr fun x q => (h x q).1, Nat.succ_le_succ (depL_le.mpr fun x q => (h x q).2), hm⟩
theorem Pl.lstU {e k m L : Nat} {xs : List D} (h : ∀ x ∈ xs, Pl e k m x) (hl : xs.length ≤ L) : Pl e (k + 1) ((m + 2) * L + 3) (.lst xs) := Pl.lst (fun x q => ⟨(h x q).pl, (h x q).dp⟩) (by
  have h1 := wtL_le fun x q => (h x q).wg
  have h2 := Nat.mul_le_mul_left (m + 2) hl
  omega)
theorem Pl.tupU {e k m L : Nat} {xs : List D} (h : ∀ x ∈ xs, Pl e k m x) (hl : xs.length ≤ L) : Pl e (k + 1) ((m + 2) * L + 3) (.tup xs) := Pl.tup (fun x q => ⟨(h x q).pl, (h x q).dp⟩) (by
  have h1 := wtL_le fun x q => (h x q).wg
  have h2 := Nat.mul_le_mul_left (m + 2) hl
  omega)
theorem Pl.int {e : Nat} {i : Int} (h : i.natAbs < 10 ^ e) : Pl e 0 431 (.int i) := ⟨h, Nat.le_refl _, Nat.le_refl _⟩
theorem Pl.bl {e : Nat} {b : Bool} : Pl e 0 431 (.bl b) := ⟨trivial, Nat.le_refl _, Nat.le_refl _⟩
theorem Pl.non {e : Nat} : Pl e 0 431 .non := ⟨trivial, Nat.le_refl _, Nat.le_refl _⟩
theorem Pl.str {e : Nat} {x : Str} (h : Rs x) : Pl e 0 431 (.str x) := ⟨h, Nat.le_refl _, Nat.le_refl _⟩
theorem Pl.sd0 {e : Nat} : Pl e 1 3 (.sd [] []) := ⟨⟨rfl, by simp, trivial⟩, by decide, by decide⟩
theorem Pl.sd1 {e k m : Nat} {x : Str} {d : D} (hx : Rs x) (h : Pl e k m d) : Pl e (k + 1) (m + 438) (.sd [x] [d]) := ⟨⟨rfl, by simpa using hx, h.pl, trivial⟩, by
  have := h.dp
  show max (dep d) 0 + 1 ≤ _
  omega, by
  have := h.wg
  show 3 + (433 * 1 + (wt d + 2 + 0)) ≤ _
  omega⟩
theorem Pl.at {e k m : Nat} {xs : List D} (h : Pl e k m (.lst xs) ∨ Pl e k m (.tup xs)) {x : D} (hx : x ∈ xs) : Pl e (k - 1) m x := by
  have key : PlL e xs ∧ depL xs + 1 ≤ k ∧ 3 + wtL xs ≤ m := by
    rcases h with h | h <;> exact ⟨h.pl, h.dp, h.wg⟩
  obtain ⟨a, b, c⟩ := key
  have := wtL_mem hx
  have := depL_le.mp (Nat.le_refl (depL xs)) x hx
  exact ⟨plL_iff.mp a x hx, by omega, by omega⟩
theorem Pl.len {e k m : Nat} {xs : List D} (h : Pl e k m (.lst xs) ∨ Pl e k m (.tup xs)) : 2 * xs.length ≤ m := by
  have := wtL_len xs
  rcases h with h | h
  · have h := h.wg
    rw [wt] at h
    omega
  · have h := h.wg
    rw [wt] at h
    omega
theorem PlD.ok {e : Nat} {d : D} (h : PlD e d) : ok0 d = true := by
  cases d <;> first | rfl | exact h.elim
theorem rs_of (s : String) (h1 : (PyData.str (Str.ofString s)).shown.length ≤ 431) (h2 : Wf (PyData.str (Str.ofString s)).shown) : Rs (Str.ofString s) := ⟨Wf.of s, h1, h2⟩
theorem rs_e : Rs "" := rs_of "" (by decide +kernel) (by unfold Wf; decide +kernel)
theorem rs_a : Rs "a" := rs_of "a" (by decide +kernel) (by unfold Wf; decide +kernel)
theorem rs_all : Rs "all" := rs_of "all" (by decide +kernel) (by unfold Wf; decide +kernel)
theorem rs_none : Rs "none" := rs_of "none" (by decide +kernel) (by unfold Wf; decide +kernel)
theorem rs_waves : Rs "waves" := rs_of "waves" (by decide +kernel) (by unfold Wf; decide +kernel)
theorem rs_step : Rs "step" := rs_of "step" (by decide +kernel) (by unfold Wf; decide +kernel)
theorem rs_0 : Rs "0" := rs_of "0" (by decide +kernel) (by unfold Wf; decide +kernel)
theorem shownAll_eq : ∀ xs : List D, PyData.shownAll (D.toPdL xs) = xs.map fun d => d.toPd.shown
  | [] => rfl
  | x :: xs => by
    simp only [D.toPdL, PyData.shownAll, List.map_cons]
    rw [shownAll_eq xs]
structure Tl (d : D) (k m : Nat) : Prop where
  pd : d.isPd = true
  sh : d.toPd.showable = true
  dp : d.toPd.depth ≤ k
  len : d.toPd.shown.length ≤ m
  wf : Wf d.toPd.shown
structure TlL (ds : List D) (k m : Nat) : Prop where
  pd : D.isPdL ds = true
  sh : PyData.showableAll (D.toPdL ds) = true
  dp : PyData.depthAll (D.toPdL ds) ≤ k
  len : ((PyData.shownAll (D.toPdL ds)).map (·.length)).sum + 2 * ds.length ≤ m
  wf : ∀ t ∈ PyData.shownAll (D.toPdL ds), Wf t
theorem lg_log2 {e : Nat} (he : e ≤ 430) {x : Int} (h : x.natAbs < 10 ^ e) : Lg x := Nat.lt_of_lt_of_le h (Nat.pow_le_pow_right (by decide) he)
theorem shownAll_len : ∀ xs : List D, (PyData.shownAll (D.toPdL xs)).length = xs.length := fun xs => by rw [shownAll_eq, List.length_map]
theorem wf_kv : ∀ (ks : List Str) (ds : List D), ks.length = ds.length → (∀ k ∈ ks, Rs k) → (∀ t ∈ PyData.shownAll (D.toPdL ds), Wf t) → ∀ t ∈ PyData.shownKv ((ks.map PyData.str).zip (D.toPdL ds)), Wf t
  | [], _, _, _, _, t, m => by simp [PyData.shownKv] at m
  | k :: ks, [], l, _, _, _, _ => by simp at l
  | k :: ks, d :: ds, l, h, w, t, m => by
    simp only [List.map_cons, D.toPdL, List.zip_cons_cons, PyData.shownKv, List.mem_cons] at m
    rcases m with rfl | m
    · refine ((h k (by simp)).2.2.app (Wf.of ": ")).app (w _ ?_)
      simp [D.toPdL, PyData.shownAll]
    · exact wf_kv ks ds (by simpa using l) (fun k q => h k (List.mem_cons_of_mem _ q)) (fun t q => w t (by
        simp only [D.toPdL, PyData.shownAll, List.mem_cons]; exact .inr q)) t m
theorem len_kv : ∀ (ks : List Str) (ds : List D), ks.length = ds.length → (∀ k ∈ ks, Rs k) → ((PyData.shownKv ((ks.map PyData.str).zip (D.toPdL ds))).map (·.length)).sum + 2 * (PyData.shownKv ((ks.map PyData.str).zip (D.toPdL ds))).length ≤ 433 * ks.length + (((PyData.shownAll (D.toPdL ds)).map (·.length)).sum + 2 * ds.length)
  | [], ds, _, _ => by simp [PyData.shownKv]
  | k :: ks, [], l, _ => by simp at l
  | k :: ks, d :: ds, l, h => by
    have ih := len_kv ks ds (by simpa using l) (fun k q => h k (List.mem_cons_of_mem _ q))
    have hk := (h k (by simp)).2.1
    simp only [List.map_cons, D.toPdL, List.zip_cons_cons, PyData.shownKv, PyData.shownAll, List.sum_cons, List.length_cons] at ih ⊢
    have e : ((PyData.str k).shown ++ ": " ++ d.toPd.shown).length = (PyData.str k).shown.length + 2 + d.toPd.shown.length := by
      rw [strLen_append, strLen_append]; rfl
    rw [e]
    omega
theorem show_kv : ∀ (ks : List Str) (ds : List D), PyData.showableAll (D.toPdL ds) = true → PyData.showableKv ((ks.map PyData.str).zip (D.toPdL ds)) = true
  | [], _, _ => by simp [PyData.showableKv]
  | k :: ks, [], _ => by simp [D.toPdL, PyData.showableKv]
  | k :: ks, d :: ds, h => by
    simp only [D.toPdL, PyData.showableAll, Bool.and_eq_true] at h
    simp only [List.map_cons, D.toPdL, List.zip_cons_cons, PyData.showableKv, PyData.showable, h.1, show_kv ks ds h.2, Bool.and_self]
theorem dep_kv : ∀ (ks : List Str) (ds : List D), PyData.depthKv ((ks.map PyData.str).zip (D.toPdL ds)) ≤ PyData.depthAll (D.toPdL ds)
  | [], _ => by simp [PyData.depthKv]
  | k :: ks, [] => by simp [D.toPdL, PyData.depthKv]
  | k :: ks, d :: ds => by
    have := dep_kv ks ds
    simp only [List.map_cons, D.toPdL, List.zip_cons_cons, PyData.depthKv, PyData.depthAll, PyData.depth]
    omega
theorem dn_kv {e : Nat} (he : e ≤ 430) : ∀ {ks : List Int}, (∀ k ∈ ks, k.natAbs < 10 ^ e) → (∀ t ∈ PyData.shownKv (ks.map fun k => (PyData.int k, PyData.none)), Wf t) ∧ ((PyData.shownKv (ks.map fun k => (PyData.int k, PyData.none))).map (·.length)).sum + 2 * (PyData.shownKv (ks.map fun k => (PyData.int k, PyData.none))).length ≤ 900 * ks.length ∧
    PyData.showableKv (ks.map fun k => (PyData.int k, PyData.none)) = true ∧ PyData.depthKv (ks.map fun k => (PyData.int k, PyData.none)) = 0
  | [], _ => ⟨by simp [PyData.shownKv], by simp [PyData.shownKv], by simp [PyData.showableKv], by simp [PyData.depthKv]⟩
  | k :: ks, h => by
    obtain ⟨a, b, c, d⟩ := dn_kv he (ks := ks) fun x m => h x (List.mem_cons_of_mem _ m)
    have L : Lg k := lg_log2 he (h k (by simp))
    have l1 : (PyData.int k).shown.length ≤ 431 := by
      simp only [PyData.shown]
      rw [PySem.ofString_length]
      exact int_text_length_le10 (by decide) L
    have l2 : PyData.none.shown.length = 4 := by simp only [PyData.shown]; decide +kernel
    have w1 : Wf (PyData.int k).shown := by simp only [PyData.shown]; exact Wf.of _
    have w2 : Wf PyData.none.shown := by simp only [PyData.shown]; exact Wf.of _
    have el : ((PyData.int k).shown ++ ": " ++ PyData.none.shown).length = (PyData.int k).shown.length + 2 + PyData.none.shown.length := by
      rw [strLen_append, strLen_append]; rfl
    refine ⟨fun t m => ?_, ?_, ?_, ?_⟩
    · simp only [List.map_cons, PyData.shownKv, List.mem_cons] at m
      rcases m with rfl | m
      · exact (w1.app (Wf.of ": ")).app w2
      · exact a t m
    · simp only [List.map_cons, PyData.shownKv, List.sum_cons, List.length_cons] at b ⊢
      rw [el, l2]
      omega
    · simp only [List.map_cons, PyData.showableKv, PyData.showable, c, Bool.and_true]
      exact decide_eq_true (lg_log L)
    · simp only [List.map_cons, PyData.depthKv, PyData.depth, d]
      rfl
theorem dn_tl {e : Nat} (he : e ≤ 430) {ks : List Int} (h : ∀ k ∈ ks, k.natAbs < 10 ^ e) : Tl (.dn ks) 1 (3 + 900 * ks.length) := by
  obtain ⟨a, b, c, d⟩ := dn_kv he h
  refine ⟨by simp only [D.isPd], by simp only [D.toPd, PyData.showable]; exact c, by simp only [D.toPd, PyData.depth, d]; omega, ?_, ?_⟩
  · simp only [D.toPd, PyData.shown]
    have h1 := dictText_len_le (PyData.shownKv (ks.map fun k => (PyData.int k, PyData.none)))
    omega
  · simp only [D.toPd, PyData.shown]
    unfold dictText
    exact ((Wf.of "{").app (Wf.join (Wf.of ", ") a)).app (Wf.of "}")
mutual
theorem PlD.tl {e : Nat} (he : e ≤ 430) : ∀ {d : D}, PlD e d → Tl d (dep d) (wt d)
  | .non, _ => ⟨by simp [D.isPd], by simp [D.toPd, PyData.showable], by simp [D.toPd, PyData.depth], by simp only [D.toPd, PyData.shown, wt]; decide +kernel, by simp only [D.toPd, PyData.shown]; exact Wf.of _⟩
  | .bl b, _ => ⟨by simp [D.isPd], by simp [D.toPd, PyData.showable], by simp [D.toPd, PyData.depth], by simp only [D.toPd, PyData.shown, wt]; cases b <;> decide +kernel, by simp only [D.toPd, PyData.shown]; cases b <;> exact Wf.of _⟩
  | .int i, h => by
    have h : Lg i := lg_log2 he h
    refine ⟨by simp [D.isPd], ?_, by simp [D.toPd, PyData.depth], ?_, ?_⟩
    · simp only [D.toPd, PyData.showable]
      exact decide_eq_true (lg_log h)
    · simp only [D.toPd, PyData.shown, wt]
      rw [PySem.ofString_length]
      exact int_text_length_le10 (by decide) h
    · simp only [D.toPd, PyData.shown]
      exact Wf.of _
  | .str x, h => ⟨by simp [D.isPd], by simp [D.toPd, PyData.showable], by simp [D.toPd, PyData.depth], h.2.1, h.2.2⟩
  | .lst xs, h => by
    have t := PlL.tl he (show PlL e xs from h)
    refine ⟨by simp only [D.isPd]; exact t.pd, by simp only [D.toPd, PyData.showable]; exact t.sh, by simp only [D.toPd, PyData.depth, dep]; exact Nat.succ_le_succ t.dp, ?_, ?_⟩
    · simp only [D.toPd, PyData.shown, wt]
      have h1 := listText_len_le (PyData.shownAll (D.toPdL xs))
      have h2 := t.len
      rw [shownAll_len] at h1
      omega
    · simp only [D.toPd, PyData.shown]
      exact Wf.lst t.wf
  | .tup xs, h => by
    have t := PlL.tl he (show PlL e xs from h)
    refine ⟨by simp only [D.isPd]; exact t.pd, by simp only [D.toPd, PyData.showable]; exact t.sh, by simp only [D.toPd, PyData.depth, dep]; exact Nat.succ_le_succ t.dp, ?_, ?_⟩
    · simp only [D.toPd, PyData.shown, wt]
      have h1 := tupleText_len_le (PyData.shownAll (D.toPdL xs))
      have h2 := t.len
      rw [shownAll_len] at h1
      omega
    · simp only [D.toPd, PyData.shown]
      exact Wf.tup t.wf
  | .sd ks ds, h => by
    have t := PlL.tl he (show PlL e ds from h.2.2)
    refine ⟨by simp only [D.isPd, t.pd, h.1]; simp, by simp only [D.toPd, PyData.showable]; exact show_kv ks ds t.sh, ?_, ?_, ?_⟩
    · simp only [D.toPd, PyData.depth, dep]
      have := dep_kv ks ds
      have := t.dp
      omega
    · simp only [D.toPd, PyData.shown, wt]
      have h1 := dictText_len_le (PyData.shownKv ((ks.map PyData.str).zip (D.toPdL ds)))
      have h2 := len_kv ks ds h.1 h.2.1
      have h3 := t.len
      omega
    · simp only [D.toPd, PyData.shown]
      unfold dictText
      exact ((Wf.of "{").app (Wf.join (Wf.of ", ") (wf_kv ks ds h.1 h.2.1 t.wf))).app (Wf.of "}")
  | .fn _, h => h.elim
  | .ty _, h => h.elim
  | .obj _ _ _, h => h.elim
  | .pen, h => h.elim
  | .any, h => h.elim
  | .dct _, h => h.elim
  | .tupX _, h => h.elim
  | .dn ks, h => dn_tl he h
theorem PlL.tl {e : Nat} (he : e ≤ 430) : ∀ {ds : List D}, PlL e ds → TlL ds (depL ds) (wtL ds)
  | [], _ => ⟨by simp [D.isPdL], by simp [D.toPdL, PyData.showableAll], by simp [D.toPdL, PyData.depthAll], by simp [D.toPdL, PyData.shownAll], by simp [D.toPdL, PyData.shownAll]⟩
  | d :: r, h => by
    have a := PlD.tl he h.1
    have b := PlL.tl he h.2
    refine ⟨by simp only [D.isPdL, a.pd, b.pd, Bool.and_self], by simp only [D.toPdL, PyData.showableAll, a.sh, b.sh, Bool.and_self], ?_, ?_, ?_⟩
    · have := a.dp
      have := b.dp
      simp only [D.toPdL, PyData.depthAll, depL]
      omega
    · have := a.len
      have := b.len
      simp only [D.toPdL, PyData.shownAll, List.map_cons, List.sum_cons, List.length_cons, wtL]
      omega
    · simp only [D.toPdL, PyData.shownAll]
      intro t m
      rcases List.mem_cons.mp m with rfl | m
      · exact a.wf
      · exact b.wf t m
end
def tellP (d : D) : D := .str d.toPd.shown
theorem reprP_ok {e k m : Nat} {d : D} (h : Pl e k m d) (he : e ≤ 430) (hk : k ≤ 60) (hm : m ≤ 16777216) (s : DS) : reprP d s = .ok (.fz (tellP d)) s := by
  have t := h.pl.tl he
  have a := h.dp
  have b := h.wg
  unfold reprP
  rw [if_pos]
  · rfl
  · unfold reprOk2
    rw [t.pd, t.sh, decide_eq_true (show d.toPd.shown.length ≤ sizeLine by rw [sizeLine_eq]; exact Nat.le_trans t.len (Nat.le_trans b hm)), decide_eq_true (show d.toPd.depth ≤ 60 from Nat.le_trans t.dp (Nat.le_trans a hk))]
    rfl
theorem tellP_fit {e k m : Nat} {d : D} (h : Pl e k m d) (he : e ≤ 430) : (tellP d).fit = true := by
  have t := h.pl.tl he
  unfold tellP D.fit
  simp only [D.isPy, D.toPy, PyData.depth, t.wf.ok]
  rfl
end GM
namespace GM
open PySem PySem.Spec L2 DL
open PyProof.Rows hiding St
theorem someL_pl {k m : Nat} {inner : List D} (hl : inner.length ≤ 3) (h : ∀ x ∈ inner, Pl 31 k m x) : ∀ d ∈ someL inner, Pl 31 (k + 2) (3 * m + 1000) d := fun d q => by
  have T : Pl 31 (k + 1) ((m + 2) * 3 + 3) (.tup inner) := Pl.tupU h hl
  have L : Pl 31 (k + 1) ((m + 2) * 3 + 3) (.lst inner) := Pl.lstU h hl
  have I : ∀ i : Int, i.natAbs < 10 ^ 31 → Pl 31 (k + 2) (3 * m + 1000) (.int i) := fun i hi => (Pl.int hi).mono (Nat.le_refl _) (by omega) (by omega)
  have S : ∀ x : Str, Rs x → Pl 31 (k + 2) (3 * m + 1000) (.str x) := fun x hx => (Pl.str hx).mono (Nat.le_refl _) (by omega) (by omega)
  simp only [someL, List.mem_cons, List.not_mem_nil, or_false] at q
  rcases q with rfl | rfl | rfl | rfl | rfl | rfl | rfl | rfl | rfl | rfl | rfl | rfl | rfl | rfl | rfl | rfl | rfl | rfl | rfl | rfl | rfl | rfl | rfl | rfl | rfl
  · exact Pl.non.mono (Nat.le_refl _) (by omega) (by omega)
  · exact Pl.bl.mono (Nat.le_refl _) (by omega) (by omega)
  · exact Pl.bl.mono (Nat.le_refl _) (by omega) (by omega)
  · exact I _ (by decide)
  · exact I _ (by decide)
  · exact I _ (by decide)
  · exact I _ (by decide)
  · exact I _ (by decide)
  · exact I _ (by decide)
  · exact I _ (by decide)
  · exact I _ (by decide)
  · exact I _ (by decide)
  · exact S _ rs_e
  · exact S _ rs_a
  · exact S _ rs_all
  · exact S _ rs_none
  · exact I _ (by decide)
  · exact S _ rs_0
  · exact (Pl.lst (k := 0) (m := 3) (fun _ q => by simp at q) (by decide)).mono (Nat.le_refl _) (by omega) (by omega)
  · exact Pl.sd0.mono (Nat.le_refl _) (by omega) (by omega)
  · exact (Pl.tup (k := 0) (m := 3) (fun _ q => by simp at q) (by decide)).mono (Nat.le_refl _) (by omega) (by omega)
  · exact T.mono (Nat.le_refl _) (by omega) (by omega)
  · exact T.mono (Nat.le_refl _) (by omega) (by omega)
  · exact L.mono (Nat.le_refl _) (by omega) (by omega)
  · exact (Pl.sd1 rs_a T).mono (Nat.le_refl _) (by omega) (by omega)
inductive BOk (e : Nat) : D → Prop
  | int {i : Int} : i.natAbs < 10 ^ e → BOk e (.int i)
  | lst {xs : List D} : xs.length ≤ 1000 → (∀ x ∈ xs, BOk e x) → BOk e (.lst xs)
  | tup {xs : List D} : xs ≠ [] → xs.length ≤ 1000 → (∀ x ∈ xs, BOk e x) → BOk e (.tup xs)
theorem BOk.pl {e : Nat} {x : D} (h : BOk e x) : PlD e x := by
  induction h with
  | int h => exact h
  | lst h1 h2 ih => exact plL_iff.mpr ih
  | tup h1 h2 h3 ih => exact plL_iff.mpr ih
theorem cut_wt {xs : List D} {lo hi : Option Int} : wtL (cut xs lo hi) ≤ wtL xs := wtL_sub ((List.take_sublist _ _).trans (List.drop_sublist _ _))
theorem wt_swap {xs : List D} {x y : D} {i : Int} (h0 : 0 ≤ i) (hx : xs[i.toNat]? = some x) : wtL (cut xs none (some i) ++ [y] ++ cut xs (some (i + 1)) none) + wt x = wtL xs + wt y := by
  rw [cut_take h0, cut_drop (by omega), show (i + 1).toNat = i.toNat + 1 by omega]
  have hl := (List.getElem?_eq_some_iff.mp hx).1
  have hv := (List.getElem?_eq_some_iff.mp hx).2
  have e : xs = xs.take i.toNat ++ [x] ++ xs.drop (i.toNat + 1) := by
    rw [List.append_assoc, List.singleton_append, ← hv, ← List.drop_eq_getElem_cons hl, List.take_append_drop]
  have e2 : wtL xs = wtL (xs.take i.toNat ++ [x] ++ xs.drop (i.toNat + 1)) := by rw [← e]
  rw [e2, wtL_app, wtL_app, wtL_app, wtL_app]
  simp only [wtL]
  omega
theorem dep_mem {xs : List D} {x : D} (h : x ∈ xs) : dep x ≤ depL xs := depL_le.mp (Nat.le_refl _) x h
@[simp] theorem rev_lst {xs : List D} {s : DS} : revD (.lst xs) s = .ok (.ow xs.reverse) s := rfl
@[simp] theorem mul_lst {xs : List D} {k : Int} {s : DS} : opMulT (.lst xs) (.int k) s = if k < 2 ^ 62 ∧ -(2 ^ 62) ≤ k ∧ xs.length * k.toNat ≤ sizeLine then .ok (.ow (List.replicate k.toNat xs).flatten) s else .wr := rfl
theorem isi_sl (xs : List D) (s : DS) : opIsi (.lst xs) (.tup [.ty "list", .ty "tuple"]) s = .ok (.fz (.bl true)) s := by rfl
theorem isi_ll (xs : List D) (s : DS) : opIsi (.lst xs) (.ty "list") s = .ok (.fz (.bl true)) s := by rfl
theorem isi_il (xs : List D) (s : DS) : opIsi (.lst xs) (.ty "int") s = .ok (.fz (.bl false)) s := by rfl
section
variable {e : Nat} {c : Int} {m : MF} {xs : List D}
theorem pl_seven {d : D} {T : List D → D} (hT : ∀ ys : List D, dep (T ys) = depL ys + 1 ∧ wt (T ys) = 3 + wtL ys ∧ (PlL (e + 1) ys → PlD (e + 1) (T ys))) (hp : ∀ x ∈ xs, PlD e x)
    (md : d = T (cut xs (some 1) none) ∨ d = T (cut xs none (some (-1))) ∨ d = T (xs ++ cut xs (some (-1)) none) ∨ d = T xs.reverse ∨ d = .lst xs ∨ d = .tup xs ∨ d = T (List.replicate 2 xs).flatten) : Pl (e + 1) (depL xs + 1 + 4) (2 * (3 + wtL xs) + 4000) d := by
  have hp' : ∀ x ∈ xs, PlD (e + 1) x := fun x q => (hp x q).mono (by omega)
  have key : ∀ ys : List D, (∀ y ∈ ys, y ∈ xs) → wtL ys ≤ 2 * wtL xs → Pl (e + 1) (depL xs + 1 + 4) (2 * (3 + wtL xs) + 4000) (T ys) := fun ys h hw => by
    obtain ⟨a, b, p⟩ := hT ys
    have hd : depL ys ≤ depL xs := depL_le.mpr fun y q => dep_mem (h y q)
    exact ⟨p (plL_iff.mpr fun y q => hp' y (h y q)), by omega, by omega⟩
  rcases md with rfl | rfl | rfl | rfl | rfl | rfl | rfl
  · exact key _ (fun y q => cut_mem q) (Nat.le_trans cut_wt (by omega))
  · exact key _ (fun y q => cut_mem q) (Nat.le_trans cut_wt (by omega))
  · refine key _ (fun y q => ?_) ?_
    · rcases List.mem_append.mp q with q | q
      · exact q
      · exact cut_mem q
    · rw [wtL_app]
      have : wtL (cut xs (some (-1)) none) ≤ wtL xs := cut_wt
      omega
  · exact key _ (fun y q => List.mem_reverse.mp q) (by rw [wtL_perm (List.reverse_perm xs)]; omega)
  · exact ⟨plL_iff.mpr hp', by show depL xs + 1 ≤ _; omega, by show 3 + wtL xs ≤ _; omega⟩
  · exact ⟨plL_iff.mpr hp', by show depL xs + 1 ≤ _; omega, by show 3 + wtL xs ≤ _; omega⟩
  · refine key _ (fun y q => by simpa using q) ?_
    show wtL (xs ++ (xs ++ [])) ≤ _
    rw [List.append_nil, wtL_app]; omega
theorem pl_swap {x y : D} {i : Int} (h0 : 0 ≤ i) (hx : xs[i.toNat]? = some x) (hp : ∀ x ∈ xs, PlD e x) (hy : Pl (e + 1) (dep x + 4) (2 * wt x + 4000) y) : (∀ z ∈ cut xs none (some i) ++ [y] ++ cut xs (some (i + 1)) none, PlD (e + 1) z ∧ dep z ≤ depL xs + 4) ∧ 3 + wtL (cut xs none (some i) ++ [y] ++ cut xs (some (i + 1)) none) ≤ 2 * (3 + wtL xs) + 4000 := by
  have mx : x ∈ xs := List.mem_of_getElem? hx
  refine ⟨fun z q => ?_, ?_⟩
  · have hz : z ∈ xs ∨ z = y := by
      rcases List.mem_append.mp q with q | q
      · rcases List.mem_append.mp q with q | q
        · exact .inl (cut_mem q)
        · exact .inr (List.mem_singleton.mp q)
      · exact .inl (cut_mem q)
    rcases hz with q | rfl
    · exact ⟨(hp z q).mono (by omega), Nat.le_trans (dep_mem q) (by omega)⟩
    · have := dep_mem mx
      exact ⟨hy.pl, Nat.le_trans hy.dp (by omega)⟩
  · have h1 := wt_swap (y := y) h0 hx
    have h2 := wtL_mem mx
    have h3 := hy.wg
    omega
end
end GM
namespace GM
open PySem PySem.Spec L2 DL
open PyProof.Rows hiding St
mutual
/-- how deep lists and tuples lie in one another -/
def sq : D → Nat
  | .lst xs => sqL xs + 1
  | .tup xs => sqL xs + 1
  | _ => 0
def sqL : List D → Nat
  | [] => 0
  | d :: r => max (sq d) (sqL r)
end
mutual
/-- how long they are at most -/
def wide : D → Nat
  | .lst xs => max xs.length (wideL xs)
  | .tup xs => max xs.length (wideL xs)
  | _ => 0
def wideL : List D → Nat
  | [] => 0
  | d :: r => max (wide d) (wideL r)
end
theorem sqL_le {xs : List D} {m : Nat} : sqL xs ≤ m ↔ ∀ x ∈ xs, sq x ≤ m := by
  induction xs with
  | nil => simp [sqL]
  | cons d r ih =>
    simp only [sqL, List.mem_cons, forall_eq_or_imp]
    rw [← ih]; omega
theorem wideL_le {xs : List D} {m : Nat} : wideL xs ≤ m ↔ ∀ x ∈ xs, wide x ≤ m := by
  induction xs with
  | nil => simp [wideL]
  | cons d r ih =>
    simp only [wideL, List.mem_cons, forall_eq_or_imp]
    rw [← ih]; omega
theorem sq_mem {xs : List D} {x : D} (h : x ∈ xs) : sq x ≤ sqL xs := sqL_le.mp (Nat.le_refl _) x h
theorem wide_mem {xs : List D} {x : D} (h : x ∈ xs) : wide x ≤ wideL xs := wideL_le.mp (Nat.le_refl _) x h
theorem someL_sw {s v : Nat} {inner : List D} (hl : inner.length ≤ 3) (hv : 3 ≤ v) (h : ∀ x ∈ inner, sq x ≤ s ∧ wide x ≤ v) : ∀ d ∈ someL inner, sq d ≤ s + 1 ∧ wide d ≤ v := fun d q => by
  have h1 : sqL inner ≤ s := sqL_le.mpr fun x m => (h x m).1
  have h2 : wideL inner ≤ v := wideL_le.mpr fun x m => (h x m).2
  have T : sq (.tup inner) ≤ s + 1 ∧ wide (.tup inner) ≤ v := ⟨by show sqL inner + 1 ≤ _; omega, by show max _ _ ≤ _; omega⟩
  have L : sq (.lst inner) ≤ s + 1 ∧ wide (.lst inner) ≤ v := T
  simp only [someL, List.mem_cons, List.not_mem_nil, or_false] at q
  rcases q with rfl | rfl | rfl | rfl | rfl | rfl | rfl | rfl | rfl | rfl | rfl | rfl | rfl | rfl | rfl | rfl | rfl | rfl | rfl | rfl | rfl | rfl | rfl | rfl | rfl
  all_goals first
    | exact T
    | exact L
    | exact ⟨Nat.zero_le _, Nat.zero_le _⟩
    | exact ⟨Nat.succ_le_succ (Nat.zero_le _), Nat.zero_le _⟩
structure PlQ (e k m s v : Nat) (d : D) : Prop where
  pl : Pl e k m d
  sq : GM.sq d ≤ s
  wide : GM.wide d ≤ v
theorem someL_plq {k m s v : Nat} {inner : List D} (hl : inner.length ≤ 3) (hv : 3 ≤ v) (h : ∀ x ∈ inner, PlQ 31 k m s v x) : ∀ d ∈ someL inner, PlQ 31 (k + 2) (3 * m + 1000) (s + 1) v d := fun d q =>
  have z := someL_sw hl hv (fun x mx => ⟨(h x mx).sq, (h x mx).wide⟩) d q
  ⟨someL_pl hl (fun x mx => (h x mx).pl) d q, z.1, z.2⟩
theorem anySX {n : Int} {P : D → Prop} {c : Int} (mf : MF) (hn : 0 ≤ n) (hn2 : n ≤ 100) (hc : 0 ≤ c) (h : ∀ w, Rm c w → ∃ d w', mf [.pen, .int n] w = .ok (.fz d) w' ∧ P d ∧ Adv c w w') {w : Wd} (hr : Rm (3 * c + 2) w) : ∃ d inner w', runD 2 5 (b__law_anything mf) [.pen, .int (n + 1)] w = .ok (.fz d) w' ∧ inner.length ≤ 3 ∧ (∀ x ∈ inner, P x) ∧ d ∈ someL inner ∧ Adv (3 * c + 2) w w' := by
  obtain ⟨r, w1, e1, r0, r1, a1⟩ := draw_ok (w := w) (many := 4) (by omega) (by omega) (hr.mono (by omega))
  have hr1 : Rm (3 * c + 1) w1 := (hr.adv a1).mono (by omega)
  have n1 : n + 1 - 1 = n := by omega
  have n0 : 0 < n + 1 := by omega
  have mulc : ∀ k : Nat, c * ((k + 1 : Nat) : Int) = c * k + c := fun k => by
    rw [Int.natCast_add, Int.mul_add]; simp
  obtain ⟨xs, s', ex, hx, ha, z, w2, ad, hs⟩ := lcRun_inv (vs := [3]) (tg := gSet 3) (te := callD mf [] (aCons (rd 0) (aCons (bin opSub (rd 1) (cn (.int 1))) aNil))) (ds := rngD 0 r.toNat)
    (fun k' acc s => acc.length = k' ∧ (∀ x ∈ acc, P x) ∧ ∃ z w2, Adv (c * k') w1 w2 ∧ s = ⟨[.fz .pen, .fz (.int (n + 1)), .no, z, .no], w2⟩) (fun k' d acc s hd ⟨hl, ha, z, w2, ad, hs⟩ => by
      obtain ⟨hk, rfl⟩ := rngD_get hd
      subst hs
      have hk2 : (k' : Int) ≤ 2 := by omega
      have hkc : c * (k' : Int) ≤ c * 2 := Int.mul_le_mul_of_nonneg_left hk2 hc
      obtain ⟨y, w3, ey, sy, a3⟩ := h w2 ((hr1.adv ad).mono (by omega))
      refine ⟨⟨[.fz .pen, .fz (.int (n + 1)), .no, .fz (.int (0 + (k' : Nat))), .no], w2⟩, ⟨[.fz .pen, .fz (.int (n + 1)), .no, .fz (.int (0 + (k' : Nat))), .no], w3⟩, y, ?_, ?_, ?_, ?_, ?_, _, w3, (ad.trans a3).mono (by rw [mulc]; omega), rfl⟩
      · simp [DS.wipe]
      · simp [n1, ey]
      · rw [hl, sizeLine_eq]; omega
      · rw [List.length_append, hl]; rfl
      · intro x m
        rcases List.mem_append.mp m with m | m
        · exact ha x m
        · rw [List.mem_singleton.mp m]; exact sy) (s0 := ⟨[.fz .pen, .fz (.int (n + 1)), .no, .no, .no], w1⟩) ⟨rfl, fun _ m => by simp at m, _, w1, ⟨by omega, by simp⟩, rfl⟩
  rw [rngD_len] at hx ad
  subst hs
  have hr3 : (r.toNat : Int) ≤ 3 := by omega
  have hkc : c * (r.toNat : Int) ≤ c * 3 := Int.mul_le_mul_of_nonneg_left hr3 hc
  obtain ⟨d, sl, w', e, q, a⟩ := anyR_ok (w := w2) (z1 := .fz (.int (n + 1))) (z3 := .no) (inner := xs) (by omega) ((hr1.adv ad).mono (by omega))
  refine ⟨d, xs, w', ?_, by omega, ha, q, ((a1.trans ad).trans a).mono (by omega)⟩
  have x : anyX mf ⟨[.fz .pen, .fz (.int (n + 1)), .no, .no, .no], w⟩ = .ok (.ow xs) ⟨[.fz .pen, .fz (.int (n + 1)), .no, .no, .no], w2⟩ := by
    have b3 : bk1 ⟨[.fz .pen, .fz (.int (n + 1)), .no, .no, .no], w1⟩ 3 = .no := rfl
    have q0 : rOk r = true := rOk_of (by omega) (by omega)
    simp [anyX, vLc_eq, e1, ex, DS.back, b3, q0, n0]
  have t : sSet 2 (anyX mf) ⟨[.fz .pen, .fz (.int (n + 1)), .no, .no, .no], w⟩ = .ok .nx ⟨[.fz .pen, .fz (.int (n + 1)), .ow xs, .no, .no], w2⟩ := by simp [sSet_eq, x]
  simp only [any_b, runD]
  show (match sSeq (sSet 2 (anyX mf)) anyR ⟨[.fz .pen, .fz (.int (n + 1)), .no, .no, .no], w⟩ with | .ok .nx s => Rs.ok (.fz .non) s.w | .ok (.rt r) s => .ok r s.w | .ok _ _ => .wr | .ex x s => .ex x s.w | .wr => .wr) = _
  rw [seq_nx t, e]
theorem any0Q {w : Wd} (j : Nat) (hr : Rm 1 w) : ∃ d w', mr__law_anything (j + 1) [.pen, .int 0] w = .ok (.fz d) w' ∧ PlQ 31 2 1000 1 3 d ∧ Adv 1 w w' := by
  obtain ⟨d, sl, w', e, m, a⟩ := anyR_ok (w := w) (z1 := .fz (.int 0)) (z3 := .no) (inner := []) (by simp) hr
  refine ⟨d, w', ?_, someL_plq (k := 0) (m := 0) (s := 0) (by simp) (by omega) (fun _ m => by simp at m) d m, a⟩
  have x : anyX (mr__law_anything j) ⟨[.fz .pen, .fz (.int 0), .no, .no, .no], w⟩ = .ok (.ow []) ⟨[.fz .pen, .fz (.int 0), .no, .no, .no], w⟩ := by
    have b3 : bk1 ⟨[.fz .pen, .fz (.int 0), .no, .no, .no], w⟩ 3 = .no := rfl
    have r0 : rOk 0 = true := rOk_of (by omega) (by omega)
    have rg : rngD 0 0 = [] := rfl
    simp [anyX, vLc_eq, lcRun, DS.back, b3, r0, rg]
  have t : sSet 2 (anyX (mr__law_anything j)) ⟨[.fz .pen, .fz (.int 0), .no, .no, .no], w⟩ = .ok .nx ⟨[.fz .pen, .fz (.int 0), .ow [], .no, .no], w⟩ := by simp [sSet_eq, x]
  show runD 2 5 (b__law_anything (mr__law_anything j)) [.pen, .int 0] w = _
  simp only [any_b, runD]
  show (match sSeq (sSet 2 (anyX (mr__law_anything j))) anyR ⟨[.fz .pen, .fz (.int 0), .no, .no, .no], w⟩ with | .ok .nx s => Rs.ok (.fz .non) s.w | .ok (.rt r) s => .ok r s.w | .ok _ _ => .wr | .ex x s => .ex x s.w | .wr => .wr) = _
  rw [seq_nx t, e]
theorem any1Q {w : Wd} (j : Nat) (hr : Rm 5 w) : ∃ d w', mr__law_anything (j + 2) [.pen, .int 1] w = .ok (.fz d) w' ∧ PlQ 31 4 4000 2 3 d ∧ Adv 5 w w' := by
  obtain ⟨d, inner, w', e, hl, h, m, a⟩ := anySX (n := 0) (c := 1) (mr__law_anything (j + 1)) (by omega) (by omega) (by omega) (fun _ h => any0Q j h) hr
  exact ⟨d, w', e, someL_plq hl (by omega) h d m, a⟩
theorem any2Q {w : Wd} (j : Nat) (hr : Rm 17 w) : ∃ d w', mr__law_anything (j + 3) [.pen, .int 2] w = .ok (.fz d) w' ∧ PlQ 31 6 13000 3 3 d ∧ Adv 17 w w' := by
  obtain ⟨d, inner, w', e, hl, h, m, a⟩ := anySX (n := 1) (c := 5) (mr__law_anything (j + 2)) (by omega) (by omega) (by omega) (fun _ h => any1Q j h) hr
  exact ⟨d, w', e, someL_plq hl (by omega) h d m, a⟩
def BentQ (e : Nat) (c : Int) (mf : MF) (x : D) : Prop := ∀ w, Rm c w → ∃ r d w', mf [.pen, x] w = .ok r w' ∧ (∀ s, frz r s = .ok d s) ∧ Pl (e + 1) (dep x + 4) (2 * wt x + 4000) d ∧ sq d ≤ sq x + 2 ∧ wide d ≤ 2 * wide x + 3 ∧ Adv c w w'
theorem bent_anyQ {w : Wd} {x : D} {z3 : Sl} {m : MF} (hr : Rm 5 w) : ∃ d w', BN2 m ⟨[.fz .pen, .fz x, .no, z3, .fz (.int 0)], w⟩ = .ok (.rt (.fz d)) ⟨[.fz .pen, .fz x, .no, z3, .fz (.int 0)], w'⟩ ∧ Pl 31 4 4000 d ∧ sq d ≤ 2 ∧ wide d ≤ 3 ∧ Adv 5 w w' := by
  obtain ⟨d, w', e, s, a⟩ := any1Q (w := w) 2 hr
  have e : m__law_anything [.pen, .int 1] w = .ok (.fz d) w' := e
  exact ⟨d, w', by simp [BN2, eqv_int, fit_int, e], s.pl, s.sq, s.wide, a⟩
theorem isi_sb (x : Bool) (s : DS) : opIsi (.bl x) (.tup [.ty "list", .ty "tuple"]) s = .ok (.fz (.bl false)) s := by rfl
theorem isi_bi (x : Bool) (s : DS) : opIsi (.bl x) (.ty "int") s = .ok (.fz (.bl true)) s := by rfl
@[simp] theorem add_bi {b : Bool} {j : Int} {s : DS} : opAdd (.bl b) (.int j) s = .ok (.fz (.int (b2 b + j))) s := rfl
@[simp] theorem sub_bi {b : Bool} {j : Int} {s : DS} : opSub (.bl b) (.int j) s = .ok (.fz (.int (b2 b - j))) s := rfl
@[simp] theorem sub_ib {b : Bool} {j : Int} {s : DS} : opSub (.int j) (.bl b) s = .ok (.fz (.int (j - b2 b))) s := rfl
@[simp] theorem mul_ib {b : Bool} {j : Int} {s : DS} : opMulT (.int j) (.bl b) s = .ok (.fz (.int (j * b2 b))) s := rfl
theorem bentQ_int {m : MF} {e : Nat} {x : Int} (h1 : 31 ≤ e) (h2 : e ≤ 400) (hx : x.natAbs < 10 ^ e) : BentQ e 20 (runD 2 5 (b__law_bent m)) (.int x) := fun w hr => by
  obtain ⟨t, w1, e1, t0, t1, a1⟩ := draw_ok (w := w) (many := 8) (by omega) (by omega) (hr.mono (by omega))
  have s0 : BN0 m ⟨[.fz .pen, .fz (.int x), .no, .no, .no], w⟩ = .ok .nx ⟨[.fz .pen, .fz (.int x), .no, .no, .no], w⟩ := by
    simp [BN0, isi_si, sizeLine_eq]
  have s1 : BN1 m ⟨[.fz .pen, .fz (.int x), .no, .no, .no], w⟩ = .ok .nx ⟨[.fz .pen, .fz (.int x), .no, .no, .fz (.int t)], w1⟩ := by
    simp [BN1, e1]
  by_cases c : t = 0
  · subst c
    obtain ⟨d, w', e', s, sq1, wd1, a⟩ := bent_anyQ (x := .int x) (z3 := .no) (m := m) (w := w1) ((hr.adv a1).mono (by omega))
    exact ⟨.fz d, d, w', runD2 (by rw [BNb, seq_nx s0, seq_nx s1, seq_rt e']), fun _ => rfl, s.mono (by omega) (by simp [dep]) (by omega), by omega, by omega, (a1.trans a).mono (by omega)⟩
  · have s2 := bent_not (w := w1) (x := .int x) (z3 := .no) (m := m) c
    obtain ⟨d, ed, md, _⟩ := atI_get (l := [D.int (x + 1), .int (x - 1), .int (0 - x), .int 0, .int 1, .int 1000000000000000000000000000001, .int (2 * x)]) (i := t - 1) (by omega) (by show t - 1 < 7; omega)
    have p400 : x.natAbs < 10 ^ 400 := Nat.lt_of_lt_of_le hx (Nat.pow_le_pow_right (by decide) h2)
    have mf : mulFit 2 x = true := mulFit_small (Nat.lt_of_lt_of_le (show (2 : Int).natAbs < 2 ^ 128 by decide) (Nat.pow_le_pow_right (by decide) (by decide))) (Nat.lt_trans p400 (by decide +kernel))
    have s3 : BN3 m ⟨[.fz .pen, .fz (.int x), .no, .no, .fz (.int t)], w1⟩ = .ok (.rt (.fz d)) ⟨[.fz .pen, .fz (.int x), .no, .no, .fz (.int t)], w1⟩ := by
      simp [BN3, isi_int, sizeLine_eq, mf]
      simp at ed
      simp [ed]
    refine ⟨.fz d, d, w1, runD2 (by rw [BNb, seq_nx s0, seq_nx s1, seq_nx s2, seq_rt s3]), fun _ => rfl, ?_, ?_, ?_, a1.mono (by omega)⟩
    · have e10 : 10 ^ (e + 1) = 10 ^ e * 10 := Nat.pow_succ ..
      have b31 : 1000000000000000000000000000001 < 10 ^ e := Nat.lt_of_lt_of_le (show 1000000000000000000000000000001 < 10 ^ 31 by decide) (Nat.pow_le_pow_right (by decide) h1)
      have I : ∀ i : Int, i.natAbs < 10 ^ (e + 1) → Pl (e + 1) (dep (.int x) + 4) (2 * wt (.int x) + 4000) (.int i) := fun i hi => (Pl.int hi).mono (Nat.le_refl _) (by omega) (by show 431 ≤ 2 * 431 + 4000; omega)
      generalize 10 ^ e = B at *
      simp only [List.mem_cons, List.not_mem_nil, or_false] at md
      rcases md with rfl | rfl | rfl | rfl | rfl | rfl | rfl <;> exact I _ (by rw [e10]; omega)
    · simp only [List.mem_cons, List.not_mem_nil, or_false] at md
      rcases md with rfl | rfl | rfl | rfl | rfl | rfl | rfl <;> exact Nat.zero_le _
    · simp only [List.mem_cons, List.not_mem_nil, or_false] at md
      rcases md with rfl | rfl | rfl | rfl | rfl | rfl | rfl <;> exact Nat.zero_le _
theorem bentQ_bl {m : MF} {e : Nat} {b : Bool} (h1 : 31 ≤ e) : BentQ e 20 (runD 2 5 (b__law_bent m)) (.bl b) := fun w hr => by
  obtain ⟨t, w1, e1, t0, t1, a1⟩ := draw_ok (w := w) (many := 8) (by omega) (by omega) (hr.mono (by omega))
  have s0 : BN0 m ⟨[.fz .pen, .fz (.bl b), .no, .no, .no], w⟩ = .ok .nx ⟨[.fz .pen, .fz (.bl b), .no, .no, .no], w⟩ := by
    simp [BN0, isi_sb, sizeLine_eq]
  have s1 : BN1 m ⟨[.fz .pen, .fz (.bl b), .no, .no, .no], w⟩ = .ok .nx ⟨[.fz .pen, .fz (.bl b), .no, .no, .fz (.int t)], w1⟩ := by
    simp [BN1, e1]
  by_cases c : t = 0
  · subst c
    obtain ⟨d, w', e', s, sq1, wd1, a⟩ := bent_anyQ (x := .bl b) (z3 := .no) (m := m) (w := w1) ((hr.adv a1).mono (by omega))
    exact ⟨.fz d, d, w', runD2 (by rw [BNb, seq_nx s0, seq_nx s1, seq_rt e']), fun _ => rfl, s.mono (by omega) (by simp [dep]) (by omega), by omega, by omega, (a1.trans a).mono (by omega)⟩
  · have s2 := bent_not (w := w1) (x := .bl b) (z3 := .no) (m := m) c
    obtain ⟨d, ed, md, _⟩ := atI_get (l := [D.int (b2 b + 1), .int (b2 b - 1), .int (0 - b2 b), .int 0, .int 1, .int 1000000000000000000000000000001, .int (2 * b2 b)]) (i := t - 1) (by omega) (by show t - 1 < 7; omega)
    have s3 : BN3 m ⟨[.fz .pen, .fz (.bl b), .no, .no, .fz (.int t)], w1⟩ = .ok (.rt (.fz d)) ⟨[.fz .pen, .fz (.bl b), .no, .no, .fz (.int t)], w1⟩ := by
      simp [BN3, isi_bi, sizeLine_eq]
      simp at ed
      simp [ed]
    refine ⟨.fz d, d, w1, runD2 (by rw [BNb, seq_nx s0, seq_nx s1, seq_nx s2, seq_rt s3]), fun _ => rfl, ?_, ?_, ?_, a1.mono (by omega)⟩
    · have e10 : 10 ^ (e + 1) = 10 ^ e * 10 := Nat.pow_succ ..
      have b31 : 1000000000000000000000000000001 < 10 ^ e := Nat.lt_of_lt_of_le (show 1000000000000000000000000000001 < 10 ^ 31 by decide) (Nat.pow_le_pow_right (by decide) h1)
      have I : ∀ i : Int, i.natAbs < 10 ^ (e + 1) → Pl (e + 1) (dep (.bl b) + 4) (2 * wt (.bl b) + 4000) (.int i) := fun i hi => (Pl.int hi).mono (Nat.le_refl _) (by omega) (by show 431 ≤ 2 * 431 + 4000; omega)
      have hb : b2 b = 0 ∨ b2 b = 1 := by cases b <;> simp [b2]
      generalize 10 ^ e = B at *
      simp only [List.mem_cons, List.not_mem_nil, or_false] at md
      rcases md with rfl | rfl | rfl | rfl | rfl | rfl | rfl <;> exact I _ (by rw [e10]; omega)
    · simp only [List.mem_cons, List.not_mem_nil, or_false] at md
      rcases md with rfl | rfl | rfl | rfl | rfl | rfl | rfl <;> exact Nat.zero_le _
    · simp only [List.mem_cons, List.not_mem_nil, or_false] at md
      rcases md with rfl | rfl | rfl | rfl | rfl | rfl | rfl <;> exact Nat.zero_le _
theorem bentQ_oth {m : MF} {e : Nat} {x : D} (h1 : 31 ≤ e) (i1 : ∀ s, opIsi x (.tup [.ty "list", .ty "tuple"]) s = .ok (.fz (.bl false)) s) (i2 : ∀ s, opIsi x (.ty "int") s = .ok (.fz (.bl false)) s) : BentQ e 20 (runD 2 5 (b__law_bent m)) x := fun w hr => by
  obtain ⟨t, w1, e1, t0, t1, a1⟩ := draw_ok (w := w) (many := 8) (by omega) (by omega) (hr.mono (by omega))
  have s0 : BN0 m ⟨[.fz .pen, .fz x, .no, .no, .no], w⟩ = .ok .nx ⟨[.fz .pen, .fz x, .no, .no, .no], w⟩ := by
    simp [BN0, i1, sizeLine_eq]
  have s1 : BN1 m ⟨[.fz .pen, .fz x, .no, .no, .no], w⟩ = .ok .nx ⟨[.fz .pen, .fz x, .no, .no, .fz (.int t)], w1⟩ := by
    simp [BN1, e1]
  by_cases c : t = 0
  · subst c
    obtain ⟨d, w', e', s, sq1, wd1, a⟩ := bent_anyQ (x := x) (z3 := .no) (m := m) (w := w1) ((hr.adv a1).mono (by omega))
    exact ⟨.fz d, d, w', runD2 (by rw [BNb, seq_nx s0, seq_nx s1, seq_rt e']), fun _ => rfl, s.mono (by omega) (by omega) (by omega), by omega, by omega, (a1.trans a).mono (by omega)⟩
  · have s2 := bent_not (w := w1) (x := x) (z3 := .no) (m := m) c
    obtain ⟨d, ed, md, _⟩ := atI_get (l := [D.non, .str "all", .str "waves", .str "none", .str "step", .int 1, .tup []]) (i := t - 1) (by omega) (by show t - 1 < 7; omega)
    have s3 : BN3 m ⟨[.fz .pen, .fz x, .no, .no, .fz (.int t)], w1⟩ = .ok .nx ⟨[.fz .pen, .fz x, .no, .no, .fz (.int t)], w1⟩ := by simp [BN3, i2]
    have s4 : BN4 m ⟨[.fz .pen, .fz x, .no, .no, .fz (.int t)], w1⟩ = .ok .nx ⟨[.fz .pen, .fz x, .no, .no, .fz (.int t)], w1⟩ := by simp [BN4, i1, sizeLine_eq]
    have s5 : BN5 m ⟨[.fz .pen, .fz x, .no, .no, .fz (.int t)], w1⟩ = .ok (.rt (.fz d)) ⟨[.fz .pen, .fz x, .no, .no, .fz (.int t)], w1⟩ := by
      simp [BN5, sizeLine_eq, ed]
    have p : Pl 31 1 431 d ∧ sq d ≤ 2 ∧ wide d ≤ 3 := by
      simp only [List.mem_cons, List.not_mem_nil, or_false] at md
      rcases md with rfl | rfl | rfl | rfl | rfl | rfl | rfl
      · exact ⟨Pl.non.mono (Nat.le_refl _) (by omega) (by omega), Nat.zero_le _, Nat.zero_le _⟩
      · exact ⟨(Pl.str rs_all).mono (Nat.le_refl _) (by omega) (by omega), Nat.zero_le _, Nat.zero_le _⟩
      · exact ⟨(Pl.str rs_waves).mono (Nat.le_refl _) (by omega) (by omega), Nat.zero_le _, Nat.zero_le _⟩
      · exact ⟨(Pl.str rs_none).mono (Nat.le_refl _) (by omega) (by omega), Nat.zero_le _, Nat.zero_le _⟩
      · exact ⟨(Pl.str rs_step).mono (Nat.le_refl _) (by omega) (by omega), Nat.zero_le _, Nat.zero_le _⟩
      · exact ⟨(Pl.int (by decide)).mono (Nat.le_refl _) (by omega) (by omega), Nat.zero_le _, Nat.zero_le _⟩
      · exact ⟨(Pl.tup (k := 0) (m := 3) (fun _ q => by simp at q) (by decide)).mono (Nat.le_refl _) (by omega) (by omega), by decide, by decide⟩
    exact ⟨.fz d, d, w1, runD2 (by rw [BNb, seq_nx s0, seq_nx s1, seq_nx s2, seq_nx s3, seq_nx s4, s5]), fun _ => rfl, p.1.mono (by omega) (by omega) (by omega), by have := p.2.1; omega, by have := p.2.2; omega, a1.mono (by omega)⟩
section
variable {e : Nat} {c : Int} {m : MF} {xs : List D}
theorem sw_seven {d : D} {T : List D → D} (hT : ∀ ys : List D, sq (T ys) = sqL ys + 1 ∧ wide (T ys) = max ys.length (wideL ys))
    (md : d = T (cut xs (some 1) none) ∨ d = T (cut xs none (some (-1))) ∨ d = T (xs ++ cut xs (some (-1)) none) ∨ d = T xs.reverse ∨ d = .lst xs ∨ d = .tup xs ∨ d = T (List.replicate 2 xs).flatten) : sq d ≤ sq (T xs) + 2 ∧ wide d ≤ 2 * wide (T xs) + 3 := by
  have key : ∀ ys : List D, (∀ y ∈ ys, y ∈ xs) → ys.length ≤ 2 * xs.length → sq (T ys) ≤ sq (T xs) + 2 ∧ wide (T ys) ≤ 2 * wide (T xs) + 3 := fun ys h hw => by
    have h1 : sqL ys ≤ sqL xs := sqL_le.mpr fun y q => sq_mem (h y q)
    have h2 : wideL ys ≤ wideL xs := wideL_le.mpr fun y q => wide_mem (h y q)
    rw [(hT ys).1, (hT ys).2, (hT xs).1, (hT xs).2]
    omega
  rcases md with rfl | rfl | rfl | rfl | rfl | rfl | rfl
  · exact key _ (fun y q => cut_mem q) (Nat.le_trans cut_len (by omega))
  · exact key _ (fun y q => cut_mem q) (Nat.le_trans cut_len (by omega))
  · refine key _ (fun y q => ?_) ?_
    · rcases List.mem_append.mp q with q | q
      · exact q
      · exact cut_mem q
    · rw [List.length_append]
      have : (cut xs (some (-1)) none).length ≤ xs.length := cut_len
      omega
  · exact key _ (fun y q => List.mem_reverse.mp q) (by rw [List.length_reverse]; omega)
  · rw [(hT xs).1, (hT xs).2]
    exact ⟨by show sqL xs + 1 ≤ _; omega, by show max xs.length (wideL xs) ≤ _; omega⟩
  · rw [(hT xs).1, (hT xs).2]
    exact ⟨by show sqL xs + 1 ≤ _; omega, by show max xs.length (wideL xs) ≤ _; omega⟩
  · refine key _ (fun y q => by simpa using q) (by show (xs ++ (xs ++ [])).length ≤ _; rw [List.append_nil, List.length_append]; omega)
theorem sw_swap {x y : D} {T : List D → D} {i : Int} (hT : ∀ ys : List D, sq (T ys) = sqL ys + 1 ∧ wide (T ys) = max ys.length (wideL ys)) (h0 : 0 ≤ i) (hx : xs[i.toNat]? = some x) (h1 : sq y ≤ sq x + 2) (h2 : wide y ≤ 2 * wide x + 3) :
    sq (T (cut xs none (some i) ++ [y] ++ cut xs (some (i + 1)) none)) ≤ sq (T xs) + 2 ∧ wide (T (cut xs none (some i) ++ [y] ++ cut xs (some (i + 1)) none)) ≤ 2 * wide (T xs) + 3 := by
  have mx : x ∈ xs := List.mem_of_getElem? hx
  have hz : ∀ z ∈ cut xs none (some i) ++ [y] ++ cut xs (some (i + 1)) none, z ∈ xs ∨ z = y := fun z q => by
    rcases List.mem_append.mp q with q | q
    · rcases List.mem_append.mp q with q | q
      · exact .inl (cut_mem q)
      · exact .inr (List.mem_singleton.mp q)
    · exact .inl (cut_mem q)
  have s1 : sqL (cut xs none (some i) ++ [y] ++ cut xs (some (i + 1)) none) ≤ sqL xs + 2 := sqL_le.mpr fun z q => by
    rcases hz z q with q | rfl
    · have := sq_mem q; omega
    · have := sq_mem mx; omega
  have s2 : wideL (cut xs none (some i) ++ [y] ++ cut xs (some (i + 1)) none) ≤ 2 * wideL xs + 3 := wideL_le.mpr fun z q => by
    rcases hz z q with q | rfl
    · have := wide_mem q; omega
    · have := wide_mem mx; omega
  have l0 : xs.length ≠ 0 := fun z => by rw [List.length_eq_zero_iff.mp z] at mx; cases mx
  have l1 : (cut xs none (some i)).length ≤ xs.length := cut_len
  have l2 : (cut xs (some (i + 1)) none).length ≤ xs.length := cut_len
  have l3 : (cut xs none (some i) ++ [y] ++ cut xs (some (i + 1)) none).length ≤ 2 * xs.length + 1 := by
    rw [List.length_append, List.length_append, List.length_singleton]; omega
  rw [(hT _).1, (hT _).2, (hT xs).1, (hT xs).2]
  omega
theorem bentQ_tup (h0 : 31 ≤ e) (hc : 0 ≤ c) (h2 : xs.length ≤ 1000) (hs : ∀ x ∈ xs, PlD e x) (hb : ∀ x ∈ xs, BentQ e c m x) : BentQ e (c + 20) (runD 2 5 (b__law_bent m)) (.tup xs) := fun w hr => by
  have rest : ∀ w0, BN0 m ⟨[.fz .pen, .fz (.tup xs), .no, .no, .no], w⟩ = .ok .nx ⟨[.fz .pen, .fz (.tup xs), .no, .no, .no], w0⟩ → Adv 1 w w0 → ∃ r d w', runD 2 5 (b__law_bent m) [.pen, .tup xs] w = .ok r w' ∧ (∀ s, frz r s = .ok d s) ∧ Pl (e + 1) (dep (.tup xs) + 4) (2 * wt (.tup xs) + 4000) d ∧ sq d ≤ sq (.tup xs) + 2 ∧ wide d ≤ 2 * wide (.tup xs) + 3 ∧ Adv (c + 20) w w' := fun w0 s0 a0 => by
    have hr0 : Rm (c + 19) w0 := (hr.adv a0).mono (by omega)
    obtain ⟨t, w1, e1, t0, t1, a1⟩ := draw_ok (w := w0) (many := 8) (by omega) (by omega) (hr0.mono (by omega))
    have s1 : BN1 m ⟨[.fz .pen, .fz (.tup xs), .no, .no, .no], w0⟩ = .ok .nx ⟨[.fz .pen, .fz (.tup xs), .no, .no, .fz (.int t)], w1⟩ := by
      simp [BN1, e1]
    by_cases ct : t = 0
    · subst ct
      obtain ⟨d, w', e', s, sq1, wd1, a⟩ := bent_anyQ (x := .tup xs) (z3 := .no) (m := m) (w := w1) ((hr0.adv a1).mono (by omega))
      exact ⟨_, d, w', runD2 (by rw [BNb, seq_nx s0, seq_nx s1, seq_rt e']), fun _ => rfl, s.mono (by omega) (by omega) (by omega), by omega, by omega, ((a0.trans a1).trans a).mono (by omega)⟩
    · have s2 := bent_not (w := w1) (x := .tup xs) (z3 := .no) (m := m) ct
      have s3 : BN3 m ⟨[.fz .pen, .fz (.tup xs), .no, .no, .fz (.int t)], w1⟩ = .ok .nx ⟨[.fz .pen, .fz (.tup xs), .no, .no, .fz (.int t)], w1⟩ := by
        simp [BN3, isi_it]
      obtain ⟨d, ed, md, _⟩ := atI_get (l := [D.tup (cut xs (some 1) none), .tup (cut xs none (some (-1))), .tup (xs ++ cut xs (some (-1)) none), .tup xs.reverse, .lst xs, .tup xs, .tup (List.replicate 2 xs).flatten]) (i := t - 1) (by omega) (by show t - 1 < 7; omega)
      have l1 : (cut xs (some (-1)) none).length ≤ xs.length := cut_len
      have L1 : xs.length + (cut xs (some (-1)) none).length ≤ 16777216 := by omega
      have L2 : xs.length ≤ 1000 := by omega
      have s4 : BN4 m ⟨[.fz .pen, .fz (.tup xs), .no, .no, .fz (.int t)], w1⟩ = .ok (.rt (.fz d)) ⟨[.fz .pen, .fz (.tup xs), .no, .no, .fz (.int t)], w1⟩ := by
        simp [BN4, isi_st, sizeLine_eq, L1, L2]
        simp at ed
        simp [ed]
      refine ⟨_, d, w1, runD2 (by rw [BNb, seq_nx s0, seq_nx s1, seq_nx s2, seq_nx s3, seq_rt s4]), fun _ => rfl, pl_seven (T := .tup) (fun ys => ⟨rfl, rfl, fun p => p⟩) hs ?_, ?_, ?_, (a0.trans a1).mono (by omega)⟩
      · simpa only [List.mem_cons, List.not_mem_nil, or_false] using md
      · exact (sw_seven (T := .tup) (xs := xs) (fun ys => ⟨rfl, rfl⟩) (by simpa only [List.mem_cons, List.not_mem_nil, or_false] using md)).1
      · exact (sw_seven (T := .tup) (xs := xs) (fun ys => ⟨rfl, rfl⟩) (by simpa only [List.mem_cons, List.not_mem_nil, or_false] using md)).2
  by_cases hl : 0 < xs.length
  · obtain ⟨q, w0, e0, q0, q1, a0⟩ := draw_ok (w := w) (many := 6) (by omega) (by omega) (hr.mono (by omega))
    have hr0 : Rm (c + 19) w0 := (hr.adv a0).mono (by omega)
    by_cases cq : 0 < q
    · obtain ⟨at_, w1, e1, t0, t1, a1⟩ := draw_ok (w := w0) (many := (xs.length : Int)) (by omega) (by omega) (hr0.mono (by omega))
      obtain ⟨x, ex, mx, gx⟩ := atI_get (l := xs) t0 t1
      obtain ⟨r, y, w2, e2, fy, sy, sq2, wd2, a2⟩ := hb x mx w1 ((hr0.adv a1).mono (by omega))
      have l1 : (cut xs none (some at_)).length ≤ xs.length := cut_len
      have l2 : (cut xs (some (at_ + 1)) none).length ≤ xs.length := cut_len
      have L1 : (cut xs none (some at_)).length ≤ 16777215 := by omega
      have L2 : (cut xs none (some at_)).length + 1 + (cut xs (some (at_ + 1)) none).length ≤ 16777216 := by omega
      have L3 : (cut xs none (some at_)).length + ((cut xs (some (at_ + 1)) none).length + 1) ≤ 16777216 := by omega
      have L4 : (cut xs none (some at_)).length + (1 + (cut xs (some (at_ + 1)) none).length) ≤ 16777216 := by omega
      have s0 : BN0 m ⟨[.fz .pen, .fz (.tup xs), .no, .no, .no], w⟩ = .ok (.rt (.fz (.tup (cut xs none (some at_) ++ [y] ++ cut xs (some (at_ + 1)) none)))) ⟨[.fz .pen, .fz (.tup xs), .fz (.int at_), .fz (.tup [y]), .no], w2⟩ := by
        simp [BN0, isi_st, isi_lt, sizeLine_eq, hl, e0, cq, e1, ex, e2, fy, L1, L2, L3, L4]
      obtain ⟨p1, p2⟩ := pl_swap t0 gx hs sy
      exact ⟨_, _, w2, runD2 (by rw [BNb, seq_rt s0]), fun _ => rfl, Pl.tup (k := depL xs + 4) p1 p2, (sw_swap (T := .tup) (fun ys => ⟨rfl, rfl⟩) t0 gx sq2 wd2).1, (sw_swap (T := .tup) (fun ys => ⟨rfl, rfl⟩) t0 gx sq2 wd2).2, ((a0.trans a1).trans a2).mono (by omega)⟩
    · obtain rfl : q = 0 := by omega
      have s0 : BN0 m ⟨[.fz .pen, .fz (.tup xs), .no, .no, .no], w⟩ = .ok .nx ⟨[.fz .pen, .fz (.tup xs), .no, .no, .no], w0⟩ := by
        simp [BN0, isi_st, isi_lt, sizeLine_eq, hl, e0]
      exact rest w0 s0 a0
  · have s0 : BN0 m ⟨[.fz .pen, .fz (.tup xs), .no, .no, .no], w⟩ = .ok .nx ⟨[.fz .pen, .fz (.tup xs), .no, .no, .no], w⟩ := by
      simp [BN0, isi_st, isi_lt, sizeLine_eq, hl]
    exact rest w s0 ((Adv.refl w).mono (by omega))
theorem bentQ_lst (h0 : 31 ≤ e) (hc : 0 ≤ c) (h2 : xs.length ≤ 1000) (hs : ∀ x ∈ xs, PlD e x) (hb : ∀ x ∈ xs, BentQ e c m x) : BentQ e (c + 20) (runD 2 5 (b__law_bent m)) (.lst xs) := fun w hr => by
  have rest : ∀ w0, BN0 m ⟨[.fz .pen, .fz (.lst xs), .no, .no, .no], w⟩ = .ok .nx ⟨[.fz .pen, .fz (.lst xs), .no, .no, .no], w0⟩ → Adv 1 w w0 → ∃ r d w', runD 2 5 (b__law_bent m) [.pen, .lst xs] w = .ok r w' ∧ (∀ s, frz r s = .ok d s) ∧ Pl (e + 1) (dep (.lst xs) + 4) (2 * wt (.lst xs) + 4000) d ∧ sq d ≤ sq (.lst xs) + 2 ∧ wide d ≤ 2 * wide (.lst xs) + 3 ∧ Adv (c + 20) w w' := fun w0 s0 a0 => by
    have hr0 : Rm (c + 19) w0 := (hr.adv a0).mono (by omega)
    obtain ⟨t, w1, e1, t0, t1, a1⟩ := draw_ok (w := w0) (many := 8) (by omega) (by omega) (hr0.mono (by omega))
    have s1 : BN1 m ⟨[.fz .pen, .fz (.lst xs), .no, .no, .no], w0⟩ = .ok .nx ⟨[.fz .pen, .fz (.lst xs), .no, .no, .fz (.int t)], w1⟩ := by
      simp [BN1, e1]
    by_cases ct : t = 0
    · subst ct
      obtain ⟨d, w', e', s, sq1, wd1, a⟩ := bent_anyQ (x := .lst xs) (z3 := .no) (m := m) (w := w1) ((hr0.adv a1).mono (by omega))
      exact ⟨_, d, w', runD2 (by rw [BNb, seq_nx s0, seq_nx s1, seq_rt e']), fun _ => rfl, s.mono (by omega) (by omega) (by omega), by omega, by omega, ((a0.trans a1).trans a).mono (by omega)⟩
    · have s2 := bent_not (w := w1) (x := .lst xs) (z3 := .no) (m := m) ct
      have s3 : BN3 m ⟨[.fz .pen, .fz (.lst xs), .no, .no, .fz (.int t)], w1⟩ = .ok .nx ⟨[.fz .pen, .fz (.lst xs), .no, .no, .fz (.int t)], w1⟩ := by
        simp [BN3, isi_il]
      obtain ⟨d, ed, md, _⟩ := atI_get (l := [D.lst (cut xs (some 1) none), .lst (cut xs none (some (-1))), .lst (xs ++ cut xs (some (-1)) none), .lst xs.reverse, .lst xs, .tup xs, .lst (List.replicate 2 xs).flatten]) (i := t - 1) (by omega) (by show t - 1 < 7; omega)
      have l1 : (cut xs (some (-1)) none).length ≤ xs.length := cut_len
      have L1 : xs.length + (cut xs (some (-1)) none).length ≤ 16777216 := by omega
      have L2 : xs.length * 2 ≤ 16777216 := by omega
      have s4 : BN4 m ⟨[.fz .pen, .fz (.lst xs), .no, .no, .fz (.int t)], w1⟩ = .ok (.rt (.fz d)) ⟨[.fz .pen, .fz (.lst xs), .no, .no, .fz (.int t)], w1⟩ := by
        simp [BN4, isi_sl, sizeLine_eq, L1, L2]
        simp at ed
        simp [ed]
      refine ⟨_, d, w1, runD2 (by rw [BNb, seq_nx s0, seq_nx s1, seq_nx s2, seq_nx s3, seq_rt s4]), fun _ => rfl, pl_seven (T := .lst) (fun ys => ⟨rfl, rfl, fun p => p⟩) hs ?_, ?_, ?_, (a0.trans a1).mono (by omega)⟩
      · simpa only [List.mem_cons, List.not_mem_nil, or_false] using md
      · exact (sw_seven (T := .lst) (xs := xs) (fun ys => ⟨rfl, rfl⟩) (by simpa only [List.mem_cons, List.not_mem_nil, or_false] using md)).1
      · exact (sw_seven (T := .lst) (xs := xs) (fun ys => ⟨rfl, rfl⟩) (by simpa only [List.mem_cons, List.not_mem_nil, or_false] using md)).2
  by_cases hl : 0 < xs.length
  · obtain ⟨q, w0, e0, q0, q1, a0⟩ := draw_ok (w := w) (many := 6) (by omega) (by omega) (hr.mono (by omega))
    have hr0 : Rm (c + 19) w0 := (hr.adv a0).mono (by omega)
    by_cases cq : 0 < q
    · obtain ⟨at_, w1, e1, t0, t1, a1⟩ := draw_ok (w := w0) (many := (xs.length : Int)) (by omega) (by omega) (hr0.mono (by omega))
      obtain ⟨x, ex, mx, gx⟩ := atI_get (l := xs) t0 t1
      obtain ⟨r, y, w2, e2, fy, sy, sq2, wd2, a2⟩ := hb x mx w1 ((hr0.adv a1).mono (by omega))
      have l1 : (cut xs none (some at_)).length ≤ xs.length := cut_len
      have l2 : (cut xs (some (at_ + 1)) none).length ≤ xs.length := cut_len
      have L1 : (cut xs none (some at_)).length ≤ 16777215 := by omega
      have L2 : (cut xs none (some at_)).length + 1 + (cut xs (some (at_ + 1)) none).length ≤ 16777216 := by omega
      have L3 : (cut xs none (some at_)).length + ((cut xs (some (at_ + 1)) none).length + 1) ≤ 16777216 := by omega
      have L4 : (cut xs none (some at_)).length + (1 + (cut xs (some (at_ + 1)) none).length) ≤ 16777216 := by omega
      have s0 : BN0 m ⟨[.fz .pen, .fz (.lst xs), .no, .no, .no], w⟩ = .ok (.rt (.ow (cut xs none (some at_) ++ [y] ++ cut xs (some (at_ + 1)) none))) ⟨[.fz .pen, .fz (.lst xs), .fz (.int at_), .fz (.lst [y]), .no], w2⟩ := by
        simp [BN0, isi_sl, isi_ll, sizeLine_eq, hl, e0, cq, e1, ex, e2, fy, L1, L2, L3, L4]
      obtain ⟨p1, p2⟩ := pl_swap t0 gx hs sy
      exact ⟨_, _, w2, runD2 (by rw [BNb, seq_rt s0]), fun _ => rfl, Pl.lst (k := depL xs + 4) p1 p2, (sw_swap (T := .lst) (fun ys => ⟨rfl, rfl⟩) t0 gx sq2 wd2).1, (sw_swap (T := .lst) (fun ys => ⟨rfl, rfl⟩) t0 gx sq2 wd2).2, ((a0.trans a1).trans a2).mono (by omega)⟩
    · obtain rfl : q = 0 := by omega
      have s0 : BN0 m ⟨[.fz .pen, .fz (.lst xs), .no, .no, .no], w⟩ = .ok .nx ⟨[.fz .pen, .fz (.lst xs), .no, .no, .no], w0⟩ := by
        simp [BN0, isi_sl, isi_ll, sizeLine_eq, hl, e0]
      exact rest w0 s0 a0
  · have s0 : BN0 m ⟨[.fz .pen, .fz (.lst xs), .no, .no, .no], w⟩ = .ok .nx ⟨[.fz .pen, .fz (.lst xs), .no, .no, .no], w⟩ := by
      simp [BN0, isi_sl, isi_ll, sizeLine_eq, hl]
    exact rest w s0 ((Adv.refl w).mono (by omega))
end
theorem bentQ {e : Nat} (h1 : 31 ≤ e) (h2 : e ≤ 400) : ∀ (j : Nat) {x : D}, PlD e x → wide x ≤ 1000 → sq x ≤ j → BentQ e (20 * (j + 1 : Nat)) (mr__law_bent (j + 1)) x := fun j => by
  induction j with
  | zero =>
    intro x hp hw hs
    have up : ∀ {y : D}, BentQ e 20 (runD 2 5 (b__law_bent (mr__law_bent 0))) y → BentQ e (20 * ((0 : Nat) + 1 : Nat)) (mr__law_bent (0 + 1)) y := fun k w hr => k w (hr.mono (by omega))
    cases x with
    | int i => exact up (bentQ_int h1 h2 hp)
    | bl b => exact up (bentQ_bl h1)
    | non => exact up (bentQ_oth h1 (fun _ => rfl) (fun _ => rfl))
    | str t => exact up (bentQ_oth h1 (fun _ => rfl) (fun _ => rfl))
    | sd ks ds => exact up (bentQ_oth h1 (fun _ => rfl) (fun _ => rfl))
    | dn ks => exact up (bentQ_oth h1 (fun _ => rfl) (fun _ => rfl))
    | lst xs => exact absurd hs (by show ¬ (sqL xs + 1 ≤ 0); omega)
    | tup xs => exact absurd hs (by show ¬ (sqL xs + 1 ≤ 0); omega)
    | fn => exact hp.elim
    | ty => exact hp.elim
    | obj => exact hp.elim
    | pen => exact hp.elim
    | any => exact hp.elim
    | dct => exact hp.elim
    | tupX => exact hp.elim
  | succ j ih =>
    intro x hp hw hs
    have up : ∀ {y : D}, BentQ e 20 (runD 2 5 (b__law_bent (mr__law_bent (j + 1)))) y → BentQ e (20 * ((j + 1 : Nat) + 1 : Nat)) (mr__law_bent (j + 1 + 1)) y := fun k w hr => by
      obtain ⟨r, d, w', a, b, c, g1, g2, g⟩ := k w (hr.mono (by omega))
      exact ⟨r, d, w', a, b, c, g1, g2, g.mono (by omega)⟩
    cases x with
    | int i => exact up (bentQ_int h1 h2 hp)
    | bl b => exact up (bentQ_bl h1)
    | non => exact up (bentQ_oth h1 (fun _ => rfl) (fun _ => rfl))
    | str t => exact up (bentQ_oth h1 (fun _ => rfl) (fun _ => rfl))
    | sd ks ds => exact up (bentQ_oth h1 (fun _ => rfl) (fun _ => rfl))
    | dn ks => exact up (bentQ_oth h1 (fun _ => rfl) (fun _ => rfl))
    | lst xs =>
      have hp : ∀ x ∈ xs, PlD e x := plL_iff.mp hp
      have hs : sqL xs + 1 ≤ j + 1 := hs
      have hw : max xs.length (wideL xs) ≤ 1000 := hw
      have k := bentQ_lst (m := mr__law_bent (j + 1)) (c := 20 * (j + 1 : Nat)) h1 (by omega) (by omega) hp (fun x q => ih (hp x q) (by have := wide_mem q; omega) (by have := sq_mem q; omega))
      exact fun w hr => by
        obtain ⟨r, d, w', a, b, c, g1, g2, g⟩ := k w (hr.mono (by omega))
        exact ⟨r, d, w', a, b, c, g1, g2, g.mono (by omega)⟩
    | tup xs =>
      have hp : ∀ x ∈ xs, PlD e x := plL_iff.mp hp
      have hs : sqL xs + 1 ≤ j + 1 := hs
      have hw : max xs.length (wideL xs) ≤ 1000 := hw
      have k := bentQ_tup (m := mr__law_bent (j + 1)) (c := 20 * (j + 1 : Nat)) h1 (by omega) (by omega) hp (fun x q => ih (hp x q) (by have := wide_mem q; omega) (by have := sq_mem q; omega))
      exact fun w hr => by
        obtain ⟨r, d, w', a, b, c, g1, g2, g⟩ := k w (hr.mono (by omega))
        exact ⟨r, d, w', a, b, c, g1, g2, g.mono (by omega)⟩
    | fn => exact hp.elim
    | ty => exact hp.elim
    | obj => exact hp.elim
    | pen => exact hp.elim
    | any => exact hp.elim
    | dct => exact hp.elim
    | tupX => exact hp.elim
end GM
namespace GM
open PySem PySem.Spec L2 DL
open PyProof.Rows hiding St
theorem fold_set_get {g : Nat → Sl} (j : Nat) : ∀ (vs : List Nat) (l : List Sl), (vs.foldr (fun i l => l.set i (g i)) l)[j]? = if j ∈ vs then (l[j]?).map (fun _ => g j) else l[j]?
  | [], l => by simp
  | v :: vs, l => by
    rw [List.foldr_cons]
    by_cases h : v = j
    · subst h
      rw [if_pos List.mem_cons_self, List.getElem?_set_self']
      have := fold_set_get (g := g) v vs l
      rw [this]
      by_cases c : v ∈ vs
      · rw [if_pos c]; cases l[v]? <;> rfl
      · rw [if_neg c]; cases l[v]? <;> rfl
    · rw [List.getElem?_set_ne h, fold_set_get j vs l]
      by_cases c : j ∈ vs
      · rw [if_pos c, if_pos (List.mem_cons_of_mem _ c)]
      · rw [if_neg c, if_neg (fun m => by rcases List.mem_cons.mp m with e | m; exact h e.symm; exact c m)]
theorem dsExt {s t : DS} (h1 : ∀ j : Nat, s.sl[j]? = t.sl[j]?) (h2 : s.w = t.w) : s = t := by
  cases s; cases t
  have := List.ext_getElem? h1
  simp only at this h2
  rw [this, h2]
theorem back_wipe (s s0 : DS) (vs : List Nat) : (s.wipe vs).back s0 vs = s.back s0 vs := dsExt (fun j => by
  unfold DS.back DS.wipe
  simp only [fold_set_get]
  by_cases c : j ∈ vs
  · rw [if_pos c, if_pos c, if_pos c, Option.map_map]; rfl
  · rw [if_neg c, if_neg c, if_neg c]) rfl
theorem lcRun_pure {vs : List Nat} {tg : D → DS → Oc Unit} {tt : DS → Oc Bool} {te : DS → Oc Sl} {s : DS} (f : D → Option D) (ds acc : List D) (hl : acc.length + ds.length ≤ sizeLine)
    (step : ∀ d ∈ ds, ∃ s1 s2, tg d (s.wipe vs) = .ok () s1 ∧ match f d with
      | none => tt s1 = .ok false s2 ∧ s2.wipe vs = s.wipe vs
      | some y => ∃ s3, tt s1 = .ok true s2 ∧ fr te s2 = .ok y s3 ∧ s3.wipe vs = s.wipe vs) {s' : DS} (h : s'.wipe vs = s.wipe vs) : ∃ s2, lcRun vs tg tt te ds s' acc = .ok (acc ++ ds.filterMap f) s2 ∧ s2.wipe vs = s.wipe vs :=
  lcRun_filt (fun t => t.wipe vs = s.wipe vs) f ds acc s' (fun d m t ht => by
    obtain ⟨s1, s2, h1, h2⟩ := step d m
    exact ⟨s1, s2, by rw [ht]; exact h1, h2⟩) hl h
theorem lc_pure {vs : List Nat} {it : DS → Oc (List D)} {tg : D → DS → Oc Unit} {tt : DS → Oc Bool} {te : DS → Oc Sl} {s s0 : DS} {ds : List D} (f : D → Option D) (hit : it s0 = .ok ds s) (hb : (s.wipe vs).back s vs = s) (hl : ds.length ≤ sizeLine)
    (step : ∀ d ∈ ds, ∃ s1 s2, tg d (s.wipe vs) = .ok () s1 ∧ match f d with
      | none => tt s1 = .ok false s2 ∧ s2.wipe vs = s.wipe vs
      | some y => ∃ s3, tt s1 = .ok true s2 ∧ fr te s2 = .ok y s3 ∧ s3.wipe vs = s.wipe vs) : vLc vs it tg tt te s0 = .ok (.ow (ds.filterMap f)) s := by
  obtain ⟨s2, e, h⟩ := lcRun_pure f ds [] (by simpa using hl) step (s' := s) rfl
  rw [vLc_eq, hit, bind_ok, e]
  show Oc.ok _ (s2.back s vs) = _
  rw [List.nil_append, ← back_wipe, h, hb]
theorem lc_filter {vs : List Nat} {it : DS → Oc (List D)} {tg : D → DS → Oc Unit} {tt : DS → Oc Bool} {te : DS → Oc Sl} {s s0 : DS} {ds : List D} (p : D → Bool) (f : D → D) (hit : it s0 = .ok ds s) (hb : (s.wipe vs).back s vs = s) (hl : ds.length ≤ sizeLine)
    (step : ∀ d ∈ ds, ∃ s1 s2, tg d (s.wipe vs) = .ok () s1 ∧ tt s1 = .ok (p d) s2 ∧ s2.wipe vs = s.wipe vs ∧ (p d = true → ∃ s3, fr te s2 = .ok (f d) s3 ∧ s3.wipe vs = s.wipe vs)) : vLc vs it tg tt te s0 = .ok (.ow ((ds.filter p).map f)) s := by
  have h := lc_pure (tt := tt) (te := te) (fun d => if p d = true then some (f d) else none) hit hb hl (fun d m => by
    obtain ⟨s1, s2, h1, h2, h3, h4⟩ := step d m
    refine ⟨s1, s2, h1, ?_⟩
    by_cases c : p d = true
    · obtain ⟨s3, h5, h6⟩ := h4 c
      simp only [if_pos c]
      exact ⟨s3, by rw [h2, c], h5, h6⟩
    · simp only [if_neg c]
      exact ⟨by rw [h2]; simp at c; rw [c], h3⟩)
  rw [h]
  congr 2
  clear h step hit hl
  induction ds with
  | nil => rfl
  | cons d r ih =>
    by_cases c : p d = true
    · simp [c, ih]
    · simp [c, ih]
end GM
namespace GM
open PySem PySem.Spec L2 DL
open PyProof.Rows hiding St
@[simp] theorem itZipN_eq {f h : DS → Oc Sl} {s : DS} : itZipN f h s = (fr f s).bind fun d s1 => (fr h s1).bind fun e s2 => match d, e with
  | .lst xs, .lst ys => .ok ((xs.zip ys).map fun q => .tup [q.1, q.2]) s2
  | _, _ => .wr := rfl
@[simp] theorem listRng2_eq {f h : DS → Oc Sl} {s : DS} : vListRng2 f h s = (fr f s).bind fun d s1 => (fr h s1).bind fun e s2 => match d, e with
  | .int i, .int j => if rOk i = true ∧ rOk j = true ∧ j - i ≤ 1000 then .ok (.ow (rngD i (j - i).toNat)) s2 else .wr
  | _, _ => .wr := rfl
@[simp] theorem sPar3O_eq {i j l : Nat} {z : Int} {f h : DS → Oc Sl} {s : DS} : sPar3O i j l z f h s = (f s).bind fun r s1 => (h s1).bind fun r2 s2 => .ok .nx (((s2.put i r).put j (.fz (.int z))).put l r2) := rfl
@[simp] theorem int_bl {b : Bool} {s : DS} : intD (.bl b) s = .ok (.fz (.int (if b then 1 else 0))) s := rfl
structure Btw (a b : List Int) (l : List T) : Prop where
  ok : ∀ t ∈ l, ∃ x y c d, t = [x, y, c, d] ∧ x ∈ a ∧ y ∈ b ∧ 1 ≤ c ∧ c ≤ 9 ∧ 1 ≤ d ∧ d ≤ 9
  nd : (l.map pr).Nodup
theorem pr4 (x y c d : Int) : pr [x, y, c, d] = [x, y] := rfl
end GM
namespace GM
open PySem PySem.Spec L2 DL
open PyProof.Rows hiding St
def iv (lo : Int) (n : Nat) : List Int := (List.range n).map fun k => lo + (k : Nat)
theorem iv_len (lo : Int) (n : Nat) : (iv lo n).length = n := by unfold iv; rw [List.length_map, List.length_range]
theorem iv_mem {lo x : Int} {n : Nat} : x ∈ iv lo n ↔ lo ≤ x ∧ x < lo + n := by
  unfold iv
  rw [List.mem_map]
  constructor
  · rintro ⟨k, hk, rfl⟩
    have := List.mem_range.mp hk
    omega
  · intro h
    exact ⟨(x - lo).toNat, List.mem_range.mpr (by omega), by omega⟩
theorem iv_asc (lo : Int) (n : Nat) : (iv lo n).Pairwise (· < ·) := by
  unfold iv
  rw [List.pairwise_map]
  exact List.pairwise_lt_range.imp fun h => by omega
theorem iv_nd (lo : Int) (n : Nat) : (iv lo n).Nodup := (iv_asc lo n).imp fun h => Int.ne_of_lt h
theorem iv_app (a b : Nat) : iv 0 a ++ iv (a : Int) b = iv 0 (a + b) := by
  unfold iv
  rw [List.range_add, List.map_append, List.map_map]
  congr 1
  refine List.map_congr_left fun k _ => ?_
  show (a : Int) + (k : Nat) = 0 + ((a + k : Nat) : Int)
  omega
structure LM (n : Int) (LL : List (List Int)) : Prop where
  fl : LL.flatten = iv 0 n.toNat
  ne : ∀ q ∈ LL, q ≠ []
  n0 : 0 ≤ n
  n1 : n ≤ 12
theorem LM.lt {n : Int} {LL : List (List Int)} (h : LM n LL) {i j : Nat} {a b : List Int} (hij : i < j) (ha : LL[i]? = some a) (hb : LL[j]? = some b) {x y : Int} (hx : x ∈ a) (hy : y ∈ b) : x < y := by
  have p : LL.flatten.Pairwise (· < ·) := by rw [h.fl]; exact iv_asc _ _
  have p2 := (List.pairwise_flatten.mp p).2
  obtain ⟨h1, e1⟩ := List.getElem?_eq_some_iff.mp ha
  obtain ⟨h2, e2⟩ := List.getElem?_eq_some_iff.mp hb
  have := List.pairwise_iff_getElem.mp p2 i j h1 h2 hij x (by rw [e1]; exact hx) y (by rw [e2]; exact hy)
  exact this
theorem LM.rng {n : Int} {LL : List (List Int)} (h : LM n LL) {i : Nat} {a : List Int} (ha : LL[i]? = some a) {x : Int} (hx : x ∈ a) : 0 ≤ x ∧ x < n := by
  have m : x ∈ LL.flatten := List.mem_flatten.mpr ⟨a, List.mem_of_getElem? ha, hx⟩
  rw [h.fl, iv_mem] at m
  have := h.n0
  omega
theorem LM.same {n : Int} {LL : List (List Int)} (h : LM n LL) {i j : Nat} {a b : List Int} (ha : LL[i]? = some a) (hb : LL[j]? = some b) {x : Int} (hx : x ∈ a) (hy : x ∈ b) : i = j := by
  rcases Nat.lt_trichotomy i j with c | c | c
  · have := h.lt c ha hb hx hy; omega
  · exact c
  · have := h.lt c hb ha hy hx; omega
theorem flat_len : ∀ (LL : List (List Int)), (∀ q ∈ LL, q ≠ []) → LL.length ≤ LL.flatten.length
  | [], _ => by simp
  | q :: LL, h => by
    have := flat_len LL fun q m => h q (List.mem_cons_of_mem _ m)
    have := List.length_pos_iff.mpr (h q (by simp))
    rw [List.flatten_cons, List.length_append, List.length_cons]; omega
theorem mem_len : ∀ {LL : List (List Int)} {q : List Int}, q ∈ LL → q.length ≤ LL.flatten.length
  | p :: LL, q, h => by
    rw [List.flatten_cons, List.length_append]
    rcases List.mem_cons.mp h with rfl | h
    · omega
    · have := mem_len h; omega
theorem LM.nd {n : Int} {LL : List (List Int)} (h : LM n LL) {i : Nat} {a : List Int} (ha : LL[i]? = some a) : a.Nodup ∧ a.length ≤ 12 := by
  have p : LL.flatten.Pairwise (· < ·) := by rw [h.fl]; exact iv_asc _ _
  refine ⟨((List.pairwise_flatten.mp p).1 a (List.mem_of_getElem? ha)).imp fun h => Int.ne_of_lt h, ?_⟩
  have := mem_len (List.mem_of_getElem? ha)
  rw [h.fl, iv_len] at this
  have := h.n1
  omega
theorem LM.len {n : Int} {LL : List (List Int)} (h : LM n LL) : LL.length ≤ n.toNat := by
  have := flat_len LL h.ne
  rwa [h.fl, iv_len] at this
theorem LM.snoc {n m : Int} {LL : List (List Int)} (h : LM n LL) (hm : 1 ≤ m) (hn : n + m ≤ 12) : LM (n + m) (LL ++ [iv n m.toNat]) := by
  have n0 := h.n0
  refine ⟨?_, fun q q1 => ?_, by omega, hn⟩
  · rw [List.flatten_append, h.fl]
    have e : n = ((n.toNat : Nat) : Int) := by omega
    have e2 : (n + m).toNat = n.toNat + m.toNat := by omega
    rw [e2, ← iv_app, ← e]
    simp
  · rcases List.mem_append.mp q1 with q1 | q1
    · exact h.ne q q1
    · rw [List.mem_singleton.mp q1]
      intro z
      have := iv_len n m.toNat
      rw [z] at this
      simp at this
      omega
structure TM (LL : List (List Int)) (P : Nat → Nat → Prop) (l : List T) : Prop where
  ok : ∀ t ∈ l, ∃ i j a b x y c d, P i j ∧ i < j ∧ LL[i]? = some a ∧ LL[j]? = some b ∧ t = [x, y, c, d] ∧ x ∈ a ∧ y ∈ b ∧ 1 ≤ c ∧ c ≤ 9 ∧ 1 ≤ d ∧ d ≤ 9
  nd : (l.map pr).Nodup
theorem TM.good {n : Int} {LL : List (List Int)} (h : LM n LL) {P : Nat → Nat → Prop} {l : List T} (t : TM LL P l) : Good n l := ⟨fun u m => by
  obtain ⟨i, j, a, b, x, y, c, d, _, hij, ha, hb, rfl, hx, hy, c1, c2, d1, d2⟩ := t.ok u m
  exact ⟨x, y, c, d, rfl, (h.rng ha hx).1, h.lt hij ha hb hx hy, (h.rng hb hy).2, c1, c2, d1, d2⟩, t.nd⟩
theorem TM.add {n : Int} {LL : List (List Int)} (h : LM n LL) {P : Nat → Nat → Prop} {l l' : List T} (t : TM LL P l) {i j : Nat} {a b : List Int} (hij : i < j) (ha : LL[i]? = some a) (hb : LL[j]? = some b) (bt : Btw a b l') (np : ¬ P i j) : TM LL (fun p q => P p q ∨ (p = i ∧ q = j)) (l ++ l') := by
  refine ⟨fun u m => ?_, ?_⟩
  · rcases List.mem_append.mp m with m | m
    · obtain ⟨i, j, a, b, x, y, c, d, p, r⟩ := t.ok u m
      exact ⟨i, j, a, b, x, y, c, d, .inl p, r⟩
    · obtain ⟨x, y, c, d, e, hx, hy, r⟩ := bt.ok u m
      exact ⟨i, j, a, b, x, y, c, d, .inr ⟨rfl, rfl⟩, hij, ha, hb, e, hx, hy, r⟩
  · rw [List.map_append]
    refine List.nodup_append.mpr ⟨t.nd, bt.nd, fun p mp q mq e => ?_⟩
    subst e
    obtain ⟨u, hu, rfl⟩ := List.mem_map.mp mp
    obtain ⟨v, hv, e⟩ := List.mem_map.mp mq
    obtain ⟨i', j', a', b', x, y, c, d, p, _, ha', hb', rfl, hx, hy, _⟩ := t.ok u hu
    obtain ⟨x', y', c', d', rfl, hx', hy', _⟩ := bt.ok v hv
    rw [pr4, pr4] at e
    injection e with e1 e2
    injection e2 with e2 _
    subst e1 e2
    have q1 := h.same ha ha' hx' hx
    have q2 := h.same hb hb' hy' hy
    subst q1 q2
    exact np p
theorem TM.mono {LL : List (List Int)} {P Q : Nat → Nat → Prop} {l : List T} (t : TM LL P l) (h : ∀ i j, P i j → Q i j) : TM LL Q l := ⟨fun u m => by
  obtain ⟨i, j, a, b, x, y, c, d, p, r⟩ := t.ok u m
  exact ⟨i, j, a, b, x, y, c, d, h i j p, r⟩, t.nd⟩
structure Lots (n : Int) (LL : List (List Int)) : Prop where
  pm : LL.flatten.Perm (iv 0 n.toNat)
  ne : ∀ q ∈ LL, q ≠ []
theorem Lots.len {n : Int} {LL : List (List Int)} (h : Lots n LL) : LL.length ≤ n.toNat := by
  have := flat_len LL h.ne
  rwa [h.pm.length_eq, iv_len] at this
theorem Lots.qlen {n : Int} {LL : List (List Int)} (h : Lots n LL) {q : List Int} (m : q ∈ LL) : q.length ≤ n.toNat := by
  have := mem_len m
  rwa [h.pm.length_eq, iv_len] at this
theorem Lots.rng {n : Int} {LL : List (List Int)} (h : Lots n LL) {q : List Int} (m : q ∈ LL) {x : Int} (hx : x ∈ q) : 0 ≤ x ∧ x < n := by
  have := h.pm.mem_iff.mp (List.mem_flatten.mpr ⟨q, m, hx⟩)
  rw [iv_mem] at this
  omega
theorem Lots.perm {n : Int} {LL LL' : List (List Int)} (h : Lots n LL) (p : LL'.Perm LL) : Lots n LL' := ⟨p.flatten.trans h.pm, fun q m => h.ne q (p.mem_iff.mp m)⟩
theorem Names.perm {n : Int} {ns : List Int} (N : Names n ns) (h0 : 0 ≤ n) : ns.Perm (iv 0 n.toNat) := by
  refine (List.perm_ext_iff_of_nodup N.nd (iv_nd _ _)).mpr fun x => ⟨fun m => ?_, fun m => ?_⟩
  · have := N.rng x m
    rw [iv_mem]; omega
  · rw [iv_mem] at m
    exact N.mem (by omega) (by omega)
inductive Al (R : List Int → List Int → Prop) : List (List Int) → List (List Int) → Prop
  | nil : Al R [] []
  | cons {a b as bs} : R a b → Al R as bs → Al R (a :: as) (b :: bs)
theorem Al.snoc {R : List Int → List Int → Prop} {a b : List Int} : ∀ {as bs : List (List Int)}, Al R as bs → R a b → Al R (as ++ [a]) (bs ++ [b])
  | _, _, .nil, r => .cons r .nil
  | _, _, .cons h t, r => .cons h (t.snoc r)
section
variable {n : Int} {LL : List (List Int)} {ns : List Int} {w : Wd} {z1 z3 z4 z5 z6 z7 z9 z10 z11 z12 z13 z14 : Sl}
end
end GM
namespace GM
open PySem PySem.Spec L2 DL
open PyProof.Rows hiding St
@[simp] theorem vNsL_eq {k : Nat} {it : DS → Oc (List D)} {s : DS} : vNsL k it s = (it s).bind fun ds s1 => match D.lsts? ds with
  | some xss => if xss.length < sizeLine ∧ k < s1.sl.length then .ok (.nst false xss) (s1.back s1 [k]) else .wr
  | none => .wr := rfl
theorem at_ix {α : Type} {xs : List α} {i : Int} (h : -(xs.length : Int) ≤ i) (h1 : i < xs.length) : ∃ m : Nat, ixN xs.length i = some m ∧ m < xs.length ∧ atI xs i = xs[m]? := by
  by_cases c : 0 ≤ i
  · have e : ixN xs.length i = some i.toNat := by unfold ixN; rw [if_pos c, if_pos h1]
    exact ⟨i.toNat, e, by omega, by unfold atI; rw [e]; rfl⟩
  · have e : ixN xs.length i = some (i + xs.length).toNat := by unfold ixN; rw [if_neg c, if_pos h]
    exact ⟨_, e, by omega, by unfold atI; rw [e]; rfl⟩
def RowP (x : D) : Prop := Pl 31 1 12993 x
theorem row_of {q : List D} (h : ∀ d ∈ q, ∃ i : Int, d = .int i ∧ 0 ≤ i ∧ i < 13) (hl : q.length ≤ 30) : RowP (.lst q) ∧ RowP (.tup q) := by
  have p : ∀ x ∈ q, Pl 31 0 431 x := fun x m => by
    obtain ⟨i, rfl, h0, h1⟩ := h x m
    exact Pl.int (by omega)
  exact ⟨Pl.lstU p hl, Pl.tupU p hl⟩
def SmR (xss : List (List D)) (L : Nat) : Prop := ∀ q ∈ xss, q.length ≤ L ∧ ∀ d ∈ q, ∃ i : Int, d = .int i ∧ 0 ≤ i ∧ i < 13
theorem SmR.set {xss : List (List D)} {L : Nat} (h : SmR xss L) {m : Nat} {q : List D} (hq : q.length ≤ L ∧ ∀ d ∈ q, ∃ i : Int, d = .int i ∧ 0 ≤ i ∧ i < 13) : SmR (xss.set m q) L := fun p mp => by
  rcases List.mem_or_eq_of_mem_set mp with mp | rfl
  · exact h p mp
  · exact hq
theorem SmR.rows {xss : List (List D)} (h : SmR xss 14) : ∀ x ∈ xss.map D.lst, RowP x := fun x m => by
  obtain ⟨q, hq, rfl⟩ := List.mem_map.mp m
  exact (row_of (h q hq).2 (by have := (h q hq).1; omega)).1
@[simp] theorem opNeN_eq {xs : List D} {s : DS} : opNeN (.lst xs) (.lst []) s = .ok (.fz (.bl (!xs.isEmpty))) s := rfl
section
variable {n : Int} {LL : List (List Int)} {w : Wd} {t r : Int}
theorem Lots.pos (h : Lots n LL) (h1 : 1 ≤ n) : 0 < LL.length := by
  rcases LL with _ | ⟨q, LL⟩
  · have := h.pm.length_eq
    rw [iv_len] at this
    simp at this
    omega
  · simp
variable {X : List D} {Y : List (List D)}
end
end GM
namespace GM
open PySem PySem.Spec L2 DL
open PyProof.Rows hiding St
@[simp] theorem rdN_eq {i : Nat} {sl : List Sl} {w : Wd} : rdN i ⟨sl, w⟩ = match sl[i]? with
  | some (.nst b xss) => .ok (.fz (seqD b (xss.map D.lst))) ⟨sl.set i (.fz (seqD b (xss.map D.lst))), w⟩
  | some (.fz d) => .ok (.fz d) ⟨sl, w⟩
  | _ => .wr := rfl
@[simp] theorem seqD_f {xs : List D} : seqD false xs = .lst xs := rfl
structure Vs (V : List D) : Prop where
  ok : ∀ x ∈ V, ∃ q, x = .lst q ∧ q ≠ [] ∧ q.length ≤ 13 ∧ ∀ d ∈ q, ∃ i : Int, d = .int i ∧ 0 ≤ i ∧ i < 13
  len : V.length ≤ 12
theorem Vs.row {V : List D} (h : Vs V) : ∀ x ∈ V, RowP x := fun x m => by
  obtain ⟨q, rfl, _, hl, hq⟩ := h.ok x m
  exact (row_of hq (by omega)).1
theorem Vs.two {V : List D} (h : Vs V) {t : Int} (h0 : -(V.length : Int) ≤ t) (h1 : t < V.length) : ∃ q, atI V t = some (.lst q) ∧ .lst q ∈ V ∧ q.length ≤ 13 ∧ ∀ d ∈ q, ∃ i : Int, d = .int i ∧ 0 ≤ i ∧ i < 13 := by
  obtain ⟨m, _, hm, e⟩ := at_ix (xs := V) h0 h1
  have g := List.getElem?_eq_getElem hm
  have mm := List.mem_of_getElem? g
  obtain ⟨q, eq, _, l, hq⟩ := h.ok _ mm
  rw [g, eq] at e
  exact ⟨q, e, by rw [← eq]; exact mm, l, hq⟩
section
variable {n : Int} {w : Wd} {t r : Int} {X V : List D} {Y : List (List D)}
end
end GM
namespace GM
open PySem PySem.Spec L2 DL
open PyProof.Rows hiding St
end GM
namespace GM
open PySem PySem.Spec L2 DL
open PyProof.Rows hiding St
def sqOf : D → Option (List D)
  | .lst xs => some xs
  | .tup xs => some xs
  | _ => none
def inn (x : D) : List D := (sqOf x).getD []
def posts (xs : List D) : List D := xs.flatMap inn
def intsOf (ds : List D) : List Int := ds.filterMap fun d => match d with
  | .int i => some i
  | _ => none
theorem PlD.sq {e : Nat} {x : D} (h : PlD e x) {ys : List D} (hs : sqOf x = some ys) : ∀ y ∈ ys, PlD e y := by
  cases x <;> simp only [sqOf, Option.some.injEq, reduceCtorEq] at hs <;> subst hs <;> exact plL_iff.mp h
theorem ints_of {lo hi : Int} : ∀ {ds : List D}, ds.all (isWr lo hi) = true → D.ints? ds = some (intsOf ds) ∧ ds = (intsOf ds).map .int ∧ ∀ i ∈ intsOf ds, lo ≤ i ∧ i ≤ hi
  | [], _ => ⟨rfl, rfl, fun _ m => by simp [intsOf] at m⟩
  | d :: r, h => by
    rw [List.all_cons, Bool.and_eq_true] at h
    obtain ⟨a, b, c⟩ := ints_of h.2
    cases d with
    | int i =>
      have e : intsOf (.int i :: r) = i :: intsOf r := rfl
      have hi := h.1
      simp only [isWr, Bool.and_eq_true, decide_eq_true_eq] at hi
      refine ⟨?_, ?_, ?_⟩
      · simp only [D.ints?, a, e]; rfl
      · rw [e, List.map_cons, ← b]
      · rw [e]
        intro j m
        rcases List.mem_cons.mp m with rfl | m
        · exact hi
        · exact c j m
    | _ => exact absurd h.1 (by simp [isWr])
section
variable {n : Int} {w : Wd} {L d W : D} {e k m : Nat} {z3 z4 z5 : Sl}
@[simp] theorem extAD_lst {i : Nat} {sl : List Sl} {w : Wd} {ys : List D} : extAD i (.lst ys) ⟨sl, w⟩ = match sl[i]? with
  | some (.ow xs) => if xs.length + ys.length ≤ sizeLine then .ok (.fz .non) ⟨sl.set i (.ow (xs ++ ys)), w⟩ else .wr
  | _ => .wr := by
  unfold extAD
  show (match sl[i]?, D.lst ys with | some (.ow xs), .lst ys => _ | some (.ow xs), .tup ys => _ | _, _ => _) = _
  cases sl[i]? with
  | none => rfl
  | some z => cases z <;> rfl
@[simp] theorem extAD_tup {i : Nat} {sl : List Sl} {w : Wd} {ys : List D} : extAD i (.tup ys) ⟨sl, w⟩ = match sl[i]? with
  | some (.ow xs) => if xs.length + ys.length ≤ sizeLine then .ok (.fz .non) ⟨sl.set i (.ow (xs ++ ys)), w⟩ else .wr
  | _ => .wr := by
  unfold extAD
  show (match sl[i]?, D.tup ys with | some (.ow xs), .lst ys => _ | some (.ow xs), .tup ys => _ | _, _ => _) = _
  cases sl[i]? with
  | none => rfl
  | some z => cases z <;> rfl
end
end GM
namespace GM
open PySem PySem.Spec L2 DL
open PyProof.Rows hiding St
abbrev LPs := List (Bool × List Int)
def lotAt (LP : LPs) (i : Nat) : List Int := (LP.getD i (false, [])).2
theorem lotAt_of {LP : LPs} {i : Nat} {p : Bool × List Int} (h : LP[i]? = some p) : lotAt LP i = p.2 := by
  unfold lotAt
  rw [List.getD_eq_getElem?_getD, h]; rfl
section
variable {n : Int} {l : List T} {bb : Bool} {LP : LPs} {w : Wd} {z3 z4 z6 z7 z8 : Sl}
theorem Lots.at (h : Lots n (LP.map (·.2))) {i : Nat} (hi : i < LP.length) : ∃ b q, LP[i]? = some (b, q) ∧ lotAt LP i = q ∧ q ≠ [] ∧ q.length ≤ n.toNat ∧ ∀ x ∈ q, 0 ≤ x ∧ x < n := by
  have e := List.getElem?_eq_getElem hi
  have m : LP[i].2 ∈ LP.map (·.2) := List.mem_map_of_mem (List.getElem_mem hi)
  exact ⟨LP[i].1, LP[i].2, e, lotAt_of e, h.ne _ m, h.qlen m, fun x hx => h.rng m hx⟩
end
end GM
namespace GM
open PySem PySem.Spec L2 DL
open PyProof.Rows hiding St
theorem Lots.apart {n : Int} {LP : LPs} (h : Lots n (LP.map (·.2))) {i j : Nat} (hi : i < LP.length) (hj : j < LP.length) (ne : i ≠ j) {x y : Int} (hx : x ∈ lotAt LP i) (hy : y ∈ lotAt LP j) : x ≠ y := by
  have nd : ((LP.map (·.2)).flatten).Nodup := h.pm.nodup_iff.mpr (iv_nd _ _)
  have p2 := (List.pairwise_flatten.mp nd).2
  have li : (LP.map (·.2))[i]? = some (lotAt LP i) := by
    rw [List.getElem?_map, List.getElem?_eq_getElem hi]
    unfold lotAt
    rw [List.getD_eq_getElem?_getD, List.getElem?_eq_getElem hi]; rfl
  have lj : (LP.map (·.2))[j]? = some (lotAt LP j) := by
    rw [List.getElem?_map, List.getElem?_eq_getElem hj]
    unfold lotAt
    rw [List.getD_eq_getElem?_getD, List.getElem?_eq_getElem hj]; rfl
  obtain ⟨h1, e1⟩ := List.getElem?_eq_some_iff.mp li
  obtain ⟨h2, e2⟩ := List.getElem?_eq_some_iff.mp lj
  rcases Nat.lt_or_ge i j with c | c
  · exact List.pairwise_iff_getElem.mp p2 i j h1 h2 c x (by rw [e1]; exact hx) y (by rw [e2]; exact hy)
  · exact fun e => List.pairwise_iff_getElem.mp p2 j i h2 h1 (by omega) y (by rw [e2]; exact hy) x (by rw [e1]; exact hx) e.symm
@[simp] theorem sRaise2_eq {c f1 f2 : Str} {fa fb : DS → Oc Sl} {s : DS} : sRaise2 c f1 f2 fa fb s = (fr fa s).bind fun d s1 => (fr fb s1).bind fun e s2 => .ex ⟨c, [(f2, e), (f1, d)]⟩ s2 := rfl
section
variable {n : Int} {l : List T} {bb : Bool} {LP : LPs} {w : Wd} {z2 z3 z4 z5 : Sl}
end
theorem webLen {n : Int} {l : List T} (g : Good n l) (h0 : 0 ≤ n) (h1 : n ≤ 12) (s : DS) : lenM "Web" m_Web___len__ (webD n l) s = .ok (.fz (.int n)) s := by
  obtain ⟨nps, rows, e, hl, _⟩ := webD_of g h0
  rw [e]
  exact lenM_ok hl h0 (by omega)
end GM
namespace GM
open PySem PySem.Spec L2 DL
open PyProof.Rows hiding St
section
variable {n : Int} {l : List T} {bb : Bool} {LP : LPs} {w : Wd} {z3 z4 z5 z6 z7 : Sl}
end
end GM
namespace GM
open PySem PySem.Spec L2 DL
open PyProof.Rows hiding St
end GM
namespace GM
open PySem PySem.Spec L2 DL
open PyProof.Rows hiding St
theorem fitStr (s : String) : D.fit (.str (Str.ofString s)) = true := by
  unfold D.fit
  simp only [D.isPy, D.toPy, PyData.depth, (Wf.of s).ok]
  rfl
end GM
namespace K04
open PySem PySem.Spec L2 DL GM
open PyProof.Rows hiding St
abbrev LD0 : DS → Oc Fl := (sIf (tOu (tNo (tru (call2 opIsi (rd 1) (cn (.ty "tuple"))))) (asB (bin (opEq true) (call1 lenD (pn 1)) (cn (.int 2))))) (sRet (cn (.str "standing"))) sNil)
abbrev LD1 : DS → Oc Fl := (sIf (asB (bin opNeN (vLc [2] (itSeq (rd 1)) (gSet 2) (tOu (tNo (tru (call2 opIsi (rd 2) (cn (.ty "tuple"))))) (asB (bin (opEq true) (call1 lenD (pn 2)) (rd 0)))) (rd 2)) (vLst aNil))) (sRet (cn (.str "standing"))) sNil)
abbrev LD2 : DS → Oc Fl := (sSet 3 (vLc [2] (itSeq (rd 1)) (gSet 2) (asB (bin opNeN (vLc [4] (itSeq (rd 2)) (gSet 4) (tNo (tru (callD m__law_whole [] (aCons (rd 4) (aCons (una opNeg (bin opPow (cn (.int 10)) (cn (.int 30)))) (aCons (bin opPow (cn (.int 10)) (cn (.int 30))) aNil)))))) (rd 4)) (vLst aNil))) (rd 2)))
abbrev LD3 : DS → Oc Fl := (sRet (vIf (asB (bin opEqN (rd 3) (vLst aNil))) (cn .non) (cn (.str "numbers"))))
theorem LDb : b__law_due = (sSeq LD0 (sSeq LD1 (sSeq LD2 LD3))) := rfl
theorem sh_of {e : Nat} : ∀ (k : Nat) {d : D}, PlD e d → wide d ≤ 40 → Sh k d
  | 0, d, h, _ => h.ok
  | k + 1, d, h, hw => ⟨h.ok, fun xs e' => by
    subst e'
    have h : ∀ x ∈ xs, PlD e x := plL_iff.mp h
    have hw : max xs.length (wideL xs) ≤ 40 := hw
    exact ⟨by omega, fun x m => sh_of k (h x m) (by have := wide_mem m; omega)⟩⟩
def dueD (n : Int) (d : D) : D := if badOf n d = "none" then .non else .str (badOf n d)
@[simp] theorem eqN_eq {xs : List D} {s : DS} : opEqN (.lst xs) (.lst []) s = .ok (.fz (.bl xs.isEmpty)) s := rfl
abbrev wT : DS → Oc Bool := (tNo (tru (callD m__law_whole [] (aCons (rd 4) (aCons (una opNeg (bin opPow (cn (.int 10)) (cn (.int 30)))) (aCons (bin opPow (cn (.int 10)) (cn (.int 30))) aNil))))))
theorem inner_ok {n : Int} {d : D} {xs : List D} {w : Wd} {z3 : Sl} (hl : xs.length ≤ 1000) (h : ∀ x ∈ xs, ok0 x = true) : vLc [4] (itSeq (rd 2)) (gSet 4) wT (rd 4) ⟨[.fz (.int n), .fz d, .fz (.tup xs), z3, .no], w⟩ = .ok (.ow ((xs.filter fun x => !isW x).map fun x => x)) ⟨[.fz (.int n), .fz d, .fz (.tup xs), z3, .no], w⟩ :=
  lc_filter (fun x => !isW x) (fun x => x) (s := ⟨[.fz (.int n), .fz d, .fz (.tup xs), z3, .no], w⟩) (by simp) rfl (by rw [sizeLine_eq]; omega) fun x m => by
    have e := lwhole_any (w := w) (lo := -1000000000000000000000000000000) (hi := 1000000000000000000000000000000) (h x m)
    rw [isWr_std] at e
    exact ⟨⟨[.fz (.int n), .fz d, .fz (.tup xs), z3, .fz x], w⟩, ⟨[.fz (.int n), .fz d, .fz (.tup xs), z3, .fz x], w⟩, by simp [DS.wipe], by simp [wT, e], rfl, fun _ => ⟨⟨[.fz (.int n), .fz d, .fz (.tup xs), z3, .fz x], w⟩, by simp, rfl⟩⟩
theorem filt_none (f : D → Bool) : ∀ l : List D, ((l.filter fun x => !f x).map fun x => x).isEmpty = l.all f
  | [] => rfl
  | x :: l => by
    have ih := filt_none f l
    cases c : f x <;> simp_all [List.filter_cons]
theorem due_ok {d : D} {n : Int} {w : Wd} (h : Sh 3 d) : m__law_due [.int n, d] w = .ok (.fz (dueD n d)) w := by
  have ret : ∀ {r : D} {sl : List Sl}, b__law_due ⟨[.fz (.int n), .fz d, .no, .no, .no], w⟩ = .ok (.rt (.fz r)) ⟨sl, w⟩ → m__law_due [.int n, d] w = .ok (.fz r) w := fun e => runD5 e
  have neq : ("standing" : Str) ≠ "none" := by decide
  have neq2 : ("numbers" : Str) ≠ "none" := by decide
  have hst : badOf n d = "standing" → dueD n d = .str "standing" := fun e => by
    unfold dueD
    rw [e, if_neg neq]
  have h0 := h.ok
  cases c0 : rowOk 2 d with
  | false =>
    rw [hst (bad_first h0 c0)]
    refine ret (sl := [.fz (.int n), .fz d, .no, .no, .no]) ?_
    rw [LDb]
    refine seq_rt ?_
    cases d with
    | tup xs =>
      have q : ¬ ((xs.length : Int) = 2) := by simpa [rowOk] using c0
      simp [LD0, isi_tup, eqv_int, fit_int, q]
    | non => simp [LD0, show ∀ s, opIsi .non (.ty "tuple") s = .ok (.fz (.bl false)) s from fun _ => rfl]
    | bl b => simp [LD0, show ∀ s, opIsi (.bl b) (.ty "tuple") s = .ok (.fz (.bl false)) s from fun _ => rfl]
    | int i => simp [LD0, show ∀ s, opIsi (.int i) (.ty "tuple") s = .ok (.fz (.bl false)) s from fun _ => rfl]
    | str i => simp [LD0, show ∀ s, opIsi (.str i) (.ty "tuple") s = .ok (.fz (.bl false)) s from fun _ => rfl]
    | lst i => simp [LD0, show ∀ s, opIsi (.lst i) (.ty "tuple") s = .ok (.fz (.bl false)) s from fun _ => rfl]
    | sd i j => simp [LD0, show ∀ s, opIsi (.sd i j) (.ty "tuple") s = .ok (.fz (.bl false)) s from fun _ => rfl]
    | dn i => simp [LD0, show ∀ s, opIsi (.dn i) (.ty "tuple") s = .ok (.fz (.bl false)) s from fun _ => rfl]
    | _ => cases h0
  | true =>
    obtain ⟨ps, rfl, lp, mp, ap⟩ := rowOk_nums c0 h
    match ps, lp, mp, ap with
    | [a, b], lx, mx, ax =>
      have sa := ax a (by simp)
      have sb := ax b (by simp)
      have s0 : LD0 ⟨[.fz (.int n), .fz (.tup [a, b]), .no, .no, .no], w⟩ = .ok .nx ⟨[.fz (.int n), .fz (.tup [a, b]), .no, .no, .no], w⟩ := by
        simp [LD0, isi_tup, eqv_int, fit_int]
      have lc := lc_filter (vs := [2]) (it := itSeq (rd 1)) (tg := gSet 2) (tt := badT) (te := rd 2) (s0 := ⟨[.fz (.int n), .fz (.tup [a, b]), .no, .no, .no], w⟩) (s := ⟨[.fz (.int n), .fz (.tup [a, b]), .no, .no, .no], w⟩) (ds := [a, b]) (fun x => !rowOk n x) (fun x => x) (by simp) rfl (by rw [sizeLine_eq]; simp) (fun x m => by
        have ox : ok0 x = true := by
          simp at m
          rcases m with rfl | rfl
          · exact sa.ok
          · exact sb.ok
        exact ⟨⟨[.fz (.int n), .fz (.tup [a, b]), .fz x, .no, .no], w⟩, ⟨[.fz (.int n), .fz (.tup [a, b]), .fz x, .no, .no], w⟩, by simp [DS.wipe], badT_ok ox, rfl, fun _ => ⟨⟨[.fz (.int n), .fz (.tup [a, b]), .fz x, .no, .no], w⟩, by simp, rfl⟩⟩)
      have em := filt_none (rowOk n) [a, b]
      have all2 : [a, b].all (rowOk n) = (rowOk n a && rowOk n b) := by simp
      rw [all2] at em
      generalize (([a, b].filter fun x => !rowOk n x).map fun x => x) = B1 at lc em
      by_cases c : (rowOk n a && rowOk n b) = true
      · rw [c] at em
        have s1 : LD1 ⟨[.fz (.int n), .fz (.tup [a, b]), .no, .no, .no], w⟩ = .ok .nx ⟨[.fz (.int n), .fz (.tup [a, b]), .no, .no, .no], w⟩ := by
          unfold LD1
          generalize vLc [2] _ _ _ _ = V at lc ⊢
          simp [lc, neN_eq, em, sizeLine_eq]
        have cc := Bool.and_eq_true_iff.mp c
        obtain ⟨xs, rfl, lxs, mxs, axs⟩ := rowOk_nums cc.1 sa
        obtain ⟨ys, rfl, lys, mys, ays⟩ := rowOk_nums cc.2 sb
        have lc2 := lc_filter (vs := [2]) (it := itSeq (rd 1)) (tg := gSet 2) (tt := asB (bin opNeN (vLc [4] (itSeq (rd 2)) (gSet 4) wT (rd 4)) (vLst aNil))) (te := rd 2) (s0 := ⟨[.fz (.int n), .fz (.tup [.tup xs, .tup ys]), .no, .no, .no], w⟩) (s := ⟨[.fz (.int n), .fz (.tup [.tup xs, .tup ys]), .no, .no, .no], w⟩) (ds := [.tup xs, .tup ys]) (fun x => !(nums x).all isW) (fun x => x) (by simp) rfl (by rw [sizeLine_eq]; simp) (fun x m => by
          have hx : ∃ zs, x = .tup zs ∧ zs.length ≤ 1000 ∧ ∀ z ∈ zs, ok0 z = true := by
            simp at m
            rcases m with rfl | rfl
            · exact ⟨xs, rfl, by omega, fun z q => (axs z q).ok⟩
            · exact ⟨ys, rfl, by omega, fun z q => (ays z q).ok⟩
          obtain ⟨zs, rfl, hl, ok⟩ := hx
          have il := inner_ok (n := n) (d := .tup [.tup xs, .tup ys]) (z3 := .no) (w := w) hl ok
          have e0 := filt_none isW zs
          generalize ((zs.filter fun x => !isW x).map fun x => x) = B0 at il e0
          refine ⟨⟨[.fz (.int n), .fz (.tup [.tup xs, .tup ys]), .fz (.tup zs), .no, .no], w⟩, ⟨[.fz (.int n), .fz (.tup [.tup xs, .tup ys]), .fz (.tup zs), .no, .no], w⟩, by simp [DS.wipe], ?_, rfl, fun _ => ⟨⟨[.fz (.int n), .fz (.tup [.tup xs, .tup ys]), .fz (.tup zs), .no, .no], w⟩, by simp, rfl⟩⟩
          generalize vLc [4] _ _ _ _ = V at il ⊢
          simp [il, neN_eq, e0, nums, sizeLine_eq])
        have em2 := filt_none (fun x => (nums x).all isW) [.tup xs, .tup ys]
        have all3 : [D.tup xs, .tup ys].all (fun x => (nums x).all isW) = (xs ++ ys).all isW := by simp [nums]
        rw [all3] at em2
        generalize (([D.tup xs, .tup ys].filter fun x => !(nums x).all isW).map fun x => x) = B2 at lc2 em2
        have s2 : LD2 ⟨[.fz (.int n), .fz (.tup [.tup xs, .tup ys]), .no, .no, .no], w⟩ = .ok .nx ⟨[.fz (.int n), .fz (.tup [.tup xs, .tup ys]), .no, .ow B2, .no], w⟩ := by
          unfold LD2
          rw [sSet_eq, lc2]
          rfl
        have s3 : LD3 ⟨[.fz (.int n), .fz (.tup [.tup xs, .tup ys]), .no, .ow B2, .no], w⟩ = .ok (.rt (.fz (if (xs ++ ys).all isW = true then .non else .str "numbers"))) ⟨[.fz (.int n), .fz (.tup [.tup xs, .tup ys]), .no, .fz (.lst B2), .no], w⟩ := by
          rw [← em2]
          cases c : B2.isEmpty <;> simp [LD3, c, sizeLine_eq]
        have ed : dueD n (.tup [.tup xs, .tup ys]) = if (xs ++ ys).all isW = true then .non else .str "numbers" := by
          unfold dueD
          rw [badOf_two, if_pos c]
          show (if (if (xs ++ ys).all isW = true then ("none" : Str) else ("numbers" : Str)) = "none" then D.non else .str (if (xs ++ ys).all isW = true then ("none" : Str) else ("numbers" : Str))) = _
          by_cases c3 : (xs ++ ys).all isW = true
          · rw [if_pos c3, if_pos c3, if_pos rfl]
          · rw [if_neg c3, if_neg c3, if_neg neq2]
        rw [ed]
        exact ret (by rw [LDb, seq_nx s0, seq_nx s1, seq_nx s2, s3])
      · have cf : (rowOk n a && rowOk n b) = false := by simpa using c
        rw [cf] at em
        have s1 : LD1 ⟨[.fz (.int n), .fz (.tup [a, b]), .no, .no, .no], w⟩ = .ok (.rt (.fz (.str "standing"))) ⟨[.fz (.int n), .fz (.tup [a, b]), .no, .no, .no], w⟩ := by
          unfold LD1
          generalize vLc [2] _ _ _ _ = V at lc ⊢
          simp [lc, neN_eq, em, sizeLine_eq]
        rw [hst (by rw [badOf_two, if_neg c])]
        exact ret (by rw [LDb, seq_nx s0, seq_rt s1])
    | [], lx, _, _ => simp at lx
    | [x], lx, _, _ => simp at lx
    | x :: y :: z :: r, lx, _, _ => simp at lx; omega
end K04
namespace K04
open PySem PySem.Spec L2 DL GM
open PyProof.Rows hiding St
abbrev U0 (P0 : Addr) : DS → Oc Fl := (sAsg (callD m__law_any_web [] (aCons (rd 1) (aCons (cn (.int 6)) aNil))) (gUn 2 (gsCons (gSet 3) (gsCons (gSet 4) gsNil))))
abbrev U1 (P0 : Addr) : DS → Oc Fl := (sAsg (vTup (aCons (callD m_Web___init__ [] (aCons (rd 3) (aCons (rd 4) aNil))) (aCons (callD m__law_standing [] (aCons (rd 1) (aCons (rd 3) (aCons (cn (.int 30)) aNil)))) aNil))) (gUn 2 (gsCons (gSet 5) (gsCons (gSet 6) gsNil))))
abbrev U2 (P0 : Addr) : DS → Oc Fl := (sFor (itRng1 (callD m__law_draw [] (aCons (rd 1) (aCons (cn (.int 3)) aNil)))) (gSet 7) (sSet 6 (callD m__law_bent [] (aCons (rd 1) (aCons (rd 6) aNil)))))
abbrev U3 (P0 : Addr) : DS → Oc Fl := (sIf (asB (bin (opEq false) (callD m__law_draw [] (aCons (rd 1) (aCons (cn (.int 6)) aNil))) (cn (.int 0)))) (sSet 6 (callD m__law_anything [] (aCons (rd 1) (aCons (cn (.int 2)) aNil)))) sNil)
abbrev U4 (P0 : Addr) : DS → Oc Fl := (sPar 8 9 (aCons (callD m__law_due [] (aCons (rd 3) (aCons (rd 6) aNil))) (aCons (call1 reprP (pn 6)) aNil)))
abbrev U5 (P0 : Addr) : DS → Oc Fl := (sIf (asB (bin (opEq true) (thD P0 "law.<locals>.<lambda>" kokR kexR (callD m_need_standing [] (aCons (rd 5) (aCons (rd 6) aNil)))) (vIf (asB (bin (opIsN false) (rd 8) (cn .non))) (vLst (aCons (cn .non) aNil)) (rd 8)))) (sRet (cn (.bl false))) sNil)
abbrev U6 (P0 : Addr) : DS → Oc Fl := (sIf (asB (bin (opIsN true) (rd 8) (cn .non))) (sSeq (sSet 10 (vLst (aCons (thD P0 "law.<locals>.<lambda>" kokR kexR (callD m_beat_on [] (aCons (rd 5) (aCons (rd 6) aNil)))) aNil)))
    (sSeq (sExpr (meth1 10 (appD 10) (thD P0 "law.<locals>.<lambda>" kokR kexR (callD m_beat_back [] (aCons (rd 5) (aCons (rd 6) aNil))))))
    (sSeq (sExpr (meth1 10 (appD 10) (thD P0 "law.<locals>.<lambda>" kokR kexR (callD m_run_of [] (aCons (rd 5) (aCons (rd 6) (aCons (cn .non) aNil)))))))
    (sSeq (sExpr (meth1 10 (appD 10) (thD P0 "law.<locals>.<lambda>" kokR kexR (callD m_steps_of [] (aCons (rd 5) (aCons (cn .non) (aCons (cn .non) (aCons (rd 6) aNil))))))))
    (sSeq (sExpr (meth1 10 (appD 10) (thD P0 "law.<locals>.<lambda>" kokR kexR (callD m_standing_behind [] (aCons (rd 5) (aCons (rd 6) (aCons (cn .non) aNil)))))))
    (sSeq (sExpr (meth1 10 (appD 10) (thD P0 "law.<locals>.<lambda>" kokR kexR (callD m_comes_back [] (aCons (rd 5) (aCons (rd 6) aNil))))))
    (sSeq (sExpr (meth1 10 (appD 10) (thD P0 "law.<locals>.<lambda>" kokR kexR (callD m_never_paper [] (aCons (rd 5) (aCons (rd 6) aNil))))))
    (sSeq (sExpr (meth1 10 (appD 10) (thD P0 "law.<locals>.<lambda>" kokR kexR (callD m_shows_never [] (aCons (rd 5) (aCons (rd 6) (aCons (cn .non) aNil)))))))
    (sIf (asB (bin (opEq true) (rd 10) (bin opMulT (vLst (aCons (rd 8) aNil)) (cn (.int 8))))) (sRet (cn (.bl false))) sNil))))))))) sNil)
abbrev U7 (P0 : Addr) : DS → Oc Fl := (sIf (asB (bin (opEq true) (call1 reprP (pn 6)) (rd 9))) (sRet (cn (.bl false))) sNil)
abbrev U (P0 : Addr) : DS → Oc Fl := (sSeq (U0 P0) (sSeq (U1 P0) (sSeq (U2 P0) (sSeq (U3 P0) (sSeq (U4 P0) (sSeq (U5 P0) (sSeq (U6 P0) (U7 P0))))))))
theorem law_b (P0 : Addr) : b_law P0 = (sSeq (sFor (itRng1 (cn (.int 10))) (gSet 2) (U P0)) (sRet (cn (.bl true)))) := rfl
abbrev lamQ : Str := "law.<locals>.<lambda>"
abbrev XS (b : Str) : Exn := ⟨"NoStanding", [("part", .str b)]⟩
theorem thd_ok {P : Addr} {q : Str} {kok : D → Option D} {kex : Exn → Option D} {fb : DS → Oc Sl} {s s1 : DS} {d d' : D} (h0 : (s.sl[(0 : Nat)]? : Option Sl) = some (.tb P q)) (h : fr fb s = .ok d s1) (hk : kok d = some d') : thD P q kok kex fb s = .ok (.fz d') s1 := by
  unfold thD
  rw [h0]
  dsimp only
  rw [if_pos ⟨rfl, rfl⟩, h]
  dsimp only
  rw [hk]
theorem thd_ex {P : Addr} {q : Str} {kok : D → Option D} {kex : Exn → Option D} {fb : DS → Oc Sl} {s s1 : DS} {x : Exn} {d' : D} (h0 : (s.sl[(0 : Nat)]? : Option Sl) = some (.tb P q)) (h : fr fb s = .ex x s1) (hk : kex x = some d') : thD P q kok kex fb s = .ok (.fz d') s1 := by
  unfold thD
  rw [h0]
  dsimp only
  rw [if_pos ⟨rfl, rfl⟩, h]
  dsimp only
  rw [hk]
theorem kex_S (b : Str) : kexR (XS b) = some (.str b) := by
  unfold kexR kexT
  rw [if_pos rfl]
  dsimp only
  rw [if_pos rfl]
section
variable {W d z1 z2 : D} {e : Exn} {w : Wd}
theorem ex_of {n N : Nat} {b : DS → Oc Fl} {ds : List D} {sl : List Sl} (hl : ds.length = n) (h : b ⟨ds.map Sl.fz ++ List.replicate (N - ds.length) .no, w⟩ = .ex e ⟨sl, w⟩) : runD n N b ds w = .ex e w := by
  have u : runD n N b ds w = if ds.length = n then (match b ⟨ds.map Sl.fz ++ List.replicate (N - ds.length) .no, w⟩ with | .ok .nx s => DL.Rs.ok (.fz .non) s.w | .ok (.rt r) s => .ok r s.w | .ok _ _ => .wr | .ex x s => .ex x s.w | .wr => .wr) else .wr := rfl
  rw [u, if_pos hl, h]
variable (h : m_need_standing [W, d] w = .ex e w)
include h
theorem beat_on_ex : m_beat_on [W, d] w = .ex e w := ex_of (sl := [.fz W, .fz d]) rfl (by simp [b_beat_on, h])
theorem beat_back_ex : m_beat_back [W, d] w = .ex e w := ex_of (sl := [.fz W, .fz d]) rfl (by simp [b_beat_back, h])
theorem run_of_ex : m_run_of [W, d, z1] w = .ex e w := ex_of (sl := [.fz W, .fz d, .fz z1, .no, .no]) rfl (by simp [b_run_of, h])
theorem steps_ex : m_steps_of [W, z1, z2, d] w = .ex e w := ex_of (sl := [.fz W, .fz z1, .fz z2, .fz d, .no, .no, .no, .no]) rfl (by simp [b_steps_of, h])
theorem behind_ex : m_standing_behind [W, d, z1] w = .ex e w := ex_of (sl := [.fz W, .fz d, .fz z1]) rfl (by simp [b_standing_behind, h])
theorem never_ex : m_never_paper [W, d] w = .ex e w := ex_of (sl := [.fz W, .fz d, .no, .no]) rfl (by simp [b_never_paper, h])
theorem shows_ex : m_shows_never [W, d, z1] w = .ex e w := ex_of (sl := [.fz W, .fz d, .fz z1, .no, .no, .no, .no, .no]) rfl (by simp [b_shows_never, h])
theorem comes_ex : m_comes_back [W, d] w = .ex e w := by
  have k := never_ex h
  exact ex_of (sl := [.fz W, .fz d, .no]) rfl (by simp [b_comes_back, k])
end
@[simp] theorem isN_non {neg : Bool} {s : DS} : opIsN neg .non .non s = .ok (.fz (.bl (if neg then false else true))) s := by cases neg <;> rfl
theorem isN_str {neg : Bool} {b : Str} {s : DS} (h : D.fit (.str b) = true) : opIsN neg (.str b) .non s = .ok (.fz (.bl neg)) s := by
  have u : opIsN neg (.str b) .non s = if (D.str b).isPy = true then .ok (.fz (.bl neg)) s else .wr := rfl
  rw [u, if_pos (Bool.and_eq_true_iff.mp h).1]
def Rdz (z : Sl) (d : D) : Prop := z = .fz d ∨ ∃ xs, z = .ow xs ∧ d = .lst xs
theorem rdz_of {r : Sl} {d : D} (h : ∀ s, frz r s = .ok d s) : Rdz r d := by
  cases r with
  | fz x => exact .inl (by have := h ⟨[], ⟨0, 0, []⟩⟩; cases this; rfl)
  | ow xs => exact .inr ⟨xs, rfl, by have := h ⟨[], ⟨0, 0, []⟩⟩; cases this; rfl⟩
  | _ => exact absurd (h ⟨[], ⟨0, 0, []⟩⟩) (fun q => nomatch q)
structure Thg (k : Nat) (d : D) : Prop where
  pl : PlD (31 + k) d
  dp : dep d ≤ 2 + 4 * k
  wg : wt d + 4000 ≤ 14405 * 2 ^ k
  sq : GM.sq d ≤ 2 + 2 * k
  wide : GM.wide d + 3 ≤ 9 * 2 ^ k
structure Lkd (d : D) : Prop where
  pl : Pl 33 10 60000 d
  sh : Sh 3 d
theorem Thg.lkd {k : Nat} {d : D} (hk : k ≤ 2) (h : Thg k d) : Lkd d := by
  have p : 2 ^ k ≤ 4 := Nat.pow_le_pow_right (n := 2) (by decide) hk
  have h1 := h.wg
  have h2 := h.wide
  have h3 := h.dp
  exact ⟨⟨h.pl.mono (by omega), by omega, by omega⟩, sh_of 3 h.pl (by omega)⟩
section
variable {P0 : Addr} {n : Int} {l : List T} {d D8 W t : D} {R : List D} {w : Wd} {z2 z3 z4 z5 z6 z7 z8 z9 z10 : Sl}
theorem U0_ok (hr : Rm 2000 w) : ∃ (n : Int) (l : List T) (w' : Wd), U0 P0 ⟨[.tb P0 lamQ, .fz .pen, z2, z3, z4, z5, z6, z7, z8, z9, z10], w⟩ = .ok .nx ⟨[.tb P0 lamQ, .fz .pen, z2, .fz (.int n), .fz (.lst (l.map tupI)), z5, z6, z7, z8, z9, z10], w'⟩ ∧ 1 ≤ n ∧ n ≤ 6 ∧ Good n l ∧ Adv 2000 w w' := by
  obtain ⟨n, l, w1, e1, n1, n2, g, a1⟩ := any_ok (w := w) (most := 6) (by omega) (by omega) hr
  refine ⟨n, l, w1, ?_, n1, n2, g, a1⟩
  generalize l.map tupI = A at *
  simp [U0, e1]
theorem U1_ok (n1 : 1 ≤ n) (n2 : n ≤ 6) (g : Good n l) (hr : Rm 1200 w) : ∃ d w', U1 P0 ⟨[.tb P0 lamQ, .fz .pen, z2, .fz (.int n), .fz (.lst (l.map tupI)), z5, z6, z7, z8, z9, z10], w⟩ = .ok .nx ⟨[.tb P0 lamQ, .fz .pen, z2, .fz (.int n), .fz (.lst (l.map tupI)), .fz (webD n l), .fz d, z7, z8, z9, z10], w'⟩ ∧ Thg 0 d ∧ Adv 1200 w w' := by
  have e1 := fun w : Wd => init_ok (w := w) n1 (by omega) g (by have := g.len144 (by omega); omega)
  obtain ⟨o, q, w1, e2, lo, lq, bd, a1⟩ := standing_ok (w := w) (size := n) (far := 30) (by omega) (by omega) (by omega) (by omega) hr
  refine ⟨stD o q, w1, ?_, ?_, a1⟩
  · generalize webD n l = W at *
    generalize l.map tupI = A at *
    generalize stD o q = d at *
    simp [U1, e1, e2, sizeLine_eq]
  · have row : ∀ xs : List Int, xs.length = n.toNat → (∀ x ∈ xs, -(10 ^ (max 2 (30 : Int).toNat)) < x ∧ x < 10 ^ (max 2 (30 : Int).toNat)) → Pl 31 1 5199 (.tup (xs.map .int)) ∧ GM.sq (.tup (xs.map .int)) ≤ 1 ∧ GM.wide (.tup (xs.map .int)) ≤ 6 := fun xs hl hb => by
      refine ⟨Pl.tupU (e := 31) (k := 0) (m := 431) (L := 12) (fun d m => ?_) (by rw [List.length_map]; omega), ?_, ?_⟩
      · obtain ⟨x, hx, rfl⟩ := List.mem_map.mp m
        have := hb x hx
        have e30 : (10 : Int) ^ (max 2 (30 : Int).toNat) = 1000000000000000000000000000000 := by decide
        rw [e30] at this
        exact Pl.int (Nat.lt_of_lt_of_le (show x.natAbs < 1000000000000000000000000000000 by omega) (by decide))
      · show sqL (xs.map .int) + 1 ≤ 1
        have : sqL (xs.map D.int) ≤ 0 := sqL_le.mpr fun y m => by
          obtain ⟨x, _, rfl⟩ := List.mem_map.mp m
          exact Nat.le_refl 0
        omega
      · show max (xs.map D.int).length (wideL (xs.map .int)) ≤ 6
        have : wideL (xs.map D.int) ≤ 0 := wideL_le.mpr fun y m => by
          obtain ⟨x, _, rfl⟩ := List.mem_map.mp m
          exact Nat.le_refl 0
        rw [List.length_map]
        omega
    obtain ⟨p1, s1, v1⟩ := row o lo fun x m => bd x (List.mem_append_left _ m)
    obtain ⟨p2, s2, v2⟩ := row q lq fun x m => bd x (List.mem_append_right _ m)
    have p : Pl 31 2 10405 (stD o q) := Pl.tupU (e := 31) (k := 1) (m := 5199) (L := 2) (fun d m => by
      simp only [List.mem_cons, List.not_mem_nil, or_false] at m
      rcases m with rfl | rfl
      · exact p1
      · exact p2) (by simp)
    refine ⟨p.pl, p.dp, by have := p.wg; omega, ?_, ?_⟩
    · show sqL [.tup (o.map .int), .tup (q.map .int)] + 1 ≤ 2
      have : sqL [D.tup (o.map .int), .tup (q.map .int)] ≤ 1 := sqL_le.mpr fun y m => by
        simp only [List.mem_cons, List.not_mem_nil, or_false] at m
        rcases m with rfl | rfl
        · exact s1
        · exact s2
      omega
    · show max 2 (wideL [.tup (o.map .int), .tup (q.map .int)]) + 3 ≤ 9
      have : wideL [D.tup (o.map .int), .tup (q.map .int)] ≤ 6 := wideL_le.mpr fun y m => by
        simp only [List.mem_cons, List.not_mem_nil, or_false] at m
        rcases m with rfl | rfl
        · exact v1
        · exact v2
      omega
abbrev BB : DS → Oc Fl := (sSet 6 (callD m__law_bent [] (aCons (rd 1) (aCons (rd 6) aNil))))
theorem U2b : U2 P0 = (sFor (itRng1 (callD m__law_draw [] (aCons (rd 1) (aCons (cn (.int 3)) aNil)))) (gSet 7) BB) := rfl
theorem BB_ok {k : Nat} (hk : k ≤ 1) (hz : Rdz z6 d) (h : Thg k d) (hr : Rm 100 w) : ∃ r d' w', BB ⟨[.tb P0 lamQ, .fz .pen, z2, .fz (.int n), .fz (.lst R), .fz W, z6, z7, z8, z9, z10], w⟩ = .ok .nx ⟨[.tb P0 lamQ, .fz .pen, z2, .fz (.int n), .fz (.lst R), .fz W, r, z7, z8, z9, z10], w'⟩ ∧ Rdz r d' ∧ Thg (k + 1) d' ∧ Adv 100 w w' := by
  have p : 2 ^ k ≤ 2 := Nat.pow_le_pow_right (n := 2) (by decide) hk
  have hw := h.wide
  have hs := h.sq
  obtain ⟨r, d', w', e, fr, p1, s1, v1, a⟩ := bentQ (e := 31 + k) (by omega) (by omega) 4 (x := d) h.pl (by omega) (by omega) w (hr.mono (by omega))
  have e : m__law_bent [.pen, d] w = .ok r w' := e
  refine ⟨r, d', w', ?_, rdz_of fr, ⟨p1.pl.mono (by omega), ?_, ?_, by omega, ?_⟩, a.mono (by omega)⟩
  · rcases hz with rfl | ⟨xs, rfl, rfl⟩
    · simp [BB, e]
    · simp [BB, e]
  · have := p1.dp; have := h.dp; omega
  · have := p1.wg; have := h.wg
    rw [Nat.pow_succ]; omega
  · rw [Nat.pow_succ]; omega
theorem U2_ok (h : Thg 0 d) (hr : Rm 300 w) : ∃ r d' y7 k w', U2 P0 ⟨[.tb P0 lamQ, .fz .pen, z2, .fz (.int n), .fz (.lst R), .fz W, .fz d, z7, z8, z9, z10], w⟩ = .ok .nx ⟨[.tb P0 lamQ, .fz .pen, z2, .fz (.int n), .fz (.lst R), .fz W, r, y7, z8, z9, z10], w'⟩ ∧ k ≤ 2 ∧ Rdz r d' ∧ Thg k d' ∧ Adv 300 w w' := by
  obtain ⟨q, w0, e0, q0, q1, a0⟩ := draw_ok (w := w) (many := 3) (by omega) (by omega) (hr.mono (by omega))
  obtain ⟨s', e, r, d', y7, w', hz, ht, a', hs⟩ := forD_inv (φ := gSet 7) (b := BB) (ds := rngD 0 q.toNat) (fun k s => ∃ r d' y7 w', Rdz r d' ∧ Thg k d' ∧ Adv (100 * k) w0 w' ∧ s = ⟨[.tb P0 lamQ, .fz .pen, z2, .fz (.int n), .fz (.lst R), .fz W, r, y7, z8, z9, z10], w'⟩) (fun k x s hd ⟨r, d', y7, w', hz, ht, a', hs⟩ => by
      obtain ⟨hk, rfl⟩ := rngD_get hd
      subst hs
      obtain ⟨r2, d2, w2, e2, hz2, ht2, a2⟩ := BB_ok (P0 := P0) (n := n) (R := R) (W := W) (w := w') (z2 := z2) (z6 := r) (z7 := .fz (.int (0 + (k : Nat)))) (z8 := z8) (z9 := z9) (z10 := z10) (k := k) (by omega) hz ht (((hr.adv a0).adv a').mono (by omega))
      exact ⟨_, _, by simp, e2, r2, d2, _, w2, hz2, ht2, (a'.trans a2).mono (by omega), rfl⟩) (s0 := ⟨[.tb P0 lamQ, .fz .pen, z2, .fz (.int n), .fz (.lst R), .fz W, .fz d, z7, z8, z9, z10], w0⟩) ⟨.fz d, d, _, w0, .inl rfl, h, (Adv.refl w0).mono (by omega), rfl⟩
  rw [rngD_len] at ht a'
  subst hs
  refine ⟨r, d', y7, q.toNat, w', ?_, by omega, hz, ht, (a0.trans a').mono (by omega)⟩
  have rq : rOk q = true := rOk_of (by omega) (by omega)
  rw [U2b, sFor_eq]
  generalize BB = B at e ⊢
  simp [e0, rq]
  exact e
theorem U3_ok {k : Nat} (hk : k ≤ 2) (hz : Rdz z6 d) (h : Thg k d) (hr : Rm 30 w) : ∃ r d' w', U3 P0 ⟨[.tb P0 lamQ, .fz .pen, z2, .fz (.int n), .fz (.lst R), .fz W, z6, z7, z8, z9, z10], w⟩ = .ok .nx ⟨[.tb P0 lamQ, .fz .pen, z2, .fz (.int n), .fz (.lst R), .fz W, r, z7, z8, z9, z10], w'⟩ ∧ Rdz r d' ∧ Lkd d' ∧ Adv 30 w w' := by
  obtain ⟨q, w0, e0, q0, q1, a0⟩ := draw_ok (w := w) (many := 6) (by omega) (by omega) (hr.mono (by omega))
  by_cases c : q = 0
  · subst c
    obtain ⟨d', w', e, p, a⟩ := any2Q (w := w0) 1 ((hr.adv a0).mono (by omega))
    have e : m__law_anything [.pen, .int 2] w0 = .ok (.fz d') w' := e
    exact ⟨.fz d', d', w', by simp [U3, e0, e, eqv_int, fit_int], .inl rfl, ⟨p.pl.mono (by omega) (by omega) (by omega), sh_of 3 p.pl.pl (by have := p.wide; omega)⟩, (a0.trans a).mono (by omega)⟩
  · exact ⟨z6, d, w0, by simp [U3, e0, eqv_int, fit_int, c], hz, h.lkd hk, a0.mono (by omega)⟩
theorem U4_ok (hz : Rdz z6 d) (h : Lkd d) : U4 P0 ⟨[.tb P0 lamQ, .fz .pen, z2, .fz (.int n), .fz (.lst R), .fz W, z6, z7, z8, z9, z10], w⟩ = .ok .nx ⟨[.tb P0 lamQ, .fz .pen, z2, .fz (.int n), .fz (.lst R), .fz W, .fz d, z7, .fz (dueD n d), .fz (tellP d), z10], w⟩ := by
  have e := due_ok (n := n) (w := w) h.sh
  have rp := fun s => reprP_ok h.pl (by omega) (by omega) (by omega) s
  generalize dueD n d = D8 at *
  generalize tellP d = t at *
  rcases hz with rfl | ⟨xs, rfl, rfl⟩
  · simp [U4, e, rp]
  · simp [U4, e, rp]
theorem fit_l1 : D.fit (.lst [.non]) = true := fit_by (n := 1) (py_lst fun x m => by rw [List.mem_singleton.mp m]; simp [D.isPy, D.toPy, PyData.depth]) (by decide)
theorem badC (n : Int) (d : D) : badOf n d = "none" ∨ badOf n d = "standing" ∨ badOf n d = "numbers" := by
  unfold badOf
  split
  · split
    · split
      · exact .inl rfl
      · exact .inr (.inr rfl)
    · exact .inr (.inl rfl)
  · exact .inr (.inl rfl)
theorem fit_bad (n : Int) (d : D) : D.fit (.str (badOf n d)) = true := by
  rcases badC n d with h | h | h <;> rw [h]
  · exact fitStr "none"
  · exact fitStr "standing"
  · exact fitStr "numbers"
theorem U5_ok (hW : ∀ s : DS, lenM "Web" m_Web___len__ W s = .ok (.fz (.int n)) s) (h : Lkd d) : U5 P0 ⟨[.tb P0 lamQ, .fz .pen, z2, .fz (.int n), .fz (.lst R), .fz W, .fz d, z7, .fz (dueD n d), .fz t, z10], w⟩ = .ok .nx ⟨[.tb P0 lamQ, .fz .pen, z2, .fz (.int n), .fz (.lst R), .fz W, .fz d, z7, .fz (dueD n d), .fz t, z10], w⟩ := by
  have e := need_ok (w := w) hW h.sh
  have e : m_need_standing [W, d] w = _ := e
  unfold dueD
  have fb := fit_bad n d
  by_cases c : badOf n d = "none"
  · rw [if_pos c] at e ⊢
    have th := thd_ok (P := P0) (q := lamQ) (kok := kokR) (kex := kexR) (fb := callD m_need_standing [] (aCons (rd 5) (aCons (rd 6) aNil))) (s := ⟨[.tb P0 lamQ, .fz .pen, z2, .fz (.int n), .fz (.lst R), .fz W, .fz d, z7, .fz .non, .fz t, z10], w⟩) (s1 := ⟨[.tb P0 lamQ, .fz .pen, z2, .fz (.int n), .fz (.lst R), .fz W, .fz d, z7, .fz .non, .fz t, z10], w⟩) (d := .non) (d' := .lst [.non]) rfl (by simp [e]) rfl
    unfold U5
    generalize thD P0 "law.<locals>.<lambda>" kokR kexR _ = V at *
    simp [th, fit_l1, eqv_refl, sizeLine_eq]
  · rw [if_neg c] at e ⊢
    generalize badOf n d = b at *
    have th := thd_ex (P := P0) (q := lamQ) (kok := kokR) (kex := kexR) (fb := callD m_need_standing [] (aCons (rd 5) (aCons (rd 6) aNil))) (s := ⟨[.tb P0 lamQ, .fz .pen, z2, .fz (.int n), .fz (.lst R), .fz W, .fz d, z7, .fz (.str b), .fz t, z10], w⟩) (s1 := ⟨[.tb P0 lamQ, .fz .pen, z2, .fz (.int n), .fz (.lst R), .fz W, .fz d, z7, .fz (.str b), .fz t, z10], w⟩) (x := XS b) (d' := .str b) rfl (by simp [e]) (kex_S b)
    unfold U5
    generalize thD P0 "law.<locals>.<lambda>" kokR kexR _ = V at *
    have isn := fun neg s => isN_str (neg := neg) (s := s) fb
    simp [th, fb, eqv_refl, sizeLine_eq, isn]
theorem fit_8 {b : Str} (fb : D.fit (.str b) = true) (k : Nat) : D.fit (.lst (List.replicate k (.str b))) = true := by
  have z := Bool.and_eq_true_iff.mp fb
  have z2 := of_decide_eq_true z.2
  exact fit_by (n := 1) (py_lst fun x m => by
    rw [List.eq_of_mem_replicate m]
    exact ⟨z.1, by simp [D.toPy, PyData.depth]⟩) (by decide)
theorem U6_ok (hW : ∀ s : DS, lenM "Web" m_Web___len__ W s = .ok (.fz (.int n)) s) (h : Lkd d) : ∃ y10, U6 P0 ⟨[.tb P0 lamQ, .fz .pen, z2, .fz (.int n), .fz (.lst R), .fz W, .fz d, z7, .fz (dueD n d), .fz t, z10], w⟩ = .ok .nx ⟨[.tb P0 lamQ, .fz .pen, z2, .fz (.int n), .fz (.lst R), .fz W, .fz d, z7, .fz (dueD n d), .fz t, y10], w⟩ := by
  have e := need_ok (w := w) hW h.sh
  have e : m_need_standing [W, d] w = _ := e
  unfold dueD
  have fb := fit_bad n d
  by_cases c : badOf n d = "none"
  · rw [if_pos c]
    exact ⟨z10, by simp [U6]⟩
  · rw [if_neg c] at e ⊢
    generalize badOf n d = b at *
    have k1 := beat_on_ex e
    have k2 := beat_back_ex e
    have k3 := run_of_ex (z1 := .non) e
    have k4 := steps_ex (z1 := .non) (z2 := .non) e
    have k5 := behind_ex (z1 := .non) e
    have k6 := comes_ex e
    have k7 := never_ex e
    have k8 := shows_ex (z1 := .non) e
    have key : ∀ (fb : DS → Oc Sl) (z : Sl), fr fb ⟨[.tb P0 lamQ, .fz .pen, z2, .fz (.int n), .fz (.lst R), .fz W, .fz d, z7, .fz (.str b), .fz t, z], w⟩ = .ex (XS b) ⟨[.tb P0 lamQ, .fz .pen, z2, .fz (.int n), .fz (.lst R), .fz W, .fz d, z7, .fz (.str b), .fz t, z], w⟩ → thD P0 "law.<locals>.<lambda>" kokR kexR fb ⟨[.tb P0 lamQ, .fz .pen, z2, .fz (.int n), .fz (.lst R), .fz W, .fz d, z7, .fz (.str b), .fz t, z], w⟩ = .ok (.fz (.str b)) ⟨[.tb P0 lamQ, .fz .pen, z2, .fz (.int n), .fz (.lst R), .fz W, .fz d, z7, .fz (.str b), .fz t, z], w⟩ := fun fb z hf => thd_ex (s := ⟨[.tb P0 lamQ, .fz .pen, z2, .fz (.int n), .fz (.lst R), .fz W, .fz d, z7, .fz (.str b), .fz t, z], w⟩) rfl hf (kex_S b)
    have t1 := fun z => key (callD m_beat_on [] (aCons (rd 5) (aCons (rd 6) aNil))) z (by simp [k1])
    have t2 := fun z => key (callD m_beat_back [] (aCons (rd 5) (aCons (rd 6) aNil))) z (by simp [k2])
    have t3 := fun z => key (callD m_run_of [] (aCons (rd 5) (aCons (rd 6) (aCons (cn .non) aNil)))) z (by simp [k3])
    have t4 := fun z => key (callD m_steps_of [] (aCons (rd 5) (aCons (cn .non) (aCons (cn .non) (aCons (rd 6) aNil))))) z (by simp [k4])
    have t5 := fun z => key (callD m_standing_behind [] (aCons (rd 5) (aCons (rd 6) (aCons (cn .non) aNil)))) z (by simp [k5])
    have t6 := fun z => key (callD m_comes_back [] (aCons (rd 5) (aCons (rd 6) aNil))) z (by simp [k6])
    have t7 := fun z => key (callD m_never_paper [] (aCons (rd 5) (aCons (rd 6) aNil))) z (by simp [k7])
    have t8 := fun z => key (callD m_shows_never [] (aCons (rd 5) (aCons (rd 6) (aCons (cn .non) aNil)))) z (by simp [k8])
    have rep : (List.replicate (8 : Int).toNat [D.str b]).flatten = List.replicate 8 (.str b) := rfl
    have f8 : D.fit (.lst [.str b, .str b, .str b, .str b, .str b, .str b, .str b, .str b]) = true := fit_8 fb 8
    have e8 : [D.str b, .str b, .str b, .str b, .str b, .str b, .str b, .str b] = List.replicate 8 (.str b) := rfl
    refine ⟨.fz (.lst (List.replicate 8 (.str b))), ?_⟩
    unfold U6
    generalize callD m_beat_on [] _ = B1 at *
    generalize callD m_beat_back [] _ = B2 at *
    generalize callD m_run_of [] _ = B3 at *
    generalize callD m_steps_of [] _ = B4 at *
    generalize callD m_standing_behind [] _ = B5 at *
    generalize callD m_comes_back [] _ = B6 at *
    generalize callD m_never_paper [] _ = B7 at *
    generalize callD m_shows_never [] _ = B8 at *
    generalize thD P0 "law.<locals>.<lambda>" kokR kexR B1 = V1 at *
    generalize thD P0 "law.<locals>.<lambda>" kokR kexR B2 = V2 at *
    generalize thD P0 "law.<locals>.<lambda>" kokR kexR B3 = V3 at *
    generalize thD P0 "law.<locals>.<lambda>" kokR kexR B4 = V4 at *
    generalize thD P0 "law.<locals>.<lambda>" kokR kexR B5 = V5 at *
    generalize thD P0 "law.<locals>.<lambda>" kokR kexR B6 = V6 at *
    generalize thD P0 "law.<locals>.<lambda>" kokR kexR B7 = V7 at *
    generalize thD P0 "law.<locals>.<lambda>" kokR kexR B8 = V8 at *
    have isn := fun neg s => isN_str (neg := neg) (s := s) fb
    simp [t1, t2, t3, t4, t5, t6, t7, t8, sizeLine_eq, rep, f8, eqv_refl, isn]
theorem U7_ok (h : Lkd d) : U7 P0 ⟨[.tb P0 lamQ, .fz .pen, z2, .fz (.int n), .fz (.lst R), .fz W, .fz d, z7, .fz D8, .fz (tellP d), z10], w⟩ = .ok .nx ⟨[.tb P0 lamQ, .fz .pen, z2, .fz (.int n), .fz (.lst R), .fz W, .fz d, z7, .fz D8, .fz (tellP d), z10], w⟩ := by
  have rp := fun s => reprP_ok h.pl (by omega) (by omega) (by omega) s
  have f1 := tellP_fit h.pl (by omega)
  generalize tellP d = t at *
  simp [U7, rp, f1, eqv_refl]
theorem turn_ok (hr : Rm 5000 w) : ∃ y3 y4 y5 y6 y7 y8 y9 y10 w', U P0 ⟨[.tb P0 lamQ, .fz .pen, z2, z3, z4, z5, z6, z7, z8, z9, z10], w⟩ = .ok .nx ⟨[.tb P0 lamQ, .fz .pen, z2, y3, y4, y5, y6, y7, y8, y9, y10], w'⟩ ∧ Adv 5000 w w' := by
  obtain ⟨n, l, w1, s0, n1, n2, g, a1⟩ := U0_ok (P0 := P0) (w := w) (z2 := z2) (z3 := z3) (z4 := z4) (z5 := z5) (z6 := z6) (z7 := z7) (z8 := z8) (z9 := z9) (z10 := z10) (hr.mono (by omega))
  obtain ⟨d, w2, s1, t0, a2⟩ := U1_ok (P0 := P0) (w := w1) (z2 := z2) (z5 := z5) (z6 := z6) (z7 := z7) (z8 := z8) (z9 := z9) (z10 := z10) n1 n2 g ((hr.adv a1).mono (by omega))
  have hW := fun s => webLen g (by omega) (by omega) s
  generalize webD n l = W at *
  generalize l.map tupI = R at *
  obtain ⟨r, d2, y7, k, w3, s2, hk, hz, t2, a3⟩ := U2_ok (P0 := P0) (n := n) (R := R) (W := W) (w := w2) (z2 := z2) (z7 := z7) (z8 := z8) (z9 := z9) (z10 := z10) t0 (((hr.adv a1).adv a2).mono (by omega))
  obtain ⟨r3, d3, w4, s3, hz3, t3, a4⟩ := U3_ok (P0 := P0) (n := n) (R := R) (W := W) (w := w3) (z2 := z2) (z7 := y7) (z8 := z8) (z9 := z9) (z10 := z10) hk hz t2 ((((hr.adv a1).adv a2).adv a3).mono (by omega))
  have s4 := U4_ok (P0 := P0) (n := n) (R := R) (W := W) (w := w4) (z2 := z2) (z7 := y7) (z8 := z8) (z9 := z9) (z10 := z10) hz3 t3
  have s5 := U5_ok (P0 := P0) (n := n) (R := R) (W := W) (t := tellP d3) (w := w4) (z2 := z2) (z7 := y7) (z10 := z10) hW t3
  obtain ⟨y10, s6⟩ := U6_ok (P0 := P0) (n := n) (R := R) (W := W) (t := tellP d3) (w := w4) (z2 := z2) (z7 := y7) (z10 := z10) hW t3
  have s7 := U7_ok (P0 := P0) (n := n) (R := R) (W := W) (D8 := dueD n d3) (w := w4) (z2 := z2) (z7 := y7) (z10 := y10) t3
  exact ⟨_, _, _, _, _, _, _, _, w4, (seq_nx s0).trans ((seq_nx s1).trans ((seq_nx s2).trans ((seq_nx s3).trans ((seq_nx s4).trans ((seq_nx s5).trans ((seq_nx s6).trans s7)))))), (((a1.trans a2).trans a3).trans a4).mono (by omega)⟩
end
theorem law_math (P0 : Addr) : ∀ ns : List Int, ns.length ≤ 63 → ∃ s', b_law P0 (s0T P0 "law.<locals>.<lambda>" 9 ns) = .ok (.rt (.fz (.bl true))) s' := fun ns hns => by
  obtain ⟨s', e, y2, y3, y4, y5, y6, y7, y8, y9, y10, w3, a3, hs⟩ := forD_inv (φ := gSet 2) (b := U P0) (ds := rngD 0 10) (fun k s => ∃ y2 y3 y4 y5 y6 y7 y8 y9 y10 w3, Adv (5000 * k) ⟨0, 0, ns⟩ w3 ∧ s = ⟨[.tb P0 lamQ, .fz .pen, y2, y3, y4, y5, y6, y7, y8, y9, y10], w3⟩) (fun k d s hd ⟨y2, y3, y4, y5, y6, y7, y8, y9, y10, w3, a3, hs⟩ => by
      obtain ⟨hk, rfl⟩ := rngD_get hd
      subst hs
      have hr0 : Rm 100000 (⟨0, 0, ns⟩ : Wd) := ⟨Int.le_refl 0, by show (0 : Int) + 100000 ≤ 1000000000; decide⟩
      obtain ⟨x3, x4, x5, x6, x7, x8, x9, x10, w4, e, a4⟩ := turn_ok (P0 := P0) (z2 := .fz (.int (0 + (k : Nat)))) (z3 := y3) (z4 := y4) (z5 := y5) (z6 := y6) (z7 := y7) (z8 := y8) (z9 := y9) (z10 := y10) (w := w3) ((hr0.adv a3).mono (by omega))
      exact ⟨_, _, by simp, e, _, _, _, _, _, _, _, _, _, w4, (a3.trans a4).mono (by omega), rfl⟩) (s0 := ⟨[.tb P0 lamQ, .fz .pen, .no, .no, .no, .no, .no, .no, .no, .no, .no], ⟨0, 0, ns⟩⟩) ⟨_, _, _, _, _, _, _, _, _, _, ⟨by omega, by simp⟩, rfl⟩
  have r8 : rOk 10 = true := rOk_of (by omega) (by omega)
  have sf : sFor (itRng1 (cn (.int 10))) (gSet 2) (U P0) ⟨[.tb P0 lamQ, .fz .pen, .no, .no, .no, .no, .no, .no, .no, .no, .no], ⟨0, 0, ns⟩⟩ = .ok .nx s' := by
    rw [sFor_eq]
    simp [r8]
    exact e
  refine ⟨s', ?_⟩
  rw [law_b]
  show sSeq _ _ ⟨[.tb P0 lamQ, .fz .pen, .no, .no, .no, .no, .no, .no, .no, .no, .no], ⟨0, 0, ns⟩⟩ = _
  rw [seq_nx sf]
  simp
end K04
set_option maxHeartbeats 0
open PySem PySem.W PySem.Calls PyProof.Rows DL
theorem PySem.Challenge.cw_giveback_k04_standings_or_not_holds : PySem.Challenge.rw_giveback_k04_standings_or_not.Holds := by
  w_on; o_law
  refine HandSHeadRun.head_any (r := OpenLaw.row PySem.Challenge.rw_giveback_k04_standings_or_not) (q := view (OpenLaw.row PySem.Challenge.rw_giveback_k04_standings_or_not).prog [116]) (H := K04E.hk) (ob := K04E.ob) (M := 12000) (loose := K04E.names) (d := HandSHeadRun.topDef (OpenLaw.row PySem.Challenge.rw_giveback_k04_standings_or_not).prog 116) (kwd := []) K04E.ob_eq
    (by kernel_rfl) (fun s => by kernel_rfl) K04E.run (by kernel_rfl) (by kernel_rfl) (by kernel_rfl) (by rfl) (by first | assumption | decide +kernel) (by decide +kernel) ⟨rfl, rfl, rfl, rfl, rfl, by decide +kernel⟩ ?hw ?hc
  case hw => w_witness2
  case hc =>
    refine walkT (l := PySem.Challenge.rw_giveback_k04_standings_or_not) (n := 63) (k := 11) (x := "script") rfl (by decide) (by kernel_rfl) ⟨rfl, by decide, by decide⟩ ?F
    intro w mg fa h K c P0 S G hmg0
    have T := K04.txt_of S G
    have hmg : mg ("law" : PySem.Str) = some (.ref fa) := by
      have e : (HandSHeadRun.topDef (OpenLaw.row PySem.Challenge.rw_giveback_k04_standings_or_not).prog 116).name = ("law" : PySem.Str) := by kernel_rfl
      rw [← e]
      exact hmg0
    have e := hmg.symm.trans T.g_law
    cases e
    obtain ⟨fd, F⟩ := T.D_law
    have b := L2.FunD.bindsA (ps := ["script"]) F fun _ _ _ _ _ _ us hl => match us, hl with | [_], _ => rfl
    exact ⟨fd, fun s v => b s [v] rfl, fun H a ns hl hT hS => ⟨a, ns, rfl, hS, hl, hT, fun _ => rfl⟩, fun base _ _ B => K04.ok_law F (law_code F S.tab) T B (K04.law_math P0)⟩
