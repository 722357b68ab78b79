import PyProof.Rows.All
import Wide.All
import OpenK.AllK
import Wide.FinOn
import HandS.ForMost
import HandS.ForExc
import HandS.TupAny
import HandS.IsInst
import HandS.Wide
import HandS.WideBits
import HandS.TupMul
import HandS.Style
import HandS.CallSlots
import HandS.Codes
import HandS.EndBits
import HandS.ExcIs
import HandS.ExcField
import HandS.TryMany
import HandS.Defaults
import HandS.Zip
import HandS.Iter
import HandS.Deep
import PyProof.DictUpdate
import PyProof.DictDisplay
import HandS.Small
import HandS.WordsDict
import HandS.SortInts
import HandS.Text
import HandS.More
import HandS.ExcInit
import KE.KExcIs
import HandS.Conv
import HandS.ClsMeth
import PySem.Challenge.RW_proofchoosers_k43_side_plans_played
set_option Elab.async false
set_option linter.all false
set_option maxRecDepth 100000
namespace DL
open PySem L2

/-- plain data: tuples are values, mutable things are addresses -/
inductive D where
  | non | bl (b : Bool) | int (i : Int) | str (x : Str) | tup (xs : List D) | ref (a : Addr) | ty (n : String)

section
variable (K : PySem.W.Frag) (H : Hp)
mutual
inductive Rp : V → D → Prop
  | non : Rp .non .non
  | bl (b) : Rp (.bl b) (.bl b)
  | int (i) : Rp (.int i) (.int i)
  | str (x) : Rp (.str x) (.str x)
  | ref (a) : Rp (.ref a) (.ref a)
  | ty (n) : Rp (.ty n) (.ty n)
  | tup {a : Addr} {xs : List V} {ds : List D} : SqT K H a xs → RpL xs ds → Rp (.ref a) (.tup ds)
inductive RpL : List V → List D → Prop
  | nil : RpL [] []
  | cons {x : V} {d : D} {xs : List V} {ds : List D} : Rp x d → RpL xs ds → RpL (x :: xs) (d :: ds)
end
/-- tuples stay, and what is read only -/
structure TExt (H H' : Hp) : Prop where
  tup : ∀ a xs, SqT K H a xs → SqT K H' a xs
  frz : ∀ a o u, H a = some (.frz o u) → H' a = some (.frz o u)
end
section
variable {K : PySem.W.Frag} {H H' H1 H2 : Hp}
theorem TExt.refl : TExt K H H := ⟨fun _ _ h => h, fun _ _ _ h => h⟩
theorem TExt.trans (a : TExt K H H1) (b : TExt K H1 H2) : TExt K H H2 := ⟨fun p xs h => b.tup p xs (a.tup p xs h), fun p o u h => b.frz p o u (a.frz p o u h)⟩
mutual
theorem Rp.mono (e : TExt K H H') : ∀ {v : V} {d : D}, Rp K H v d → Rp K H' v d
  | _, _, .non => .non
  | _, _, .bl b => .bl b
  | _, _, .int b => .int b
  | _, _, .str b => .str b
  | _, _, .ref b => .ref b
  | _, _, .ty b => .ty b
  | _, _, .tup h l => .tup (e.tup _ _ h) (RpL.mono e l)
theorem RpL.mono (e : TExt K H H') : ∀ {v : List V} {d : List D}, RpL K H v d → RpL K H' v d
  | _, _, .nil => .nil
  | _, _, .cons h l => .cons (Rp.mono e h) (RpL.mono e l)
end
/-- writing at a place that is no tuple's -/
def NoTup (o : Option HO) : Prop := match o with
  | some (.tup _) => False
  | some (.frz _ _) => False
  | _ => True
theorem TExt.upd {p : Addr} {o : HO} (h : NoTup (H p)) : TExt K H (upd H p o) := by
  refine ⟨fun a xs hs => ?_, fun a o' u hs => ?_⟩
  rotate_left
  · rw [upd_ne]
    · exact hs
    · rintro rfl; rw [hs] at h; exact h
  rcases hs with (hs | ⟨q, hs⟩) | hs
  · refine .inl (.inl ?_)
    rw [upd_ne]
    · exact hs
    · rintro rfl; rw [hs] at h; exact h
  · refine .inl (.inr ⟨q, ?_⟩)
    rw [upd_ne]
    · exact hs
    · rintro rfl; rw [hs] at h; exact h
  · exact .inr hs
theorem TExt.new {p : Addr} {o : HO} (h : H p = none) : TExt K H (L2.upd H p o) := TExt.upd (by rw [h]; trivial)

theorem RpL.length : ∀ {xs : List V} {ds : List D}, RpL K H xs ds → xs.length = ds.length
  | _, _, .nil => rfl
  | _, _, .cons _ l => by simp [RpL.length l]
theorem RpL.append : ∀ {xs ys : List V} {ds es : List D}, RpL K H xs ds → RpL K H ys es → RpL K H (xs ++ ys) (ds ++ es)
  | _, _, _, _, .nil, m => m
  | _, _, _, _, .cons r l, m => .cons r (RpL.append l m)
theorem RpL.take : ∀ {xs : List V} {ds : List D} (n : Nat), RpL K H xs ds → RpL K H (xs.take n) (ds.take n)
  | _, _, 0, _ => by simpa using RpL.nil
  | _, _, _ + 1, .nil => .nil
  | _, _, n + 1, .cons r l => .cons r (RpL.take n l)
theorem RpL.drop : ∀ {xs : List V} {ds : List D} (n : Nat), RpL K H xs ds → RpL K H (xs.drop n) (ds.drop n)
  | _, _, 0, h => by simpa using h
  | _, _, _ + 1, .nil => .nil
  | _, _, n + 1, .cons _ l => RpL.drop n l
theorem RpL.get : ∀ {xs : List V} {ds : List D} {i : Nat} {d : D}, RpL K H xs ds → ds[i]? = some d → ∃ x, xs[i]? = some x ∧ Rp K H x d
  | _, _, _, _, .nil, e => by simp at e
  | _, _, 0, _, .cons r _, e => by simp at e; subst e; exact ⟨_, rfl, r⟩
  | _, _, i + 1, d, .cons _ l, e => by
    obtain ⟨x, h1, h2⟩ := RpL.get (i := i) (d := d) l (by simpa using e)
    exact ⟨x, by simpa using h1, h2⟩
theorem RpL.set {x : V} {d : D} (r : Rp K H x d) : ∀ {xs : List V} {ds : List D} (i : Nat), RpL K H xs ds → RpL K H (xs.set i x) (ds.set i d)
  | _, _, _, .nil => .nil
  | _, _, 0, .cons _ l => .cons r l
  | _, _, i + 1, .cons q l => .cons q (RpL.set r i l)
theorem RpL.reverse {xs : List V} {ds : List D} (h : RpL K H xs ds) : RpL K H xs.reverse ds.reverse := by
  induction xs generalizing ds with
  | nil => cases h; exact .nil
  | cons x xs ih =>
    cases h with
    | cons r l => rw [List.reverse_cons, List.reverse_cons]; exact (ih l).append (.cons r .nil)
theorem RpL.dropLast : ∀ {xs : List V} {ds : List D}, RpL K H xs ds → RpL K H xs.dropLast ds.dropLast
  | _, _, .nil => .nil
  | _, _, .cons _ .nil => .nil
  | _, _, .cons r (.cons q l) => .cons r (RpL.dropLast (.cons q l))
theorem RpL.rep {xs : List V} {ds : List D} (h : RpL K H xs ds) : ∀ k : Nat, RpL K H (List.replicate k xs).flatten (List.replicate k ds).flatten
  | 0 => .nil
  | k + 1 => by rw [List.replicate_succ, List.replicate_succ, List.flatten_cons, List.flatten_cons]; exact h.append (RpL.rep h k)
theorem RpL.isEmpty {xs : List V} {ds : List D} (h : RpL K H xs ds) : xs.isEmpty = ds.isEmpty := by
  cases h <;> rfl
theorem RpL.nil_of {xs : List V} (h : RpL K H xs []) : xs = [] := by cases h; rfl
theorem RpL.ints : ∀ {xs : List V} {ns : List Int}, RpL K H xs (ns.map D.int) → xs = ns.map V.int
  | _, [], .nil => rfl
  | _, n :: ns, .cons (.int _) l => by rw [RpL.ints l]; rfl
theorem RpL.strs : ∀ {xs : List V} {ns : List Str}, RpL K H xs (ns.map D.str) → xs = ns.map V.str
  | _, [], .nil => rfl
  | _, n :: ns, .cons (.str _) l => by rw [RpL.strs l]; rfl
theorem RpL.bls : ∀ {xs : List V} {ns : List Bool}, RpL K H xs (ns.map D.bl) → xs = ns.map V.bl
  | _, [], .nil => rfl
  | _, n :: ns, .cons (.bl _) l => by rw [RpL.bls l]; rfl
theorem RpL.ofInts : ∀ {ns : List Int}, RpL K H (ns.map V.int) (ns.map D.int)
  | [] => .nil
  | n :: ns => .cons (.int n) RpL.ofInts
theorem RpL.ofStrs : ∀ {ns : List Str}, RpL K H (ns.map V.str) (ns.map D.str)
  | [] => .nil
  | n :: ns => .cons (.str n) RpL.ofStrs
end

/-! ### the mutable part -/
inductive MO where
  /-- a list -/
  | lst (xs : List D)
  /-- a list that is read only -/
  | rol (xs : List D)
  /-- a dict with keys that are ints or texts -/
  | dk (kvs : List (Key × D))
  /-- an instance of the class at C -/
  | ins (C : Addr) (fs : List (Str × D))
  /-- the attributes of an exception -/
  | xd (fs : List (Str × D))
  /-- a dict that is read only, while it is walked -/
  | rdk (kvs : List (Key × D))
abbrev Mp := Addr → Option MO
def put (M : Mp) (a : Addr) (o : MO) : Mp := fun b => if b = a then some o else M b
theorem put_same {M : Mp} {a : Addr} {o : MO} : put M a o a = some o := by unfold put; rw [if_pos rfl]
theorem put_ne {M : Mp} {a b : Addr} {o : MO} (h : b ≠ a) : put M a o b = M b := by unfold put; rw [if_neg h]
theorem put_put {M : Mp} {a : Addr} {o u : MO} : put (put M a o) a u = put M a u := by
  funext b; unfold put; split <;> rfl
def KD (K : PySem.W.Frag) (H : Hp) : List (Key × V) → List (Key × D) → Prop
  | [], [] => True
  | p :: ps, q :: qs => p.1 = q.1 ∧ Rp K H p.2 q.2 ∧ KD K H ps qs
  | _, _ => False
def FD (K : PySem.W.Frag) (H : Hp) : List (Str × V) → List (Str × D) → Prop
  | [], [] => True
  | p :: ps, q :: qs => p.1 = q.1 ∧ Rp K H p.2 q.2 ∧ FD K H ps qs
  | _, _ => False
theorem KD.mono {K : PySem.W.Frag} {H H' : Hp} (e : TExt K H H') : ∀ {ps : List (Key × V)} {qs : List (Key × D)}, KD K H ps qs → KD K H' ps qs
  | [], [], h => h
  | p :: ps, q :: qs, h => ⟨h.1, h.2.1.mono e, KD.mono e h.2.2⟩
  | [], _ :: _, h => h.elim
  | _ :: _, [], h => h.elim
theorem FD.mono {K : PySem.W.Frag} {H H' : Hp} (e : TExt K H H') : ∀ {ps : List (Str × V)} {qs : List (Str × D)}, FD K H ps qs → FD K H' ps qs
  | [], [], h => h
  | p :: ps, q :: qs, h => ⟨h.1, h.2.1.mono e, FD.mono e h.2.2⟩
  | [], _ :: _, h => h.elim
  | _ :: _, [], h => h.elim
def MR (K : PySem.W.Frag) (H : Hp) (a : Addr) : MO → Prop
  | .lst ds => ∃ xs, H a = some (.lst xs) ∧ RpL K H xs ds
  | .rol ds => ∃ o xs, H a = some (.frz o (.lst xs)) ∧ RpL K H xs ds
  | .dk kvs => ∃ vs, H a = some (.dK vs) ∧ KD K H vs kvs
  | .ins C fs => ∃ dx vs, H a = some (.ins C dx vs) ∧ FD K H vs fs
  | .xd fs => ∃ vs, H a = some (.xd vs) ∧ FD K H vs fs
  | .rdk kvs => ∃ o vs, H a = some (.frz o (.dK vs)) ∧ KD K H vs kvs
def HR (K : PySem.W.Frag) (H : Hp) (M : Mp) : Prop := ∀ a o, M a = some o → MR K H a o
def Sub (M M' : Mp) : Prop := ∀ a o, M a = some o → M' a = some o
theorem Sub.refl {M : Mp} : Sub M M := fun _ _ h => h
theorem Sub.trans {M1 M2 M3 : Mp} (a : Sub M1 M2) (b : Sub M2 M3) : Sub M1 M3 := fun p o h => b p o (a p o h)
theorem Sub.none {M M' : Mp} (s : Sub M M') {p : Addr} (h : M' p = .none) : M p = .none := by
  cases e : M p with
  | none => rfl
  | some o => rw [s p o e] at h; cases h
theorem Sub.put {M M' : Mp} {p : Addr} {o : MO} (s : Sub M M') (h : M' p = .none) : Sub M (DL.put M' p o) := fun a u e => by
  have e' := s a u e
  rw [put_ne]
  · exact e'
  · rintro rfl; rw [e'] at h; cases h
theorem Sub.put2 {M M' : Mp} {p : Addr} {o : MO} (s : Sub M M') (h : M p = .none) : Sub M (DL.put M' p o) := fun a u e => by
  have e' := s a u e
  rw [put_ne]
  · exact e'
  · rintro rfl; rw [e] at h; cases h
theorem Sub.both {M M' : Mp} {p : Addr} {o : MO} (s : Sub M M') : Sub (DL.put M p o) (DL.put M' p o) := fun a u e => by
  by_cases c : a = p
  · subst c; rw [put_same] at e ⊢; exact e
  · rw [put_ne c] at e ⊢; exact s a u e
theorem HR.sub {K : PySem.W.Frag} {H : Hp} {M M' : Mp} (h : HR K H M') (s : Sub M M') : HR K H M := fun a o e => h a o (s a o e)
theorem HR.free {K : PySem.W.Frag} {H : Hp} {M : Mp} (h : HR K H M) {p : Addr} (hp : H p = none) : M p = none := by
  cases e : M p with
  | none => rfl
  | some o =>
    have q := h p o e
    cases o with
    | lst ds => obtain ⟨_, q, _⟩ := q; rw [hp] at q; cases q
    | rol ds => obtain ⟨_, _, q, _⟩ := q; rw [hp] at q; cases q
    | dk ds => obtain ⟨_, q, _⟩ := q; rw [hp] at q; cases q
    | ins C ds => obtain ⟨_, _, q, _⟩ := q; rw [hp] at q; cases q
    | xd ds => obtain ⟨_, q, _⟩ := q; rw [hp] at q; cases q
    | rdk ds => obtain ⟨_, _, q, _⟩ := q; rw [hp] at q; cases q
theorem MR.away {K : PySem.W.Frag} {H : Hp} {a p : Addr} {o : MO} {u : HO} (h : MR K H a o) (e : TExt K H (upd H p u)) (ne : a ≠ p) : MR K (upd H p u) a o := by
  cases o with
  | lst ds => obtain ⟨xs, q, r⟩ := h; exact ⟨xs, (upd_ne ne).trans q, r.mono e⟩
  | rol ds => obtain ⟨o, xs, q, r⟩ := h; exact ⟨o, xs, (upd_ne ne).trans q, r.mono e⟩
  | dk ds => obtain ⟨xs, q, r⟩ := h; exact ⟨xs, (upd_ne ne).trans q, r.mono e⟩
  | ins C ds => obtain ⟨dx, xs, q, r⟩ := h; exact ⟨dx, xs, (upd_ne ne).trans q, r.mono e⟩
  | xd ds => obtain ⟨xs, q, r⟩ := h; exact ⟨xs, (upd_ne ne).trans q, r.mono e⟩
  | rdk ds => obtain ⟨o, xs, q, r⟩ := h; exact ⟨o, xs, (upd_ne ne).trans q, r.mono e⟩
theorem HR.fresh {K : PySem.W.Frag} {H : Hp} {M : Mp} {p : Addr} {u : HO} (h : HR K H M) (hp : H p = none) : HR K (upd H p u) M := fun a o e =>
  (h a o e).away (.new hp) fun z => by subst z; rw [h.free hp] at e; cases e
theorem HR.made {K : PySem.W.Frag} {H : Hp} {M : Mp} {p : Addr} {u : HO} {o : MO} (h : HR K H M) (hp : NoTup (H p)) (n : MR K (upd H p u) p o) : HR K (upd H p u) (DL.put M p o) := fun a q e => by
  by_cases c : a = p
  · subst c; rw [put_same] at e; cases e; exact n
  · rw [put_ne c] at e; exact (h a q e).away (.upd hp) c
theorem noTup_none {H : Hp} {p : Addr} (h : H p = none) : NoTup (H p) := by rw [h]; trivial
theorem noTup_lst {H : Hp} {p : Addr} {xs : List V} (h : H p = some (.lst xs)) : NoTup (H p) := by rw [h]; trivial
theorem noTup_dK {H : Hp} {p : Addr} {xs : List (Key × V)} (h : H p = some (.dK xs)) : NoTup (H p) := by rw [h]; trivial
theorem noTup_ins {H : Hp} {p C dx : Addr} {xs : List (Str × V)} (h : H p = some (.ins C dx xs)) : NoTup (H p) := by rw [h]; trivial

/-! ### readings over plain data -/
abbrev Sl := List (Option D)
/-- an exception: its class, the attributes of its own -/
structure DX where
  cls : Value
  d : Option Addr
  fs : List (Str × D)
abbrev DK := D → Mp → Prop
abbrev EK := DX → Mp → Prop
abbrev DE := Sl → Mp → DK → EK → Prop
abbrev DT := Sl → Mp → (Bool → Mp → Prop) → EK → Prop
abbrev DA := Sl → Mp → (List D → Mp → Prop) → EK → Prop
structure DN where
  nx : Sl → Mp → Prop
  rt : DK
  bk : Sl → Mp → Prop := fun _ _ => False
  ct : Sl → Mp → Prop := fun _ _ => False
  ex : DX → Sl → Mp → Prop := fun _ _ _ => False
abbrev DS := DN → Sl → Mp → Prop
/-- what is wanted of an exception; tuples of the heap h0 still stand -/
structure DW where
  h0 : Hp
  w : DX → Sl → Mp → Prop
/-- the slots -/
structure RS (K : PySem.W.Frag) (H0 H : Hp) (σ : St) (τ : Sl) : Prop where
  ext : TExt K H0 H
  len : τ.length ≤ σ.length
  at_ : ∀ (i : Nat) (d : D), τ[i]? = some (some d) → ∃ v, σ[i]? = some (some v) ∧ Rp K H v d
section
variable (K : PySem.W.Frag)
def XR (H : Hp) (cls : Value) (d : Option Addr) (x : DX) : Prop := cls = x.cls ∧ d = x.d ∧ ∀ dx, d = some dx → ∃ vs, H dx = some (.xd vs) ∧ FD K H vs x.fs
/-- what the reading of an expression says of the heap's reading -/
def KC (H : Hp) (Qd : DK) (Q : VK) : Prop := ∀ d M' v H', Qd d M' → TExt K H H' → Rp K H' v d → HR K H' M' → Q v H'
def liftE (W : DW) (t : DE) : TE := fun σ H Q => ∃ τ M Qd Ed, RS K W.h0 H σ τ ∧ HR K H M ∧ t τ M Qd Ed ∧ (∀ x M', Ed x M' → W.w x τ M') ∧ KC K H Qd Q
def liftT (W : DW) (t : DT) : TT := fun σ H Q => ∃ τ M Qd Ed, RS K W.h0 H σ τ ∧ HR K H M ∧ t τ M Qd Ed ∧ (∀ x M', Ed x M' → W.w x τ M') ∧ (∀ b M' H', Qd b M' → TExt K H H' → HR K H' M' → Q b H')
def liftA (W : DW) (t : DA) : TA := fun σ H Q => ∃ τ M Qd Ed, RS K W.h0 H σ τ ∧ HR K H M ∧ t τ M Qd Ed ∧ (∀ x M', Ed x M' → W.w x τ M') ∧ (∀ ds M' vs H', Qd ds M' → TExt K H H' → RpL K H' vs ds → HR K H' M' → Q vs H')
def liftW (W : DW) : WX := fun cls d σ H => ∃ x τ M, RS K W.h0 H σ τ ∧ HR K H M ∧ XR K H cls d x ∧ W.w x τ M
structure NC (H0 H : Hp) (Dd : DN) (De : Ends) : Prop where
  nx : ∀ τ M σ H', Dd.nx τ M → TExt K H H' → RS K H0 H' σ τ → HR K H' M → De.nx σ H'
  rt : ∀ d M v H', Dd.rt d M → TExt K H H' → Rp K H' v d → HR K H' M → De.rt v H'
  bk : ∀ τ M σ H', Dd.bk τ M → TExt K H H' → RS K H0 H' σ τ → HR K H' M → De.bk σ H'
  ct : ∀ τ M σ H', Dd.ct τ M → TExt K H H' → RS K H0 H' σ τ → HR K H' M → De.ct σ H'
def liftS (W : DW) (t : DS) : TS := fun De σ H => ∃ τ M Dd, RS K W.h0 H σ τ ∧ HR K H M ∧ t Dd τ M ∧ (∀ x τ' M', Dd.ex x τ' M' → W.w x τ' M') ∧ NC K W.h0 H Dd De
end
section
variable {K : PySem.W.Frag} {H0 H H' : Hp} {σ : St} {τ : Sl}
theorem RS.mono (e : TExt K H H') (h : RS K H0 H σ τ) : RS K H0 H' σ τ := ⟨h.ext.trans e, h.len, fun i d q => by
  obtain ⟨v, a, b⟩ := h.at_ i d q
  exact ⟨v, a, b.mono e⟩⟩
theorem NC.mono {Dd : DN} {De : Ends} (e : TExt K H H') (h : NC K H0 H Dd De) : NC K H0 H' Dd De :=
  ⟨fun τ M σ H2 q x => h.nx τ M σ H2 q (e.trans x), fun d M v H2 q x => h.rt d M v H2 q (e.trans x), fun τ M σ H2 q x => h.bk τ M σ H2 q (e.trans x), fun τ M σ H2 q x => h.ct τ M σ H2 q (e.trans x)⟩
theorem KC.mono {Qd : DK} {Q : VK} (e : TExt K H H') (h : KC K H Qd Q) : KC K H' Qd Q := fun d M v H2 q x => h d M v H2 q (e.trans x)
theorem RS.set {i : Nat} {v : V} {d : D} (h : RS K H0 H σ τ) (r : Rp K H v d) : RS K H0 H (σ.set i (some v)) (τ.set i (some d)) := ⟨h.ext, by simpa using h.len, fun j e q => by
  by_cases c : i = j
  · subst c
    by_cases hi : i < τ.length
    · rw [List.getElem?_set_self hi] at q
      cases q
      exact ⟨v, List.getElem?_set_self (Nat.lt_of_lt_of_le hi h.len), r⟩
    · rw [List.getElem?_eq_none (by simpa using hi)] at q
      cases q
  · rw [List.getElem?_set_ne c] at q ⊢
    exact h.at_ j e q⟩
end
section
variable (X : Cx) (W : DW)
structure PD (e : Expr) (t : DE) : Prop where
  run : PE X e (liftE X.K W t)
structure PTD (e : Expr) (t : DT) : Prop where
  run : PT X e (liftT X.K W t)
structure PWD (e : Expr) (t : DT) : Prop where
  run : PW X e (liftT X.K W t)
structure PAD (es : List Expr) (t : DA) : Prop where
  run : PA X es (liftA X.K W t)
structure PSD (st : Stmt) (t : DS) : Prop where
  run : PS X st (liftS X.K W t)
structure PSsD (st : List Stmt) (t : DS) : Prop where
  run : PSs X st (liftS X.K W t)
end
section
variable {X : Cx}
theorem PEimp {e : Expr} {t t' : TE} (h : PE X e t) (i : ∀ σ H Q, t' σ H Q → t σ H Q) : PE X e t' := ⟨fun pins s σ H Q I q => h.run pins s σ H Q I (i σ H Q q)⟩
theorem PTimp {e : Expr} {t t' : TT} (h : PT X e t) (i : ∀ σ H Q, t' σ H Q → t σ H Q) : PT X e t' := ⟨fun pins s σ H Q I q => h.run pins s σ H Q I (i σ H Q q)⟩
theorem PWimp {e : Expr} {t t' : TT} (h : PW X e t) (i : ∀ σ H Q, t' σ H Q → t σ H Q) : PW X e t' := ⟨fun wh pins s σ H Q I q => h.run wh pins s σ H Q I (i σ H Q q)⟩
theorem PAimp {es : List Expr} {t t' : TA} (h : PA X es t) (i : ∀ σ H Q, t' σ H Q → t σ H Q) : PA X es t' := ⟨fun pos pins s σ H Q I q => h.run pos pins s σ H Q I (i σ H Q q)⟩
theorem PSimp {e : Stmt} {t t' : TS} (h : PS X e t) (i : ∀ De σ H, t' De σ H → t De σ H) : PS X e t' := ⟨fun pins s σ H De I q => h.run pins s σ H De I (i De σ H q)⟩
theorem PSsimp {e : List Stmt} {t t' : TS} (h : PSs X e t) (i : ∀ De σ H, t' De σ H → t De σ H) : PSs X e t' := ⟨fun pins s σ H De I q => h.run pins s σ H De I (i De σ H q)⟩
end
end DL

set_option maxHeartbeats 4000000
namespace DL
open PySem L2
section
variable {X : Cx} {W : DW}

/-! ### names, constants -/
def slot (τ : Sl) (i : Nat) : Option D := (τ[i]?).join
theorem slot_eq {τ : Sl} {i : Nat} {d : D} (h : slot τ i = some d) : τ[i]? = some (some d) := by
  unfold slot at h
  cases e : τ[i]? with
  | none => rw [e] at h; cases h
  | some o => rw [e] at h; exact congrArg some h
def dVar (i : Nat) : DE := fun τ M Q _ => match slot τ i with | some d => Q d M | none => False
def dC (d : D) : DE := fun _ M Q _ => Q d M
theorem pd_var {i : Nat} {e : Expr} (h : PE X e (tVar i)) : PD X W e (dVar i) := ⟨PEimp h fun σ H Q ⟨τ, M, Qd, Ed, hs, hr, q, _, k⟩ => by
  unfold dVar at q
  split at q
  · rename_i d e
    obtain ⟨v, a, b⟩ := hs.at_ i d (slot_eq e)
    exact ⟨v, a, k d M v H q .refl b hr⟩
  · exact q.elim⟩
theorem pd_c {e : Expr} {v : V} {d : D} (h : PE X e (tC v)) (r : ∀ H, Rp X.K H v d) : PD X W e (dC d) := ⟨PEimp h fun σ H Q ⟨τ, M, Qd, Ed, hs, hr, q, _, k⟩ => k d M v H q .refl (r H) hr⟩
theorem pd_int {i j pos} : PD X W (.Constant (.int i) j pos) (dC (.int i)) := pd_c pe_int fun _ => .int i
theorem pd_bl {b j pos} : PD X W (.Constant (.bool b) j pos) (dC (.bl b)) := pd_c pe_bl fun _ => .bl b
theorem pd_non {j pos} : PD X W (.Constant .none j pos) (dC .non) := pd_c pe_non fun _ => .non
theorem pd_str {x j pos} : PD X W (.Constant (.str x) j pos) (dC (.str x)) := pd_c pe_str fun _ => .str x
/-- a slot by its place -/
theorem pdv (i : Nat) {x : Str} {pos : Pos} (hN : X.N[i]? = some x := by rfl) (hv : Vis X.env.scope x := by first | exact Or.inl rfl | exact Or.inr (Or.inl rfl) | exact Or.inr (Or.inr rfl)) (hd : (x == ("__debug__" : Str)) = false := by decide)
    (hcd : (x == ("__classdict__" : Str)) = false := by decide) : PD X W (.Name x pos) (dVar i) := pd_var (pe_var hN hv hd hcd)

/-! ### operators by values -/
abbrev DO := D → D → Mp → DK → Prop
def liftO (K : PySem.W.Frag) (g : DO) : R2 := fun x y H Q => ∃ dx dy M Qd, g dx dy M Qd ∧ Rp K H x dx ∧ Rp K H y dy ∧ HR K H M ∧ KC K H Qd Q
def dOp (g : DO) (ta tb : DE) : DE := fun τ M Q E => ta τ M (fun x M1 => tb τ M1 (fun y M2 => g x y M2 Q) E) E
theorem dOp_lift {g : DO} {ta tb : DE} {σ : St} {H : Hp} {Q : VK} (h : liftE X.K W (dOp g ta tb) σ H Q) : tOp (liftO X.K g) (liftE X.K W ta) (liftE X.K W tb) σ H Q := by
  obtain ⟨τ, M, Qd, Ed, hs, hr, q, we, k⟩ := h
  refine ⟨τ, M, _, Ed, hs, hr, q, we, fun x M1 v H1 q1 e1 r1 h1 => ⟨τ, M1, _, Ed, hs.mono e1, h1, q1, we, fun y M2 u H2 q2 e2 r2 h2 => ?_⟩⟩
  exact ⟨x, y, M2, Qd, q2, r1.mono e2, r2, h2, k.mono (e1.trans e2)⟩
theorem pd_op {op : Operator} {g : DO} {a b : Expr} {ta tb : DE} {pos : Pos} (ho : OpR X (binaryOp op) (liftO X.K g)) (ha : PD X W a ta) (hb : PD X W b tb) : PD X W (.BinOp a op b pos) (dOp g ta tb) :=
  ⟨PEimp (pe_op ho ha.run hb.run) fun _ _ _ h => dOp_lift h⟩
theorem OpRimp {f : Value → Value → Sem Value} {r r' : R2} (h : OpR X f r) (i : ∀ x y H Q, r' x y H Q → r x y H Q) : OpR X f r' := fun pins s σ H x y v u Q I rx ry q => h pins s σ H x y v u Q I rx ry (i x y H Q q)
/-- an operator whose reading is one of two -/
theorem liftO_or {f : Value → Value → Sem Value} {g g1 g2 : DO} (h1 : OpR X f (liftO X.K g1)) (h2 : OpR X f (liftO X.K g2)) (h : ∀ x y M Q, g x y M Q → g1 x y M Q ∨ g2 x y M Q) : OpR X f (liftO X.K g) :=
  OpRimp (h1.or h2) fun x y H Q ⟨dx, dy, M, Qd, q, a, b, c, k⟩ => (h dx dy M Qd q).elim (fun z => .inl ⟨dx, dy, M, Qd, z, a, b, c, k⟩) fun z => .inr ⟨dx, dy, M, Qd, z, a, b, c, k⟩
theorem Rp.toInt {K : PySem.W.Frag} {H : Hp} {v : V} {i : Int} (h : Rp K H v (.int i)) : v = .int i := by cases h; rfl
theorem Rp.toStr {K : PySem.W.Frag} {H : Hp} {v : V} {i : Str} (h : Rp K H v (.str i)) : v = .str i := by cases h; rfl
theorem Rp.toBl {K : PySem.W.Frag} {H : Hp} {v : V} {i : Bool} (h : Rp K H v (.bl i)) : v = .bl i := by cases h; rfl
theorem Rp.toRef {K : PySem.W.Frag} {H : Hp} {v : V} {i : Addr} (h : Rp K H v (.ref i)) : v = .ref i := by cases h; rfl
theorem Rp.toTy {K : PySem.W.Frag} {H : Hp} {v : V} {i : String} (h : Rp K H v (.ty i)) : v = .ty i := by cases h; rfl
theorem Rp.toNon {K : PySem.W.Frag} {H : Hp} {v : V} (h : Rp K H v .non) : v = .non := by cases h; rfl
theorem Rp.toTup {K : PySem.W.Frag} {H : Hp} {v : V} {ds : List D} (h : Rp K H v (.tup ds)) : ∃ a xs, v = .ref a ∧ SqT K H a xs ∧ RpL K H xs ds := by
  cases h with
  | tup s l => exact ⟨_, _, rfl, s, l⟩
theorem HR.lst {K : PySem.W.Frag} {H : Hp} {M : Mp} {a : Addr} {ds : List D} (h : HR K H M) (e : M a = some (.lst ds)) : ∃ xs, H a = some (.lst xs) ∧ RpL K H xs ds := h a _ e
theorem HR.dk {K : PySem.W.Frag} {H : Hp} {M : Mp} {a : Addr} {ds : List (Key × D)} (h : HR K H M) (e : M a = some (.dk ds)) : ∃ xs, H a = some (.dK xs) ∧ KD K H xs ds := h a _ e
theorem HR.ins {K : PySem.W.Frag} {H : Hp} {M : Mp} {a C : Addr} {ds : List (Str × D)} (h : HR K H M) (e : M a = some (.ins C ds)) : ∃ dx xs, H a = some (.ins C dx xs) ∧ FD K H xs ds := h a _ e
/-- a new tuple -/
theorem KC.tup {K : PySem.W.Frag} {H : Hp} {M : Mp} {Qd : DK} {Q : VK} {xs : List V} {ds : List D} {p : Addr} (k : KC K H Qd Q) (hr : HR K H M) (l : RpL K H xs ds) (hp : H p = none) (q : Qd (.tup ds) M) : Q (.ref p) (upd H p (.tup xs)) :=
  k _ M _ _ q (.new hp) (.tup (.of upd_same) (l.mono (.new hp))) (hr.fresh hp)
/-- a new list -/
theorem KC.lst {K : PySem.W.Frag} {H : Hp} {M : Mp} {Qd : DK} {Q : VK} {xs : List V} {ds : List D} {p : Addr} (k : KC K H Qd Q) (hr : HR K H M) (l : RpL K H xs ds) (hp : H p = none) (q : ∀ p, M p = none → Qd (.ref p) (put M p (.lst ds))) : Q (.ref p) (upd H p (.lst xs)) :=
  k _ _ _ _ (q p (hr.free hp)) (.new hp) (.ref p) (hr.made (noTup_none hp) ⟨xs, upd_same, l.mono (.new hp)⟩)

/-- two ints -/
def oI (C : Int → Int → Prop) (f : Int → Int → D) : DO := fun x y M Q => match x, y with | .int i, .int j => C i j ∧ Q (f i j) M | _, _ => False
def oI0 (f : Int → Int → D) : DO := fun x y M Q => match x, y with | .int i, .int j => Q (f i j) M | _, _ => False
theorem oI_of {f : Value → Value → Sem Value} {C : Int → Int → Prop} {g : Int → Int → V} {gd : Int → Int → D} (h : OpR X f (rI C g)) (hg : ∀ i j H, Rp X.K H (g i j) (gd i j)) : OpR X f (liftO X.K (oI C gd)) :=
  OpRimp h fun x y H Q ⟨dx, dy, M, Qd, q, a, b, c, k⟩ => by
    unfold oI at q
    split at q
    · rename_i i j
      exact ⟨i, j, a.toInt, b.toInt, q.1, k _ M _ H q.2 .refl (hg i j H) c⟩
    · exact q.elim
theorem oI0_of {f : Value → Value → Sem Value} {g : Int → Int → V} {gd : Int → Int → D} (h : OpR X f (rI0 g)) (hg : ∀ i j H, Rp X.K H (g i j) (gd i j)) : OpR X f (liftO X.K (oI0 gd)) :=
  OpRimp h fun x y H Q ⟨dx, dy, M, Qd, q, a, b, c, k⟩ => by
    unfold oI0 at q
    split at q
    · rename_i i j
      exact ⟨i, j, a.toInt, b.toInt, k _ M _ H q .refl (hg i j H) c⟩
    · exact q.elim
/-- + -/
def addD : DO := fun x y M Q => match x, y with
  | .int i, .int j => Q (.int (i + j)) M
  | .str i, .str j => i.length + j.length ≤ sizeLine ∧ Q (.str (i ++ j)) M
  | .tup xs, .tup ys => xs.length + ys.length ≤ sizeLine ∧ Q (.tup (xs ++ ys)) M
  | .ref a, .ref b => match M a, M b with
    | some (.lst xs), some (.lst ys) => xs.length + ys.length ≤ sizeLine ∧ ∀ p, M p = none → Q (.ref p) (put M p (.lst (xs ++ ys)))
    | _, _ => False
  | _, _ => False
theorem op_addD : OpR X (binaryOp .Add) (liftO X.K addD) :=
  OpRimp ((op_add (X := X)).or ((op_add_str (X := X)).or ((op_catA (X := X)).or (op_cat (X := X))))) fun x y H Q ⟨dx, dy, M, Qd, q, a, b, c, k⟩ => by
    unfold addD at q
    split at q
    · exact .inl ⟨_, _, a.toInt, b.toInt, k _ M _ H q .refl (.int _) c⟩
    · exact .inr (.inl ⟨_, _, a.toStr, b.toStr, q.1, k _ M _ H q.2 .refl (.str _) c⟩)
    · rename_i xs ys
      obtain ⟨pa, va, rfl, sa, la⟩ := a.toTup
      obtain ⟨pb, vb, rfl, sb, lb⟩ := b.toTup
      refine .inr (.inr (.inl ⟨pa, pb, va, vb, rfl, rfl, sa, sb, by rw [la.length, lb.length]; exact q.1, fun e => ?_, fun _ e => ?_, fun _ _ p hp => k.tup c (la.append lb) hp q.2⟩))
      · subst e
        have e' : xs = [] := by cases la; rfl
        subst e'
        exact k _ M _ H q.2 .refl (.tup sb (by simpa using lb)) c
      · subst e
        have e' : ys = [] := by cases lb; rfl
        subst e'
        exact k _ M _ H q.2 .refl (.tup sa (by simpa using la)) c
    · rename_i pa pb
      split at q
      · rename_i xs ys e1 e2
        obtain ⟨va, ha, la⟩ := c.lst e1
        obtain ⟨vb, hb, lb⟩ := c.lst e2
        exact .inr (.inr (.inr ⟨pa, pb, va, vb, a.toRef, b.toRef, ha, hb, by rw [la.length, lb.length]; exact q.1, fun p hp => k.lst c (la.append lb) hp q.2⟩))
      · exact q.elim
    · exact q.elim
theorem op_subD : OpR X (binaryOp .Sub) (liftO X.K (oI0 fun i j => .int (i - j))) := oI0_of op_sub fun _ _ _ => .int _
theorem op_fdivD : OpR X (binaryOp .FloorDiv) (liftO X.K (oI CDivW fun i j => .int (i / j))) := oI_of op_fdivW fun _ _ _ => .int _
theorem op_modD : OpR X (binaryOp .Mod) (liftO X.K (oI (fun _ j => 0 < j) fun i j => .int (i % j))) := oI_of op_mod fun _ _ _ => .int _
theorem op_powD : OpR X (binaryOp .Pow) (liftO X.K (oI CPow fun i j => .int (i ^ j.toNat))) := oI_of op_pow fun _ _ _ => .int _
end
end DL

set_option maxHeartbeats 4000000
namespace DL
open PySem L2

/-! ### plain data as the library's data; Python's == -/
mutual
def toP : D → PyData
  | .non => .none
  | .bl b => .bool b
  | .int i => .int i
  | .str x => .str x
  | .tup xs => .tuple (toPL xs)
  | .ref _ => .none
  | .ty _ => .none
def toPL : List D → List PyData
  | [] => []
  | d :: ds => toP d :: toPL ds
end
mutual
/-- no addresses, no classes; signs as they may be -/
def ok : D → Bool
  | .str x => x.cps.all (· < 0x110000)
  | .tup xs => okL xs
  | .ref _ => false
  | .ty _ => false
  | .non => true
  | .bl _ => true
  | .int _ => true
def okL : List D → Bool
  | [] => true
  | d :: ds => ok d && okL ds
end
mutual
def dep : D → Nat
  | .tup xs => depL xs + 1
  | .non => 0
  | .bl _ => 0
  | .int _ => 0
  | .str _ => 0
  | .ref _ => 0
  | .ty _ => 0
def depL : List D → Nat
  | [] => 0
  | d :: ds => max (dep d) (depL ds)
end
mutual
def eqb : D → D → Bool
  | .non, y => match y with | .non => true | _ => false
  | .bl a, y => match y with | .bl b => a == b | .int j => (if a then 1 else 0) == j | _ => false
  | .int i, y => match y with | .bl b => i == (if b then 1 else 0) | .int j => i == j | _ => false
  | .str a, y => match y with | .str b => a == b | _ => false
  | .tup xs, y => match y with | .tup ys => eqbL xs ys | _ => false
  | .ref _, _ => false
  | .ty _, _ => false
def eqbL : List D → List D → Bool
  | [], ys => match ys with | [] => true | _ => false
  | x :: xs, ys => match ys with | y :: ys => eqb x y && eqbL xs ys | _ => false
end
mutual
theorem eqv_toP : ∀ (x y : D), ok x = true → ok y = true → PyData.eqv (toP x) (toP y) = eqb x y
  | .non, y, h, k => by cases y <;> simp_all [toP, eqb, PyData.eqv, ok]
  | .bl _, y, h, k => by cases y <;> simp_all [toP, eqb, PyData.eqv, ok]
  | .int _, y, h, k => by cases y <;> simp_all [toP, eqb, PyData.eqv, ok]
  | .str _, y, h, k => by cases y <;> simp_all [toP, eqb, PyData.eqv, ok]
  | .ref _, y, h, k => by simp [ok] at h
  | .ty _, y, h, k => by simp [ok] at h
  | .tup xs, y, h, k => by
    cases y with
    | tup ys =>
      have q := eqvL_toP xs ys (by simpa [ok] using h) (by simpa [ok] using k)
      simpa [toP, eqb, PyData.eqv] using q
    | ref _ => simp [ok] at k
    | ty _ => simp [ok] at k
    | _ => simp [toP, eqb, PyData.eqv]
theorem eqvL_toP : ∀ (xs ys : List D), okL xs = true → okL ys = true → PyData.eqvAll (toPL xs) (toPL ys) = eqbL xs ys
  | [], [], _, _ => by simp [toPL, eqbL, PyData.eqvAll]
  | [], _ :: _, _, _ => by simp [toPL, eqbL, PyData.eqvAll]
  | _ :: _, [], _, _ => by simp [toPL, eqbL, PyData.eqvAll]
  | x :: xs, y :: ys, h, k => by
    have h' : ok x = true ∧ okL xs = true := by simpa [okL] using h
    have k' : ok y = true ∧ okL ys = true := by simpa [okL] using k
    simp [toPL, eqbL, PyData.eqvAll, eqv_toP x y h'.1 k'.1, eqvL_toP xs ys h'.2 k'.2]
end
mutual
theorem lay_toP : ∀ (x : D), ok x = true → (toP x).canLay0 = true
  | .non, h => by simp [toP, PyData.canLay0]
  | .bl _, h => by simp [toP, PyData.canLay0]
  | .int _, h => by simp [toP, PyData.canLay0]
  | .str _, h => by simpa [toP, PyData.canLay0, PyData.strOk, ok] using h
  | .ref _, h => by simp [ok] at h
  | .ty _, h => by simp [ok] at h
  | .tup xs, h => by
    have q := layL_toP xs (by simpa [ok] using h)
    simpa [toP, PyData.canLay0] using q
theorem layL_toP : ∀ (xs : List D), okL xs = true → PyData.canLayAll0 (toPL xs) = true
  | [], _ => by simp [toPL, PyData.canLayAll0]
  | x :: xs, h => by
    have h' : ok x = true ∧ okL xs = true := by simpa [okL] using h
    simp [toPL, PyData.canLayAll0, lay_toP x h'.1, layL_toP xs h'.2]
end
mutual
theorem dep_toP : ∀ (x : D), (toP x).depth = dep x
  | .non => by simp [toP, PyData.depth, dep]
  | .bl _ => by simp [toP, PyData.depth, dep]
  | .int _ => by simp [toP, PyData.depth, dep]
  | .str _ => by simp [toP, PyData.depth, dep]
  | .ref _ => by simp [toP, PyData.depth, dep]
  | .ty _ => by simp [toP, PyData.depth, dep]
  | .tup xs => by simp [toP, PyData.depth, dep, depL_toP xs]
theorem depL_toP : ∀ (xs : List D), PyData.depthAll (toPL xs) = depL xs
  | [] => by simp [toPL, PyData.depthAll, depL]
  | x :: xs => by simp [toPL, PyData.depthAll, depL, dep_toP x, depL_toP xs]
end
mutual
theorem dp_of {K : PySem.W.Frag} {H : Hp} : ∀ {v : V} {d : D}, Rp K H v d → ok d = true → Dp K H v (toP d)
  | _, _, .non, _ => by simpa [toP] using Dp.non
  | _, _, .bl b, _ => by simpa [toP] using Dp.bl b
  | _, _, .int b, _ => by simpa [toP] using Dp.int b
  | _, _, .str b, _ => by simpa [toP] using Dp.str b
  | _, _, .ref b, h => by simp [ok] at h
  | _, _, .ty b, h => by simp [ok] at h
  | _, _, .tup s l, h => by simpa [toP] using Dp.tup s (dpL_of l (by simpa [ok] using h))
theorem dpL_of {K : PySem.W.Frag} {H : Hp} : ∀ {v : List V} {d : List D}, RpL K H v d → okL d = true → DpAll K H v (toPL d)
  | _, _, .nil, _ => by simpa [toPL] using DpAll.nil
  | _, _, .cons r l, h => by
    rename_i d _ ds
    have h' : ok d = true ∧ okL ds = true := by simpa [okL] using h
    simpa [toPL] using DpAll.cons (dp_of r h'.1) (dpL_of l h'.2)
end
section
variable {X : Cx} {W : DW}
/-- what both sides of == are asked -/
def eqOk (x y : D) : Prop := ok x = true ∧ ok y = true ∧ min (dep x) (dep y) ≤ 200
def eqG (n : Bool) : DO := fun x y M Q => match x, y with
  | .int i, .int j => Q (.bl (n != decide (i = j))) M
  | .str i, .str j => Q (.bl (n != decide (i = j))) M
  | .ref a, .ref b => match M a, M b with
    | some (.lst xs), some (.lst ys) => okL xs = true ∧ okL ys = true ∧ min (depL xs) (depL ys) ≤ 199 ∧ Q (.bl (n != eqbL xs ys)) M
    | _, _ => False
  | x, y => eqOk x y ∧ Q (.bl (n != eqb x y)) M
abbrev eqD : DO := eqG false
abbrev neD : DO := eqG true
def rDeep (K : PySem.W.Frag) (n : Bool) : R2 := fun x y H Q => ∃ d e, Dp K H x d ∧ Dp K H y e ∧ d.canLay0 = true ∧ e.canLay0 = true ∧ min d.depth e.depth ≤ 200 ∧ Q (.bl (n != PyData.eqv d e)) H
theorem op_deepE (hu : X.A.units + 200 < cLine) : OpR X (compareOp .Eq) (rDeep X.K false) := by
  intro pins s σ H x y v u Q I rx ry ⟨d, e, hd, he, sd, se, dm, q⟩
  obtain ⟨as, r1⟩ := Dp.reads I d x v hd rx
  obtain ⟨bs, r2⟩ := Dp.reads I e y u he ry
  exact SeqAt.compareEq_reads r1 r2 sd se (by omega) ⟨.bl _, H, I, rfl, by simpa using q⟩
theorem op_deepN (hu : X.A.units + 200 < cLine) : OpR X (compareOp .NotEq) (rDeep X.K true) := by
  intro pins s σ H x y v u Q I rx ry ⟨d, e, hd, he, sd, se, dm, q⟩
  obtain ⟨as, r1⟩ := Dp.reads I d x v hd rx
  obtain ⟨bs, r2⟩ := Dp.reads I e y u he ry
  exact SeqAt.compareNe_reads r1 r2 sd se (by omega) ⟨.bl _, H, I, rfl, by simpa using q⟩
def rScal (n : Bool) : R2 := fun x y H Q => (∃ i j : Int, x = .int i ∧ y = .int j ∧ Q (.bl (n != decide (i = j))) H) ∨ (∃ i j : Str, x = .str i ∧ y = .str j ∧ Q (.bl (n != decide (i = j))) H)
theorem dInt {i j : Int} : decide (V.int i = V.int j) = decide (i = j) := by
  by_cases h : i = j
  · subst h; simp
  · simp [h]
theorem dStr {i j : Str} : decide (V.str i = V.str j) = decide (i = j) := by
  by_cases h : i = j
  · subst h; simp
  · simp [h]
theorem op_scalE : OpR X (compareOp .Eq) (rScal false) := OpRimp op_eq fun x y H Q h => by
  rcases h with ⟨i, j, rfl, rfl, q⟩ | ⟨i, j, rfl, rfl, q⟩
  · exact ⟨rfl, by rw [dInt]; simpa using q⟩
  · exact ⟨rfl, by rw [dStr]; simpa using q⟩
theorem op_scalN : OpR X (compareOp .NotEq) (rScal true) := OpRimp op_ne fun x y H Q h => by
  rcases h with ⟨i, j, rfl, rfl, q⟩ | ⟨i, j, rfl, rfl, q⟩
  · exact ⟨rfl, by rw [dInt]; simpa using q⟩
  · exact ⟨rfl, by rw [dStr]; simpa using q⟩
theorem eqG_of {f : Value → Value → Sem Value} {n : Bool} (h1 : OpR X f (rScal n)) (h2 : OpR X f (rDeep X.K n)) : OpR X f (liftO X.K (eqG n)) :=
  OpRimp (h1.or h2) fun x y H Q ⟨dx, dy, M, Qd, q, a, b, c, k⟩ => by
    unfold eqG at q
    split at q
    · exact .inl (.inl ⟨_, _, a.toInt, b.toInt, k _ M _ H q .refl (.bl _) c⟩)
    · exact .inl (.inr ⟨_, _, a.toStr, b.toStr, k _ M _ H q .refl (.bl _) c⟩)
    · rename_i pa pb
      split at q
      · rename_i xs ys e1 e2
        obtain ⟨va, ha, la⟩ := c.lst e1
        obtain ⟨vb, hb, lb⟩ := c.lst e2
        have ra := a.toRef
        have rb := b.toRef
        subst ra; subst rb
        refine .inr ⟨_, _, .lst (SqL.of ha) (dpL_of la q.1), .lst (SqL.of hb) (dpL_of lb q.2.1), by simpa [PyData.canLay0] using layL_toP _ q.1, by simpa [PyData.canLay0] using layL_toP _ q.2.1, ?_, ?_⟩
        · have := q.2.2.1
          simp only [PyData.depth, depL_toP]
          omega
        · refine k _ M _ H ?_ .refl (.bl _) c
          have := q.2.2.2
          rw [← eqvL_toP xs ys q.1 q.2.1] at this
          simpa [PyData.eqv] using this
      · exact q.elim
    · obtain ⟨⟨o1, o2, dm⟩, q⟩ := q
      refine .inr ⟨_, _, dp_of a o1, dp_of b o2, lay_toP _ o1, lay_toP _ o2, by rw [dep_toP, dep_toP]; exact dm, ?_⟩
      rw [eqv_toP _ _ o1 o2]
      exact k _ M _ H q .refl (.bl _) c
theorem op_eqG (hu : X.A.units + 200 < cLine) : OpR X (compareOp .Eq) (liftO X.K eqD) := eqG_of op_scalE (op_deepE hu)
theorem op_neG (hu : X.A.units + 200 < cLine) : OpR X (compareOp .NotEq) (liftO X.K neD) := eqG_of op_scalN (op_deepN hu)
theorem Room.u200 {k : Nat} {A : Around} (r : Room k A) : A.units + 200 < cLine := by have := r.un; omega

/-! ### < and the like, is -/
theorem op_ltD : OpR X (compareOp .Lt) (liftO X.K (oI0 fun i j => .bl (decide (i < j)))) := oI0_of op_lt fun _ _ _ => .bl _
theorem op_leD : OpR X (compareOp .LtE) (liftO X.K (oI0 fun i j => .bl (decide (i ≤ j)))) := oI0_of op_le fun _ _ _ => .bl _
theorem op_gtD : OpR X (compareOp .Gt) (liftO X.K (oI0 fun i j => .bl (decide (j < i)))) := oI0_of op_gt fun _ _ _ => .bl _
theorem op_geD : OpR X (compareOp .GtE) (liftO X.K (oI0 fun i j => .bl (decide (j ≤ i)))) := oI0_of op_ge fun _ _ _ => .bl _
def isNone : D → Bool
  | .non => true
  | _ => false
/-- is None; is of two bools -/
def isG (n : Bool) : DO := fun x y M Q => match y with
  | .non => Q (.bl (n != isNone x)) M
  | .bl b => match x with
    | .bl a => Q (.bl (n != decide (a = b))) M
    | _ => False
  | _ => False
theorem isNone_of {K : PySem.W.Frag} {H : Hp} {v : V} {d : D} (r : Rp K H v d) : decide (v = .non) = isNone d := by
  cases r <;> simp [isNone]
theorem op_isG : OpR X (compareOp .Is) (liftO X.K (isG false)) :=
  OpRimp ((op_isN (X := X)).or (op_isBl (X := X))) fun x y H Q ⟨dx, dy, M, Qd, q, a, b, c, k⟩ => by
    unfold isG at q
    split at q
    · exact .inl ⟨b.toNon, by rw [isNone_of a]; exact k _ M _ H (by simpa using q) .refl (.bl _) c⟩
    · split at q
      · exact .inr ⟨_, _, a.toBl, b.toBl, k _ M _ H (by simpa using q) .refl (.bl _) c⟩
      · exact q.elim
    · exact q.elim
theorem op_isNotG : OpR X (compareOp .IsNot) (liftO X.K (isG true)) :=
  OpRimp ((op_notN (X := X)).or (op_notBl (X := X))) fun x y H Q ⟨dx, dy, M, Qd, q, a, b, c, k⟩ => by
    unfold isG at q
    split at q
    · exact .inl ⟨b.toNon, by rw [isNone_of a]; exact k _ M _ H (by simpa using q) .refl (.bl _) c⟩
    · split at q
      · exact .inr ⟨_, _, a.toBl, b.toBl, k _ M _ H (by simpa using q) .refl (.bl _) c⟩
      · exact q.elim
    · exact q.elim

/-! ### comparisons and tests -/
theorem pd_cmp {op : CmpOp} {g : DO} {a b : Expr} {ta tb : DE} {pos : Pos} (ho : OpR X (compareOp op) (liftO X.K g)) (ha : PD X W a ta) (hb : PD X W b tb) (hm : behindInMarks op b = false) : PD X W (.Compare a [op] [b] pos) (dOp g ta tb) :=
  ⟨PEimp (pe_cmpR ho ha.run hb.run hm) fun _ _ _ h => dOp_lift h⟩
/-- a value that is a bool, as a test -/
def dB (t : DE) : DT := fun τ M Q E => t τ M (fun d M1 => match d with | .bl b => Q b M1 | _ => False) E
theorem dB_lift {t : DE} {σ : St} {H : Hp} {Q : Bool → Hp → Prop} (h : liftT X.K W (dB t) σ H Q) : liftE X.K W t σ H (fun x H1 => ∃ k, x = .bl k ∧ Q k H1) := by
  obtain ⟨τ, M, Qd, Ed, hs, hr, q, we, k⟩ := h
  refine ⟨τ, M, _, Ed, hs, hr, q, we, fun d M1 v H1 q1 e1 r1 h1 => ?_⟩
  dsimp only at q1
  split at q1
  · exact ⟨_, r1.toBl, k _ M1 H1 q1 e1 h1⟩
  · exact q1.elim
theorem pt_cmpD {op : CmpOp} {g : DO} {a b : Expr} {ta tb : DE} {pos : Pos} (ho : OpR X (compareOp op) (liftO X.K g)) (ha : PD X W a ta) (hb : PD X W b tb) (hm : behindInMarks op b = false) : PTD X W (.Compare a [op] [b] pos) (dB (dOp g ta tb)) :=
  ⟨PTimp (pt_cmpR ho ha.run hb.run hm) fun σ H Q h => dOp_lift (Q := fun x H1 => ∃ k, x = .bl k ∧ Q k H1) (W := W) (by
    obtain ⟨τ, M, Qd, Ed, hs, hr, q, we, k⟩ := h
    exact ⟨τ, M, _, Ed, hs, hr, q, we, fun d M1 v H1 q1 e1 r1 h1 => by
      dsimp only at q1
      split at q1
      · exact ⟨_, r1.toBl, k _ M1 H1 q1 e1 h1⟩
      · exact q1.elim⟩)⟩
theorem ptd_val {e : Expr} {t : DE} (h : PD X W e t) (he : ∀ whole, isTrue e X.env whole = (do let v ← whole; standAt e.pos; holding [v] (truthy v)) := by intro _; rfl) : PTD X W e (dB t) :=
  ⟨PTimp (pt_val h.run he) fun σ H Q h => dB_lift h⟩
/-- a value by its truth -/
def truD (d : D) (M : Mp) : Option Bool := match d with
  | .non => some false
  | .bl b => some b
  | .int i => some (i != 0)
  | .str x => if x.length ≤ sizeLine then some ((x.length : Int) != 0) else none
  | .tup xs => some (!xs.isEmpty)
  | .ref a => match M a with
    | some (.lst xs) => some (!xs.isEmpty)
    | some (.dk xs) => some (!xs.isEmpty)
    | _ => none
  | .ty _ => none
def dTru (t : DE) : DT := fun τ M Q E => t τ M (fun d M1 => match truD d M1 with | some b => Q b M1 | none => False) E
theorem KD.isEmpty {K : PySem.W.Frag} {H : Hp} {ps : List (Key × V)} {qs : List (Key × D)} (h : KD K H ps qs) : ps.isEmpty = qs.isEmpty := by
  cases ps <;> cases qs <;> first | rfl | exact h.elim
theorem truD_ok {K : PySem.W.Frag} {H : Hp} {M : Mp} {v : V} {d : D} {b : Bool} (r : Rp K H v d) (hr : HR K H M) (h : truD d M = some b) : TruV K v H b := by
  cases d with
  | non => cases r; exact (Option.some.inj h).symm
  | bl b => cases r; exact (Option.some.inj h).symm
  | int i => cases r; exact (Option.some.inj h).symm
  | str x =>
    cases r
    unfold truD at h
    by_cases c : x.length ≤ sizeLine
    · simp only [c, if_true] at h
      exact ⟨c, (Option.some.inj h).symm⟩
    · simp [c] at h
  | tup xs =>
    obtain ⟨a, vs, rfl, s, l⟩ := r.toTup
    exact .inr (.inl ⟨vs, s, by rw [l.isEmpty]; exact (Option.some.inj h).symm⟩)
  | ref a =>
    cases r
    have h' : (match M a with | some (.lst xs) => some (!xs.isEmpty) | some (.dk xs) => some (!xs.isEmpty) | _ => none) = some b := h
    cases e : M a with
    | none => rw [e] at h'; cases h'
    | some o =>
      rw [e] at h'
      cases o with
      | lst xs =>
        obtain ⟨vs, hv, l⟩ := hr.lst e
        exact .inl ⟨vs, SqL.of hv, by rw [l.isEmpty]; exact (Option.some.inj h').symm⟩
      | dk xs =>
        obtain ⟨vs, hv, l⟩ := hr.dk e
        exact .inr (.inr ⟨vs, hv, by rw [l.isEmpty]; exact (Option.some.inj h').symm⟩)
      | rol xs => cases h'
      | ins C xs => cases h'
      | xd xs => cases h'
      | rdk xs => cases h'
  | ty n => cases h
theorem ptd_tru {e : Expr} {t : DE} (h : PD X W e t) (he : ∀ whole, isTrue e X.env whole = (do let v ← whole; standAt e.pos; holding [v] (truthy v)) := by intro _; rfl) : PTD X W e (dTru t) :=
  ⟨PTimp (pt_truth h.run he) fun σ H Q ⟨τ, M, Qd, Ed, hs, hr, q, we, k⟩ => ⟨τ, M, _, Ed, hs, hr, q, we, fun d M1 v H1 q1 e1 r1 h1 => by
    dsimp only at q1
    split at q1
    · rename_i b eb
      exact ⟨b, truD_ok r1 h1 eb, k b M1 H1 q1 e1 h1⟩
    · exact q1.elim⟩⟩
def dAnd (t u : DT) : DT := fun τ M Q E => t τ M (fun c M1 => if c = true then u τ M1 Q E else Q false M1) E
def dOr (t u : DT) : DT := fun τ M Q E => t τ M (fun c M1 => if c = true then Q true M1 else u τ M1 Q E) E
def dNot (t : DT) : DT := fun τ M Q E => t τ M (fun c M1 => Q (!c) M1) E
section
variable {a b : Expr} {rest : List Expr} {t u : DT} {pos : Pos} {te ue : DE}
theorem PWD.pt {e : Expr} {t : DT} (h : PWD X W e t) : PTD X W e t := ⟨h.run.pt⟩
theorem pwd_and1 (h : PTD X W a t) : PWD X W (.BoolOp .And [a] pos) t := ⟨pw_and1 h.run⟩
theorem pwd_or1 (h : PTD X W a t) : PWD X W (.BoolOp .Or [a] pos) t := ⟨pw_or1 h.run⟩
theorem pwd_and (h : PTD X W a t) (hb : PWD X W (.BoolOp .And (b :: rest) pos) u) : PWD X W (.BoolOp .And (a :: b :: rest) pos) (dAnd t u) :=
  ⟨PWimp (pw_and h.run hb.run) fun σ H Q ⟨τ, M, Qd, Ed, hs, hr, q, we, k⟩ => ⟨τ, M, _, Ed, hs, hr, q, we, fun c M1 H1 q1 e1 h1 => by
    cases c with
    | true => exact ⟨τ, M1, Qd, Ed, hs.mono e1, h1, q1, we, fun b M2 H2 q2 e2 h2 => k b M2 H2 q2 (e1.trans e2) h2⟩
    | false => exact k false M1 H1 (by simpa using q1) e1 h1⟩⟩
theorem pwd_or (h : PTD X W a t) (hb : PWD X W (.BoolOp .Or (b :: rest) pos) u) : PWD X W (.BoolOp .Or (a :: b :: rest) pos) (dOr t u) :=
  ⟨PWimp (pw_or h.run hb.run) fun σ H Q ⟨τ, M, Qd, Ed, hs, hr, q, we, k⟩ => ⟨τ, M, _, Ed, hs, hr, q, we, fun c M1 H1 q1 e1 h1 => by
    cases c with
    | true => exact k true M1 H1 q1 e1 h1
    | false => exact ⟨τ, M1, Qd, Ed, hs.mono e1, h1, (by simpa using q1), we, fun b M2 H2 q2 e2 h2 => k b M2 H2 q2 (e1.trans e2) h2⟩⟩⟩
theorem ptd_not (h : PTD X W a t) : PTD X W (.UnaryOp .Not a pos) (dNot t) :=
  ⟨PTimp (pt_not h.run) fun σ H Q ⟨τ, M, Qd, Ed, hs, hr, q, we, k⟩ => ⟨τ, M, _, Ed, hs, hr, q, we, fun c M1 H1 q1 e1 h1 => k _ M1 H1 q1 e1 h1⟩⟩
/-- .. as values, all but the last bools -/
def dAndV (t u : DE) : DE := fun τ M Q E => t τ M (fun d M1 => match d with | .bl c => if c = true then u τ M1 Q E else Q (.bl false) M1 | _ => False) E
def dOrV (t u : DE) : DE := fun τ M Q E => t τ M (fun d M1 => match d with | .bl c => if c = true then Q (.bl true) M1 else u τ M1 Q E | _ => False) E
def dNotV (t : DE) : DE := fun τ M Q E => t τ M (fun d M1 => match d with | .bl c => Q (.bl (!c)) M1 | _ => False) E
theorem pd_one {op : BoolOp} (h : PD X W a te) : PD X W (.BoolOp op [a] pos) te := ⟨pe_one h.run⟩
theorem pd_and (h : PD X W a te) (hb : PD X W (.BoolOp .And (b :: rest) pos) ue) : PD X W (.BoolOp .And (a :: b :: rest) pos) (dAndV te ue) :=
  ⟨PEimp (pe_and h.run hb.run) fun σ H Q ⟨τ, M, Qd, Ed, hs, hr, q, we, k⟩ => ⟨τ, M, _, Ed, hs, hr, q, we, fun d M1 v H1 q1 e1 r1 h1 => by
    dsimp only at q1
    split at q1
    · rename_i c
      refine ⟨c, r1.toBl, ?_⟩
      cases c with
      | true => exact ⟨τ, M1, Qd, Ed, hs.mono e1, h1, q1, we, k.mono e1⟩
      | false => exact k _ M1 _ H1 (by simpa using q1) e1 (.bl _) h1
    · exact q1.elim⟩⟩
theorem pd_or (h : PD X W a te) (hb : PD X W (.BoolOp .Or (b :: rest) pos) ue) : PD X W (.BoolOp .Or (a :: b :: rest) pos) (dOrV te ue) :=
  ⟨PEimp (pe_or h.run hb.run) fun σ H Q ⟨τ, M, Qd, Ed, hs, hr, q, we, k⟩ => ⟨τ, M, _, Ed, hs, hr, q, we, fun d M1 v H1 q1 e1 r1 h1 => by
    dsimp only at q1
    split at q1
    · rename_i c
      refine ⟨c, r1.toBl, ?_⟩
      cases c with
      | true => exact k _ M1 _ H1 (by simpa using q1) e1 (.bl _) h1
      | false => exact ⟨τ, M1, Qd, Ed, hs.mono e1, h1, (by simpa using q1), we, k.mono e1⟩
    · exact q1.elim⟩⟩
theorem pd_not (h : PD X W a te) : PD X W (.UnaryOp .Not a pos) (dNotV te) :=
  ⟨PEimp (pe_not h.run) fun σ H Q ⟨τ, M, Qd, Ed, hs, hr, q, we, k⟩ => ⟨τ, M, _, Ed, hs, hr, q, we, fun d M1 v H1 q1 e1 r1 h1 => by
    dsimp only at q1
    split at q1
    · exact ⟨_, r1.toBl, k _ M1 _ H1 q1 e1 (.bl _) h1⟩
    · exact q1.elim⟩⟩
def dNeg (t : DE) : DE := fun τ M Q E => t τ M (fun d M1 => match d with | .int i => Q (.int (-i)) M1 | _ => False) E
theorem pd_neg (h : PD X W a te) : PD X W (.UnaryOp .USub a pos) (dNeg te) :=
  ⟨PEimp (pe_un un_neg h.run) fun σ H Q ⟨τ, M, Qd, Ed, hs, hr, q, we, k⟩ => ⟨τ, M, _, Ed, hs, hr, q, we, fun d M1 v H1 q1 e1 r1 h1 => by
    dsimp only at q1
    split at q1
    · exact ⟨_, r1.toInt, k _ M1 _ H1 q1 e1 (.int _) h1⟩
    · exact q1.elim⟩⟩
end
end
end DL

set_option maxHeartbeats 4000000
namespace DL
open PySem L2
section
variable {X : Cx} {W : DW} {e a b o : Expr} {es : List Expr} {te ta tb : DE} {t : DA} {pos p apos : Pos}

/-! ### argument lists, displays -/
def dNil : DA := fun _ M Q _ => Q [] M
def dCons (te : DE) (t : DA) : DA := fun τ M Q E => te τ M (fun d M1 => t τ M1 (fun ds M2 => Q (d :: ds) M2) E) E
theorem pad_nil : PAD X W [] dNil := ⟨PAimp pa_nil fun σ H Q ⟨τ, M, Qd, Ed, hs, hr, q, we, k⟩ => k [] M [] H q .refl .nil hr⟩
theorem pad_cons (he : PD X W e te) (h : PAD X W es t) (hs : starEach (e :: es) X.env = (false, eval e X.env) :: starEach es X.env := by rfl) : PAD X W (e :: es) (dCons te t) :=
  ⟨PAimp (pa_cons he.run h.run hs) fun σ H Q ⟨τ, M, Qd, Ed, hs, hr, q, we, k⟩ => ⟨τ, M, _, Ed, hs, hr, q, we, fun d M1 v H1 q1 e1 r1 h1 =>
    ⟨τ, M1, _, Ed, hs.mono e1, h1, q1, we, fun ds M2 vs H2 q2 e2 r2 h2 => k (d :: ds) M2 (v :: vs) H2 q2 (e1.trans e2) (.cons (r1.mono e2) r2) h2⟩⟩⟩
def dTup (t : DA) : DE := fun τ M Q E => t τ M (fun ds M1 => ds.length ≤ sizeLine ∧ Q (.tup ds) M1) E
def dLst (t : DA) : DE := fun τ M Q E => t τ M (fun ds M1 => ds.length ≤ sizeLine ∧ ∀ p, M1 p = none → Q (.ref p) (put M1 p (.lst ds))) E
theorem pd_tup {x1} (h : PAD X W es t) : PD X W (.Tuple es x1 pos) (dTup t) :=
  ⟨PEimp (pe_tup h.run) fun σ H Q ⟨τ, M, Qd, Ed, hs, hr, q, we, k⟩ => ⟨τ, M, _, Ed, hs, hr, q, we, fun ds M1 vs H1 q1 e1 r1 h1 =>
    ⟨by rw [r1.length]; exact q1.1, fun p hp => (k.mono e1).tup h1 r1 hp q1.2⟩⟩⟩
theorem pd_lst (h : PAD X W es t) : PD X W (.List es pos) (dLst t) :=
  ⟨PEimp (pe_lst h.run) fun σ H Q ⟨τ, M, Qd, Ed, hs, hr, q, we, k⟩ => ⟨τ, M, _, Ed, hs, hr, q, we, fun ds M1 vs H1 q1 e1 r1 h1 =>
    ⟨by rw [r1.length]; exact q1.1, fun p hp => (k.mono e1).lst h1 r1 hp q1.2⟩⟩⟩

/-! ### calls of what is built in -/
abbrev DG := List D → Mp → DK → Prop
def liftC (K : PySem.W.Frag) (g : DG) : List V → Hp → VK → Prop := fun xs H Q => ∃ ds M Qd, g ds M Qd ∧ RpL K H xs ds ∧ HR K H M ∧ KC K H Qd Q
def dCB (g : DG) (t : DA) : DE := fun τ M Q E => t τ M (fun ds M1 => g ds M1 Q) E
theorem dCB_lift {g : DG} {σ : St} {H : Hp} {Q : VK} (h : liftE X.K W (dCB g t) σ H Q) : tCB (liftC X.K g) (liftA X.K W t) σ H Q := by
  obtain ⟨τ, M, Qd, Ed, hs, hr, q, we, k⟩ := h
  exact ⟨τ, M, _, Ed, hs, hr, q, we, fun ds M1 vs H1 q1 e1 r1 h1 => ⟨ds, M1, Qd, q1, r1, h1, k.mono e1⟩⟩
theorem CallRimp {f : Value} {r r' : List V → Hp → VK → Prop} (h : CallR X f r) (i : ∀ xs H Q, r' xs H Q → r xs H Q) : CallR X f r' := fun pins s σ H xs us Q I rs q => h pins s σ H xs us Q I rs (i xs H Q q)
theorem pd_callB {id : String} {x : Str} {g : DG} (hc : CallR X (.builtin id) (liftC X.K g)) (hg : Gl X x) (hm : X.mg x = none) (hv : bootBuiltins x = some (.builtin id)) (ha : PAD X W (e :: es) t) (hn : x ≠ "__name__" := by decide) (hdb : (x == ("__debug__" : Str)) = false := by decide)
    (he : starEach (e :: es) X.env = (false, eval e X.env) :: starEach es X.env := by rfl) (hpl : (backTo pos (starEach es X.env)).any (·.1) = false := by rfl) :
    PD X W (.Call (.Name x p) (e :: es) [] pos) (dCB g t) := ⟨PEimp (pe_callB hc hg hm hv ha.run hn hdb he hpl) fun _ _ _ h => dCB_lift h⟩
theorem pd_callT {T : String} {x : Str} {g : DG} (hc : CallR X (.type T) (liftC X.K g)) (hg : Gl X x) (hm : X.mg x = none) (hv : bootBuiltins x = some (.type T)) (ha : PAD X W (e :: es) t) (hn : x ≠ "__name__" := by decide) (hdb : (x == ("__debug__" : Str)) = false := by decide)
    (he : starEach (e :: es) X.env = (false, eval e X.env) :: starEach es X.env := by rfl) (hpl : (backTo pos (starEach es X.env)).any (·.1) = false := by rfl) :
    PD X W (.Call (.Name x p) (e :: es) [] pos) (dCB g t) := ⟨PEimp (pe_callTy hc hg hm hv ha.run hn hdb he hpl) fun _ _ _ h => dCB_lift h⟩
theorem RpL.one {K : PySem.W.Frag} {H : Hp} {vs : List V} {d : D} (h : RpL K H vs [d]) : ∃ v, vs = [v] ∧ Rp K H v d := by
  cases h with
  | cons r l => cases l; exact ⟨_, rfl, r⟩
theorem RpL.two {K : PySem.W.Frag} {H : Hp} {vs : List V} {d d' : D} (h : RpL K H vs [d, d']) : ∃ v v', vs = [v, v'] ∧ Rp K H v d ∧ Rp K H v' d' := by
  cases h with
  | cons r l => obtain ⟨v, rfl, q⟩ := l.one; exact ⟨_, _, rfl, r, q⟩
/-- len -/
def lenD (d : D) (M : Mp) : Option Nat := match d with
  | .tup xs => some xs.length
  | .str x => if x.length ≤ sizeLine then some x.length else none
  | .ref a => match M a with
    | some (.lst xs) => some xs.length
    | some (.rol xs) => some xs.length
    | _ => none
  | _ => none
def lenG : DG := fun ds M Q => match ds with
  | [d] => match lenD d M with
    | some n => Q (.int n) M
    | none => False
  | _ => False
theorem HR.rol {K : PySem.W.Frag} {H : Hp} {M : Mp} {a : Addr} {ds : List D} (h : HR K H M) (e : M a = some (.rol ds)) : ∃ o xs, H a = some (.frz o (.lst xs)) ∧ RpL K H xs ds := h a _ e
/-- the items of a list that is read -/
def seqOf (M : Mp) (a : Addr) : Option (List D) := match M a with
  | some (.lst xs) => some xs
  | some (.rol xs) => some xs
  | _ => none
theorem seqOf_ok {K : PySem.W.Frag} {H : Hp} {M : Mp} {a : Addr} {ds : List D} (hr : HR K H M) (h : seqOf M a = some ds) : ∃ xs, SqL K H a xs ∧ RpL K H xs ds := by
  unfold seqOf at h
  cases e : M a with
  | none => rw [e] at h; cases h
  | some o =>
    rw [e] at h
    cases o with
    | lst xs => cases h; obtain ⟨vs, q, l⟩ := hr.lst e; exact ⟨vs, .of q, l⟩
    | rol xs => cases h; obtain ⟨o, vs, q, l⟩ := hr.rol e; exact ⟨vs, .inl (.inr ⟨o, q⟩), l⟩
    | dk xs => cases h
    | ins C xs => cases h
    | xd xs => cases h
    | rdk xs => cases h
theorem lenD_ok {K : PySem.W.Frag} {H : Hp} {M : Mp} {v : V} {d : D} {n : Nat} (r : Rp K H v d) (hr : HR K H M) (h : lenD d M = some n) : LenV K v H n := by
  cases d with
  | tup xs =>
    obtain ⟨a, vs, rfl, s, l⟩ := r.toTup
    cases h
    exact .inr ⟨vs, s, l.length.symm⟩
  | str x =>
    cases r
    have h' : (if x.length ≤ sizeLine then some x.length else none) = some n := h
    by_cases c : x.length ≤ sizeLine
    · rw [if_pos c] at h'; cases h'; exact ⟨c, rfl⟩
    · rw [if_neg c] at h'; cases h'
  | ref a =>
    cases r
    have h' : (match M a with | some (.lst xs) => some xs.length | some (.rol xs) => some xs.length | _ => none) = some n := h
    have : ∃ ds, seqOf M a = some ds ∧ ds.length = n := by
      unfold seqOf
      cases e : M a with
      | none => rw [e] at h'; cases h'
      | some o => rw [e] at h'; cases o <;> first | (cases h'; exact ⟨_, rfl, rfl⟩) | cases h'
    obtain ⟨ds, e, rfl⟩ := this
    obtain ⟨xs, s, l⟩ := seqOf_ok hr e
    exact .inl ⟨xs, s, l.length.symm⟩
  | _ => cases h
theorem call_lenG : CallR X (.builtin "len") (liftC X.K lenG) := CallRimp call_len fun xs H Q ⟨ds, M, Qd, q, r, hr, k⟩ => by
  unfold lenG at q
  split at q
  · rename_i d
    obtain ⟨v, rfl, rv⟩ := r.one
    split at q
    · rename_i n e
      exact ⟨v, n, rfl, lenD_ok rv hr e, k _ M _ H q .refl (.int _) hr⟩
    · exact q.elim
  · exact q.elim
/-- int(n), int(flag) -/
def intG : DG := fun ds M Q => match ds with
  | [.int i] => Q (.int i) M
  | [.bl b] => Q (.int (if b then 1 else 0)) M
  | _ => False
theorem call_intG : CallR X (.type "int") (liftC X.K intG) := CallRimp call_int1 fun xs H Q ⟨ds, M, Qd, q, r, hr, k⟩ => by
  unfold intG at q
  split at q
  · obtain ⟨v, rfl, rv⟩ := r.one
    rw [rv.toInt]
    exact .inl ⟨_, rfl, k _ M _ H q .refl (.int _) hr⟩
  · obtain ⟨v, rfl, rv⟩ := r.one
    rw [rv.toBl]
    exact .inr ⟨_, rfl, k _ M _ H q .refl (.int _) hr⟩
  · exact q.elim
/-- tuple(..), list(..) -/
def tupG : DG := fun ds M Q => match ds with
  | [.tup xs] => Q (.tup xs) M
  | [.ref a] => match seqOf M a with
    | some xs => Q (.tup xs) M
    | none => False
  | _ => False
theorem call_tupG : CallR X (.type "tuple") (liftC X.K tupG) := CallRimp call_tuple_of fun xs H Q ⟨ds, M, Qd, q, r, hr, k⟩ => by
  unfold tupG at q
  split at q
  · obtain ⟨v, rfl, rv⟩ := r.one
    obtain ⟨a, vs, rfl, s, l⟩ := rv.toTup
    exact ⟨a, vs, rfl, .inr ⟨s, k _ M _ H q .refl (.tup s l) hr⟩⟩
  · obtain ⟨v, rfl, rv⟩ := r.one
    rw [rv.toRef]
    split at q
    · rename_i xs e
      obtain ⟨vs, s, l⟩ := seqOf_ok hr e
      exact ⟨_, vs, rfl, .inl ⟨s, fun p hp => k.tup hr l hp q⟩⟩
    · exact q.elim
  · exact q.elim
def lstG : DG := fun ds M Q => match ds with
  | [.tup xs] => ∀ p, M p = none → Q (.ref p) (put M p (.lst xs))
  | [.ref a] => match seqOf M a with
    | some xs => ∀ p, M p = none → Q (.ref p) (put M p (.lst xs))
    | none => False
  | _ => False
theorem call_lstG : CallR X (.type "list") (liftC X.K lstG) := CallRimp call_list_of fun xs H Q ⟨ds, M, Qd, q, r, hr, k⟩ => by
  unfold lstG at q
  split at q
  · obtain ⟨v, rfl, rv⟩ := r.one
    obtain ⟨a, vs, rfl, s, l⟩ := rv.toTup
    exact ⟨a, vs, rfl, .inr s, fun p hp => k.lst hr l hp q⟩
  · obtain ⟨v, rfl, rv⟩ := r.one
    rw [rv.toRef]
    split at q
    · rename_i xs e
      obtain ⟨vs, s, l⟩ := seqOf_ok hr e
      exact ⟨_, vs, rfl, .inl s, fun p hp => k.lst hr l hp q⟩
    · exact q.elim
  · exact q.elim
/-- all, any of a list of bools -/
def blsOf : List D → Option (List Bool)
  | [] => some []
  | .bl b :: ds => (blsOf ds).map (b :: ·)
  | _ :: _ => none
theorem blsOf_map : ∀ bs : List Bool, blsOf (bs.map D.bl) = some bs
  | [] => rfl
  | b :: bs => by simp [blsOf, blsOf_map bs]
theorem blsOf_ok : ∀ {ds : List D} {bs : List Bool}, blsOf ds = some bs → ds = bs.map D.bl
  | [], bs, h => by cases h; rfl
  | d :: ds, bs, h => by
    cases d with
    | bl b =>
      have h' : (blsOf ds).map (b :: ·) = some bs := h
      cases e : blsOf ds with
      | none => rw [e] at h'; cases h'
      | some cs => rw [e] at h'; cases h'; rw [blsOf_ok e]; rfl
    | _ => cases h
def allG (f : List Bool → Bool) : DG := fun ds M Q => match ds with
  | [.ref a] => match (seqOf M a).bind blsOf with
    | some bs => Q (.bl (f bs)) M
    | none => False
  | _ => False
theorem allG_of {id : String} {f : List Bool → Bool} (h : CallR X (.builtin id) fun vs H Q => ∃ (a : Addr) (bs : List Bool), vs = [V.ref a] ∧ SqL X.K H a (bs.map V.bl) ∧ Q (.bl (f bs)) H) : CallR X (.builtin id) (liftC X.K (allG f)) := CallRimp h fun xs H Q ⟨ds, M, Qd, q, r, hr, k⟩ => by
  unfold allG at q
  split at q
  · obtain ⟨v, rfl, rv⟩ := r.one
    rw [rv.toRef]
    split at q
    · rename_i bs e
      obtain ⟨ds, e1, e2⟩ := Option.bind_eq_some_iff.mp e
      obtain ⟨vs, s, l⟩ := seqOf_ok hr e1
      have e3 := blsOf_ok e2
      subst e3
      exact ⟨_, bs, rfl, by rw [← l.bls]; exact s, k _ M _ H q .refl (.bl _) hr⟩
    · exact q.elim
  · exact q.elim
theorem call_allG (hc : X.calm = true) : CallR X (.builtin "all") (liftC X.K (allG fun bs => bs.all id)) := allG_of (cr_all hc)
theorem call_anyG (hc : X.calm = true) : CallR X (.builtin "any") (liftC X.K (allG fun bs => bs.any id)) := allG_of (cr_any hc)
/-- max, min of two ints -/
def mmG (f : Int → Int → Int) : DG := fun ds M Q => match ds with
  | [.int i, .int j] => Q (.int (f i j)) M
  | _ => False
theorem call_maxG (hc : X.calm = true) : CallR X (.builtin "max") (liftC X.K (mmG fun i j => if j > i then j else i)) := CallRimp (call_max2 hc) fun xs H Q ⟨ds, M, Qd, q, r, hr, k⟩ => by
  unfold mmG at q
  split at q
  · obtain ⟨v, v', rfl, rv, rv'⟩ := r.two
    rw [rv.toInt, rv'.toInt]
    exact ⟨_, _, rfl, k _ M _ H q .refl (.int _) hr⟩
  · exact q.elim
theorem call_minG (hc : X.calm = true) : CallR X (.builtin "min") (liftC X.K (mmG fun i j => if j < i then j else i)) := CallRimp (call_min2 hc) fun xs H Q ⟨ds, M, Qd, q, r, hr, k⟩ => by
  unfold mmG at q
  split at q
  · obtain ⟨v, v', rfl, rv, rv'⟩ := r.two
    rw [rv.toInt, rv'.toInt]
    exact ⟨_, _, rfl, k _ M _ H q .refl (.int _) hr⟩
  · exact q.elim

/-! ### isinstance -/
/-- what the written part says of a class whose instances are asked -/
structure InsK (K : PySem.W.Frag) (C : Addr) : Prop where
  cl : Cls K C
  ha : PySem.W.findIn K (.ref C) "__class__" = some (some (.builtin "object.__class__"))
  hn : PySem.W.specialIn K (.builtin "object.__class__") "__get__" = some (some (.builtin "getset_descriptor.__get__"))
  htk : PySem.W.takesIn K (.builtin "object.__class__") = some true
  hm : PySem.W.mroIn K C (.type "object") = some true
def tyName (d : D) (M : Mp) : Option String := match d with
  | .non => some "NoneType"
  | .bl _ => some "bool"
  | .int _ => some "int"
  | .str _ => some "str"
  | .tup _ => some "tuple"
  | .ref a => match M a with
    | some (.lst _) => some "list"
    | some (.rol _) => some "list"
    | some (.dk _) => some "dict"
    | _ => none
  | .ty _ => none
def clsOf (d : D) (M : Mp) : Option Addr := match d with
  | .ref a => match M a with
    | some (.ins C _) => some C
    | _ => none
  | _ => none
theorem tyName_ok {K : PySem.W.Frag} {H : Hp} {M : Mp} {v : V} {d : D} {n : String} (r : Rp K H v d) (hr : HR K H M) (h : tyName d M = some n) : TyX K H v (.type n) := by
  cases d with
  | non => cases r; cases h; exact .base .non
  | bl b => cases r; cases h; exact .base (.bl b)
  | int b => cases r; cases h; exact .base (.int b)
  | str b => cases r; cases h; exact .base (.str b)
  | tup xs =>
    obtain ⟨a, vs, rfl, s, l⟩ := r.toTup
    cases h
    rcases s with (s | ⟨o, s⟩) | ⟨o, its, m, s, c, _⟩
    · exact .base (.tup s)
    · exact .fTuple s
    · exact .kTuple s c
  | ref a =>
    cases r
    have h' : (match M a with | some (.lst _) => some "list" | some (.rol _) => some "list" | some (.dk _) => some "dict" | _ => none) = some n := h
    cases e : M a with
    | none => rw [e] at h'; cases h'
    | some o =>
      rw [e] at h'
      cases o with
      | lst xs => cases h'; obtain ⟨vs, q, _⟩ := hr.lst e; exact .base (.lst q)
      | rol xs => cases h'; obtain ⟨o, vs, q, _⟩ := hr.rol e; exact .base (.frz q)
      | dk xs => cases h'; obtain ⟨vs, q, _⟩ := hr.dk e; exact .base (.dK q)
      | ins C xs => cases h'
      | xd xs => cases h'
      | rdk xs => cases h'
  | ty n => cases h
theorem clsOf_ok {K : PySem.W.Frag} {H : Hp} {M : Mp} {v : V} {d : D} {C : Addr} (r : Rp K H v d) (hr : HR K H M) (h : clsOf d M = some C) (i : InsK K C) : TyX K H v (.ref C) := by
  cases d with
  | ref a =>
    cases r
    have h' : (match M a with | some (.ins C _) => some C | _ => none) = some C := h
    cases e : M a with
    | none => rw [e] at h'; cases h'
    | some o =>
      rw [e] at h'
      cases o with
      | ins C' xs => cases h'; obtain ⟨dx, vs, q, _⟩ := hr.ins e; exact .base (.ins q i.cl i.ha i.hn i.htk i.hm)
      | _ => cases h'
  | _ => cases h
def isB (a b : String) : Bool := decide (a = b) || (decide (a = "bool") && decide (b = "int"))
theorem kit_isB {a b : String} (ha : a ∈ ["NoneType", "bool", "int", "str", "tuple", "list", "dict"]) (hb : b ∈ ["bool", "int", "str", "tuple", "list", "dict"]) : kitB a b = some (isB a b) := by
  simp only [List.mem_cons, List.not_mem_nil, or_false] at ha hb
  rcases ha with rfl | rfl | rfl | rfl | rfl | rfl | rfl <;> rcases hb with rfl | rfl | rfl | rfl | rfl | rfl <;> decide +kernel
theorem tyName_mem {d : D} {M : Mp} {n : String} (h : tyName d M = some n) : n ∈ ["NoneType", "bool", "int", "str", "tuple", "list", "dict"] := by
  cases d with
  | ref a =>
    have h' : (match M a with | some (.lst _) => some "list" | some (.rol _) => some "list" | some (.dk _) => some "dict" | _ => none) = some n := h
    cases e : M a with
    | none => rw [e] at h'; cases h'
    | some o => rw [e] at h'; cases o <;> first | (cases h'; simp) | cases h'
  | ty n => cases h
  | _ => cases h; simp
def isiG (K : PySem.W.Frag) : DG := fun ds M Q => match ds with
  | [x, .ty b] => b ∈ ["bool", "int", "str", "tuple", "list", "dict"] ∧ match tyName x M with
    | some a => Q (.bl (isB a b)) M
    | none => ∃ C, clsOf x M = some C ∧ InsK K C ∧ PySem.W.kitOne K (.ref C) (.type b) = some false ∧ Q (.bl false) M
  | [x, .ref C'] => match tyName x M with
    | some a => PySem.W.kitOne K (.type a) (.ref C') = some false ∧ Q (.bl false) M
    | none => ∃ C r, clsOf x M = some C ∧ InsK K C ∧ PySem.W.kitOne K (.ref C) (.ref C') = some r ∧ Q (.bl r) M
  | _ => False
theorem call_isiG : CallR X (.builtin "isinstance") (liftC X.K (isiG X.K)) := CallRimp call_isi fun xs H Q ⟨ds, M, Qd, q, r, hr, k⟩ => by
  unfold isiG at q
  split at q
  · rename_i x b
    obtain ⟨v, v', rfl, rv, rv'⟩ := r.two
    rw [rv'.toTy]
    obtain ⟨hb, q⟩ := q
    split at q
    · rename_i a ea
      exact ⟨v, _, _, _, _, rfl, .ty b, tyName_ok rv hr ea, kit_ty (kit_isB (tyName_mem ea) hb), k _ M _ H q .refl (.bl _) hr⟩
    · obtain ⟨C, ec, i, kk, q⟩ := q
      exact ⟨v, _, _, _, _, rfl, .ty b, clsOf_ok rv hr ec i, kk, k _ M _ H q .refl (.bl _) hr⟩
  · rename_i x C'
    obtain ⟨v, v', rfl, rv, rv'⟩ := r.two
    rw [rv'.toRef]
    split at q
    · rename_i a ea
      exact ⟨v, _, _, _, _, rfl, .own C', tyName_ok rv hr ea, q.1, k _ M _ H q.2 .refl (.bl _) hr⟩
    · obtain ⟨C, r, ec, i, kk, q⟩ := q
      exact ⟨v, _, _, _, _, rfl, .own C', clsOf_ok rv hr ec i, kk, k _ M _ H q .refl (.bl _) hr⟩
  · exact q.elim

/-! ### subscripts, slices, attributes -/
def ixG : DO := fun x y M Q => match x, y with
  | .tup xs, .int i => match atI xs i with
    | some d => Q d M
    | none => False
  | .ref a, .int i => match (seqOf M a).bind (atI · i) with
    | some d => Q d M
    | none => False
  | .str z, .int i => z.length ≤ sizeLine ∧ match atI z.cps.toList i with
    | some c => Q (.str ⟨#[c]⟩) M
    | none => False
  | _, _ => False
theorem RpL.atI {K : PySem.W.Frag} {H : Hp} {xs : List V} {ds : List D} {i : Int} {d : D} (l : RpL K H xs ds) (h : L2.atI ds i = some d) : ∃ v, L2.atI xs i = some v ∧ Rp K H v d := by
  unfold L2.atI at h ⊢
  rw [l.length]
  obtain ⟨j, e1, e2⟩ := Option.bind_eq_some_iff.mp h
  obtain ⟨v, e3, r⟩ := l.get e2
  exact ⟨v, by rw [e1]; exact e3, r⟩
theorem IxRimp {r r' : R2} (h : IxR X r) (i : ∀ x y H Q, r' x y H Q → r x y H Q) : IxR X r' := fun value slice pins s σ H x y v u Q I rx ry q hs => h value slice pins s σ H x y v u Q I rx ry (i x y H Q q) hs
theorem ix_G : IxR X (liftO X.K ixG) := IxRimp ix_seq fun x y H Q ⟨dx, dy, M, Qd, q, a, b, c, k⟩ => by
  unfold ixG at q
  split at q
  · obtain ⟨p, vs, rfl, s, l⟩ := a.toTup
    split at q
    · rename_i d e
      obtain ⟨v, ev, rv⟩ := l.atI e
      exact .inr (.inl ⟨p, vs, _, v, rfl, b.toInt, s, ev, k _ M _ H q .refl rv c⟩)
    · exact q.elim
  · split at q
    · rename_i d e
      obtain ⟨xs, e1, e2⟩ := Option.bind_eq_some_iff.mp e
      obtain ⟨vs, s, l⟩ := seqOf_ok c e1
      obtain ⟨v, ev, rv⟩ := l.atI e2
      exact .inl ⟨_, vs, _, v, a.toRef, b.toInt, s, ev, k _ M _ H q .refl rv c⟩
    · exact q.elim
  · obtain ⟨hz, q⟩ := q
    split at q
    · rename_i d e
      exact .inr (.inr ⟨_, _, _, a.toStr, b.toInt, hz, e, k _ M _ H q .refl (.str _) c⟩)
    · exact q.elim
  · exact q.elim
theorem pd_ix {g : DO} (hg : IxR X (liftO X.K g)) (ha : PD X W a ta) (hb : PD X W b tb) (hs : PlainIx b) : PD X W (.Subscript a b pos) (dOp g ta tb) :=
  ⟨PEimp (pe_ix hg ha.run hb.run hs) fun _ _ _ h => dOp_lift h⟩
/-- a slice's part -/
abbrev DP := Sl → Mp → (Option Int → Mp → Prop) → EK → Prop
def liftP (K : PySem.W.Frag) (W : DW) (t : DP) : TO := fun σ H Q => ∃ τ M Qd Ed, RS K W.h0 H σ τ ∧ HR K H M ∧ t τ M Qd Ed ∧ (∀ x M', Ed x M' → W.w x τ M') ∧ (∀ b M' H', Qd b M' → TExt K H H' → HR K H' M' → Q b H')
structure POD (X : Cx) (W : DW) (e : Option Expr) (t : DP) : Prop where
  run : PO X e (liftP X.K W t)
def dNoP : DP := fun _ M Q _ => Q none M
def dPart (t : DE) : DP := fun τ M Q E => t τ M (fun d M1 => match d with | .int i => Q (some i) M1 | _ => False) E
theorem POimp {e : Option Expr} {t t' : TO} (h : PO X e t) (i : ∀ σ H Q, t' σ H Q → t σ H Q) : PO X e t' := ⟨fun pins s σ H Q I q => h.run pins s σ H Q I (i σ H Q q)⟩
theorem pod_none : POD X W none dNoP := ⟨POimp po_none fun σ H Q ⟨τ, M, Qd, Ed, hs, hr, q, we, k⟩ => k none M H q .refl hr⟩
theorem pod_some (h : PD X W e te) : POD X W (some e) (dPart te) := ⟨POimp (po_some h.run) fun σ H Q ⟨τ, M, Qd, Ed, hs, hr, q, we, k⟩ => ⟨τ, M, _, Ed, hs, hr, q, we, fun d M1 v H1 q1 e1 r1 h1 => by
  dsimp only at q1
  split at q1
  · exact ⟨_, r1.toInt, k _ M1 H1 q1 e1 h1⟩
  · exact q1.elim⟩⟩
def cutD (xs : List D) (lo hi : Option Int) : List D := (xs.drop (HT.sIx xs.length 0 lo)).take (HT.sIx xs.length xs.length hi - HT.sIx xs.length 0 lo)
theorem RpL.cut {K : PySem.W.Frag} {H : Hp} {xs : List V} {ds : List D} {lo hi : Option Int} (l : RpL K H xs ds) : RpL K H (cutV xs lo hi) (cutD ds lo hi) := by
  unfold cutV cutD
  rw [l.length]
  exact (l.drop _).take _
def slG (x : D) (lo hi : Option Int) (M : Mp) (Q : DK) : Prop := match x with
  | .tup xs => Q (.tup (cutD xs lo hi)) M
  | .ref a => match seqOf M a with
    | some xs => ∀ p, M p = none → Q (.ref p) (put M p (.lst (cutD xs lo hi)))
    | none => False
  | .str z => z.length ≤ sizeLine ∧ Q (.str (cutS z lo hi)) M
  | _ => False
theorem sIx_whole {n : Nat} {lo hi : Option Int} {xs : List D} (hn : xs.length = n) (h : HT.sIx n 0 lo = 0 ∧ HT.sIx n n hi = n) : cutD xs lo hi = xs := by
  unfold cutD
  rw [hn, h.1, h.2, ← hn]
  simp
def dSl (te : DE) (tl th : DP) : DE := fun τ M Q E => te τ M (fun x M1 => tl τ M1 (fun lo M2 => th τ M2 (fun hi M3 => slG x lo hi M3 Q) E) E) E
def liftSl (K : PySem.W.Frag) : V → Option Int → Option Int → Hp → VK → Prop := fun x lo hi H Q => ∃ d M Qd, slG d lo hi M Qd ∧ Rp K H x d ∧ HR K H M ∧ KC K H Qd Q
theorem sl_G : SlR X (liftSl X.K) := by
  have h := (sl_tupA (X := X)).or ((sl_list (X := X)).or (sl_str (X := X)))
  intro pins s σ H x v vl vu lo hi sl Q I rx hs pl pu ⟨d, M, Qd, q, r, hr, k⟩
  refine h pins s σ H x v vl vu lo hi sl Q I rx hs pl pu ?_
  unfold slG at q
  split at q
  · obtain ⟨p, vs, rfl, s, l⟩ := r.toTup
    refine .inl ⟨p, vs, rfl, s, fun hw => ?_, fun _ p hp => k.tup hr l.cut hp q⟩
    rw [sIx_whole l.length.symm hw] at q
    exact k _ M _ H q .refl (.tup s l) hr
  · split at q
    · rename_i xs e
      obtain ⟨vs, s, l⟩ := seqOf_ok hr e
      exact .inr (.inl ⟨_, vs, r.toRef, s, fun p hp => k.lst hr l.cut hp q⟩)
    · exact q.elim
  · exact .inr (.inr ⟨_, r.toStr, q.1, k _ M _ H q.2 .refl (.str _) hr⟩)
  · exact q.elim
theorem pd_slice {lo hi : Option Expr} {tl th : DP} {p2 : Pos} (he : PD X W e te) (hl : POD X W lo tl) (hh : POD X W hi th) : PD X W (.Subscript e (.Slice lo hi none p2) pos) (dSl te tl th) :=
  ⟨PEimp (pe_slice sl_G he.run hl.run hh.run) fun σ H Q ⟨τ, M, Qd, Ed, hs, hr, q, we, k⟩ => ⟨τ, M, _, Ed, hs, hr, q, we, fun x M1 v H1 q1 e1 r1 h1 =>
    ⟨τ, M1, _, Ed, hs.mono e1, h1, q1, we, fun lo M2 H2 q2 e2 h2 => ⟨τ, M2, _, Ed, hs.mono (e1.trans e2), h2, q2, we, fun hi M3 H3 q3 e3 h3 =>
      ⟨x, M3, Qd, q3, r1.mono (e2.trans e3), h3, k.mono (e1.trans (e2.trans e3))⟩⟩⟩⟩⟩
/-- an attribute of an instance -/
def FldK (K : PySem.W.Frag) (C : Addr) (f : Str) : Prop := Cls K C ∧ NoAttr K C f
def dFld (K : PySem.W.Frag) (te : DE) (f : Str) : DE := fun τ M Q E => te τ M (fun d M1 => match d with
  | .ref a => match M1 a with
    | some (.ins C fs) => FldK K C f ∧ match fs.lookup f with
      | some v => Q v M1
      | none => False
    | _ => False
  | _ => False) E
theorem FD.look {K : PySem.W.Frag} {H : Hp} {f : Str} : ∀ {vs : List (Str × V)} {fs : List (Str × D)}, FD K H vs fs → ∀ {d : D}, fs.lookup f = some d → ∃ v, vs.lookup f = some v ∧ Rp K H v d
  | [], [], _, d, h => by cases h
  | p :: ps, q :: qs, ⟨e, r, l⟩, d, h => by
    obtain ⟨p1, p2⟩ := p
    obtain ⟨q1, q2⟩ := q
    simp only at e r
    subst e
    by_cases c : (f == p1) = true
    · rw [List.lookup_cons, c] at h ⊢
      cases h
      exact ⟨p2, rfl, r⟩
    · have c' : (f == p1) = false := by simpa using c
      rw [List.lookup_cons, c'] at h ⊢
      exact FD.look l h
  | [], _ :: _, h, _, _ => h.elim
  | _ :: _, [], h, _, _ => h.elim
theorem pd_fld {f : Str} (he : PD X W e te) (hb : attributeBase e f X.env (eval e X.env) = eval e X.env := by rfl) : PD X W (.Attribute e f pos) (dFld X.K te f) :=
  ⟨PEimp (pe_fld he.run hb) fun σ H Q ⟨τ, M, Qd, Ed, hs, hr, q, we, k⟩ => ⟨τ, M, _, Ed, hs, hr, q, we, fun d M1 v H1 q1 e1 r1 h1 => by
    dsimp only at q1
    split at q1
    · rename_i a
      split at q1
      · rename_i C fs ea
        obtain ⟨⟨c, n⟩, q1⟩ := q1
        split at q1
        · rename_i y ey
          obtain ⟨dx, vs, hv, fd⟩ := h1.ins ea
          obtain ⟨w, ew, rw'⟩ := fd.look ey
          exact ⟨a, C, dx, vs, w, r1.toRef, hv, c, n, ew, k _ M1 _ H1 q1 e1 rw' h1⟩
        · exact q1.elim
      · exact q1.elim
    · exact q1.elim⟩⟩
end
end DL

set_option maxHeartbeats 4000000
namespace DL
open PySem L2

/-! ### statements -/
section
variable {X : Cx} {W : DW} {e : Expr} {st : Stmt} {rest : List Stmt} {t u : DS} {te : DE} {pos : Pos}
def dNext : DS := fun Dn τ M => Dn.nx τ M
def dSeq (t u : DS) : DS := fun Dn τ M => t { Dn with nx := u Dn } τ M
theorem pssd_nil : PSsD X W [] dNext := ⟨PSsimp pss_nil fun De σ H ⟨τ, M, Dd, hs, hr, q, we, nc⟩ => nc.nx τ M σ H q .refl hs hr⟩
theorem pssd_cons (h1 : PSD X W st t) (h2 : PSsD X W rest u) : PSsD X W (st :: rest) (dSeq t u) :=
  ⟨PSsimp (pss_cons h1.run h2.run) fun De σ H ⟨τ, M, Dd, hs, hr, q, we, nc⟩ => ⟨τ, M, _, hs, hr, q, we,
    ⟨fun τ' M' σ' H' q' e' hs' hr' => ⟨τ', M', Dd, hs', hr', q', we, nc.mono e'⟩, nc.rt, nc.bk, nc.ct⟩⟩⟩
theorem pssd_one (h1 : PSD X W st t) : PSsD X W [st] t := ⟨PSsimp (pss_one h1.run) fun De σ H h => h⟩
def dBreak : DS := fun Dn τ M => Dn.bk τ M
def dCont : DS := fun Dn τ M => Dn.ct τ M
theorem psd_pass : PSD X W (.Pass pos) dNext := ⟨PSimp ps_pass fun De σ H ⟨τ, M, Dd, hs, hr, q, we, nc⟩ => nc.nx τ M σ H q .refl hs hr⟩
theorem psd_break : PSD X W (.Break pos) dBreak := ⟨PSimp ps_break fun De σ H ⟨τ, M, Dd, hs, hr, q, we, nc⟩ => nc.bk τ M σ H q .refl hs hr⟩
theorem psd_cont : PSD X W (.Continue pos) dCont := ⟨PSimp ps_continue fun De σ H ⟨τ, M, Dd, hs, hr, q, we, nc⟩ => nc.ct τ M σ H q .refl hs hr⟩
/-- what an expression lets out -/
abbrev exOf (Dn : DN) (τ : Sl) : EK := fun x M => Dn.ex x τ M
def dDrop (te : DE) : DS := fun Dn τ M => te τ M (fun _ M1 => Dn.nx τ M1) (exOf Dn τ)
theorem psd_expr (he : PD X W e te) (hs : swapsWith e none pos.line X.env = pure false := by rfl) : PSD X W (.Expr e pos) (dDrop te) :=
  ⟨PSimp (ps_expr he.run hs) fun De σ H ⟨τ, M, Dd, hs, hr, q, we, nc⟩ => ⟨τ, M, _, _, hs, hr, q, fun x M' h => we x τ M' h, fun d M1 v H1 q1 e1 r1 h1 => nc.nx τ M1 σ H1 q1 e1 (hs.mono e1) h1⟩⟩
def dRet (te : DE) : DS := fun Dn τ M => te τ M Dn.rt (exOf Dn τ)
theorem psd_ret (he : PD X W e te) : PSD X W (.Return (some e) pos) (dRet te) :=
  ⟨PSimp (ps_ret he.run) fun De σ H ⟨τ, M, Dd, hs, hr, q, we, nc⟩ => ⟨τ, M, _, _, hs, hr, q, fun x M' h => we x τ M' h, fun d M1 v H1 q1 e1 r1 h1 => nc.rt d M1 v H1 q1 e1 r1 h1⟩⟩
def dRetN : DS := fun Dn τ M => Dn.rt .non M
theorem psd_retN : PSD X W (.Return none pos) dRetN := ⟨PSimp ps_retN fun De σ H ⟨τ, M, Dd, hs, hr, q, we, nc⟩ => nc.rt .non M .non H q .refl .non hr⟩
def dIfS (c : DT) (t u : DS) : DS := fun Dn τ M => c τ M (fun b M1 => if b = true then t Dn τ M1 else u Dn τ M1) (exOf Dn τ)
theorem psd_if {c : Expr} {a b : List Stmt} {tc : DT} (hc : PTD X W c tc) (ha : PSsD X W a t) (hb : PSsD X W b u) : PSD X W (.If c a b pos) (dIfS tc t u) :=
  ⟨PSimp (ps_if hc.run ha.run hb.run) fun De σ H ⟨τ, M, Dd, hs, hr, q, we, nc⟩ => ⟨τ, M, _, _, hs, hr, q, fun x M' h => we x τ M' h, fun b M1 H1 q1 e1 h1 => by
    cases b with
    | true => exact ⟨τ, M1, Dd, hs.mono e1, h1, (by simpa using q1), we, nc.mono e1⟩
    | false => exact ⟨τ, M1, Dd, hs.mono e1, h1, (by simpa using q1), we, nc.mono e1⟩⟩⟩
def dNever : DS := fun _ _ _ => False
theorem psd_never : PSD X W st dNever := ⟨PSimp ps_never fun De σ H ⟨_, _, _, _, _, q, _⟩ => q⟩
/-- e if c else e' -/
def dIfE (c : DT) (t u : DE) : DE := fun τ M Q E => c τ M (fun b M1 => if b = true then t τ M1 Q E else u τ M1 Q E) E
theorem pd_ifE {c a b : Expr} {tc : DT} {ta tb : DE} (hc : PTD X W c tc) (ha : PD X W a ta) (hb : PD X W b tb) : PD X W (.IfExp c a b pos) (dIfE tc ta tb) :=
  ⟨PEimp (pe_ifExp hc.run ha.run hb.run) fun σ H Q ⟨τ, M, Qd, Ed, hs, hr, q, we, k⟩ => ⟨τ, M, _, Ed, hs, hr, q, we, fun b M1 H1 q1 e1 h1 => by
    cases b with
    | true => exact ⟨τ, M1, Qd, Ed, hs.mono e1, h1, (by simpa using q1), we, k.mono e1⟩
    | false => exact ⟨τ, M1, Qd, Ed, hs.mono e1, h1, (by simpa using q1), we, k.mono e1⟩⟩⟩
end

/-! ### targets -/
abbrev DGt := D → Sl → Mp → (Sl → Mp → Prop) → Prop
abbrev DGs := List D → Sl → Mp → (Sl → Mp → Prop) → Prop
section
variable (K : PySem.W.Frag)
def liftG (H0 : Hp) (g : DGt) : TG := fun v σ H Q => ∃ d τ M Qd, Rp K H v d ∧ RS K H0 H σ τ ∧ HR K H M ∧ g d τ M Qd ∧ ∀ τ' M' σ' H', Qd τ' M' → TExt K H H' → RS K H0 H' σ' τ' → HR K H' M' → Q σ' H'
def liftGs (H0 : Hp) (g : DGs) : TGs := fun vs σ H Q => ∃ ds τ M Qd, RpL K H vs ds ∧ RS K H0 H σ τ ∧ HR K H M ∧ g ds τ M Qd ∧ ∀ τ' M' σ' H', Qd τ' M' → TExt K H H' → RS K H0 H' σ' τ' → HR K H' M' → Q σ' H'
end
section
variable {X : Cx} {W : DW} {pos : Pos}
structure PGD (X : Cx) (H0 : Hp) (tg : Expr) (g : DGt) : Prop where
  run : PG X tg (liftG X.K H0 g)
structure PGsD (X : Cx) (H0 : Hp) (tg : List Expr) (g : DGs) : Prop where
  run : PGs X tg (liftGs X.K H0 g)
theorem PGimp {tg : Expr} {t t' : TG} (h : PG X tg t) (i : ∀ v σ H Q, t' v σ H Q → t v σ H Q) : PG X tg t' := ⟨fun pins s σ H v u Q I r q => h.run pins s σ H v u Q I r (i v σ H Q q)⟩
theorem PGsimp {tg : List Expr} {t t' : TGs} (h : PGs X tg t) (i : ∀ v σ H Q, t' v σ H Q → t v σ H Q) : PGs X tg t' := ⟨fun pins s σ H v u Q I r q => h.run pins s σ H v u Q I r (i v σ H Q q)⟩
def dName (i : Nat) : DGt := fun d τ M Q => Q (τ.set i (some d)) M
theorem pgd_name {H0 : Hp} {i : Nat} {tg : Expr} (h : PG X tg (gName i)) : PGD X H0 tg (dName i) := ⟨PGimp h fun v σ H Q ⟨d, τ, M, Qd, r, hs, hr, q, k⟩ => k _ M _ H q .refl (hs.set r) hr⟩
def dGNil : DGs := fun ds τ M Q => match ds with | [] => Q τ M | _ => False
def dGCons (g : DGt) (gs : DGs) : DGs := fun ds τ M Q => match ds with | d :: r => g d τ M (fun τ1 M1 => gs r τ1 M1 Q) | [] => False
theorem pgsd_nil {H0 : Hp} : PGsD X H0 [] dGNil := ⟨PGsimp pgs_nil fun vs σ H Q ⟨ds, τ, M, Qd, r, hs, hr, q, k⟩ => by
  unfold dGNil at q
  split at q
  · exact ⟨r.nil_of, k τ M σ H q .refl hs hr⟩
  · exact q.elim⟩
theorem pgsd_cons {H0 : Hp} {e : Expr} {es : List Expr} {g : DGt} {gs : DGs} (h1 : PGD X H0 e g) (h2 : PGsD X H0 es gs)
    (hs : (assignEach (e :: es) X.env).map (·.2) = assign e X.env :: (assignEach es X.env).map (·.2) := by rfl) : PGsD X H0 (e :: es) (dGCons g gs) := ⟨PGsimp (pgs_cons h1.run h2.run hs) fun vs σ H Q ⟨ds, τ, M, Qd, r, hs, hr, q, k⟩ => by
  unfold dGCons at q
  split at q
  · rename_i d dr
    cases r with
    | cons rv rl =>
      refine ⟨_, _, rfl, d, τ, M, _, rv, hs, hr, q, fun τ1 M1 σ1 H1 q1 e1 hs1 hr1 => ?_⟩
      exact ⟨dr, τ1, M1, Qd, rl.mono e1, hs1, hr1, q1, fun τ2 M2 σ2 H2 q2 e2 => k τ2 M2 σ2 H2 q2 (e1.trans e2)⟩
  · exact q.elim⟩
/-- a tuple or a list taken apart -/
def dGTup (n : Nat) (gs : DGs) : DGt := fun d τ M Q => match d with
  | .tup ds => ds.length = n ∧ gs ds τ M Q
  | .ref a => match seqOf M a with
    | some ds => ds.length = n ∧ gs ds τ M Q
    | none => False
  | _ => False
theorem PGor {tg : Expr} {t t' : TG} (h : PG X tg t) (h' : PG X tg t') : PG X tg (fun v σ H Q => t v σ H Q ∨ t' v σ H Q) := ⟨fun pins s σ H v u Q I r q => q.elim (fun z => h.run pins s σ H v u Q I r z) fun z => h'.run pins s σ H v u Q I r z⟩
theorem pgd_tup {H0 : Hp} {es : List Expr} {k : Nat} {gs : DGs} {n : Nat} (hc : X.calm = true) (h : PGsD X H0 es gs)
    (hn : (assignEach es X.env).length = n := by rfl) (hst : (assignEach es X.env).findIdx? (·.1) = none := by rfl) : PGD X H0 (.Tuple es k pos) (dGTup n gs) :=
  ⟨PGimp (PGor (pg_tup hc h.run hn hst) (pg_lst hc h.run hn hst)) fun v σ H Q ⟨d, τ, M, Qd, r, hs, hr, q, k⟩ => by
    unfold dGTup at q
    split at q
    · obtain ⟨a, vs, rfl, s, l⟩ := r.toTup
      exact .inl ⟨a, vs, rfl, s, by rw [l.length]; exact q.1, _, τ, M, Qd, l, hs, hr, q.2, k⟩
    · split at q
      · rename_i ds e
        obtain ⟨vs, s, l⟩ := seqOf_ok hr e
        exact .inr ⟨_, vs, r.toRef, s, by rw [l.length]; exact q.1, _, τ, M, Qd, l, hs, hr, q.2, k⟩
      · exact q.elim
    · exact q.elim⟩
/-- o[i] = .. of a list -/
def dGSub (to ti : DE) : DGt := fun v τ M Q => to τ M (fun o M1 => ti τ M1 (fun i M2 => match o, i with
  | .ref a, .int k => match M2 a with
    | some (.lst xs) => match ixN xs.length k with
      | some j => Q τ (put M2 a (.lst (xs.set j v)))
      | none => False
    | _ => False
  | _, _ => False) fun _ _ => False) fun _ _ => False
theorem pgd_sub {o i : Expr} {to ti : DE} (ho : PD X W o to) (hi : PD X W i ti)
    (ha : ∀ v, assign (.Subscript o i pos) X.env v = (do
      let ov ← holding [v] (eval o X.env)
      let iv ← holding [v, ov] (eval i X.env)
      standAt pos
      holding [v, ov, iv] (setItem ov iv v)
      release [v, ov, iv] []) := by intro _; rfl) : PGD X W.h0 (.Subscript o i pos) (dGSub to ti) :=
  ⟨PGimp (pg_sub ho.run hi.run set_list ha) fun v σ H Q ⟨d, τ, M, Qd, r, hs, hr, q, k⟩ => ⟨τ, M, _, _, hs, hr, q, fun _ _ z => z.elim, fun od M1 ov H1 q1 e1 r1 h1 =>
    ⟨τ, M1, _, _, hs.mono e1, h1, q1, fun _ _ z => z.elim, fun id M2 iv H2 q2 e2 r2 h2 => by
      dsimp only at q2
      split at q2
      · rename_i a kk
        split at q2
        · rename_i xs ea
          split at q2
          · rename_i j ej
            obtain ⟨vs, hv, l⟩ := h2.lst ea
            have e3 : TExt X.K H2 (upd H2 a (.lst (vs.set j v))) := .upd (noTup_lst hv)
            refine ⟨a, vs, kk, j, (r1.mono e2).toRef, r2.toInt, hv, by rw [l.length]; exact ej, ?_⟩
            exact k τ _ σ _ q2 (e1.trans (e2.trans e3)) (hs.mono (e1.trans (e2.trans e3))) (h2.made (noTup_lst hv) ⟨_, upd_same, ((l.set (r.mono (e1.trans e2)) j)).mono e3⟩)
          · exact q2.elim
        · exact q2.elim
      · exact q2.elim⟩⟩⟩
/-- target = value -/
def dAsg (te : DE) (g : DGt) : DS := fun Dn τ M => te τ M (fun d M1 => g d τ M1 Dn.nx) (exOf Dn τ)
theorem psd_asg {tg e : Expr} {te : DE} {g : DGt} (he : PD X W e te) (hg : PGD X W.h0 tg g) (hs : swapsWithSole [tg] e pos.line X.env = pure false := by rfl) (hw : swappedStores [tg] e X.env = pure none := by rfl)
    (h1 : (assignEach [tg] X.env).map (·.2) = [assign tg X.env] := by rfl) : PSD X W (.Assign [tg] e pos) (dAsg te g) :=
  ⟨PSimp (ps_asg he.run hg.run hs hw h1) fun De σ H ⟨τ, M, Dd, hs, hr, q, we, nc⟩ => ⟨τ, M, _, _, hs, hr, q, fun x M' h => we x τ M' h, fun d M1 v H1 q1 e1 r1 h1 =>
    ⟨d, τ, M1, _, r1, hs.mono e1, h1, q1, fun τ' M' σ' H' q' e' hs' hr' => nc.nx τ' M' σ' H' q' (e1.trans e') hs' hr'⟩⟩⟩
/-- name = value -/
theorem psd_set {i : Nat} {x : Str} {e : Expr} {te : DE} {pos' : Pos} (hN : X.N.Nodup) (hi : X.N[i]? = some x) (hx : Loc X.env.scope x) (he : PD X W e te) (hs : swapsWith e (some (.Name x pos')) pos.line X.env = pure false := by rfl) (hf : X.fn x = true ∨ X.env.scope.names.lookup x = some .local := by first | exact .inl rfl | exact .inr rfl | assumption) :
    PSD X W (.Assign [.Name x pos'] e pos) (dAsg te (dName i)) :=
  ⟨PSimp (ps_set hN hi hx he.run hs hf) fun De σ H ⟨τ, M, Dd, hs, hr, q, we, nc⟩ => ⟨τ, M, _, _, hs, hr, q, fun x M' h => we x τ M' h, fun d M1 v H1 q1 e1 r1 h1 =>
    nc.nx _ M1 _ H1 q1 e1 ((hs.mono e1).set r1) h1⟩⟩
/-- name op= e -/
def dAug (i : Nat) (te : DE) (g : DO) : DS := fun Dn τ M => match slot τ i with
  | some x => te τ M (fun y M1 => g x y M1 (fun z M2 => Dn.nx (τ.set i (some z)) M2)) (exOf Dn τ)
  | none => False
theorem psd_aug {i : Nat} {x : Str} {e : Expr} {te : DE} {op : Operator} {g : DO} {pos' : Pos} (hN : X.N.Nodup) (hi : X.N[i]? = some x) (hx : Loc X.env.scope x) (he : PD X W e te) (ho : OpR X (inplaceOp op) (liftO X.K g)) (hf : X.fn x = true ∨ X.env.scope.names.lookup x = some .local := by first | exact .inl rfl | exact .inr rfl | assumption) :
    PSD X W (.AugAssign (.Name x pos') op e pos) (dAug i te g) :=
  ⟨PSimp (ps_aug hN hi hx he.run (ti := liftO X.K g) ho hf) fun De σ H ⟨τ, M, Dd, hs, hr, q, we, nc⟩ => by
    unfold dAug at q
    split at q
    · rename_i d ed
      obtain ⟨v, ev, rv⟩ := hs.at_ i d (slot_eq ed)
      refine ⟨v, ev, τ, M, _, _, hs, hr, q, fun x M' h => we x τ M' h, fun y M1 u H1 q1 e1 r1 h1 => ?_⟩
      exact ⟨d, y, M1, _, q1, rv.mono e1, r1, h1, fun z M2 w H2 q2 e2 r2 h2 => nc.nx _ M2 _ H2 q2 (e1.trans e2) ((hs.mono (e1.trans e2)).set r2) h2⟩
    · exact q.elim⟩
theorem iop_addI : OpR X (inplaceOp .Add) (liftO X.K (oI0 fun i j => .int (i + j))) := oI0_of iop_add fun _ _ _ => .int _
theorem iop_subI : OpR X (inplaceOp .Sub) (liftO X.K (oI0 fun i j => .int (i - j))) := oI0_of iop_sub fun _ _ _ => .int _
/-- o.f = value -/
def putFD (f : Str) (v : D) : List (Str × D) → List (Str × D)
  | [] => [(f, v)]
  | p :: r => if p.1 = f then (p.1, v) :: r else p :: putFD f v r
theorem FD.put {K : PySem.W.Frag} {H : Hp} {f : Str} {v : V} {d : D} (r : Rp K H v d) : ∀ {vs : List (Str × V)} {fs : List (Str × D)}, FD K H vs fs → FD K H (putF f v vs) (putFD f d fs)
  | [], [], _ => ⟨rfl, r, trivial⟩
  | (p1, p2) :: ps, (q1, q2) :: qs, ⟨e, r', l⟩ => by
    simp only at e
    subst e
    unfold putF putFD
    by_cases c : p1 = f
    · simp only [c, if_true]; exact ⟨rfl, r, l⟩
    · simp only [c, if_false]; exact ⟨rfl, r', FD.put r l⟩
  | [], _ :: _, h => h.elim
  | _ :: _, [], h => h.elim
theorem FD.length {K : PySem.W.Frag} {H : Hp} : ∀ {vs : List (Str × V)} {fs : List (Str × D)}, FD K H vs fs → vs.length = fs.length
  | [], [], _ => rfl
  | _ :: _, _ :: _, ⟨_, _, l⟩ => by simp [FD.length l]
  | [], _ :: _, h => h.elim
  | _ :: _, [], h => h.elim
theorem FD.look_none {K : PySem.W.Frag} {H : Hp} {f : Str} : ∀ {vs : List (Str × V)} {fs : List (Str × D)}, FD K H vs fs → fs.lookup f = none → vs.lookup f = none
  | [], [], _, _ => rfl
  | (p1, p2) :: ps, (q1, q2) :: qs, ⟨e, r', l⟩, h => by
    simp only at e
    subst e
    by_cases c : (f == p1) = true
    · rw [List.lookup_cons, c] at h; cases h
    · have c' : (f == p1) = false := by simpa using c
      rw [List.lookup_cons, c'] at h ⊢
      exact FD.look_none l h
  | [], _ :: _, h, _ => h.elim
  | _ :: _, [], h, _ => h.elim
def dFldS (K : PySem.W.Frag) (to te : DE) (f : Str) : DS := fun Dn τ M => te τ M (fun v M1 => to τ M1 (fun o M2 => match o with
  | .ref a => match M2 a with
    | some (.ins C fs) => FldK K C f ∧ fs.length < 1000 ∧ Dn.nx τ (put M2 a (.ins C (putFD f v fs)))
    | _ => False
  | _ => False) (exOf Dn τ)) (exOf Dn τ)
theorem psd_fld {o e : Expr} {to te : DE} {f : Str} {pos' : Pos} (ho : PD X W o to) (he : PD X W e te) (hs : swapsWith e (some (.Attribute o f pos')) pos.line X.env = pure false := by rfl) : PSD X W (.Assign [.Attribute o f pos'] e pos) (dFldS X.K to te f) :=
  ⟨PSimp (ps_fld ho.run he.run hs) fun De σ H ⟨τ, M, Dd, hs, hr, q, we, nc⟩ => ⟨τ, M, _, _, hs, hr, q, fun x M' h => we x τ M' h, fun d M1 v H1 q1 e1 r1 h1 =>
    ⟨τ, M1, _, _, hs.mono e1, h1, q1, fun x M' h => we x τ M' h, fun od M2 ov H2 q2 e2 r2 h2 => by
      dsimp only at q2
      split at q2
      · rename_i a
        split at q2
        · rename_i C fs ea
          obtain ⟨⟨c, n⟩, hl, q2⟩ := q2
          obtain ⟨dx, vs, hv, fd⟩ := h2.ins ea
          have e3 : TExt X.K H2 (upd H2 a (.ins C dx (putF f v vs))) := .upd (noTup_ins hv)
          refine ⟨a, C, dx, vs, r2.toRef, hv, c, n, by rw [fd.length]; exact hl, ?_⟩
          exact nc.nx τ _ σ _ q2 (e1.trans (e2.trans e3)) (hs.mono (e1.trans (e2.trans e3))) (h2.made (noTup_ins hv) ⟨dx, _, upd_same, (FD.put (r1.mono e2) fd).mono e3⟩)
        · exact q2.elim
      · exact q2.elim⟩⟩⟩
end

/-! ### while -/
section
variable {X : Cx} {W : DW} {pos : Pos}
def dWhN (c : DT) (tb : DS) : Nat → DN → Sl → Mp → Prop
  | 0, _, _, _ => False
  | n + 1, Dn, τ, M => c τ M (fun b M1 => if b = true then tb { Dn with nx := dWhN c tb n Dn, ct := dWhN c tb n Dn, bk := Dn.nx } τ M1 else Dn.nx τ M1) (exOf Dn τ)
def dWhile (c : DT) (tb : DS) : DS := fun Dn τ M => ∃ n, dWhN c tb n Dn τ M
theorem psd_while {c : Expr} {body : List Stmt} {tc : DT} {tb : DS} (hp : PassesOwn (model X.prog X.w) X.A X.env X.xe) (hc : PTD X W c tc) (hb : PSsD X W body tb) : PSD X W (.While c body [] pos) (dWhile tc tb) :=
  ⟨PSimp (ps_while hp hc.run hb.run) fun De σ H ⟨τ, M, Dd, hs, hr, ⟨n, q⟩, we, nc⟩ => by
    refine ⟨fun m σ' H' => ∃ τ' M', TExt X.K H H' ∧ RS X.K W.h0 H' σ' τ' ∧ HR X.K H' M' ∧ dWhN tc tb m Dd τ' M', ⟨n, τ, M, .refl, hs, hr, q⟩, ?_⟩
    rintro m σ1 H1 ⟨τ1, M1, e1, hs1, hr1, q1⟩
    cases m with
    | zero => exact q1.elim
    | succ m =>
      refine ⟨τ1, M1, _, _, hs1, hr1, q1, fun x M' h => we x τ1 M' h, fun b M2 H2 q2 e2 h2 => ?_⟩
      cases b with
      | false => exact nc.nx τ1 M2 σ1 H2 (by simpa using q2) (e1.trans e2) (hs1.mono e2) h2
      | true =>
        simp only [if_true] at q2 ⊢
        refine ⟨fun σ' H' => ∃ τ' M', TExt X.K H H' ∧ RS X.K W.h0 H' σ' τ' ∧ HR X.K H' M' ∧ dWhN tc tb m Dd τ' M', fun σ' H' h => ⟨m, Nat.lt_succ_self m, h⟩, ?_⟩
        exact ⟨τ1, M2, _, hs1.mono e2, h2, q2, we, ⟨fun τ' M' σ' H' h e' hs' hr' => ⟨τ', M', e1.trans (e2.trans e'), hs', hr', h⟩, fun d M' v H' h e' => nc.rt d M' v H' h (e1.trans (e2.trans e')),
          fun τ' M' σ' H' h e' => nc.nx τ' M' σ' H' h (e1.trans (e2.trans e')), fun τ' M' σ' H' h e' hs' hr' => ⟨τ', M', e1.trans (e2.trans e'), hs', hr', h⟩⟩⟩⟩
end

/-! ### what is walked -/
/-- J walks its, as long as kp holds -/
structure ItOk (K : PySem.W.Frag) (H0 : Hp) (J : It) (its : List D) (kp : Mp → Prop) : Prop where
  small : its.length ≤ sizeLine
  go : ∀ i H M, TExt K H0 H → HR K H M → kp M → i < its.length → J.go i H
  stop : ∀ i H M, TExt K H0 H → HR K H M → kp M → its.length ≤ i → J.stop i H
  yld : ∀ i H M x H', TExt K H0 H → HR K H M → kp M → J.yld i H x H' → TExt K H H' ∧ (∀ M', HR K H M' → HR K H' M') ∧ ∀ d, its[i]? = some d → Rp K H' x d
abbrev DI := Sl → Mp → (List D → (Mp → Prop) → Mp → Prop) → EK → Prop
def liftI (K : PySem.W.Frag) (W : DW) (t : DI) : TI := fun σ H R => ∃ τ M Qd Ed, RS K W.h0 H σ τ ∧ HR K H M ∧ t τ M Qd Ed ∧ (∀ x M', Ed x M' → W.w x τ M') ∧ ∀ its kp J M' H', Qd its kp M' → TExt K H H' → HR K H' M' → ItOk K H' J its kp → R J H'
structure PID (X : Cx) (W : DW) (tg iter : Expr) (t : DI) : Prop where
  run : PI X tg iter (liftI X.K W t)
/-- what a value gives when it is walked -/
def itemsOf (d : D) (M : Mp) : Option (List D) := match d with
  | .tup xs => some xs
  | .ref a => seqOf M a
  | .str z => if z.length ≤ sizeLine then some (z.cps.toList.map fun c => .str ⟨#[c]⟩) else none
  | _ => none
def keepOf (d : D) (its : List D) : Mp → Prop := match d with
  | .ref a => fun M => seqOf M a = some its
  | _ => fun _ => True
def dIter (te : DE) : DI := fun τ M Q E => te τ M (fun d M1 => match itemsOf d M1 with
  | some its => Q its (keepOf d its) M1
  | none => False) E
section
variable {X : Cx} {W : DW} {tg : Expr} {pins : List (Addr × Obj)} {s : Shared} {σ : St} {H : Hp} {R : It → Hp → Prop} {E : Value → Shared → Prop}
theorem iter_lst {a : Addr} {xs : List V} (I : Inv X pins σ H s) (hq : SqL X.K H a xs) (q : R (Itl X.K a) H) : wpAny (model X.prog X.w) X.A (pyIter (.ref a)) (PIE X pins σ tg R) E s := by
  obtain ⟨its, rv, pl, hz⟩ := I.list hq
  refine wpAny_pyIter_list pl.isList ⟨s.heap.objs.size, [s.heap.objs.size], _, _, H, rfl, I.kept (t' := s.toks) fun b o e => Heap.get?_push_of_some _ e, turn_list a _, ⟨_, Heap.get?_push_size _ rfl, rfl, rfl⟩, fun b hb => ?_, q⟩
  obtain rfl : b = s.heap.objs.size := by simpa using hb
  exact I.fpOk (Nat.le_refl _) (I.hok.fresh (Nat.le_refl _))
theorem iter_tup {a : Addr} {xs : List V} (I : Inv X pins σ H s) (hq : SqT X.K H a xs) (q : R (Itt X.K a) H) : wpAny (model X.prog X.w) X.A (pyIter (.ref a)) (PIE X pins σ tg R) E s := by
  obtain ⟨its, rv, pl, hz⟩ := I.tuple hq
  refine wpAny_pyIter_tuple (show s.heap.IsTuple a its.toArray from pl) ⟨s.heap.objs.size, [s.heap.objs.size], _, _, H, rfl, I.kept (t' := s.toks) fun b o e => Heap.get?_push_of_some _ e, turn_tuple a _, ⟨_, Heap.get?_push_size _ rfl, rfl, rfl⟩, fun b hb => ?_, q⟩
  obtain rfl : b = s.heap.objs.size := by simpa using hb
  exact I.fpOk (Nat.le_refl _) (I.hok.fresh (Nat.le_refl _))
theorem iter_str {z : Str} {u : Value} (I : Inv X pins σ H s) (hu : RelV (.str z) u) (q : R (Its z) H) : wpAny (model X.prog X.w) X.A (pyIter u) (PIE X pins σ tg R) E s := by
  obtain ⟨t, rfl⟩ := hu
  cases ha : z.cps.all (· < 128) with
  | false => exact wpAny_pyIter_wide ha (pi_one (tk := s.toks) I _ (turn_str _ z t _ (.inr rfl)) ⟨_, Heap.get?_push_size _ rfl, rfl, rfl⟩ q)
  | true => exact wpAny_pyIter_ascii ha (pi_one (tk := s.toks) I _ (turn_str _ z t _ (.inl rfl)) ⟨_, Heap.get?_push_size _ rfl, rfl, rfl⟩ q)
theorem itOk_tup {K : PySem.W.Frag} {H : Hp} {a : Addr} {vs : List V} {ds : List D} (s : SqT K H a vs) (l : RpL K H vs ds) (z : vs.length ≤ sizeLine) : ItOk K H (Itt K a) ds fun _ => True where
  small := by rw [← l.length]; exact z
  go := fun i H1 M e _ _ hi => ⟨vs, vs[i]'(by rw [l.length]; exact hi), e.tup _ _ s, by simp⟩
  stop := fun i H1 M e _ _ hi => ⟨vs, e.tup _ _ s, by rw [l.length]; exact hi⟩
  yld := fun i H1 M x H2 e _ _ y => by
    obtain ⟨rfl, y⟩ := y
    have hx := y vs (e.tup _ _ s)
    refine ⟨.refl, fun _ h => h, fun d hd => ?_⟩
    obtain ⟨v, ev, rv⟩ := (l.mono e).get hd
    rw [hx] at ev
    cases ev
    exact rv
theorem itOk_lst {K : PySem.W.Frag} {H : Hp} {a : Addr} {vs : List V} {ds : List D} (l : RpL K H vs ds) (z : vs.length ≤ sizeLine) : ItOk K H (Itl K a) ds fun M => seqOf M a = some ds where
  small := by rw [← l.length]; exact z
  go := fun i H1 M e hr k hi => by
    obtain ⟨us, s, l'⟩ := seqOf_ok hr k
    exact ⟨us, us[i]'(by rw [l'.length]; exact hi), s, by simp⟩
  stop := fun i H1 M e hr k hi => by
    obtain ⟨us, s, l'⟩ := seqOf_ok hr k
    exact ⟨us, s, by rw [l'.length]; exact hi⟩
  yld := fun i H1 M x H2 e hr k y => by
    obtain ⟨rfl, y⟩ := y
    obtain ⟨us, s, l'⟩ := seqOf_ok hr k
    have hx := y us s
    refine ⟨.refl, fun _ h => h, fun d hd => ?_⟩
    obtain ⟨v, ev, rv⟩ := l'.get hd
    rw [hx] at ev
    cases ev
    exact rv
theorem itOk_str {K : PySem.W.Frag} {H : Hp} {z : Str} (hz : z.length ≤ sizeLine) : ItOk K H (Its z) (z.cps.toList.map fun c => D.str ⟨#[c]⟩) fun _ => True where
  small := by simpa [Str.length] using hz
  go := fun i H1 M e _ _ hi => show i < z.cps.size by simpa using hi
  stop := fun i H1 M e _ _ hi => show z.cps.size ≤ i by simpa using hi
  yld := fun i H1 M x H2 e _ _ y => by
    obtain ⟨rfl, c, hc, rfl⟩ := y
    refine ⟨.refl, fun _ h => h, fun d hd => ?_⟩
    rw [List.getElem?_map, Array.getElem?_toList, hc] at hd
    cases hd
    exact .str _
theorem itOk_rng {K : PySem.W.Frag} {H : Hp} {lo : Int} {n : Nat} (hz : n ≤ sizeLine) : ItOk K H (Itr lo n) ((List.range n).map fun i => D.int (lo + (i : Nat))) fun _ => True where
  small := by simpa using hz
  go := fun i H1 M e _ _ hi => show i < n by simpa using hi
  stop := fun i H1 M e _ _ hi => show n ≤ i by simpa using hi
  yld := fun i H1 M x H2 e _ _ y => by
    obtain ⟨rfl, rfl⟩ := y
    refine ⟨.refl, fun _ h => h, fun d hd => ?_⟩
    by_cases hi : i < n
    · rw [List.getElem?_map, List.getElem?_range hi] at hd
      cases hd
      exact .int _
    · rw [List.getElem?_eq_none (by simpa using hi)] at hd
      cases hd
theorem pid_any {e : Expr} {te : DE} (he : PD X W e te) : PID X W tg e (dIter te) := ⟨⟨fun pins s σ H R I ⟨τ, M, Qd, Ed, hs, hr, q, we, k⟩ => by
  refine thn (he.run.run pins s σ H (fun v H1 => ∃ d M1, Rp X.K H1 v d ∧ HR X.K H1 M1 ∧ TExt X.K H H1 ∧ match itemsOf d M1 with
    | some its => Qd its (keepOf d its) M1
    | none => False) I ⟨τ, M, _, Ed, hs, hr, q, we, fun d M1 v H1 q1 e1 r1 h1 => ⟨d, M1, r1, h1, e1, q1⟩⟩) fun u s1 ⟨v, H1, I1, rv, d, M1, r1, h1, e1, q1⟩ => ?_
  split at q1
  · rename_i its ei
    cases d with
    | tup xs =>
      obtain ⟨a, vs, rfl, sq, l⟩ := r1.toTup
      cases rv
      cases ei
      obtain ⟨_, _, _, z⟩ := I1.tuple sq
      exact iter_tup I1 sq (k _ _ _ M1 H1 q1 e1 h1 (itOk_tup sq l z))
    | ref a =>
      have ea := r1.toRef
      subst ea
      cases rv
      obtain ⟨vs, sq, l⟩ := seqOf_ok h1 ei
      obtain ⟨_, _, _, z⟩ := I1.list sq
      exact iter_lst I1 sq (k _ _ _ M1 H1 q1 e1 h1 (itOk_lst l z))
    | str z =>
      have ea := r1.toStr
      subst ea
      have ei' : (if z.length ≤ sizeLine then some (z.cps.toList.map fun c => D.str ⟨#[c]⟩) else none) = some its := ei
      by_cases c : z.length ≤ sizeLine
      · rw [if_pos c] at ei'
        cases ei'
        exact iter_str I1 rv (k _ _ _ M1 H1 q1 e1 h1 (itOk_str c))
      · rw [if_neg c] at ei'; cases ei'
    | _ => cases ei
  · exact q1.elim⟩⟩
end
end DL

set_option maxHeartbeats 4000000
namespace DL
open PySem L2
section
variable {X : Cx} {W : DW} {tg : Expr} {pos p : Pos} {ta : DA}
/-! ### range -/
def dRng1 (ta : DA) : DI := fun τ M Q E => ta τ M (fun ds M1 => match ds with
  | [.int j] => j ≤ 16777216 ∧ -(2 ^ 62) ≤ j ∧ Q ((List.range j.toNat).map fun i => D.int (i : Nat)) (fun _ => True) M1
  | _ => False) E
def dRng2 (ta : DA) : DI := fun τ M Q E => ta τ M (fun ds M1 => match ds with
  | [.int i, .int j] => (-(2 ^ 62) ≤ i ∧ i < 2 ^ 62 ∧ -(2 ^ 62) ≤ j ∧ j < 2 ^ 62) ∧ j - i ≤ 16777216 ∧ Q ((List.range (j - i).toNat).map fun k => D.int (i + (k : Nat))) (fun _ => True) M1
  | _ => False) E
theorem PIimp {iter : Expr} {t t' : TI} (h : PI X tg iter t) (i : ∀ σ H R, t' σ H R → t σ H R) : PI X tg iter t' := ⟨fun pins s σ H R I q => h.run pins s σ H R I (i σ H R q)⟩
theorem pid_rng1 {a : Expr} (hg : Gl X "range") (hm : X.mg "range" = none) (ha : PAD X W [a] ta) (hs : starEach [a] X.env = [(false, eval a X.env)] := by rfl) : PID X W tg (.Call (.Name "range" p) [a] [] pos) (dRng1 ta) :=
  ⟨PIimp (pi_range1 hg hm ha.run hs) fun σ H R ⟨τ, M, Qd, Ed, hs, hr, q, we, k⟩ => ⟨τ, M, _, Ed, hs, hr, q, we, fun ds M1 vs H1 q1 e1 r1 h1 => by
    split at q1
    · rename_i j
      obtain ⟨v, rfl, rv⟩ := r1.one
      obtain ⟨c1, c2, q1⟩ := q1
      refine ⟨j, by rw [rv.toInt], c2, by omega, k _ _ _ M1 H1 q1 e1 h1 ?_⟩
      have := itOk_rng (K := X.K) (H := H1) (lo := 0) (n := j.toNat) (by rw [sizeLine_eq]; omega)
      simpa using this
    · exact q1.elim⟩⟩
theorem pid_rng2 {a b : Expr} (hg : Gl X "range") (hm : X.mg "range" = none) (ha : PAD X W [a, b] ta) (hs : starEach [a, b] X.env = [(false, eval a X.env), (false, eval b X.env)] := by rfl) (hs2 : starEach [b] X.env = [(false, eval b X.env)] := by rfl) : PID X W tg (.Call (.Name "range" p) [a, b] [] pos) (dRng2 ta) :=
  ⟨PIimp (pi_range2 hg hm ha.run hs hs2) fun σ H R ⟨τ, M, Qd, Ed, hs, hr, q, we, k⟩ => ⟨τ, M, _, Ed, hs, hr, q, we, fun ds M1 vs H1 q1 e1 r1 h1 => by
    split at q1
    · rename_i i j
      obtain ⟨v, v', rfl, rv, rv'⟩ := r1.two
      obtain ⟨c1, c2, q1⟩ := q1
      refine ⟨i, j, by rw [rv.toInt, rv'.toInt], c1, k _ _ _ M1 H1 q1 e1 h1 (itOk_rng (by rw [sizeLine_eq]; omega))⟩
    · exact q1.elim⟩⟩

/-! ### for -/
def dLoop (g : DGt) (tb : DS) (kp : Mp → Prop) : List D → DN → Sl → Mp → Prop
  | [], Dn, τ, M => kp M ∧ Dn.nx τ M
  | d :: ds, Dn, τ, M => kp M ∧ g d τ M fun τ2 M2 => tb { Dn with nx := dLoop g tb kp ds Dn, ct := dLoop g tb kp ds Dn, bk := Dn.nx } τ2 M2
def dFor (ti : DI) (g : DGt) (tb : DS) : DS := fun Dn τ M => ti τ M (fun its kp M1 => dLoop g tb kp its Dn τ M1) (exOf Dn τ)
theorem psd_for {iter : Expr} {body : List Stmt} {ti : DI} {g : DGt} {tb : DS} (hp : PassesOwn (model X.prog X.w) X.A X.env X.xe) (hc : X.calm = true) (hi : PID X W tg iter ti) (hg : PGD X W.h0 tg g) (hb : PSsD X W body tb)
    (hs : ∀ x, foldedSetIterable iter X.env x = pure x := by intro _; rfl) : PSD X W (.For tg iter body [] pos) (dFor ti g tb) :=
  ⟨PSimp (ps_for hp hc hi.run hg.run hb.run hs) fun De σ H ⟨τ, M, Dd, hs, hr, q, we, nc⟩ => ⟨τ, M, _, _, hs, hr, q, fun x M' h => we x τ M' h, fun its kp J M1 H1 q1 e1 h1 ok => by
    refine ⟨fun i m σ' H' => m = its.length - i ∧ i ≤ its.length ∧ TExt X.K H1 H' ∧ ∃ τ' M', RS X.K W.h0 H' σ' τ' ∧ HR X.K H' M' ∧ dLoop g tb kp (its.drop i) Dd τ' M', ⟨_, rfl, Nat.zero_le _, .refl, τ, M1, hs.mono e1, h1, by simpa using q1⟩, ?_⟩
    rintro i m σ2 H2 ⟨rfl, hi, e2, τ2, M2, hs2, hr2, q2⟩
    by_cases hlt : i < its.length
    · rw [List.drop_eq_getElem_cons hlt] at q2
      obtain ⟨hk, q2⟩ := q2
      refine .inr ⟨ok.go i H2 M2 e2 hr2 hk hlt, fun σ' H' => TExt X.K H1 H' ∧ ∃ τ' M', RS X.K W.h0 H' σ' τ' ∧ HR X.K H' M' ∧ dLoop g tb kp (its.drop (i + 1)) Dd τ' M', fun σ' H' h => ⟨its.length - (i + 1), by omega, rfl, hlt, h.1, h.2⟩, fun x H3 y => ?_⟩
      obtain ⟨e3, k3, r3⟩ := ok.yld i H2 M2 x H3 e2 hr2 hk y
      have rx := r3 its[i] (by simp [hlt])
      refine ⟨its[i], τ2, M2, _, rx, hs2.mono e3, k3 _ hr2, q2, fun τ4 M4 σ4 H4 q4 e4 hs4 hr4 => ?_⟩
      exact ⟨τ4, M4, _, hs4, hr4, q4, we, ⟨fun τ' M' σ' H' h e' hs' hr' => ⟨e2.trans (e3.trans (e4.trans e')), τ', M', hs', hr', h⟩, fun d M' v H' h e' => nc.rt d M' v H' h (e1.trans (e2.trans (e3.trans (e4.trans e')))),
        fun τ' M' σ' H' h e' => nc.nx τ' M' σ' H' h (e1.trans (e2.trans (e3.trans (e4.trans e')))), fun τ' M' σ' H' h e' hs' hr' => ⟨e2.trans (e3.trans (e4.trans e')), τ', M', hs', hr', h⟩⟩⟩
    · have ei : i = its.length := by omega
      subst ei
      rw [List.drop_length] at q2
      exact .inl ⟨ok.stop _ H2 M2 e2 hr2 q2.1 (Nat.le_refl _), nc.nx τ2 M2 σ2 H2 q2.2 (e1.trans e2) hs2 hr2⟩⟩⟩

/-! ### comprehensions -/
def wipeD (τ : Sl) : List Nat → Sl
  | [] => τ
  | v :: vs => (wipeD τ vs).set v none
theorem wipeD_length (τ : Sl) : ∀ vs : List Nat, (wipeD τ vs).length = τ.length
  | [] => rfl
  | v :: vs => by unfold wipeD; rw [List.length_set, wipeD_length τ vs]
theorem wipeD_some {τ : Sl} {i : Nat} {x : D} : ∀ {vs : List Nat}, (wipeD τ vs)[i]? = some (some x) → τ[i]? = some (some x) ∧ i ∉ vs
  | [], h => ⟨h, by simp⟩
  | v :: vs, h => by
    unfold wipeD at h
    by_cases hi : v = i
    · subst hi
      by_cases hv : v < (wipeD τ vs).length
      · rw [List.getElem?_set_self hv] at h; cases h
      · rw [List.getElem?_eq_none (by simpa using hv)] at h; cases h
    · rw [List.getElem?_set_ne hi] at h
      obtain ⟨a, b⟩ := wipeD_some h
      exact ⟨a, by simpa using ⟨fun e => hi e.symm, b⟩⟩
theorem wipe_out' {σ : St} {i : Nat} : ∀ {vs : List Nat}, i ∉ vs → (wipe σ vs)[i]? = σ[i]?
  | [], _ => rfl
  | v :: vs, h => by
    have h' : v ≠ i ∧ i ∉ vs := by simpa [eq_comm] using h
    unfold wipe
    rw [List.getElem?_set_ne h'.1, wipe_out' h'.2]
theorem wipe_at {σ : St} {i : Nat} (hi : i < σ.length) : ∀ {vs : List Nat}, i ∈ vs → (wipe σ vs)[i]? = some none
  | v :: vs, h => by
    unfold wipe
    by_cases c : v = i
    · subst c; rw [List.getElem?_set_self (by rw [wipe_length]; exact hi)]
    · rw [List.getElem?_set_ne c]
      rcases List.mem_cons.mp h with h | h
      · exact absurd h.symm c
      · exact wipe_at hi h
theorem wipe_same {σ σ' : St} {vs : List Nat} (hl : σ'.length = σ.length) (h : ∀ i, i ∉ vs → σ'[i]? = σ[i]?) : wipe σ' vs = wipe σ vs := by
  apply List.ext_getElem?
  intro i
  by_cases c : i ∈ vs
  · by_cases hi : i < σ.length
    · rw [wipe_at hi c, wipe_at (by omega) c]
    · rw [List.getElem?_eq_none (by rw [wipe_length]; omega), List.getElem?_eq_none (by rw [wipe_length]; omega)]
  · rw [wipe_out' c, wipe_out' c, h i c]
theorem wipe_set {σ : St} {vs : List Nat} {i : Nat} {x : Option V} (h : i ∈ vs) : wipe ((wipe σ vs).set i x) vs = wipe σ vs := by
  apply wipe_same
  · simp [wipe_length]
  · intro j hj
    have : i ≠ j := fun e => hj (e ▸ h)
    rw [List.getElem?_set_ne this, wipe_out' hj]
theorem RS.wipe {K : PySem.W.Frag} {H0 H : Hp} {σ : St} {τ : Sl} (h : RS K H0 H σ τ) (vs : List Nat) (e : TExt K H1 H) : RS K H1 H (L2.wipe σ vs) (wipeD τ vs) := ⟨e, by rw [wipeD_length, wipe_length]; exact h.len, fun i d q => by
  obtain ⟨a, b⟩ := wipeD_some q
  obtain ⟨v, c, r⟩ := h.at_ i d a
  exact ⟨v, (wipe_out' b).trans c, r⟩⟩
def H0n : Hp := fun _ => none
theorem TExt.none {K : PySem.W.Frag} {H : Hp} : TExt K H0n H := ⟨fun a xs h => by
  rcases h with (h | ⟨o, h⟩) | h
  · cases h
  · cases h
  · exact .inr h, fun a o u h => by cases h⟩
/-- within a comprehension nothing is let out -/
def W0 : DW := ⟨H0n, fun _ _ _ => False⟩
def noE : EK := fun _ _ => False
/-- one clause; p is the list that grows -/
def dCL (g : D → Sl → Sl) (tt : DT) (te : DE) (kp : Mp → Prop) (p : Addr) (τ : Sl) (F : Mp → Prop) : List D → Mp → Prop
  | [], M => kp M ∧ F M
  | d :: ds, M => kp M ∧ tt (g d τ) M (fun b M1 => if b = true then te (g d τ) M1 (fun y M2 => match M2 p with
      | some (.lst acc) => acc.length < sizeLine ∧ dCL g tt te kp p τ F ds (put M2 p (.lst (acc ++ [y])))
      | _ => False) noE else dCL g tt te kp p τ F ds M1) noE
def dLc (ti : DI) (g : D → Sl → Sl) (tt : DT) (te : DE) (vs : List Nat) : DE := fun τ M Q E => ti τ M (fun its kp M1 => ∀ p, M1 p = none → dCL g tt te kp p (wipeD τ vs) (fun M2 => Q (.ref p) M2) its (put M1 p (.lst []))) E
structure PTsD (X : Cx) (W : DW) (ifs : List Expr) (t : DT) : Prop where
  run : PTs X ifs (liftT X.K W t)
def dYes : DT := fun _ M Q _ => Q true M
theorem PTsimp {ifs : List Expr} {t t' : TT} (h : PTs X ifs t) (i : ∀ σ H Q, t' σ H Q → t σ H Q) : PTs X ifs t' := ⟨fun pins s σ H Q I q => h.run pins s σ H Q I (i σ H Q q)⟩
theorem ptsd_nil : PTsD X W [] dYes := ⟨PTsimp pts_nil fun σ H Q ⟨τ, M, Qd, Ed, hs, hr, q, we, k⟩ => k true M H q .refl hr⟩
theorem ptsd_one {c : Expr} {t : DT} (h : PTD X W c t) : PTsD X W [c] t := ⟨pts_one h.run⟩
/-- the core, for a target that is one name -/
theorem lc_read {ti : DI} {tt : DT} {te : DE} {i : Nat} {vs : List Nat} {K : PySem.W.Frag} (hi : i ∈ vs) {σ : St} {H : Hp} {Q : VK} (h : liftE K W (dLc ti (fun d τ => τ.set i (some d)) tt te vs) σ H Q) :
    tLc (liftI K W ti) (gName i) (liftT K W0 tt) (liftE K W0 te) vs σ H Q := by
  obtain ⟨τ, M, Qd, Ed, hs, hr, q, we, k⟩ := h
  refine ⟨τ, M, _, Ed, hs, hr, q, we, fun its kp J M1 H1 q1 e1 h1 ok D hD => ?_⟩
  have q2 := q1 D (h1.free hD)
  have e2 : TExt K H1 (upd H1 D (.lst [])) := .new hD
  refine ⟨fun i m H' => m = its.length - i ∧ i ≤ its.length ∧ TExt K (upd H1 D (.lst [])) H' ∧ ∃ M', HR K H' M' ∧ dCL (fun d τ => τ.set _ (some d)) tt te kp D (wipeD τ vs) (fun M2 => Qd (.ref D) M2) (its.drop i) M', ⟨_, rfl, Nat.zero_le _, .refl, _, h1.made (o := .lst []) (noTup_none hD) ⟨[], upd_same, .nil⟩, by simpa using q2⟩, ?_⟩
  rintro j m H2 ⟨rfl, hj, e3, M2, hr2, q3⟩
  by_cases hlt : j < its.length
  · rw [List.drop_eq_getElem_cons hlt] at q3
    obtain ⟨hk, q3⟩ := q3
    refine .inr ⟨ok.go j H2 M2 (e2.trans e3) hr2 hk hlt, fun H' => TExt K (upd H1 D (.lst [])) H' ∧ ∃ M', HR K H' M' ∧ dCL (fun d τ => τ.set _ (some d)) tt te kp D (wipeD τ vs) (fun M2 => Qd (.ref D) M2) (its.drop (j + 1)) M', fun H' h => ⟨its.length - (j + 1), by omega, rfl, hlt, h.1, h.2⟩, fun x H3 y => ?_⟩
    obtain ⟨e4, k4, r4⟩ := ok.yld j H2 M2 x H3 (e2.trans e3) hr2 hk y
    have rx := r4 its[j] (by simp [hlt])
    have hs3 : RS K W0.h0 H3 ((wipe σ vs).set i (some x)) ((wipeD τ vs).set i (some its[j])) := ((hs.mono (e1.trans (e2.trans (e3.trans e4)))).wipe vs .none).set rx
    refine ⟨wipe_set hi, _, M2, _, _, hs3, k4 _ hr2, q3, fun _ _ z => z.elim, fun b M4 H4 q4 e5 h4 => ?_⟩
    cases b with
    | false => exact ⟨e3.trans (e4.trans e5), M4, h4, by simpa using q4⟩
    | true =>
      simp only [if_true] at q4 ⊢
      refine ⟨_, M4, _, _, hs3.mono e5, h4, q4, fun _ _ z => z.elim, fun y M5 v H5 q5 e6 r5 h5 => ?_⟩
      dsimp only at q5
      split at q5
      · rename_i acc ea
        obtain ⟨us, hu, l⟩ := h5.lst ea
        have e7 : TExt K H5 (upd H5 D (.lst (us ++ [v]))) := .upd (noTup_lst hu)
        refine ⟨us, hu, by rw [l.length]; exact q5.1, e3.trans (e4.trans (e5.trans (e6.trans e7))), _, h5.made (o := .lst (acc ++ [y])) (noTup_lst hu) ⟨_, upd_same, (l.append (.cons r5 .nil)).mono e7⟩, q5.2⟩
      · exact q5.elim
  · have ei : j = its.length := by omega
    subst ei
    rw [List.drop_length] at q3
    exact .inl ⟨ok.stop _ H2 M2 (e2.trans e3) hr2 q3.1 (Nat.le_refl _), k _ M2 _ H2 q3.2 (e1.trans (e2.trans e3)) (.ref D) hr2⟩
section
variable {elt iter : Expr} {ifs : List Expr} {scope : Scope} {own : List (Str × Nat)} {ti : DI} {tt : DT} {te : DE} {i : Nat}
theorem pd_lc (hc : X.calm = true) (hN : X.N.Nodup) (hi : PID X W tg iter ti) (ok : BlkOk X.N X.env.scope scope own) (hv : i ∈ own.map (·.2))
    (hg : ∀ (s : Shared) (H : Hp) (C : Addr) (cl : List (Str × Addr)) (fp : List Addr), PG (X.blk s H scope (compEnvC scope cl C X.env) fp) tg (gName i))
    (ht : ∀ (s : Shared) (H : Hp) (C : Addr) (cl : List (Str × Addr)) (fp : List Addr), PTsD (X.blk s H scope (compEnvC scope cl C X.env) fp) W0 ifs tt)
    (he : ∀ (s : Shared) (H : Hp) (C : Addr) (cl : List (Str × Addr)) (fp : List Addr), PD (X.blk s H scope (compEnvC scope cl C X.env) fp) W0 elt te) (hs : ∀ x, foldedSetIterable iter X.env x = pure x := by intro _; rfl) :
    PD X W (.ListComp elt [⟨tg, iter, ifs, 0⟩] scope pos) (dLc ti (fun d τ => τ.set i (some d)) tt te (own.map (·.2))) :=
  ⟨PEimp (pe_lc hc hN hi.run ok hg (fun s H C cl fp => (ht s H C cl fp).run) (fun s H C cl fp => (he s H C cl fp).run) hs) fun σ H Q h => lc_read hv h⟩
/-- name = [..] on one line -/
theorem psd_setLc {j : Nat} {y : Str} {py spos : Pos} (hc : X.calm = true) (hN : X.N.Nodup) (hy : X.N[j]? = some y) (hyl : X.env.scope.names.lookup y = some .local)
    (hsw : swapsWith (.ListComp elt [⟨tg, iter, ifs, 0⟩] scope pos) (some (.Name y py)) spos.line X.env = pure true) (hi : PID X W tg iter ti) (ok : BlkOk X.N X.env.scope scope own) (hv : i ∈ own.map (·.2))
    (hg : ∀ (s : Shared) (H : Hp) (C : Addr) (cl : List (Str × Addr)) (fp : List Addr), PG (X.blk s H scope (compEnvC scope cl C X.env) fp) tg (gName i))
    (ht : ∀ (s : Shared) (H : Hp) (C : Addr) (cl : List (Str × Addr)) (fp : List Addr), PTsD (X.blk s H scope (compEnvC scope cl C X.env) fp) W0 ifs tt)
    (he : ∀ (s : Shared) (H : Hp) (C : Addr) (cl : List (Str × Addr)) (fp : List Addr), PD (X.blk s H scope (compEnvC scope cl C X.env) fp) W0 elt te) (hs : ∀ x, foldedSetIterable iter X.env x = pure x := by intro _; rfl) :
    PSD X W (.Assign [.Name y py] (.ListComp elt [⟨tg, iter, ifs, 0⟩] scope pos) spos) (dAsg (dLc ti (fun d τ => τ.set i (some d)) tt te (own.map (·.2))) (dName j)) :=
  ⟨PSimp (ps_setLc hc hN hy hyl hsw hi.run ok hg (fun s H C cl fp => (ht s H C cl fp).run) (fun s H C cl fp => (he s H C cl fp).run) hs) fun De σ H ⟨τ, M, Dd, hs, hr, q, we, nc⟩ =>
    lc_read hv ⟨τ, M, _, _, hs, hr, q, fun x M' h => we x τ M' h, fun d M1 v H1 q1 e1 r1 h1 => nc.nx _ M1 _ H1 q1 e1 ((hs.mono e1).set r1) h1⟩⟩
end
end

/-! ### defs -/
/-- a promise over plain data -/
abbrev DSp := List D → Mp → DK → EK → Prop
def XC (K : PySem.W.Frag) (H : Hp) (Ed : EK) (E : XK) : Prop := ∀ x M' cls d H', Ed x M' → TExt K H H' → XR K H' cls d x → HR K H' M' → E cls d H'
def liftSp (K : PySem.W.Frag) (sp : DSp) : Sp := fun vs H Q E => ∃ ds M Qd Ed, sp ds M Qd Ed ∧ RpL K H vs ds ∧ HR K H M ∧ KC K H Qd Q ∧ XC K H Ed E
/-- the def that the module's name x holds -/
structure FnD (P : Program) (w : World) (K : PySem.W.Frag) (mg : Str → Option Value) (base : Heap) (k : Nat) (x : Str) (ps : List Str) (dds : List D) (sp : DSp) : Prop where
  ex : ∃ (f : Addr) (fd : FuncData) (dvs : List V) (ds : List Value), FnOk P w K mg base (L2.CX P w) k f fd ps (liftSp K sp) ∧ mg x = some (.ref f) ∧ PySem.W.keepIn K (.ref f) = true ∧ Binds K fd ps ds ∧ Vals dvs ds ∧ ∀ H, RpL K H dvs dds
theorem FnD.mono {P : Program} {w : World} {K : PySem.W.Frag} {mg : Str → Option Value} {base : Heap} {j k : Nat} {x : Str} {ps : List Str} {dds : List D} {sp : DSp} (F : FnD P w K mg base j x ps dds sp) (h : j ≤ k) : FnD P w K mg base k x ps dds sp := by
  obtain ⟨f, fd, dvs, ds, F, r⟩ := F.ex
  exact ⟨f, fd, dvs, ds, F.mono h, r⟩
theorem FnD.imp {P : Program} {w : World} {K : PySem.W.Frag} {mg : Str → Option Value} {base : Heap} {k : Nat} {x : Str} {ps : List Str} {dds : List D} {sp sp' : DSp} (F : FnD P w K mg base k x ps dds sp) (h : ∀ ds M Q E, sp' ds M Q E → sp ds M Q E) : FnD P w K mg base k x ps dds sp' := by
  obtain ⟨f, fd, dvs, ds, F, r⟩ := F.ex
  exact ⟨f, fd, dvs, ds, F.imp fun vs H Q E ⟨ds, M, Qd, Ed, q, r⟩ => ⟨ds, M, Qd, Ed, h _ _ _ _ q, r⟩, r⟩
def dCall (sp : DSp) (dds : List D) (t : DA) : DE := fun τ M Q E => t τ M (fun ds M1 => sp (ds ++ dds) M1 Q E) E
section
variable {X : Cx} {W : DW} {k : Nat} {x : Str} {ps : List Str} {dds : List D} {sp : DSp} {p pos apos : Pos} {e o : Expr} {es : List Expr} {t : DA} {to : DE}
theorem spIn {dvs : List V} {H1 : Hp} {σ : St} {τ : Sl} {M1 : Mp} {Qd : DK} {Ed : EK} {Q : VK} {vs : List V} {ds : List D} (hs : RS X.K W.h0 H1 σ τ) (q : sp ds M1 Qd Ed) (r : RpL X.K H1 vs ds) (hr : HR X.K H1 M1) (we : ∀ x M', Ed x M' → W.w x τ M') (k : KC X.K H1 Qd Q) :
    liftSp X.K sp vs H1 Q (WE (liftW X.K W) σ) :=
  ⟨ds, M1, Qd, Ed, q, r, hr, k, fun x M' cls d H' h e xr hr' => ⟨x, τ, M', hs.mono e, hr', xr, we x M' h⟩⟩
theorem pd_call (F : FnD X.prog X.w X.K X.mg X.base k x ps dds sp) (hr : Room k X.A) (tk : Takes X (liftW X.K W)) (hg : Gl X x) (ha : PAD X W (e :: es) t)
    (hdb : (x == ("__debug__" : Str)) = false := by decide) (he : starEach (e :: es) X.env = (false, eval e X.env) :: starEach es X.env := by rfl) (hpl : (backTo pos (starEach es X.env)).any (·.1) = false := by rfl) :
    PD X W (.Call (.Name x p) (e :: es) [] pos) (dCall sp dds t) := by
  obtain ⟨f, fd, dvs, ds0, F, hm, hk, hb, hd, hdd⟩ := F.ex
  exact ⟨PEimp (pe_callSD F hr hg hm hk hb hd (fun σ => passAt tk σ) ha.run hdb he hpl) fun σ H Q ⟨τ, M, Qd, Ed, hs, hr, q, we, k⟩ => ⟨τ, M, _, Ed, hs, hr, q, we, fun ds M1 vs H1 q1 e1 r1 h1 =>
    spIn (dvs := dvs) (hs.mono e1) q1 (r1.append (hdd H1)) h1 we (k.mono e1)⟩⟩
theorem pd_call0 (F : FnD X.prog X.w X.K X.mg X.base k x ps dds sp) (hr : Room k X.A) (tk : Takes X (liftW X.K W)) (hg : Gl X x) (hdb : (x == ("__debug__" : Str)) = false := by decide) : PD X W (.Call (.Name x p) [] [] pos) (dCall sp dds dNil) := by
  obtain ⟨f, fd, dvs, ds0, F, hm, hk, hb, hd, hdd⟩ := F.ex
  refine ⟨⟨fun pins s σ H Q I ⟨τ, M, Qd, Ed, hs, hr', q, we, k⟩ => ?_⟩⟩
  refine wpAny_Call_Name_kw (ld_glob I hg hm ?_ hdb)
  exact PySem.W.callWith_K0 I.kIn hk (run_fnSD (us := []) (vs := []) (E := WE (liftW X.K W)) F hr hb hd (passAt tk σ) I .nil (spIn (dvs := dvs) hs q (by simpa using hdd H) hr' we k))
end
end DL

set_option maxHeartbeats 4000000
namespace DL
open PySem L2
open PyProof.Rows (envOfC Subscript_)

/-! ### a def keeps its promise -/
def dstart (N : List Str) (ds : List D) : Sl := ds.map some ++ List.replicate (N.length - ds.length) none
/-- at a def's end what is no more asked is dropped -/
def dropQ (Q : DK) : DK := fun d M => ∃ M0, Sub M0 M ∧ Q d M0
def dropE (E : EK) : EK := fun x M => ∃ M0, Sub M0 M ∧ E x M0
theorem dropQ_of {Q : DK} {d : D} {M M' : Mp} (h : Q d M) (s : Sub M M') : dropQ Q d M' := ⟨M, s, h⟩
theorem dropE_of {E : EK} {d : DX} {M M' : Mp} (h : E d M) (s : Sub M M') : dropE E d M' := ⟨M, s, h⟩
/-- what a body is to reach -/
def ends (Q : DK) (E : EK) : DN := { nx := fun _ M => dropQ Q .non M, rt := dropQ Q, ex := fun x _ M => dropE E x M }
/-- what a def may let out: some promise's -/
def defW (K : PySem.W.Frag) (H : Hp) (E : XK) : DW := ⟨H, fun x _ M => ∀ H' cls d, TExt K H H' → XR K H' cls d x → HR K H' M → E cls d H'⟩
theorem rs_start {K : PySem.W.Frag} {H : Hp} {N : List Str} {vs : List V} {ds : List D} (r : RpL K H vs ds) : RS K H H (L2.start N vs) (dstart N ds) := ⟨.refl, by simp [L2.start, dstart, r.length], fun i d q => by
  unfold dstart at q
  unfold L2.start
  by_cases hi : i < ds.length
  · rw [List.getElem?_append_left (by simpa using hi), List.getElem?_map] at q
    rw [List.getElem?_append_left (by simpa [r.length] using hi), List.getElem?_map]
    cases e : ds[i]? with
    | none => rw [e] at q; cases q
    | some d' =>
      rw [e] at q
      cases q
      obtain ⟨v, ev, rv⟩ := r.get e
      exact ⟨v, by rw [ev]; rfl, rv⟩
  · rw [List.getElem?_append_right (by simpa using hi)] at q
    have : ∀ (n j : Nat), (List.replicate n (none : Option D))[j]? ≠ some (some d) := fun n j h => by
      have := List.mem_of_getElem? h
      simp at this
    exact absurd q (this _ _)⟩
section
variable {P : Program} {w : World} {K : PySem.W.Frag} {mg : Str → Option Value} {base : Heap}
/-- THE RULE for a def: its body as a term of rules, and that term's reading for every plain datum -/
theorem okD {x qual : Str} {st : Stmt} {f : Addr} {fd : FuncData} {N ps : List Str} {k : Nat} {sp : DSp} (F : L2.Fun K x qual st f fd) (S : FnScope N ps (defScope st)) (len : ∀ ds M Q E, sp ds M Q E → ds.length = ps.length)
    (hbody : ∀ (cdv : Value) (A : Around) (outer : List Env) (s : Shared) (H : Hp) (E : XK), Room k (A.deeper (envOfC qual (defScope st) s.heap.objs.size f cdv)) →
      Takes (cxOf (L2.CX P w) P w K mg base N qual (defScope st) f cdv A outer s H E) (liftW K (defW K H E)) →
      ∃ t, PSsD (cxOf (L2.CX P w) P w K mg base N qual (defScope st) f cdv A outer s H E) (defW K H E) (defBody st) t ∧ ∀ ds M Q E', sp ds M Q E' → t (ends Q E') (dstart N ds) M) :
    FnOk P w K mg base (L2.CX P w) (k + 1) f fd ps (liftSp K sp) := by
  refine F.okX S (fun vs H Q E ⟨ds, M, Qd, Ed, hsp, r, _⟩ => r.length.trans (len ds M Qd Ed hsp)) fun cdv A outer s H vs Q E hr ⟨ds, M, Qd, Ed, hsp, r, hr', kc, xc⟩ => ?_
  obtain ⟨t, ht, q⟩ := hbody cdv A outer s H E hr (Takes.imp (takes_of rfl rfl rfl rfl) fun c d σ H' ⟨x, τ, M', rs, h2, xr, hw⟩ => hw H' c d rs.ext xr h2)
  refine ⟨_, ht.run, dstart N ds, M, ends Qd Ed, rs_start r, hr', q ds M Qd Ed hsp, fun x τ M' ⟨M0, sb, h⟩ H' cls d e xr h2 => xc x M0 cls d H' h e xr (h2.sub sb), ?_⟩
  exact ⟨fun τ M' σ H' ⟨M0, sb, h⟩ e _ h2 => kc _ M0 _ H' h e .non (h2.sub sb), fun d M' v H' ⟨M0, sb, h⟩ e rv h2 => kc d M0 v H' h e rv (h2.sub sb), fun _ _ _ _ z => z.elim, fun _ _ _ _ z => z.elim⟩
theorem fnd_mk {x qual : Str} {st : Stmt} {f : Addr} {fd : FuncData} {ps : List Str} {k : Nat} {sp : DSp} (F : L2.Fun K x qual st f fd) (m : mg x = some (.ref f)) (b : Binds K fd ps []) (h : FnOk P w K mg base (L2.CX P w) k f fd ps (liftSp K sp)) : FnD P w K mg base k x ps [] sp :=
  ⟨f, fd, [], [], h, m, F.kp, b, .nil, fun _ => .nil⟩
/-- the method m of the class at C -/
structure MetD (P : Program) (w : World) (K : PySem.W.Frag) (mg : Str → Option Value) (base : Heap) (k : Nat) (C : Addr) (m : Str) (ps : List Str) (dds : List D) (sp : DSp) : Prop where
  ex : ∃ (f : Addr) (fd : FuncData) (dvs : List V) (ds : List Value), Cls K C ∧ Meth K C m f ∧ FnOk P w K mg base (L2.CX P w) k f fd ps (liftSp K sp) ∧ Binds K fd ps ds ∧ Vals dvs ds ∧ ∀ H, RpL K H dvs dds
/-- the class x at C, made -/
structure MakD (P : Program) (w : World) (K : PySem.W.Frag) (mg : Str → Option Value) (base : Heap) (k : Nat) (x : Str) (C : Addr) (ps : List Str) (dds : List D) (sp : DSp) : Prop where
  ex : ∃ (f : Addr) (fd : FuncData) (dvs : List V) (ds : List Value), Mk K C f ∧ mg x = some (.ref C) ∧ FnOk P w K mg base (L2.CX P w) k f fd ps (liftSp K sp) ∧ Binds K fd ps ds ∧ Vals dvs ds ∧ ∀ H, RpL K H dvs dds
end
def dMeth (C : Addr) (m : Str) (sp : DSp) (dds : List D) (to : DE) (t : DA) : DE := fun τ M Q E => to τ M (fun o M1 => match o with
  | .ref a => match M1 a with
    | some (.ins C' fs) => C' = C ∧ fs.lookup m = none ∧ t τ M1 (fun ds M2 => sp (.ref a :: (ds ++ dds)) M2 Q E) E
    | _ => False
  | _ => False) E
def dMake (C : Addr) (sp : DSp) (dds : List D) (t : DA) : DE := fun τ M Q E => t τ M (fun ds M1 => ∀ x, M1 x = none → sp (.ref x :: (ds ++ dds)) (put M1 x (.ins C [])) (fun d M2 => d = .non ∧ Q (.ref x) M2) E) E
/-- o[i] by an own __getitem__ -/
def dIxO (C : Addr) (sp : DSp) (to ti : DE) : DE := fun τ M Q E => to τ M (fun o M1 => ti τ M1 (fun i M2 => match o with
  | .ref a => match M2 a with
    | some (.ins C' _) => C' = C ∧ sp [.ref a, i] M2 Q E
    | _ => False
  | _ => False) E) E
section
variable {X : Cx} {W : DW} {k : Nat} {C : Addr} {x m : Str} {ps : List Str} {dds : List D} {sp : DSp} {p pos apos : Pos} {e o : Expr} {es : List Expr} {t : DA} {to ti : DE}
theorem methS {f : Addr} {fd : FuncData} {dvs : List V} {ds0 : List Value} {pl : Sem Bool} {args : List Expr} {ta : TA} {E : St → XK} {to' : TE} {sp' : Sp} (hT : PE X o to') (cl : Cls X.K C) (hm : Meth X.K C m f) (F : FnOk X.prog X.w X.K X.mg X.base (L2.CX X.prog X.w) k f fd ps sp') (hr : Room k X.A)
    (hb : Binds X.K fd ps ds0) (hd : Vals dvs ds0) (hx : ∀ σ, PassesAt (L2.CX X.prog X.w) X σ (E σ))
    (run : ∀ {pins : List (Addr × Obj)} {s : Shared} {σ : St} {H : Hp} {a : Addr} {Q : VK}, Inv X pins σ H s → ta σ H (fun vs H2 => sp' (.ref a :: (vs ++ dvs)) H2 Q (E σ)) →
      wpAny (model X.prog X.w) X.A (callWith pos (.ref f) [.ref a] (backTo pos (starEach args X.env)) (backToKw pos (keywordEach [] X.env))) (EP X pins σ Q) X.xe s)
    (ht : eval (.Call (.Attribute o m apos) args [] pos) X.env = (do
      let ov ← eval o X.env
      standAt apos.atName
      let (f, first) ← holding [ov] (getMethod ov m pl)
      callWith pos f first (backTo pos (starEach args X.env)) (backToKw pos (keywordEach [] X.env)))) :
    PE X (.Call (.Attribute o m apos) args [] pos) (fun σ H Q => to' σ H fun v H1 => ∃ a dx fs, v = .ref a ∧ H1 a = some (.ins C dx fs) ∧ fs.lookup m = none ∧ ta σ H1 fun vs H2 => sp' (.ref a :: (vs ++ dvs)) H2 Q (E σ)) :=
  ⟨fun pins s σ H Q I h => PySem.W.methodCall_KW (pl := pl) (thn (hT.run pins s σ H _ I h) fun u s1 ⟨v, H1, I1, rv, a, dx, fs, ev, ea, l, q⟩ => by
    subst ev
    cases (show u = Value.ref a from rv)
    exact getmeth_ok I1 ea cl hm l (run I1 q)) ht⟩
theorem pd_meth {pl : Sem Bool} (F : MetD X.prog X.w X.K X.mg X.base k C m ps dds sp) (hr : Room k X.A) (tk : Takes X (liftW X.K W)) (ho : PD X W o to) (ha : PAD X W (e :: es) t)
    (hst : starEach (e :: es) X.env = (false, eval e X.env) :: starEach es X.env := by rfl) (hpl : (backTo pos (starEach es X.env)).any (·.1) = false := by rfl)
    (ht : eval (.Call (.Attribute o m apos) (e :: es) [] pos) X.env = (do
      let ov ← eval o X.env
      standAt apos.atName
      let (f, first) ← holding [ov] (getMethod ov m pl)
      callWith pos f first (backTo pos (starEach (e :: es) X.env)) (backToKw pos (keywordEach [] X.env))) := by rfl) : PD X W (.Call (.Attribute o m apos) (e :: es) [] pos) (dMeth C m sp dds to t) := by
  obtain ⟨f, fd, dvs, ds0, cl, hm, F, hb, hd, hdd⟩ := F.ex
  refine ⟨PEimp (methS (E := WE (liftW X.K W)) (ta := liftA X.K W t) ho.run cl hm F hr hb hd (fun σ => passAt tk σ) (fun {pins s σ H a Q} I h => ?_) ht) fun σ H Q ⟨τ, M, Qd, Ed, hs, hr, q, we, k⟩ => ⟨τ, M, _, Ed, hs, hr, q, we, fun d M1 v H1 q1 e1 r1 h1 => ?_⟩⟩
  · refine PySem.W.callWith_K (first := [.ref a]) (h₀ := X.base) I.ok.mod.kin hm.kp (thn (ha.run.run pos pins s σ H _ I h) fun us s2 ⟨vs, H2, I2, r, q2⟩ => ⟨I2.kIn, ?_⟩) hst hpl
    exact run_fnSD (us := .ref a :: us) (vs := .ref a :: vs) F hr hb hd (passAt tk σ) I2 (.cons rfl r) q2
  · dsimp only at q1
    split at q1
    · rename_i a
      split at q1
      · rename_i C' fs ea
        obtain ⟨rfl, hl, q1⟩ := q1
        obtain ⟨dx, vs, hv, fdd⟩ := h1.ins ea
        refine ⟨a, dx, vs, r1.toRef, hv, fdd.look_none hl, τ, M1, _, Ed, hs.mono e1, h1, q1, we, fun ds M2 us H2 q2 e2 r2 h2 => ?_⟩
        exact spIn (dvs := dvs) (hs.mono (e1.trans e2)) q2 (.cons (.ref a) (r2.append (hdd H2))) h2 we (k.mono (e1.trans e2))
      · exact q1.elim
    · exact q1.elim
theorem pd_meth0 {pl : Sem Bool} (F : MetD X.prog X.w X.K X.mg X.base k C m ps dds sp) (hr : Room k X.A) (tk : Takes X (liftW X.K W)) (ho : PD X W o to)
    (ht : eval (.Call (.Attribute o m apos) [] [] pos) X.env = (do
      let ov ← eval o X.env
      standAt apos.atName
      let (f, first) ← holding [ov] (getMethod ov m pl)
      callWith pos f first (backTo pos (starEach [] X.env)) (backToKw pos (keywordEach [] X.env))) := by rfl) : PD X W (.Call (.Attribute o m apos) [] [] pos) (dMeth C m sp dds to dNil) := by
  obtain ⟨f, fd, dvs, ds0, cl, hm, F, hb, hd, hdd⟩ := F.ex
  refine ⟨PEimp (methS (E := WE (liftW X.K W)) (ta := tNil) ho.run cl hm F hr hb hd (fun σ => passAt tk σ) (fun {pins s σ H a Q} I h => ?_) ht) fun σ H Q ⟨τ, M, Qd, Ed, hs, hr, q, we, k⟩ => ⟨τ, M, _, Ed, hs, hr, q, we, fun d M1 v H1 q1 e1 r1 h1 => ?_⟩⟩
  · exact PySem.W.callWith_K0 (first := [.ref a]) I.kIn hm.kp (run_fnSD (us := [.ref a]) (vs := [.ref a]) F hr hb hd (passAt tk σ) I (.cons rfl .nil) h)
  · dsimp only at q1
    split at q1
    · rename_i a
      split at q1
      · rename_i C' fs ea
        obtain ⟨rfl, hl, q1⟩ := q1
        obtain ⟨dx, vs, hv, fdd⟩ := h1.ins ea
        exact ⟨a, dx, vs, r1.toRef, hv, fdd.look_none hl, spIn (dvs := dvs) (hs.mono e1) q1 (.cons (.ref a) (by simpa using hdd H1)) h1 we (k.mono e1)⟩
      · exact q1.elim
    · exact q1.elim
/-- a new instance and its __init__, what is raised wished for at the slots -/
theorem makeS {f : Addr} {fd : FuncData} {dvs : List V} {ds0 : List Value} {pins : List (Addr × Obj)} {σ : St} {H : Hp} {s : Shared} {Q : VK} {us : List Value} {vs : List V} {E : XK} {sp' : Sp} (M : Mk X.K C f) (F : FnOk X.prog X.w X.K X.mg X.base (L2.CX X.prog X.w) k f fd ps sp') (hr : Room (k + 1) X.A)
    (hb : Binds X.K fd ps ds0) (hd : Vals dvs ds0) (hx : PassesAt (L2.CX X.prog X.w) X σ E) (I : Inv X pins σ H s) (r : Vals vs us)
    (h : ∀ x dx, H x = none → H dx = none → dx ≠ x → sp' (.ref x :: (vs ++ dvs)) (upd (upd H dx (.own x)) x (.ins C dx [])) (fun v H2 => v = .non ∧ Q (.ref x) H2) E) :
    wpAny (model X.prog X.w) X.A (call (.ref C) us) (EP X pins σ Q) X.xe s := by
  have n0 : s.heap.objs.size ≠ s.heap.objs.size + 1 := by omega
  have hq := h (s.heap.objs.size + 1) s.heap.objs.size (I.hok.fresh (by omega)) (I.hok.fresh (Nat.le_refl _)) n0
  have J := Inv.made (C := C) I
  have r2 : Vals (V.ref (s.heap.objs.size + 1) :: (vs ++ dvs)) (Value.ref (s.heap.objs.size + 1) :: (us ++ ds0)) := .cons rfl (r.append hd)
  have hl : (Value.ref (s.heap.objs.size + 1) :: us ++ ds0).length = ps.length := (F.len _ _ _ _ hq ▸ r2.length).symm
  refine wpAny_call (make_map (f := f) I.kIn M.makes M.init (beq_iff_eq.mp M.fn) (codeAny_mono (F.run _ X.stack _ _ ⟨Value.ref (s.heap.objs.size + 1) :: us, []⟩ _ _ _ E (hr.make C us []) (J.env0.make C us [])
    (hb _ (Value.ref (s.heap.objs.size + 1) :: us) J.kIn hl) r2 hq) fun res s' hq' => ?_))
  cases res with
  | error e => exact hx pins _ _ e s' J hq'
  | ok fl =>
    cases fl with
    | ret u =>
      obtain ⟨v, H', J2, rv, ev, q3⟩ := J.after hq'
      subst ev
      exact ⟨rv, ⟨V.ref (s.heap.objs.size + 1), H', J2, rfl, q3⟩⟩
    | _ => exact False.elim hq'
theorem HR.newIns {K : PySem.W.Frag} {H : Hp} {M : Mp} {x dx : Addr} (hr : HR K H M) (hx : H x = .none) (hd : H dx = .none) (n : dx ≠ x) : HR K (upd (upd H dx (.own x)) x (.ins C dx [])) (put M x (.ins C [])) :=
  (hr.fresh hd).made (noTup_none (by rw [upd_ne (Ne.symm n)]; exact hx)) ⟨dx, [], upd_same, trivial⟩
theorem TExt.newIns {K : PySem.W.Frag} {H : Hp} {x dx : Addr} (hx : H x = .none) (hd : H dx = .none) (n : dx ≠ x) : TExt K H (L2.upd (L2.upd H dx (.own x)) x (.ins C dx [])) :=
  (TExt.new hd).trans (TExt.new ((upd_ne (Ne.symm n)).trans hx))
theorem pd_make (F : MakD X.prog X.w X.K X.mg X.base k x C ps dds sp) (hr : Room (k + 1) X.A) (tk : Takes X (liftW X.K W)) (hg : Gl X x) (ha : PAD X W (e :: es) t)
    (hdb : (x == ("__debug__" : Str)) = false := by decide) (he : starEach (e :: es) X.env = (false, eval e X.env) :: starEach es X.env := by rfl) (hpl : (backTo pos (starEach es X.env)).any (·.1) = false := by rfl) :
    PD X W (.Call (.Name x p) (e :: es) [] pos) (dMake C sp dds t) := by
  obtain ⟨f, fd, dvs, ds0, M, hm, F, hb, hd, hdd⟩ := F.ex
  refine ⟨⟨fun pins s σ H Q I ⟨τ, Mm, Qd, Ed, hs, hr', q, we, k⟩ => wpAny_Call_Name_kw (ld_glob I hg hm ?_ hdb)⟩⟩
  refine PySem.W.callWith_K (h₀ := X.base) I.ok.mod.kin M.kp (thn (ha.run.run pos pins s σ H (fun vs H1 => ∀ a dx, H1 a = none → H1 dx = none → dx ≠ a → liftSp X.K sp (.ref a :: (vs ++ dvs)) (upd (upd H1 dx (.own a)) a (.ins C dx [])) (fun v H2 => v = .non ∧ Q (.ref a) H2) (WE (liftW X.K W) σ)) I
    ⟨τ, Mm, _, Ed, hs, hr', q, we, fun ds M1 vs H1 q1 e1 r1 h1 a dx ha hdx n => ?_⟩) fun us s1 ⟨vs, H1, I1, r, q1⟩ => ⟨I1.kIn, makeS M F hr hb hd (passAt tk σ) I1 r q1⟩) he hpl
  have e2 : TExt X.K H1 (upd (upd H1 dx (.own a)) a (.ins C dx [])) := .newIns ha hdx n
  exact spIn (dvs := dvs) (Qd := fun d M2 => d = .non ∧ Qd (.ref a) M2) (hs.mono (e1.trans e2)) (q1 a (h1.free ha)) (.cons (.ref a) ((r1.mono e2).append (hdd _))) (h1.newIns ha hdx n) we
    fun d M' v H' ⟨ed, h⟩ e' rv h' => ⟨by subst ed; exact rv.toNon, k _ M' _ H' h (e1.trans (e2.trans e')) (.ref a) h'⟩
/-- in a call's inner room -/
theorem run1 {f : Addr} {fd : FuncData} {pins : List (Addr × Obj)} {σ : St} {H : Hp} {s : Shared} {Q : VK} {us : List Value} {vs : List V} {E : XK} {sp' : Sp} (F : FnOk X.prog X.w X.K X.mg X.base (L2.CX X.prog X.w) k f fd ps sp') (hr : Room (k + 1) X.A) (hb : Binds X.K fd ps []) (hx : PassesAt (L2.CX X.prog X.w) X σ E)
    (I : Inv X pins σ H s) (r : Vals vs us) (h : sp' vs H Q E) : wpAny (model X.prog X.w) X.A.in1 (call (.ref f) us) (EP X pins σ Q) X.xe s := by
  have hl : (us ++ []).length = ps.length := by rw [List.append_nil, ← r.length]; exact F.len _ _ _ _ h
  have hb' := hb s us I.kIn hl
  rw [List.append_nil] at hb'
  refine wpAny_call (codeAny_mono (F.run X.A.in1 X.stack s H ⟨us, []⟩ us vs Q E hr.in1 I.env0.in1 hb' r h) fun res s' hq => ?_)
  cases res with
  | error e => exact hx pins H s e s' I hq
  | ok fl =>
    cases fl with
    | ret u => exact I.after hq
    | _ => exact False.elim hq
theorem pd_ixO {a b : Expr} (F : MetD X.prog X.w X.K X.mg X.base k C "__getitem__" ps [] sp) (hfn : ∀ f, PySem.W.findIn X.K (.ref C) "__getitem__" = some (some (.ref f)) → PySem.W.fnIn X.K f = true) (hr : Room (k + 1) X.A) (tk : Takes X (liftW X.K W)) (ho : PD X W a to) (hi : PD X W b ti)
    (hsl : ∀ x i, subscripted b true (.ref x) i = runValue (.builtin "lifetime.subscript" ⟨[.ref x, i], []⟩) := by intro _ _; with_unfolding_all rfl) : PD X W (.Subscript a b pos) (dIxO C sp to ti) := by
  obtain ⟨f, fd, dvs, ds0, cl, hm, F, hb, hd, hdd⟩ := F.ex
  have e0 : dvs = [] := (hdd H0n).nil_of
  subst e0
  have e1 : ds0 = [] := by cases hd; rfl
  subst e1
  refine ⟨⟨fun pins s σ H Q I ⟨τ, M, Qd, Ed, hs, hr', q, we, k⟩ => Subscript_ (binT (R := fun x y H2 => ∃ a dx fs, x = .ref a ∧ H2 a = some (.ins C dx fs) ∧ liftSp X.K sp [.ref a, y] H2 Q (WE (liftW X.K W) σ)) ho.run hi.run I
    ⟨τ, M, _, Ed, hs, hr', q, we, fun od M1 ov H1 q1 e1 r1 h1 => ⟨τ, M1, _, Ed, hs.mono e1, h1, q1, we, fun y M2 yv H2 q2 e2 r2 h2 => ?_⟩⟩ fun v u s2 x y H2 I2 rx ry ⟨a, dx, fs, ex, ea, q2⟩ => ?_)⟩⟩
  · dsimp only at q2
    split at q2
    · rename_i a
      split at q2
      · rename_i C' fs ea
        obtain ⟨rfl, q2⟩ := q2
        obtain ⟨dx, vs, hv, _⟩ := h2.ins ea
        exact ⟨a, dx, vs, (r1.mono e2).toRef, hv, spIn (dvs := []) (hs.mono (e1.trans e2)) q2 (.cons (.ref a) (.cons r2 .nil)) h2 we (k.mono (e1.trans e2))⟩
      · exact q2.elim
    · exact q2.elim
  · subst ex
    cases (show v = Value.ref a from rx)
    obtain ⟨m, Fr⟩ := I2.fr
    obtain ⟨mA, O, _⟩ := ins_get I2.hok ea
    obtain ⟨od, J, _⟩ := O.look
    exact PySem.W.sub_K Fr I2.ok.mod.kin J hm.at_ (hfn f hm.at_) hm.fn (run1 F hr hb (passAt tk σ) I2 (.cons (show RelV (.ref a) (.ref a) from rfl) (.cons ry .nil)) q2) (hsl a u)
end
end DL

set_option maxHeartbeats 4000000
namespace DL
open PySem L2
section
variable {X : Cx} {W : DW} {pos p p2 np pos' : Pos}
/-- what the written part says of an exception class of the program, without its own __init__ -/
structure ExcK (K : PySem.W.Frag) (mg : Str → Option Value) (x : Str) (C : Addr) : Prop where
  q : PySem.W.excIn K C [.type "ValueError", .type "Exception", .type "BaseException", .type "object"] "ValueError.__new__" = true
  m : mg x = some (.ref C)
  k : PySem.W.keepIn K (.ref C) = true
  s : PySem.W.subIn K (.ref C) (.type "BaseException") = some true
  t : PySem.W.typeIn K (.ref C) = some (.type "type")
def dRaise (C : Addr) : DS := fun Dn τ M => Dn.ex ⟨.ref C, none, []⟩ τ M
theorem psd_raise {x m : Str} {C : Addr} {j : Nat} (E : ExcK X.K X.mg x C) (hc : X.calm = true) (tk : Takes X (liftW X.K W)) (hg : Gl X x) (hdb : (x == ("__debug__" : Str)) = false := by decide) :
    PSD X W (.Raise (some (.Call (.Name x p) [.Constant (.str m) j p2] [] pos')) none pos) (dRaise C) :=
  ⟨PSimp (ps_raise hc tk (pmk_own PySem.F.excBase_ValueError E.q E.m E.k (raises_own E.s E.t) hg hdb)) fun De σ H ⟨τ, M, Dd, hs, hr, q, we, nc⟩ =>
    ⟨⟨.ref C, none, []⟩, τ, M, hs, hr, ⟨rfl, rfl, fun dx e => by cases e⟩, we _ τ M q⟩⟩
theorem RS.setN {K : PySem.W.Frag} {H0 H : Hp} {σ : St} {τ : Sl} (h : RS K H0 H σ τ) (i : Nat) : RS K H0 H (σ.set i none) (τ.set i none) := ⟨h.ext, by simpa using h.len, fun j e q => by
  by_cases c : i = j
  · subst c
    by_cases hi : i < τ.length
    · rw [List.getElem?_set_self hi] at q; cases q
    · rw [List.getElem?_eq_none (by simpa using hi)] at q; cases q
  · rw [List.getElem?_set_ne c] at q ⊢
    exact h.at_ j e q⟩
/-- the exception's own attributes beside the rest -/
def caught (x : DX) (M : Mp) : Mp := match x.d with
  | some dx => put M dx (.xd x.fs)
  | none => M
theorem caught_ok {K : PySem.W.Frag} {H : Hp} {M : Mp} {cls : Value} {d : Option Addr} {x : DX} (h : HR K H M) (xr : XR K H cls d x) : HR K H (caught x M) := by
  unfold caught
  obtain ⟨_, e, r⟩ := xr
  cases hd : x.d with
  | none => exact h
  | some dx =>
    intro a o q
    by_cases c : a = dx
    · subst c
      have q' : put M a (.xd x.fs) a = some o := q
      rw [put_same] at q'
      cases q'
      exact r a (by rw [e, hd])
    · have q' : put M dx (.xd x.fs) a = some o := q
      rw [put_ne c] at q'
      exact h a o q'
/-- what an exception of the body meets; c the class that is named, i the name's slot -/
def hAs (K : PySem.W.Frag) (c : Value) (i : Nat) (ts : DX → Addr → DS) (Dn : DN) : DX → Sl → Mp → Prop := fun x τ M =>
  ∃ b, PySem.W.exmOne K x.cls c = some b ∧ (b = true → ∀ a, M a = none → ts x a { nx := fun τ' M' => Dn.nx (τ'.set i none) M', rt := Dn.rt, bk := fun τ' M' => Dn.bk (τ'.set i none) M', ct := fun τ' M' => Dn.ct (τ'.set i none) M' } (τ.set i (some (.ref a))) (caught x M)) ∧
    (b = false → Dn.ex x τ M)
def dTryAs (K : PySem.W.Frag) (c : Value) (i : Nat) (t : DS) (ts : DX → Addr → DS) : DS := fun Dn τ M => t { Dn with ex := hAs K c i ts Dn } τ M
def Wn (H0 : Hp) : DW := ⟨H0, fun _ _ _ => False⟩
theorem RS.base {K : PySem.W.Frag} {H0 H1 H : Hp} {σ : St} {τ : Sl} (h : RS K H1 H σ τ) (e : TExt K H0 H) : RS K H0 H σ τ := ⟨e, h.len, h.at_⟩
theorem NC.base {K : PySem.W.Frag} {H0 H : Hp} {Dd : DN} {De : Ends} (h : NC K H0 H Dd De) (e : TExt K H0 H) : NC K H H Dd De :=
  ⟨fun τ M σ H' q x rs hr => h.nx τ M σ H' q x (rs.base (e.trans x)) hr, h.rt, fun τ M σ H' q x rs hr => h.bk τ M σ H' q x (rs.base (e.trans x)) hr, fun τ M σ H' q x rs hr => h.ct τ M σ H' q x (rs.base (e.trans x)) hr⟩
theorem psd_try_as {x n : Str} {c : Value} {i : Nat} {body suite : List Stmt} {b₀ : Stmt} {t : DS} {ts : DX → Addr → DS} (hs : X.stack = X.env :: X.outer) (hf : X.env.frame = some X.env.locals) (hN : X.N.Nodup) (hi : X.N[i]? = some n) (hln : X.env.kindOf n = some .local) (hc : Names X x c) (tk : Takes X (liftW X.K W))
    (hb : ∀ (W' : DW) (pn : List (Addr × Obj)) (xe : Value → Shared → Prop), Takes (X.tr pn xe) (liftW X.K W') → PassesOwn (model X.prog X.w) X.A X.env xe → PSsD (X.tr pn xe) W' body t)
    (hsu : ∀ (y : DX) (a : Addr) (oe : Obj) (pn : List (Addr × Obj)), Zc y.cls y.d oe → (∃ vs, oe.data = .fields vs) → PSsD (X.suite a ((a, oe) :: pn)) (Wn W.h0) (b₀ :: suite) (ts y a)) :
    PSD X W (.Try body [.ExceptHandler (some (.Name x np)) (some n) (b₀ :: suite) pos'] [] [] pos) (dTryAs X.K c i t ts) := by
  refine ⟨PSimp (ps_try_as (tb := fun Wx De σ H => ∃ W' : DW, (∀ cls d σ H, liftW X.K W' cls d σ H → Wx cls d σ H) ∧ liftS X.K W' t De σ H) (ts := fun a cls d De σ H => ∃ y, cls = y.cls ∧ d = y.d ∧ liftS X.K (Wn W.h0) (ts y a) De σ H)
    (Wout := liftW X.K W) hs hf hN hi hln hc tk (fun Wx pn xe htk hpo => ⟨fun pins s σ H De I ⟨W', hw, h⟩ => (hb W' pn xe (htk.imp hw) hpo).run.run pins s σ H De I h⟩) (fun a oe cls d pn hz hd => ⟨fun pins s σ H De I ⟨y, e1, e2, h⟩ => ?_⟩)) fun De σ H ⟨τ, M, Dd, hs, hr, q, we, nc⟩ => ?_⟩
  · subst e1; subst e2
    exact (hsu y a oe pn hz hd).run.run pins s σ H De I h
  · refine ⟨⟨H, fun y τ' M' => hAs X.K c i ts Dd y τ' M'⟩, ?_, τ, M, { Dd with ex := hAs X.K c i ts Dd }, hs.base .refl, hr, q, fun y τ' M' h => h, (nc.base hs.ext).nx, (nc.base hs.ext).rt, (nc.base hs.ext).bk, (nc.base hs.ext).ct⟩
    rintro cls d σ' H' ⟨y, τ', M', hs', hr', xr, b, hb1, hy, hn⟩
    refine ⟨b, by rw [xr.1]; exact hb1, fun eb a ha => ⟨y, xr.1, xr.2.1, τ'.set i (some (.ref a)), caught y M', _, (hs'.base (hs.ext.trans hs'.ext)).set (.ref a), caught_ok hr' xr, hy eb a (hr'.free ha), fun _ _ _ z => z.elim, ?_⟩, fun eb => ⟨y, τ', M', hs'.base (hs.ext.trans hs'.ext), hr', xr, we y τ' M' (hn eb)⟩⟩
    exact ⟨fun τ2 M2 σ2 H2 q2 e2 rs2 hr2 => nc.nx _ M2 _ H2 q2 (hs'.ext.trans e2) (rs2.setN i) hr2, fun d2 M2 v H2 q2 e2 => nc.rt d2 M2 v H2 q2 (hs'.ext.trans e2), fun τ2 M2 σ2 H2 q2 e2 rs2 hr2 => nc.bk _ M2 _ H2 q2 (hs'.ext.trans e2) (rs2.setN i) hr2, fun τ2 M2 σ2 H2 q2 e2 rs2 hr2 => nc.ct _ M2 _ H2 q2 (hs'.ext.trans e2) (rs2.setN i) hr2⟩
/-- isinstance(e, C) of the exception that the suite holds -/
def isxG (K : PySem.W.Frag) (y : DX) (a : Addr) : DG := fun ds M Q => match ds with
  | [.ref a', c] => a' = a ∧ y.d = none ∧ ∃ D b cv, y.cls = .ref D ∧ ExcC K D ∧ ((∃ C, c = .ref C ∧ cv = .ref C) ∨ ∃ n, c = .ty n ∧ cv = .type n) ∧ PySem.W.kitOne K (.ref D) cv = some b ∧ Q (.bl b) M
  | _ => False
theorem call_isxG {y : DX} {a : Addr} {oe : Obj} {pn : List (Addr × Obj)} (hz : Zc y.cls y.d oe) (hf : ∃ vs, oe.data = .fields vs) : CallR (X.suite a ((a, oe) :: pn)) (.builtin "isinstance") (liftC X.K (isxG X.K y a)) := by
  intro pins s σ H xs us Q I rs ⟨ds, M, Qd, q, r, hr, k⟩
  unfold isxG at q
  split at q
  · rename_i a' c
    obtain ⟨rfl, hd, D, b, cv, ec, C, hc, kk, q⟩ := q
    obtain ⟨v, v', rfl, rv, rv'⟩ := r.two
    obtain ⟨u1, u2, rfl, r1, r2⟩ := vals2 rs
    rw [rv.toRef] at r1
    cases (show u1 = Value.ref a' from r1)
    have e2 : u2 = cv := by
      rcases hc with ⟨C', rfl, rfl⟩ | ⟨n, rfl, rfl⟩
      · rw [rv'.toRef] at r2; exact r2
      · rw [rv'.toTy] at r2; exact r2
    subst e2
    obtain ⟨hget, _⟩ := I.pin (a', oe) (List.mem_append.mpr (.inl List.mem_cons_self))
    obtain ⟨vs, hv⟩ := hf
    have J : PySem.W.InstAt s.heap a' oe D none := ⟨hget, by rw [hz.1]; exact ec, by unfold PySem.W.notCls; rw [hv] <;> rfl, by rw [hz.2, hd]; trivial⟩
    exact PySem.W.kia_one (PySem.W.handS_kitx_exc C.hg C.hk C.hs C.hd C.ha C.hn C.ht C.hm) I.kIn J kk (fun z => nomatch z) fun tk => ⟨.bl b, H, I.kept (t' := tk) fun _ _ z => z, rfl, k _ M _ H q .refl (.bl _) hr⟩
  · exact q.elim
end
end DL

set_option maxHeartbeats 4000000
namespace PySem
namespace DLmul
open PySem.SeqAt
open PySem.AutoSeq1 (wpAny_loadPart')
open PySem.MeetsSeq PySem.MeetsSeq2 PySem.MeetsSeq3 PySem.SeqRoads2
/-- once, or an empty one: the tuple itself -/
theorem mul_self (l : Addr) (items : Array Value) (n : Nat) (dd : Option Addr) (sl : Array (Option Value)) (x : Int) (u : Tok) (c0 : (decide (x < -(2 ^ 63)) || decide (x ≥ 2 ^ 63)) = false) (c1 : (items.isEmpty || x == 1) = true) :
    Meets (Builtin.«tuple.__mul__» ⟨[.ref l, .int x u], []⟩) (fun _ R s => s.heap.get? l = some { cls := .type "tuple", dict := dd, data := .seq items n, slots := sl } ∧ R (.ok (.ret (.ref l))) s) :=
  .of_wp fun prog w A R s h => by
    obtain ⟨hp, g, d, tk, os⟩ := s
    obtain ⟨hl, h⟩ := h
    have f1 := AutoSeq1.idx_int
    wp_walk using wpAny_loadPart' hl
    repeat (first
      | (refine wpAny_ite_false (decide_eq_false (by rw [c0]; exact Bool.false_ne_true)) ?_; wp_walk using wpAny_loadPart' hl)
      | (refine wpAny_ite_true (decide_eq_true c1) ?_; wp_walk using wpAny_loadPart' hl))
    exact ⟨_, rfl, h⟩
theorem mul_zero (l : Addr) (items : Array Value) (n : Nat) (dd : Option Addr) (sl : Array (Option Value)) (x : Int) (u : Tok) (c0 : (decide (x < -(2 ^ 63)) || decide (x ≥ 2 ^ 63)) = false) (c1 : (items.isEmpty || x == 1) = false) (c2 : (decide (x ≤ 0) || items.isEmpty) = true) :
    Meets (Builtin.«tuple.__mul__» ⟨[.ref l, .int x u], []⟩) (fun _ R s => s.heap.get? l = some { cls := .type "tuple", dict := dd, data := .seq items n, slots := sl } ∧ R (.ok (.ret (.ref s.heap.objs.size))) { s with heap := s.heap.push { cls := .type "tuple", data := .seq #[] } }) :=
  .of_wp fun prog w A R s h => by
    obtain ⟨hp, g, d, tk, os⟩ := s
    obtain ⟨hl, h⟩ := h
    have f1 := AutoSeq1.idx_int
    wp_walk using wpAny_loadPart' hl
    repeat (first
      | (refine wpAny_ite_false (decide_eq_false (by rw [c0]; exact Bool.false_ne_true)) ?_; wp_walk using wpAny_loadPart' hl)
      | (refine wpAny_ite_false (decide_eq_false (by rw [c1]; exact Bool.false_ne_true)) ?_; wp_walk using wpAny_loadPart' hl)
      | (refine wpAny_ite_true (decide_eq_true c2) ?_; wp_walk using wpAny_loadPart' hl))
    exact ⟨_, rfl, h⟩
end DLmul
end PySem

namespace DL
open PySem L2
theorem bt_tuple : bootBuiltins "tuple" = some (.type "tuple") := by decide +kernel
theorem bt_list : bootBuiltins "list" = some (.type "list") := by decide +kernel
theorem bt_int : bootBuiltins "int" = some (.type "int") := by decide +kernel
theorem bt_str : bootBuiltins "str" = some (.type "str") := by decide +kernel
theorem bt_bool : bootBuiltins "bool" = some (.type "bool") := by decide +kernel
theorem bt_dict : bootBuiltins "dict" = some (.type "dict") := by decide +kernel
theorem bt_ValueError : bootBuiltins "ValueError" = some (.type "ValueError") := by decide +kernel
theorem bt_len : bootBuiltins "len" = some (.builtin "len") := by decide +kernel
theorem bt_isinstance : bootBuiltins "isinstance" = some (.builtin "isinstance") := by decide +kernel
theorem bt_all : bootBuiltins "all" = some (.builtin "all") := by decide +kernel
theorem bt_any : bootBuiltins "any" = some (.builtin "any") := by decide +kernel
theorem bt_max : bootBuiltins "max" = some (.builtin "max") := by decide +kernel
theorem bt_min : bootBuiltins "min" = some (.builtin "min") := by decide +kernel
section
variable {X : Cx} {W : DW} {pos : Pos}
theorem tk0 : Takes X (liftW X.K W0) := (takes0 (X := X)).imp fun _ _ _ _ ⟨_, _, _, _, _, _, h⟩ => h
theorem tkn {H0 : Hp} : Takes X (liftW X.K (Wn H0)) := (takes0 (X := X)).imp fun _ _ _ _ ⟨_, _, _, _, _, _, h⟩ => h
/-- a built-in class as a value -/
theorem pd_ty {x : Str} {n : String} (hg : Gl X x) (hm : X.mg x = none) (hv : bootBuiltins x = some (.type n)) (hn : x ≠ "__name__" := by decide) (hd : (x == ("__debug__" : Str)) = false := by decide) : PD X W (.Name x pos) (dC (.ty n)) :=
  pd_c (pe_bltn (v := .ty n) hg hm hv rfl hn hd) fun _ => .ty n
/-- a class of the program as a value -/
theorem pd_cls {x : Str} {C : Addr} (hg : Gl X x) (hm : X.mg x = some (.ref C)) (hd : (x == ("__debug__" : Str)) = false := by decide) : PD X W (.Name x pos) (dC (.ref C)) :=
  pd_c (pe_glob (v := .ref C) hg hm rfl hd) fun _ => .ref C
/-- a constant of the module -/
theorem pd_gint {x : Str} {i : Int} {t : Tok} (hg : Gl X x) (hm : X.mg x = some (.int i t)) (hd : (x == ("__debug__" : Str)) = false := by decide) : PD X W (.Name x pos) (dC (.int i)) :=
  pd_c (pe_glob (v := .int i) hg hm ⟨t, rfl⟩ hd) fun _ => .int i
theorem pd_gstr {x : Str} {z : Str} {t : Tok} (hg : Gl X x) (hm : X.mg x = some (.str z t)) (hd : (x == ("__debug__" : Str)) = false := by decide) : PD X W (.Name x pos) (dC (.str z)) :=
  pd_c (pe_glob (v := .str z) hg hm ⟨t, rfl⟩ hd) fun _ => .str z
/-- t * k, any k -/
def rRepA (K : PySem.W.Frag) : R2 := fun x y H Q => ∃ l k xs, x = .ref l ∧ y = .int k ∧ SqT K H l xs ∧ -(2 ^ 63) ≤ k ∧ k < 2 ^ 63 ∧ xs.length * k.toNat ≤ sizeLine ∧ (xs = [] ∨ k = 1 → Q (.ref l) H) ∧
  (¬ (xs = [] ∨ k = 1) → ∀ p, H p = none → Q (.ref p) (upd H p (.tup (List.replicate k.toNat xs).flatten)))
theorem op_repA : OpR X (binaryOp .Mult) (rRepA X.K) := by
  intro pins s σ H x y v u Q I rx ry ⟨l, k, xs, ex, ey, hT, k1, k2, hz, q1, q2⟩
  subst ex; subst ey
  cases rx
  obtain ⟨t, rfl⟩ := ry
  obtain ⟨its, r, ⟨⟨cls, dd, data, sl⟩, ho, hc, n, hd⟩, hs⟩ := I.tuple hT
  simp only at hc hd
  subst hc hd
  have hle : its.length = xs.length := r.length.symm
  have c0 : (decide (k < -(2 ^ 63)) || decide (k ≥ 2 ^ 63)) = false := by simp; omega
  have he : its.toArray.isEmpty = decide (xs = []) := by
    cases r with
    | nil => simp
    | cons _ _ => simp
  have road : ∀ {P : Builtin → (Result → Shared → Prop) → Shared → Prop} {b : Fin → Prop}, True := fun {_ _} => trivial
  have go : wpAny (model X.prog X.w) X.A (call (.builtin "tuple.__mul__") [.ref l, .int k t]) (EP X pins σ Q) X.xe s → wpAny (model X.prog X.w) X.A (binaryOp .Mult (.ref l) (.int k t)) (EP X pins σ Q) X.xe s := fun h =>
    wpAny_binaryOp_repeat_ref (T := "tuple") (U := "int") (by decide) ⟨_, ho, rfl⟩ (fun s' => typeIs_int s' k t) noFill_tuple_mul F.fills_int_mul F.slot_int_rmul repeat_tuple F.slot_int_index.lookup
      (call_meets F.slot_int_rmul (typeIs_int s k t) F.entry_int_rmul (F.args_int_rmul_2 _ _) (int_rmul_tuple k t l its.toArray n dd sl) ⟨ho, rfl, ⟨_, ho, rfl⟩, h⟩)
  by_cases hw : xs = [] ∨ k = 1
  · refine go (call_meets F.slot_tuple_mul ⟨_, ho, rfl⟩ F.entry_tuple_mul (F.args_tuple_mul_2 _ _) (DLmul.mul_self l its.toArray n dd sl k t c0 ?_) ⟨ho, ⟨.ref l, H, I, rfl, q1 hw⟩⟩)
    rw [he]
    rcases hw with h | h <;> simp [h]
  · have hx : xs ≠ [] := fun e => hw (.inl e)
    have hk : k ≠ 1 := fun e => hw (.inr e)
    have c1 : (its.toArray.isEmpty || k == 1) = false := by rw [he]; simp [hx, hk]
    by_cases hp : k ≤ 0
    · refine go (call_meets F.slot_tuple_mul ⟨_, ho, rfl⟩ F.entry_tuple_mul (F.args_tuple_mul_2 _ _) (DLmul.mul_zero l its.toArray n dd sl k t c0 c1 (by simp [hp])) ⟨ho, ?_⟩)
      have e0 : k.toNat = 0 := by omega
      refine ⟨.ref s.heap.objs.size, _, I.laid (t' := s.toks) (o := .tup []) (fun b ob q => Heap.get?_push_of_some _ q) (Nat.le_refl _) ⟨Nat.zero_le _, [], .nil, PyProof.Rows.IsTup.new _ _⟩, rfl, ?_⟩
      have := q2 hw s.heap.objs.size (I.hok.fresh (Nat.le_refl _))
      rw [e0] at this
      exact this
    · have hsz : (List.replicate k.toNat its).flatten.length ≤ sizeLine := by rw [PyProof.Rows.lm_len_rep_flat, hle, Nat.mul_comm]; exact hz
      have hm : ((its.toArray.size : Nat) : Int) * k ≤ 16777216 := by
        have e1 : k = (k.toNat : Int) := by omega
        rw [sizeLine_eq] at hz
        rw [e1, List.size_toArray, hle, ← Int.natCast_mul]
        exact Int.ofNat_le.mpr hz
      refine go (call_meets F.slot_tuple_mul ⟨_, ho, rfl⟩ F.entry_tuple_mul (F.args_tuple_mul_2 _ _) (tuple_mulW l its.toArray n dd sl k t c0 c1 (by rw [he]; simp [hx]; omega) (by omega) ?_ (by rw [size_rep, List.size_toArray]; exact hsz)) ⟨ho, ?_⟩)
      · unfold Builtin.Tuple.tupleTooMany
        rw [sizeLine_eq]
        exact decide_eq_false (by omega)
      · rw [size_rep]
        exact ⟨.ref s.heap.objs.size, _, I.laid (t' := s.toks) (o := .tup (List.replicate k.toNat xs).flatten) (fun b ob q => Heap.get?_push_of_some _ q) (Nat.le_refl _) ⟨by rw [PyProof.Rows.lm_len_rep_flat, Nat.mul_comm]; exact hz, _, r.rep k.toNat, PyProof.Rows.IsTup.new _ _⟩, rfl, q2 hw _ (I.hok.fresh (Nat.le_refl _))⟩
/-- * -/
def mulD : DO := fun x y M Q => match x, y with
  | .int i, .int j => CMulX i j ∧ Q (.int (i * j)) M
  | .tup xs, .int k => (-(2 ^ 63) ≤ k ∧ k < 2 ^ 63 ∧ xs.length * k.toNat ≤ sizeLine) ∧ Q (.tup (List.replicate k.toNat xs).flatten) M
  | .ref a, .int k => match M a with
    | some (.lst xs) => (-(2 ^ 63) ≤ k ∧ k < 2 ^ 63 ∧ xs.length * k.toNat ≤ sizeLine) ∧ ∀ p, M p = none → Q (.ref p) (put M p (.lst (List.replicate k.toNat xs).flatten))
    | _ => False
  | _, _ => False
theorem op_mulD : OpR X (binaryOp .Mult) (liftO X.K mulD) :=
  OpRimp ((op_mulX (X := X)).or ((op_repA (X := X)).or (op_rep (X := X)))) fun x y H Q ⟨dx, dy, M, Qd, q, a, b, c, k⟩ => by
    unfold mulD at q
    split at q
    · exact .inl ⟨_, _, a.toInt, b.toInt, q.1, k _ M _ H q.2 .refl (.int _) c⟩
    · rename_i xs kk
      obtain ⟨pa, va, rfl, sa, la⟩ := a.toTup
      obtain ⟨⟨k2, k3, z⟩, q⟩ := q
      refine .inr (.inl ⟨pa, kk, va, rfl, b.toInt, sa, k2, k3, by rw [la.length]; exact z, fun e => ?_, fun _ p hp => k.tup c (la.rep _) hp q⟩)
      rcases e with e | e
      · subst e
        have e' : xs = [] := by cases la; rfl
        subst e'
        have e2 : (List.replicate kk.toNat ([] : List D)).flatten = [] := by simp
        rw [e2] at q
        exact k _ M _ H q .refl (.tup sa la) c
      · subst e
        have e2 : (List.replicate (1 : Int).toNat xs).flatten = xs := by simp
        rw [e2] at q
        exact k _ M _ H q .refl (.tup sa la) c
    · rename_i pa kk
      split at q
      · rename_i xs e1
        obtain ⟨va, ha, la⟩ := c.lst e1
        obtain ⟨⟨k1, k2, z⟩, q⟩ := q
        exact .inr (.inr ⟨pa, kk, va, a.toRef, b.toInt, ha, k1, k2, by rw [la.length]; exact z, fun p hp => k.lst c (la.rep _) hp q⟩)
      · exact q.elim
    · exact q.elim
/-- a < b < c -/
def dChain (g g' : DO) (ta tb tc : DE) : DE := fun τ M Q E => ta τ M (fun x M1 => tb τ M1 (fun y M2 => g x y M2 (fun z M3 => match z with
  | .bl k => if k = true then tc τ M3 (fun z2 M4 => g' y z2 M4 Q) E else Q (.bl false) M3
  | _ => False)) E) E
theorem dChain_lift {g g' : DO} {ta tb tc : DE} {σ : L2.St} {H : Hp} {Q : VK} (h : liftE X.K W (dChain g g' ta tb tc) σ H Q) : tChain (liftO X.K g) (liftO X.K g') (liftE X.K W ta) (liftE X.K W tb) (liftE X.K W tc) σ H Q := by
  obtain ⟨τ, M, Qd, Ed, hs, hr, q, we, k⟩ := h
  refine ⟨τ, M, _, Ed, hs, hr, q, we, fun x M1 v H1 q1 e1 r1 h1 => ⟨τ, M1, _, Ed, hs.mono e1, h1, q1, we, fun y M2 u H2 q2 e2 r2 h2 => ?_⟩⟩
  refine ⟨x, y, M2, _, q2, r1.mono e2, r2, h2, fun z M3 zv H3 q3 e3 r3 h3 => ?_⟩
  dsimp only at q3
  split at q3
  · rename_i b
    refine ⟨b, r3.toBl, ?_⟩
    cases b with
    | false => exact k _ M3 _ H3 (by simpa using q3) (e1.trans (e2.trans e3)) (.bl _) h3
    | true =>
      simp only [if_true] at q3 ⊢
      exact ⟨τ, M3, _, Ed, hs.mono (e1.trans (e2.trans e3)), h3, q3, we, fun w M4 wv H4 q4 e4 r4 h4 => ⟨y, w, M4, Qd, q4, r2.mono (e3.trans e4), r4, h4, k.mono (e1.trans (e2.trans (e3.trans e4)))⟩⟩
  · exact q3.elim
theorem pd_chain {op op' : CmpOp} {g g' : DO} {a b c : Expr} {ta tb tc : DE} (ho : OpR X (compareOp op) (liftO X.K g)) (ho' : OpR X (compareOp op') (liftO X.K g')) (ha : PD X W a ta) (hb : PD X W b tb) (hc : PD X W c tc)
    (hm : lastMarks [op, op'] [b, c] = false := by with_unfolding_all rfl) : PD X W (.Compare a [op, op'] [b, c] pos) (dChain g g' ta tb tc) := ⟨PEimp (pe_chain ho ho' ha.run hb.run hc.run hm) fun _ _ _ h => dChain_lift h⟩
theorem ptd_chain {op op' : CmpOp} {g g' : DO} {a b c : Expr} {ta tb tc : DE} (ho : OpR X (compareOp op) (liftO X.K g)) (ho' : OpR X (compareOp op') (liftO X.K g')) (ha : PD X W a ta) (hb : PD X W b tb) (hc : PD X W c tc)
    (hm : lastMarks [op, op'] [b, c] = false := by with_unfolding_all rfl) : PTD X W (.Compare a [op, op'] [b, c] pos) (dB (dChain g g' ta tb tc)) :=
  ⟨PTimp (pt_chain ho ho' ha.run hb.run hc.run hm) fun σ H Q h => dChain_lift (Q := fun x H1 => ∃ k, x = .bl k ∧ Q k H1) (W := W) (by
    obtain ⟨τ, M, Qd, Ed, hs, hr, q, we, k⟩ := h
    exact ⟨τ, M, _, Ed, hs, hr, q, we, fun d M1 v H1 q1 e1 r1 h1 => by
      dsimp only at q1
      split at q1
      · exact ⟨_, r1.toBl, k _ M1 H1 q1 e1 h1⟩
      · exact q1.elim⟩)⟩
end
end DL
namespace DL
open PySem L2
/-! ### loops by an invariant -/
theorem dLoop_inv {g : DGt} {tb : DS} {kp : Mp → Prop} {Dn : DN} {its : List D} (I : Nat → Sl → Mp → Prop) (hk : ∀ i τ M, i ≤ its.length → I i τ M → kp M)
    (hs : ∀ (i : Nat) (d : D) (τ : Sl) (M : Mp) (nxt : Sl → Mp → Prop), its[i]? = some d → I i τ M → (∀ τ' M', I (i + 1) τ' M' → nxt τ' M') → g d τ M fun τ2 M2 => tb { Dn with nx := nxt, ct := nxt, bk := Dn.nx } τ2 M2)
    (hd : ∀ τ M, I its.length τ M → Dn.nx τ M) {τ : Sl} {M : Mp} (h0 : I 0 τ M) : dLoop g tb kp its Dn τ M := by
  have go : ∀ (n i : Nat), its.length - i = n → i ≤ its.length → ∀ τ M, I i τ M → dLoop g tb kp (its.drop i) Dn τ M := by
    intro n
    induction n with
    | zero =>
      intro i e hi τ M h
      have : i = its.length := by omega
      subst this
      rw [List.drop_length]
      exact ⟨hk _ _ _ hi h, hd τ M h⟩
    | succ n ih =>
      intro i e hi τ M h
      have hlt : i < its.length := by omega
      rw [List.drop_eq_getElem_cons hlt]
      exact ⟨hk _ _ _ hi h, hs i _ τ M _ (by simp [hlt]) h fun τ' M' h' => ih (i + 1) (by omega) hlt τ' M' h'⟩
  simpa using go _ 0 rfl (Nat.zero_le _) τ M h0
theorem dCL_inv {g : D → Sl → Sl} {tt : DT} {te : DE} {kp : Mp → Prop} {p : Addr} {τ : Sl} {F : Mp → Prop} {its : List D} (I : Nat → Mp → Prop) (hk : ∀ i M, i ≤ its.length → I i M → kp M)
    (hs : ∀ (i : Nat) (d : D) (M : Mp) (nxt : Mp → Prop), its[i]? = some d → I i M → (∀ M', I (i + 1) M' → nxt M') → tt (g d τ) M (fun b M1 => if b = true then te (g d τ) M1 (fun y M2 => match M2 p with
      | some (.lst acc) => acc.length < sizeLine ∧ nxt (put M2 p (.lst (acc ++ [y])))
      | _ => False) noE else nxt M1) noE)
    (hd : ∀ M, I its.length M → F M) {M : Mp} (h0 : I 0 M) : dCL g tt te kp p τ F its M := by
  have go : ∀ (n i : Nat), its.length - i = n → i ≤ its.length → ∀ M, I i M → dCL g tt te kp p τ F (its.drop i) M := by
    intro n
    induction n with
    | zero =>
      intro i e hi M h
      have : i = its.length := by omega
      subst this
      rw [List.drop_length]
      exact ⟨hk _ _ hi h, hd M h⟩
    | succ n ih =>
      intro i e hi M h
      have hlt : i < its.length := by omega
      rw [List.drop_eq_getElem_cons hlt]
      exact ⟨hk _ _ hi h, hs i _ M _ (by simp [hlt]) h fun M' h' => ih (i + 1) (by omega) hlt M' h'⟩
  simpa using go _ 0 rfl (Nat.zero_le _) M h0
end DL

set_option maxHeartbeats 4000000
namespace DL
open PySem L2
/-! ### tuples of ints in readings -/
def T (xs : List Int) : D := .tup (xs.map D.int)
variable {xs ys : List Int} {M : Mp} {Q : DK} {i j : Int}
theorem T_inj : T xs = T ys ↔ xs = ys := by
  unfold T
  constructor
  · intro h
    injection h with h
    exact (List.map_inj_right (fun a b e => by injection e)).mp h
  · rintro rfl; rfl
theorem getD_of {n : Nat} (h : n < xs.length) : xs[n]? = some (xs.getD n 0) := by
  rw [List.getD_eq_getElem?_getD, List.getElem?_eq_getElem h]; rfl
theorem lenG_T : lenG [T xs] M Q = Q (.int xs.length) M := by simp [lenG, lenD, T]
theorem ixN_in {n : Nat} (h0 : 0 ≤ i) (h1 : i < n) : ixN n i = some i.toNat := by
  unfold ixN
  rw [if_pos h0, if_pos h1]
theorem atI_T (h0 : 0 ≤ i) (h1 : i < xs.length) : atI (xs.map D.int) i = some (.int (xs.getD i.toNat 0)) := by
  unfold atI
  rw [List.length_map, ixN_in h0 h1]
  show (xs.map D.int)[i.toNat]? = _
  rw [List.getElem?_map, getD_of (by omega)]
  rfl
theorem ixG_T (h0 : 0 ≤ i) (h1 : i < xs.length) : ixG (T xs) (.int i) M Q = Q (.int (xs.getD i.toNat 0)) M := by
  unfold T ixG
  simp only
  rw [atI_T h0 h1]
theorem addD_T : addD (T xs) (T ys) M Q = (xs.length + ys.length ≤ sizeLine ∧ Q (T (xs ++ ys)) M) := by
  unfold T addD
  simp only [List.length_map, List.map_append]
theorem mulD_T {k : Int} : mulD (T xs) (.int k) M Q = ((-(2 ^ 63) ≤ k ∧ k < 2 ^ 63 ∧ xs.length * k.toNat ≤ sizeLine) ∧ Q (T (List.replicate k.toNat xs).flatten) M) := by
  unfold T mulD
  simp only [List.length_map, List.map_flatten, List.map_replicate]
theorem okL_ints : okL (xs.map D.int) = true := by
  induction xs with
  | nil => rfl
  | cons a l ih => simp [okL, ok, ih]
theorem depL_ints : depL (xs.map D.int) = 0 := by
  induction xs with
  | nil => rfl
  | cons a l ih => simp [depL, dep, ih]
theorem eqbL_ints : ∀ {xs ys : List Int}, eqbL (xs.map D.int) (ys.map D.int) = decide (xs = ys)
  | [], [] => by simp [eqbL]
  | [], _ :: _ => by simp [eqbL]
  | _ :: _, [] => by simp [eqbL]
  | x :: xs, y :: ys => by
    simp [eqbL, eqb, eqbL_ints (xs := xs) (ys := ys)]
    rw [Bool.beq_eq_decide_eq]
theorem eqG_T {n : Bool} : eqG n (T xs) (T ys) M Q = Q (.bl (n != decide (xs = ys))) M := by
  unfold T eqG eqOk
  simp [ok, dep, okL_ints, depL_ints, eqb, eqbL_ints]
theorem eqG_int {n : Bool} : eqG n (.int i) (.int j) M Q = Q (.bl (n != decide (i = j))) M := rfl
theorem eqD_T : eqD (T xs) (T ys) M Q = Q (.bl (decide (xs = ys))) M := by unfold eqD; rw [eqG_T, Bool.false_bne]
theorem eqD_int : eqD (.int i) (.int j) M Q = Q (.bl (decide (i = j))) M := by unfold eqD; rw [eqG_int, Bool.false_bne]
theorem neD_int : neD (.int i) (.int j) M Q = Q (.bl (!decide (i = j))) M := by unfold neD; rw [eqG_int, Bool.true_bne]
theorem rng_at {n : Nat} {f : Nat → D} {i : Nat} {d : D} (h : ((List.range n).map f)[i]? = some d) : i < n ∧ d = f i := by
  have h1 := (List.getElem?_eq_some_iff.mp h).1
  rw [List.length_map, List.length_range] at h1
  rw [List.getElem?_map, List.getElem?_range h1] at h
  exact ⟨h1, by simpa using h.symm⟩
theorem map_at {xs : List Int} {i : Nat} {d : D} (h : (xs.map D.int)[i]? = some d) : i < xs.length ∧ d = .int (xs.getD i 0) := by
  have h1 := (List.getElem?_eq_some_iff.mp h).1
  rw [List.length_map] at h1
  rw [List.getElem?_map, getD_of h1] at h
  exact ⟨h1, by simpa using h.symm⟩
theorem len_rng {n : Nat} {f : Nat → D} : ((List.range n).map f).length = n := by rw [List.length_map, List.length_range]
theorem cut_pre (h0 : 0 ≤ i) : cutD (xs.map D.int) none (some i) = (xs.take i.toNat).map D.int := by
  unfold cutD HT.sIx
  simp only [List.drop_zero, Nat.sub_zero, List.length_map]
  rw [if_neg (by omega)]
  rw [← List.map_take]
  congr 1
  rw [List.take_eq_take_iff]
  omega
theorem cut_post (h0 : 0 ≤ i) : cutD (xs.map D.int) (some i) none = (xs.drop i.toNat).map D.int := by
  unfold cutD HT.sIx
  simp only [List.length_map]
  rw [if_neg (by omega), ← List.map_drop, List.take_of_length_le (by rw [List.length_map, List.length_drop]; omega)]
  by_cases h : i.toNat ≤ xs.length
  · rw [Nat.min_eq_left h]
  · rw [Nat.min_eq_right (by omega), List.drop_eq_nil_of_le (by omega), List.drop_eq_nil_of_le (by omega)]
theorem cut_mid (h0 : 0 ≤ i) (h1 : i ≤ j) (h2 : i ≤ xs.length) : cutD (xs.map D.int) (some i) (some j) = ((xs.drop i.toNat).take (j - i).toNat).map D.int := by
  unfold cutD HT.sIx
  simp only [List.length_map]
  rw [if_neg (by omega), if_neg (by omega), ← List.map_drop, ← List.map_take]
  have e : min i.toNat xs.length = i.toNat := by omega
  rw [e]
  congr 1
  rw [List.take_eq_take_iff, List.length_drop]
  omega
theorem slG_pre (h0 : 0 ≤ i) : slG (T xs) none (some i) M Q = Q (T (xs.take i.toNat)) M := by
  unfold T slG
  simp only
  rw [cut_pre h0]
theorem slG_post (h0 : 0 ≤ i) : slG (T xs) (some i) none M Q = Q (T (xs.drop i.toNat)) M := by
  unfold T slG
  simp only
  rw [cut_post h0]
theorem slG_mid (h0 : 0 ≤ i) (h1 : i ≤ j) (h2 : i ≤ xs.length) : slG (T xs) (some i) (some j) M Q = Q (T ((xs.drop i.toNat).take (j - i).toNat)) M := by
  unfold T slG
  simp only
  rw [cut_mid h0 h1 h2]
theorem itemsOf_T : itemsOf (T xs) M = some (xs.map D.int) := rfl
theorem keepOf_T {its : List D} : keepOf (T xs) its = fun _ => True := rfl
theorem tup_T : D.tup [] = T [] := rfl
theorem tup_T1 : D.tup [.int i] = T [i] := rfl
theorem tupG_T : tupG [T xs] M Q = Q (T xs) M := rfl
/-- a field of an instance that is known -/
theorem fld_at {K : PySem.W.Frag} {a C : Addr} {fs : List (Str × D)} {f : Str} {v : D} (hM : M a = some (.ins C fs)) (hk : FldK K C f) (hl : fs.lookup f = some v) :
    (match M a with
    | some (.ins C fs) => FldK K C f ∧ match fs.lookup f with
      | some v => Q v M
      | none => False
    | _ => False) = Q v M := by
  rw [hM]
  simp only [hl, hk, true_and]
/-- lists of ints -/
theorem seqOf_lst {a : Addr} {ds : List D} (h : M a = some (.lst ds)) : seqOf M a = some ds := by unfold seqOf; rw [h]
theorem seqOf_rol {a : Addr} {ds : List D} (h : M a = some (.rol ds)) : seqOf M a = some ds := by unfold seqOf; rw [h]
theorem lenG_ref {a : Addr} {ds : List D} (h : seqOf M a = some ds) : lenG [.ref a] M Q = Q (.int ds.length) M := by
  unfold seqOf at h
  unfold lenG lenD
  cases e : M a with
  | none => rw [e] at h; cases h
  | some o =>
    rw [e] at h
    cases o <;> first | (cases h; simp only [e]) | cases h
theorem ixG_ref {a : Addr} {ns : List Int} (h : seqOf M a = some (ns.map D.int)) (h0 : 0 ≤ i) (h1 : i < ns.length) : ixG (.ref a) (.int i) M Q = Q (.int (ns.getD i.toNat 0)) M := by
  unfold ixG
  simp only
  rw [h]
  simp only [Option.bind_some]
  rw [atI_T h0 h1]
theorem blsOf_range {n : Nat} {f : Nat → Bool} : blsOf (((List.range n).map f).map D.bl) = some ((List.range n).map f) := blsOf_map _
theorem addD_int : addD (.int i) (.int j) M Q = Q (.int (i + j)) M := rfl
theorem mulD_int : mulD (.int i) (.int j) M Q = (CMulX i j ∧ Q (.int (i * j)) M) := rfl
theorem mulD_ref {a : Addr} {ns : List Int} {k : Int} (h : M a = some (.lst (ns.map D.int))) : mulD (.ref a) (.int k) M Q = ((-(2 ^ 63) ≤ k ∧ k < 2 ^ 63 ∧ ns.length * k.toNat ≤ sizeLine) ∧ ∀ p, M p = none → Q (.ref p) (put M p (.lst ((List.replicate k.toNat ns).flatten.map D.int)))) := by
  unfold mulD
  simp only [h, List.length_map, List.map_flatten, List.map_replicate]
theorem addD_ref {a b : Addr} {ns ms : List Int} (h : M a = some (.lst (ns.map D.int))) (h' : M b = some (.lst (ms.map D.int))) : addD (.ref a) (.ref b) M Q = (ns.length + ms.length ≤ sizeLine ∧ ∀ p, M p = none → Q (.ref p) (put M p (.lst ((ns ++ ms).map D.int)))) := by
  unfold addD
  simp only [h, h', List.length_map, List.map_append]
theorem slG_rpre {a : Addr} {ns : List Int} (h : seqOf M a = some (ns.map D.int)) (h0 : 0 ≤ i) : slG (.ref a) none (some i) M Q = ∀ p, M p = none → Q (.ref p) (put M p (.lst ((ns.take i.toNat).map D.int))) := by
  unfold slG
  simp only [h]
  rw [cut_pre h0]
theorem slG_rpost {a : Addr} {ns : List Int} (h : seqOf M a = some (ns.map D.int)) (h0 : 0 ≤ i) : slG (.ref a) (some i) none M Q = ∀ p, M p = none → Q (.ref p) (put M p (.lst ((ns.drop i.toNat).map D.int))) := by
  unfold slG
  simp only [h]
  rw [cut_post h0]
theorem tupG_ref {a : Addr} {ns : List Int} (h : seqOf M a = some (ns.map D.int)) : tupG [.ref a] M Q = Q (T ns) M := by
  simp only [tupG, h]
  rfl
theorem lstG_T : lstG [T xs] M Q = ∀ p, M p = none → Q (.ref p) (put M p (.lst (xs.map D.int))) := rfl
theorem sub_put {M : Mp} {p : Addr} {o : MO} (h : M p = none) : Sub M (DL.put M p o) := Sub.refl.put h
/-- while by a variant -/
theorem dWh_inv {c : DT} {tb : DS} {Dn : DN} (I : Nat → Sl → Mp → Prop)
    (step : ∀ (n : Nat) (τ : Sl) (M : Mp) (nxt : Sl → Mp → Prop), I n τ M → (∀ m, n = m + 1 → ∀ τ' M', I m τ' M' → nxt τ' M') →
      c τ M (fun b M1 => if b = true then tb { Dn with nx := nxt, ct := nxt, bk := Dn.nx } τ M1 else Dn.nx τ M1) (exOf Dn τ)) {n : Nat} {τ : Sl} {M : Mp} (h : I n τ M) : dWhile c tb Dn τ M := by
  refine ⟨n + 1, ?_⟩
  have go : ∀ (n : Nat) (τ : Sl) (M : Mp), I n τ M → dWhN c tb (n + 1) Dn τ M := by
    intro n
    induction n with
    | zero => exact fun τ M h => step 0 τ M _ h fun m e => by omega
    | succ n ih =>
      intro τ M h
      refine step (n + 1) τ M _ h fun m e τ' M' h' => ?_
      have : m = n := by omega
      subst this
      exact ih τ' M' h'
  exact go n τ M h
end DL

set_option maxHeartbeats 4000000
namespace DL
open PySem L2
/-! ### a list of the module's own: it is read in every heap -/
def KL (K : PySem.W.Frag) (a : Addr) (ns : List Int) : Prop := ∀ H, SqL K H a (ns.map V.int)
def lenK (K : PySem.W.Frag) : DG := fun ds M Q => match ds with
  | [.ref a] => ∃ ns, KL K a ns ∧ Q (.int ((ns.length : Nat) : Int)) M
  | _ => False
def ixK (K : PySem.W.Frag) : DO := fun x y M Q => match x, y with
  | .ref a, .int i => ∃ ns, KL K a ns ∧ 0 ≤ i ∧ i < ns.length ∧ Q (.int (ns.getD i.toNat 0)) M
  | _, _ => False
def lstK (K : PySem.W.Frag) : DG := fun ds M Q => match ds with
  | [.ref a] => ∃ ns : List Int, KL K a ns ∧ ∀ p, M p = none → Q (.ref p) (put M p (.lst (ns.map D.int)))
  | _ => False
section
variable {X : Cx}
theorem call_lenK : CallR X (.builtin "len") (liftC X.K (lenK X.K)) := CallRimp call_len fun xs H Q ⟨ds, M, Qd, q, r, hr, k⟩ => by
  unfold lenK at q
  split at q
  · obtain ⟨ns, h, q⟩ := q
    obtain ⟨v, rfl, rv⟩ := r.one
    rw [rv.toRef]
    exact ⟨_, ns.length, rfl, .inl ⟨_, h H, (List.length_map ..).symm⟩, k _ M _ H q .refl (.int _) hr⟩
  · exact q.elim
theorem ix_K : IxR X (liftO X.K (ixK X.K)) := IxRimp ix_seq fun x y H Q ⟨dx, dy, M, Qd, q, a, b, c, k⟩ => by
  unfold ixK at q
  split at q
  · obtain ⟨ns, h, h0, h1, q⟩ := q
    refine .inl ⟨_, _, _, .int (ns.getD _ 0), a.toRef, b.toInt, h H, ?_, k _ M _ H q .refl (.int _) c⟩
    unfold atI
    rw [List.length_map, ixN_in h0 h1, Option.bind_some, List.getElem?_map, getD_of (by omega)]
    rfl
  · exact q.elim
theorem call_lstK : CallR X (.type "list") (liftC X.K (lstK X.K)) := CallRimp call_list_of fun xs H Q ⟨ds, M, Qd, q, r, hr, k⟩ => by
  unfold lstK at q
  split at q
  · obtain ⟨ns, h, q⟩ := q
    obtain ⟨v, rfl, rv⟩ := r.one
    rw [rv.toRef]
    exact ⟨_, _, rfl, .inl (h H), fun p hp => k.lst hr RpL.ofInts hp q⟩
  · exact q.elim
end
section
variable {P : Program} {w : World} {K : PySem.W.Frag} {mg : Str → Option Value} {base : Heap}
/-- a def with defaults -/
theorem okDf {x qual : Str} {st : Stmt} {f : Addr} {fd : FuncData} {N ps : List Str} {k : Nat} {sp : DSp} {dvs : List V} {kws : List (Str × V)} (F : FunD K x qual (defArgs st) (defBody st) (defScope st) dvs kws f fd) (S : FnScope N ps (defScope st)) (len : ∀ ds M Q E, sp ds M Q E → ds.length = ps.length)
    (hbody : ∀ (cdv : Value) (A : Around) (outer : List Env) (s : Shared) (H : Hp) (E : XK), Room k (A.deeper (PyProof.Rows.envOfC qual (defScope st) s.heap.objs.size f cdv)) →
      Takes (cxOf (L2.CX P w) P w K mg base N qual (defScope st) f cdv A outer s H E) (liftW K (defW K H E)) →
      ∃ t, PSsD (cxOf (L2.CX P w) P w K mg base N qual (defScope st) f cdv A outer s H E) (defW K H E) (defBody st) t ∧ ∀ ds M Q E', sp ds M Q E' → t (ends Q E') (dstart N ds) M) :
    FnOk P w K mg base (L2.CX P w) (k + 1) f fd ps (liftSp K sp) := by
  refine F.ok S (fun vs H Q E ⟨ds, M, Qd, Ed, hsp, r, _⟩ => r.length.trans (len ds M Qd Ed hsp)) fun cdv A outer s H vs Q E hr ⟨ds, M, Qd, Ed, hsp, r, hr', kc, xc⟩ => ?_
  obtain ⟨t, ht, q⟩ := hbody cdv A outer s H E hr (Takes.imp (takes_of rfl rfl rfl rfl) fun c d σ H' ⟨x, τ, M', rs, h2, xr, hw⟩ => hw H' c d rs.ext xr h2)
  refine ⟨_, ht.run, dstart N ds, M, ends Qd Ed, rs_start r, hr', q ds M Qd Ed hsp, fun x τ M' ⟨M0, sb, h⟩ H' cls d e xr h2 => xc x M0 cls d H' h e xr (h2.sub sb), ?_⟩
  exact ⟨fun τ M' σ H' ⟨M0, sb, h⟩ e _ h2 => kc _ M0 _ H' h e .non (h2.sub sb), fun d M' v H' ⟨M0, sb, h⟩ e rv h2 => kc d M0 v H' h e rv (h2.sub sb), fun _ _ _ _ z => z.elim, fun _ _ _ _ z => z.elim⟩
/-- one of two promises -/
theorem fnOk_or {k : Nat} {f : Addr} {fd : FuncData} {ps : List Str} {sp1 sp2 sp : DSp} (F1 : FnOk P w K mg base (L2.CX P w) k f fd ps (liftSp K sp1)) (F2 : FnOk P w K mg base (L2.CX P w) k f fd ps (liftSp K sp2))
    (h : ∀ ds M Q E, sp ds M Q E → sp1 ds M Q E ∨ sp2 ds M Q E) : FnOk P w K mg base (L2.CX P w) k f fd ps (liftSp K sp) :=
  ⟨fun vs H Q E ⟨ds, M, Qd, Ed, q, r⟩ => (h _ _ _ _ q).elim (fun q => F1.len vs H Q E ⟨ds, M, Qd, Ed, q, r⟩) fun q => F2.len vs H Q E ⟨ds, M, Qd, Ed, q, r⟩,
   fun A outer s H args us vs Q E hr he hb hv ⟨ds, M, Qd, Ed, q, r⟩ => (h _ _ _ _ q).elim (fun q => F1.run A outer s H args us vs Q E hr he hb hv ⟨ds, M, Qd, Ed, q, r⟩) fun q => F2.run A outer s H args us vs Q E hr he hb hv ⟨ds, M, Qd, Ed, q, r⟩⟩
theorem fnOk_no {k : Nat} {f : Addr} {fd : FuncData} {ps : List Str} : FnOk P w K mg base (L2.CX P w) k f fd ps (liftSp K fun _ _ _ _ => False) :=
  ⟨fun vs H Q E ⟨ds, M, Qd, Ed, q, r⟩ => q.elim, fun A outer s H args us vs Q E hr he hb hv ⟨ds, M, Qd, Ed, q, r⟩ => q.elim⟩
end
/-! ### classes by their facts -/
theorem kitCls_of {K : PySem.W.Frag} {t : Value} {C : Addr} {b : Bool} (h1 : PySem.W.isClsIn K C = true) (h2 : PySem.W.typeIn K (.ref C) = some (.type "type")) (h3 : PySem.W.subIn K t (.ref C) = some b) : PySem.W.kitCls K t (.ref C) = some b := by
  have e2 : ((PySem.W.clsIn K C).isSome && PySem.W.typeIn K (.ref C) == some (.type "type")) = true := by
    have h1' : (PySem.W.clsIn K C).isSome = true := h1
    rw [h1', h2]
    rfl
  unfold PySem.W.kitCls
  simp only [e2, if_true]
  exact h3
theorem kit_ne {K : PySem.W.Frag} {a C : Addr} {b : Bool} (hn : (a == C) = false) (h1 : PySem.W.isClsIn K C = true) (h2 : PySem.W.typeIn K (.ref C) = some (.type "type")) (h3 : PySem.W.subIn K (.ref a) (.ref C) = some b) : PySem.W.kitOne K (.ref a) (.ref C) = some b := by
  have e : (Value.ref a == Value.ref C) = false := beq_eq_false_iff_ne.mpr fun e => by
    cases e
    rw [beq_self_eq_true] at hn
    cases hn
  unfold PySem.W.kitOne
  rw [if_neg (by rw [e]; exact Bool.false_ne_true)]
  exact kitCls_of h1 h2 h3
theorem kit_self {K : PySem.W.Frag} {a : Addr} : PySem.W.kitOne K (.ref a) (.ref a) = some true := by
  have e : (Value.ref a == Value.ref a) = true := beq_self_eq_true (Value.ref a)
  unfold PySem.W.kitOne
  rw [if_pos e]
theorem kit_bt {K : PySem.W.Frag} {a : Addr} {n : String} {b : Bool} (hm : PySem.W.kitMeta n = true) (h : PySem.W.subIn K (.ref a) (.type n) = some b) : PySem.W.kitOne K (.ref a) (.type n) = some b := by
  unfold PySem.W.kitOne
  have e : (Value.ref a == Value.type n) = false := beq_eq_false_iff_ne.mpr fun e => by cases e
  rw [if_neg (by rw [e]; exact Bool.false_ne_true)]
  unfold PySem.W.kitCls
  simp only [hm, if_true]
  exact h
theorem exm_sub {K : PySem.W.Frag} {t : Value} {C : Addr} {b : Bool} (h0 : PySem.W.subIn K (.ref C) (.type "BaseException") = some true) (h1 : PySem.W.isClsIn K C = true) (h2 : PySem.W.typeIn K (.ref C) = some (.type "type")) (h3 : PySem.W.subIn K t (.ref C) = some b) : PySem.W.exmOne K t (.ref C) = some b := by
  unfold PySem.W.exmOne
  rw [if_pos (by rw [h0]; rfl)]
  exact kitCls_of h1 h2 h3
theorem meta_VE : PySem.W.kitMeta "ValueError" = true := by decide +kernel
/-! ### the end of a law of a script -/
/-- what law(script) promises -/
def spScript (K : PySem.W.Frag) : DSp := fun ds M Q _ => ∃ (a : Addr) (ns : List Int), ds = [.ref a] ∧ (M a = some (.rol (ns.map D.int)) ∨ KL K a ns) ∧ ns.length ≤ 100000 ∧ (∀ z ∈ ns, Builtin.Int.intBits z ≤ 1048576) ∧ ∀ M1, Q (.bl true) M1
theorem walkD {l : PySem.W.OpenLaw} {n k : Nat} {q : Program} {loose : List Str} {XP : (Str → Option Value) → Heap → Prop} {YP : World → Heap → Prop} {d : DefRec} {K : Params → PySem.W.Frag} {x : Str} (hn : l.most = some n) (hn2 : n ≤ 100000) (hdf : d.params.defaults = []) (hr : Room k callerA)
    (hY : ∀ (w : World) (h : Heap), YP w h → (K w.params).In h)
    (F : ∀ (w : World) (mg : Str → Option Value) (fa : Addr) (h : Heap), (K w.params).In h → h.Ns mainGlobals mg → mg d.name = some (.ref fa) →
      ∃ fd : FuncData, (∀ (s : Shared) (u : Value), BindsTo s fd ⟨[u], []⟩ [(x, u)]) ∧ ∀ base : Heap, (K w.params).In base → base.Ns mainGlobals mg → FnOk l.prog w (K w.params) mg base (L2.CX l.prog w) k fa fd [x] (liftSp (K w.params) (spScript (K w.params)))) :
    PySem.W.WalkO q loose XP YP l.row.toRowW d [] (fun f vs => PySem.call f vs) :=
  L2.walk_ofB (n := n) (k := k) (x := x) (CX := fun w => L2.CX l.prog w) (sp := fun w => liftSp (K w.params) (spScript (K w.params))) hn (Nat.le_trans hn2 (by rw [PySem.sizeLine_eq]; omega)) hdf hr hY F
    (fun w H a ns hl hbits hO hS => by
      have fin : ∀ M, HR (K w.params) H M → (M a = some (.rol (ns.map D.int)) ∨ KL (K w.params) a ns) → liftSp (K w.params) (spScript (K w.params)) [.ref a] H (fun v _ => v = .bl true) fun _ _ _ => False := fun M hr hM =>
        ⟨[.ref a], M, fun d _ => d = .bl true, fun _ _ => False, ⟨a, ns, rfl, hM, Nat.le_trans hl hn2, hbits, fun _ => rfl⟩, .cons (.ref a) .nil, hr, fun d M' v H' e _ rv _ => by subst e; exact rv.toBl, fun _ _ _ _ _ h => h.elim⟩
      rcases hS with (h | ⟨o, h⟩) | h
      · rcases hO a with e | ⟨o, xs, e⟩
        · rw [e] at h; cases h
        · rw [e] at h; cases h
      · refine fin (fun b => if b = a then some (.rol (ns.map D.int)) else none) (fun b u e => ?_) (.inl (if_pos rfl))
        have e : (if b = a then some (MO.rol (ns.map D.int)) else none) = some u := e
        by_cases c : b = a
        · subst c
          rw [if_pos rfl] at e
          cases e
          exact ⟨o, _, h, RpL.ofInts⟩
        · rw [if_neg c] at e
          cases e
      · exact fin (fun _ => none) (fun b u e => by cases e) (.inr fun H' => .inr h))
    fun w H s e s' h => by
      obtain ⟨_, _, _, _, _, _, _, _, _, _, _, _, h⟩ := h
      exact h
end DL

set_option maxHeartbeats 4000000
namespace DL
open PySem PySem.Spec L2
/-! ### in, not in: flat items -/
def flatD : D → Bool
  | .non => true
  | .bl _ => true
  | .int _ => true
  | .str _ => true
  | .tup _ => false
  | .ref _ => false
  | .ty _ => false
theorem flatD_ok {K : PySem.W.Frag} {H : Hp} {v : V} {d : D} (r : Rp K H v d) (h : flatD d = true) : flatV v = true := by
  cases r <;> first | rfl | cases h
theorem flatL_ok {K : PySem.W.Frag} {H : Hp} : ∀ {vs : List V} {ds : List D}, RpL K H vs ds → ds.all flatD = true → vs.all flatV = true
  | _, _, .nil, _ => rfl
  | _, _, .cons r l, h => by
    rw [List.all_cons, Bool.and_eq_true] at h
    rw [List.all_cons, flatD_ok r h.1, flatL_ok l h.2]
    rfl
theorem eqV_flat {K : PySem.W.Frag} {H : Hp} {v u : V} {d e : D} (r : Rp K H v d) (q : Rp K H u e) (h : flatD d = true) (h' : flatD e = true) : eqV v u = eqb d e := by
  cases r <;> cases q <;> first | rfl | (simp [eqV, eqb]; done) | cases h | cases h'
theorem inV_flat {K : PySem.W.Frag} {H : Hp} {u : V} {e : D} (q : Rp K H u e) (h' : flatD e = true) : ∀ {vs : List V} {ds : List D}, RpL K H vs ds → ds.all flatD = true → inV u vs = ds.any fun d => eqb d e
  | _, _, .nil, _ => rfl
  | _, _, .cons r l, h => by
    rw [List.all_cons, Bool.and_eq_true] at h
    have := inV_flat q h' l h.2
    unfold inV at this ⊢
    rw [List.any_cons, List.any_cons, this, eqV_flat r q h.1 h']
/-- the items of a list or a tuple -/
def seqD (d : D) (M : Mp) : Option (List D) := match d with
  | .tup xs => some xs
  | .ref a => seqOf M a
  | _ => none
theorem seqD_ok {K : PySem.W.Frag} {H : Hp} {M : Mp} {v : V} {d : D} {ds : List D} (r : Rp K H v d) (hr : HR K H M) (h : seqD d M = some ds) : ∃ a vs, v = .ref a ∧ (SqL K H a vs ∨ SqT K H a vs) ∧ RpL K H vs ds := by
  cases d with
  | tup xs =>
    cases h
    obtain ⟨a, vs, rfl, s, l⟩ := r.toTup
    exact ⟨a, vs, rfl, .inr s, l⟩
  | ref a =>
    have h' : seqOf M a = some ds := h
    obtain ⟨vs, s, l⟩ := seqOf_ok hr h'
    exact ⟨a, vs, r.toRef, .inl s, l⟩
  | _ => cases h
def inG (n : Bool) : DO := fun x y M Q => match seqD y M with
  | some ys => flatD x = true ∧ ys.all flatD = true ∧ Q (.bl (n != ys.any fun d => eqb d x)) M
  | none => False
section
variable {X : Cx} {W : DW} {pos p : Pos}
theorem op_inG : OpR X (compareOp .In) (liftO X.K (inG false)) := OpRimp op_in_seq fun x y H Q ⟨dx, dy, M, Qd, q, a, b, c, k⟩ => by
  unfold inG at q
  split at q
  · rename_i ys e
    obtain ⟨l, vs, rfl, s, r⟩ := seqD_ok b c e
    refine ⟨l, vs, rfl, s, flatD_ok a q.1, flatL_ok r q.2.1, ?_⟩
    rw [inV_flat a q.1 r q.2.1]
    exact k _ M _ H (by simpa using q.2.2) .refl (.bl _) c
  · exact q.elim
theorem op_notInG : OpR X (compareOp .NotIn) (liftO X.K (inG true)) := OpRimp op_notIn_seq fun x y H Q ⟨dx, dy, M, Qd, q, a, b, c, k⟩ => by
  unfold inG at q
  split at q
  · rename_i ys e
    obtain ⟨l, vs, rfl, s, r⟩ := seqD_ok b c e
    refine ⟨l, vs, rfl, s, flatD_ok a q.1, flatL_ok r q.2.1, ?_⟩
    rw [inV_flat a q.1 r q.2.1]
    exact k _ M _ H (by simpa using q.2.2) .refl (.bl _) c
  · exact q.elim
/-! ### methods of built-in things -/
abbrev DM := D → List D → Mp → DK → Prop
def liftM (K : PySem.W.Frag) (g : DM) : V → List V → Hp → VK → Prop := fun x xs H Q => ∃ d ds M Qd, g d ds M Qd ∧ Rp K H x d ∧ RpL K H xs ds ∧ HR K H M ∧ KC K H Qd Q
/-- what has the methods of T -/
def metT (T : String) (d : D) (M : Mp) : Prop := match d with
  | .str _ => T = "str"
  | .ref a => match M a with
    | some (.lst _) => T = "list"
    | some (.rol _) => T = "list"
    | some (.dk _) => T = "dict"
    | _ => False
  | _ => False
theorem metT_ok {K : PySem.W.Frag} {H : Hp} {M : Mp} {v : V} {d : D} {T : String} (r : Rp K H v d) (hr : HR K H M) (h : metT T d M) : tyV K T v H := by
  cases d with
  | str x => cases r; exact h
  | ref a =>
    cases r
    have h' : (match M a with
      | some (.lst _) => T = "list"
      | some (.rol _) => T = "list"
      | some (.dk _) => T = "dict"
      | _ => False) := h
    cases e : M a with
    | none => rw [e] at h'; exact h'.elim
    | some o =>
      rw [e] at h'
      cases o with
      | lst xs => obtain ⟨vs, q, _⟩ := hr.lst e; exact .inl ⟨h', vs, .of q⟩
      | rol xs => obtain ⟨o, vs, q, _⟩ := hr.rol e; exact .inl ⟨h', vs, .inl (.inr ⟨o, q⟩)⟩
      | dk xs => obtain ⟨vs, q, _⟩ := hr.dk e; exact .inr (.inr (.inl ⟨h', .inl ⟨vs, q⟩⟩))
      | ins C xs => exact h'.elim
      | xd xs => exact h'.elim
      | rdk xs => exact h'.elim
  | _ => exact h.elim
def dBM (T : String) (g : DM) (to : DE) (t : DA) : DE := fun τ M Q E => to τ M (fun d M1 => metT T d M1 ∧ t τ M1 (fun ds M2 => g d ds M2 Q) E) E
theorem dBM_lift {T : String} {g : DM} {to : DE} {t : DA} {σ : L2.St} {H : Hp} {Q : VK} (h : liftE X.K W (dBM T g to t) σ H Q) : tBM X.K T (liftM X.K g) (liftE X.K W to) (liftA X.K W t) σ H Q := by
  obtain ⟨τ, M, Qd, Ed, hs, hr, q, we, k⟩ := h
  refine ⟨τ, M, _, Ed, hs, hr, q, we, fun d M1 v H1 q1 e1 r1 h1 => ⟨metT_ok r1 h1 q1.1, τ, M1, _, Ed, hs.mono e1, h1, q1.2, we, fun ds M2 vs H2 q2 e2 r2 h2 => ?_⟩⟩
  exact ⟨d, ds, M2, Qd, q2, r1.mono e2, r2, h2, k.mono (e1.trans e2)⟩
variable {o e : Expr} {es : List Expr} {to : DE} {t : DA} {name : Str} {apos cpos : Pos} {T id : String} {g : DM}
theorem pd_bm (pa : PlainAttrs T) (slot : Slot T name id) (hty : typeOf (.builtin id) = pure (.type "method_descriptor")) (hm : MtR X id (liftM X.K g)) (ho : PD X W o to) (ha : PAD X W (e :: es) t)
    (hbase : attributeBase o name X.env (eval o X.env) = eval o X.env := by rfl)
    (hfew : ((backTo cpos (starEach (e :: es) X.env)).all (fun x => !x.1) && (backToKw cpos (keywordEach [] X.env)).all (fun x => x.1.isSome)
      && decide ((e :: es).length + ([] : List Keyword).length + (if ([] : List Keyword).isEmpty then 0 else 1) < 30)) = true := by rfl)
    (hline : (apos.endLine == cpos.line) = true := by rfl) (hs : starEach (e :: es) X.env = (false, eval e X.env) :: starEach es X.env := by rfl) (hplain : (backTo cpos (starEach es X.env)).any (·.1) = false := by rfl) :
    PD X W (.Call (.Attribute o name apos) (e :: es) [] cpos) (dBM T g to t) := ⟨PEimp (pe_bm pa slot hty hm ho.run ha.run hbase hfew hline hs hplain) fun _ _ _ h => dBM_lift h⟩
theorem pd_bm0 (pa : PlainAttrs T) (slot : Slot T name id) (hty : typeOf (.builtin id) = pure (.type "method_descriptor")) (hm : MtR X id (liftM X.K g)) (ho : PD X W o to)
    (hbase : attributeBase o name X.env (eval o X.env) = eval o X.env := by rfl) (hline : (apos.endLine == cpos.line) = true := by rfl) :
    PD X W (.Call (.Attribute o name apos) [] [] cpos) (dBM T g to dNil) := ⟨PEimp (pe_bm0 pa slot hty hm ho.run hbase hline) fun σ H Q ⟨τ, M, Qd, Ed, hs, hr, q, we, k⟩ =>
  ⟨τ, M, _, Ed, hs, hr, q, we, fun d M1 v H1 q1 e1 r1 h1 => ⟨metT_ok r1 h1 q1.1, d, [], M1, Qd, q1.2, r1, .nil, h1, k.mono e1⟩⟩⟩
theorem MtRimp {r r' : V → List V → Hp → VK → Prop} (h : MtR X id r) (i : ∀ x xs H Q, r' x xs H Q → r x xs H Q) : MtR X id r' := fun pins s σ H x xs v us Q I rx rs q => h pins s σ H x xs v us Q I rx rs (i x xs H Q q)
/-- a list is written anew -/
theorem KC.wrote {K : PySem.W.Frag} {H : Hp} {M : Mp} {Qd : DK} {Q : VK} {v : V} {d : D} {xs xs' : List V} {ds' : List D} {a : Addr} (k : KC K H Qd Q) (hr : HR K H M) (hv : H a = some (.lst xs)) (l : RpL K H xs' ds') (r : Rp K H v d) (q : Qd d (put M a (.lst ds'))) : Q v (upd H a (.lst xs')) := by
  have e : TExt K H (upd H a (.lst xs')) := .upd (noTup_lst hv)
  exact k d _ v _ q e (r.mono e) (hr.made (noTup_lst hv) ⟨xs', upd_same, l.mono e⟩)
def appendM : DM := fun d ds M Q => match d, ds with
  | .ref a, [y] => match M a with
    | some (.lst xs) => xs.length < sizeLine ∧ Q .non (put M a (.lst (xs ++ [y])))
    | _ => False
  | _, _ => False
theorem mt_appendM : MtR X "list.append" (liftM X.K appendM) := MtRimp mt_append fun x xs H Q ⟨d, ds, M, Qd, q, rx, rs, hr, k⟩ => by
  unfold appendM at q
  split at q
  · rename_i a y
    obtain ⟨v, rfl, rv⟩ := rs.one
    split at q
    · rename_i ys e
      obtain ⟨vs, hv, l⟩ := hr.lst e
      exact ⟨a, vs, v, rx.toRef, rfl, hv, by rw [l.length]; exact q.1, k.wrote hr hv (l.append (.cons rv .nil)) .non q.2⟩
    · exact q.elim
  · exact q.elim
def extendM : DM := fun d ds M Q => match d, ds with
  | .ref a, [.ref b] => match M a, M b with
    | some (.lst xs), some (.lst ys) => xs.length + ys.length ≤ sizeLine ∧ Q .non (put M a (.lst (xs ++ ys)))
    | _, _ => False
  | _, _ => False
theorem mt_extendM : MtR X "list.extend" (liftM X.K extendM) := MtRimp mt_extend fun x xs H Q ⟨d, ds, M, Qd, q, rx, rs, hr, k⟩ => by
  unfold extendM at q
  split at q
  · rename_i a b
    obtain ⟨v, rfl, rv⟩ := rs.one
    split at q
    · rename_i xs ys e1 e2
      obtain ⟨vs, hv, l⟩ := hr.lst e1
      obtain ⟨us, hu, l2⟩ := hr.lst e2
      exact ⟨a, b, vs, us, rx.toRef, by rw [rv.toRef], hv, hu, by rw [l.length, l2.length]; exact q.1, k.wrote hr hv (l.append l2) .non q.2⟩
    · exact q.elim
  · exact q.elim
def reverseM : DM := fun d ds M Q => match d, ds with
  | .ref a, [] => match M a with
    | some (.lst xs) => Q .non (put M a (.lst xs.reverse))
    | _ => False
  | _, _ => False
theorem mt_reverseM : MtR X "list.reverse" (liftM X.K reverseM) := MtRimp mt_reverse fun x xs H Q ⟨d, ds, M, Qd, q, rx, rs, hr, k⟩ => by
  unfold reverseM at q
  split at q
  · rename_i a
    split at q
    · rename_i xs e1
      obtain ⟨vs, hv, l⟩ := hr.lst e1
      exact ⟨a, vs, rx.toRef, rs.nil_of, hv, k.wrote hr hv l.reverse .non q⟩
    · exact q.elim
  · exact q.elim
theorem RpL.erase {K : PySem.W.Frag} {H : Hp} : ∀ {xs : List V} {ds : List D} (i : Nat), RpL K H xs ds → RpL K H (xs.eraseIdx i) (ds.eraseIdx i)
  | _, _, _, .nil => by simpa using RpL.nil
  | _, _, 0, .cons _ l => l
  | _, _, i + 1, .cons r l => .cons r (RpL.erase i l)
/-- pop(i), i not below 0 -/
def popM : DM := fun d ds M Q => match d, ds with
  | .ref a, [.int i] => match M a with
    | some (.lst xs) => 0 ≤ i ∧ i < xs.length ∧ xs.length ≤ sizeLine ∧ match xs[i.toNat]? with
      | some y => Q y (put M a (.lst (xs.eraseIdx i.toNat)))
      | none => False
    | _ => False
  | .ref a, [] => match M a with
    | some (.lst xs) => match xs[xs.length - 1]? with
      | some y => Q y (put M a (.lst xs.dropLast))
      | none => False
    | _ => False
  | _, _ => False
theorem mt_popM : MtR X "list.pop" (liftM X.K popM) := MtRimp (MtR.or mt_popAt mt_pop) fun x xs H Q ⟨d, ds, M, Qd, q, rx, rs, hr, k⟩ => by
  unfold popM at q
  split at q
  · rename_i a i
    obtain ⟨v, rfl, rv⟩ := rs.one
    split at q
    · rename_i xs e1
      obtain ⟨vs, hv, l⟩ := hr.lst e1
      obtain ⟨h0, h1, h2, q⟩ := q
      split at q
      · rename_i y ey
        obtain ⟨u, hu, ru⟩ := l.get ey
        rw [sizeLine_eq] at h2
        refine .inl ⟨a, vs, i, i.toNat, u, rx.toRef, by rw [rv.toInt], hv, by omega, by omega, ?_, hu, k.wrote hr hv (l.erase _) ru q⟩
        have := (ixN_seq (n := vs.length) (i := i) (j := i.toNat) (ixN_in h0 (by rw [l.length]; exact h1))).1
        exact this
      · exact q.elim
    · exact q.elim
  · rename_i a
    split at q
    · rename_i xs e1
      obtain ⟨vs, hv, l⟩ := hr.lst e1
      split at q
      · rename_i y ey
        rw [← l.length] at ey
        obtain ⟨u, hu, ru⟩ := l.get ey
        exact .inr ⟨a, vs, u, rx.toRef, rs.nil_of, hv, hu, k.wrote hr hv l.dropLast ru q⟩
      · exact q.elim
    · exact q.elim
  · exact q.elim
/-! ### sums -/
def intsOf : List D → Option (List Int)
  | [] => some []
  | .int i :: ds => (intsOf ds).map (i :: ·)
  | _ :: _ => none
theorem intsOf_map : ∀ ns : List Int, intsOf (ns.map D.int) = some ns
  | [] => rfl
  | n :: ns => by simp [intsOf, intsOf_map ns]
theorem intsOf_ok : ∀ {ds : List D} {ns : List Int}, intsOf ds = some ns → ds = ns.map D.int
  | [], ns, h => by cases h; rfl
  | d :: ds, ns, h => by
    cases d with
    | int b =>
      have h' : (intsOf ds).map (b :: ·) = some ns := h
      cases e : intsOf ds with
      | none => rw [e] at h'; cases h'
      | some cs => rw [e] at h'; cases h'; rw [intsOf_ok e]; rfl
    | _ => cases h
def sumG : DG := fun ds M Q => match ds with
  | [.ref a] => match (seqOf M a).bind intsOf with
    | some ns => Q (.int ns.sum) M
    | none => False
  | _ => False
theorem call_sumG (hc : X.calm = true) : CallR X (.builtin "sum") (liftC X.K sumG) := CallRimp (cr_sum hc) fun xs H Q ⟨ds, M, Qd, q, r, hr, k⟩ => by
  unfold sumG at q
  split at q
  · obtain ⟨v, rfl, rv⟩ := r.one
    split at q
    · rename_i ns e
      obtain ⟨zs, e1, e2⟩ := Option.bind_eq_some_iff.mp e
      obtain ⟨vs, s, l⟩ := seqOf_ok hr e1
      rw [intsOf_ok e2] at l
      rw [l.ints] at s
      exact ⟨_, ns, by rw [rv.toRef], s, k _ M _ H q .refl (.int _) hr⟩
    · exact q.elim
  · exact q.elim
/-! ### range(i, j, -1), zip -/
variable {tg : Expr} {ta : DA}
def dRngD (ta : DA) : DI := fun τ M Q E => ta τ M (fun ds M1 => match ds with
  | [.int i, .int j, .int c] => c = -1 ∧ (-(2 ^ 62) ≤ i ∧ i < 2 ^ 62 ∧ -(2 ^ 62) ≤ j ∧ j < 2 ^ 62) ∧ i - j ≤ 16777216 ∧ Q ((List.range (i - j).toNat).map fun k => D.int (i - (k : Nat))) (fun _ => True) M1
  | _ => False) E
theorem RpL.three {K : PySem.W.Frag} {H : Hp} {vs : List V} {d d' d2 : D} (h : RpL K H vs [d, d', d2]) : ∃ v v' v2, vs = [v, v', v2] ∧ Rp K H v d ∧ Rp K H v' d' ∧ Rp K H v2 d2 := by
  cases h with
  | cons r l => obtain ⟨v, v', rfl, q⟩ := l.two; exact ⟨_, _, _, rfl, r, q⟩
theorem itOk_down {K : PySem.W.Frag} {H : Hp} {hi : Int} {n : Nat} (hz : n ≤ sizeLine) : ItOk K H (Itc hi (-1) n) ((List.range n).map fun i => D.int (hi - (i : Nat))) fun _ => True where
  small := by simpa using hz
  go := fun i H1 M e _ _ hi => show i < n by simpa using hi
  stop := fun i H1 M e _ _ hi => show n ≤ i by simpa using hi
  yld := fun i H1 M x H2 e _ _ y => by
    obtain ⟨rfl, rfl⟩ := y
    refine ⟨.refl, fun _ h => h, fun d hd => ?_⟩
    obtain ⟨_, rfl⟩ := rng_at hd
    have e : hi + ((i : Nat) : Int) * (-1) = hi - ((i : Nat) : Int) := by omega
    rw [e]
    exact .int _
theorem pid_rngD {a b c : Expr} (hg : Gl X "range") (hm : X.mg "range" = none) (ha : PAD X W [a, b, c] ta)
    (hs : starEach [a, b, c] X.env = (false, eval a X.env) :: starEach [b, c] X.env := by rfl) (hpl : (backTo pos (starEach [b, c] X.env)).any (·.1) = false := by rfl) : PID X W tg (.Call (.Name "range" p) [a, b, c] [] pos) (dRngD ta) :=
  ⟨PIimp (pi_range3 hg hm ha.run hs hpl) fun σ H R ⟨τ, M, Qd, Ed, hs, hr, q, we, k⟩ => ⟨τ, M, _, Ed, hs, hr, q, we, fun ds M1 vs H1 q1 e1 r1 h1 => by
    split at q1
    · rename_i i j c
      obtain ⟨v, v', v2, rfl, rv, rv', rv2⟩ := r1.three
      obtain ⟨rfl, c1, c2, q1⟩ := q1
      refine ⟨i, j, -1, (i - j).toNat, by rw [rv.toInt, rv'.toInt, rv2.toInt], RgC.neg c1.1 c1.2.1 c1.2.2.1 c1.2.2.2, k _ _ _ M1 H1 q1 e1 h1 (itOk_down (by rw [sizeLine_eq]; omega))⟩
    · exact q1.elim⟩⟩
end
end DL

set_option maxHeartbeats 4000000
namespace DLdict
open PySem
section
variable {prog : Program} {w : World} {K : Type} [DecidableEq K] {kd : KeyKind prog w K} {A : Around} {E : Value → Shared → Prop} {s : Shared}
/-- one pair is put, without the rules of d[k] = v -/
theorem put_pairs {a : Addr} {ps : List (K × Value)} {k : K} {kv v : Value} {Q : Unit → Shared → Prop} (hk : kd.is k kv = true) (hm : s.heap.DictOf kd a ps) (hz : ps.length ≤ sizeLine)
    (hQ : ∀ h', h'.DictOf kd a (stored ps k v) → Heap.SameBut a s.heap h' → Q () { s with heap := h' }) : wpAny (model prog w) A (dictPut a (kd.hash k) kv v) Q E s := by
  obtain ⟨ob, en, epo, g1, g2, g3, g4, g5, g6⟩ := hm
  have hen : en.size ≤ sizeLine := by
    have e1 := g5.length
    rw [Array.length_toList] at e1
    omega
  unfold dictPut
  refine wpAny_bind (wpAny_dictFind_of hk g1 g3 g4 ?_)
  have same : (en.findIdx? fun e => kd.is k e.key) = ps.findIdx? fun q => decide (q.1 = k) := by
    rw [← g5.findIdx k]
    obtain ⟨l⟩ := en
    simp
  cases hi : en.findIdx? fun e => kd.is k e.key with
  | some i =>
    have yes := any_of_findIdx_some (same ▸ hi)
    refine wpAny_updateDict g1 g3 (hQ _ ⟨_, _, epo, Heap.get?_update_self _ g1 (Obj.isFreed_of_dict (Obj.data_mapDict g3 _)), g2.mapDict _, Obj.data_mapDict g3 _, g4.modify _ _, ?_, ?_⟩ (Heap.SameBut.update ..))
    · have at_ : (en.toList.findIdx? fun e => kd.is k e.key) = some i := by
        rw [← hi]
        obtain ⟨l⟩ := en
        simp
      have r := g5.modify g6 at_ v
      rw [stored, if_pos yes]
      obtain ⟨l⟩ := en
      simpa using r
    · rw [stored, if_pos yes, keys_map_store]
      exact g6
  | none =>
    have out : k ∉ ps.map (·.1) := not_mem_of_findIdx_none (same ▸ hi)
    have no : ¬ (ps.any fun q => decide (q.1 = k)) = true := fun h => by
      obtain ⟨q, hq, e⟩ := List.any_eq_true.mp h
      exact out (List.mem_map.mpr ⟨q, hq, of_decide_eq_true e⟩)
    refine wpAny_updateDictKeys (hz := hen) g1 g3 (hQ _ ⟨_, _, epo + 1, Heap.get?_update_self _ g1 (Obj.isFreed_of_dict (Obj.data_mapDictKeys g3 _)), g2.mapDictKeys _, Obj.data_mapDictKeys g3 _, g4.push hk _, ?_, ?_⟩ (Heap.SameBut.update ..))
    · have r := g5.append hk (kd.hash k) v
      rw [stored, if_neg no]
      obtain ⟨l⟩ := en
      simpa using r
    · rw [stored, if_neg no, List.map_append]
      refine List.nodup_append.mpr ⟨g6, by simp, fun x hx y hy e => ?_⟩
      have : y = k := by simpa using hy
      subst this
      exact out (e ▸ hx)
/-- what {**o} does with a plain dict o -/
theorem merge_map {a o : Addr} {ps more : List (K × Value)} {Q : Unit → Shared → Prop} (hao : a ≠ o) (hoS : (o == sysModules) = false) (flat : ∀ (k : K) (v : Value), kd.is k v = true → ∀ b, v ≠ .ref b)
    (hd : s.heap.DictOf kd a ps) (ho : s.heap.DictOf kd o more) (hz : ps.length + more.length ≤ sizeLine)
    (hQ : ∀ h', h'.DictOf kd a (merged ps more) → h'.DictOf kd o more → Heap.SameBut a s.heap h' → Q () { s with heap := h' }) : wpAny (model prog w) A (mergeMapping a (.ref o) false) Q E s := by
  obtain ⟨od, ed, pd, d1, d2, d3, d4, d5, d6⟩ := id hd
  obtain ⟨oo, eo, po, o1, o2, o3, o4, o5, o6⟩ := id ho
  have hlen : more.length = eo.size := by rw [← o5.length, Array.length_toList]
  have hty := ho.typeIs
  unfold mergeMapping
  refine wpAny_bind (wpAny_isInstance hty F.sub_dict_dict ?_)
  dsimp only
  rw [if_pos rfl]
  refine wpAny_bind (wpAny_specialOf hty F.slot_dict_iter.lookup (wpAny_bind (wpAny_pure ?_)))
  have ey : ((some (Value.builtin "dict.__iter__") : Option Value) == some (.builtin "dict.__iter__")) = true := by simp
  rw [ey]
  dsimp only
  rw [if_neg (by rw [hoS]; exact Bool.false_ne_true)]
  refine wpAny_bind (wpAny_dictEntries d1 d3 ?_)
  have loop : wpAny (model prog w) A (do
      let en ← dictEntries o
      let epo ← dictEpoch o
      forIn (List.range en.size) PUnit.unit fun i (_ : PUnit) => (do
        let en2 ← dictEntries o
        match en2[i]? with
        | some e => do
          holding [e.key, e.val] (dictPut a e.hash e.key e.val)
          let epo2 ← dictEpoch o
          if (epo2 != epo) = true then do
              (unsupported "dict.changed-during-merge" : Sem PUnit)
              pure (ForInStep.yield PUnit.unit)
            else pure (ForInStep.yield PUnit.unit)
        | _ => do
          (unsupported "dict.changed-during-merge" : Sem PUnit)
          pure (ForInStep.yield PUnit.unit) : Sem (ForInStep PUnit))
      pure ()) Q E s := by
    refine wpAny_bind (wpAny_dictEntries o1 o3 ?_)
    refine wpAny_bind (wpAny_dictEpoch o1 o3 ?_)
    refine wpAny_bind ?_
    rw [List.range_eq_range']
    refine wpAny_forIn_list _ (fun rest _ s' => ∃ h' i, s' = { s with heap := h' } ∧ rest = List.range' i (eo.size - i) ∧ i ≤ eo.size ∧ h'.DictOf kd a (merged ps (more.take i)) ∧ h'.get? o = some oo ∧ Heap.SameBut a s.heap h')
      _ ?_ ?_ _ _ ⟨s.heap, 0, rfl, by simp, Nat.zero_le _, by simpa [merged] using hd, o1, Heap.SameBut.refl _ _⟩
    · rintro x rest b s' ⟨h', i, rfl, hr, hi, hd', hoo', hs'⟩
      have hlt : i < eo.size := by
        by_cases c : i < eo.size
        · exact c
        · have e0 : eo.size - i = 0 := by omega
          rw [e0] at hr
          cases hr
      have step : eo.size - i = (eo.size - (i + 1)) + 1 := by omega
      rw [step, List.range'_succ] at hr
      injection hr with hx hrest
      subst hx
      refine wpAny_bind (wpAny_dictEntries hoo' o3 ?_)
      rw [Array.getElem?_eq_getElem hlt]
      obtain ⟨⟨k, v⟩, hkv⟩ : ∃ q, more[x]? = some q := ⟨more[x]'(by rw [hlen]; exact hlt), List.getElem?_eq_getElem _⟩
      obtain ⟨hkey, hval⟩ := o5.get? (e := eo[x]) (by simp [hlt]) hkv
      obtain ⟨k', hkey', hhash⟩ := o4 eo[x] (Array.getElem_mem hlt)
      obtain rfl : k' = k := kd.inj _ _ _ hkey' hkey
      show wpAny _ _ (holding [eo[x].key, eo[x].val] (dictPut a eo[x].hash eo[x].key eo[x].val) >>= _) _ _ _
      rw [hhash, hval]
      have hmx : (merged ps (more.take x)).length ≤ sizeLine := by
        have e1 := merged_length_le ps (more.take x)
        rw [List.length_take] at e1
        omega
      refine wpAny_bind (wpAny_holding (put_pairs hkey hd' hmx fun h2 hd2 hs2 => ?_))
      have hoo2 : h2.get? o = some oo := (hs2.2 o (Ne.symm hao)).trans hoo'
      refine wpAny_bind (wpAny_dictEpoch hoo2 o3 ?_)
      rw [if_neg (by simp)]
      exact wpAny_pure ⟨h2, x + 1, rfl, hrest, hlt, by rw [merged_take_succ ps more x (k', v) hkv]; exact hd2, hoo2, hs'.trans hs2⟩
    · rintro b s' ⟨h', i, rfl, hr, hi, hd', hoo', hs'⟩
      have hin : i = eo.size := by
        by_cases c : i < eo.size
        · have step : eo.size - i = (eo.size - (i + 1)) + 1 := by omega
          rw [step, List.range'_succ] at hr
          cases hr
        · omega
      refine wpAny_pure (hQ h' ?_ ⟨oo, eo, po, hoo', o2, o3, o4, o5, o6⟩ hs')
      rw [hin, ← hlen, List.take_length] at hd'
      exact hd'
  split
  · refine wpAny_bind (wpAny_dictEntries o1 o3 ?_)
    refine wpAny_bind ?_
    have still : (forIn eo PUnit.unit fun e (_ : PUnit) => (match e.key with
        | Value.ref b => do
          let r ← specialOf e.key (Str.ofString "__eq__")
          if (r != some (Value.builtin "object.__eq__")) = true then
            if (Array.filter (fun x => x.hash == e.hash) eo).size > 1 then do
              (unsupported "dict.merge-into-an-empty-dict:keys-of-equal-hash" : Sem PUnit)
              pure (ForInStep.yield PUnit.unit)
            else pure (ForInStep.yield PUnit.unit)
          else pure (ForInStep.yield PUnit.unit)
        | _ => pure (ForInStep.yield PUnit.unit) : Sem (ForInStep PUnit))) = pure PUnit.unit := by
      rw [← Array.forIn_toList]
      refine forIn_yield_id _ fun e he c => ?_
      obtain ⟨k, hkey, _⟩ := o4 e (Array.mem_toList_iff.mp he)
      have nr := flat k _ hkey
      cases e2 : e.key with
      | ref b => exact absurd e2 (nr b)
      | _ => rfl
    exact wpAny_of_eq still loop
  · exact loop
end
end DLdict

set_option maxHeartbeats 4000000
namespace DLdict
open PySem L2
section
variable {prog : Program} {w : World} {K : Type} [DecidableEq K] {kd : KeyKind prog w K} {A : Around} {E : Value → Shared → Prop} {s : Shared}
/-- {**e, k: v} -/
theorem star_display {te tk tv : Sem Value} {Q : Value → Shared → Prop} (flat : ∀ (k : K) (v : Value), kd.is k v = true → ∀ b, v ≠ .ref b)
    (h : wpAny (model prog w) A te (fun m s1 => ∃ (o : Addr) (kvs : List (K × Value)), m = .ref o ∧ s.heap.objs.size ≠ o ∧ (o == sysModules) = false ∧ s1.heap.DictOf kd s.heap.objs.size [] ∧ s1.heap.DictOf kd o kvs ∧ kvs.length ≤ 100000 ∧
      ∀ h2, h2.DictOf kd s.heap.objs.size (merged [] kvs) → Heap.SameBut s.heap.objs.size s1.heap h2 →
        wpAny (model prog w) A (evalPairs [(tk, tv)]) (fun vs s3 => ∃ prs xs : List (K × Value), prs.length ≤ 1 ∧ xs.length ≤ 100000 ∧ Carries kd vs prs ∧ s3.heap.DictOf kd h2.objs.size [] ∧ s3.heap.DictOf kd s.heap.objs.size xs ∧ s.heap.objs.size ≠ h2.objs.size ∧ (h2.objs.size == sysModules) = false ∧
          ∀ h4 h5, h4.DictOf kd h2.objs.size (merged [] prs) → Heap.SameBut h2.objs.size s3.heap h4 → h5.DictOf kd s.heap.objs.size (merged xs (merged [] prs)) → h5.DictOf kd h2.objs.size (merged [] prs) → Heap.SameBut s.heap.objs.size h4 h5 →
            Q (.ref s.heap.objs.size) { s3 with heap := h5, toks := s3.toks + vs.length }) E { s1 with heap := h2.push { cls := .type "dict", data := .dict #[] } }) E
      { s with heap := s.heap.push { cls := .type "dict", data := .dict #[] } }) : wpAny (model prog w) A (dictDisplay [(none, te), (some tk, tv)]) Q E s := by
  unfold dictDisplay
  simp only [List.forIn_cons, List.forIn_nil, List.isEmpty_nil, if_true, pure_bind, List.nil_append, List.length_singleton, bind_assoc, Nat.reduceBEq, Bool.false_eq_true, if_false, List.isEmpty_cons]
  refine wpAny_bind (wpAny_alloc ?_)
  refine wpAny_bind (wpAny_holding (wpAny_mono h (fun m s1 h1 => ?_) fun _ _ e => e))
  obtain ⟨o, kvs, rfl, hne, hoS, dn, dk, hz, h1⟩ := h1
  refine wpAny_bind (wpAny_onRaise (wpAny_tryCatch (wpAny_onRaise (wpAny_holding (merge_map hne hoS flat dn dk (by rw [List.length_nil, sizeLine_eq]; omega) fun h2 m2 k2 sb2 => ?_)))))
  refine wpAny_bind (wpAny_holding (wpAny_subDict (knd := kd) (by show 1 ≤ 15; omega) (wpAny_mono (h1 h2 m2 sb2) (fun vs s3 q3 => ?_) fun _ _ e => e)))
  obtain ⟨prs, xs, hv1, hx1, hc, e0, e1, hn2, hS2, fin⟩ := q3
  refine ⟨prs, hc, e0, fun h4 m4 sb4 => ?_⟩
  have hl1 := merged_length_le ([] : List (K × Value)) kvs
  have hl2 := merged_length_le ([] : List (K × Value)) prs
  rw [List.length_nil] at hl1 hl2
  refine wpAny_bind (wpAny_onRaise (wpAny_holding (merge_map (more := merged [] prs) hn2 hS2 flat (e1.sameBut sb4 hn2) m4 (by rw [sizeLine_eq]; omega) fun h5 m5 k5 sb5 => ?_)))
  refine wpAny_pure ?_
  exact fin h4 h5 m4 sb4 m5 k5 sb5
theorem mix_flat {prog : Program} {w : World} (k : Key) (v : Value) (h : (mixKind prog w).is k v = true) (b : Addr) : v ≠ .ref b := by
  rintro rfl
  rcases keyIs_shape h with ⟨i, t, _, e⟩ | ⟨x, t, _, e⟩ <;> cases e
/-- {**e, k: v}: p the new dict, q the one that holds k: v on its way -/
def tDStar (te tk tv : TE) : TE := fun σ H Q => ∀ p, H p = none → te σ (upd H p (.dK [])) fun x H1 => ∃ (o : Addr) (kvs : List (Key × V)), x = .ref o ∧ Rd H1 o (.dK kvs) ∧ p ≠ o ∧ H1 p = some (.dK []) ∧ kvs.length ≤ 100000 ∧
  ∀ q, upd H1 p (.dK (mergeK [] kvs)) q = none → tk σ (upd (upd H1 p (.dK (mergeK [] kvs))) q (.dK [])) fun y H2 => tv σ H2 fun z H3 => ∃ k ws, y = kV k ∧ H3 q = some (.dK []) ∧ H3 p = some (.dK ws) ∧ ws.length ≤ 100000 ∧ p ≠ q ∧
    Q (.ref p) (upd (upd H3 q (.dK [(k, z)])) p (.dK (putK ws k z)))
theorem pe_dstar {X : Cx} {e k v : Expr} {te tk tv : TE} {pos : Pos} (he : PE X e te) (hk : PE X k tk) (hv : PE X v tv) : PE X (.Dict [none, some k] [e, v] pos) (tDStar te tk tv) := by
  refine ⟨fun pins s σ H Q I hq => ?_⟩
  have hn := I.hok.fresh (Nat.le_refl s.heap.objs.size)
  have I1 := I.laid (a := s.heap.objs.size) (o := .dK []) (h' := s.heap.push { cls := .type "dict", data := .dict #[] }) (t' := s.toks) (fun _ _ z => Heap.get?_push_of_some _ z) (Nat.le_refl _) (dk_empty s.heap I.big)
  rw [arm_eval_Dict]
  refine wpAny_bind (wpAny_standAt (star_display (kd := mixKind X.prog X.w) (fun k v h b => mix_flat k v h b) (te := do let x ← eval e X.env; standAt pos; pure x) (tk := eval k X.env) (tv := do let x ← eval v X.env; standAt pos; pure x) ?_))
  refine wpAny_bind (thn (he.run pins _ σ _ _ I1 (hq _ hn)) fun u s1 ⟨x, H1, I2, rx, o, kvs, ex, rd, hpo, h0, hz, q1⟩ => wpAny_bind (wpAny_standAt (wpAny_pure ?_)))
  subst ex
  obtain rfl : u = Value.ref o := rx
  obtain ⟨z1, hoS, vs, rel, dd⟩ := dk_rd I2.hok rd
  obtain ⟨z0, hpS, vs0, rel0, dd0⟩ := dk_of I2.hok h0
  cases rel0
  refine ⟨o, vs, rfl, hpo, hoS, dd0, dd, by rw [← rel.length]; exact hz, fun h2 m2 sb2 => ?_⟩
  have zl : (mergeK [] kvs).length ≤ sizeLine := by
    have := length_mergeK kvs []
    rw [List.length_nil] at this
    rw [sizeLine_eq]; omega
  have ex2 : ∃ c, h2.get? s.heap.objs.size = some c := let ⟨c, _, _, hc, _⟩ := m2; ⟨c, hc⟩
  have I3 := d_write (t' := s1.toks) I2 (by rw [h0]; exact True.intro) sb2 ex2 (dk_new zl hpS (rel.merge .nil) m2)
  have hn3 := I3.hok.fresh (Nat.le_refl h2.objs.size)
  have I4 := I3.laid (a := h2.objs.size) (o := .dK []) (h' := h2.push { cls := .type "dict", data := .dict #[] }) (t' := s1.toks) (fun _ _ z => Heap.get?_push_of_some _ z) (Nat.le_refl _) (dk_empty h2 I3.big)
  refine thn ((pps_cons (pos := pos) hk hv pps_nil).run pins _ σ _ (fun ps H3 => match ps with
    | [(y, z)] => ∃ k ws, y = kV k ∧ H3 h2.objs.size = some (.dK []) ∧ H3 s.heap.objs.size = some (.dK ws) ∧ ws.length ≤ 100000 ∧ s.heap.objs.size ≠ h2.objs.size ∧
      Q (.ref s.heap.objs.size) (upd (upd H3 h2.objs.size (.dK [(k, z)])) s.heap.objs.size (.dK (putK ws k z)))
    | _ => False) I4 (q1 _ hn3)) fun ws s3 ⟨ps, H3, I5, rv, q5⟩ => ?_
  have one : ∃ y z, ps = [(y, z)] := by
    split at q5
    · exact ⟨_, _, rfl⟩
    · exact q5.elim
  obtain ⟨y, z, rfl⟩ := one
  obtain ⟨kk, wk, rfl, hq3, hp3, lwk, npq, fin⟩ := q5
  obtain ⟨prs, c, rk⟩ := carries_of (P := X.prog) (w := X.w) (kvs := [(kk, z)]) rv
  obtain ⟨y0, hqS, w0, r0, dq⟩ := dk_of I5.hok hq3
  cases r0
  obtain ⟨y1, _, w1, r1, dp⟩ := dk_of I5.hok hp3
  have lp : prs.length ≤ 1 := by rw [← rk.length]; exact Nat.le_refl 1
  have lw : w1.length ≤ 100000 := by rw [← r1.length]; exact lwk
  refine ⟨prs, w1, lp, lw, c, dq, dp, npq, hqS, fun h4 h5 m4 sb4 m5 k5 sb5 => ?_⟩
  have ex4 : ∃ c, h4.get? h2.objs.size = some c := let ⟨c, _, _, hc, _⟩ := m4; ⟨c, hc⟩
  have ex5 : ∃ c, h5.get? s.heap.objs.size = some c := let ⟨c, _, _, hc, _⟩ := m5; ⟨c, hc⟩
  have I6 := d_write (t' := s3.toks) I5 (by rw [hq3]; exact True.intro) sb4 ex4 (dk_new (kvs := mergeK [] [(kk, z)]) (by rw [sizeLine_eq]; have := length_mergeK [(kk, z)] []; simp at this; omega) hqS (rk.merge .nil) m4)
  have eo : upd H3 h2.objs.size (.dK (mergeK [] [(kk, z)])) s.heap.objs.size = some (.dK wk) := by rw [upd_ne npq]; exact hp3
  have I7 := d_write (t' := s3.toks + ws.length) I6 (by rw [eo]; exact True.intro) sb5 ex5 (dk_new (kvs := mergeK wk (mergeK [] [(kk, z)])) (by
    have h1 := length_mergeK (mergeK [] [(kk, z)]) wk
    have h2 := length_mergeK [(kk, z)] []
    rw [List.length_nil] at h2
    rw [List.length_singleton] at h2
    rw [sizeLine_eq]
    omega) hpS ((rk.merge .nil).merge r1) m5)
  exact ⟨.ref s.heap.objs.size, _, I7, rfl, fin⟩
end
end DLdict

set_option maxHeartbeats 4000000
namespace DLdict
open PySem L2
/-! ### d.copy() -/
def rCopy : V → List V → Hp → VK → Prop := fun x xs H Q => ∃ (a : Addr) (kvs : List (Key × V)), x = .ref a ∧ xs = [] ∧ H a = some (.dK kvs) ∧ ∀ p, H p = none → Q (.ref p) (upd H p (.dK kvs))
theorem mt_copy {X : Cx} : MtR X "dict.copy" rCopy := by
  intro pins s σ H x xs v us Q I rx rs ⟨a, kvs, ex, es, ha, q⟩
  subst ex; subst es
  cases rs
  obtain rfl : v = Value.ref a := rx
  obtain ⟨z, hS, vs, rel, dd⟩ := dk_of I.hok ha
  refine call_meetsIn PySem.F.slot_dict_copy dd.typeIs PySem.F.entry_dict_copy (PySem.F.args_dict_copy_1 _) (meets_dict_copy (mixKind X.prog X.w) a hS) ⟨vs, dd, by rw [← rel.length]; exact z, fun h' n1 n2 k => ?_⟩
  have hn := I.hok.fresh (Nat.le_refl s.heap.objs.size)
  have hp : (s.heap.objs.size == sysModules) = false := beq_eq_false_iff_ne.mpr (Ne.symm (Nat.ne_of_lt I.big))
  exact ⟨.ref s.heap.objs.size, _, I.laid (a := s.heap.objs.size) (o := .dK kvs) (t' := s.toks) k (Nat.le_refl _) (dk_new z hp rel n1), rfl, q _ hn⟩
end DLdict
namespace DL
open PySem PySem.Spec L2
/-! ### dicts whose keys are ints or texts -/
def keyD : D → Option Key
  | .int i => some (.inl i)
  | .str x => some (.inr x)
  | _ => none
theorem keyD_ok {K : PySem.W.Frag} {H : Hp} {v : V} {d : D} {k : Key} (r : Rp K H v d) (h : keyD d = some k) : v = kV k := by
  cases d with
  | int i => cases h; exact r.toInt
  | str x => cases h; exact r.toStr
  | _ => cases h
def valD (kvs : List (Key × D)) (k : Key) : Option D := (kvs.find? fun q => decide (q.1 = k)).map (·.2)
def putKD (kvs : List (Key × D)) (k : Key) (d : D) : List (Key × D) := if (kvs.any fun q => decide (q.1 = k)) = true then kvs.map (fun q => if q.1 = k then (q.1, d) else q) else kvs ++ [(k, d)]
def mergeKD (kvs more : List (Key × D)) : List (Key × D) := more.foldl (fun acc q => putKD acc q.1 q.2) kvs
section
variable {K : PySem.W.Frag} {H : Hp}
theorem KD.length : ∀ {vs : List (Key × V)} {ds : List (Key × D)}, KD K H vs ds → vs.length = ds.length
  | [], [], _ => rfl
  | _ :: _, _ :: _, h => by simp [KD.length h.2.2]
  | [], _ :: _, h => h.elim
  | _ :: _, [], h => h.elim
theorem KD.any {k : Key} : ∀ {vs : List (Key × V)} {ds : List (Key × D)}, KD K H vs ds → (vs.any fun q => decide (q.1 = k)) = ds.any fun q => decide (q.1 = k)
  | [], [], _ => rfl
  | p :: _, q :: _, h => by rw [List.any_cons, List.any_cons, KD.any h.2.2, h.1]
  | [], _ :: _, h => h.elim
  | _ :: _, [], h => h.elim
theorem KD.get {k : Key} : ∀ {vs : List (Key × V)} {ds : List (Key × D)}, KD K H vs ds → ∀ d, valD ds k = some d → ∃ v, valV vs k = some v ∧ Rp K H v d
  | [], [], _, d, e => by cases e
  | p :: ps, q :: qs, h, d, e => by
    by_cases c : q.1 = k
    · have e' : some q.2 = some d := by simpa [valD, List.find?_cons, c] using e
      cases e'
      exact ⟨p.2, valV_pos (h.1.trans c), h.2.1⟩
    · have e' : valD qs k = some d := by simpa [valD, List.find?_cons, c] using e
      obtain ⟨v, e1, r⟩ := KD.get h.2.2 d e'
      exact ⟨v, by rw [valV_neg (fun z => c (h.1.symm.trans z))]; exact e1, r⟩
  | [], _ :: _, h, _, _ => h.elim
  | _ :: _, [], h, _, _ => h.elim
theorem KD.got {k : Key} : ∀ {vs : List (Key × V)} {ds : List (Key × D)}, KD K H vs ds → (valV vs k).isSome = (valD ds k).isSome
  | [], [], _ => rfl
  | p :: ps, q :: qs, h => by
    by_cases c : q.1 = k
    · have e' : valD (q :: qs) k = some q.2 := by simp [valD, List.find?_cons, c]
      rw [valV_pos (h.1.trans c), e']
      rfl
    · have e' : valD (q :: qs) k = valD qs k := by simp [valD, List.find?_cons, c]
      rw [valV_neg (fun z => c (h.1.symm.trans z)), e']
      exact KD.got h.2.2
  | [], _ :: _, h => h.elim
  | _ :: _, [], h => h.elim
theorem KD.over {k : Key} {v : V} {d : D} (r : Rp K H v d) : ∀ {vs : List (Key × V)} {ds : List (Key × D)}, KD K H vs ds → KD K H (vs.map fun q => if q.1 = k then (q.1, v) else q) (ds.map fun q => if q.1 = k then (q.1, d) else q)
  | [], [], _ => True.intro
  | p :: _, q :: _, h => by
    rw [List.map_cons, List.map_cons]
    by_cases c : q.1 = k
    · rw [if_pos c, if_pos (h.1.trans c)]
      exact ⟨h.1, r, KD.over r h.2.2⟩
    · rw [if_neg c, if_neg (fun z => c (h.1.symm.trans z))]
      exact ⟨h.1, h.2.1, KD.over r h.2.2⟩
  | [], _ :: _, h => h.elim
  | _ :: _, [], h => h.elim
theorem KD.snoc {k : Key} {v : V} {d : D} (r : Rp K H v d) : ∀ {vs : List (Key × V)} {ds : List (Key × D)}, KD K H vs ds → KD K H (vs ++ [(k, v)]) (ds ++ [(k, d)])
  | [], [], _ => ⟨rfl, r, True.intro⟩
  | p :: _, q :: _, h => ⟨h.1, h.2.1, KD.snoc r h.2.2⟩
  | [], _ :: _, h => h.elim
  | _ :: _, [], h => h.elim
theorem KD.put {k : Key} {v : V} {d : D} (r : Rp K H v d) {vs : List (Key × V)} {ds : List (Key × D)} (h : KD K H vs ds) : KD K H (putK vs k v) (putKD ds k d) := by
  unfold putK putKD
  rw [h.any]
  split
  · exact h.over r
  · exact h.snoc r
theorem KD.merge : ∀ {more : List (Key × V)} {moreD : List (Key × D)} {vs : List (Key × V)} {ds : List (Key × D)}, KD K H more moreD → KD K H vs ds → KD K H (mergeK vs more) (mergeKD ds moreD)
  | [], [], _, _, _, h => h
  | p :: ps, q :: qs, vs, ds, m, h => by
    have e : KD K H (putK vs p.1 p.2) (putKD ds q.1 q.2) := by
      rw [m.1]
      exact h.put m.2.1
    exact KD.merge (more := ps) (moreD := qs) m.2.2 e
  | [], _ :: _, _, _, m, _ => m.elim
  | _ :: _, [], _, _, m, _ => m.elim
/-- a dict is new, or written anew -/
theorem KC.dict {M : Mp} {Qd : DK} {Q : VK} {vs : List (Key × V)} {ds : List (Key × D)} {p : Addr} (k : KC K H Qd Q) (hr : HR K H M) (l : KD K H vs ds) (hp : H p = none) (q : ∀ p, M p = none → Qd (.ref p) (put M p (.dk ds))) : Q (.ref p) (upd H p (.dK vs)) :=
  k _ _ _ _ (q p (hr.free hp)) (.new hp) (.ref p) (hr.made (noTup_none hp) ⟨vs, upd_same, l.mono (.new hp)⟩)
theorem HR.dictAt {M : Mp} {a : Addr} {vs vs' : List (Key × V)} {ds' : List (Key × D)} (hr : HR K H M) (hv : H a = some (.dK vs)) (l : KD K H vs' ds') : TExt K H (upd H a (.dK vs')) ∧ HR K (upd H a (.dK vs')) (DL.put M a (.dk ds')) := by
  have e : TExt K H (upd H a (.dK vs')) := .upd (noTup_dK hv)
  exact ⟨e, hr.made (noTup_dK hv) ⟨vs', upd_same, l.mono e⟩⟩
end
section
variable {X : Cx} {W : DW} {pos p : Pos} {o e i k v f : Expr} {td ty te tk tv tx : DE}
def dDNew : DE := fun _ M Q _ => ∀ p, M p = none → Q (.ref p) (put M p (.dk []))
theorem pd_dnew : PD X W (.Dict [] [] pos) dDNew := ⟨PEimp pe_dnewK fun σ H Q ⟨τ, M, Qd, Ed, hs, hr, q, we, kk⟩ p hp => kk.dict hr (vs := []) (ds := []) True.intro hp q⟩
/-- the dict at d -/
def dictOf (d : D) (M : Mp) : Option (List (Key × D)) := match d with
  | .ref a => match M a with
    | some (.dk kvs) => some kvs
    | _ => none
  | _ => none
theorem dictOf_ok {K : PySem.W.Frag} {H : Hp} {M : Mp} {x : V} {d : D} {kvs : List (Key × D)} (r : Rp K H x d) (hr : HR K H M) (h : dictOf d M = some kvs) : ∃ a vs, x = .ref a ∧ d = .ref a ∧ M a = some (.dk kvs) ∧ H a = some (.dK vs) ∧ KD K H vs kvs := by
  cases d with
  | ref a =>
    have h' : (match M a with | some (.dk kvs) => some kvs | _ => none) = some kvs := h
    cases e : M a with
    | none => rw [e] at h'; cases h'
    | some ob =>
      rw [e] at h'
      cases ob with
      | dk xs => cases h'; obtain ⟨vs, q, l⟩ := hr.dk e; exact ⟨a, vs, r.toRef, rfl, e, q, l⟩
      | _ => cases h'
  | _ => cases h
/-- a dict that is read -/
def dictRd (d : D) (M : Mp) : Option (List (Key × D)) := match d with
  | .ref a => match M a with
    | some (.dk kvs) => some kvs
    | some (.rdk kvs) => some kvs
    | _ => none
  | _ => none
theorem dictRd_ok {K : PySem.W.Frag} {H : Hp} {M : Mp} {x : V} {d : D} {kvs : List (Key × D)} (r : Rp K H x d) (hr : HR K H M) (h : dictRd d M = some kvs) : ∃ a vs, x = .ref a ∧ d = .ref a ∧ Rd H a (.dK vs) ∧ KD K H vs kvs := by
  cases d with
  | ref a =>
    have h' : (match M a with | some (.dk kvs) => some kvs | some (.rdk kvs) => some kvs | _ => none) = some kvs := h
    cases e : M a with
    | none => rw [e] at h'; cases h'
    | some ob =>
      rw [e] at h'
      cases ob with
      | dk xs => cases h'; obtain ⟨vs, q, l⟩ := hr.dk e; exact ⟨a, vs, r.toRef, rfl, .inl q, l⟩
      | rdk xs => cases h'; obtain ⟨o, vs, q, l⟩ : ∃ o vs, H a = some (.frz o (.dK vs)) ∧ KD K H vs kvs := hr a _ e; exact ⟨a, vs, r.toRef, rfl, .inr ⟨o, q⟩, l⟩
      | _ => cases h'
  | _ => cases h
def dDGet (td ty : DE) : DE := fun τ M Q E => td τ M (fun x M1 => ty τ M1 (fun y M2 => match dictRd x M2, keyD y with
  | some kvs, some k => match valD kvs k with
    | some v => Q v M2
    | none => False
  | _, _ => False) E) E
theorem pd_dget (hu : X.A.units + 1 < cLine) (ho : PD X W o td) (hi : PD X W i ty) (hs : NoSl i) : PD X W (.Subscript o i pos) (dDGet td ty) :=
  ⟨PEimp (pe_dget hu ho.run hi.run hs) fun σ H Q ⟨τ, M, Qd, Ed, hs, hr, q, we, kk⟩ => ⟨τ, M, _, Ed, hs, hr, q, we, fun x M1 xv H1 q1 e1 r1 h1 => ⟨τ, M1, _, Ed, hs.mono e1, h1, q1, we, fun y M2 yv H2 q2 e2 r2 h2 => by
    dsimp only at q2
    split at q2
    · rename_i kvs k ed ek
      split at q2
      · rename_i w ew
        obtain ⟨a, vs, rfl, rfl, hv, l⟩ := dictRd_ok (r1.mono e2) h2 ed
        obtain ⟨u, hu, ru⟩ := l.get _ ew
        exact ⟨a, u, rfl, .inl ⟨vs, k, hv, keyD_ok r2 ek, hu.symm⟩, kk _ M2 _ H2 q2 (e1.trans e2) ru h2⟩
      · exact q2.elim
    · exact q2.elim⟩⟩⟩
/-- y in d, y not in d -/
def dDIn (n : Bool) (ty td : DE) : DE := fun τ M Q E => ty τ M (fun y M1 => td τ M1 (fun x M2 => match dictRd x M2, keyD y with
  | some kvs, some k => Q (.bl (n != (valD kvs k).isSome)) M2
  | _, _ => False) E) E
theorem dDIn_read {K : PySem.W.Frag} {n : Bool} {σ : L2.St} {H : Hp} {Q : VK} (h : liftE K W (dDIn n ty td) σ H Q) : liftE K W ty σ H fun y H1 => liftE K W td σ H1 fun x H2 => ∃ (a : Addr) (ob : Option V), x = .ref a ∧ DGet H2 a y ob ∧ Q (.bl (n != ob.isSome)) H2 := by
  obtain ⟨τ, M, Qd, Ed, hs, hr, q, we, kk⟩ := h
  refine ⟨τ, M, _, Ed, hs, hr, q, we, fun y M1 yv H1 q1 e1 r1 h1 => ⟨τ, M1, _, Ed, hs.mono e1, h1, q1, we, fun x M2 xv H2 q2 e2 r2 h2 => ?_⟩⟩
  dsimp only at q2
  split at q2
  · rename_i kvs k ed ek
    obtain ⟨a, vs, rfl, rfl, hv, l⟩ := dictRd_ok r2 h2 ed
    refine ⟨a, _, rfl, .inl ⟨vs, k, hv, keyD_ok (r1.mono e2) ek, rfl⟩, ?_⟩
    rw [l.got]
    exact kk _ M2 _ H2 q2 (e1.trans e2) (.bl _) h2
  · exact q2.elim
theorem pd_din (hu : X.A.units + 1 < cLine) (hi : PD X W i ty) (ho : PD X W o td) (hm : behindInMarks .In o = false := by with_unfolding_all rfl) : PD X W (.Compare i [.In] [o] pos) (dDIn false ty td) :=
  ⟨PEimp (pe_cmp (pc_din hu hi.run ho.run) hm) fun σ H Q h => by
    have := dDIn_read h
    simpa [tDIn] using this⟩
theorem pd_dnotin (hu : X.A.units + 1 < cLine) (hi : PD X W i ty) (ho : PD X W o td) (hm : behindInMarks .NotIn o = false := by with_unfolding_all rfl) : PD X W (.Compare i [.NotIn] [o] pos) (dDIn true ty td) :=
  ⟨PEimp (pe_cmp (pc_dnotin hu hi.run ho.run) hm) fun σ H Q h => by
    have := dDIn_read h
    simpa [tDNotIn] using this⟩
/-- {**e, k: v} -/
def dDStar (te tk tv : DE) : DE := fun τ M Q E => ∀ p, M p = none → te τ (put M p (.dk [])) (fun d M1 => match dictRd d M1 with
  | some kvs => d ≠ .ref p ∧ M1 p = some (.dk []) ∧ kvs.length ≤ 100000 ∧ ∀ q, put M1 p (.dk (mergeKD [] kvs)) q = none → tk τ (put (put M1 p (.dk (mergeKD [] kvs))) q (.dk [])) (fun y M2 => tv τ M2 (fun z M3 => match keyD y with
    | some k => M3 q = some (.dk []) ∧ M3 p = some (.dk (mergeKD [] kvs)) ∧ Q (.ref p) (put (put M3 q (.dk [(k, z)])) p (.dk (putKD (mergeKD [] kvs) k z)))
    | none => False) E) E
  | none => False) E
theorem pd_dstar (he : PD X W e te) (hk : PD X W k tk) (hv : PD X W v tv) : PD X W (.Dict [none, some k] [e, v] pos) (dDStar te tk tv) := by
  refine ⟨PEimp (DLdict.pe_dstar he.run hk.run hv.run) fun σ H Q ⟨τ, M, Qd, Ed, hs, hr, q, we, kk⟩ p hp => ?_⟩
  have e0 : TExt X.K H (upd H p (.dK [])) := .new hp
  have hr0 : HR X.K (upd H p (.dK [])) (put M p (.dk [])) := hr.made (noTup_none hp) ⟨[], upd_same, True.intro⟩
  refine ⟨τ, _, _, Ed, hs.mono e0, hr0, q p (hr.free hp), we, fun d M1 xv H1 q1 e1 r1 h1 => ?_⟩
  dsimp only at q1
  split at q1
  · rename_i kvs ed
    obtain ⟨a, vs, rfl, rfl, hv1, l⟩ := dictRd_ok r1 h1 ed
    obtain ⟨hne, hp1, hz, q1⟩ := q1
    obtain ⟨w0, hw0, l0⟩ := h1.dk hp1
    have : w0 = [] := List.length_eq_zero_iff.mp l0.length
    subst this
    have lm : KD X.K H1 (mergeK [] vs) (mergeKD [] kvs) := KD.merge l True.intro
    obtain ⟨e2, h2⟩ := HR.dictAt h1 hw0 lm
    refine ⟨a, vs, rfl, hv1, fun z => hne (by rw [z]), hw0, by rw [l.length]; exact hz, fun q hq => ?_⟩
    have npq : p ≠ q := by
      rintro rfl
      rw [upd_same] at hq
      cases hq
    have e3 : TExt X.K (upd H1 p (.dK (mergeK [] vs))) (upd (upd H1 p (.dK (mergeK [] vs))) q (.dK [])) := .new hq
    have h3 : HR X.K (upd (upd H1 p (.dK (mergeK [] vs))) q (.dK [])) (put (put M1 p (.dk (mergeKD [] kvs))) q (.dk [])) := h2.made (noTup_none hq) ⟨[], upd_same, True.intro⟩
    have e03 := ((e0.trans e1).trans e2).trans e3
    refine ⟨τ, _, _, Ed, hs.mono e03, h3, q1 q (h2.free hq), we, fun y M2 yv H4 q4 e4 r4 h4 => ⟨τ, M2, _, Ed, hs.mono (e03.trans e4), h4, q4, we, fun z M3 zv H5 q5 e5 r5 h5 => ?_⟩⟩
    dsimp only at q5
    split at q5
    · rename_i kx ek
      obtain ⟨c1, c2, q5⟩ := q5
      obtain ⟨w1, hw1, l1⟩ := h5.dk c1
      have : w1 = [] := List.length_eq_zero_iff.mp l1.length
      subst this
      obtain ⟨w2, hw2, l2⟩ := h5.dk c2
      have e05 := (e03.trans e4).trans e5
      have lw : w2.length ≤ 100000 := by
        have h6 := l2.length
        have h7 := lm.length
        have h8 := length_mergeK vs []
        have h9 := l.length
        rw [List.length_nil] at h8
        omega
      refine ⟨kx, w2, keyD_ok (r4.mono e5) ek, hw1, hw2, lw, npq, ?_⟩
      have l5 : KD X.K H5 [(kx, zv)] [(kx, z)] := ⟨rfl, r5, True.intro⟩
      obtain ⟨e6, h6⟩ := HR.dictAt h5 hw1 l5
      have hp6 : upd H5 q (.dK [(kx, zv)]) p = some (.dK w2) := by rw [upd_ne npq]; exact hw2
      obtain ⟨e7, h7⟩ := HR.dictAt h6 hp6 ((l2.mono e6).put (k := kx) (r5.mono e6))
      exact kk _ _ _ _ q5 ((e05.trans e6).trans e7) (.ref p) h7
    · exact q5.elim
  · exact q1.elim
end
end DL

set_option maxHeartbeats 4000000
namespace DL
open PySem PySem.Spec L2
/-! ### a dict that is walked stays as it is: it is read only meanwhile -/
section
variable {K : PySem.W.Frag} {H H' : Hp}
mutual
theorem Rp.monoT (e : ∀ a xs, SqT K H a xs → SqT K H' a xs) : ∀ {v : V} {d : D}, Rp K H v d → Rp K H' v d
  | _, _, .non => .non
  | _, _, .bl b => .bl b
  | _, _, .int b => .int b
  | _, _, .str b => .str b
  | _, _, .ref b => .ref b
  | _, _, .ty b => .ty b
  | _, _, .tup h l => .tup (e _ _ h) (RpL.monoT e l)
theorem RpL.monoT (e : ∀ a xs, SqT K H a xs → SqT K H' a xs) : ∀ {v : List V} {d : List D}, RpL K H v d → RpL K H' v d
  | _, _, .nil => .nil
  | _, _, .cons h l => .cons (Rp.monoT e h) (RpL.monoT e l)
end
theorem KD.monoT (e : ∀ a xs, SqT K H a xs → SqT K H' a xs) : ∀ {ps : List (Key × V)} {qs : List (Key × D)}, KD K H ps qs → KD K H' ps qs
  | [], [], h => h
  | p :: ps, q :: qs, h => ⟨h.1, h.2.1.monoT e, KD.monoT e h.2.2⟩
  | [], _ :: _, h => h.elim
  | _ :: _, [], h => h.elim
theorem FD.monoT (e : ∀ a xs, SqT K H a xs → SqT K H' a xs) : ∀ {ps : List (Str × V)} {qs : List (Str × D)}, FD K H ps qs → FD K H' ps qs
  | [], [], h => h
  | p :: ps, q :: qs, h => ⟨h.1, h.2.1.monoT e, FD.monoT e h.2.2⟩
  | [], _ :: _, h => h.elim
  | _ :: _, [], h => h.elim
theorem TExt.unlock {a : Addr} {o : Obj} {u : HO} (hu : H a = some u) (nf : NoTup (some u)) (e : TExt K (L2.upd H a (.frz o u)) H') : TExt K H (L2.upd H' a u) := by
  refine ⟨fun p xs h => ?_, fun p o' w h => ?_⟩
  · rcases h with (h | ⟨q, h⟩) | h
    · have n : p ≠ a := by rintro rfl; rw [hu] at h; cases h; exact nf
      have h1 : SqT K (L2.upd H a (.frz o u)) p xs := .inl (.inl (by rw [upd_ne n]; exact h))
      rcases e.tup _ _ h1 with (h2 | ⟨q2, h2⟩) | h2
      · exact .inl (.inl (by rw [upd_ne n]; exact h2))
      · exact .inl (.inr ⟨q2, by rw [upd_ne n]; exact h2⟩)
      · exact .inr h2
    · have n : p ≠ a := by rintro rfl; rw [hu] at h; cases h; exact nf
      have h1 : SqT K (L2.upd H a (.frz o u)) p xs := .inl (.inr ⟨q, by rw [upd_ne n]; exact h⟩)
      rcases e.tup _ _ h1 with (h2 | ⟨q2, h2⟩) | h2
      · exact .inl (.inl (by rw [upd_ne n]; exact h2))
      · exact .inl (.inr ⟨q2, by rw [upd_ne n]; exact h2⟩)
      · exact .inr h2
    · exact .inr h
  · have n : p ≠ a := by rintro rfl; rw [hu] at h; cases h; exact nf
    have h1 : L2.upd H a (.frz o u) p = some (.frz o' w) := by rw [upd_ne n]; exact h
    have h2 := e.frz _ _ _ h1
    rw [upd_ne n]; exact h2
end
section
variable {X : Cx} {W : DW}
def dLockN (a : Addr) (kvs : List (Key × D)) (Dn : DN) : DN where
  nx := fun τ M => M a = some (.rdk kvs) ∧ Dn.nx τ (put M a (.dk kvs))
  rt := fun d M => M a = some (.rdk kvs) ∧ Dn.rt d (put M a (.dk kvs))
  bk := fun τ M => M a = some (.rdk kvs) ∧ Dn.bk τ (put M a (.dk kvs))
  ct := fun τ M => M a = some (.rdk kvs) ∧ Dn.ct τ (put M a (.dk kvs))
  ex := Dn.ex
def dLock (t : DS) : DS := fun Dn τ M => ∃ a kvs, M a = some (.dk kvs) ∧ t (dLockN a kvs Dn) τ (put M a (.rdk kvs))
def dLockE (t : DE) : DE := fun τ M Q E => ∃ a kvs, M a = some (.dk kvs) ∧ t τ (put M a (.rdk kvs)) (fun d M1 => M1 a = some (.rdk kvs) ∧ Q d (put M1 a (.dk kvs))) E
/-- the lock itself -/
theorem HR.lock {K : PySem.W.Frag} {H : Hp} {M : Mp} {a : Addr} {o : Obj} {vs : List (Key × V)} {kvs : List (Key × D)} (hr : HR K H M) (hv : H a = some (.dK vs)) (l : KD K H vs kvs) : TExt K H (upd H a (.frz o (.dK vs))) ∧ HR K (upd H a (.frz o (.dK vs))) (DL.put M a (.rdk kvs)) := by
  have e : TExt K H (upd H a (.frz o (.dK vs))) := .upd (noTup_dK hv)
  exact ⟨e, hr.made (noTup_dK hv) ⟨o, vs, upd_same, l.mono e⟩⟩
theorem sqT_unlock {K : PySem.W.Frag} {H : Hp} {a : Addr} {o : Obj} {vs : List (Key × V)} (hf : H a = some (.frz o (.dK vs))) (p : Addr) (xs : List V) (h : SqT K H p xs) : SqT K (L2.upd H a (.dK vs)) p xs := by
  have n : p ≠ a ∨ ∃ ob its m, K.lookup p = some ob ∧ ob.cls = .type "tuple" ∧ ob.data = .seq its m ∧ its.size ≤ sizeLine ∧ Vals xs its.toList := by
    rcases h with (h | ⟨q, h⟩) | ⟨ob, its, m, r⟩
    · exact .inl (by rintro rfl; rw [hf] at h; cases h)
    · exact .inl (by rintro rfl; rw [hf] at h; cases h)
    · exact .inr ⟨ob, its, m, r⟩
  rcases n with n | r
  · rcases h with (h | ⟨q, h⟩) | h
    · exact .inl (.inl (by rw [upd_ne n]; exact h))
    · exact .inl (.inr ⟨q, by rw [upd_ne n]; exact h⟩)
    · exact .inr h
  · exact .inr r
/-- .. and its end -/
theorem HR.unlock {K : PySem.W.Frag} {H : Hp} {M : Mp} {a : Addr} {o : Obj} {vs : List (Key × V)} {kvs : List (Key × D)} (hr : HR K H M) (hf : H a = some (.frz o (.dK vs))) (hM : M a = some (.rdk kvs)) :
    HR K (upd H a (.dK vs)) (DL.put M a (.dk kvs)) := by
  obtain ⟨o1, vs1, h1, l⟩ : ∃ o vs, H a = some (.frz o (.dK vs)) ∧ KD K H vs kvs := hr a _ hM
  rw [hf] at h1
  cases h1
  have tt := sqT_unlock (K := K) hf
  intro b ob hb
  by_cases c : b = a
  · subst c
    rw [put_same] at hb
    cases hb
    exact ⟨vs, upd_same, KD.monoT tt l⟩
  · rw [put_ne c] at hb
    have h0 := hr b ob hb
    cases ob with
    | lst ds => obtain ⟨xs, q, r⟩ := h0; exact ⟨xs, (upd_ne c).trans q, RpL.monoT tt r⟩
    | rol ds => obtain ⟨o, xs, q, r⟩ := h0; exact ⟨o, xs, (upd_ne c).trans q, RpL.monoT tt r⟩
    | dk ds => obtain ⟨xs, q, r⟩ := h0; exact ⟨xs, (upd_ne c).trans q, KD.monoT tt r⟩
    | ins C ds => obtain ⟨dx, xs, q, r⟩ := h0; exact ⟨dx, xs, (upd_ne c).trans q, FD.monoT tt r⟩
    | xd ds => obtain ⟨xs, q, r⟩ := h0; exact ⟨xs, (upd_ne c).trans q, FD.monoT tt r⟩
    | rdk ds => obtain ⟨o, xs, q, r⟩ := h0; exact ⟨o, xs, (upd_ne c).trans q, KD.monoT tt r⟩
theorem RS.unlock {K : PySem.W.Frag} {H0 H' : Hp} {σ : L2.St} {τ : Sl} {a : Addr} {vs : List (Key × V)} (h : RS K H0 H' σ τ) (tt : ∀ p xs, SqT K H' p xs → SqT K (upd H' a (.dK vs)) p xs) (e : TExt K H0 (upd H' a (.dK vs))) : RS K H0 (upd H' a (.dK vs)) σ τ :=
  ⟨e, h.len, fun i d q => by
    obtain ⟨v, h1, r⟩ := h.at_ i d q
    exact ⟨v, h1, Rp.monoT tt r⟩⟩
theorem psd_lock {st : Stmt} {t : DS} (h : PSD X W st t) : PSD X W st (dLock t) := ⟨PSimp (ps_lock h.run) fun De σ H ⟨τ, M, Dd, hs, hr, ⟨a, kvs, ha, q⟩, we, nc⟩ => by
  obtain ⟨vs, hv, l⟩ := hr.dk ha
  refine ⟨a, .dK vs, hv, True.intro, fun od => ?_⟩
  obtain ⟨e1, h1⟩ := HR.lock (o := od) hr hv l
  have nf : NoTup (some (HO.dK vs)) := True.intro
  have at1 : ∀ {H' : Hp}, TExt X.K (upd H a (.frz od (.dK vs))) H' → H' a = some (.frz od (.dK vs)) := fun e => e.frz _ _ _ upd_same
  refine ⟨τ, _, dLockN a kvs Dd, hs.mono e1, h1, q, we, ?_, ?_, ?_, ?_⟩
  · intro τ' M' σ' H' q' e rs hr'
    exact ⟨at1 e, nc.nx τ' _ σ' _ q'.2 (TExt.unlock hv nf e) (rs.unlock (sqT_unlock (at1 e)) (hs.ext.trans (TExt.unlock hv nf e))) (hr'.unlock (at1 e) q'.1)⟩
  · intro d M' v H' q' e rv hr'
    exact ⟨at1 e, nc.rt d _ v _ q'.2 (TExt.unlock hv nf e) (rv.monoT (sqT_unlock (at1 e))) (hr'.unlock (at1 e) q'.1)⟩
  · intro τ' M' σ' H' q' e rs hr'
    exact ⟨at1 e, nc.bk τ' _ σ' _ q'.2 (TExt.unlock hv nf e) (rs.unlock (sqT_unlock (at1 e)) (hs.ext.trans (TExt.unlock hv nf e))) (hr'.unlock (at1 e) q'.1)⟩
  · intro τ' M' σ' H' q' e rs hr'
    exact ⟨at1 e, nc.ct τ' _ σ' _ q'.2 (TExt.unlock hv nf e) (rs.unlock (sqT_unlock (at1 e)) (hs.ext.trans (TExt.unlock hv nf e))) (hr'.unlock (at1 e) q'.1)⟩⟩
theorem pd_lock {e : Expr} {t : DE} (h : PD X W e t) : PD X W e (dLockE t) := ⟨PEimp (pe_lock h.run) fun σ H Q ⟨τ, M, Qd, Ed, hs, hr, ⟨a, kvs, ha, q⟩, we, k⟩ => by
  obtain ⟨vs, hv, l⟩ := hr.dk ha
  refine ⟨a, .dK vs, hv, True.intro, fun od => ?_⟩
  obtain ⟨e1, h1⟩ := HR.lock (o := od) hr hv l
  have nf : NoTup (some (HO.dK vs)) := True.intro
  have at1 : ∀ {H' : Hp}, TExt X.K (upd H a (.frz od (.dK vs))) H' → H' a = some (.frz od (.dK vs)) := fun e => e.frz _ _ _ upd_same
  refine ⟨τ, _, _, Ed, hs.mono e1, h1, q, we, fun d M' v H' q' e rv hr' => ?_⟩
  exact ⟨at1 e, k d _ v _ q'.2 (TExt.unlock hv nf e) (rv.monoT (sqT_unlock (at1 e))) (hr'.unlock (at1 e) q'.1)⟩⟩
def ofKey : Key → D
  | .inl i => .int i
  | .inr x => .str x
theorem ofKey_rp {K : PySem.W.Frag} {H : Hp} (k : Key) : Rp K H (kV k) (ofKey k) := by
  cases k with
  | inl i => exact .int i
  | inr x => exact .str x
/-- the keys of a dict that is locked -/
def dKeys (te : DE) : DI := fun τ M Q E => te τ M (fun d M1 => match d with
  | .ref a => match M1 a with
    | some (.rdk kvs) => kvs.length ≤ sizeLine ∧ Q (kvs.map fun q => ofKey q.1) (fun M => M a = some (.rdk kvs)) M1
    | _ => False
  | _ => False) E
theorem KD.keyAt {K : PySem.W.Frag} {H : Hp} : ∀ {vs : List (Key × V)} {ds : List (Key × D)} {i : Nat}, KD K H vs ds → (ds.map fun q => ofKey q.1)[i]? = (vs.map fun q => ofKey q.1)[i]?
  | [], [], _, _ => rfl
  | p :: _, q :: _, 0, h => by simp [h.1]
  | p :: _, q :: _, i + 1, h => by
    have := KD.keyAt (i := i) h.2.2
    simpa using this
  | [], _ :: _, _, h => h.elim
  | _ :: _, [], _, h => h.elim
theorem itOk_keys {K : PySem.W.Frag} {H : Hp} {a : Addr} {o : Obj} {vs : List (Key × V)} {kvs : List (Key × D)} (hf : H a = some (.frz o (.dK vs))) (l : KD K H vs kvs) (z : kvs.length ≤ sizeLine) : ItOk K H (Itk a o vs) (kvs.map fun q => ofKey q.1) fun M => M a = some (.rdk kvs) where
  small := by simpa using z
  go := fun i H1 M e _ _ hi => ⟨e.frz _ _ _ hf, by rw [l.length]; simpa using hi⟩
  stop := fun i H1 M e _ _ hi => ⟨e.frz _ _ _ hf, by rw [l.length]; simpa using hi⟩
  yld := fun i H1 M x H2 e _ _ y => by
    obtain ⟨rfl, k, v, ek, rfl⟩ := y
    refine ⟨.refl, fun _ h => h, fun d hd => ?_⟩
    rw [l.keyAt, List.getElem?_map, ek] at hd
    cases hd
    exact ofKey_rp k
theorem pid_keys {tg e : Expr} {te : DE} (he : PD X W e te) : PID X W tg e (dKeys te) := ⟨PIimp (pi_keys he.run) fun σ H R ⟨τ, M, Qd, Ed, hs, hr, q, we, k⟩ => ⟨τ, M, _, Ed, hs, hr, q, we, fun d M1 v H1 q1 e1 r1 h1 => by
  dsimp only at q1
  split at q1
  · rename_i a
    split at q1
    · rename_i kvs ea
      obtain ⟨o, vs, hf, l⟩ : ∃ o vs, H1 a = some (.frz o (.dK vs)) ∧ KD X.K H1 vs kvs := h1 a _ ea
      exact ⟨a, o, r1.toRef, .inl ⟨vs, hf, k _ _ _ M1 H1 q1.2 e1 h1 (itOk_keys hf l q1.1)⟩⟩
    · exact q1.elim
  · exact q1.elim⟩⟩
end
end DL

set_option maxHeartbeats 4000000
namespace DL
open PySem PySem.Spec L2
section
variable {X : Cx} {W : DW} {pos p : Pos}
/-! ### d.copy(), d.get(k, x), d[k] = v, len, list, sorted of a dict -/
def copyM : DM := fun d ds M Q => match dictOf d M, ds with
  | some kvs, [] => ∀ p, M p = none → Q (.ref p) (put M p (.dk kvs))
  | _, _ => False
theorem mt_copyM : MtR X "dict.copy" (liftM X.K copyM) := MtRimp DLdict.mt_copy fun x xs H Q ⟨d, ds, M, Qd, q, rx, rs, hr, k⟩ => by
  unfold copyM at q
  split at q
  · rename_i kvs ed
    obtain ⟨a, vs, rfl, rfl, _, hv, l⟩ := dictOf_ok rx hr ed
    exact ⟨a, vs, rfl, rs.nil_of, hv, fun p hp => k.dict hr l hp q⟩
  · exact q.elim
def dDGet2 (td ty tx : DE) : DE := fun τ M Q E => td τ M (fun x M1 => (dictRd x M1).isSome = true ∧ ty τ M1 (fun y M2 => tx τ M2 (fun z M3 => match dictRd x M3, keyD y with
  | some kvs, some k => Q ((valD kvs k).getD z) M3
  | _, _ => False) E) E) E
theorem isD_rd {K : PySem.W.Frag} {H : Hp} {M : Mp} {v : V} {d : D} (r : Rp K H v d) (hr : HR K H M) (h : (dictRd d M).isSome = true) : ∃ a, v = .ref a ∧ IsD H a := by
  obtain ⟨kvs, e⟩ := Option.isSome_iff_exists.mp h
  obtain ⟨a, vs, rfl, _, hv, _⟩ := dictRd_ok r hr e
  exact ⟨a, rfl, .inl ⟨vs, hv⟩⟩
theorem pd_dget2 {o e f : Expr} {td ty tx : DE} {apos cpos : Pos} (hu : X.A.units + 1 < cLine) (ho : PD X W o td) (he : PD X W e ty) (hf : PD X W f tx) (m : M2 X o "get" apos e f cpos) : PD X W (.Call (.Attribute o "get" apos) [e, f] [] cpos) (dDGet2 td ty tx) :=
  ⟨PEimp (pe_dget2 hu ho.run he.run hf.run m) fun σ H Q ⟨τ, M, Qd, Ed, hs, hr, q, we, kk⟩ => ⟨τ, M, _, Ed, hs, hr, q, we, fun x M1 xv H1 q1 e1 r1 h1 => by
    obtain ⟨a, rfl, hd⟩ := isD_rd r1 h1 q1.1
    refine ⟨a, rfl, hd, τ, M1, _, Ed, hs.mono e1, h1, q1.2, we, fun y M2 yv H2 q2 e2 r2 h2 => ⟨τ, M2, _, Ed, hs.mono (e1.trans e2), h2, q2, we, fun z M3 zv H3 q3 e3 r3 h3 => ?_⟩⟩
    dsimp only at q3
    split at q3
    · rename_i kvs k ed ek
      obtain ⟨a', vs, ea, _, hv, l⟩ := dictRd_ok (r1.mono (e2.trans e3)) h3 ed
      cases ea
      refine ⟨valV vs k, .inl ⟨vs, k, hv, keyD_ok (r2.mono e3) ek, rfl⟩, ?_⟩
      have e03 := (e1.trans e2).trans e3
      cases c : valD kvs k with
      | none =>
        rw [c] at q3
        have : valV vs k = none := by
          have := l.got (k := k)
          rw [c] at this
          simpa using this
        rw [this]
        exact kk _ M3 _ H3 q3 e03 r3 h3
      | some w =>
        rw [c] at q3
        obtain ⟨u, hu, ru⟩ := l.get _ c
        rw [hu]
        exact kk _ M3 _ H3 q3 e03 ru h3
    · exact q3.elim⟩⟩
/-- d[k] = v -/
def dGSubD (to ti : DE) : DGt := fun v τ M Q => to τ M (fun o M1 => ti τ M1 (fun i M2 => match o with
  | .ref a => match M2 a, keyD i with
    | some (.dk kvs), some k => kvs.length < sizeLine ∧ Q τ (put M2 a (.dk (putKD kvs k v)))
    | _, _ => False
  | _ => False) fun _ _ => False) fun _ _ => False
theorem pgd_subD {o i : Expr} {to ti : DE} (hu : X.A.units + 1 < cLine) (ho : PD X W o to) (hi : PD X W i ti)
    (ha : ∀ v, assign (.Subscript o i pos) X.env v = (do
      let ov ← holding [v] (eval o X.env)
      let iv ← holding [v, ov] (eval i X.env)
      standAt pos
      holding [v, ov, iv] (setItem ov iv v)
      release [v, ov, iv] []) := by intro _; rfl) : PGD X W.h0 (.Subscript o i pos) (dGSubD to ti) :=
  ⟨PGimp (pg_sub ho.run hi.run (set_dict hu) ha) fun v σ H Q ⟨d, τ, M, Qd, r, hs, hr, q, k⟩ => ⟨τ, M, _, _, hs, hr, q, fun _ _ z => z.elim, fun od M1 ov H1 q1 e1 r1 h1 =>
    ⟨τ, M1, _, _, hs.mono e1, h1, q1, fun _ _ z => z.elim, fun id M2 iv H2 q2 e2 r2 h2 => by
      dsimp only at q2
      split at q2
      · rename_i a
        split at q2
        · rename_i kvs kx ea ek
          obtain ⟨vs, hv, l⟩ := h2.dk ea
          have l2 := l.put (k := kx) (r.mono (e1.trans e2))
          obtain ⟨e3, h3⟩ := HR.dictAt h2 hv l2
          refine ⟨a, _, (r1.mono e2).toRef, .inl ⟨vs, kx, hv, keyD_ok r2 ek, by rw [l.length]; exact q2.1, rfl⟩, ?_⟩
          exact k τ _ σ _ q2.2 (e1.trans (e2.trans e3)) (hs.mono (e1.trans (e2.trans e3))) h3
        · exact q2.elim
      · exact q2.elim⟩⟩⟩
def lenDict : DG := fun ds M Q => match ds with
  | [d] => match dictOf d M with
    | some kvs => Q (.int ((kvs.length : Nat) : Int)) M
    | none => False
  | _ => False
theorem call_lenDict : CallR X (.builtin "len") (liftC X.K lenDict) := CallRimp call_lenD fun xs H Q ⟨ds, M, Qd, q, r, hr, k⟩ => by
  unfold lenDict at q
  split at q
  · obtain ⟨v, rfl, rv⟩ := r.one
    split at q
    · rename_i kvs ed
      obtain ⟨a, vs, rfl, rfl, _, hv, l⟩ := dictOf_ok rv hr ed
      refine ⟨a, vs, rfl, hv, ?_⟩
      rw [l.length]
      exact k _ M _ H q .refl (.int _) hr
    · exact q.elim
  · exact q.elim
theorem KD.keys {K : PySem.W.Frag} {H : Hp} : ∀ {vs : List (Key × V)} {ds : List (Key × D)}, KD K H vs ds → RpL K H (vs.map fun q => kV q.1) (ds.map fun q => ofKey q.1)
  | [], [], _ => .nil
  | p :: _, q :: _, h => .cons (by show Rp K H (kV p.1) (ofKey q.1); rw [h.1]; exact ofKey_rp _) (KD.keys h.2.2)
  | [], _ :: _, h => h.elim
  | _ :: _, [], h => h.elim
theorem KD.keysEq {K : PySem.W.Frag} {H : Hp} : ∀ {vs : List (Key × V)} {ds : List (Key × D)}, KD K H vs ds → vs.map (·.1) = ds.map (·.1)
  | [], [], _ => rfl
  | p :: _, q :: _, h => by rw [List.map_cons, List.map_cons, h.1, KD.keysEq h.2.2]
  | [], _ :: _, h => h.elim
  | _ :: _, [], h => h.elim
def lstDict : DG := fun ds M Q => match ds with
  | [d] => match dictRd d M with
    | some kvs => ∀ p, M p = none → Q (.ref p) (put M p (.lst (kvs.map fun q => ofKey q.1)))
    | none => False
  | _ => False
theorem call_lstDict (hc : X.calm = true) : CallR X (.type "list") (liftC X.K lstDict) := CallRimp (call_listD hc) fun xs H Q ⟨ds, M, Qd, q, r, hr, k⟩ => by
  unfold lstDict at q
  split at q
  · obtain ⟨v, rfl, rv⟩ := r.one
    split at q
    · rename_i kvs ed
      obtain ⟨a, vs, rfl, rfl, hv, l⟩ := dictRd_ok rv hr ed
      exact ⟨a, vs, rfl, hv, fun p hp => k.lst hr l.keys hp q⟩
    · exact q.elim
  · exact q.elim
/-- sorted(d), keys that are texts -/
def sortDictS : DG := fun ds M Q => match ds with
  | [d] => match dictRd d M with
    | some kvs => ∃ ks : List Str, kvs.map (·.1) = ks.map Sum.inr ∧ ks.length < 64 ∧ ∀ (ys : List Str) (p : Addr), ys.Perm ks → PyProof.Rows.sortedS ys = true → M p = none → Q (.ref p) (put M p (.lst (ys.map D.str)))
    | none => False
  | _ => False
theorem call_sortDictS (hc : X.calm = true) : CallR X (.builtin "sorted") (liftC X.K sortDictS) := CallRimp (call_sortedD hc) fun xs H Q ⟨ds, M, Qd, q, r, hr, k⟩ => by
  unfold sortDictS at q
  split at q
  · obtain ⟨v, rfl, rv⟩ := r.one
    split at q
    · rename_i kvs ed
      obtain ⟨a, vs, rfl, rfl, hv, l⟩ := dictRd_ok rv hr ed
      obtain ⟨ks, h1, h2, q⟩ := q
      exact ⟨a, vs, ks, rfl, hv, l.keysEq.trans h1, h2, fun ys p hy hs hp => k.lst hr (RpL.ofStrs (ns := ys)) hp fun p hp => q ys p hy hs hp⟩
    · exact q.elim
  · exact q.elim
/-- sorted(xs), a list of ints -/
def sortInts : DG := fun ds M Q => match ds with
  | [.ref a] => match (seqOf M a).bind intsOf with
    | some ns => ∀ (ns' : List Int) (p : Addr), ns'.Perm ns → ns'.Pairwise (· ≤ ·) → M p = none → Q (.ref p) (put M p (.lst (ns'.map D.int)))
    | none => False
  | _ => False
theorem call_sortInts : CallR X (.builtin "sorted") (liftC X.K sortInts) := CallRimp cr_sortedI fun xs H Q ⟨ds, M, Qd, q, r, hr, k⟩ => by
  unfold sortInts at q
  split at q
  · obtain ⟨v, rfl, rv⟩ := r.one
    split at q
    · rename_i ns e
      obtain ⟨zs, e1, e2⟩ := Option.bind_eq_some_iff.mp e
      obtain ⟨vs, s, l⟩ := seqOf_ok hr e1
      rw [intsOf_ok e2] at l
      rw [l.ints] at s
      exact ⟨_, ns, by rw [rv.toRef], s, fun ns' p hp hs hn => k.lst hr (RpL.ofInts (ns := ns')) hn fun p hp' => q ns' p hp hs hp'⟩
    · exact q.elim
  · exact q.elim
/-! ### texts -/
def strG : DG := fun ds M Q => match ds with
  | [.int i] => i.natAbs.log2 < 1920 ∧ Q (.str (toString i)) M
  | _ => False
theorem call_strG : CallR X (.type "str") (liftC X.K strG) := CallRimp call_str_int fun xs H Q ⟨ds, M, Qd, q, r, hr, k⟩ => by
  unfold strG at q
  split at q
  · obtain ⟨v, rfl, rv⟩ := r.one
    rw [rv.toInt]
    exact ⟨_, rfl, q.1, k _ M _ H q.2 .refl (.str _) hr⟩
  · exact q.elim
def strsOf : List D → Option (List Str)
  | [] => some []
  | .str i :: ds => (strsOf ds).map (i :: ·)
  | _ :: _ => none
theorem strsOf_map : ∀ ns : List Str, strsOf (ns.map D.str) = some ns
  | [] => rfl
  | n :: ns => by simp [strsOf, strsOf_map ns]
theorem strsOf_ok : ∀ {ds : List D} {ns : List Str}, strsOf ds = some ns → ds = ns.map D.str
  | [], ns, h => by cases h; rfl
  | d :: ds, ns, h => by
    cases d with
    | str b =>
      have h' : (strsOf ds).map (b :: ·) = some ns := h
      cases e : strsOf ds with
      | none => rw [e] at h'; cases h'
      | some cs => rw [e] at h'; cases h'; rw [strsOf_ok e]; rfl
    | _ => cases h
def joinM : DM := fun d ds M Q => match d, ds with
  | .str a, [y] => match (seqD y M).bind strsOf with
    | some ys => (ys.map (·.length)).sum + ys.length * a.length ≤ 16777216 ∧ Q (.str (Txt.join a ys)) M
    | none => False
  | _, _ => False
theorem mt_joinM : MtR X "str.join" (liftM X.K joinM) := MtRimp mt_join fun x xs H Q ⟨d, ds, M, Qd, q, rx, rs, hr, k⟩ => by
  unfold joinM at q
  split at q
  · rename_i a y
    obtain ⟨v, rfl, rv⟩ := rs.one
    split at q
    · rename_i ys e
      obtain ⟨zs, e1, e2⟩ := Option.bind_eq_some_iff.mp e
      obtain ⟨l, vs, rfl, s, r⟩ := seqD_ok rv hr e1
      rw [strsOf_ok e2] at r
      rw [r.strs] at s
      exact ⟨a, l, ys, rx.toStr, rfl, s, q.1, k _ M _ H q.2 .refl (.str _) hr⟩
    · exact q.elim
  · exact q.elim
/-- a sign in a text -/
def inSign (n : Bool) : DO := fun x y M Q => match x, y with
  | .str a, .str z => ∃ c : Nat, a = ⟨#[c]⟩ ∧ Q (.bl (n != decide (c ∈ z.cps.toList))) M
  | _, _ => False
theorem op_inSign : OpR X (compareOp .In) (liftO X.K (inSign false)) := OpRimp op_in_sign fun x y H Q ⟨dx, dy, M, Qd, q, a, b, c, k⟩ => by
  unfold inSign at q
  split at q
  · obtain ⟨ch, rfl, q⟩ := q
    exact ⟨ch, _, a.toStr, b.toStr, k _ M _ H (by simpa using q) .refl (.bl _) c⟩
  · exact q.elim
theorem op_notInSign : OpR X (compareOp .NotIn) (liftO X.K (inSign true)) := OpRimp op_notIn_sign fun x y H Q ⟨dx, dy, M, Qd, q, a, b, c, k⟩ => by
  unfold inSign at q
  split at q
  · obtain ⟨ch, rfl, q⟩ := q
    exact ⟨ch, _, a.toStr, b.toStr, k _ M _ H (by simpa using q) .refl (.bl _) c⟩
  · exact q.elim
/-! ### a dict of the module's own: is it there -/
/-- the dict at a of the module, with these keys -/
def inKD (K : PySem.W.Frag) (a : Addr) (n : Bool) : DO := fun x y M Q => match x, y with
  | .str z, .ref b => b = a ∧ ∃ r, PySem.W.nsIn K a z = some r ∧ Q (.bl (n != r.isSome)) M
  | _, _ => False
theorem op_inKD {a : Addr} {es : Array DictEntry} {m : Nat} (Dk : KDict X.K X.w a es m) : OpR X (compareOp .In) (liftO X.K (inKD X.K a false)) := OpRimp (op_in_kd Dk) fun x y H Q ⟨dx, dy, M, Qd, q, ra, rb, c, k⟩ => by
  unfold inKD at q
  split at q
  · obtain ⟨rfl, r, e, q⟩ := q
    exact ⟨_, r, ra.toStr, rb.toRef, e, k _ M _ H (by simpa using q) .refl (.bl _) c⟩
  · exact q.elim
end
end DL

set_option maxHeartbeats 4000000
namespace DL
open PySem PySem.Spec L2
theorem bt_sorted : bootBuiltins "sorted" = some (.builtin "sorted") := by decide +kernel
theorem bt_sum : bootBuiltins "sum" = some (.builtin "sum") := by decide +kernel
theorem u200 {k : Nat} {A : Around} (r : Room k A) : A.units + 200 < cLine := by have := r.un; omega
theorem u1 {k : Nat} {A : Around} (r : Room k A) : A.units + 1 < cLine := by have := r.un; omega
section
variable {X : Cx} {W : DW} {pos : Pos}
theorem ptd_din {o i : Expr} {ty td : DE} (hu : X.A.units + 1 < cLine) (hi : PD X W i ty) (ho : PD X W o td) (hm : behindInMarks .In o = false := by with_unfolding_all rfl) : PTD X W (.Compare i [.In] [o] pos) (dB (dDIn false ty td)) :=
  ⟨PTimp (pt_cmp (pc_din hu hi.run ho.run) hm) fun σ H Q h => by
    have := dDIn_read (Q := fun x H1 => ∃ k, x = .bl k ∧ Q k H1) (dB_lift h)
    simpa [tB, tDIn] using this⟩
theorem ptd_dnotin {o i : Expr} {ty td : DE} (hu : X.A.units + 1 < cLine) (hi : PD X W i ty) (ho : PD X W o td) (hm : behindInMarks .NotIn o = false := by with_unfolding_all rfl) : PTD X W (.Compare i [.NotIn] [o] pos) (dB (dDIn true ty td)) :=
  ⟨PTimp (pt_cmp (pc_dnotin hu hi.run ho.run) hm) fun σ H Q h => by
    have := dDIn_read (Q := fun x H1 => ∃ k, x = .bl k ∧ Q k H1) (dB_lift h)
    simpa [tB, tDNotIn] using this⟩
/-! ### {k: v, ..} -/
def dPairs : List (DE × DE) → Sl → Mp → (List (D × D) → Mp → Prop) → EK → Prop
  | [], _, M, Q, _ => Q [] M
  | (tk, tv) :: r, τ, M, Q, E => tk τ M (fun x M1 => tv τ M1 (fun y M2 => dPairs r τ M2 (fun ps M3 => Q ((x, y) :: ps) M3) E) E) E
def RpP (K : PySem.W.Frag) (H : Hp) : List (V × V) → List (D × D) → Prop
  | [], [] => True
  | p :: ps, q :: qs => Rp K H p.1 q.1 ∧ Rp K H p.2 q.2 ∧ RpP K H ps qs
  | _, _ => False
theorem dPairs_lift {τ : Sl} {σ : L2.St} {Ed : EK} (we : ∀ x M', Ed x M' → W.w x τ M') : ∀ (trs : List (DE × DE)) {H : Hp} {M : Mp} {Qd : List (D × D) → Mp → Prop} {Q : List (V × V) → Hp → Prop}, RS X.K W.h0 H σ τ → HR X.K H M → dPairs trs τ M Qd Ed →
    (∀ ds M' vs H', Qd ds M' → TExt X.K H H' → RpP X.K H' vs ds → HR X.K H' M' → Q vs H') → tPairs (trs.map fun p => (liftE X.K W p.1, liftE X.K W p.2)) σ H Q
  | [], H, M, Qd, Q, hs, hr, q, k => k [] M [] H q .refl True.intro hr
  | (tk, tv) :: r, H, M, Qd, Q, hs, hr, q, k => ⟨τ, M, _, Ed, hs, hr, q, we, fun x M1 xv H1 q1 e1 r1 h1 => ⟨τ, M1, _, Ed, hs.mono e1, h1, q1, we, fun y M2 yv H2 q2 e2 r2 h2 =>
      dPairs_lift we r (hs.mono (e1.trans e2)) h2 q2 fun ds M3 vs H3 q3 e3 r3 h3 => k _ M3 _ H3 q3 ((e1.trans e2).trans e3) ⟨r1.mono (e2.trans e3), r2.mono e3, r3⟩ h3⟩⟩
def keysD : List (D × D) → Option (List (Key × D))
  | [] => some []
  | (x, y) :: r => match keyD x, keysD r with
    | some k, some l => some ((k, y) :: l)
    | _, _ => none
theorem keysD_ok {K : PySem.W.Frag} {H : Hp} : ∀ {vs : List (V × V)} {ds : List (D × D)} {l : List (Key × D)}, RpP K H vs ds → keysD ds = some l → ∃ ws : List (Key × V), vs = ws.map (fun q => (kV q.1, q.2)) ∧ KD K H ws l
  | [], [], l, _, h => by cases h; exact ⟨[], rfl, True.intro⟩
  | p :: ps, (x, y) :: qs, l, r, h => by
    unfold keysD at h
    split at h
    · rename_i k l' ek el
      cases h
      obtain ⟨ws, e, kd⟩ := keysD_ok r.2.2 el
      refine ⟨(k, p.2) :: ws, ?_, rfl, r.2.1, kd⟩
      rw [List.map_cons, ← e, ← keyD_ok r.1 ek]
    · cases h
  | [], _ :: _, _, r, _ => r.elim
  | _ :: _, [], _, r, _ => r.elim
def dDisp (trs : List (DE × DE)) : DE := fun τ M Q E => ∀ p, M p = none → dPairs trs τ (put M p (.dk [])) (fun ps M2 => M2 p = some (.dk []) ∧ match keysD ps with
  | some l => l.length ≤ 15 ∧ Q (.ref p) (put M2 p (.dk (mergeKD [] l)))
  | none => False) E
structure PPD (X : Cx) (W : DW) (pos : Pos) (keys : List (Option Expr)) (values : List Expr) (trs : List (DE × DE)) : Prop where
  run : PPs X pos keys values (trs.map fun p => (liftE X.K W p.1, liftE X.K W p.2))
theorem ppd_nil : PPD X W pos [] [] [] := ⟨pps_nil⟩
theorem ppd_cons {k v : Expr} {ks : List (Option Expr)} {vs : List Expr} {tk tv : DE} {trs : List (DE × DE)} (hk : PD X W k tk) (hv : PD X W v tv) (hr : PPD X W pos ks vs trs) : PPD X W pos (some k :: ks) (v :: vs) ((tk, tv) :: trs) := ⟨pps_cons hk.run hv.run hr.run⟩
theorem pd_disp {keys : List (Option Expr)} {values : List Expr} {trs : List (DE × DE)} (h : PPD X W pos keys values trs) (hall : keys.all (·.isSome) = true := by rfl) (hl : keys.length = values.length := by rfl) (h0 : keys ≠ [] := by simp) (h15 : keys.length ≤ 15 := by decide) :
    PD X W (.Dict keys values pos) (dDisp trs) := ⟨PEimp (pe_disp h.run hall hl h0 h15) fun σ H Q ⟨τ, M, Qd, Ed, hs, hr, q, we, kk⟩ p hp => by
  have e0 : TExt X.K H (upd H p (.dK [])) := .new hp
  have h0 : HR X.K (upd H p (.dK [])) (put M p (.dk [])) := hr.made (noTup_none hp) ⟨[], upd_same, True.intro⟩
  refine dPairs_lift we trs (hs.mono e0) h0 (q p (hr.free hp)) fun ds M2 vs H2 q2 e2 r2 h2 => ?_
  obtain ⟨c1, q2⟩ := q2
  split at q2
  · rename_i l el
    obtain ⟨w0, hw0, l0⟩ := h2.dk c1
    have : w0 = [] := List.length_eq_zero_iff.mp l0.length
    subst this
    obtain ⟨ws, ev, kd⟩ := keysD_ok r2 el
    refine ⟨hw0, ws, ev, by rw [kd.length]; exact q2.1, ?_⟩
    have lm : KD X.K H2 (mergeK [] ws) (mergeKD [] l) := KD.merge kd True.intro
    obtain ⟨e3, h3⟩ := HR.dictAt h2 hw0 lm
    exact kk _ _ _ _ q2.2 ((e0.trans e2).trans e3) (.ref p) h3
  · exact q2.elim⟩
end
end DL

set_option maxHeartbeats 4000000
namespace DL
open PySem PySem.Spec L2
/-! ### what stands in a dict -/
theorem valD_cons {q : Key × D} {l : List (Key × D)} {k : Key} : valD (q :: l) k = if q.1 = k then some q.2 else valD l k := by
  by_cases c : q.1 = k <;> simp [valD, List.find?_cons, c]
theorem valD_nil {k : Key} : valD [] k = none := rfl
theorem valD_snoc {k j : Key} {d : D} : ∀ {l : List (Key × D)}, (l.any fun q => decide (q.1 = k)) = false → valD (l ++ [(k, d)]) j = if k = j then some d else valD l j
  | [], _ => by rw [List.nil_append, valD_cons]
  | q :: l, h => by
    rw [List.any_cons, Bool.or_eq_false_iff] at h
    have hq : ¬ q.1 = k := of_decide_eq_false h.1
    rw [List.cons_append, valD_cons, valD_cons, valD_snoc h.2]
    by_cases c : q.1 = j
    · rw [if_pos c, if_pos c]
      split
      · rename_i e; exact absurd (c.trans e.symm) hq
      · rfl
    · rw [if_neg c, if_neg c]
theorem over_no {k : Key} {d : D} : ∀ {l : List (Key × D)}, (l.any fun q => decide (q.1 = k)) = false → (l.map fun q => if q.1 = k then (q.1, d) else q) = l
  | [], _ => rfl
  | q :: l, h => by
    rw [List.any_cons, Bool.or_eq_false_iff] at h
    rw [List.map_cons, if_neg (of_decide_eq_false h.1), over_no h.2]
theorem valD_over {k j : Key} {d : D} : ∀ {l : List (Key × D)}, (l.any fun q => decide (q.1 = k)) = true → valD (l.map fun q => if q.1 = k then (q.1, d) else q) j = if k = j then some d else valD l j
  | [], h => by cases h
  | q :: l, h => by
    rw [List.map_cons, valD_cons, valD_cons]
    by_cases c : q.1 = k
    · rw [if_pos c]
      by_cases e : q.1 = j
      · rw [if_pos e, if_pos (c.symm.trans e)]
      · rw [if_neg e, if_neg e, if_neg (fun z => e (c.trans z))]
        by_cases a : (l.any fun q => decide (q.1 = k)) = true
        · rw [valD_over a, if_neg (fun z => e (c.trans z))]
        · rw [over_no (Bool.eq_false_iff.mpr a)]
    · rw [if_neg c]
      have a : (l.any fun q => decide (q.1 = k)) = true := by
        rw [List.any_cons, Bool.or_eq_true] at h
        exact h.resolve_left (by simpa using c)
      rw [valD_over a]
      by_cases e : q.1 = j
      · rw [if_pos e]
        split
        · rename_i z; exact absurd (e.trans z.symm) c
        · rfl
      · rw [if_neg e, if_neg e]
theorem valD_put {l : List (Key × D)} {k j : Key} {d : D} : valD (putKD l k d) j = if k = j then some d else valD l j := by
  unfold putKD
  split
  · rename_i h; exact valD_over h
  · rename_i h; exact valD_snoc (Bool.eq_false_iff.mpr h)
def keysOk (l : List (Key × D)) : Prop := (l.map (·.1)).Nodup
theorem keysOk_nil : keysOk [] := List.nodup_nil
theorem keysOk_put {l : List (Key × D)} {k : Key} {d : D} (h : keysOk l) : keysOk (putKD l k d) := by
  unfold keysOk putKD at *
  split
  · have : (l.map fun q => if q.1 = k then (q.1, d) else q).map (·.1) = l.map (·.1) := by
      rw [List.map_map]
      refine List.map_congr_left fun q _ => ?_
      show (if q.1 = k then (q.1, d) else q).1 = q.1
      split <;> rfl
    rw [this]; exact h
  · rename_i c
    rw [List.map_append, List.nodup_append]
    refine ⟨h, by simp, fun x hx y hy e => ?_⟩
    simp at hy
    subst hy
    obtain ⟨q, hq, rfl⟩ := List.mem_map.mp hx
    exact c (List.any_eq_true.mpr ⟨q, hq, by simpa using e⟩)
theorem mergeKD_app : ∀ {more acc : List (Key × D)}, keysOk (acc ++ more) → mergeKD acc more = acc ++ more
  | [], acc, _ => by simp [mergeKD]
  | q :: more, acc, h => by
    have hno : (acc.any fun p => decide (p.1 = q.1)) = false := by
      rw [Bool.eq_false_iff]
      intro z
      obtain ⟨p, hp, e⟩ := List.any_eq_true.mp z
      unfold keysOk at h
      rw [List.map_append, List.nodup_append] at h
      exact h.2.2 p.1 (List.mem_map.mpr ⟨p, hp, rfl⟩) q.1 (by simp) (of_decide_eq_true e)
    have e1 : mergeKD acc (q :: more) = mergeKD (putKD acc q.1 q.2) more := rfl
    have e2 : putKD acc q.1 q.2 = acc ++ [q] := by unfold putKD; rw [hno]; simp
    rw [e1, e2, mergeKD_app (by simpa [keysOk] using h)]
    simp
theorem mergeKD_nil {l : List (Key × D)} (h : keysOk l) : mergeKD [] l = l := by
  rw [mergeKD_app (by simpa using h)]
  rfl
theorem putKD_length {l : List (Key × D)} {k : Key} {d : D} : (putKD l k d).length ≤ l.length + 1 := by
  unfold putKD
  split <;> simp
end DL

set_option maxHeartbeats 4000000
namespace DL
open PySem PySem.Spec L2
/-! ### the draws' state, as every law has it -/
/-- everything but S stays -/
def Ext (S : Addr → Prop) (M M' : Mp) : Prop := ∀ a o, ¬ S a → M a = some o → M' a = some o
abbrev Is (s : Addr) : Addr → Prop := fun a => a = s
/-- the draws' state at s, the script's ints at l -/
def PSt (M : Mp) (s l : Addr) (ns : List Int) : Prop := s ≠ l ∧ M l = some (.lst (ns.map D.int)) ∧ ∃ seed pos rest : Int, M s = some (.lst [.int seed, .ref l, .int pos, .int rest]) ∧ 0 ≤ seed ∧ seed < 2147483647 ∧ 0 ≤ pos ∧ pos ≤ ns.length ∧ 0 ≤ rest
def spPick : DSp := fun ds M Q _ => ∃ (s l : Addr) (ns : List Int) (limit : Int), ds = [.ref s, .int limit] ∧ PSt M s l ns ∧ 0 < limit ∧ limit.natAbs.log2 < 9000 ∧
  ∀ (r : Int) (o : MO), 0 ≤ r → r < limit → PSt (put M s o) s l ns → Q (.int r) (put M s o)
def spStart1 : DSp := fun ds M Q _ => ∃ (a : Addr) (ns : List Int), ds = [.ref a] ∧ M a = some (.rol (ns.map D.int)) ∧ ns.length ≤ 100000 ∧ ∀ s l M', PSt M' s l ns → Sub M M' → Q (.ref s) M'
def spStart2 (K : PySem.W.Frag) : DSp := fun ds M Q _ => ∃ (a : Addr) (ns : List Int), ds = [.ref a] ∧ KL K a ns ∧ ns.length ≤ 100000 ∧ ∀ s l M', PSt M' s l ns → Sub M M' → Q (.ref s) M'
def spStart (K : PySem.W.Frag) : DSp := fun ds M Q _ => ∃ (a : Addr) (ns : List Int), ds = [.ref a] ∧ (M a = some (.rol (ns.map D.int)) ∨ KL K a ns) ∧ ns.length ≤ 100000 ∧ ∀ s l M', PSt M' s l ns → Sub M M' → Q (.ref s) M'
def okS : Nat → D → Prop
  | n, .tup xs => ∃ m, n = m + 1 ∧ xs.length ≤ 100000 ∧ ∀ x, x ∈ xs → okS m x
  | _, .ref _ => False
  | _, .ty _ => False
  | _, d => ok d = true
def spSame : Nat → DSp
  | 0 => fun _ _ _ _ => False
  | n + 1 => fun ds M Q _ => ∃ d, ds = [d, d] ∧ okS n d ∧ Q (.bl true) M
/-- .. and whatever flags -/
def spSameB : Nat → DSp
  | 0 => fun _ _ _ _ => False
  | n + 1 => fun ds M Q _ => ∃ d, ds = [d, d] ∧ okS n d ∧ Q (.bl true) M
section
variable {S S' : Addr → Prop} {M0 M M' M1 M2 : Mp} {s l p q : Addr} {ns : List Int} {Q : DK} {E : EK} {o u : MO}
theorem seq_split {t u : DS} {Dn : DN} {τ : Sl} {M : Mp} (R : Sl → Mp → Prop) (h2 : ∀ τ M, R τ M → u Dn τ M) (h1 : ∀ nx : Sl → Mp → Prop, (∀ τ M, R τ M → nx τ M) → t { Dn with nx := nx } τ M) : dSeq t u Dn τ M := h1 _ h2
theorem Ext.refl : Ext S M M := fun _ _ _ h => h
theorem Ext.trans (a : Ext S M M1) (b : Ext S M1 M2) : Ext S M M2 := fun p o n h => b p o n (a p o n h)
theorem Ext.wide (a : Ext S M M1) (h : ∀ x, S x → S' x) : Ext S' M M1 := fun p o n => a p o fun z => n (h p z)
theorem Ext.one (a : Ext (Is s) M M1) (h : S s) : Ext S M M1 := a.wide fun x e => by rw [e]; exact h
theorem Ext.lay (hp : M p = none) : Ext S M (DL.put M p o) := fun a u n h => by
  rw [put_ne]
  · exact h
  · rintro rfl; rw [h] at hp; cases hp
theorem Ext.set (hp : S p) : Ext S M (DL.put M p o) := fun a u n h => by
  rw [put_ne]
  · exact h
  · rintro rfl; exact n hp
theorem Ext.sub (h : Sub M M') : Ext S M M' := fun a o _ e => h a o e
theorem PSt.mk {seed pos rest : Int} (n : s ≠ l) (h : M l = some (.lst (ns.map D.int))) (h1 : 0 ≤ seed) (h2 : seed < 2147483647) (h3 : 0 ≤ pos) (h4 : pos ≤ ns.length) (h5 : 0 ≤ rest) : PSt (DL.put M s (.lst [.int seed, .ref l, .int pos, .int rest])) s l ns :=
  ⟨n, (put_ne (Ne.symm n)).trans h, seed, pos, rest, put_same, h1, h2, h3, h4, h5⟩
theorem PSt.s_some (h : PSt M s l ns) (hp : M p = none) : p ≠ s ∧ p ≠ l := by
  obtain ⟨_, hl, _, _, _, hs, _⟩ := h
  refine ⟨fun e => ?_, fun e => ?_⟩
  · subst e; rw [hs] at hp; cases hp
  · subst e; rw [hl] at hp; cases hp
theorem PSt.put (h : PSt M s l ns) (n1 : p ≠ s) (n2 : p ≠ l) : PSt (DL.put M p o) s l ns := by
  obtain ⟨n, hl, a, b, c, hs, r⟩ := h
  exact ⟨n, (put_ne (Ne.symm n2)).trans hl, a, b, c, (put_ne (Ne.symm n1)).trans hs, r⟩
theorem PSt.new (h : PSt M s l ns) (hp : M p = none) : PSt (DL.put M p o) s l ns := h.put (h.s_some hp).1 (h.s_some hp).2
/-- from M0 on the draws' state was kept, everything but S stayed -/
structure LS (S : Addr → Prop) (M0 M : Mp) (s l : Addr) (ns : List Int) : Prop where
  P : PSt M s l ns
  X : Ext S M0 M
  S : S s
theorem LS.zero (P : PSt M s l ns) (h : S s) : LS S M M s l ns := ⟨P, .refl, h⟩
theorem LS.new (J : LS S M0 M s l ns) (hp : M p = none) : LS S M0 (DL.put M p o) s l ns := ⟨J.P.new hp, J.X.trans (.lay hp), J.S⟩
theorem LS.at_ (J : LS S M0 M s l ns) (h : M0 p = some o) (n : ¬ S p) : M p = some o := J.X _ _ n h
/-- a thing of one's own -/
structure Own (S : Addr → Prop) (M0 M : Mp) (s l p : Addr) (o : MO) : Prop where
  a : M p = some o
  z : M0 p = none ∨ S p
  ns : p ≠ s
  nl : p ≠ l
theorem LS.zeroA (J : LS S M0 M s l ns) (hp : M p = none) : M0 p = none ∨ S p := by
  by_cases h : S p
  · exact .inr h
  · refine .inl ?_
    cases e : M0 p with
    | none => rfl
    | some o => rw [J.X p o h e] at hp; cases hp
theorem Own.new (J : LS S M0 M s l ns) (hp : M p = none) : Own S M0 (DL.put M p o) s l p o := ⟨put_same, J.zeroA hp, (J.P.s_some hp).1, (J.P.s_some hp).2⟩
theorem LS.set (J : LS S M0 M s l ns) (h : Own S M0 M s l p u) : LS S M0 (DL.put M p o) s l ns := ⟨J.P.put h.ns h.nl, fun a v n e => by
  have := J.X a v n e
  rw [put_ne]
  · exact this
  · rintro rfl
    rcases h.z with z | z
    · rw [z] at e; cases e
    · exact n z, J.S⟩
theorem Own.set (h : Own S M0 M s l p u) : Own S M0 (DL.put M p o) s l p o := ⟨put_same, h.z, h.ns, h.nl⟩
theorem Own.ext (h : Own S M0 M s l p o) (e : Ext (Is s) M M') : Own S M0 M' s l p o := ⟨e _ _ h.ns h.a, h.z, h.ns, h.nl⟩
theorem Own.extS (h : Own S M0 M s l p o) {S2 : Addr → Prop} (n : ¬ S2 p) (e : Ext S2 M M') : Own S M0 M' s l p o := ⟨e _ _ n h.a, h.z, h.ns, h.nl⟩
theorem Own.put (h : Own S M0 M s l p o) (n : q ≠ p) : Own S M0 (DL.put M q u) s l p o := ⟨(put_ne (Ne.symm n)).trans h.a, h.z, h.ns, h.nl⟩
theorem Own.ne (h : Own S M0 M s l p o) (hq : M q = none) : q ≠ p := by rintro rfl; rw [h.a] at hq; cases hq
theorem Own.lay (h : Own S M0 M s l p o) (hq : M q = none) : Own S M0 (DL.put M q u) s l p o := h.put (h.ne hq)
theorem LS.pick (J : LS S M0 M s l ns) {limit : Int} (h0 : 0 < limit) (hl : limit.natAbs.log2 < 9000) (k : ∀ (r : Int) (M' : Mp), 0 ≤ r → r < limit → LS S M0 M' s l ns → Ext (Is s) M M' → Q (.int r) M') : spPick [.ref s, .int limit] M Q E :=
  ⟨s, l, ns, limit, rfl, J.P, h0, hl, fun r o h1 h2 h3 => by
    have e : Ext (Is s) M (DL.put M s o) := .set rfl
    exact k r _ h1 h2 ⟨h3, J.X.trans (e.one J.S), J.S⟩ e⟩
theorem log_small {i : Int} (h : i.natAbs < 2 ^ 40) : i.natAbs.log2 < 9000 := by
  by_cases e : i.natAbs = 0
  · rw [e]; decide
  · have := (Nat.log2_lt e).mpr h
    omega
theorem atI_in {xs : List D} {i : Int} (h0 : 0 ≤ i) (h1 : i < xs.length) : ∃ d, atI xs i = some d ∧ d ∈ xs ∧ xs[i.toNat]? = some d := by
  have h2 : i.toNat < xs.length := by omega
  refine ⟨xs[i.toNat], ?_, List.getElem_mem h2, by simp [h2]⟩
  unfold atI
  rw [ixN_in h0 h1]
  simp [h2]
/-- one out of a list -/
theorem LS.pickAt (J : LS S M0 M s l ns) {a : Addr} {vs : List D} (ha : M a = some (.lst vs)) (hn : a ≠ s) {n : Int} (e : n = vs.length) (h0 : 0 < vs.length) (h1 : vs.length < 1000000)
    (k : ∀ (v : D) (M' : Mp), v ∈ vs → LS S M0 M' s l ns → Ext (Is s) M M' → Q v M') : spPick [.ref s, .int n] M (fun y M2 => ixG (.ref a) y M2 Q) E := by
  subst e
  refine J.pick (by omega) (log_small (by omega)) fun r M' r0 r1 J' e => ?_
  have ha' := e _ _ hn ha
  obtain ⟨d, e1, e2, _⟩ := atI_in r0 r1
  have : ixG (.ref a) (.int r) M' Q = Q d M' := by
    unfold ixG
    simp only [seqOf, ha', Option.bind_some, e1]
  rw [this]
  exact k d M' e2 J' e
/-- one out of a written list -/
theorem LS.choose (J : LS S M0 M s l ns) {vs : List D} {n : Int} (hn : n = vs.length) (h0 : 0 < vs.length) (h1 : vs.length < 1000000) (k : ∀ (v : D) (M' : Mp), v ∈ vs → LS S M0 M' s l ns → Ext (Is s) M M' → Q v M') :
    ∀ p, M p = none → spPick [.ref s, .int n] (DL.put M p (.lst vs)) (fun y M2 => ixG (.ref p) y M2 Q) E := fun p hp =>
  (J.new hp).pickAt put_same (J.P.s_some hp).1 hn h0 h1 fun v M' hv J' e => k v M' hv J' (Ext.trans (.lay hp) e)
/-- one sign of a text -/
theorem LS.pickS (J : LS S M0 M s l ns) {z : Str} {n : Int} (h0 : 0 < n) (h1 : n ≤ z.length) (h2 : z.length < 1000000)
    (k : ∀ (c : Nat) (M' : Mp), c ∈ z.cps.toList → LS S M0 M' s l ns → Ext (Is s) M M' → Q (.str ⟨#[c]⟩) M') : spPick [.ref s, .int n] M (fun y M2 => ixG (.str z) y M2 Q) E := by
  refine J.pick (by omega) (log_small (by omega)) fun r M' r0 r1 J' e => ?_
  have hz : z.length = z.cps.toList.length := by simp [Str.length]
  have r2 : r.toNat < z.cps.toList.length := by omega
  have e1 : atI z.cps.toList r = some (z.cps.toList[r.toNat]) := by
    unfold atI
    rw [ixN_in r0 (by omega)]
    exact List.getElem?_eq_getElem r2
  have : ixG (.str z) (.int r) M' Q = (z.length ≤ sizeLine ∧ Q (.str ⟨#[z.cps.toList[r.toNat]]⟩) M') := by
    unfold ixG
    simp only [e1]
  rw [this]
  exact ⟨by rw [sizeLine_eq]; omega, k _ M' (List.getElem_mem r2) J' e⟩
end
end DL

set_option maxHeartbeats 4000000
namespace DL
open PySem PySem.Spec L2
/-- texts that are written -/
theorem ofS_inj {a b : String} : Str.ofString a = Str.ofString b ↔ a = b := by
  constructor
  · intro h
    rw [Str.ofString_eq_toList, Str.ofString_eq_toList] at h
    have h1 : (a.toList.map Char.toNat).toArray = (b.toList.map Char.toNat).toArray := congrArg Str.cps h
    have h2 : a.toList.map Char.toNat = b.toList.map Char.toNat := by simpa using h1
    have h3 : a.toList = b.toList := (List.map_inj_right (fun x y e => Char.ext (UInt32.toNat_inj.mp e))).mp h2
    exact String.toList_inj.mp h3
  · rintro rfl; rfl
/-! ### texts and tuples in readings -/
section
variable {M : Mp} {Q : DK} {a b : Str} {d e f : D} {ds : List D} {n : Bool} {p : Addr}
theorem eqD_str : eqD (.str a) (.str b) M Q = Q (.bl (decide (a = b))) M := by unfold eqD eqG; simp
theorem neD_str : neD (.str a) (.str b) M Q = Q (.bl (!decide (a = b))) M := by unfold neD eqG; simp
theorem ixG_nat {xs : List D} {k : Nat} (h : xs[k]? = some d) : ixG (.tup xs) (.int ((k : Nat) : Int)) M Q = Q d M := by
  unfold ixG
  simp only [atI_nat h]
theorem ixG_t0 : ixG (.tup (d :: ds)) (.int 0) M Q = Q d M := ixG_nat (k := 0) rfl
theorem ixG_t1 : ixG (.tup (d :: e :: ds)) (.int 1) M Q = Q e M := ixG_nat (k := 1) rfl
theorem ixG_t2 : ixG (.tup (d :: e :: f :: ds)) (.int 2) M Q = Q f M := ixG_nat (k := 2) rfl
theorem ixG_last : ixG (.tup (ds ++ [d])) (.int (-1)) M Q = Q d M := by
  have : atI (ds ++ [d]) (-1) = some d := by
    unfold atI ixN
    have e0 : (ds ++ [d]).length = ds.length + 1 := by simp
    rw [e0, if_neg (by omega), if_pos (by omega)]
    have e : (((ds.length + 1 : Nat) : Int) + (-1)).toNat = ds.length := by omega
    have e' : ((-1 : Int) + ((ds.length + 1 : Nat) : Int)).toNat = ds.length := by omega
    first
      | (rw [e]; simp)
      | (rw [e']; simp)
  simp [ixG, this]
theorem any_strs {hs : List Str} {x : Str} : ((hs.map D.str).any fun d => eqb d (.str x)) = decide (x ∈ hs) := by
  induction hs with
  | nil => simp
  | cons h hs ih =>
    simp only [List.map_cons, List.any_cons, ih, eqb, List.mem_cons]
    by_cases c : x = h
    · subst c; simp
    · have : (h == x) = false := by
        rw [Bool.eq_false_iff]
        intro z
        exact c (eq_of_beq z).symm
      simp [this, c]
theorem flat_strs {hs : List Str} : (hs.map D.str).all flatD = true := by
  induction hs with
  | nil => rfl
  | cons h hs ih => simp [flatD]
theorem inG_strs {hs : List Str} {x : Str} {a : Addr} (h : M a = some (.lst (hs.map D.str))) : inG n (.str x) (.ref a) M Q = Q (.bl (n != decide (x ∈ hs))) M := by
  unfold inG
  simp only [seqD, seqOf, h, flat_strs, any_strs, flatD, true_and]
theorem inG_lit {hs : List Str} {x : Str} (hd : ds = hs.map D.str) : inG n (.str x) (.ref p) (put M p (.lst ds)) Q = Q (.bl (n != decide (x ∈ hs))) (put M p (.lst ds)) := inG_strs (by rw [put_same, hd])
theorem isiG_str {K : PySem.W.Frag} : isiG K [.str a, .ty "str"] M Q = Q (.bl true) M := by simp [isiG, tyName, isB]
theorem lenG_tup : lenG [.tup ds] M Q = Q (.int (ds.length : Nat)) M := by simp [lenG, lenD]
theorem lenG_at {a : Addr} {xs : List D} (h : M a = some (.lst xs)) : lenG [.ref a] M Q = Q (.int (xs.length : Nat)) M := by simp [lenG, lenD, h]
theorem cut_from {xs : List D} {i : Nat} (h : i ≤ xs.length) : cutD xs (some (i : Int)) none = xs.drop i := by
  unfold cutD HT.sIx
  dsimp only
  rw [if_neg (by omega), Int.toNat_natCast, Nat.min_eq_left h, List.take_of_length_le (by rw [List.length_drop]; omega)]
theorem cut_to {xs : List D} {i : Nat} : cutD xs none (some (i : Int)) = xs.take i := by
  unfold cutD HT.sIx
  dsimp only
  rw [if_neg (by omega), Int.toNat_natCast]
  simp only [Nat.sub_zero, List.drop_zero]
  rw [List.take_eq_take_iff]
  omega
theorem cut_in {xs : List D} {i j : Nat} (h : i ≤ xs.length) : cutD xs (some (i : Int)) (some (j : Int)) = (xs.take j).drop i := by
  unfold cutD HT.sIx
  dsimp only
  rw [if_neg (by omega), if_neg (by omega), Int.toNat_natCast, Int.toNat_natCast, Nat.min_eq_left h, List.drop_take, List.take_eq_take_iff, List.length_drop]
  omega
/-- xs[2:-1] -/
theorem cut_2m {x y z : D} : cutD (x :: y :: (ds ++ [z])) (some 2) (some (-1)) = ds := by
  have e0 : (x :: y :: (ds ++ [z])).length = ds.length + 3 := by simp
  unfold cutD HT.sIx
  dsimp only
  rw [e0, if_pos (show (-1 : Int) < 0 by omega), if_neg (show ¬ (2 : Int) < 0 by omega)]
  have e1 : min (Int.toNat 2) (ds.length + 3) = 2 := by have : Int.toNat 2 = 2 := rfl; omega
  rw [e1]
  show List.take _ (ds ++ [z]) = ds
  have : ∀ k, k = ds.length → List.take k (ds ++ [z]) = ds := by rintro k rfl; simp
  exact this _ (by omega)
theorem isi_int {K : PySem.W.Frag} {M : Mp} {Q : DK} {i : Int} : isiG K [.int i, .ty "int"] M Q = Q (.bl true) M := by simp [isiG, tyName, isB]
theorem isi_int_s {K : PySem.W.Frag} {M : Mp} {Q : DK} {i : Int} : isiG K [.int i, .ty "str"] M Q = Q (.bl false) M := by simp [isiG, tyName, isB]
theorem isi_int_t {K : PySem.W.Frag} {M : Mp} {Q : DK} {i : Int} : isiG K [.int i, .ty "tuple"] M Q = Q (.bl false) M := by simp [isiG, tyName, isB]
theorem isi_tup {K : PySem.W.Frag} {M : Mp} {Q : DK} {i : List D} : isiG K [.tup i, .ty "tuple"] M Q = Q (.bl true) M := by simp [isiG, tyName, isB]
theorem isi_tup_s {K : PySem.W.Frag} {M : Mp} {Q : DK} {i : List D} : isiG K [.tup i, .ty "str"] M Q = Q (.bl false) M := by simp [isiG, tyName, isB]
theorem isi_tup_i {K : PySem.W.Frag} {M : Mp} {Q : DK} {i : List D} : isiG K [.tup i, .ty "int"] M Q = Q (.bl false) M := by simp [isiG, tyName, isB]
theorem isi_str_i {K : PySem.W.Frag} {M : Mp} {Q : DK} {i : Str} : isiG K [.str i, .ty "int"] M Q = Q (.bl false) M := by simp [isiG, tyName, isB]
theorem isi_str_t {K : PySem.W.Frag} {M : Mp} {Q : DK} {i : Str} : isiG K [.str i, .ty "tuple"] M Q = Q (.bl false) M := by simp [isiG, tyName, isB]
end
end DL

set_option maxHeartbeats 4000000
namespace DL
open PySem PySem.Spec L2
theorem LS.pickAtW {S : Addr → Prop} {M0 M : Mp} {s l : Addr} {ns : List Int} {Q : DK} {E : EK} (J : LS S M0 M s l ns) {a : Addr} {vs : List D} (ha : M a = some (.lst vs)) (hn : a ≠ s) {n : Int} (e : n = vs.length) (h0 : 0 < vs.length) (h1 : vs.length ≤ 16777216)
    (k : ∀ (v : D) (M' : Mp), v ∈ vs → LS S M0 M' s l ns → Ext (Is s) M M' → Q v M') : spPick [.ref s, .int n] M (fun y M2 => ixG (.ref a) y M2 Q) E := by
  subst e
  refine J.pick (by omega) (log_small (by omega)) fun r M' r0 r1 J' e => ?_
  have ha' := e _ _ hn ha
  obtain ⟨d, e1, e2, _⟩ := atI_in r0 r1
  have : ixG (.ref a) (.int r) M' Q = Q d M' := by
    unfold ixG
    simp only [seqOf, ha', Option.bind_some, e1]
  rw [this]
  exact k d M' e2 J' e
theorem LS.chooseP {S : Addr → Prop} {M0 M : Mp} {s l : Addr} {ns : List Int} (J : LS S M0 M s l ns) {vs : List D} {n : Int} {Q : Addr → DK} {E : Addr → EK} (hn : n = vs.length) (h0 : 0 < vs.length) (h1 : vs.length < 1000000) (k : ∀ (p : Addr) (v : D) (M' : Mp), v ∈ vs → LS S M0 M' s l ns → Ext (Is s) M M' → Q p v M') :
    ∀ p, M p = none → spPick [.ref s, .int n] (DL.put M p (.lst vs)) (fun y M2 => ixG (.ref p) y M2 (Q p)) (E p) := fun p hp =>
  (J.new hp).pickAt put_same (J.P.s_some hp).1 hn h0 h1 fun v M' hv J' e => k p v M' hv J' (Ext.trans (.lay hp) e)
/-! ### a comprehension whose items are drawn -/
theorem dCL_draws {α : Type} (f : α → D) (G : α → Prop) {g : D → Sl → Sl} {te : DE} {kp : Mp → Prop} {p : Addr} {τ : Sl} {F : Mp → Prop} {its : List D} {S : Addr → Prop} {M0 M : Mp} {s l : Addr} {ns : List Int}
    (J : LS S M0 M s l ns) (hp : Own S M0 M s l p (.lst [])) (hl : its.length ≤ 1000000) (hk : ∀ M', LS S M0 M' s l ns → Ext (fun a => a = s ∨ a = p) M M' → kp M')
    (step : ∀ (i : Nat) (d : D) (M' : Mp) (k : D → Mp → Prop), its[i]? = some d → LS S M0 M' s l ns → Ext (fun a => a = s ∨ a = p) M M' → (∀ a M2, G a → LS S M0 M2 s l ns → Ext (Is s) M' M2 → k (f a) M2) → te (g d τ) M' k noE)
    (done : ∀ (xs : List α) (M' : Mp), xs.length = its.length → (∀ a, a ∈ xs → G a) → LS S M0 M' s l ns → Ext (fun a => a = s ∨ a = p) M M' → Own S M0 M' s l p (.lst (xs.map f)) → F M') :
    dCL g dYes te kp p τ F its M := by
  refine dCL_inv (fun j M' => LS S M0 M' s l ns ∧ Ext (fun a => a = s ∨ a = p) M M' ∧ ∃ xs : List α, xs.length = j ∧ (∀ a, a ∈ xs → G a) ∧ Own S M0 M' s l p (.lst (xs.map f))) ?_ ?_ ?_ ⟨J, .refl, [], rfl, (fun _ h => nomatch h), hp⟩
  · exact fun i M' _ h => hk M' h.1 h.2.1
  · rintro i d M' nxt hd ⟨J', e', xs, hx, hG, hO⟩ hnx
    simp only [dYes, if_true]
    refine step i d M' _ hd J' e' fun a M2 ga J2 e2 => ?_
    have hO2 := hO.ext e2
    have hi := (List.getElem?_eq_some_iff.mp hd).1
    simp only [hO2.a, List.length_map]
    refine ⟨by rw [sizeLine_eq]; omega, hnx _ ⟨J2.set hO2, (e'.trans (e2.wide fun x z => .inl z)).trans (.set (.inr rfl)), xs ++ [a], by simp [hx], fun b hb => ?_, ?_⟩⟩
    · rcases List.mem_append.mp hb with h | h
      · exact hG b h
      · rw [List.mem_singleton.mp h]; exact ga
    · rw [List.map_append]
      exact hO2.set
  · rintro M' ⟨J', e', xs, hx, hG, hO⟩
    exact done xs M' hx hG J' e' hO
/-- a read-only walk: nothing is laid or drawn in the items -/
theorem dCL_pure {α : Type} (f : α → D) {g : D → Sl → Sl} {tt : DT} {te : DE} {kp : Mp → Prop} {p : Addr} {τ : Sl} {F : Mp → Prop} {its : List D} {M : Mp}
    (as : List (Option α)) (ha : as.length = its.length) (hl : its.length ≤ 16000000) (hk : ∀ xs, kp (put M p (.lst xs)))
    (step : ∀ (i : Nat) (d : D) (a : Option α) (xs : List D) (k : D → Mp → Prop) (k2 : Mp → Prop), its[i]? = some d → as[i]? = some a → (∀ x, a = some x → k (f x) (put M p (.lst xs))) → (a = none → k2 (put M p (.lst xs))) →
      tt (g d τ) (put M p (.lst xs)) (fun b M1 => if b = true then te (g d τ) M1 k noE else k2 M1) noE)
    (done : F (put M p (.lst ((as.filterMap id).map f)))) :
    dCL g tt te kp p τ F its (put M p (.lst [])) := by
  refine dCL_inv (fun j M' => M' = put M p (.lst (((as.take j).filterMap id).map f))) ?_ ?_ ?_ (by simp)
  · rintro i M' _ rfl; exact hk _
  · rintro i d M' nxt hd rfl hnx
    have hi := (List.getElem?_eq_some_iff.mp hd).1
    have hi2 : i < as.length := by omega
    refine step i d as[i] _ _ nxt hd (List.getElem?_eq_getElem hi2) (fun x hx => ?_) fun hx => ?_
    · simp only [put_same]
      refine ⟨?_, hnx _ ?_⟩
      · rw [sizeLine_eq, List.length_map]
        have h1 := List.length_filterMap_le id (as.take i)
        rw [List.length_take] at h1
        omega
      · rw [put_put, List.take_succ, List.getElem?_eq_getElem hi2, hx]
        simp
    · refine hnx _ ?_
      rw [List.take_succ, List.getElem?_eq_getElem hi2, hx]
      simp
  · rintro M' rfl
    rw [← ha, List.take_length]
    exact done
/-- a test whose answer is known -/
theorem ifS_of {c : DT} {t u : DS} {Dn : DN} {τ : Sl} {M : Mp} (b : Bool) (h : ∀ Q E, Q b M → c τ M Q E) (k : if b = true then t Dn τ M else u Dn τ M) : dIfS c t u Dn τ M := h _ _ k
theorem ifS_p {c : DT} {t u : DS} {Dn : DN} {τ : Sl} {M : Mp} (p : Prop) [Decidable p] (h : ∀ (Q : Bool → Mp → Prop) (E : EK), (p → Q true M) → (¬ p → Q false M) → c τ M Q E) (yes : p → t Dn τ M) (no : ¬ p → u Dn τ M) : dIfS c t u Dn τ M :=
  h (fun b M1 => if b = true then t Dn τ M1 else u Dn τ M1) _ (fun z => by show (if true = true then _ else _); rw [if_pos rfl]; exact yes z) fun z => by show (if false = true then _ else _); rw [if_neg Bool.false_ne_true]; exact no z
theorem lock_undo {M : Mp} {a p : Addr} {o u v : MO} (ha : M a = some o) (hp : put M a u p = none) : put (put (put M a u) p v) a o = put M p v := by
  have n : a ≠ p := by rintro rfl; rw [put_same] at hp; cases hp
  funext b
  by_cases c : b = a
  · subst c; rw [put_same, put_ne n, ha]
  · rw [put_ne c]
    by_cases c2 : b = p
    · subst c2; rw [put_same, put_same]
    · rw [put_ne c2, put_ne c2, put_ne c]
/-- a list out of the keys of a dict -/
theorem lock_comp {α : Type} (f : α → D) {i x j : Nat} {tt : DT} {te : DE} {τ : Sl} {M : Mp} {Dn : DN} {a : Addr} {kvs : List (Key × D)} (e : slot τ i = some (.ref a)) (ha : M a = some (.dk kvs)) (hl : kvs.length ≤ 1000000)
    (as : List (Option α)) (las : as.length = kvs.length)
    (step : ∀ (n : Nat) (q : Key × D) (o : Option α) (M' : Mp) (k : D → Mp → Prop) (k2 : Mp → Prop), kvs[n]? = some q → as[n]? = some o → M' a = some (.rdk kvs) → (∀ y, o = some y → k (f y) M') → (o = none → k2 M') →
      tt ((wipeD τ [x]).set x (some (ofKey q.1))) M' (fun b M1 => if b = true then te ((wipeD τ [x]).set x (some (ofKey q.1))) M1 k noE else k2 M1) noE)
    (nx : ∀ p, M p = none → Dn.nx (τ.set j (some (.ref p))) (put M p (.lst ((as.filterMap id).map f)))) :
    dLock (dAsg (dLc (dKeys (dVar i)) (fun d τ => τ.set x (some d)) tt te [x]) (dName j)) Dn τ M := by
  refine ⟨a, kvs, ha, ?_⟩
  simp only [dAsg, dLc, dKeys, dVar, e, put_same, dName, dLockN]
  refine ⟨by rw [sizeLine_eq]; omega, fun p hp => ?_⟩
  have n : a ≠ p := by rintro rfl; rw [put_same] at hp; cases hp
  refine dCL_pure f as (by rw [las, List.length_map]) (by rw [List.length_map]; omega) (fun xs => by rw [put_ne n, put_same]) (fun m d o xs k k2 hd ho h1 h2 => ?_) ?_
  · rw [List.getElem?_map] at hd
    cases hq : kvs[m]? with
    | none => rw [hq] at hd; cases hd
    | some q =>
      rw [hq] at hd
      cases hd
      exact step m q o _ k k2 hq ho (by rw [put_ne n, put_same]) h1 h2
  · refine ⟨by rw [put_ne n, put_same], ?_⟩
    rw [lock_undo ha hp]
    refine nx p ?_
    rw [put_ne (Ne.symm n)] at hp
    exact hp
theorem putKD_mem {l : List (Key × D)} {k : Key} {d : D} {q : Key × D} (h : q ∈ putKD l k d) : q = (k, d) ∨ q ∈ l := by
  unfold putKD at h
  split at h
  · obtain ⟨r, hr, rfl⟩ := List.mem_map.mp h
    split
    · rename_i c; left; rw [c]
    · exact .inr hr
  · rcases List.mem_append.mp h with h | h
    · exact .inr h
    · exact .inl (List.mem_singleton.mp h)
theorem putKD_ne {l : List (Key × D)} {k : Key} {d : D} : putKD l k d ≠ [] := by
  unfold putKD
  split
  · rename_i h
    cases l with
    | nil => simp at h
    | cons a r => simp
  · simp
theorem valD_mem {l : List (Key × D)} {q : Key × D} (h : q ∈ l) : ∃ v, valD l q.1 = some v ∧ (q.1, v) ∈ l := by
  induction l with
  | nil => cases h
  | cons r l ih =>
    rw [valD_cons]
    by_cases c : r.1 = q.1
    · exact ⟨r.2, by rw [if_pos c], by rw [← c]; exact List.mem_cons_self⟩
    · rw [if_neg c]
      rcases List.mem_cons.mp h with rfl | h
      · exact absurd rfl c
      · obtain ⟨v, h1, h2⟩ := ih h
        exact ⟨v, h1, List.mem_cons_of_mem _ h2⟩
end DL

set_option maxHeartbeats 4000000
namespace DL
open PySem PySem.Spec L2
/-! ### words of small letters -/
def low (x : Str) : Prop := ∀ c, c ∈ x.cps.toList → 97 ≤ c ∧ c ≤ 122
theorem app_cps {a b : Str} : (a ++ b).cps = a.cps ++ b.cps := rfl
theorem low_app {a b : Str} (ha : low a) (hb : low b) : low (a ++ b) := fun c hc => by
  rw [app_cps, Array.toList_append, List.mem_append] at hc
  exact hc.elim (ha c) (hb c)
theorem low_one {c : Nat} (h : 97 ≤ c ∧ c ≤ 122) : low ⟨#[c]⟩ := fun d hd => by
  have : d = c := by simpa using hd
  subst this; exact h
theorem low_nil : low "" := fun c hc => by
  have : ("" : Str).cps.toList = [] := by decide
  rw [this] at hc; cases hc
theorem low_joinS : ∀ {xs : List Str}, (∀ x, x ∈ xs → low x) → low (Str.join "" xs)
  | [], _ => low_nil
  | [x], h => h x List.mem_cons_self
  | x :: y :: r, h => low_app (low_app (h x List.mem_cons_self) low_nil) (low_joinS fun z hz => h z (List.mem_cons_of_mem _ hz))
theorem low_join {xs : List Str} (h : ∀ x, x ∈ xs → low x) : low (Txt.join "" xs) := by
  show low (Builtin.Str.glued (PySem.Str.ofString "") xs)
  rw [StrLaws.glued_eq_join]
  exact low_joinS h
theorem low_ok {x : Str} (h : low x) : ok (.str x) = true := by
  rw [ok, Array.all_eq_true]
  intro i hi
  have := h x.cps[i] (by simp)
  simp
  omega
theorem low_letters : low "abcdefghijklmnopqrstuvwxyz" := by unfold low; decide +kernel
theorem letters_len : ("abcdefghijklmnopqrstuvwxyz" : Str).cps.toList.length = 26 := by decide +kernel
theorem ixG_letter {i : Int} {M : Mp} {Q : DK} (h0 : 0 ≤ i) (h1 : i < 26) (k : ∀ x, low x → x.length = 1 → Q (.str x) M) : ixG (.str "abcdefghijklmnopqrstuvwxyz") (.int i) M Q := by
  have hl := letters_len
  have h2 : i.toNat < ("abcdefghijklmnopqrstuvwxyz" : Str).cps.toList.length := by omega
  have e1 : atI ("abcdefghijklmnopqrstuvwxyz" : Str).cps.toList i = some (("abcdefghijklmnopqrstuvwxyz" : Str).cps.toList[i.toNat]) := by
    unfold atI
    rw [ixN_in h0 (by omega)]
    exact List.getElem?_eq_getElem h2
  unfold ixG
  simp only [e1]
  refine ⟨?_, k _ (low_one (low_letters _ (List.getElem_mem h2))) rfl⟩
  have : ("abcdefghijklmnopqrstuvwxyz" : Str).length = 26 := by decide +kernel
  rw [this, sizeLine_eq]; omega
theorem LS.letter {S : Addr → Prop} {M0 M : Mp} {s l : Addr} {ns : List Int} {Q : DK} {E : EK} {n : Int} (J : LS S M0 M s l ns) (h0 : 0 < n) (h1 : n ≤ 26) (k : ∀ (x : Str) (M' : Mp), low x → x.length = 1 → LS S M0 M' s l ns → Ext (Is s) M M' → Q (.str x) M') :
    spPick [.ref s, .int n] M (fun y M2 => ixG (.str "abcdefghijklmnopqrstuvwxyz") y M2 Q) E :=
  J.pick h0 (log_small (by omega)) fun r M' r0 r1 J' e => ixG_letter r0 (by omega) fun x hx hl => k x M' hx hl J' e
end DL

set_option maxHeartbeats 4000000
namespace DL
open PySem PySem.Spec L2
open PyProof.Rows (envOfC)
/-! ### exceptions with attributes of their own -/
section
variable {X : Cx} {W : DW} {pos p p2 np pos' : Pos}
/-- isinstance(e, C) of the exception that the suite holds, attributes or not -/
def isxF (K : PySem.W.Frag) (y : DX) (a : Addr) : DG := fun ds M Q => match ds with
  | [.ref a', c] => a' = a ∧ (∀ dd, y.d = some dd → ∃ fs, M dd = some (.xd fs)) ∧ ∃ D b cv, y.cls = .ref D ∧ ExcC K D ∧ ((∃ C, c = .ref C ∧ cv = .ref C) ∨ ∃ n, c = .ty n ∧ cv = .type n) ∧ PySem.W.kitOne K (.ref D) cv = some b ∧ Q (.bl b) M
  | _ => False
theorem call_isxF {y : DX} {a : Addr} {oe : Obj} {pn : List (Addr × Obj)} (hz : Zc y.cls y.d oe) (hf : ∃ vs, oe.data = .fields vs) : CallR (X.suite a ((a, oe) :: pn)) (.builtin "isinstance") (liftC X.K (isxF X.K y a)) := by
  intro pins s σ H xs us Q I rs ⟨ds, M, Qd, q, r, hr, k⟩
  unfold isxF at q
  split at q
  · rename_i a' c
    obtain ⟨rfl, hd, D, b, cv, ec, C, hc, kk, q⟩ := q
    obtain ⟨v, v', rfl, rv, rv'⟩ := r.two
    obtain ⟨u1, u2, rfl, r1, r2⟩ := vals2 rs
    rw [rv.toRef] at r1
    cases (show u1 = Value.ref a' from r1)
    have e2 : u2 = cv := by
      rcases hc with ⟨C', rfl, rfl⟩ | ⟨n, rfl, rfl⟩
      · rw [rv'.toRef] at r2; exact r2
      · rw [rv'.toTy] at r2; exact r2
    subst e2
    obtain ⟨hget, _⟩ := I.pin (a', oe) (List.mem_append.mpr (.inl List.mem_cons_self))
    obtain ⟨vs, hv⟩ := hf
    have J : ∃ od, PySem.W.InstAt s.heap a' oe D od := by
      cases ed : y.d with
      | none => exact ⟨none, hget, by rw [hz.1]; exact ec, by unfold PySem.W.notCls; rw [hv] <;> rfl, by rw [hz.2, ed]; trivial⟩
      | some dd =>
        obtain ⟨fs, hm⟩ := hd dd ed
        obtain ⟨ws, hw, _⟩ : ∃ ws, H dd = some (.xd ws) ∧ FD X.K H ws fs := hr dd _ hm
        have ho : ObjOk X.prog X.w H s.heap dd (.xd ws) := I.hok dd _ hw
        obtain ⟨mA, hns, _⟩ := ho
        obtain ⟨od, hod, _⟩ := lookIn_ns hns
        exact ⟨some od, hget, by rw [hz.1]; exact ec, by unfold PySem.W.notCls; rw [hv] <;> rfl, by rw [hz.2, ed]; exact hod⟩
    obtain ⟨od, J⟩ := J
    have hcl : (PySem.W.clsIn X.K D).isSome = true := by
      obtain ⟨cd, hcd, _⟩ := PySem.W.any_some C.hd
      rw [hcd]; rfl
    exact PySem.W.kia_one (PySem.W.kitx_exc hcl C.hg C.hk C.hs C.ha C.hn C.ht C.hm) I.kIn J kk (fun z => nomatch z) fun tk => ⟨.bl b, H, I.kept (t' := tk) fun _ _ z => z, rfl, k _ M _ H q .refl (.bl _) hr⟩
  · exact q.elim
/-- e.f of the exception that the suite holds -/
def dXf (K : PySem.W.Frag) (y : DX) (a : Addr) (te : DE) (f : Str) : DE := fun τ M Q E => te τ M (fun x M1 => x = .ref a ∧ ∃ C dd fs v, y.cls = .ref C ∧ XfC K C ∧ PySem.W.findIn K (.ref C) f = some none ∧ y.d = some dd ∧ M1 dd = some (.xd fs) ∧ fs.lookup f = some v ∧ Q v M1) E
theorem pd_xf {y : DX} {a : Addr} {oe : Obj} {pn : List (Addr × Obj)} {e : Expr} {te : DE} {n : Str} (hz : Zc y.cls y.d oe) (hf : ∃ vs, oe.data = .fields vs) (he : PD (X.suite a ((a, oe) :: pn)) W e te) (hb : attributeBase e n X.env (eval e X.env) = eval e X.env := by rfl) :
    PD (X.suite a ((a, oe) :: pn)) W (.Attribute e n pos) (dXf X.K y a te n) := by
  by_cases hC : ∃ C, y.cls = .ref C ∧ XfC X.K C ∧ PySem.W.findIn X.K (.ref C) n = some none
  · obtain ⟨C, ec, T, hno⟩ := hC
    have R := pe_xf (cls := y.cls) (d := y.d) (pos := pos) T hno hz hf he.run hb
    refine ⟨PEimp R fun σ H Q ⟨τ, M, Qd, Ed, hs, hr, q, we, k⟩ => ⟨τ, M, _, Ed, hs, hr, q, we, fun x M1 v H1 q1 e1 r1 h1 => ?_⟩⟩
    obtain ⟨rfl, C', dd, fs, d, ec', _, _, ed, hm, hl, q1⟩ := q1
    obtain ⟨ws, hw, fd⟩ : ∃ ws, H1 dd = some (.xd ws) ∧ FD X.K H1 ws fs := h1 dd _ hm
    obtain ⟨u, hu, ru⟩ := fd.look hl
    exact ⟨r1.toRef, ec, dd, ws, u, ed, hw, hu, k _ M1 _ H1 q1 e1 ru h1⟩
  · refine ⟨⟨fun pins s σ H Q I ⟨τ, M, Qd, Ed, hs, hr, q, we, k⟩ => ?_⟩⟩
    refine attr_of hb (thn (he.run.run pins s σ H (fun _ _ => False) I ⟨τ, M, _, Ed, hs, hr, q, we, fun x M1 v H1 q1 _ _ _ => ?_⟩) fun u s1 ⟨_, _, _, _, z⟩ => z.elim)
    obtain ⟨_, C', _, _, _, ec', hx, hn, _⟩ := q1
    exact hC ⟨C', ec', hx, hn⟩
end
/-! ### raise C(e, ..), C with an __init__ of its own -/
/-- what such an __init__ keeps: attributes fs -/
def spOI (C : Addr) (fs : List Str) : Sp := fun vs H Q _ => ∃ (a : Addr) (ys : List V), vs = .ref a :: ys ∧ ys.length = fs.length ∧ H a = some (exo a C none) ∧ ∀ dx, H dx = none → dx ≠ a → Q .non (upd (upd H dx (exd dx (fs.zip ys).reverse)) a (exo a C (some dx)))
section
variable {P : Program} {w : World} {K : PySem.W.Frag} {mg : Str → Option Value} {base : Heap}
theorem okI1 {qual f : Str} {st : Stmt} {fI : Addr} {fd : FuncData} {N : List Str} {C : Addr} {k : Nat} (F : L2.Fun K "__init__" qual st fI fd) (S : FnScope N N (defScope st)) (hN : N.length = 2) (T : OexC K C) (no : PySem.W.findIn K (.ref C) f = some none)
    (hbody : ∀ (cdv : Value) (A : Around) (outer : List Env) (s : Shared) (H : Hp) (E : XK), PSs (cxOf (L2.CX P w) P w K mg base N qual (defScope st) fI cdv A outer s H E) (defBody st) (tOst K f (tVar 0) (tVar 1))) :
    FnOk P w K mg base (L2.CX P w) (k + 1) fI fd N (spOI C [f]) := by
  refine F.okX S (fun vs H Q E ⟨a, ys, e, hl, _⟩ => by rw [e, List.length_cons, hl, hN]; rfl) fun cdv A outer s H vs Q E hr ⟨a, ys, e, hl, ha, k⟩ => ⟨_, hbody cdv A outer s H E, ?_⟩
  subst e
  obtain ⟨y, rfl⟩ : ∃ y, ys = [y] := by
    cases ys with
    | nil => cases hl
    | cons y r =>
      cases r with
      | nil => exact ⟨y, rfl⟩
      | cons _ _ => simp at hl
  have e0 : L2.start N [.ref a, y] = [some (.ref a), some y] := by
    unfold L2.start
    rw [hN]
    rfl
  rw [e0]
  exact ⟨y, rfl, .ref a, rfl, a, C, rfl, T, no, .inl ⟨ha, fun dx hd ne => k dx hd ne⟩⟩
/-- the exception class x at C with attributes fs -/
structure RaiD (P : Program) (w : World) (K : PySem.W.Frag) (mg : Str → Option Value) (base : Heap) (k : Nat) (x : Str) (C : Addr) (fs : List Str) : Prop where
  ex : ∃ (fI : Addr) (fd : FuncData) (ps : List Str), OexC K C ∧ PySem.W.findIn K (.ref C) "__init__" = some (some (.ref fI)) ∧ PySem.W.typeIn K (.ref fI) = some (.type "function") ∧ FnOk P w K mg base (L2.CX P w) k fI fd ps (spOI C fs) ∧ Binds K fd ps [] ∧ mg x = some (.ref C)
end
def dRaiseI (C : Addr) (fs : List Str) (ta : DA) : DS := fun Dn τ M => ta τ M (fun ds M1 => ds.length = fs.length ∧ ∀ dd, M1 dd = none → Dn.ex ⟨.ref C, some dd, (fs.zip ds).reverse⟩ τ M1) (exOf Dn τ)
theorem FD.app {K : PySem.W.Frag} {H : Hp} : ∀ {vs : List (Str × V)} {fs : List (Str × D)} {us : List (Str × V)} {gs : List (Str × D)}, FD K H vs fs → FD K H us gs → FD K H (vs ++ us) (fs ++ gs)
  | [], [], _, _, _, g => g
  | _ :: _, _ :: _, _, _, h, g => ⟨h.1, h.2.1, FD.app h.2.2 g⟩
  | [], _ :: _, _, _, h, _ => h.elim
  | _ :: _, [], _, _, h, _ => h.elim
theorem FD.rev {K : PySem.W.Frag} {H : Hp} : ∀ {vs : List (Str × V)} {fs : List (Str × D)}, FD K H vs fs → FD K H vs.reverse fs.reverse
  | [], [], _ => True.intro
  | p :: ps, q :: qs, h => by
    rw [List.reverse_cons, List.reverse_cons]
    exact FD.app (FD.rev h.2.2) ⟨h.1, h.2.1, True.intro⟩
  | [], _ :: _, h => h.elim
  | _ :: _, [], h => h.elim
theorem FD.zip {K : PySem.W.Frag} {H : Hp} : ∀ {fs : List Str} {vs : List V} {ds : List D}, RpL K H vs ds → FD K H (fs.zip vs) (fs.zip ds)
  | [], _, _, _ => by simp [FD]
  | _ :: _, _, _, .nil => by simp [FD]
  | f :: fs, _, _, .cons r l => ⟨rfl, r, FD.zip l⟩
section
variable {X : Cx} {W : DW} {pos p pos' : Pos} {e : Expr} {es : List Expr} {ta : DA} {x : Str} {C : Addr} {fs : List Str} {k : Nat}
theorem psd_raiseI (R : RaiD X.prog X.w X.K X.mg X.base k x C fs) (hk : fs.length ≤ 1000) (hr : Room (k + 1) X.A) (hc : X.calm = true) (tk : Takes X (liftW X.K W)) (hg : Gl X x) (ha : PAD X W (e :: es) ta)
    (hdb : (x == ("__debug__" : Str)) = false := by decide) (he : starEach (e :: es) X.env = (false, eval e X.env) :: starEach es X.env := by rfl) (hpl : (backTo pos' (starEach es X.env)).any (·.1) = false := by rfl) :
    PSD X W (.Raise (some (.Call (.Name x p) (e :: es) [] pos')) none pos) (dRaiseI C fs ta) := by
  obtain ⟨fI, fd, ps, T, iC, tI, F, hb, hm⟩ := R.ex
  have no : Passes (L2.CX X.prog X.w) X (fun _ _ _ => False) := fun _ _ _ _ _ _ _ c => by
    obtain ⟨_, _, _, _, _, _, _, _, _, _, _, _, z⟩ := c
    exact z.elim
  refine ⟨PSimp (ps_raise hc tk (pmk_oex (dvs := []) T iC tI F hr hb .nil no hg hm ha.run hdb he hpl)) fun De σ H ⟨τ, M, Dd, hs, hr, q, we, nc⟩ => ?_⟩
  refine ⟨τ, M, _, exOf Dd τ, hs, hr, q, (fun x M1 h => we x τ M1 h), fun ds M1 vs H1 q1 e1 r1 h1 => ⟨by rw [r1.length, q1.1]; exact hk, fun a ha => ?_⟩⟩
  refine ⟨a, vs, by rw [List.append_nil], by rw [r1.length, q1.1], upd_same, fun dx hd ne => ?_⟩
  have hd1 : H1 dx = none := by rw [upd_ne ne] at hd; exact hd
  refine ⟨rfl, dx, (fs.zip vs).reverse, upd_same, (upd_ne ne).trans upd_same, hd1, ?_⟩
  have eH : upd (del (upd (upd (upd H1 a (exo a C none)) dx (exd dx (fs.zip vs).reverse)) a (exo a C (some dx))) a) dx (.xd (fs.zip vs).reverse) = upd H1 dx (.xd (fs.zip vs).reverse) := by
    funext b
    by_cases c : b = dx
    · subst c; rw [upd_same, upd_same]
    · rw [upd_ne c, upd_ne c]
      by_cases c2 : b = a
      · subst c2; rw [del_same, ha]
      · rw [del_ne c2, upd_ne c2, upd_ne c, upd_ne c2]
  rw [eH]
  have t1 : TExt X.K H1 (upd H1 dx (.xd (fs.zip vs).reverse)) := .new hd1
  exact ⟨_, τ, M1, (hs.mono e1).mono t1, h1.fresh hd1, ⟨rfl, rfl, fun d2 e2 => by cases e2; exact ⟨_, upd_same, (FD.zip (r1.mono t1)).rev⟩⟩, we _ _ _ (q1.2 dx (h1.free hd1))⟩
end
end DL

set_option maxHeartbeats 4000000
namespace DL
open PySem PySem.Spec L2
open PyProof.Rows
/-! ### try with several clauses, named or not -/
structure Clause where
  c : Value
  i : Option Nat
  ts : Addr → Value → Option Addr → TS
def endAt (i : Option Nat) (De : Ends) : Ends := match i with
  | none => De
  | some j => ⟨fun σ H => De.nx (σ.set j none) H, De.rt, fun σ H => De.bk (σ.set j none) H, fun σ H => De.ct (σ.set j none) H⟩
def slotAt (i : Option Nat) (a : Addr) (σ : L2.St) : L2.St := match i with
  | none => σ
  | some j => σ.set j (some (.ref a))
def wAll (K : PySem.W.Frag) (Wo : WX) (De : Ends) : List Clause → WX
  | [] => Wo
  | k :: r => fun cls d σ H => ∃ b, PySem.W.exmOne K cls k.c = some b ∧ (b = true → ∀ a, H a = none → k.ts a cls d (endAt k.i De) (slotAt k.i a σ) H) ∧ (b = false → wAll K Wo De r cls d σ H)
def nameOk (X : Cx) (nm : Option Str) (i : Option Nat) : Prop := match nm, i with
  | none, none => True
  | some n, some j => X.N.Nodup ∧ X.N[j]? = some n ∧ X.env.kindOf n = some .local
  | _, _ => False
inductive HsOk (X : Cx) : List ExceptHandler → List Clause → Prop
  | nil : HsOk X [] []
  | cons {x : Str} {nm : Option Str} {k : Clause} {b0 : Stmt} {su : List Stmt} {p1 p2 : Pos} {hs : List ExceptHandler} {l : List Clause} (hc : Names X x k.c) (hn : nameOk X nm k.i)
      (body : ∀ (a : Addr) (oe : Obj) (cls : Value) (d : Option Addr) (pn : List (Addr × Obj)), Zc cls d oe → (∃ vs, oe.data = .fields vs) → PSs (X.suite a ((a, oe) :: pn)) (b0 :: su) (k.ts a cls d)) (r : HsOk X hs l) :
      HsOk X (.ExceptHandler (some (.Name x p1)) nm (b0 :: su) p2 :: hs) (k :: l)
section
variable {X : Cx} {body : List Stmt} {h0 : ExceptHandler} {hs : List ExceptHandler} {l : List Clause} {pos : Pos} {tb : WX → TS} {Wo : WX}
theorem ps_try_all (e1 : X.stack = X.env :: X.outer) (e2 : X.env.frame = some X.env.locals) (tk : Takes X Wo)
    (hb : ∀ (W' : WX) (pn : List (Addr × Obj)) (xe : Value → Shared → Prop), Takes (X.tr pn xe) W' → PassesOwn (model X.prog X.w) X.A X.env xe → PSs (X.tr pn xe) body (tb W')) (hh : HsOk X (h0 :: hs) l) :
    PS X (.Try body (h0 :: hs) [] [] pos) (fun De σ H => tb (wAll X.K Wo De l) De σ H) := by
  constructor
  intro pins s σ H De I q
  have okX := I.ok
  have frX : X.A.frames = some (X.env :: X.outer) := okX.frames.trans (by rw [e1])
  -- a caught exception runs through the clauses
  have caughtAt : ∀ (u : Value) (t : Shared), XE (X.tr (X.pn ++ pins) (fun _ _ => True)) (wAll X.K Wo De l) u t → wpAny (model X.prog X.w) X.A (noteFrame u X.env) (fun _ t1 => wpAny (model X.prog X.w) X.A (setFlight u none) (fun _ t2 => wpAny (model X.prog X.w) X.A (handleBy u X.env (h0 :: hs)) (SP X pins De) X.xe t2) X.xe t1) X.xe t := by
    rintro u t ⟨a, B, sI, pins', σ', H', cls, d, rfl, J0, nb, up, sky, na, os, ag, w⟩
    have J : Inv X pins σ' H' sI := J0.ofTry okX
    have sky1 : Sky B (X.env :: X.outer) a (Zc cls d) X.env.locals t.heap := e1 ▸ sky
    refine Sky.land Zc.steady frX e2 sky1 fun g fg ug => ?_
    have Jg : Inv X pins σ' H' { t with heap := g } := J.landed nb fg.1 (up.trans ug) os ag
    obtain ⟨og, vg, hg, zg, dg⟩ := fg.there
    have away : a ∉ frs (X.env :: X.outer) := fun hm => by
      obtain ⟨_, o', e', no⟩ := fg.2.2.1.mem hm
      cases hg.symm.trans e'
      exact no _ dg
    have aL : a ≠ X.env.locals := fun z => away (by rw [z]; exact List.mem_filterMap.mpr ⟨X.env, List.mem_cons_self, e2⟩)
    have aF : a ∉ X.fs := fun hm => by
      obtain ⟨v, hv, qv⟩ := List.mem_filterMap.mp hm
      exact away (List.mem_filterMap.mpr ⟨v, List.mem_cons_of_mem _ hv, qv⟩)
    have Sg := Jg.suite hg dg na aL aF
    have go : ∀ {hs' : List ExceptHandler} {l' : List Clause}, HsOk X hs' l' → wAll X.K Wo De l' cls d σ' H' → wpAny (model X.prog X.w) X.A (handleBy (.ref a) X.env hs') (SP X pins De) X.xe { t with heap := g } := by
      intro hs' l' ok
      induction ok with
      | nil =>
        intro wn
        apply wpAny_handleBy_nil
        obtain ⟨_, _, _, oe, vs, T, oT, _, h1, _, h2, h3, _⟩ := id fg
        have out : wpAny (model X.prog X.w) X.A (setFlight (.ref a) X.env.frame) (fun _ t4 => wpAny (model X.prog X.w) X.A (throw (.ref a) : Sem Flow) (SP X pins De) X.xe t4) X.xe { t with heap := g } := by
          rw [e2]
          exact HandSPX.setFlight_upZ fg fun g4 sk4 u4 => wpAny_throw (tk _ _ ⟨a, B, sI, pins, σ', H', cls, d, rfl, J, nb, (up.trans ug).trans u4, .inr (.inr (by rw [e1]; exact sk4)), na, os, ag, wn⟩)
        unfold PySem.passOn
        apply wpAny_bind
        apply wpAny_field h1 h2 h3
        have nT : ¬ ((Value.ref T == Value.none) = true) := by simp
        rw [if_neg nT]
        first | exact wpAny_bind out | exact wpAny_bind (wpAny_pure (wpAny_bind out))
      | @cons x nm k b0 su p1 p2 hs2 l2 hc hn bd r ih =>
        rintro ⟨b, ex, yes, no⟩
        refine wpAny_handleBy_cons (codeAny_handlers_test ?_) (fun z => nomatch z)
        have isT : PySem.W.Looks (model X.prog X.w) g (typeOf (.ref a)) cls := fun _ _ _ _ kk qq => wpAny_typeOf_ref (kk _ _ hg) (by rw [zg.1]; exact qq)
        have asked := PySem.W.exm_one (M := model X.prog X.w) Jg.kIn isT ex
        have name : ∀ {Q E : Value → Shared → Prop}, Q k.c { t with heap := g } → wpAny (model X.prog X.w) (X.A.mark (some (.ref a))) (eval (.Name x p1) X.env) Q E { t with heap := g } := by
          intro Q E qk
          rcases hc with ⟨c1, c2, c3 | ⟨c3, c4, c5⟩⟩
          · exact ld_glob (X := X.suite a ((a, og) :: (X.pn ++ pins))) Sg c1 c3 qk c2
          · exact ld_blt (X := X.suite a ((a, og) :: (X.pn ++ pins))) Sg c1 c3 c4 qk c5 c2
        refine name (asked.here ?_)
        cases b with
        | false => exact ih (no rfl)
        | true =>
          have ran : ∀ (g4 : Heap), HandSPX.FlyingZ B (X.env :: X.outer) a (Zc cls d) g4 → t.heap.UpToSlots g4 → True := fun _ _ _ => trivial
          cases nm with
          | none =>
            cases ki : k.i with
            | some j => rw [ki] at hn; exact hn.elim
            | none =>
              refine codeAny_handlers_suite (HandSPX.lands_againZ fg fun g4 f4 u4 => ?_)
              have J4 : Inv X pins σ' H' { t with heap := g4 } := J.landed nb f4.1 ((up.trans ug).trans u4) os ag
              obtain ⟨o4, v4, h4, z4, d4⟩ := f4.there
              have y := yes rfl a na
              rw [ki] at y
              refine wpAny_mono ((bd a o4 cls d (X.pn ++ pins) z4 ⟨_, d4⟩).run [] _ _ H' _ (J4.suite h4 d4 na aL aF) y) (fun f t6 hf => ?_) fun _ _ z => z.elim
              cases f <;> first
                | (obtain ⟨σ6, H6, S6, q6⟩ := hf; exact ⟨σ6, H6, S6.unsuite okX, q6⟩)
                | (obtain ⟨v6, σ6, H6, S6, r6, q6⟩ := hf; exact ⟨v6, σ6, H6, S6.unsuite okX, r6, q6⟩)
          | some n =>
            cases ki : k.i with
            | none => rw [ki] at hn; exact hn.elim
            | some j =>
              rw [ki] at hn
              obtain ⟨nd, at1, lc⟩ := hn
              refine codeAny_handlers_suite_as (HandSPX.lands_againZ fg fun g4 f4 u4 => ?_)
              have J4 : Inv X pins σ' H' { t with heap := g4 } := J.landed nb f4.1 ((up.trans ug).trans u4) os ag
              obtain ⟨o4, v4, h4, z4, d4⟩ := f4.there
              have y := yes rfl a na
              rw [ki] at y
              refine store_ok (X := X.suite a ((a, o4) :: (X.pn ++ pins))) (v := .ref a) (J4.suite h4 d4 na aL aF) nd at1 (.inl lc) rfl (fun t5 S5 => ?_) (.inr lc)
              refine wpAny_mono ((bd a o4 cls d (X.pn ++ pins) z4 ⟨_, d4⟩).run [] t5 _ H' _ S5 y) (fun f t6 hf => ?_) fun _ _ z => z.elim
              cases f <;> first
                | (obtain ⟨σ6, H6, S6, q6⟩ := hf; exact gone_ok (S6.unsuite okX) nd at1 lc fun t7 J7 => ⟨_, _, J7, q6⟩)
                | (obtain ⟨v6, σ6, H6, S6, r6, q6⟩ := hf; exact gone_ok (S6.unsuite okX) nd at1 lc fun t7 J7 => ⟨_, _, _, J7, r6, q6⟩)
    exact go hh w
  have ran := (hb (wAll X.K Wo De l) (X.pn ++ pins) (fun u t => wpAny (model X.prog X.w) X.A (noteFrame u X.env) (fun _ t1 => wpAny (model X.prog X.w) X.A (setFlight u none) (fun _ t2 => wpAny (model X.prog X.w) X.A (handleBy u X.env (h0 :: hs)) (SP X pins De) X.xe t2) X.xe t1) X.xe t)
    (fun u t ⟨a, B, sI, pins', σ', H', cls, d, e, J0, r⟩ => caughtAt u t ⟨a, B, sI, [], σ', H', cls, d, e, (J0.ofTry okX).toTry _, r⟩) PassesOwn.looking).run [] s σ H De (I.toTry _) q
  refine wpAny_Try_except (wpAny_mono ran (fun f t hf => ?_) fun _ _ z => z)
  cases f <;> first
    | (obtain ⟨σ', H', J', q'⟩ := hf; exact ⟨σ', H', J'.ofTry okX, q'⟩)
    | (obtain ⟨v, σ', H', J', r', q'⟩ := hf; exact ⟨v, σ', H', J'.ofTry okX, r', q'⟩)
    | (obtain ⟨σ', H', J', q'⟩ := hf; exact wpAny_execs_nil ⟨σ', H', J'.ofTry okX, q'⟩)
end
/-! .. over plain data -/
structure DCl where
  c : Value
  i : Option Nat
  ts : DX → Addr → DS
def endD (i : Option Nat) (Dn : DN) : DN := match i with
  | none => { nx := Dn.nx, rt := Dn.rt, bk := Dn.bk, ct := Dn.ct }
  | some j => { nx := fun τ M => Dn.nx (τ.set j none) M, rt := Dn.rt, bk := fun τ M => Dn.bk (τ.set j none) M, ct := fun τ M => Dn.ct (τ.set j none) M }
def slotD (i : Option Nat) (a : Addr) (τ : Sl) : Sl := match i with
  | none => τ
  | some j => τ.set j (some (.ref a))
def hAll (K : PySem.W.Frag) (Dn : DN) : List DCl → DX → Sl → Mp → Prop
  | [] => Dn.ex
  | k :: r => fun x τ M => ∃ b, PySem.W.exmOne K x.cls k.c = some b ∧ (b = true → ∀ a, M a = none → k.ts x a (endD k.i Dn) (slotD k.i a τ) (caught x M)) ∧ (b = false → hAll K Dn r x τ M)
def dTryAll (K : PySem.W.Frag) (cs : List DCl) (t : DS) : DS := fun Dn τ M => t { Dn with ex := hAll K Dn cs } τ M
inductive HsD (X : Cx) (W : DW) : List ExceptHandler → List DCl → Prop
  | nil : HsD X W [] []
  | cons {x : Str} {nm : Option Str} {k : DCl} {b0 : Stmt} {su : List Stmt} {p1 p2 : Pos} {hs : List ExceptHandler} {l : List DCl} (hc : Names X x k.c) (hn : nameOk X nm k.i)
      (body : ∀ (y : DX) (a : Addr) (oe : Obj) (pn : List (Addr × Obj)), Zc y.cls y.d oe → (∃ vs, oe.data = .fields vs) → PSsD (X.suite a ((a, oe) :: pn)) (Wn W.h0) (b0 :: su) (k.ts y a)) (r : HsD X W hs l) :
      HsD X W (.ExceptHandler (some (.Name x p1)) nm (b0 :: su) p2 :: hs) (k :: l)
section
variable {X : Cx} {W : DW} {body : List Stmt} {h0 : ExceptHandler} {hs : List ExceptHandler} {l : List DCl} {pos : Pos} {t : DS}
def upCl (K : PySem.W.Frag) (H0 : Hp) (k : DCl) : Clause := ⟨k.c, k.i, fun a cls d De σ H => ∃ y, cls = y.cls ∧ d = y.d ∧ liftS K (Wn H0) (k.ts y a) De σ H⟩
theorem hsOk_of : ∀ {hs : List ExceptHandler} {l : List DCl}, HsD X W hs l → HsOk X hs (l.map (upCl X.K W.h0))
  | _, _, .nil => .nil
  | _, _, .cons hc hn bd r => .cons (k := upCl X.K W.h0 _) hc hn (fun a oe cls d pn hz hd => ⟨fun pins s σ H De I ⟨y, e1, e2, h⟩ => by
      subst e1; subst e2
      exact (bd y a oe pn hz hd).run.run pins s σ H De I h⟩) (hsOk_of r)
theorem RS.slotAt {K : PySem.W.Frag} {H0 H : Hp} {σ : L2.St} {τ : Sl} (h : RS K H0 H σ τ) (i : Option Nat) (a : Addr) : RS K H0 H (DL.slotAt i a σ) (slotD i a τ) := by
  cases i with
  | none => exact h
  | some j => exact h.set (.ref a)
theorem NC.endAt {K : PySem.W.Frag} {H0 H : Hp} {Dd : DN} {De : Ends} (nc : NC K H0 H Dd De) (i : Option Nat) : NC K H0 H (endD i Dd) (DL.endAt i De) := by
  cases i with
  | none => exact ⟨nc.nx, nc.rt, nc.bk, nc.ct⟩
  | some j => exact ⟨fun τ M σ H' q e rs hr => nc.nx _ M _ H' q e (rs.setN j) hr, nc.rt, fun τ M σ H' q e rs hr => nc.bk _ M _ H' q e (rs.setN j) hr, fun τ M σ H' q e rs hr => nc.ct _ M _ H' q e (rs.setN j) hr⟩
theorem endD_ex {i : Option Nat} {Dn : DN} {x : DX} {τ : Sl} {M : Mp} : (endD i Dn).ex x τ M → False := by cases i <;> exact fun z => z
theorem wAll_of {Dd : DN} {De : Ends} {H : Hp} (we : ∀ x τ M, Dd.ex x τ M → W.w x τ M) (e0 : TExt X.K W.h0 H) (nc : NC X.K W.h0 H Dd De) : ∀ (l : List DCl) {cls : Value} {d : Option Addr} {σ' : L2.St} {H' : Hp} {y : DX} {τ' : Sl} {M' : Mp},
    RS X.K H H' σ' τ' → HR X.K H' M' → XR X.K H' cls d y → hAll X.K Dd l y τ' M' → wAll X.K (liftW X.K W) De (l.map (upCl X.K W.h0)) cls d σ' H'
  | [], _, _, _, _, y, τ', M', rs, hr, xr, h => ⟨y, τ', M', rs.base (e0.trans rs.ext), hr, xr, we y τ' M' h⟩
  | k :: r, _, _, _, H', y, τ', M', rs, hr, xr, ⟨b, hb, hy, hn⟩ => by
    refine ⟨b, by rw [xr.1]; exact hb, fun eb a ha => ⟨y, xr.1, xr.2.1, slotD k.i a τ', caught y M', endD k.i Dd, ?_, caught_ok hr xr, hy eb a (hr.free ha), fun _ _ _ z => (endD_ex z).elim, ?_⟩, fun eb => wAll_of we e0 nc r rs hr xr (hn eb)⟩
    · exact RS.slotAt (rs.base (e0.trans rs.ext)) k.i a
    · exact NC.endAt (nc.mono rs.ext) k.i
theorem psd_try_all (e1 : X.stack = X.env :: X.outer) (e2 : X.env.frame = some X.env.locals) (tk : Takes X (liftW X.K W))
    (hb : ∀ (W' : DW) (pn : List (Addr × Obj)) (xe : Value → Shared → Prop), Takes (X.tr pn xe) (liftW X.K W') → PassesOwn (model X.prog X.w) X.A X.env xe → PSsD (X.tr pn xe) W' body t) (hh : HsD X W (h0 :: hs) l) :
    PSD X W (.Try body (h0 :: hs) [] [] pos) (dTryAll X.K l t) := by
  refine ⟨PSimp (ps_try_all (tb := fun Wx De σ H => ∃ W' : DW, (∀ cls d σ H, liftW X.K W' cls d σ H → Wx cls d σ H) ∧ liftS X.K W' t De σ H) e1 e2 tk (fun Wx pn xe htk hpo => ⟨fun pins s σ H De I ⟨W', hw, h⟩ => (hb W' pn xe (htk.imp hw) hpo).run.run pins s σ H De I h⟩) (hsOk_of hh)) fun De σ H ⟨τ, M, Dd, rs, hr, q, we, nc⟩ => ?_⟩
  refine ⟨⟨H, fun y τ' M' => hAll X.K Dd l y τ' M'⟩, ?_, τ, M, { Dd with ex := hAll X.K Dd l }, rs.base .refl, hr, q, fun y τ' M' h => h, (nc.base rs.ext).nx, (nc.base rs.ext).rt, (nc.base rs.ext).bk, (nc.base rs.ext).ct⟩
  rintro cls d σ' H' ⟨y, τ', M', rs', hr', xr, h⟩
  exact wAll_of we rs.ext nc l rs' hr' xr h
end
/-! ### zip, class constants, index -/
def pairsD : List D → List D → List D
  | x :: xs, y :: ys => .tup [x, y] :: pairsD xs ys
  | _, _ => []
theorem pairsD_len : ∀ {xs ys : List D}, (pairsD xs ys).length = min xs.length ys.length
  | [], _ => by simp [pairsD]
  | _ :: _, [] => by simp [pairsD]
  | x :: xs, y :: ys => by simp [pairsD, pairsD_len (xs := xs) (ys := ys), Nat.add_min_add_right]
theorem pairsD_at : ∀ {xs ys : List D} {i : Nat} {d : D}, (pairsD xs ys)[i]? = some d → ∃ x y, xs[i]? = some x ∧ ys[i]? = some y ∧ d = .tup [x, y]
  | [], _, _, _, h => by simp [pairsD] at h
  | _ :: _, [], _, _, h => by simp [pairsD] at h
  | x :: xs, y :: ys, 0, d, h => by simp [pairsD] at h; exact ⟨x, y, rfl, rfl, h.symm⟩
  | x :: xs, y :: ys, i + 1, d, h => by
    obtain ⟨a, b, h1, h2, h3⟩ := pairsD_at (xs := xs) (ys := ys) (i := i) (d := d) (by simpa [pairsD] using h)
    exact ⟨a, b, by simpa using h1, by simpa using h2, h3⟩
/-- zip of two tuples, of two lists -/
def dZip (ta : DA) : DI := fun τ M Q E => ta τ M (fun ds M1 => match ds with
  | [.tup xs, .tup ys] => xs.length ≤ sizeLine ∧ Q (pairsD xs ys) (fun _ => True) M1
  | [.ref a, .ref b] => match seqOf M1 a, seqOf M1 b with
    | some xs, some ys => xs.length ≤ sizeLine ∧ Q (pairsD xs ys) (fun M => seqOf M a = some xs ∧ seqOf M b = some ys) M1
    | _, _ => False
  | _ => False) E
theorem itOk_zipT {K : PySem.W.Frag} {H : Hp} {a b : Addr} {vs us : List V} {ds es : List D} (s1 : SqT K H a vs) (l1 : RpL K H vs ds) (s2 : SqT K H b us) (l2 : RpL K H us es) (z : ds.length ≤ sizeLine) : ItOk K H (RZ.ItzT K a b) (pairsD ds es) fun _ => True where
  small := by rw [pairsD_len]; omega
  go := fun i H1 M e _ _ hi => by
    rw [pairsD_len] at hi
    exact ⟨vs, us, vs[i]'(by rw [l1.length]; omega), us[i]'(by rw [l2.length]; omega), e.tup _ _ s1, e.tup _ _ s2, by simp, by simp⟩
  stop := fun i H1 M e _ _ hi => by
    rw [pairsD_len] at hi
    exact ⟨vs, us, e.tup _ _ s1, e.tup _ _ s2, by rw [l1.length, l2.length]; omega⟩
  yld := fun i H1 M v H2 e _ _ y => by
    obtain ⟨p, x, y', rfl, hp, rfl, hx, hy⟩ := y
    have h1 := hx vs (e.tup _ _ s1)
    have h2 := hy us (e.tup _ _ s2)
    refine ⟨.new hp, fun M' h => h.fresh hp, fun d hd => ?_⟩
    obtain ⟨da, db, q1, q2, rfl⟩ := pairsD_at hd
    obtain ⟨va, ea, ra⟩ := (l1.mono e).get q1
    obtain ⟨vb, eb, rb⟩ := (l2.mono e).get q2
    cases h1.symm.trans ea
    cases h2.symm.trans eb
    exact .tup (.of upd_same) (.cons (ra.mono (.new hp)) (.cons (rb.mono (.new hp)) .nil))
theorem itOk_zipL {K : PySem.W.Frag} {H : Hp} {a b : Addr} {ds es : List D} (z : ds.length ≤ sizeLine) : ItOk K H (Itz K a b) (pairsD ds es) fun M => seqOf M a = some ds ∧ seqOf M b = some es where
  small := by rw [pairsD_len]; omega
  go := fun i H1 M e hr hk hi => by
    rw [pairsD_len] at hi
    obtain ⟨vs, s1, l1⟩ := seqOf_ok hr hk.1
    obtain ⟨us, s2, l2⟩ := seqOf_ok hr hk.2
    exact ⟨vs, us, vs[i]'(by rw [l1.length]; omega), us[i]'(by rw [l2.length]; omega), s1, s2, by simp, by simp⟩
  stop := fun i H1 M e hr hk hi => by
    rw [pairsD_len] at hi
    obtain ⟨vs, s1, l1⟩ := seqOf_ok hr hk.1
    obtain ⟨us, s2, l2⟩ := seqOf_ok hr hk.2
    exact ⟨vs, us, s1, s2, by rw [l1.length, l2.length]; omega⟩
  yld := fun i H1 M v H2 e hr hk y => by
    obtain ⟨p, x, y', rfl, hp, rfl, hx, hy⟩ := y
    obtain ⟨vs, s1, l1⟩ := seqOf_ok hr hk.1
    obtain ⟨us, s2, l2⟩ := seqOf_ok hr hk.2
    have h1 := hx vs s1
    have h2 := hy us s2
    refine ⟨.new hp, fun M' h => h.fresh hp, fun d hd => ?_⟩
    obtain ⟨da, db, q1, q2, rfl⟩ := pairsD_at hd
    obtain ⟨va, ea, ra⟩ := l1.get q1
    obtain ⟨vb, eb, rb⟩ := l2.get q2
    cases h1.symm.trans ea
    cases h2.symm.trans eb
    exact .tup (.of upd_same) (.cons (ra.mono (.new hp)) (.cons (rb.mono (.new hp)) .nil))
section
variable {X : Cx} {W : DW} {p pos tpos : Pos} {e e2 : Expr} {elts : List Expr} {kk : Nat} {ta : DA}
theorem pid_zip (hg : Gl X "zip") (hm : X.mg "zip" = none) (ha : PAD X W [e, e2] ta) (hs : starEach [e, e2] X.env = (false, eval e X.env) :: starEach [e2] X.env := by rfl) (hpl : (backTo pos (starEach [e2] X.env)).any (·.1) = false := by rfl) :
    PID X W (.Tuple elts kk tpos) (.Call (.Name "zip" p) [e, e2] [] pos) (dZip ta) := ⟨PIimp (RZ.pi_zipA hg hm ha.run hs hpl) fun σ H R ⟨τ, M, Qd, Ed, rs, hr, q, we, k⟩ => ⟨τ, M, _, Ed, rs, hr, q, we, fun ds M1 vs H1 q1 e1 r1 h1 => by
  split at q1
  · rename_i xs ys
    obtain ⟨v, v', rfl, rv, rv'⟩ := r1.two
    obtain ⟨a, us, rfl, s1, l1⟩ := rv.toTup
    obtain ⟨b, ws, rfl, s2, l2⟩ := rv'.toTup
    exact ⟨a, b, us, ws, rfl, .inr ⟨s1, s2, k _ _ _ M1 H1 q1.2 e1 h1 (itOk_zipT s1 l1 s2 l2 q1.1)⟩⟩
  · rename_i a b
    split at q1
    · rename_i xs ys ea eb
      obtain ⟨v, v', rfl, rv, rv'⟩ := r1.two
      obtain ⟨us, s1, l1⟩ := seqOf_ok h1 ea
      obtain ⟨ws, s2, l2⟩ := seqOf_ok h1 eb
      exact ⟨a, b, us, ws, by rw [rv.toRef, rv'.toRef], .inl ⟨s1, s2, k _ _ _ M1 H1 q1.2 e1 h1 (itOk_zipL q1.1)⟩⟩
    · exact q1.elim
  · exact q1.elim⟩⟩
/-- C.f, a constant of a class -/
def CstK (K : PySem.W.Frag) (C : Addr) (f : Str) (d : D) : Prop := ∃ mc v u, ClX.CRead K C mc ∧ ClX.CVal K C mc f v u ∧ ∀ H, Rp K H v d
theorem CstK.int {K : PySem.W.Frag} {C : Addr} {f : Str} {i : Int} {t : Tok} (h1 : PySem.W.readsIn K C (.type "type") = true) (h2 : PySem.W.specialIn K (.ref C) "__getattribute__" = some (some (.builtin "type.__getattribute__"))) (h3 : PySem.W.findCls K (.ref C) (.type "type") f = some (.val (.int i t))) : CstK K C f (.int i) :=
  ⟨_, .int i, _, ⟨h1, h2⟩, ⟨h3, ⟨t, rfl⟩⟩, fun _ => .int i⟩
theorem pd_cst {C : Addr} {f : Str} {d : D} (h : CstK X.K C f d) (he : PD X W e (dC (.ref C))) (hb : attributeBase e f X.env (eval e X.env) = eval e X.env := by rfl) : PD X W (.Attribute e f pos) (dC d) :=
  ⟨PEimp (ClX.pe_cval he.run hb) fun σ H Q ⟨τ, M, Qd, Ed, rs, hr, q, we, k⟩ => ⟨τ, M, (fun x M1 => x = .ref C ∧ Qd d M1), Ed, rs, hr, ⟨rfl, q⟩, we, fun x M1 v H1 q1 e1 r1 h1 => by
    obtain ⟨rfl, q1⟩ := q1
    obtain ⟨mc, v', u, c1, c2, c3⟩ := h
    exact ⟨C, mc, v', u, r1.toRef, c1, c2, k _ M1 _ H1 q1 e1 (c3 H1) h1⟩⟩⟩
/-- xs.index(y), y is there -/
def indexM : DM := fun d ds M Q => match seqOf' d M, ds with
  | some xs, [y] => flatD y = true ∧ xs.all flatD = true ∧ ∃ j z, xs[j]? = some z ∧ eqb z y = true ∧ (∀ m z', m < j → xs[m]? = some z' → eqb z' y = false) ∧ Q (.int ((j : Nat) : Int)) M
  | _, _ => False
where seqOf' : D → Mp → Option (List D)
  | .ref a, M => seqOf M a
  | _, _ => none
theorem mt_indexM : MtR X "list.index" (liftM X.K indexM) := MtRimp mt_index fun x xs H Q ⟨d, ds, M, Qd, q, rx, rs, hr, k⟩ => by
  unfold indexM at q
  split at q
  · rename_i ys y es
    cases d with
    | ref a =>
      obtain ⟨fy, fys, j, z, hz, ez, hno, q⟩ := q
      obtain ⟨vs, s, l⟩ := seqOf_ok hr es
      obtain ⟨v, rfl, rv⟩ := rs.one
      obtain ⟨u, hu, ru⟩ := l.get hz
      have fz : flatD z = true := List.all_eq_true.mp fys z (List.mem_of_getElem? hz)
      refine ⟨a, vs, v, j, u, rx.toRef, rfl, s, flatD_ok rv fy, flatL_ok l fys, hu, by rw [eqV_flat ru rv fz fy]; exact ez, fun m z' hm h' => ?_, k _ M _ H q .refl (.int _) hr⟩
      have hlt : m < ys.length := by
        have := (List.getElem?_eq_some_iff.mp h').1
        rw [l.length] at this; exact this
      obtain ⟨w, hw, rw'⟩ := l.get (List.getElem?_eq_getElem hlt)
      cases h'.symm.trans hw
      have fw : flatD ys[m] = true := List.all_eq_true.mp fys _ (List.getElem_mem hlt)
      rw [eqV_flat rw' rv fw fy]
      exact hno m _ hm (List.getElem?_eq_getElem hlt)
    | _ => cases es
  · exact q.elim
/-! list(range(..)), tuple(range(..)) -/
def rgD (a b : Int) : List D := (List.range (b - a).toNat).map fun i => D.int (a + (i : Nat))
theorem rgD_rp {K : PySem.W.Frag} {H : Hp} {a b : Int} : RpL K H (rgV a b) (rgD a b) := by
  unfold rgV rgD
  generalize List.range (b - a).toNat = l
  induction l with
  | nil => exact .nil
  | cons x l ih => exact .cons (.int _) ih
def rgP (i j : Int) : Prop := -(2 ^ 62) ≤ i ∧ i < 2 ^ 62 ∧ -(2 ^ 62) ≤ j ∧ j < 2 ^ 62 ∧ (j - i).toNat ≤ 2 ^ 24
def rgEnds (ds : List D) (Q : Int → Int → Prop) : Prop := match ds with
  | [.int j] => rgP 0 j ∧ Q 0 j
  | [.int i, .int j] => rgP i j ∧ Q i j
  | _ => False
def dLstRg (ta : DA) : DE := fun τ M Q E => ta τ M (fun ds M1 => rgEnds ds fun i j => ∀ p, M1 p = none → Q (.ref p) (put M1 p (.lst (rgD i j)))) E
def dTupRg (ta : DA) : DE := fun τ M Q E => ta τ M (fun ds M1 => rgEnds ds fun i j => Q (.tup (rgD i j)) M1) E
variable {a b : Expr} {tx ty : DE} {p1 p2 : Pos}
theorem pd_lstRg1 (hc : X.calm = true) (hg : Gl X "list") (hm : X.mg "list" = none) (hg2 : Gl X "range") (hm2 : X.mg "range" = none) (ha : PD X W a tx) (n2 : starEach [a] X.env = (false, eval a X.env) :: starEach [] X.env := by rfl)
    (n1 : starEach [.Call (.Name "range" p2) [a] [] p1] X.env = (false, eval (.Call (.Name "range" p2) [a] [] p1) X.env) :: starEach [] X.env := by rfl) : PD X W (.Call (.Name "list" p) [.Call (.Name "range" p2) [a] [] p1] [] pos) (dLstRg (dCons tx dNil)) :=
  ⟨PEimp (pe_listRg hc hg hm (prg_1 hg2 hm2 ha.run n2) n1) fun σ H Q ⟨τ, M, Qd, Ed, rs, hr, q, we, k⟩ => by
    refine ⟨τ, M, _, Ed, rs, hr, q, we, fun d M1 v H1 q1 e1 r1 h1 => ?_⟩
    dsimp only [dNil, rgEnds] at q1
    split at q1
    · rename_i j heq
      simp only [List.cons.injEq, and_true] at heq
      subst heq
      exact ⟨j, r1.toInt, q1.1, fun p hp => (k.mono e1).lst h1 rgD_rp hp q1.2⟩
    · rename_i heq; simp at heq
    · exact q1.elim⟩
theorem pd_tupRg1 (hc : X.calm = true) (hg : Gl X "tuple") (hm : X.mg "tuple" = none) (hg2 : Gl X "range") (hm2 : X.mg "range" = none) (ha : PD X W a tx) (n2 : starEach [a] X.env = (false, eval a X.env) :: starEach [] X.env := by rfl)
    (n1 : starEach [.Call (.Name "range" p2) [a] [] p1] X.env = (false, eval (.Call (.Name "range" p2) [a] [] p1) X.env) :: starEach [] X.env := by rfl) : PD X W (.Call (.Name "tuple" p) [.Call (.Name "range" p2) [a] [] p1] [] pos) (dTupRg (dCons tx dNil)) :=
  ⟨PEimp (pe_tupRg hc hg hm (prg_1 hg2 hm2 ha.run n2) n1) fun σ H Q ⟨τ, M, Qd, Ed, rs, hr, q, we, k⟩ => by
    refine ⟨τ, M, _, Ed, rs, hr, q, we, fun d M1 v H1 q1 e1 r1 h1 => ?_⟩
    dsimp only [dNil, rgEnds] at q1
    split at q1
    · rename_i j heq
      simp only [List.cons.injEq, and_true] at heq
      subst heq
      exact ⟨j, r1.toInt, q1.1, fun p hp => (k.mono e1).tup h1 rgD_rp hp q1.2⟩
    · rename_i heq; simp at heq
    · exact q1.elim⟩
end
theorem hsd_cons {X : Cx} {W : DW} {x : Str} {nm : Option Str} {c : Value} {i : Option Nat} (ts : DX → Addr → DS) {b0 : Stmt} {su : List Stmt} {p1 p2 : Pos} {hs : List ExceptHandler} {l : List DCl} (hc : Names X x c) (hn : nameOk X nm i)
      (body : ∀ (y : DX) (a : Addr) (oe : Obj) (pn : List (Addr × Obj)), Zc y.cls y.d oe → (∃ vs, oe.data = .fields vs) → PSsD (X.suite a ((a, oe) :: pn)) (Wn W.h0) (b0 :: su) (ts y a)) (r : HsD X W hs l) :
      HsD X W (.ExceptHandler (some (.Name x p1)) nm (b0 :: su) p2 :: hs) (⟨c, i, ts⟩ :: l) := .cons (k := ⟨c, i, ts⟩) hc hn body r
end DL

set_option maxHeartbeats 4000000
namespace DU
open PySem PySem.Spec L2 DL
/-! ### trees of duels -/
inductive Tr where
  | lf (o : Int)
  | nd (s : Int) (ts : List Tr)
inductive Ch where
  | leaf (n : Nat)
  | node (n : Nat)
deriving DecidableEq
mutual
def Tr.toD : Tr → D
  | .lf o => .tup [.str "end", .int o]
  | .nd s ts => .tup (.str "node" :: .int s :: toDs ts)
def toDs : List Tr → List D
  | [] => []
  | t :: ts => t.toD :: toDs ts
end
mutual
def Tr.ends : Tr → List Int
  | .lf o => [o]
  | .nd _ ts => endsL ts
def endsL : List Tr → List Int
  | [] => []
  | t :: ts => t.ends ++ endsL ts
end
mutual
def Tr.sides : Tr → List Int
  | .lf _ => []
  | .nd s ts => s :: sidesL ts
def sidesL : List Tr → List Int
  | [] => []
  | t :: ts => t.sides ++ sidesL ts
end
def Tr.nl (t : Tr) : Nat := t.ends.length
def Tr.nn (t : Tr) : Nat := t.sides.length
def nlL (ts : List Tr) : Nat := (endsL ts).length
def nnL (ts : List Tr) : Nat := (sidesL ts).length
theorem nl_lf {o : Int} : (Tr.lf o).nl = 1 := by simp [Tr.nl, Tr.ends]
theorem nn_lf {o : Int} : (Tr.lf o).nn = 0 := by simp [Tr.nn, Tr.sides]
theorem nl_nd {s : Int} {ts : List Tr} : (Tr.nd s ts).nl = nlL ts := by simp [Tr.nl, nlL, Tr.ends]
theorem nn_nd {s : Int} {ts : List Tr} : (Tr.nd s ts).nn = nnL ts + 1 := by simp [Tr.nn, nnL, Tr.sides]
theorem nlL_nil : nlL [] = 0 := by simp [nlL, endsL]
theorem nnL_nil : nnL [] = 0 := by simp [nnL, sidesL]
theorem nlL_cons {t : Tr} {ts : List Tr} : nlL (t :: ts) = t.nl + nlL ts := by simp [nlL, Tr.nl, endsL]
theorem nnL_cons {t : Tr} {ts : List Tr} : nnL (t :: ts) = t.nn + nnL ts := by simp [nnL, Tr.nn, sidesL]
theorem toDs_map : ∀ ts : List Tr, toDs ts = ts.map Tr.toD
  | [] => by simp [toDs]
  | t :: ts => by simp [toDs, toDs_map ts]
mutual
def Tr.ht : Tr → Nat
  | .lf _ => 0
  | .nd _ ts => htL ts + 1
def htL : List Tr → Nat
  | [] => 0
  | t :: ts => max t.ht (htL ts)
end
def bit (o : Int) : Prop := o = 0 ∨ o = 1
instance (o : Int) : Decidable (bit o) := inferInstanceAs (Decidable (_ ∨ _))
mutual
def Tr.wf : Tr → Prop
  | .lf o => bit o
  | .nd s ts => bit s ∧ 1 ≤ ts.length ∧ ts.length ≤ 12 ∧ wfL ts
def wfL : List Tr → Prop
  | [] => True
  | t :: ts => t.wf ∧ wfL ts
end
theorem wfL_mem : ∀ {ts : List Tr}, wfL ts ↔ ∀ t, t ∈ ts → t.wf
  | [] => by simp [wfL]
  | t :: ts => by simp [wfL, wfL_mem (ts := ts)]
theorem htL_mem : ∀ {ts : List Tr} {t : Tr}, t ∈ ts → t.ht ≤ htL ts
  | t :: ts, u, h => by
    rw [htL]
    rcases List.mem_cons.mp h with rfl | h
    · omega
    · have := htL_mem h; omega
/-! where a tree's root and the roots beneath its nodes stand -/
def Tr.root : Tr → Nat → Nat → Ch
  | .lf _, _, l => .leaf l
  | .nd _ _, n, _ => .node n
def roots : List Tr → Nat → Nat → List Ch
  | [], _, _ => []
  | t :: ts, n, l => t.root n l :: roots ts (n + t.nn) (l + t.nl)
mutual
def Tr.kids : Tr → Nat → Nat → List (List Ch)
  | .lf _, _, _ => []
  | .nd _ ts, n, l => roots ts (n + 1) l :: kidsL ts (n + 1) l
def kidsL : List Tr → Nat → Nat → List (List Ch)
  | [], _, _ => []
  | t :: ts, n, l => t.kids n l ++ kidsL ts (n + t.nn) (l + t.nl)
end
theorem roots_len : ∀ {ts : List Tr} {n l : Nat}, (roots ts n l).length = ts.length
  | [], _, _ => rfl
  | t :: ts, n, l => by simp [roots, roots_len (ts := ts)]
mutual
theorem kids_len : ∀ (t : Tr) (n l : Nat), (t.kids n l).length = t.nn
  | .lf _, n, l => by simp [Tr.kids, nn_lf]
  | .nd _ ts, n, l => by simp [Tr.kids, nn_nd, kidsL_len ts]
theorem kidsL_len : ∀ (ts : List Tr) (n l : Nat), (kidsL ts n l).length = nnL ts
  | [], n, l => by simp [kidsL, nnL_nil]
  | t :: ts, n, l => by simp [kidsL, nnL_cons, kids_len t, kidsL_len ts]
end
/-! a rule for nodes, values of leaves -/
section
variable {α : Type} (f : Nat → Int → List α → α) (g : Nat → α)
mutual
def evalT : Tr → Nat → Nat → α
  | .lf _, _, l => g l
  | .nd s ts, n, l => f n s (evalL ts (n + 1) l)
def evalL : List Tr → Nat → Nat → List α
  | [], _, _ => []
  | t :: ts, n, l => evalT t n l :: evalL ts (n + t.nn) (l + t.nl)
end
mutual
def valsT : Tr → Nat → Nat → List α
  | .lf _, _, _ => []
  | .nd s ts, n, l => f n s (evalL f g ts (n + 1) l) :: valsL ts (n + 1) l
def valsL : List Tr → Nat → Nat → List α
  | [], _, _ => []
  | t :: ts, n, l => valsT t n l ++ valsL ts (n + t.nn) (l + t.nl)
end
mutual
theorem vals_len : ∀ (t : Tr) (n l : Nat), (valsT f g t n l).length = t.nn
  | .lf _, n, l => by simp [valsT, nn_lf]
  | .nd _ ts, n, l => by simp [valsT, nn_nd, valsL_len ts]
theorem valsL_len : ∀ (ts : List Tr) (n l : Nat), (valsL f g ts n l).length = nnL ts
  | [], n, l => by simp [valsL, nnL_nil]
  | t :: ts, n, l => by simp [valsL, nnL_cons, vals_len t, valsL_len ts]
end
/-- what stands at a root, the nodes' values being W -/
def atC (W : Nat → α) : Ch → α
  | .leaf n => g n
  | .node n => W n
theorem root_val {W : Nat → α} : ∀ (t : Tr) (n l : Nat), (∀ j x, (valsT f g t n l)[j]? = some x → W (n + j) = x) → atC g W (t.root n l) = evalT f g t n l
  | .lf _, n, l, _ => by simp [Tr.root, atC, evalT]
  | .nd s ts, n, l, h => by
    have := h 0 (f n s (evalL f g ts (n + 1) l)) (by simp [valsT])
    simp only [Tr.root, atC, evalT]
    simpa using this
theorem roots_val {W : Nat → α} : ∀ (ts : List Tr) (n l : Nat), (∀ j x, (valsL f g ts n l)[j]? = some x → W (n + j) = x) → (roots ts n l).map (atC g W) = evalL f g ts n l
  | [], n, l, _ => by simp [roots, evalL]
  | t :: ts, n, l, h => by
    simp only [roots, evalL, List.map_cons]
    have hl := vals_len f g t n l
    rw [root_val f g (W := W) t n l fun j x hx => h j x (by
      rw [valsL, List.getElem?_append_left]
      · exact hx
      · exact (List.getElem?_eq_some_iff.mp hx).1), roots_val ts (n + t.nn) (l + t.nl) fun j x hx => by
      have := h (t.nn + j) x (by
        rw [valsL, List.getElem?_append_right (by omega), hl]
        simpa using hx)
      rw [← this]; congr 1; omega]
mutual
theorem node_val {W : Nat → α} : ∀ (t : Tr) (n l : Nat), (∀ j x, (valsT f g t n l)[j]? = some x → W (n + j) = x) → ∀ (j : Nat) (s : Int) (ks : List Ch), t.sides[j]? = some s → (t.kids n l)[j]? = some ks → (valsT f g t n l)[j]? = some (f (n + j) s (ks.map (atC g W)))
  | .lf _, n, l, _, j, s, ks, h1, _ => by simp [Tr.sides] at h1
  | .nd s0 ts, n, l, h, j, s, ks, h1, h2 => by
    have hr : ∀ j x, (valsL f g ts (n + 1) l)[j]? = some x → W (n + 1 + j) = x := fun j x hx => by
      have := h (j + 1) x (by rw [valsT]; simpa using hx)
      rw [← this]; congr 1; omega
    cases j with
    | zero =>
      simp [Tr.sides] at h1
      simp [Tr.kids] at h2
      subst h1; subst h2
      rw [roots_val f g ts (n + 1) l hr]
      simp [valsT]
    | succ j =>
      simp only [Tr.sides, List.getElem?_cons_succ] at h1
      simp only [Tr.kids, List.getElem?_cons_succ] at h2
      have := nodeL_val ts (n + 1) l hr j s ks h1 h2
      rw [valsT, List.getElem?_cons_succ, this]
      congr 2; omega
theorem nodeL_val {W : Nat → α} : ∀ (ts : List Tr) (n l : Nat), (∀ j x, (valsL f g ts n l)[j]? = some x → W (n + j) = x) → ∀ (j : Nat) (s : Int) (ks : List Ch), (sidesL ts)[j]? = some s → (kidsL ts n l)[j]? = some ks → (valsL f g ts n l)[j]? = some (f (n + j) s (ks.map (atC g W)))
  | [], n, l, _, j, s, ks, h1, _ => by simp [sidesL] at h1
  | t :: ts, n, l, h, j, s, ks, h1, h2 => by
    have hl := vals_len f g t n l
    have hk := kids_len t n l
    have hs : t.sides.length = t.nn := rfl
    rw [sidesL] at h1
    rw [kidsL] at h2
    rw [valsL]
    by_cases c : j < t.nn
    · rw [List.getElem?_append_left (by omega)] at h1 h2 ⊢
      exact node_val t n l (fun i x hx => h i x (by
        rw [valsL, List.getElem?_append_left]
        · exact hx
        · exact (List.getElem?_eq_some_iff.mp hx).1)) j s ks h1 h2
    · rw [List.getElem?_append_right (by omega)] at h1 h2 ⊢
      rw [hs] at h1; rw [hk] at h2; rw [hl]
      have := nodeL_val ts (n + t.nn) (l + t.nl) (fun i x hx => by
        have := h (t.nn + i) x (by
          rw [valsL, List.getElem?_append_right (by omega), hl]
          simpa using hx)
        rw [← this]; congr 1; omega) (j - t.nn) s ks h1 h2
      rw [this]
      congr 2; omega
end
end
/-- roots beneath stand behind -/
def inR (n n2 l l2 : Nat) : Ch → Prop
  | .leaf m => l ≤ m ∧ m < l2
  | .node m => n ≤ m ∧ m < n2
theorem root_in : ∀ (t : Tr) (n l : Nat), inR n (n + t.nn) l (l + t.nl) (t.root n l)
  | .lf _, n, l => by simp [Tr.root, inR, nl_lf]
  | .nd _ ts, n, l => by simp [Tr.root, inR, nn_nd]
theorem roots_in : ∀ (ts : List Tr) (n l : Nat) (c : Ch), c ∈ roots ts n l → inR n (n + nnL ts) l (l + nlL ts) c
  | [], n, l, c, h => by simp [roots] at h
  | t :: ts, n, l, c, h => by
    rw [nnL_cons, nlL_cons]
    rcases List.mem_cons.mp h with rfl | h
    · have := root_in t n l
      cases e : t.root n l <;> rw [e] at this <;> simp only [inR] at this ⊢ <;> omega
    · have := roots_in ts _ _ c h
      cases c <;> simp only [inR] at this ⊢ <;> omega
mutual
theorem kids_in : ∀ (t : Tr) (n l j : Nat) (ks : List Ch), (t.kids n l)[j]? = some ks → ∀ c, c ∈ ks → inR (n + j + 1) (n + t.nn) l (l + t.nl) c
  | .lf _, n, l, j, ks, h, c, hc => by simp [Tr.kids] at h
  | .nd s ts, n, l, j, ks, h, c, hc => by
    rw [nn_nd, nl_nd]
    cases j with
    | zero =>
      simp [Tr.kids] at h
      subst h
      have := roots_in ts _ _ c hc
      cases c <;> simp only [inR] at this ⊢ <;> omega
    | succ j =>
      simp only [Tr.kids, List.getElem?_cons_succ] at h
      have := kidsL_in ts (n + 1) l j ks h c hc
      cases c <;> simp only [inR] at this ⊢ <;> omega
theorem kidsL_in : ∀ (ts : List Tr) (n l j : Nat) (ks : List Ch), (kidsL ts n l)[j]? = some ks → ∀ c, c ∈ ks → inR (n + j + 1) (n + nnL ts) l (l + nlL ts) c
  | [], n, l, j, ks, h, c, hc => by simp [kidsL] at h
  | t :: ts, n, l, j, ks, h, c, hc => by
    rw [nnL_cons, nlL_cons]
    have hk := kids_len t n l
    rw [kidsL] at h
    by_cases q : j < t.nn
    · rw [List.getElem?_append_left (by omega)] at h
      have := kids_in t n l j ks h c hc
      cases c <;> simp only [inR] at this ⊢ <;> omega
    · rw [List.getElem?_append_right (by omega), hk] at h
      have := kidsL_in ts _ _ (j - t.nn) ks h c hc
      cases c <;> simp only [inR] at this ⊢ <;> omega
end
end DU

set_option maxHeartbeats 4000000
namespace DU
open PySem PySem.Spec L2 DL
section
variable {α β : Type} (h : Nat → Int → List α → β) (f : Nat → Int → List α → α) (g : Nat → α)
/-! ### something for every node -/
mutual
def mapN : Tr → Nat → Nat → List β
  | .lf _, _, _ => []
  | .nd s ts, n, l => h n s (evalL f g ts (n + 1) l) :: mapNL ts (n + 1) l
def mapNL : List Tr → Nat → Nat → List β
  | [], _, _ => []
  | t :: ts, n, l => mapN t n l ++ mapNL ts (n + t.nn) (l + t.nl)
end
mutual
theorem mapN_len : ∀ (t : Tr) (n l : Nat), (mapN h f g t n l).length = t.nn
  | .lf _, n, l => by simp [mapN, nn_lf]
  | .nd _ ts, n, l => by simp [mapN, nn_nd, mapNL_len ts]
theorem mapNL_len : ∀ (ts : List Tr) (n l : Nat), (mapNL h f g ts n l).length = nnL ts
  | [], n, l => by simp [mapNL, nnL_nil]
  | t :: ts, n, l => by simp [mapNL, nnL_cons, mapN_len t, mapNL_len ts]
end
mutual
theorem node_map {W : Nat → α} : ∀ (t : Tr) (n l : Nat), (∀ j x, (valsT f g t n l)[j]? = some x → W (n + j) = x) → ∀ (j : Nat) (s : Int) (ks : List Ch), t.sides[j]? = some s → (t.kids n l)[j]? = some ks → (mapN h f g t n l)[j]? = some (h (n + j) s (ks.map (atC g W)))
  | .lf _, n, l, _, j, s, ks, h1, _ => by simp [Tr.sides] at h1
  | .nd s0 ts, n, l, hW, j, s, ks, h1, h2 => by
    have hr : ∀ j x, (valsL f g ts (n + 1) l)[j]? = some x → W (n + 1 + j) = x := fun j x hx => by
      have := hW (j + 1) x (by rw [valsT]; simpa using hx)
      rw [← this]; congr 1; omega
    cases j with
    | zero =>
      simp [Tr.sides] at h1
      simp [Tr.kids] at h2
      subst h1; subst h2
      rw [roots_val f g ts (n + 1) l hr]
      simp [mapN]
    | succ j =>
      simp only [Tr.sides, List.getElem?_cons_succ] at h1
      simp only [Tr.kids, List.getElem?_cons_succ] at h2
      have := nodeL_map ts (n + 1) l hr j s ks h1 h2
      rw [mapN, List.getElem?_cons_succ, this]
      congr 2; omega
theorem nodeL_map {W : Nat → α} : ∀ (ts : List Tr) (n l : Nat), (∀ j x, (valsL f g ts n l)[j]? = some x → W (n + j) = x) → ∀ (j : Nat) (s : Int) (ks : List Ch), (sidesL ts)[j]? = some s → (kidsL ts n l)[j]? = some ks → (mapNL h f g ts n l)[j]? = some (h (n + j) s (ks.map (atC g W)))
  | [], n, l, _, j, s, ks, h1, _ => by simp [sidesL] at h1
  | t :: ts, n, l, hW, j, s, ks, h1, h2 => by
    have hl := vals_len f g t n l
    have hm := mapN_len h f g t n l
    have hk := kids_len t n l
    have hs : t.sides.length = t.nn := rfl
    rw [sidesL] at h1
    rw [kidsL] at h2
    rw [mapNL]
    by_cases c : j < t.nn
    · rw [List.getElem?_append_left (by omega)] at h1 h2 ⊢
      exact node_map t n l (fun i x hx => hW i x (by
        rw [valsL, List.getElem?_append_left]
        · exact hx
        · exact (List.getElem?_eq_some_iff.mp hx).1)) j s ks h1 h2
    · rw [List.getElem?_append_right (by omega)] at h1 h2 ⊢
      rw [hs] at h1; rw [hk] at h2; rw [hm]
      have := nodeL_map ts (n + t.nn) (l + t.nl) (fun i x hx => by
        have := hW (t.nn + i) x (by
          rw [valsL, List.getElem?_append_right (by omega), hl]
          simpa using hx)
        rw [← this]; congr 1; omega) (j - t.nn) s ks h1 h2
      rw [this]
      congr 2; omega
end
end
/-! ### winners -/
def wrule (_ : Nat) (s : Int) (vs : List Int) : Int := if s ∈ vs then s else 1 - s
def lv (es : List Int) (l : Nat) : Int := es.getD l 0
def wins (es : List Int) (t : Tr) : List Int := valsT wrule (lv es) t 0 0
def win (es : List Int) (t : Tr) : Int := evalT wrule (lv es) t 0 0
theorem bit_flip {o : Int} (h : bit o) : bit (1 - o) := by unfold bit at *; omega
theorem lv_bit {es : List Int} (h : ∀ o, o ∈ es → bit o) (l : Nat) : bit (lv es l) := by
  unfold lv
  rw [List.getD_eq_getElem?_getD]
  cases e : es[l]? with
  | none => exact .inl rfl
  | some o => exact h o (List.mem_of_getElem? e)
section
variable {g : Nat → Int}
mutual
theorem win_bit (hg : ∀ l, bit (g l)) : ∀ (t : Tr) (n l : Nat), t.wf → bit (evalT wrule g t n l)
  | .lf _, n, l, _ => by rw [evalT]; exact hg l
  | .nd s ts, n, l, h => by
    rw [evalT]
    rw [Tr.wf] at h
    unfold wrule
    split
    · exact h.1
    · exact bit_flip h.1
theorem winL_bit (hg : ∀ l, bit (g l)) : ∀ (ts : List Tr) (n l : Nat), wfL ts → ∀ x, x ∈ evalL wrule g ts n l → bit x
  | [], n, l, _, x, hx => by simp [evalL] at hx
  | t :: ts, n, l, h, x, hx => by
    rw [wfL] at h
    rw [evalL] at hx
    rcases List.mem_cons.mp hx with rfl | hx
    · exact win_bit hg t n l h.1
    · exact winL_bit hg ts _ _ h.2 x hx
end
mutual
theorem wins_bit (hg : ∀ l, bit (g l)) : ∀ (t : Tr) (n l : Nat), t.wf → ∀ x, x ∈ valsT wrule g t n l → bit x
  | .lf _, n, l, _, x, hx => by simp [valsT] at hx
  | .nd s ts, n, l, h, x, hx => by
    have hh := win_bit hg (.nd s ts) n l h
    rw [evalT] at hh
    rw [valsT] at hx
    rw [Tr.wf] at h
    rcases List.mem_cons.mp hx with rfl | hx
    · exact hh
    · exact winsL_bit hg ts _ _ h.2.2.2 x hx
theorem winsL_bit (hg : ∀ l, bit (g l)) : ∀ (ts : List Tr) (n l : Nat), wfL ts → ∀ x, x ∈ valsL wrule g ts n l → bit x
  | [], n, l, _, x, hx => by simp [valsL] at hx
  | t :: ts, n, l, h, x, hx => by
    rw [wfL] at h
    rw [valsL] at hx
    rcases List.mem_append.mp hx with hx | hx
    · exact wins_bit hg t n l h.1 x hx
    · exact winsL_bit hg ts _ _ h.2 x hx
end
end
/-! ### exchanged -/
mutual
def Tr.sw : Tr → Tr
  | .lf o => .lf (1 - o)
  | .nd s ts => .nd (1 - s) (swL ts)
def swL : List Tr → List Tr
  | [] => []
  | t :: ts => t.sw :: swL ts
end
theorem swL_map : ∀ ts : List Tr, swL ts = ts.map Tr.sw
  | [] => by simp [swL]
  | t :: ts => by simp [swL, swL_map ts]
mutual
theorem sw_ends : ∀ t : Tr, t.sw.ends = t.ends.map (1 - ·)
  | .lf o => by simp [Tr.sw, Tr.ends]
  | .nd s ts => by simp [Tr.sw, Tr.ends, swL_ends ts]
theorem swL_ends : ∀ ts : List Tr, endsL (swL ts) = (endsL ts).map (1 - ·)
  | [] => by simp [swL, endsL]
  | t :: ts => by simp [swL, endsL, sw_ends t, swL_ends ts]
end
mutual
theorem sw_sides : ∀ t : Tr, t.sw.sides = t.sides.map (1 - ·)
  | .lf o => by simp [Tr.sw, Tr.sides]
  | .nd s ts => by simp [Tr.sw, Tr.sides, swL_sides ts]
theorem swL_sides : ∀ ts : List Tr, sidesL (swL ts) = (sidesL ts).map (1 - ·)
  | [] => by simp [swL, sidesL]
  | t :: ts => by simp [swL, sidesL, sw_sides t, swL_sides ts]
end
theorem sw_nl {t : Tr} : t.sw.nl = t.nl := by simp [Tr.nl, sw_ends]
theorem sw_nn {t : Tr} : t.sw.nn = t.nn := by simp [Tr.nn, sw_sides]
theorem sw_root : ∀ (t : Tr) (n l : Nat), t.sw.root n l = t.root n l
  | .lf _, _, _ => rfl
  | .nd _ _, _, _ => rfl
theorem swL_roots : ∀ (ts : List Tr) (n l : Nat), roots (swL ts) n l = roots ts n l
  | [], _, _ => by simp [swL, roots]
  | t :: ts, n, l => by simp [swL, roots, sw_root, sw_nn, sw_nl, swL_roots ts]
mutual
theorem sw_kids : ∀ (t : Tr) (n l : Nat), t.sw.kids n l = t.kids n l
  | .lf _, _, _ => by simp [Tr.sw, Tr.kids]
  | .nd s ts, n, l => by simp [Tr.sw, Tr.kids, swL_roots, swL_kids ts]
theorem swL_kids : ∀ (ts : List Tr) (n l : Nat), kidsL (swL ts) n l = kidsL ts n l
  | [], _, _ => by simp [swL, kidsL]
  | t :: ts, n, l => by simp [swL, kidsL, sw_kids t, sw_nn, sw_nl, swL_kids ts]
end
mutual
theorem sw_wf : ∀ t : Tr, t.wf → t.sw.wf
  | .lf o, h => by rw [Tr.wf] at h; rw [Tr.sw, Tr.wf]; exact bit_flip h
  | .nd s ts, h => by
    rw [Tr.wf] at h
    rw [Tr.sw, Tr.wf]
    exact ⟨bit_flip h.1, by simp [swL_map]; exact h.2.1, by simp [swL_map]; exact h.2.2.1, swL_wf ts h.2.2.2⟩
theorem swL_wf : ∀ ts : List Tr, wfL ts → wfL (swL ts)
  | [], _ => by simp [swL, wfL]
  | t :: ts, h => by rw [wfL] at h; rw [swL, wfL]; exact ⟨sw_wf t h.1, swL_wf ts h.2⟩
end
mutual
theorem sw_ht : ∀ t : Tr, t.sw.ht = t.ht
  | .lf o => by simp [Tr.sw, Tr.ht]
  | .nd s ts => by simp [Tr.sw, Tr.ht, swL_ht ts]
theorem swL_ht : ∀ ts : List Tr, htL (swL ts) = htL ts
  | [] => by simp [swL]
  | t :: ts => by simp [swL, htL, sw_ht t, swL_ht ts]
end
mutual
theorem sw_sw : ∀ t : Tr, t.sw.sw = t
  | .lf o => by simp only [Tr.sw]; congr 1; omega
  | .nd s ts => by
    simp only [Tr.sw, swL_swL ts]
    congr 1; omega
theorem swL_swL : ∀ ts : List Tr, swL (swL ts) = ts
  | [] => by simp [swL]
  | t :: ts => by simp [swL, sw_sw t, swL_swL ts]
end
theorem flip_mem {s : Int} {vs : List Int} : 1 - s ∈ vs.map (1 - ·) ↔ s ∈ vs := by
  rw [List.mem_map]
  constructor
  · rintro ⟨x, hx, e⟩
    have : x = s := by omega
    rw [← this]; exact hx
  · intro hx; exact ⟨s, hx, rfl⟩
mutual
theorem sw_win {g : Nat → Int} : ∀ (t : Tr) (n l : Nat), evalT wrule (fun l => 1 - g l) t.sw n l = 1 - evalT wrule g t n l
  | .lf _, n, l => by simp [Tr.sw, evalT]
  | .nd s ts, n, l => by
    simp only [Tr.sw, evalT, swL_win ts, wrule, flip_mem]
    split <;> omega
theorem swL_win {g : Nat → Int} : ∀ (ts : List Tr) (n l : Nat), evalL wrule (fun l => 1 - g l) (swL ts) n l = (evalL wrule g ts n l).map (1 - ·)
  | [], n, l => by simp [swL, evalL]
  | t :: ts, n, l => by simp [swL, evalL, sw_win t, swL_win ts, sw_nn, sw_nl]
end
/-! ### leaves of other outcomes -/
mutual
def Tr.re (es : List Int) : Tr → Nat → Tr
  | .lf _, l => .lf (lv es l)
  | .nd s ts, l => .nd s (reL es ts l)
def reL (es : List Int) : List Tr → Nat → List Tr
  | [], _ => []
  | t :: ts, l => t.re es l :: reL es ts (l + t.nl)
end
theorem reL_len {es : List Int} : ∀ {ts : List Tr} {l : Nat}, (reL es ts l).length = ts.length
  | [], l => by simp [reL]
  | t :: ts, l => by simp [reL, reL_len (ts := ts)]
mutual
theorem re_ends {es : List Int} : ∀ (t : Tr) (l : Nat), l + t.nl ≤ es.length → (t.re es l).ends = (es.drop l).take t.nl
  | .lf o, l, h => by
    rw [nl_lf] at h ⊢
    simp only [Tr.re, Tr.ends]
    have hl : l < es.length := by omega
    rw [List.drop_eq_getElem_cons hl]
    simp only [lv, List.getD_eq_getElem?_getD, List.getElem?_eq_getElem hl, Option.getD_some, List.take_succ_cons, List.take_zero]
  | .nd s ts, l, h => by
    rw [nl_nd] at h ⊢
    simp only [Tr.re, Tr.ends]
    exact reL_ends ts l h
theorem reL_ends {es : List Int} : ∀ (ts : List Tr) (l : Nat), l + nlL ts ≤ es.length → endsL (reL es ts l) = (es.drop l).take (nlL ts)
  | [], l, h => by simp [reL, endsL, nlL_nil]
  | t :: ts, l, h => by
    rw [nlL_cons] at h ⊢
    simp only [reL, endsL]
    rw [re_ends t l (by omega), reL_ends ts (l + t.nl) (by omega), ← List.drop_drop, List.take_add]
end
mutual
theorem re_sides {es : List Int} : ∀ (t : Tr) (l : Nat), (t.re es l).sides = t.sides
  | .lf o, l => by simp [Tr.re, Tr.sides]
  | .nd s ts, l => by simp [Tr.re, Tr.sides, reL_sides ts]
theorem reL_sides {es : List Int} : ∀ (ts : List Tr) (l : Nat), sidesL (reL es ts l) = sidesL ts
  | [], l => by simp [reL]
  | t :: ts, l => by simp [reL, sidesL, re_sides t, reL_sides ts]
end
mutual
theorem re_nl {es : List Int} : ∀ (t : Tr) (l : Nat), (t.re es l).nl = t.nl
  | .lf o, l => by simp [Tr.re, nl_lf]
  | .nd s ts, l => by simp [Tr.re, nl_nd, reL_nl ts]
theorem reL_nl {es : List Int} : ∀ (ts : List Tr) (l : Nat), nlL (reL es ts l) = nlL ts
  | [], l => by simp [reL]
  | t :: ts, l => by simp [reL, nlL_cons, re_nl t, reL_nl ts]
end
theorem re_nn {es : List Int} {t : Tr} {l : Nat} : (t.re es l).nn = t.nn := by simp [Tr.nn, re_sides]
mutual
theorem re_wf {es : List Int} (he : ∀ l, bit (lv es l)) : ∀ (t : Tr) (l : Nat), t.wf → (t.re es l).wf
  | .lf o, l, h => by rw [Tr.re, Tr.wf]; exact he l
  | .nd s ts, l, h => by
    rw [Tr.wf] at h
    rw [Tr.re, Tr.wf, reL_len]
    exact ⟨h.1, h.2.1, h.2.2.1, reL_wf he ts l h.2.2.2⟩
theorem reL_wf {es : List Int} (he : ∀ l, bit (lv es l)) : ∀ (ts : List Tr) (l : Nat), wfL ts → wfL (reL es ts l)
  | [], l, _ => by simp [reL, wfL]
  | t :: ts, l, h => by rw [wfL] at h; rw [reL, wfL]; exact ⟨re_wf he t l h.1, reL_wf he ts _ h.2⟩
end
mutual
theorem re_ht {es : List Int} : ∀ (t : Tr) (l : Nat), (t.re es l).ht = t.ht
  | .lf o, l => by simp [Tr.re, Tr.ht]
  | .nd s ts, l => by simp [Tr.re, Tr.ht, reL_ht ts]
theorem reL_ht {es : List Int} : ∀ (ts : List Tr) (l : Nat), htL (reL es ts l) = htL ts
  | [], l => by simp [reL]
  | t :: ts, l => by simp [reL, htL, re_ht t, reL_ht ts]
end

mutual
theorem re_eval {α : Type} {f : Nat → Int → List α → α} {g : Nat → α} {es : List Int} : ∀ (t : Tr) (n l k : Nat), evalT f g (t.re es k) n l = evalT f g t n l
  | .lf o, n, l, k => by simp [Tr.re, evalT]
  | .nd s ts, n, l, k => by simp [Tr.re, evalT, reL_eval ts]
theorem reL_eval {α : Type} {f : Nat → Int → List α → α} {g : Nat → α} {es : List Int} : ∀ (ts : List Tr) (n l k : Nat), evalL f g (reL es ts k) n l = evalL f g ts n l
  | [], n, l, k => by simp [reL]
  | t :: ts, n, l, k => by simp [reL, evalL, re_eval t, reL_eval ts, re_nn, re_nl]
end
def good (t : Tr) : Prop := t.wf ∧ t.ht ≤ 20 ∧ t.nn ≤ 200 ∧ t.nl ≤ 200
theorem good_sw {t : Tr} (h : good t) : good t.sw := ⟨sw_wf t h.1, by rw [sw_ht]; exact h.2.1, by rw [sw_nn]; exact h.2.2.1, by rw [sw_nl]; exact h.2.2.2⟩
theorem good_re {t : Tr} {es : List Int} {l : Nat} (he : ∀ l, bit (lv es l)) (h : good t) : good (t.re es l) := ⟨re_wf he t l h.1, by rw [re_ht]; exact h.2.1, by rw [re_nn]; exact h.2.2.1, by rw [re_nl]; exact h.2.2.2⟩
theorem re_ends_all {t : Tr} {es : List Int} (h : es.length = t.nl) : (t.re es 0).ends = es := by
  rw [re_ends t 0 (by omega), List.drop_zero, ← h, List.take_length]
theorem ends_bit : ∀ {t : Tr}, t.wf → ∀ o, o ∈ t.ends → bit o := by
  have both : (∀ t : Tr, t.wf → ∀ o, o ∈ t.ends → bit o) := fun t => by
    exact Tr.rec (motive_1 := fun t => t.wf → ∀ o, o ∈ t.ends → bit o) (motive_2 := fun ts => wfL ts → ∀ o, o ∈ endsL ts → bit o)
      (fun o h x hx => by rw [Tr.ends, List.mem_singleton] at hx; rw [Tr.wf] at h; subst hx; exact h)
      (fun s ts ih h x hx => by rw [Tr.ends] at hx; rw [Tr.wf] at h; exact ih h.2.2.2 x hx)
      (fun _ x hx => by simp [endsL] at hx)
      (fun t ts i1 i2 h x hx => by rw [wfL] at h; rw [endsL, List.mem_append] at hx; exact hx.elim (i1 h.1 x) (i2 h.2 x)) t
  exact fun {t} => both t
theorem sides_bit : ∀ {t : Tr}, t.wf → ∀ o, o ∈ t.sides → bit o := by
  have both : (∀ t : Tr, t.wf → ∀ o, o ∈ t.sides → bit o) := fun t => by
    exact Tr.rec (motive_1 := fun t => t.wf → ∀ o, o ∈ t.sides → bit o) (motive_2 := fun ts => wfL ts → ∀ o, o ∈ sidesL ts → bit o)
      (fun o h x hx => by simp [Tr.sides] at hx)
      (fun s ts ih h x hx => by
        rw [Tr.sides] at hx; rw [Tr.wf] at h
        rcases List.mem_cons.mp hx with rfl | hx
        · exact h.1
        · exact ih h.2.2.2 x hx)
      (fun _ x hx => by simp [sidesL] at hx)
      (fun t ts i1 i2 h x hx => by rw [wfL] at h; rw [sidesL, List.mem_append] at hx; exact hx.elim (i1 h.1 x) (i2 h.2 x)) t
  exact fun {t} => both t
end DU

set_option maxHeartbeats 4000000
namespace DU
open PySem PySem.Spec L2 DL
/-! ### plans -/
abbrev Pl := List (Option Int)
def irule (p : Pl) (n : Nat) (_ : Int) (vs : List Bool) : Bool := match p[n]? with
  | some none => vs.all id
  | some (some k) => vs.getD k.toNat false
  | none => false
def sel (p : Pl) (n : Nat) : Option Int := p.getD n none
mutual
def reachT (p : Pl) : Tr → Nat → Nat → List Nat
  | .lf _, _, l => [l]
  | .nd _ ts, n, l => reachL p (sel p n) 0 ts (n + 1) l
def reachL (p : Pl) (e : Option Int) : Nat → List Tr → Nat → Nat → List Nat
  | _, [], _, _ => []
  | i, t :: ts, n, l => (if e = none ∨ e = some (i : Int) then reachT p t n l else []) ++ reachL p e (i + 1) ts (n + t.nn) (l + t.nl)
end

mutual
def okP (p : Pl) : Tr → Nat → Prop
  | .lf _, _ => True
  | .nd _ ts, n => n < p.length ∧ (∀ k, p[n]? = some (some k) → 0 ≤ k ∧ k < ts.length) ∧ okPL p ts (n + 1)
def okPL (p : Pl) : List Tr → Nat → Prop
  | [], _ => True
  | t :: ts, n => okP p t n ∧ okPL p ts (n + t.nn)
end
theorem sel_of {p : Pl} {n : Nat} {e : Option Int} (h : p[n]? = some e) : sel p n = e := by
  unfold sel
  rw [List.getD_eq_getElem?_getD, h]; rfl
theorem reachL_one {p : Pl} {k : Int} : ∀ {ts : List Tr} {n l i : Nat}, k < (i : Int) → reachL p (some k) i ts n l = []
  | [], n, l, i, h => by simp [reachL]
  | t :: ts, n, l, i, h => by
    rw [reachL, if_neg, List.nil_append]
    · exact reachL_one (by omega)
    · rintro (z | z)
      · cases z
      · cases z; omega
section
variable (p : Pl) (g : Nat → Bool)
mutual
theorem reach_win : ∀ (t : Tr) (n l : Nat), okP p t n → evalT (irule p) g t n l = (reachT p t n l).all g
  | .lf _, n, l, _ => by simp [evalT, reachT]
  | .nd s ts, n, l, h => by
    rw [okP] at h
    obtain ⟨h1, h2, h3⟩ := h
    have e := List.getElem?_eq_getElem h1
    rw [evalT, reachT, sel_of e]
    unfold irule
    rw [e]
    cases c : p[n] with
    | none => simp only; exact reach_all ts (n + 1) l 0 h3
    | some k =>
      have hk := h2 k (by rw [e, c])
      have := reach_at ts (n + 1) l 0 k h3 (by omega) (by omega)
      simp only
      rw [← this]
      congr 1
      simp
theorem reach_all : ∀ (ts : List Tr) (n l i : Nat), okPL p ts n → (evalL (irule p) g ts n l).all id = (reachL p none i ts n l).all g
  | [], n, l, i, _ => by simp [evalL, reachL]
  | t :: ts, n, l, i, h => by
    rw [okPL] at h
    rw [evalL, reachL, if_pos (.inl rfl), List.all_cons, List.all_append, reach_win t n l h.1, reach_all ts _ _ (i + 1) h.2]
    rfl
theorem reach_at : ∀ (ts : List Tr) (n l i : Nat) (k : Int), okPL p ts n → (i : Int) ≤ k → k < i + ts.length → (evalL (irule p) g ts n l).getD (k - i).toNat false = (reachL p (some k) i ts n l).all g
  | [], n, l, i, k, _, h1, h2 => by simp at h2; omega
  | t :: ts, n, l, i, k, h, h1, h2 => by
    rw [okPL] at h
    rw [evalL, reachL]
    by_cases c : k = i
    · subst c
      rw [if_pos (.inr rfl), reachL_one (by omega), List.append_nil, ← reach_win t n l h.1]
      simp
    · rw [if_neg (by rintro (z | z); · cases z
                     · cases z; exact c rfl), List.nil_append]
      have := reach_at ts (n + t.nn) (l + t.nl) (i + 1) k h.2 (by omega) (by simp at h2; omega)
      rw [← this]
      have e : (k - (i : Int)).toNat = (k - ((i + 1 : Nat) : Int)).toNat + 1 := by omega
      rw [e, List.getD_cons_succ]
end
end
mutual
theorem reach_in (p : Pl) : ∀ (t : Tr) (n l m : Nat), m ∈ reachT p t n l → l ≤ m ∧ m < l + t.nl
  | .lf _, n, l, m, h => by rw [reachT, List.mem_singleton] at h; rw [nl_lf]; omega
  | .nd s ts, n, l, m, h => by rw [reachT] at h; rw [nl_nd]; exact reachL_in p _ _ ts _ l m h
theorem reachL_in (p : Pl) (e : Option Int) : ∀ (i : Nat) (ts : List Tr) (n l m : Nat), m ∈ reachL p e i ts n l → l ≤ m ∧ m < l + nlL ts
  | i, [], n, l, m, h => by simp [reachL] at h
  | i, t :: ts, n, l, m, h => by
    rw [nlL_cons]
    rw [reachL, List.mem_append] at h
    rcases h with h | h
    · split at h
      · have := reach_in p t n l m h; omega
      · simp at h
    · have := reachL_in p e (i + 1) ts _ _ m h; omega
end
mutual
theorem reach_ne (p : Pl) : ∀ (t : Tr) (n l : Nat), t.wf → okP p t n → reachT p t n l ≠ []
  | .lf _, n, l, _, _ => by simp [reachT]
  | .nd s ts, n, l, w, h => by
    rw [okP] at h
    rw [Tr.wf] at w
    obtain ⟨h1, h2, h3⟩ := h
    have e := List.getElem?_eq_getElem h1
    rw [reachT, sel_of e]
    cases c : p[n] with
    | none => exact reachL_ne p none ts _ l 0 w.2.2.2 h3 (by cases ts with
        | nil => simp at w
        | cons t r => exact ⟨0, by simp, .inl rfl⟩)
    | some k =>
      have hk := h2 k (by rw [e, c])
      exact reachL_ne p (some k) ts _ l 0 w.2.2.2 h3 ⟨k.toNat, by omega, .inr (by congr 1; omega)⟩
theorem reachL_ne (p : Pl) (e : Option Int) : ∀ (ts : List Tr) (n l i : Nat), wfL ts → okPL p ts n → (∃ j, j < ts.length ∧ (e = none ∨ e = some ((i + j : Nat) : Int))) → reachL p e i ts n l ≠ []
  | [], n, l, i, _, _, ⟨j, hj, _⟩ => by simp at hj
  | t :: ts, n, l, i, w, h, ⟨j, hj, he⟩ => by
    rw [wfL] at w
    rw [okPL] at h
    rw [reachL]
    cases j with
    | zero =>
      rw [if_pos (by simpa using he)]
      intro z
      exact reach_ne p t n l w.1 h.1 (List.append_eq_nil_iff.mp z).1
    | succ j =>
      intro z
      refine reachL_ne p e ts _ _ (i + 1) w.2 h.2 ⟨j, by simpa using hj, ?_⟩ (List.append_eq_nil_iff.mp z).2
      rcases he with he | he
      · exact .inl he
      · exact .inr (by rw [he]; congr 1; omega)
end
/-! exchanged -/
mutual
theorem sw_reach (p : Pl) : ∀ (t : Tr) (n l : Nat), reachT p t.sw n l = reachT p t n l
  | .lf _, n, l => by simp [Tr.sw, reachT]
  | .nd s ts, n, l => by simp [Tr.sw, reachT, swL_reach p _ ts]
theorem swL_reach (p : Pl) (e : Option Int) : ∀ (ts : List Tr) (i n l : Nat), reachL p e i (swL ts) n l = reachL p e i ts n l
  | [], i, n, l => by simp [swL, reachL]
  | t :: ts, i, n, l => by simp [swL, reachL, sw_reach p t, sw_nn, sw_nl, swL_reach p e ts]
end
mutual
theorem sw_okP (p : Pl) : ∀ (t : Tr) (n : Nat), okP p t n → okP p t.sw n
  | .lf _, n, _ => by simp [Tr.sw, okP]
  | .nd s ts, n, h => by
    rw [okP] at h
    rw [Tr.sw, okP]
    exact ⟨h.1, by simpa [swL_map] using h.2.1, swL_okP p ts _ h.2.2⟩
theorem swL_okP (p : Pl) : ∀ (ts : List Tr) (n : Nat), okPL p ts n → okPL p (swL ts) n
  | [], n, _ => by simp [swL, okPL]
  | t :: ts, n, h => by
    rw [okPL] at h
    rw [swL, okPL, sw_nn]
    exact ⟨sw_okP p t n h.1, swL_okP p ts _ h.2⟩
end
def isWin (t : Tr) (p : Pl) (goal : Int) : Bool := evalT (irule p) (fun l => decide (lv t.ends l = goal)) t 0 0
theorem isWin_reach {t : Tr} {p : Pl} {goal : Int} (h : okP p t 0) : isWin t p goal = (reachT p t 0 0).all fun l => decide (lv t.ends l = goal) := reach_win p _ t 0 0 h
theorem lv_sw {es : List Int} {l : Nat} (h : l < es.length) : lv (es.map (1 - ·)) l = 1 - lv es l := by
  unfold lv
  rw [List.getD_eq_getElem?_getD, List.getD_eq_getElem?_getD, List.getElem?_map, List.getElem?_eq_getElem h]
  rfl
theorem isWin_sw {t : Tr} {p : Pl} {goal : Int} (h : okP p t 0) : isWin t.sw p (1 - goal) = isWin t p goal := by
  rw [isWin_reach h, isWin_reach (sw_okP p t 0 h), sw_reach, sw_ends]
  rw [Bool.eq_iff_iff, List.all_eq_true, List.all_eq_true]
  constructor
  · intro q l hl
    have := q l hl
    rw [lv_sw (by have := (reach_in p t 0 0 l hl).2; simpa [Tr.nl] using this)] at this
    simp at this ⊢; omega
  · intro q l hl
    have := q l hl
    rw [lv_sw (by have := (reach_in p t 0 0 l hl).2; simpa [Tr.nl] using this)]
    simp at this ⊢; omega
/-! the winning plan -/
def prule (oc : Int) (_ : Nat) (s : Int) (vs : List Int) : Option Int := if s ≠ oc then none else if oc ∈ vs then some ((vs.idxOf oc : Nat) : Int) else some 0
def planT (oc : Int) (g : Nat → Int) (t : Tr) : Pl := mapN (prule oc) wrule g t 0 0
theorem evalL_len {α : Type} {f : Nat → Int → List α → α} {g : Nat → α} : ∀ {ts : List Tr} {n l : Nat}, (evalL f g ts n l).length = ts.length
  | [], n, l => by simp [evalL]
  | t :: ts, n, l => by simp [evalL, evalL_len (ts := ts)]
section
variable (p : Pl) (oc : Int) (g : Nat → Int)
mutual
theorem plan_ok : ∀ (t : Tr) (n l : Nat), t.wf → (∀ j x, (mapN (prule oc) wrule g t n l)[j]? = some x → p[n + j]? = some x) → okP p t n
  | .lf _, n, l, _, _ => by simp [okP]
  | .nd s ts, n, l, w, h => by
    rw [Tr.wf] at w
    rw [okP]
    have h0 := h 0 (prule oc n s (evalL wrule g ts (n + 1) l)) (by simp [mapN])
    rw [Nat.add_zero] at h0
    refine ⟨(List.getElem?_eq_some_iff.mp h0).1, fun k hk => ?_, planL_ok ts (n + 1) l w.2.2.2 fun j x hx => by
      have := h (j + 1) x (by rw [mapN]; simpa using hx)
      rw [← this]; congr 1; omega⟩
    rw [h0] at hk
    have hk := Option.some.inj hk
    unfold prule at hk
    split at hk
    · cases hk
    · split at hk
      · rename_i hm
        have := List.idxOf_lt_length_iff.mpr hm
        rw [evalL_len] at this
        cases hk; omega
      · cases hk; omega
theorem planL_ok : ∀ (ts : List Tr) (n l : Nat), wfL ts → (∀ j x, (mapNL (prule oc) wrule g ts n l)[j]? = some x → p[n + j]? = some x) → okPL p ts n
  | [], n, l, _, _ => by simp [okPL]
  | t :: ts, n, l, w, h => by
    rw [wfL] at w
    rw [okPL]
    have hl := mapN_len (prule oc) wrule g t n l
    refine ⟨plan_ok t n l w.1 fun j x hx => h j x (by
      rw [mapNL, List.getElem?_append_left]
      · exact hx
      · exact (List.getElem?_eq_some_iff.mp hx).1), planL_ok ts _ (l + t.nl) w.2 fun j x hx => by
      have := h (t.nn + j) x (by
        rw [mapNL, List.getElem?_append_right (by omega), hl]
        simpa using hx)
      rw [← this]; congr 1; omega⟩
end
mutual
theorem plan_reach (hoc : bit oc) (hg : ∀ l, bit (g l)) : ∀ (t : Tr) (n l : Nat), t.wf → (∀ j x, (mapN (prule oc) wrule g t n l)[j]? = some x → p[n + j]? = some x) → evalT wrule g t n l = oc → ∀ m, m ∈ reachT p t n l → g m = oc
  | .lf _, n, l, _, _, e, m, hm => by
    rw [reachT, List.mem_singleton] at hm
    subst hm
    simpa [evalT] using e
  | .nd s ts, n, l, w, h, e, m, hm => by
    have w' := w
    rw [Tr.wf] at w
    have h0 := h 0 (prule oc n s (evalL wrule g ts (n + 1) l)) (by simp [mapN])
    rw [Nat.add_zero] at h0
    rw [reachT, sel_of h0] at hm
    rw [evalT] at e
    have hr : ∀ j x, (mapNL (prule oc) wrule g ts (n + 1) l)[j]? = some x → p[n + 1 + j]? = some x := fun j x hx => by
      have := h (j + 1) x (by rw [mapN]; simpa using hx)
      rw [← this]; congr 1; omega
    refine planL_reach hoc hg (prule oc n s (evalL wrule g ts (n + 1) l)) ts (n + 1) l 0 w.2.2.2 hr ?_ m hm
    intro j x hx hj
    have bx := winL_bit hg ts (n + 1) l w.2.2.2 x (List.mem_of_getElem? hx)
    unfold prule at hj
    have e : (if s ∈ evalL wrule g ts (n + 1) l then s else 1 - s) = oc := e
    by_cases c : s ≠ oc
    · rw [if_pos c] at hj
      by_cases c2 : s ∈ evalL wrule g ts (n + 1) l
      · rw [if_pos c2] at e; exact absurd e c
      · rw [if_neg c2] at e
        have : x ≠ s := fun z => c2 (by rw [← z]; exact List.mem_of_getElem? hx)
        have bs := w.1
        unfold bit at bx bs hoc
        omega
    · rw [if_neg c] at hj
      have c' : s = oc := Classical.byContradiction c
      have hm2 : oc ∈ evalL wrule g ts (n + 1) l := by
        by_cases c2 : s ∈ evalL wrule g ts (n + 1) l
        · rw [← c']; exact c2
        · rw [if_neg c2] at e
          have bs := w.1
          unfold bit at bs
          omega
      rw [if_pos hm2] at hj
      rcases hj with hj | hj
      · cases hj
      · have ej : (evalL wrule g ts (n + 1) l).idxOf oc = j := by
          have := Option.some.inj hj
          omega
        have hlt := List.idxOf_lt_length_iff.mpr hm2
        have := List.getElem_idxOf hlt
        have e3 := List.getElem?_eq_getElem hlt
        rw [this, ej, hx] at e3
        exact Option.some.inj e3
theorem planL_reach (hoc : bit oc) (hg : ∀ l, bit (g l)) (e : Option Int) : ∀ (ts : List Tr) (n l i : Nat), wfL ts → (∀ j x, (mapNL (prule oc) wrule g ts n l)[j]? = some x → p[n + j]? = some x) →
    (∀ j x, (evalL wrule g ts n l)[j]? = some x → (e = none ∨ e = some ((i + j : Nat) : Int)) → x = oc) → ∀ m, m ∈ reachL p e i ts n l → g m = oc
  | [], n, l, i, _, _, _, m, hm => by simp [reachL] at hm
  | t :: ts, n, l, i, w, h, hx, m, hm => by
    rw [wfL] at w
    have hl := mapN_len (prule oc) wrule g t n l
    rw [reachL, List.mem_append] at hm
    rcases hm with hm | hm
    · split at hm
      · rename_i he
        refine plan_reach hoc hg t n l w.1 (fun j x hx => h j x (by
          rw [mapNL, List.getElem?_append_left]
          · exact hx
          · exact (List.getElem?_eq_some_iff.mp hx).1)) (hx 0 _ (by simp [evalL]) (by simpa using he)) m hm
      · simp at hm
    · refine planL_reach hoc hg e ts _ _ (i + 1) w.2 (fun j x hx => ?_) (fun j x hj he => hx (j + 1) x (by rw [evalL]; simpa using hj) ?_) m hm
      · have := h (t.nn + j) x (by
          rw [mapNL, List.getElem?_append_right (by omega), hl]
          simpa using hx)
        rw [← this]; congr 1; omega
      · rcases he with he | he
        · exact .inl he
        · exact .inr (by rw [he]; congr 1; omega)
end
end
theorem flip_idx {oc : Int} : ∀ {vs : List Int}, (vs.map (1 - ·)).idxOf (1 - oc) = vs.idxOf oc
  | [] => rfl
  | v :: vs => by
    rw [List.map_cons, List.idxOf_cons, List.idxOf_cons, flip_idx (vs := vs)]
    by_cases c : v = oc
    · subst c; simp
    · have c2 : ¬ (1 - v = 1 - oc) := by omega
      rw [beq_eq_false_iff_ne.mpr c, beq_eq_false_iff_ne.mpr c2]
theorem flip_prule {oc : Int} {n : Nat} {s : Int} {vs : List Int} : prule (1 - oc) n (1 - s) (vs.map (1 - ·)) = prule oc n s vs := by
  unfold prule
  rw [flip_idx]
  simp only [flip_mem]
  by_cases c : s = oc
  · subst c; simp
  · have : ¬ (1 - s = 1 - oc) := by omega
    simp [c, this]
mutual
theorem sw_planN {oc : Int} {g : Nat → Int} : ∀ (t : Tr) (n l : Nat), mapN (prule (1 - oc)) wrule (fun l => 1 - g l) t.sw n l = mapN (prule oc) wrule g t n l
  | .lf _, n, l => by simp [Tr.sw, mapN]
  | .nd s ts, n, l => by
    rw [Tr.sw, mapN, mapN, swL_win, flip_prule, sw_planNL ts]
theorem sw_planNL {oc : Int} {g : Nat → Int} : ∀ (ts : List Tr) (n l : Nat), mapNL (prule (1 - oc)) wrule (fun l => 1 - g l) (swL ts) n l = mapNL (prule oc) wrule g ts n l
  | [], n, l => by simp [swL, mapNL]
  | t :: ts, n, l => by rw [swL, mapNL, mapNL, sw_planN t, sw_nn, sw_nl, sw_planNL ts]
end
end DU

set_option maxHeartbeats 4000000
namespace DU
open PySem PySem.Spec L2 DL
/-! ### how many outcomes of the leaves a side wins -/
def pk (c : Int × Int) (v : Int) : Int := if v = 0 then c.1 else c.2
mutual
def cT : Tr → Int × Int
  | .lf _ => (1, 1)
  | .nd s ts => if s = 0 then ((cL (1 - s) ts).1 - (cL (1 - s) ts).2, (cL (1 - s) ts).2) else ((cL (1 - s) ts).2, (cL (1 - s) ts).1 - (cL (1 - s) ts).2)
def cL (v : Int) : List Tr → Int × Int
  | [] => (1, 1)
  | t :: ts => (((cT t).1 + (cT t).2) * (cL v ts).1, pk (cT t) v * (cL v ts).2)
end
def bt (x l : Nat) : Int := ((x / 2 ^ l % 2 : Nat) : Int)
theorem bt_bit (x l : Nat) : bit (bt x l) := by
  unfold bt bit
  have := Nat.mod_lt (x / 2 ^ l) (show 0 < 2 by omega)
  omega
section
variable {α : Type} {f : Nat → Int → List α → α}
mutual
theorem eval_congr {g g' : Nat → α} : ∀ (t : Tr) (n l : Nat), (∀ m, l ≤ m → m < l + t.nl → g m = g' m) → evalT f g t n l = evalT f g' t n l
  | .lf _, n, l, h => by rw [evalT, evalT]; exact h l (by omega) (by rw [nl_lf]; omega)
  | .nd s ts, n, l, h => by rw [evalT, evalT, evalL_congr ts (n + 1) l fun m h1 h2 => h m h1 (by rw [nl_nd]; exact h2)]
theorem evalL_congr {g g' : Nat → α} : ∀ (ts : List Tr) (n l : Nat), (∀ m, l ≤ m → m < l + nlL ts → g m = g' m) → evalL f g ts n l = evalL f g' ts n l
  | [], n, l, h => by simp [evalL]
  | t :: ts, n, l, h => by
    rw [nlL_cons] at h
    rw [evalL, evalL, eval_congr t n l fun m h1 h2 => h m h1 (by omega), evalL_congr ts _ _ fun m h1 h2 => h m (by omega) (by omega)]
end
end
mutual
theorem win_shift {g : Nat → Int} {k : Nat} : ∀ (t : Tr) (n n' l : Nat), evalT wrule g t n (k + l) = evalT wrule (fun m => g (k + m)) t n' l
  | .lf _, n, n', l => by rw [evalT, evalT]
  | .nd s ts, n, n', l => by rw [evalT, evalT, winL_shift ts (n + 1) (n' + 1) l]; rfl
theorem winL_shift {g : Nat → Int} {k : Nat} : ∀ (ts : List Tr) (n n' l : Nat), evalL wrule g ts n (k + l) = evalL wrule (fun m => g (k + m)) ts n' l
  | [], n, n', l => by simp [evalL]
  | t :: ts, n, n', l => by rw [evalL, evalL, win_shift t n n' l, Nat.add_assoc, winL_shift ts _ (n' + t.nn) (l + t.nl)]
end
def cnt (N : Nat) (P : Nat → Bool) : Nat := (List.range N).countP P
theorem cnt_congr {N : Nat} {P P' : Nat → Bool} (h : ∀ x, x < N → P x = P' x) : cnt N P = cnt N P' := by
  unfold cnt
  exact List.countP_congr fun x hx => by rw [h x (List.mem_range.mp hx)]
theorem cnt_succ {N : Nat} {P : Nat → Bool} : cnt (N + 1) P = cnt N P + if P N = true then 1 else 0 := by
  unfold cnt
  rw [List.range_succ, List.countP_append]
  simp [List.countP_cons]
theorem cnt_add {N k : Nat} {P : Nat → Bool} : cnt (N + k) P = cnt N P + cnt k (fun x => P (N + x)) := by
  induction k with
  | zero => simp [cnt]
  | succ k ih => rw [← Nat.add_assoc, cnt_succ, ih, cnt_succ]; omega
theorem cnt_mul {m : Nat} (hm : 0 < m) {A B : Nat → Bool} : ∀ k, cnt (m * k) (fun x => A (x % m) && B (x / m)) = cnt m A * cnt k B
  | 0 => by simp [cnt]
  | k + 1 => by
    rw [Nat.mul_succ, cnt_add, cnt_mul hm k, cnt_succ]
    have : cnt m (fun x => A ((m * k + x) % m) && B ((m * k + x) / m)) = cnt m fun x => A x && B k := cnt_congr fun x hx => by
      rw [Nat.mul_add_mod, Nat.mod_eq_of_lt hx, Nat.mul_add_div hm, Nat.div_eq_of_lt hx, Nat.add_zero]
    rw [this, Nat.mul_add]
    congr 1
    cases B k
    · simp [cnt]
    · simp
theorem cnt_not {N : Nat} {P : Nat → Bool} : cnt N (fun x => !P x) + cnt N P = N := by
  induction N with
  | zero => simp [cnt]
  | succ N ih =>
    rw [cnt_succ, cnt_succ]
    cases P N <;> simp <;> omega
theorem bt_low {x l m : Nat} (h : l < m) : bt (x % 2 ^ m) l = bt x l := by
  unfold bt
  obtain ⟨k, rfl⟩ : ∃ k, m = l + (k + 1) := ⟨m - l - 1, by omega⟩
  congr 1
  rw [Nat.pow_add, Nat.mod_mul_right_div_self, Nat.pow_succ, Nat.mul_comm, Nat.mod_mul_right_mod]
theorem bt_high {x l m : Nat} : bt x (m + l) = bt (x / 2 ^ m) l := by
  unfold bt
  rw [Nat.pow_add, Nat.div_div_eq_div_mul]
def wx (t : Tr) (x : Nat) : Int := evalT wrule (bt x) t 0 0
def allx (v : Int) (ts : List Tr) (x : Nat) : Bool := (evalL wrule (bt x) ts 0 0).all fun y => decide (y = v)
theorem allx_cons {v : Int} {t : Tr} {ts : List Tr} {x : Nat} : allx v (t :: ts) x = (decide (wx t (x % 2 ^ t.nl) = v) && allx v ts (x / 2 ^ t.nl)) := by
  unfold allx wx
  rw [evalL, List.all_cons]
  have h1 : evalT wrule (bt (x % 2 ^ t.nl)) t 0 0 = evalT wrule (bt x) t 0 0 := eval_congr t 0 0 fun m _ h => bt_low (by omega)
  have h2 : evalL wrule (bt x) ts (0 + t.nn) (0 + t.nl) = evalL wrule (bt (x / 2 ^ t.nl)) ts 0 0 := by
    have := winL_shift (g := bt x) (k := t.nl) ts (0 + t.nn) 0 0
    rw [Nat.add_zero] at this
    rw [Nat.zero_add t.nl, this]
    congr 1
    funext m
    exact bt_high
  rw [h1, h2]
theorem leaf_cnt {v : Int} (hv : bit v) : (1 : Int) = (cnt (2 ^ 1) fun x => decide (bt x 0 = v) : Nat) := by
  rcases hv with rfl | rfl <;> decide +kernel
mutual
theorem cT_cnt : ∀ (t : Tr), t.wf → (∀ v, bit v → pk (cT t) v = (cnt (2 ^ t.nl) fun x => decide (wx t x = v) : Nat)) ∧ (cT t).1 + (cT t).2 = ((2 ^ t.nl : Nat) : Int)
  | .lf o, _ => by
    have a : ∀ v, bit v → pk (cT (.lf o)) v = (cnt (2 ^ (Tr.lf o).nl) fun x => decide (wx (.lf o) x = v) : Nat) := fun v hv => by
      rw [nl_lf, cT]
      unfold wx pk
      simp only [evalT, ite_self]
      exact leaf_cnt hv
    exact ⟨a, by rw [nl_lf, cT]; rfl⟩
  | .nd s ts, w => by
    rw [Tr.wf] at w
    obtain ⟨hs, _, _, w⟩ := w
    obtain ⟨a1, a2⟩ := cL_cnt (1 - s) (bit_flip hs) ts w
    have key : ∀ x, wx (.nd s ts) x = if allx (1 - s) ts x = true then 1 - s else s := fun x => by
      have b := winL_bit (g := bt x) (bt_bit x) ts 1 0 w
      have e0 : evalL wrule (bt x) ts 1 0 = evalL wrule (bt x) ts 0 0 := by
        have := winL_shift (g := bt x) (k := 0) ts 1 0 0
        simpa using this
      unfold wx
      rw [evalT, Nat.zero_add, e0]
      rw [e0] at b
      show (if s ∈ evalL wrule (bt x) ts 0 0 then s else 1 - s) = _
      unfold allx
      by_cases c : s ∈ evalL wrule (bt x) ts 0 0
      · rw [if_pos c, if_neg]
        intro z
        have := List.all_eq_true.mp z s c
        simp at this
        unfold bit at hs
        omega
      · rw [if_neg c, if_pos]
        refine List.all_eq_true.mpr fun y hy => ?_
        have by_ := b y hy
        have : y ≠ s := fun z => c (z ▸ hy)
        unfold bit at hs by_
        simp
        omega
    have lost : ((cnt (2 ^ (Tr.nd s ts).nl) fun x => decide (wx (.nd s ts) x = 1 - s) : Nat) : Int) = (cL (1 - s) ts).2 := by
      rw [a2, nl_nd]
      congr 1
      refine cnt_congr fun x _ => ?_
      rw [key]
      by_cases c : allx (1 - s) ts x = true
      · rw [if_pos c, c]; simp
      · rw [if_neg c]
        have : allx (1 - s) ts x = false := by simpa using c
        rw [this]
        unfold bit at hs
        simp
        omega
    have won : ((cnt (2 ^ (Tr.nd s ts).nl) fun x => decide (wx (.nd s ts) x = s) : Nat) : Int) = (cL (1 - s) ts).1 - (cL (1 - s) ts).2 := by
      rw [← lost, a1, ← nl_nd (s := s)]
      have h : (cnt (2 ^ (Tr.nd s ts).nl) fun x => decide (wx (.nd s ts) x = s)) = cnt (2 ^ (Tr.nd s ts).nl) fun x => !decide (wx (.nd s ts) x = 1 - s) := cnt_congr fun x _ => by
        rw [key]
        unfold bit at hs
        split
        · simp; omega
        · simp; omega
      have := cnt_not (N := 2 ^ (Tr.nd s ts).nl) (P := fun x => decide (wx (.nd s ts) x = 1 - s))
      rw [h]
      omega
    refine ⟨fun v hv => ?_, ?_⟩
    · rw [cT]
      unfold pk
      rcases hs with rfl | rfl <;> rcases hv with rfl | rfl <;> simp at lost won ⊢ <;> omega
    · rw [cT, nl_nd, ← a1]
      split <;> simp <;> omega
theorem cL_cnt (v : Int) (hv : bit v) : ∀ (ts : List Tr), wfL ts → (cL v ts).1 = ((2 ^ nlL ts : Nat) : Int) ∧ (cL v ts).2 = (cnt (2 ^ nlL ts) (allx v ts) : Nat)
  | [], _ => by
    rw [nlL_nil, cL]
    refine ⟨rfl, ?_⟩
    unfold cnt allx
    simp [evalL]
  | t :: ts, w => by
    rw [wfL] at w
    obtain ⟨a1, a2⟩ := cT_cnt t w.1
    obtain ⟨b1, b2⟩ := cL_cnt v hv ts w.2
    rw [nlL_cons, cL, Nat.pow_add]
    refine ⟨by rw [a2, b1, Int.natCast_mul], ?_⟩
    show pk (cT t) v * (cL v ts).2 = _
    rw [a1 v hv, b2, ← Int.natCast_mul]
    congr 1
    rw [← cnt_mul (Nat.pow_pos (by omega))]
    exact cnt_congr fun x _ => allx_cons.symm
end
end DU

set_option maxHeartbeats 4000000
namespace DU
open PySem PySem.Spec L2 DL
/-! ### how the program and the laws hold duels -/
def chD : Ch → D
  | .leaf l => .tup [.str "leaf", .int ((l : Nat) : Int)]
  | .node n => .tup [.str "node", .int ((n : Nat) : Int)]
def lchD : Ch → D
  | .leaf l => .tup [.int 0, .int ((l : Nat) : Int)]
  | .node n => .tup [.int 1, .int ((n : Nat) : Int)]
def plD : Option Int → D
  | none => .non
  | some i => .int i
def planD (p : Pl) : D := .tup (p.map plD)
def intsD (es : List Int) : D := .tup (es.map D.int)
def kidsD (ks : List Ch) : D := .tup (ks.map chD)
def duelF (t : Tr) : List (Str × D) := [("root", chD (t.root 0 0)), ("tree", t.toD), ("ends", intsD t.ends), ("sides", intsD t.sides), ("children", .tup ((t.kids 0 0).map kidsD))]
def DuelAt (C : Addr) (M : Mp) (a : Addr) (t : Tr) : Prop := M a = some (.ins C (duelF t))
theorem duelF_root {t : Tr} : (duelF t).lookup ("root" : Str) = some ((chD (t.root 0 0)) : D) := rfl
theorem duelF_tree {t : Tr} : (duelF t).lookup ("tree" : Str) = some (t.toD : D) := rfl
theorem duelF_ends {t : Tr} : (duelF t).lookup ("ends" : Str) = some ((intsD t.ends) : D) := rfl
theorem duelF_sides {t : Tr} : (duelF t).lookup ("sides" : Str) = some ((intsD t.sides) : D) := rfl
theorem duelF_children {t : Tr} : (duelF t).lookup ("children" : Str) = some ((D.tup ((t.kids 0 0).map kidsD)) : D) := rfl
def ar (t : Tr) : List Nat := (t.kids 0 0).map List.length
theorem ar_len {t : Tr} : (ar t).length = t.nn := by unfold ar; rw [List.length_map, kids_len]
def okAt (p : Pl) (ks : List Nat) (i : Nat) : Prop := ∃ e k, p[i]? = some e ∧ ks[i]? = some k ∧ ∀ o : Int, e = some o → 0 ≤ o ∧ o < k
def plOk (t : Tr) (p : Pl) : Prop := p.length = t.nn ∧ ∀ i, i < t.nn → okAt p (ar t) i
def firstBad (t : Tr) (p : Pl) (i : Nat) : Prop := i < max p.length t.nn ∧ (∀ j, j < i → okAt p (ar t) j) ∧ ¬ okAt p (ar t) i
/-- the law's list of nodes: u stands from node n, leaf l on -/
def NodesIn (M : Mp) (rs : List Addr) (ss : List Int) (ks : List (List Ch)) (n : Nat) : Prop := ∀ (j : Nat) (s : Int) (k : List Ch), ss[j]? = some s → ks[j]? = some k → ∃ r o, rs[n + j]? = some r ∧ M r = some (.lst [.int s, .ref o]) ∧ M o = some (.lst (k.map lchD))
def NodesAt (M : Mp) (a : Addr) (t : Tr) : Prop := ∃ rs : List Addr, M a = some (.lst (rs.map D.ref)) ∧ rs.length = t.nn ∧ NodesIn M rs t.sides (t.kids 0 0) 0
mutual
theorem okP_of {p : Pl} : ∀ (t : Tr) (n l : Nat), (∀ j ks, (t.kids n l)[j]? = some ks → ∃ e, p[n + j]? = some e ∧ ∀ o : Int, e = some o → 0 ≤ o ∧ o < ks.length) → okP p t n
  | .lf _, n, l, _ => by simp [okP]
  | .nd s ts, n, l, h => by
    rw [okP]
    obtain ⟨e, h1, h2⟩ := h 0 (roots ts (n + 1) l) (by simp [Tr.kids])
    rw [Nat.add_zero] at h1
    refine ⟨(List.getElem?_eq_some_iff.mp h1).1, fun k hk => ?_, okPL_of ts (n + 1) l fun j ks hj => ?_⟩
    · rw [h1] at hk
      have := h2 k (by simpa using hk)
      rwa [roots_len] at this
    · have := h (j + 1) ks (by rw [Tr.kids, List.getElem?_cons_succ]; exact hj)
      rw [show n + (j + 1) = n + 1 + j by omega] at this
      exact this
theorem okPL_of {p : Pl} : ∀ (ts : List Tr) (n l : Nat), (∀ j ks, (kidsL ts n l)[j]? = some ks → ∃ e, p[n + j]? = some e ∧ ∀ o : Int, e = some o → 0 ≤ o ∧ o < ks.length) → okPL p ts n
  | [], n, l, _ => by simp [okPL]
  | t :: ts, n, l, h => by
    rw [okPL]
    refine ⟨okP_of t n l fun j ks hj => h j ks ?_, okPL_of ts (n + t.nn) (l + t.nl) fun j ks hj => ?_⟩
    · have hl := (List.getElem?_eq_some_iff.mp hj).1
      rw [kidsL, List.getElem?_append_left hl]; exact hj
    · have := h (t.nn + j) ks (by rw [kidsL, List.getElem?_append_right (by rw [kids_len]; omega), kids_len, Nat.add_sub_cancel_left]; exact hj)
      rw [← Nat.add_assoc] at this
      exact this
end
theorem plOk_okP {t : Tr} {p : Pl} (h : plOk t p) : okP p t 0 := okP_of t 0 0 fun j ks hj => by
  have hl := (List.getElem?_eq_some_iff.mp hj).1
  rw [kids_len] at hl
  obtain ⟨e, k, h1, h2, h3⟩ := h.2 j hl
  refine ⟨e, by rw [Nat.zero_add]; exact h1, fun o ho => ?_⟩
  unfold ar at h2
  rw [List.getElem?_map, hj] at h2
  simp at h2
  rw [h2]
  exact h3 o ho
theorem NodesIn.ext {S : Addr → Prop} {M M' : Mp} {rs : List Addr} {ss : List Int} {ks : List (List Ch)} {n : Nat} (h : NodesIn M rs ss ks n) (e : Ext S M M') (hs : ∀ x, S x → ∀ s o, M x ≠ some (.lst [.int s, .ref o])) (hs2 : ∀ x, S x → ∀ k : List Ch, M x ≠ some (.lst (k.map lchD))) : NodesIn M' rs ss ks n := fun j s k h1 h2 => by
  obtain ⟨r, o, e1, e2, e3⟩ := h j s k h1 h2
  exact ⟨r, o, e1, e _ _ (fun z => hs r z s o e2) e2, e _ _ (fun z => hs2 o z k e3) e3⟩
theorem NodesIn.sub {M M' : Mp} {rs : List Addr} {ss : List Int} {ks : List (List Ch)} {n : Nat} (h : NodesIn M rs ss ks n) (e : Sub M M') : NodesIn M' rs ss ks n := h.ext (S := fun _ => False) (.sub e) (fun _ z => z.elim) fun _ z => z.elim
theorem pst_ne2 {M : Mp} {s l a : Addr} {ns : List Int} {xs : List D} (P : PSt M s l ns) (h : M a = some (.lst xs)) (n : xs.length ≠ 4 ∨ ∃ d, xs[0]? = some d ∧ ∀ i, d ≠ .int i) : a ≠ s := by
  rintro rfl
  obtain ⟨_, _, _, _, _, hs, _⟩ := P
  rw [hs] at h
  simp only [Option.some.injEq, MO.lst.injEq] at h
  rcases n with n | ⟨d, h1, h2⟩
  · rw [← h] at n; simp at n
  · rw [← h] at h1
    simp at h1
    exact h2 _ h1.symm
theorem NodesIn.draw {M M' : Mp} {s l : Addr} {ns : List Int} {rs : List Addr} {ss : List Int} {ks : List (List Ch)} {n : Nat} (h : NodesIn M rs ss ks n) (P : PSt M s l ns) (e : Ext (Is s) M M') : NodesIn M' rs ss ks n := h.ext e (fun x hx a b q => pst_ne2 P q (.inl (by simp)) hx) fun x hx k q => by
  cases k with
  | nil => exact pst_ne2 P q (.inl (by simp)) hx
  | cons c k => exact pst_ne2 P q (.inr ⟨lchD c, by simp, fun i => by cases c <;> simp [lchD]⟩) hx
theorem NodesAt.draw {M M' : Mp} {s l a : Addr} {ns : List Int} {t : Tr} (h : NodesAt M a t) (P : PSt M s l ns) (e : Ext (Is s) M M') : NodesAt M' a t := by
  obtain ⟨rs, h1, h2, h3⟩ := h
  refine ⟨rs, e _ _ (fun hx => ?_) h1, h2, h3.draw P e⟩
  cases rs with
  | nil => exact pst_ne2 P h1 (.inl (by simp)) hx
  | cons r rs => exact pst_ne2 P h1 (.inr ⟨.ref r, by simp, fun i => by simp⟩) hx
theorem DuelAt.draw {C : Addr} {M M' : Mp} {s l a : Addr} {ns : List Int} {t : Tr} (h : DuelAt C M a t) (P : PSt M s l ns) (e : Ext (Is s) M M') : DuelAt C M' a t := e _ _ (by
  rintro rfl
  obtain ⟨_, _, _, _, _, hs, _⟩ := P
  rw [DuelAt, hs] at h; cases h) h
theorem NodesAt.sub {M M' : Mp} {a : Addr} {t : Tr} (h : NodesAt M a t) (e : Sub M M') : NodesAt M' a t := by
  obtain ⟨rs, h1, h2, h3⟩ := h
  exact ⟨rs, e _ _ h1, h2, h3.sub e⟩
/-- values of a list or a tuple -/
def sq : D → Mp → Option (List D)
  | .tup xs, _ => some xs
  | .ref a, M => seqOf M a
  | _, _ => none
theorem ixG_sq {d : D} {M : Mp} {xs : List D} {i : Nat} {v : D} {Q : DK} (h : sq d M = some xs) (e : xs[i]? = some v) : ixG d (.int ((i : Nat) : Int)) M Q = Q v M := by
  cases d <;> simp [sq] at h
  · subst h; exact ixG_nat e
  · unfold ixG
    simp only [h, Option.bind_some, atI_nat e]
/-! lists of trees -/
theorem endsL_app : ∀ (ts us : List Tr), endsL (ts ++ us) = endsL ts ++ endsL us
  | [], us => by simp [endsL]
  | t :: ts, us => by simp [endsL, endsL_app ts us]
theorem sidesL_app : ∀ (ts us : List Tr), sidesL (ts ++ us) = sidesL ts ++ sidesL us
  | [], us => by simp [sidesL]
  | t :: ts, us => by simp [sidesL, sidesL_app ts us]
theorem nlL_app {ts us : List Tr} : nlL (ts ++ us) = nlL ts + nlL us := by simp [nlL, endsL_app]
theorem nnL_app {ts us : List Tr} : nnL (ts ++ us) = nnL ts + nnL us := by simp [nnL, sidesL_app]
theorem nlL_rev {ts : List Tr} : nlL ts.reverse = nlL ts := by
  induction ts with
  | nil => rfl
  | cons t ts ih => rw [List.reverse_cons, nlL_app, ih, nlL_cons, nlL_cons, nlL_nil]; omega
theorem nnL_rev {ts : List Tr} : nnL ts.reverse = nnL ts := by
  induction ts with
  | nil => rfl
  | cons t ts ih => rw [List.reverse_cons, nnL_app, ih, nnL_cons, nnL_cons, nnL_nil]; omega
theorem htL_le {ts : List Tr} {n : Nat} : htL ts ≤ n ↔ ∀ t, t ∈ ts → t.ht ≤ n := by
  induction ts with
  | nil => simp [htL]
  | cons t ts ih => simp [htL, Nat.max_le, ih]
theorem kidsL_app : ∀ (ts us : List Tr) (n l : Nat), kidsL (ts ++ us) n l = kidsL ts n l ++ kidsL us (n + nnL ts) (l + nlL ts)
  | [], us, n, l => by simp [kidsL, nnL_nil, nlL_nil]
  | t :: ts, us, n, l => by rw [List.cons_append, kidsL, kidsL_app ts us, kidsL, List.append_assoc, nnL_cons, nlL_cons, Nat.add_assoc, Nat.add_assoc]
theorem roots_app : ∀ (ts us : List Tr) (n l : Nat), roots (ts ++ us) n l = roots ts n l ++ roots us (n + nnL ts) (l + nlL ts)
  | [], us, n, l => by simp [roots, nnL_nil, nlL_nil]
  | t :: ts, us, n, l => by rw [List.cons_append, roots, roots_app ts us, roots, List.cons_append, nnL_cons, nlL_cons, Nat.add_assoc, Nat.add_assoc]
/-- a comprehension of pure items -/
theorem dCL_map {α : Type} {G : D → Sl → Sl} {te : DE} {kp : Mp → Prop} {p : Addr} {τ : Sl} {F : Mp → Prop} {its : List D} {M : Mp} {xs : List α} (g f : α → D) (hi : its = xs.map g) (hl : xs.length ≤ 16000000) (hk : ∀ ys, kp (put M p (.lst ys)))
    (step : ∀ a, a ∈ xs → ∀ (ys : List D) (k : D → Mp → Prop), k (f a) (put M p (.lst ys)) → te (G (g a) τ) (put M p (.lst ys)) k noE) (done : F (put M p (.lst (xs.map f)))) : dCL G dYes te kp p τ F its (put M p (.lst [])) := by
  subst hi
  refine dCL_pure f (xs.map some) (by simp) (by simpa using hl) hk ?_ ?_
  · intro i d a ys k k2 h1 h2 q1 q2
    rw [List.getElem?_map] at h1 h2
    cases e : xs[i]? with
    | none => rw [e] at h1; cases h1
    | some x =>
      rw [e] at h1 h2
      simp at h1 h2
      subst h1; subst h2
      unfold dYes
      simp only [if_true]
      exact step x (List.mem_of_getElem? e) ys k (q1 x rfl)
  · rw [List.filterMap_map]
    have : (id ∘ some : α → Option α) = some := rfl
    rw [this, List.filterMap_some]
    exact done
end DU

set_option maxHeartbeats 4000000
namespace K43
open PySem PySem.Spec L2 DL
/-! ### the text by places -/
def top (i : Nat) : Stmt := PySem.Challenge.pw_proofchoosers_k43_side_plans_played.main.body.getD i (.Pass ⟨0, 0, 0, 0⟩)
/-- the addresses of the classes -/
structure Adr where
  (ProofsError InvalidText InvalidTerm InvalidDuel OutOfRange SizeMismatch TooLarge InvalidPlan Duel : Addr)
/-- what the written part says of the names -/
structure Txt (w : World) (K : PySem.W.Frag) (mg : Str → Option Value) (A : Adr) : Prop where
  n_all : mg "all" = none
  n_bool : mg "bool" = none
  n_int : mg "int" = none
  n_isinstance : mg "isinstance" = none
  n_len : mg "len" = none
  n_list : mg "list" = none
  n_max : mg "max" = none
  n_min : mg "min" = none
  n_range : mg "range" = none
  n_str : mg "str" = none
  n_tuple : mg "tuple" = none
  n_zip : mg "zip" = none
  m_ProofsError : mg "ProofsError" = some (.ref A.ProofsError)
  m_InvalidText : mg "InvalidText" = some (.ref A.InvalidText)
  m_InvalidTerm : mg "InvalidTerm" = some (.ref A.InvalidTerm)
  m_InvalidDuel : mg "InvalidDuel" = some (.ref A.InvalidDuel)
  m_OutOfRange : mg "OutOfRange" = some (.ref A.OutOfRange)
  m_SizeMismatch : mg "SizeMismatch" = some (.ref A.SizeMismatch)
  m_TooLarge : mg "TooLarge" = some (.ref A.TooLarge)
  m_InvalidPlan : mg "InvalidPlan" = some (.ref A.InvalidPlan)
  x_OutOfRange : ExcK K mg "OutOfRange" A.OutOfRange
  x_TooLarge : ExcK K mg "TooLarge" A.TooLarge
  m_Duel : mg "Duel" = some (.ref A.Duel)
  i_Duel : InsK K A.Duel
  d_Duel_root : FldK K A.Duel "root"
  d_Duel_tree : FldK K A.Duel "tree"
  d_Duel_ends : FldK K A.Duel "ends"
  d_Duel_sides : FldK K A.Duel "sides"
  d_Duel_children : FldK K A.Duel "children"
  c_MOST_DEPTH : ∃ t : Tok, mg "MOST_DEPTH" = some (.int 200 t)
  c_MOST_DIGITS : ∃ t : Tok, mg "MOST_DIGITS" = some (.int 9 t)
  c_MOST_LETTERS : ∃ t : Tok, mg "MOST_LETTERS" = some (.int 12 t)
  c_MOST_NUMBER : ∃ t : Tok, mg "MOST_NUMBER" = some (.int 999999999 t)
  c_MOST_TREES : ∃ t : Tok, mg "MOST_TREES" = some (.int 12 t)
  cst_Duel_MOST_LEAVES : CstK K A.Duel "MOST_LEAVES" (.int 200)
  cst_Duel_MOST_LEVELS : CstK K A.Duel "MOST_LEVELS" (.int 20)
  cst_Duel_MOST_NODES : CstK K A.Duel "MOST_NODES" (.int 200)
abbrev s_is_word : Stmt := top 16
abbrev N_is_word : List Str := ["item", "sign"]
abbrev P_is_word : List Str := ["item"]
theorem sc_is_word : FnScope N_is_word P_is_word (defScope s_is_word) := C8.fnScope_by (by decide +kernel)
abbrev s_is_number : Stmt := top 17
abbrev N_is_number : List Str := ["item"]
abbrev P_is_number : List Str := ["item"]
theorem sc_is_number : FnScope N_is_number P_is_number (defScope s_is_number) := C8.fnScope_by (by decide +kernel)
abbrev s_write_part : Stmt := top 18
abbrev N_write_part : List Str := ["term", "path", "texts", "k"]
abbrev P_write_part : List Str := ["term", "path"]
theorem sc_write_part : FnScope N_write_part P_write_part (defScope s_write_part) := C8.fnScope_by (by decide +kernel)
abbrev s_write_term : Stmt := top 19
abbrev N_write_term : List Str := ["term"]
abbrev P_write_term : List Str := ["term"]
theorem sc_write_term : FnScope N_write_term P_write_term (defScope s_write_term) := C8.fnScope_by (by decide +kernel)
abbrev s_atom_end : Stmt := top 20
abbrev N_atom_end : List Str := ["text", "start", "signs", "most", "end"]
abbrev P_atom_end : List Str := ["text", "start"]
theorem sc_atom_end : FnScope N_atom_end P_atom_end (defScope s_atom_end) := C8.fnScope_by (by decide +kernel)
abbrev s_atom : Stmt := top 21
abbrev N_atom : List Str := ["text"]
abbrev P_atom : List Str := ["text"]
theorem sc_atom : FnScope N_atom P_atom (defScope s_atom) := C8.fnScope_by (by decide +kernel)
abbrev s_whole : Stmt := top 22
abbrev N_whole : List Str := ["item", "text", "at"]
abbrev P_whole : List Str := ["item", "text", "at"]
theorem sc_whole : FnScope N_whole P_whole (defScope s_whole) := C8.fnScope_by (by decide +kernel)
abbrev s_read_term : Stmt := top 23
abbrev N_read_term : List Str := ["text", "lists", "at", "end", "item"]
abbrev P_read_term : List Str := ["text"]
theorem sc_read_term : FnScope N_read_term P_read_term (defScope s_read_term) := C8.fnScope_by (by decide +kernel)
abbrev s_Duel_init : Stmt := inClass (top 26) 3
abbrev N_Duel_init : List Str := ["self", "tree", "sides", "children", "ends"]
abbrev P_Duel_init : List Str := ["self", "tree"]
theorem sc_Duel_init : FnScope N_Duel_init P_Duel_init (defScope s_Duel_init) := C8.fnScope_by (by decide +kernel)
abbrev s_Duel_with_ends : Stmt := inClass (top 26) 4
abbrev N_Duel_with_ends : List Str := ["self", "ends", "end"]
abbrev P_Duel_with_ends : List Str := ["self", "ends"]
theorem sc_Duel_with_ends : FnScope N_Duel_with_ends P_Duel_with_ends (defScope s_Duel_with_ends) := C8.fnScope_by (by decide +kernel)
abbrev s_Duel_text : Stmt := inClass (top 26) 5
abbrev N_Duel_text : List Str := ["self"]
abbrev P_Duel_text : List Str := ["self"]
theorem sc_Duel_text : FnScope N_Duel_text P_Duel_text (defScope s_Duel_text) := C8.fnScope_by (by decide +kernel)
abbrev s_Duel_read : Stmt := inClass (top 26) 6
abbrev N_Duel_read : List Str := ["text", "term"]
abbrev P_Duel_read : List Str := ["text"]
theorem sc_Duel_read : FnScope N_Duel_read P_Duel_read (defScope s_Duel_read) := C8.fnScope_by (by decide +kernel)
abbrev s_is_outcome : Stmt := top 27
abbrev N_is_outcome : List Str := ["item"]
abbrev P_is_outcome : List Str := ["item"]
theorem sc_is_outcome : FnScope N_is_outcome P_is_outcome (defScope s_is_outcome) := C8.fnScope_by (by decide +kernel)
abbrev s_check_tree : Stmt := top 28
abbrev N_check_tree : List Str := ["tree", "path", "levels"]
abbrev P_check_tree : List Str := ["tree", "path", "levels"]
theorem sc_check_tree : FnScope N_check_tree P_check_tree (defScope s_check_tree) := C8.fnScope_by (by decide +kernel)
abbrev s_scan_tree : Stmt := top 29
abbrev N_scan_tree : List Str := ["tree", "path", "levels", "lists", "sides", "children", "ends", "index", "behind", "k"]
abbrev P_scan_tree : List Str := ["tree", "path", "levels", "lists"]
theorem sc_scan_tree : FnScope N_scan_tree P_scan_tree (defScope s_scan_tree) := C8.fnScope_by (by decide +kernel)
abbrev s_tree_with_ends : Stmt := top 30
abbrev N_tree_with_ends : List Str := ["tree", "ends", "start", "behind", "at", "inner", "changed"]
abbrev P_tree_with_ends : List Str := ["tree", "ends", "start"]
theorem sc_tree_with_ends : FnScope N_tree_with_ends P_tree_with_ends (defScope s_tree_with_ends) := C8.fnScope_by (by decide +kernel)
abbrev s_swapped_tree : Stmt := top 31
abbrev N_swapped_tree : List Str := ["tree", "inner"]
abbrev P_swapped_tree : List Str := ["tree"]
theorem sc_swapped_tree : FnScope N_swapped_tree P_swapped_tree (defScope s_swapped_tree) := C8.fnScope_by (by decide +kernel)
abbrev s_swapped : Stmt := top 32
abbrev N_swapped : List Str := ["duel"]
abbrev P_swapped : List Str := ["duel"]
theorem sc_swapped : FnScope N_swapped P_swapped (defScope s_swapped) := C8.fnScope_by (by decide +kernel)
abbrev s_entry_of : Stmt := top 33
abbrev N_entry_of : List Str := ["child", "at_nodes", "at_leaves", "kind", "number"]
abbrev P_entry_of : List Str := ["child", "at_nodes", "at_leaves"]
theorem sc_entry_of : FnScope N_entry_of P_entry_of (defScope s_entry_of) := C8.fnScope_by (by decide +kernel)
abbrev s_winners_with : Stmt := top 34
abbrev N_winners_with : List Str := ["duel", "ends", "winners", "index", "side", "behind", "_", "child"]
abbrev P_winners_with : List Str := ["duel", "ends"]
theorem sc_winners_with : FnScope N_winners_with P_winners_with (defScope s_winners_with) := C8.fnScope_by (by decide +kernel)
abbrev s_winner : Stmt := top 35
abbrev N_winner : List Str := ["duel"]
abbrev P_winner : List Str := ["duel"]
theorem sc_winner : FnScope N_winner P_winner (defScope s_winner) := C8.fnScope_by (by decide +kernel)
abbrev s_winning_plan : Stmt := top 36
abbrev N_winning_plan : List Str := ["duel", "winners", "outcome", "plan", "side", "children", "behind", "child"]
abbrev P_winning_plan : List Str := ["duel"]
theorem sc_winning_plan : FnScope N_winning_plan P_winning_plan (defScope s_winning_plan) := C8.fnScope_by (by decide +kernel)
abbrev s_require_plan : Stmt := top 37
abbrev N_require_plan : List Str := ["duel", "plan", "index", "option"]
abbrev P_require_plan : List Str := ["duel", "plan"]
theorem sc_require_plan : FnScope N_require_plan P_require_plan (defScope s_require_plan) := C8.fnScope_by (by decide +kernel)
abbrev s_is_winning : Stmt := top 38
abbrev N_is_winning : List Str := ["duel", "plan", "outcome", "reached", "kept", "index", "behind", "end", "_", "child"]
abbrev P_is_winning : List Str := ["duel", "plan", "outcome"]
theorem sc_is_winning : FnScope N_is_winning P_is_winning (defScope s_is_winning) := C8.fnScope_by (by decide +kernel)
abbrev s_law_start : Stmt := top 40
abbrev N_law_start : List Str := ["script", "seed", "k"]
abbrev P_law_start : List Str := ["script"]
theorem sc_law_start : FnScope N_law_start P_law_start (defScope s_law_start) := C8.fnScope_by (by decide +kernel)
abbrev s_law_pick : Stmt := top 41
abbrev N_law_pick : List Str := ["state", "limit", "rest", "cell", "mixed"]
abbrev P_law_pick : List Str := ["state", "limit"]
theorem sc_law_pick : FnScope N_law_pick P_law_pick (defScope s_law_pick) := C8.fnScope_by (by decide +kernel)
abbrev s_law_same : Stmt := top 42
abbrev N_law_same : List Str := ["actual", "due", "p"]
abbrev P_law_same : List Str := ["actual", "due"]
theorem sc_law_same : FnScope N_law_same P_law_same (defScope s_law_same) := C8.fnScope_by (by decide +kernel)
abbrev s_law_tree : Stmt := top 43
abbrev N_law_tree : List Str := ["state", "levels", "room", "many", "trees", "k", "deeper"]
abbrev P_law_tree : List Str := ["state", "levels", "room"]
theorem sc_law_tree : FnScope N_law_tree P_law_tree (defScope s_law_tree) := C8.fnScope_by (by decide +kernel)
abbrev s_law_scan : Stmt := top 44
abbrev N_law_scan : List Str := ["tree", "nodes", "ends", "options", "at", "inner"]
abbrev P_law_scan : List Str := ["tree", "nodes", "ends"]
theorem sc_law_scan : FnScope N_law_scan P_law_scan (defScope s_law_scan) := C8.fnScope_by (by decide +kernel)
abbrev s_law_at : Stmt := top 45
abbrev N_law_at : List Str := ["child", "winners", "ends"]
abbrev P_law_at : List Str := ["child", "winners", "ends"]
theorem sc_law_at : FnScope N_law_at P_law_at (defScope s_law_at) := C8.fnScope_by (by decide +kernel)
abbrev s_law_winners : Stmt := top 46
abbrev N_law_winners : List Str := ["nodes", "ends", "winners", "k", "at", "side", "behind", "node", "child"]
abbrev P_law_winners : List Str := ["nodes", "ends"]
theorem sc_law_winners : FnScope N_law_winners P_law_winners (defScope s_law_winners) := C8.fnScope_by (by decide +kernel)
abbrev s_law_reached : Stmt := top 47
abbrev N_law_reached : List Str := ["nodes", "child", "plan", "options", "found", "k"]
abbrev P_law_reached : List Str := ["nodes", "child", "plan"]
theorem sc_law_reached : FnScope N_law_reached P_law_reached (defScope s_law_reached) := C8.fnScope_by (by decide +kernel)
abbrev s_law_refused : Stmt := top 48
abbrev N_law_refused : List Str := ["duel", "plan", "goal", "e"]
abbrev P_law_refused : List Str := ["duel", "plan", "goal"]
theorem sc_law_refused : FnScope N_law_refused P_law_refused (defScope s_law_refused) := C8.fnScope_by (by decide +kernel)
abbrev s_law_exchanged : Stmt := top 49
abbrev N_law_exchanged : List Str := ["tree", "inner"]
abbrev P_law_exchanged : List Str := ["tree"]
theorem sc_law_exchanged : FnScope N_law_exchanged P_law_exchanged (defScope s_law_exchanged) := C8.fnScope_by (by decide +kernel)
abbrev s_law_grouped : Stmt := top 50
abbrev N_law_grouped : List Str := ["state", "leaves", "nodes", "trees", "many", "k", "at", "turn", "groups"]
abbrev P_law_grouped : List Str := ["state", "leaves", "nodes"]
theorem sc_law_grouped : FnScope N_law_grouped P_law_grouped (defScope s_law_grouped) := C8.fnScope_by (by decide +kernel)
abbrev s_law_chain : Stmt := top 51
abbrev N_law_chain : List Str := ["state", "levels", "tree", "path", "k", "side", "leaf"]
abbrev P_law_chain : List Str := ["state", "levels"]
theorem sc_law_chain : FnScope N_law_chain P_law_chain (defScope s_law_chain) := C8.fnScope_by (by decide +kernel)
abbrev s_law_plans : Stmt := top 52
abbrev N_law_plans : List Str := ["nodes", "plans", "node", "longer", "plan", "entry"]
abbrev P_law_plans : List Str := ["nodes"]
theorem sc_law_plans : FnScope N_law_plans P_law_plans (defScope s_law_plans) := C8.fnScope_by (by decide +kernel)
abbrev s_law_drawn : Stmt := top 53
abbrev N_law_drawn : List Str := ["state", "nodes", "plan", "node"]
abbrev P_law_drawn : List Str := ["state", "nodes"]
theorem sc_law_drawn : FnScope N_law_drawn P_law_drawn (defScope s_law_drawn) := C8.fnScope_by (by decide +kernel)
abbrev s_law_chosen : Stmt := top 54
abbrev N_law_chosen : List Str := ["state", "nodes", "many", "node", "plans", "k"]
abbrev P_law_chosen : List Str := ["state", "nodes"]
theorem sc_law_chosen : FnScope N_law_chosen P_law_chosen (defScope s_law_chosen) := C8.fnScope_by (by decide +kernel)
abbrev s_law_is_plan : Stmt := top 55
abbrev N_law_is_plan : List Str := ["nodes", "plan", "k", "entry"]
abbrev P_law_is_plan : List Str := ["nodes", "plan"]
theorem sc_law_is_plan : FnScope N_law_is_plan P_law_is_plan (defScope s_law_is_plan) := C8.fnScope_by (by decide +kernel)
abbrev s_law_played : Stmt := top 56
abbrev N_law_played : List Str := ["state", "duel", "tree", "nodes", "ends", "root", "other", "plan", "reached", "goal", "due", "outcome", "leaf", "end"]
abbrev P_law_played : List Str := ["state", "duel", "tree"]
theorem sc_law_played : FnScope N_law_played P_law_played (defScope s_law_played) := C8.fnScope_by (by decide +kernel)
abbrev s_law_wrongs : Stmt := top 57
abbrev N_law_wrongs : List Str := ["state", "duel", "nodes", "plan", "bad", "let", "longer", "goal", "at", "options", "wrong", "spoilt", "entry"]
abbrev P_law_wrongs : List Str := ["state", "duel", "nodes", "plan"]
theorem sc_law_wrongs : FnScope N_law_wrongs P_law_wrongs (defScope s_law_wrongs) := C8.fnScope_by (by decide +kernel)
abbrev s_law_counts : Stmt := top 58
abbrev N_law_counts : List Str := ["tree", "whole_v", "lost", "inner", "part", "counts"]
abbrev P_law_counts : List Str := ["tree"]
theorem sc_law_counts : FnScope N_law_counts P_law_counts (defScope s_law_counts) := C8.fnScope_by (by decide +kernel)
abbrev s_law_all_ends : Stmt := top 59
abbrev N_law_all_ends : List Str := ["duel", "tree", "nodes", "ends", "root", "powers", "won", "number", "others", "due", "leaf"]
abbrev P_law_all_ends : List Str := ["duel", "tree"]
theorem sc_law_all_ends : FnScope N_law_all_ends P_law_all_ends (defScope s_law_all_ends) := C8.fnScope_by (by decide +kernel)
abbrev s_law : Stmt := top 60
abbrev N_law : List Str := ["script", "state", "levels", "tree", "way", "ends", "duel"]
abbrev P_law : List Str := ["script"]
theorem sc_law : FnScope N_law P_law (defScope s_law) := C8.fnScope_by (by decide +kernel)
abbrev s_xInvalidPlan : Stmt := inClass (top 8) 0
abbrev N_xInvalidPlan : List Str := ["self", "index"]
theorem sc_xInvalidPlan : FnScope N_xInvalidPlan N_xInvalidPlan (defScope s_xInvalidPlan) := C8.fnScope_by (by decide +kernel)
end K43

set_option maxHeartbeats 4000000
namespace K43
open PySem PySem.Spec L2 DL DU
/-! ### what each def promises -/
def Fresh (Q : DK) (M : Mp) (ds : List D) : Prop := ∀ p, M p = none → Q (.ref p) (put M p (.lst ds))
/-- a draw's promise -/
def Drawn (M : Mp) (s l : Addr) (ns : List Int) (k : Mp → Prop) : Prop := ∀ M', PSt M' s l ns → Ext (Is s) M M' → k M'
def sp_is_outcome : DSp := fun ds M Q _ => ∃ i : Int, ds = [.int i] ∧ Q (.bl (decide (bit i))) M
def sp_check_tree : DSp := fun ds M Q _ => ∃ (t : Tr) (d : D) (lv : Nat), ds = [t.toD, d, .int (lv : Nat)] ∧ t.wf ∧ lv + t.ht ≤ 20 ∧ Q .non M
def In3 (a b c : Addr) : Addr → Prop := fun x => x = a ∨ x = b ∨ x = c
def In2 (a b : Addr) : Addr → Prop := fun x => x = a ∨ x = b
def sp_scan_tree (n : Nat) : DSp := fun ds M Q _ => ∃ (t : Tr) (ps : List D) (lv : Nat) (a b c : Addr) (ss : List Int) (xs : List D) (es : List Int), ds = [t.toD, .tup ps, .int (lv : Nat), .tup [.ref a, .ref b, .ref c]] ∧ t.wf ∧ t.ht < n ∧ lv + t.ht ≤ 20 ∧ ps.length + t.ht ≤ 1000 ∧
  a ≠ b ∧ a ≠ c ∧ b ≠ c ∧ M a = some (.lst (ss.map D.int)) ∧ M b = some (.lst xs) ∧ M c = some (.lst (es.map D.int)) ∧ xs.length = ss.length ∧ ss.length + t.nn ≤ 100000 ∧ es.length + t.nl ≤ 100000 ∧
  ∀ M', M' a = some (.lst ((ss ++ t.sides).map D.int)) → M' b = some (.lst (xs ++ (t.kids ss.length es.length).map kidsD)) → M' c = some (.lst ((es ++ t.ends).map D.int)) → Ext (In3 a b c) M M' → Q (chD (t.root ss.length es.length)) M'
def sp_Duel_init (C : Addr) : DSp := fun ds M Q _ => ∃ (x : Addr) (t : Tr), ds = [.ref x, t.toD] ∧ M x = some (.ins C []) ∧ good t ∧ ∀ M', DuelAt C M' x t → Ext (Is x) M M' → Q .non M'
def sp_tree_with_ends (n : Nat) : DSp := fun ds M Q _ => ∃ (t : Tr) (es : List Int) (l : Nat), ds = [t.toD, intsD es, .int (l : Nat)] ∧ t.wf ∧ t.ht < n ∧ l + t.nl ≤ es.length ∧ Q (.tup [(t.re es l).toD, .int ((l + t.nl : Nat) : Int)]) M
def sp_Duel_with_ends (C : Addr) : DSp := fun ds M Q _ => ∃ (a : Addr) (t : Tr) (es : List Int), ds = [.ref a, intsD es] ∧ DuelAt C M a t ∧ good t ∧ es.length = t.nl ∧ (∀ o, o ∈ es → bit o) ∧ ∀ x M', M x = none → DuelAt C M' x (t.re es 0) → Sub M M' → Q (.ref x) M'
def sp_swapped_tree (n : Nat) : DSp := fun ds M Q _ => ∃ t : Tr, ds = [t.toD] ∧ t.wf ∧ t.ht < n ∧ Q t.sw.toD M
def sp_swapped (C : Addr) : DSp := fun ds M Q _ => ∃ (a : Addr) (t : Tr), ds = [.ref a] ∧ DuelAt C M a t ∧ good t ∧ ∀ x M', M x = none → DuelAt C M' x t.sw → Sub M M' → Q (.ref x) M'
def sp_entry_of : DSp := fun ds M Q _ => ∃ (c : Ch) (W E : D) (ws es : List D) (v : D), ds = [chD c, W, E] ∧ sq W M = some ws ∧ sq E M = some es ∧ (match c with
  | .leaf l => es[l]? = some v
  | .node n => ws[n]? = some v) ∧ Q v M
def sp_winners_with (C : Addr) : DSp := fun ds M Q _ => ∃ (a : Addr) (t : Tr) (es : List Int), ds = [.ref a, intsD es] ∧ DuelAt C M a t ∧ good t ∧ es.length = t.nl ∧ (∀ o, o ∈ es → bit o) ∧ Fresh Q M ((wins es t).map D.int)
def sp_winner (C : Addr) : DSp := fun ds M Q _ => ∃ (a : Addr) (t : Tr), ds = [.ref a] ∧ DuelAt C M a t ∧ good t ∧ Q (.int (win t.ends t)) M
def sp_winning_plan (C : Addr) : DSp := fun ds M Q _ => ∃ (a : Addr) (t : Tr), ds = [.ref a] ∧ DuelAt C M a t ∧ good t ∧ Q (planD (planT (win t.ends t) (lv t.ends) t)) M
def Bad (A : Adr) (t : Tr) (p : Pl) (M : Mp) (E : EK) : Prop := ∀ i, firstBad t p i → ∀ dd, M dd = none → E ⟨.ref A.InvalidPlan, some dd, [("index", .int ((i : Nat) : Int))]⟩ M
def sp_require_plan (A : Adr) : DSp := fun ds M Q E => ∃ (a : Addr) (t : Tr) (p : Pl), ds = [.ref a, planD p] ∧ DuelAt A.Duel M a t ∧ good t ∧ p.length ≤ 1000 ∧ (plOk t p → Q .non M) ∧ Bad A t p M E
def sp_is_winning (A : Adr) : DSp := fun ds M Q E => ∃ (a : Addr) (t : Tr) (p : Pl) (goal : Int), ds = [.ref a, planD p, .int goal] ∧ DuelAt A.Duel M a t ∧ good t ∧ p.length ≤ 1000 ∧
  (plOk t p → bit goal → Q (.bl (isWin t p goal)) M) ∧ (plOk t p → ¬ bit goal → E ⟨.ref A.OutOfRange, none, []⟩ M) ∧ Bad A t p M E
def sp_law_start1 : DSp := spStart1
def sp_law_start2 (K : PySem.W.Frag) : DSp := spStart2 K
def sp_law_start (K : PySem.W.Frag) : DSp := spStart K
def sp_law_pick : DSp := spPick
def sp_law_same : Nat → DSp := spSame
def sp_law_tree (n : Nat) : DSp := fun ds M Q _ => ∃ (s l : Addr) (ns : List Int) (lv : Nat) (ro : Addr) (x y : Nat), ds = [.ref s, .int (lv : Nat), .ref ro] ∧ PSt M s l ns ∧ ro ≠ s ∧ ro ≠ l ∧ M ro = some (.lst [.int (x : Nat), .int (y : Nat)]) ∧ lv < n ∧ x ≤ 100 ∧ y ≤ 100 ∧
  ∀ (t : Tr) (M' : Mp) (x' y' : Nat), t.wf → t.ht ≤ lv → t.nn + x' ≤ x → t.nl + y' ≤ y + 1 → PSt M' s l ns → Ext (In2 s ro) M M' → M' ro = some (.lst [.int (x' : Nat), .int (y' : Nat)]) → Q t.toD M'
def NodesNew (M M' : Mp) (us : List Addr) (ss : List Int) (ks : List (List Ch)) : Prop := ∀ (j : Nat) (s : Int) (k : List Ch), ss[j]? = some s → ks[j]? = some k → ∃ r o, us[j]? = some r ∧ M r = none ∧ M o = none ∧ M' r = some (.lst [.int s, .ref o]) ∧ M' o = some (.lst (k.map lchD))
def sp_law_scan (n : Nat) : DSp := fun ds M Q _ => ∃ (t : Tr) (a b : Addr) (rs : List Addr) (es : List Int), ds = [t.toD, .ref a, .ref b] ∧ t.wf ∧ t.ht < n ∧ a ≠ b ∧ M a = some (.lst (rs.map D.ref)) ∧ M b = some (.lst (es.map D.int)) ∧ rs.length + t.nn ≤ 100000 ∧ es.length + t.nl ≤ 100000 ∧
  ∀ M' us, us.length = t.nn → M' a = some (.lst ((rs ++ us).map D.ref)) → M' b = some (.lst ((es ++ t.ends).map D.int)) → Ext (In2 a b) M M' → NodesNew M M' us t.sides (t.kids rs.length es.length) → Q (lchD (t.root rs.length es.length)) M'
def sp_law_at : DSp := fun ds M Q _ => ∃ (c : Ch) (W E : D) (ws es : List D) (v : D), ds = [lchD c, W, E] ∧ sq W M = some ws ∧ sq E M = some es ∧ (match c with
  | .leaf l => es[l]? = some v
  | .node n => ws[n]? = some v) ∧ Q v M
def sp_law_winners : DSp := fun ds M Q _ => ∃ (a b : Addr) (t : Tr) (es : List Int), ds = [.ref a, .ref b] ∧ NodesAt M a t ∧ M b = some (.lst (es.map D.int)) ∧ good t ∧ es.length = t.nl ∧ (∀ o, o ∈ es → bit o) ∧ Fresh Q M ((wins es t).map D.int)
def sp_law_reached (n : Nat) : DSp := fun ds M Q _ => ∃ (a : Addr) (rs : List Addr) (t : Tr) (k l : Nat) (p : Pl), ds = [.ref a, lchD (t.root k l), planD p] ∧ M a = some (.lst (rs.map D.ref)) ∧ NodesIn M rs t.sides (t.kids k l) k ∧ t.wf ∧ okP p t k ∧ t.ht < n ∧ t.nl ≤ 1000 ∧ Fresh Q M ((reachT p t k l).map fun (m : Nat) => D.int m)
def sp_law_refused (A : Adr) : DSp := fun ds M Q E => ∃ (a : Addr) (t : Tr) (p : Pl) (goal : Int), ds = [.ref a, planD p, .int goal] ∧ DuelAt A.Duel M a t ∧ good t ∧ p.length ≤ 1000 ∧
  (plOk t p → bit goal → Q (.tup [.str "let", .int 0]) M) ∧ (plOk t p → ¬ bit goal → Q (.tup [.str "range", .int 0]) M) ∧ ∀ i : Nat, firstBad t p i → Q (.tup [.str "plan", .int (i : Nat)]) M
def sp_law_exchanged (n : Nat) : DSp := fun ds M Q _ => ∃ t : Tr, ds = [t.toD] ∧ t.wf ∧ t.ht < n ∧ Q t.sw.toD M
def sp_law_grouped : DSp := fun ds M Q _ => ∃ (s l : Addr) (ns : List Int) (lv nd : Nat), ds = [.ref s, .int (lv : Nat), .int (nd : Nat)] ∧ PSt M s l ns ∧ 150 ≤ lv ∧ lv ≤ 200 ∧ 20 ≤ nd ∧ nd ≤ 200 ∧ ∀ t, good t → Drawn M s l ns (Q t.toD)
def sp_law_chain : DSp := fun ds M Q _ => ∃ (s l : Addr) (ns : List Int), ds = [.ref s, .int 20] ∧ PSt M s l ns ∧ ∀ t p d, good t → Drawn M s l ns fun M' => M' p = some (.lst [t.toD, d]) → Q (.ref p) M'
def sp_law_plans : DSp := fun ds M Q _ => ∃ (a : Addr) (t : Tr), ds = [.ref a] ∧ NodesAt M a t ∧ good t ∧ ((ar t).map (1 + ·)).prod ≤ 100 ∧ ∀ ps : List Pl, (∀ p, p ∈ ps → plOk t p) → Fresh Q M (ps.map planD)
def sp_law_drawn : DSp := fun ds M Q _ => ∃ (s l : Addr) (ns : List Int) (a : Addr) (t : Tr), ds = [.ref s, .ref a] ∧ PSt M s l ns ∧ NodesAt M a t ∧ good t ∧ ∀ p, plOk t p → Drawn M s l ns (Q (planD p))
def sp_law_chosen : DSp := fun ds M Q _ => ∃ (s l : Addr) (ns : List Int) (a : Addr) (t : Tr), ds = [.ref s, .ref a] ∧ PSt M s l ns ∧ NodesAt M a t ∧ good t ∧ ∀ (q : Addr) (ps : List Pl), M q = none → (∀ p, p ∈ ps → plOk t p) → Drawn M s l ns fun M' => M' q = some (.lst (ps.map planD)) → Q (.ref q) M'
def sp_law_is_plan : DSp := fun ds M Q _ => ∃ (a : Addr) (t : Tr) (p : Pl), ds = [.ref a, planD p] ∧ NodesAt M a t ∧ good t ∧ plOk t p ∧ Q (.bl true) M
def sp_law_played (C : Addr) : DSp := fun ds M Q _ => ∃ (s l : Addr) (ns : List Int) (d : Addr) (t : Tr), ds = [.ref s, .ref d, t.toD] ∧ PSt M s l ns ∧ DuelAt C M d t ∧ good t ∧ Drawn M s l ns (Q (.bl true))
def sp_law_wrongs (C : Addr) : DSp := fun ds M Q _ => ∃ (s l : Addr) (ns : List Int) (d a : Addr) (t : Tr) (p : Pl), ds = [.ref s, .ref d, .ref a, planD p] ∧ PSt M s l ns ∧ DuelAt C M d t ∧ NodesAt M a t ∧ good t ∧ plOk t p ∧ Drawn M s l ns (Q (.bl true))
def sp_law_counts (n : Nat) : DSp := fun ds M Q _ => ∃ t : Tr, ds = [t.toD] ∧ t.wf ∧ t.ht < n ∧ t.nl ≤ 200 ∧ Fresh Q M [.int (cT t).1, .int (cT t).2]
def sp_law_all_ends (C : Addr) : DSp := fun ds M Q _ => ∃ (d : Addr) (t : Tr), ds = [.ref d, t.toD] ∧ DuelAt C M d t ∧ good t ∧ t.nl < 7 ∧ Q (.bl true) M
def sp_law (K : PySem.W.Frag) : DSp := spScript K
end K43

set_option maxHeartbeats 4000000
namespace K43
open PySem PySem.Spec L2 DL
section
variable {P : Program} {w : World} {K : PySem.W.Frag} {mg : Str → Option Value} {base : Heap} {A : Adr}
def t_is_outcome (K : PySem.W.Frag) (A : Adr) : DS :=
  (dRet (dAndV (dCB (isiG K) (dCons (dVar 0) (dCons (dC (.ty "int")) dNil))) (dChain (oI0 fun i j => .bl (decide (i ≤ j))) (oI0 fun i j => .bl (decide (i ≤ j))) (dC (.int 0)) (dVar 0) (dC (.int 1)))))
theorem ok_is_outcome {f : Addr} {fd : FuncData} (T : Txt w K mg A)  (F : L2.Fun K "is_outcome" "is_outcome" s_is_outcome f fd) (sp : DSp) (len : ∀ ds M Q E, sp ds M Q E → ds.length = P_is_outcome.length) (h : ∀ ds M Q E, sp ds M Q E → t_is_outcome K A (ends Q E) (dstart N_is_outcome ds) M) :
    FnOk P w K mg base (L2.CX P w) (0 + 1) f fd P_is_outcome (liftSp K sp) :=
  okD F sc_is_outcome len fun cdv Ar outer s H E hr tk => ⟨t_is_outcome K _, (pssd_one (psd_ret (pd_and (pd_callB call_isiG rfl T.n_isinstance bt_isinstance (pad_cons (pdv 0) (pad_cons (pd_ty rfl T.n_int bt_int) pad_nil))) (pd_one (pd_chain op_leD op_leD pd_int (pdv 0) pd_int))))), h⟩
def t_check_tree (K : PySem.W.Frag) (A : Adr) : DS :=
  (dSeq (dIfS (dOr (dNot (dTru (dCB (isiG K) (dCons (dVar 0) (dCons (dC (.ty "tuple")) dNil))))) (dOr (dB (dOp eqD (dCB lenG (dCons (dVar 0) dNil)) (dC (.int 0)))) (dB (dOp (inG true) (dOp ixG (dVar 0) (dC (.int 0))) (dTup (dCons (dC (.str "end")) (dCons (dC (.str "node")) dNil))))))) dNever dNext)
    (dSeq (dIfS (dAnd (dB (dOp eqD (dOp ixG (dVar 0) (dC (.int 0))) (dC (.str "end")))) (dB (dOp neD (dCB lenG (dCons (dVar 0) dNil)) (dC (.int 2))))) dNever dNext)
    (dSeq (dIfS (dAnd (dB (dOp eqD (dOp ixG (dVar 0) (dC (.int 0))) (dC (.str "node")))) (dOr (dNot (dB (dChain (oI0 fun i j => .bl (decide (i ≤ j))) (oI0 fun i j => .bl (decide (i ≤ j))) (dC (.int 3)) (dCB lenG (dCons (dVar 0) dNil)) (dOp addD (dC (.int 2)) (dC (.int 12)))))) (dB (dOp (oI0 fun i j => .bl (decide (j ≤ i))) (dVar 2) (dC (.int 20)))))) dNever dNext)
    (dIfS (dNot (dTru (dCall sp_is_outcome [] (dCons (dOp ixG (dVar 0) (dC (.int 1))) dNil)))) dNever dNext))))
theorem ok_check_tree {f : Addr} {fd : FuncData} (T : Txt w K mg A) (G_is_outcome : FnD P w K mg base 1 "is_outcome" P_is_outcome [] sp_is_outcome) (F : L2.Fun K "check_tree" "check_tree" s_check_tree f fd) (sp : DSp) (len : ∀ ds M Q E, sp ds M Q E → ds.length = P_check_tree.length) (h : ∀ ds M Q E, sp ds M Q E → t_check_tree K A (ends Q E) (dstart N_check_tree ds) M) :
    FnOk P w K mg base (L2.CX P w) (1 + 1) f fd P_check_tree (liftSp K sp) :=
  okD F sc_check_tree len fun cdv Ar outer s H E hr tk => ⟨t_check_tree K _, (pssd_cons (psd_if (PWD.pt (pwd_or (ptd_not (ptd_tru (pd_callB call_isiG rfl T.n_isinstance bt_isinstance (pad_cons (pdv 0) (pad_cons (pd_ty rfl T.n_tuple bt_tuple) pad_nil))))) (pwd_or (pt_cmpD (op_eqG (u200 hr)) (pd_callB call_lenG rfl T.n_len bt_len (pad_cons (pdv 0) pad_nil)) pd_int (nomark _)) (pwd_or1 (pt_cmpD op_notInG (pd_ix ix_G (pdv 0) pd_int (fun _ _ => rfl)) (pd_tup (pad_cons pd_str (pad_cons pd_str pad_nil))) (by with_unfolding_all rfl)))))) (pssd_one psd_never) pssd_nil)
    (pssd_cons (psd_if (PWD.pt (pwd_and (pt_cmpD (op_eqG (u200 hr)) (pd_ix ix_G (pdv 0) pd_int (fun _ _ => rfl)) pd_str (nomark _)) (pwd_and1 (pt_cmpD (op_neG (u200 hr)) (pd_callB call_lenG rfl T.n_len bt_len (pad_cons (pdv 0) pad_nil)) pd_int (nomark _))))) (pssd_one psd_never) pssd_nil)
    (pssd_cons (psd_if (PWD.pt (pwd_and (pt_cmpD (op_eqG (u200 hr)) (pd_ix ix_G (pdv 0) pd_int (fun _ _ => rfl)) pd_str (nomark _)) (pwd_and1 (PWD.pt (pwd_or (ptd_not (ptd_chain op_leD op_leD pd_int (pd_callB call_lenG rfl T.n_len bt_len (pad_cons (pdv 0) pad_nil)) (pd_op op_addD pd_int (pd_gint rfl T.c_MOST_TREES.choose_spec)))) (pwd_or1 (pt_cmpD op_geD (pdv 2) (pd_cst T.cst_Duel_MOST_LEVELS (pd_cls rfl T.m_Duel)) (nomark _)))))))) (pssd_one psd_never) pssd_nil)
    (pssd_one (psd_if (ptd_not (ptd_tru (pd_call G_is_outcome (hr.mono (by omega)) tk rfl (pad_cons (pd_ix ix_G (pdv 0) pd_int (fun _ _ => rfl)) pad_nil)))) (pssd_one psd_never) pssd_nil))))), h⟩
def t_scan_tree (K : PySem.W.Frag) (A : Adr) (n : Nat) : DS :=
  (dSeq (dDrop (dCall sp_check_tree [] (dCons (dVar 0) (dCons (dVar 1) (dCons (dVar 2) dNil)))))
    (dSeq (dAsg (dVar 3) (dGTup 3 (dGCons (dName 4) (dGCons (dName 5) (dGCons (dName 6) dGNil)))))
    (dSeq (dIfS (dB (dOp eqD (dOp ixG (dVar 0) (dC (.int 0))) (dC (.str "end")))) (dSeq (dDrop (dBM "list" appendM (dVar 6) (dCons (dOp ixG (dVar 0) (dC (.int 1))) dNil)))
    (dRet (dTup (dCons (dC (.str "leaf")) (dCons (dOp (oI0 fun i j => .int (i - j)) (dCB lenG (dCons (dVar 6) dNil)) (dC (.int 1))) dNil))))) dNext)
    (dSeq (dAsg (dCB lenG (dCons (dVar 4) dNil)) (dName 7))
    (dSeq (dDrop (dBM "list" appendM (dVar 4) (dCons (dOp ixG (dVar 0) (dC (.int 1))) dNil)))
    (dSeq (dDrop (dBM "list" appendM (dVar 5) (dCons (dTup dNil) dNil)))
    (dSeq (dAsg (dLc (dRng2 (dCons (dC (.int 2)) (dCons (dCB lenG (dCons (dVar 0) dNil)) dNil))) (fun d τ => τ.set 9 (some d)) dYes (dCall (sp_scan_tree n) [] (dCons (dOp ixG (dVar 0) (dVar 9)) (dCons (dOp addD (dVar 1) (dTup (dCons (dVar 9) dNil))) (dCons (dOp addD (dVar 2) (dC (.int 1))) (dCons (dVar 3) dNil))))) [9]) (dName 8))
    (dSeq (dAsg (dCB tupG (dCons (dVar 8) dNil)) (dGSub (dVar 5) (dVar 7)))
    (dRet (dTup (dCons (dC (.str "node")) (dCons (dVar 7) dNil))))))))))))
theorem ok_scan_tree {f : Addr} {fd : FuncData} {n : Nat} (T : Txt w K mg A) (G_check_tree : FnD P w K mg base 2 "check_tree" P_check_tree [] sp_check_tree) (G_scan_tree : FnD P w K mg base (2 + n) "scan_tree" P_scan_tree [] (sp_scan_tree n)) (F : L2.Fun K "scan_tree" "scan_tree" s_scan_tree f fd) (sp : DSp) (len : ∀ ds M Q E, sp ds M Q E → ds.length = P_scan_tree.length) (h : ∀ ds M Q E, sp ds M Q E → t_scan_tree K A n (ends Q E) (dstart N_scan_tree ds) M) :
    FnOk P w K mg base (L2.CX P w) (2 + n + 1) f fd P_scan_tree (liftSp K sp) :=
  okD F sc_scan_tree len fun cdv Ar outer s H E hr tk => ⟨t_scan_tree K _ n, (pssd_cons (psd_expr (pd_call G_check_tree (hr.mono (by omega)) tk rfl (pad_cons (pdv 0) (pad_cons (pdv 1) (pad_cons (pdv 2) pad_nil)))))
    (pssd_cons (psd_asg (pdv 3) (pgd_tup rfl (pgsd_cons (pgd_name (pg_name (i := 4) sc_scan_tree.nd rfl (Or.inl rfl))) (pgsd_cons (pgd_name (pg_name (i := 5) sc_scan_tree.nd rfl (Or.inl rfl))) (pgsd_cons (pgd_name (pg_name (i := 6) sc_scan_tree.nd rfl (Or.inl rfl))) pgsd_nil)))))
    (pssd_cons (psd_if (pt_cmpD (op_eqG (u200 hr)) (pd_ix ix_G (pdv 0) pd_int (fun _ _ => rfl)) pd_str (nomark _)) (pssd_cons (psd_expr (pd_bm PySem.F.plainAttrs_list PySem.F.slot_list_append PySem.F.type_list_append mt_appendM (pdv 6) (pad_cons (pd_ix ix_G (pdv 0) pd_int (fun _ _ => rfl)) pad_nil)))
    (pssd_one (psd_ret (pd_tup (pad_cons pd_str (pad_cons (pd_op op_subD (pd_callB call_lenG rfl T.n_len bt_len (pad_cons (pdv 6) pad_nil)) pd_int) pad_nil)))))) pssd_nil)
    (pssd_cons (psd_set (i := 7) sc_scan_tree.nd rfl (Or.inl rfl) (pd_callB call_lenG rfl T.n_len bt_len (pad_cons (pdv 4) pad_nil)))
    (pssd_cons (psd_expr (pd_bm PySem.F.plainAttrs_list PySem.F.slot_list_append PySem.F.type_list_append mt_appendM (pdv 4) (pad_cons (pd_ix ix_G (pdv 0) pd_int (fun _ _ => rfl)) pad_nil)))
    (pssd_cons (psd_expr (pd_bm PySem.F.plainAttrs_list PySem.F.slot_list_append PySem.F.type_list_append mt_appendM (pdv 5) (pad_cons (pd_tup pad_nil) pad_nil)))
    (pssd_cons (psd_setLc (own := [("k", 9)]) (i := 9) (j := 8) rfl sc_scan_tree.nd rfl rfl (sw_true rfl rfl rfl (by decide +kernel)) (pid_rng2 rfl T.n_range (pad_cons pd_int (pad_cons (pd_callB call_lenG rfl T.n_len bt_len (pad_cons (pdv 0) pad_nil)) pad_nil))) (blkOk_by (N := N_scan_tree) (sc := defScope s_scan_tree) (by decide +kernel)) (by decide) (fun _ _ _ _ _ => pg_name (i := 9) sc_scan_tree.nd rfl (Or.inl rfl)) (fun _ _ _ _ _ => ptsd_nil) (fun _ _ _ _ _ => (pd_call G_scan_tree (hr.mono (by omega)) tk0 rfl (pad_cons (pd_ix ix_G (pdv 0) (pdv 9) (fun _ _ => rfl)) (pad_cons (pd_op op_addD (pdv 1) (pd_tup (pad_cons (pdv 9) pad_nil))) (pad_cons (pd_op op_addD (pdv 2) pd_int) (pad_cons (pdv 3) pad_nil)))))))
    (pssd_cons (psd_asg (pd_callT call_tupG rfl T.n_tuple bt_tuple (pad_cons (pdv 8) pad_nil)) (pgd_sub (pdv 5) (pdv 7)))
    (pssd_one (psd_ret (pd_tup (pad_cons pd_str (pad_cons (pdv 7) pad_nil))))))))))))), h⟩
def t_Duel_init (K : PySem.W.Frag) (A : Adr) : DS :=
  (dSeq (dAsg (dLst dNil) (dName 2))
    (dSeq (dAsg (dLst dNil) (dName 3))
    (dSeq (dAsg (dLst dNil) (dName 4))
    (dSeq (dFldS K (dVar 0) (dCall (sp_scan_tree 22) [] (dCons (dVar 1) (dCons (dTup dNil) (dCons (dC (.int 0)) (dCons (dTup (dCons (dVar 2) (dCons (dVar 3) (dCons (dVar 4) dNil)))) dNil))))) "root")
    (dSeq (dIfS (dOr (dB (dOp (oI0 fun i j => .bl (decide (j < i))) (dCB lenG (dCons (dVar 2) dNil)) (dC (.int 200)))) (dB (dOp (oI0 fun i j => .bl (decide (j < i))) (dCB lenG (dCons (dVar 4) dNil)) (dC (.int 200))))) (dRaise A.TooLarge) dNext)
    (dSeq (dFldS K (dVar 0) (dVar 1) "tree")
    (dSeq (dFldS K (dVar 0) (dCB tupG (dCons (dVar 4) dNil)) "ends")
    (dSeq (dFldS K (dVar 0) (dCB tupG (dCons (dVar 2) dNil)) "sides")
    (dFldS K (dVar 0) (dCB tupG (dCons (dVar 3) dNil)) "children")))))))))
theorem ok_Duel_init {f : Addr} {fd : FuncData} (T : Txt w K mg A) (G_scan_tree : FnD P w K mg base 24 "scan_tree" P_scan_tree [] (sp_scan_tree 22)) (F : L2.Fun K "__init__" "Duel.__init__" s_Duel_init f fd) (sp : DSp) (len : ∀ ds M Q E, sp ds M Q E → ds.length = P_Duel_init.length) (h : ∀ ds M Q E, sp ds M Q E → t_Duel_init K A (ends Q E) (dstart N_Duel_init ds) M) :
    FnOk P w K mg base (L2.CX P w) (24 + 1) f fd P_Duel_init (liftSp K sp) :=
  okD F sc_Duel_init len fun cdv Ar outer s H E hr tk => ⟨t_Duel_init K _, (pssd_cons (psd_set (i := 2) sc_Duel_init.nd rfl (Or.inl rfl) (pd_lst pad_nil))
    (pssd_cons (psd_set (i := 3) sc_Duel_init.nd rfl (Or.inl rfl) (pd_lst pad_nil))
    (pssd_cons (psd_set (i := 4) sc_Duel_init.nd rfl (Or.inl rfl) (pd_lst pad_nil))
    (pssd_cons (psd_fld (pdv 0) (pd_call G_scan_tree (hr.mono (by omega)) tk rfl (pad_cons (pdv 1) (pad_cons (pd_tup pad_nil) (pad_cons pd_int (pad_cons (pd_tup (pad_cons (pdv 2) (pad_cons (pdv 3) (pad_cons (pdv 4) pad_nil)))) pad_nil))))))
    (pssd_cons (psd_if (PWD.pt (pwd_or (pt_cmpD op_gtD (pd_callB call_lenG rfl T.n_len bt_len (pad_cons (pdv 2) pad_nil)) (pd_cst T.cst_Duel_MOST_NODES (pd_cls rfl T.m_Duel)) (nomark _)) (pwd_or1 (pt_cmpD op_gtD (pd_callB call_lenG rfl T.n_len bt_len (pad_cons (pdv 4) pad_nil)) (pd_cst T.cst_Duel_MOST_LEAVES (pd_cls rfl T.m_Duel)) (nomark _))))) (pssd_one (psd_raise T.x_TooLarge rfl tk rfl)) pssd_nil)
    (pssd_cons (psd_fld (pdv 0) (pdv 1))
    (pssd_cons (psd_fld (pdv 0) (pd_callT call_tupG rfl T.n_tuple bt_tuple (pad_cons (pdv 4) pad_nil)))
    (pssd_cons (psd_fld (pdv 0) (pd_callT call_tupG rfl T.n_tuple bt_tuple (pad_cons (pdv 2) pad_nil)))
    (pssd_one (psd_fld (pdv 0) (pd_callT call_tupG rfl T.n_tuple bt_tuple (pad_cons (pdv 3) pad_nil)))))))))))), h⟩
def t_tree_with_ends (K : PySem.W.Frag) (A : Adr) (n : Nat) : DS :=
  (dSeq (dIfS (dB (dOp eqD (dOp ixG (dVar 0) (dC (.int 0))) (dC (.str "end")))) (dRet (dTup (dCons (dTup (dCons (dC (.str "end")) (dCons (dOp ixG (dVar 1) (dVar 2)) dNil))) (dCons (dOp addD (dVar 2) (dC (.int 1))) dNil)))) dNext)
    (dSeq (dAsg (dLst dNil) (dName 3))
    (dSeq (dAsg (dVar 2) (dName 4))
    (dSeq (dFor (dIter (dSl (dVar 0) (dPart (dC (.int 2))) dNoP)) (dName 5) (dSeq (dAsg (dCall (sp_tree_with_ends n) [] (dCons (dVar 5) (dCons (dVar 1) (dCons (dVar 4) dNil)))) (dGTup 2 (dGCons (dName 6) (dGCons (dName 4) dGNil))))
    (dDrop (dBM "list" appendM (dVar 3) (dCons (dVar 6) dNil)))))
    (dRet (dTup (dCons (dOp addD (dSl (dVar 0) dNoP (dPart (dC (.int 2)))) (dCB tupG (dCons (dVar 3) dNil))) (dCons (dVar 4) dNil))))))))
theorem ok_tree_with_ends {f : Addr} {fd : FuncData} {n : Nat} (T : Txt w K mg A) (G_tree_with_ends : FnD P w K mg base (0 + n) "tree_with_ends" P_tree_with_ends [] (sp_tree_with_ends n)) (F : L2.Fun K "tree_with_ends" "tree_with_ends" s_tree_with_ends f fd) (sp : DSp) (len : ∀ ds M Q E, sp ds M Q E → ds.length = P_tree_with_ends.length) (h : ∀ ds M Q E, sp ds M Q E → t_tree_with_ends K A n (ends Q E) (dstart N_tree_with_ends ds) M) :
    FnOk P w K mg base (L2.CX P w) (0 + n + 1) f fd P_tree_with_ends (liftSp K sp) :=
  okD F sc_tree_with_ends len fun cdv Ar outer s H E hr tk => ⟨t_tree_with_ends K _ n, (pssd_cons (psd_if (pt_cmpD (op_eqG (u200 hr)) (pd_ix ix_G (pdv 0) pd_int (fun _ _ => rfl)) pd_str (nomark _)) (pssd_one (psd_ret (pd_tup (pad_cons (pd_tup (pad_cons pd_str (pad_cons (pd_ix ix_G (pdv 1) (pdv 2) (fun _ _ => rfl)) pad_nil))) (pad_cons (pd_op op_addD (pdv 2) pd_int) pad_nil))))) pssd_nil)
    (pssd_cons (psd_set (i := 3) sc_tree_with_ends.nd rfl (Or.inl rfl) (pd_lst pad_nil))
    (pssd_cons (psd_set (i := 4) sc_tree_with_ends.nd rfl (Or.inl rfl) (pdv 2))
    (pssd_cons (psd_for (passes_of rfl) rfl (pid_any (pd_slice (pdv 0) (pod_some pd_int) pod_none)) (pgd_name (pg_name (i := 5) sc_tree_with_ends.nd rfl (Or.inl rfl))) (pssd_cons (psd_asg (pd_call G_tree_with_ends (hr.mono (by omega)) tk rfl (pad_cons (pdv 5) (pad_cons (pdv 1) (pad_cons (pdv 4) pad_nil)))) (pgd_tup rfl (pgsd_cons (pgd_name (pg_name (i := 6) sc_tree_with_ends.nd rfl (Or.inl rfl))) (pgsd_cons (pgd_name (pg_name (i := 4) sc_tree_with_ends.nd rfl (Or.inl rfl))) pgsd_nil))))
    (pssd_one (psd_expr (pd_bm PySem.F.plainAttrs_list PySem.F.slot_list_append PySem.F.type_list_append mt_appendM (pdv 3) (pad_cons (pdv 6) pad_nil))))))
    (pssd_one (psd_ret (pd_tup (pad_cons (pd_op op_addD (pd_slice (pdv 0) pod_none (pod_some pd_int)) (pd_callT call_tupG rfl T.n_tuple bt_tuple (pad_cons (pdv 3) pad_nil))) (pad_cons (pdv 4) pad_nil))))))))), h⟩
def t_Duel_with_ends (K : PySem.W.Frag) (A : Adr) : DS :=
  (dSeq (dIfS (dOr (dB (dOp neD (dCB lenG (dCons (dVar 1) dNil)) (dCB lenG (dCons (dFld K (dVar 0) "ends") dNil)))) (dNot (dTru (dCB (allG fun bs => bs.all id) (dCons (dLc (dIter (dVar 1)) (fun d τ => τ.set 2 (some d)) dYes (dCall sp_is_outcome [] (dCons (dVar 2) dNil)) [2]) dNil))))) (dRaise A.OutOfRange) dNext)
    (dRet (dMake A.Duel (sp_Duel_init A.Duel) [] (dCons (dOp ixG (dCall (sp_tree_with_ends 22) [] (dCons (dFld K (dVar 0) "tree") (dCons (dVar 1) (dCons (dC (.int 0)) dNil)))) (dC (.int 0))) dNil))))
theorem ok_Duel_with_ends {f : Addr} {fd : FuncData} (T : Txt w K mg A) (G_Duel_init : MakD P w K mg base 25 "Duel" A.Duel P_Duel_init [] (sp_Duel_init A.Duel)) (G_is_outcome : FnD P w K mg base 1 "is_outcome" P_is_outcome [] sp_is_outcome) (G_tree_with_ends : FnD P w K mg base 22 "tree_with_ends" P_tree_with_ends [] (sp_tree_with_ends 22)) (F : L2.Fun K "with_ends" "Duel.with_ends" s_Duel_with_ends f fd) (sp : DSp) (len : ∀ ds M Q E, sp ds M Q E → ds.length = P_Duel_with_ends.length) (h : ∀ ds M Q E, sp ds M Q E → t_Duel_with_ends K A (ends Q E) (dstart N_Duel_with_ends ds) M) :
    FnOk P w K mg base (L2.CX P w) (26 + 1) f fd P_Duel_with_ends (liftSp K sp) :=
  okD F sc_Duel_with_ends len fun cdv Ar outer s H E hr tk => ⟨t_Duel_with_ends K _, (pssd_cons (psd_if (PWD.pt (pwd_or (pt_cmpD (op_neG (u200 hr)) (pd_callB call_lenG rfl T.n_len bt_len (pad_cons (pdv 1) pad_nil)) (pd_callB call_lenG rfl T.n_len bt_len (pad_cons (pd_fld (pdv 0)) pad_nil)) (nomark _)) (pwd_or1 (ptd_not (ptd_tru (pd_callB (call_allG rfl) rfl T.n_all bt_all (pad_cons (pd_lc (own := [("end", 2)]) (i := 2) rfl sc_Duel_with_ends.nd (pid_any (pdv 1)) (blkOk_by (N := N_Duel_with_ends) (sc := defScope s_Duel_with_ends) (by decide +kernel)) (by decide) (fun _ _ _ _ _ => pg_name (i := 2) sc_Duel_with_ends.nd rfl (Or.inl rfl)) (fun _ _ _ _ _ => ptsd_nil) (fun _ _ _ _ _ => (pd_call G_is_outcome (hr.mono (by omega)) tk0 rfl (pad_cons (pdv 2) pad_nil)))) pad_nil))))))) (pssd_one (psd_raise T.x_OutOfRange rfl tk rfl)) pssd_nil)
    (pssd_one (psd_ret (pd_make G_Duel_init (hr.mono (by omega)) tk rfl (pad_cons (pd_ix ix_G (pd_call G_tree_with_ends (hr.mono (by omega)) tk rfl (pad_cons (pd_fld (pdv 0)) (pad_cons (pdv 1) (pad_cons pd_int pad_nil)))) pd_int (fun _ _ => rfl)) pad_nil))))), h⟩
def t_swapped_tree (K : PySem.W.Frag) (A : Adr) (n : Nat) : DS :=
  (dRet (dOp addD (dTup (dCons (dOp ixG (dVar 0) (dC (.int 0))) (dCons (dOp (oI0 fun i j => .int (i - j)) (dC (.int 1)) (dOp ixG (dVar 0) (dC (.int 1)))) dNil))) (dCB tupG (dCons (dLc (dIter (dSl (dVar 0) (dPart (dC (.int 2))) dNoP)) (fun d τ => τ.set 1 (some d)) dYes (dCall (sp_swapped_tree n) [] (dCons (dVar 1) dNil)) [1]) dNil))))
theorem ok_swapped_tree {f : Addr} {fd : FuncData} {n : Nat} (T : Txt w K mg A) (G_swapped_tree : FnD P w K mg base (0 + n) "swapped_tree" P_swapped_tree [] (sp_swapped_tree n)) (F : L2.Fun K "swapped_tree" "swapped_tree" s_swapped_tree f fd) (sp : DSp) (len : ∀ ds M Q E, sp ds M Q E → ds.length = P_swapped_tree.length) (h : ∀ ds M Q E, sp ds M Q E → t_swapped_tree K A n (ends Q E) (dstart N_swapped_tree ds) M) :
    FnOk P w K mg base (L2.CX P w) (0 + n + 1) f fd P_swapped_tree (liftSp K sp) :=
  okD F sc_swapped_tree len fun cdv Ar outer s H E hr tk => ⟨t_swapped_tree K _ n, (pssd_one (psd_ret (pd_op op_addD (pd_tup (pad_cons (pd_ix ix_G (pdv 0) pd_int (fun _ _ => rfl)) (pad_cons (pd_op op_subD pd_int (pd_ix ix_G (pdv 0) pd_int (fun _ _ => rfl))) pad_nil))) (pd_callT call_tupG rfl T.n_tuple bt_tuple (pad_cons (pd_lc (own := [("inner", 1)]) (i := 1) rfl sc_swapped_tree.nd (pid_any (pd_slice (pdv 0) (pod_some pd_int) pod_none)) (blkOk_by (N := N_swapped_tree) (sc := defScope s_swapped_tree) (by decide +kernel)) (by decide) (fun _ _ _ _ _ => pg_name (i := 1) sc_swapped_tree.nd rfl (Or.inl rfl)) (fun _ _ _ _ _ => ptsd_nil) (fun _ _ _ _ _ => (pd_call G_swapped_tree (hr.mono (by omega)) tk0 rfl (pad_cons (pdv 1) pad_nil)))) pad_nil))))), h⟩
def t_swapped (K : PySem.W.Frag) (A : Adr) : DS :=
  (dRet (dMake A.Duel (sp_Duel_init A.Duel) [] (dCons (dCall (sp_swapped_tree 22) [] (dCons (dFld K (dVar 0) "tree") dNil)) dNil)))
theorem ok_swapped {f : Addr} {fd : FuncData} (T : Txt w K mg A) (G_Duel_init : MakD P w K mg base 25 "Duel" A.Duel P_Duel_init [] (sp_Duel_init A.Duel)) (G_swapped_tree : FnD P w K mg base 22 "swapped_tree" P_swapped_tree [] (sp_swapped_tree 22)) (F : L2.Fun K "swapped" "swapped" s_swapped f fd) (sp : DSp) (len : ∀ ds M Q E, sp ds M Q E → ds.length = P_swapped.length) (h : ∀ ds M Q E, sp ds M Q E → t_swapped K A (ends Q E) (dstart N_swapped ds) M) :
    FnOk P w K mg base (L2.CX P w) (26 + 1) f fd P_swapped (liftSp K sp) :=
  okD F sc_swapped len fun cdv Ar outer s H E hr tk => ⟨t_swapped K _, (pssd_one (psd_ret (pd_make G_Duel_init (hr.mono (by omega)) tk rfl (pad_cons (pd_call G_swapped_tree (hr.mono (by omega)) tk rfl (pad_cons (pd_fld (pdv 0)) pad_nil)) pad_nil)))), h⟩
def t_entry_of (K : PySem.W.Frag) (A : Adr) : DS :=
  (dSeq (dAsg (dVar 0) (dGTup 2 (dGCons (dName 3) (dGCons (dName 4) dGNil))))
    (dSeq (dIfS (dB (dOp eqD (dVar 3) (dC (.str "leaf")))) (dRet (dOp ixG (dVar 2) (dVar 4))) dNext)
    (dRet (dOp ixG (dVar 1) (dVar 4)))))
theorem ok_entry_of {f : Addr} {fd : FuncData} (T : Txt w K mg A)  (F : L2.Fun K "entry_of" "entry_of" s_entry_of f fd) (sp : DSp) (len : ∀ ds M Q E, sp ds M Q E → ds.length = P_entry_of.length) (h : ∀ ds M Q E, sp ds M Q E → t_entry_of K A (ends Q E) (dstart N_entry_of ds) M) :
    FnOk P w K mg base (L2.CX P w) (0 + 1) f fd P_entry_of (liftSp K sp) :=
  okD F sc_entry_of len fun cdv Ar outer s H E hr tk => ⟨t_entry_of K _, (pssd_cons (psd_asg (pdv 0) (pgd_tup rfl (pgsd_cons (pgd_name (pg_name (i := 3) sc_entry_of.nd rfl (Or.inl rfl))) (pgsd_cons (pgd_name (pg_name (i := 4) sc_entry_of.nd rfl (Or.inl rfl))) pgsd_nil))))
    (pssd_cons (psd_if (pt_cmpD (op_eqG (u200 hr)) (pdv 3) pd_str (nomark _)) (pssd_one (psd_ret (pd_ix ix_G (pdv 2) (pdv 4) (fun _ _ => rfl)))) pssd_nil)
    (pssd_one (psd_ret (pd_ix ix_G (pdv 1) (pdv 4) (fun _ _ => rfl)))))), h⟩
def t_winners_with (K : PySem.W.Frag) (A : Adr) : DS :=
  (dSeq (dAsg (dLc (dIter (dFld K (dVar 0) "sides")) (fun d τ => τ.set 6 (some d)) dYes (dC .non) [6]) (dName 2))
    (dSeq (dFor (dRngD (dCons (dOp (oI0 fun i j => .int (i - j)) (dCB lenG (dCons (dFld K (dVar 0) "sides") dNil)) (dC (.int 1))) (dCons (dNeg (dC (.int 1))) (dCons (dNeg (dC (.int 1))) dNil)))) (dName 3) (dSeq (dAsg (dOp ixG (dFld K (dVar 0) "sides") (dVar 3)) (dName 4))
    (dSeq (dAsg (dLc (dIter (dOp ixG (dFld K (dVar 0) "children") (dVar 3))) (fun d τ => τ.set 7 (some d)) dYes (dCall sp_entry_of [] (dCons (dVar 7) (dCons (dVar 2) (dCons (dVar 1) dNil)))) [7]) (dName 5))
    (dIfS (dB (dOp (inG false) (dVar 4) (dVar 5))) (dAsg (dVar 4) (dGSub (dVar 2) (dVar 3))) (dIfS (dB (dOp (inG true) (dC .non) (dVar 5))) (dAsg (dOp (oI0 fun i j => .int (i - j)) (dC (.int 1)) (dVar 4)) (dGSub (dVar 2) (dVar 3))) dNext)))))
    (dRet (dVar 2))))
theorem ok_winners_with {f : Addr} {fd : FuncData} (T : Txt w K mg A) (G_entry_of : FnD P w K mg base 1 "entry_of" P_entry_of [] sp_entry_of) (F : L2.Fun K "winners_with" "winners_with" s_winners_with f fd) (sp : DSp) (len : ∀ ds M Q E, sp ds M Q E → ds.length = P_winners_with.length) (h : ∀ ds M Q E, sp ds M Q E → t_winners_with K A (ends Q E) (dstart N_winners_with ds) M) :
    FnOk P w K mg base (L2.CX P w) (1 + 1) f fd P_winners_with (liftSp K sp) :=
  okD F sc_winners_with len fun cdv Ar outer s H E hr tk => ⟨t_winners_with K _, (pssd_cons (psd_set (i := 2) sc_winners_with.nd rfl (Or.inr rfl) (pd_lc (own := [("_", 6)]) (i := 6) rfl sc_winners_with.nd (pid_any (pd_fld (pdv 0))) (blkOk_by (N := N_winners_with) (sc := defScope s_winners_with) (by decide +kernel)) (by decide) (fun _ _ _ _ _ => pg_name (i := 6) sc_winners_with.nd rfl (Or.inl rfl)) (fun _ _ _ _ _ => ptsd_nil) (fun _ _ _ _ _ => pd_non)))
    (pssd_cons (psd_for (passes_of rfl) rfl (pid_rngD rfl T.n_range (pad_cons (pd_op op_subD (pd_callB call_lenG rfl T.n_len bt_len (pad_cons (pd_fld (pdv 0)) pad_nil)) pd_int) (pad_cons (pd_neg pd_int) (pad_cons (pd_neg pd_int) pad_nil)))) (pgd_name (pg_name (i := 3) sc_winners_with.nd rfl (Or.inl rfl))) (pssd_cons (psd_set (i := 4) sc_winners_with.nd rfl (Or.inl rfl) (pd_ix ix_G (pd_fld (pdv 0)) (pdv 3) (fun _ _ => rfl)))
    (pssd_cons (psd_setLc (own := [("child", 7)]) (i := 7) (j := 5) rfl sc_winners_with.nd rfl rfl (sw_true rfl rfl rfl (by decide +kernel)) (pid_any (pd_ix ix_G (pd_fld (pdv 0)) (pdv 3) (fun _ _ => rfl))) (blkOk_by (N := N_winners_with) (sc := defScope s_winners_with) (by decide +kernel)) (by decide) (fun _ _ _ _ _ => pg_name (i := 7) sc_winners_with.nd rfl (Or.inl rfl)) (fun _ _ _ _ _ => ptsd_nil) (fun _ _ _ _ _ => (pd_call G_entry_of (hr.mono (by omega)) tk0 rfl (pad_cons (pdv 7) (pad_cons (pdv 2) (pad_cons (pdv 1) pad_nil))))))
    (pssd_one (psd_if (pt_cmpD op_inG (pdv 4) (pdv 5) (by with_unfolding_all rfl)) (pssd_one (psd_asg (pdv 4) (pgd_sub (pdv 2) (pdv 3)))) (pssd_one (psd_if (pt_cmpD op_notInG pd_non (pdv 5) (by with_unfolding_all rfl)) (pssd_one (psd_asg (pd_op op_subD pd_int (pdv 4)) (pgd_sub (pdv 2) (pdv 3)))) pssd_nil)))))))
    (pssd_one (psd_ret (pdv 2))))), h⟩
def t_winner (K : PySem.W.Frag) (A : Adr) : DS :=
  (dRet (dCall sp_entry_of [] (dCons (dFld K (dVar 0) "root") (dCons (dCall (sp_winners_with A.Duel) [] (dCons (dVar 0) (dCons (dFld K (dVar 0) "ends") dNil))) (dCons (dFld K (dVar 0) "ends") dNil)))))
theorem ok_winner {f : Addr} {fd : FuncData} (T : Txt w K mg A) (G_entry_of : FnD P w K mg base 1 "entry_of" P_entry_of [] sp_entry_of) (G_winners_with : FnD P w K mg base 2 "winners_with" P_winners_with [] (sp_winners_with A.Duel)) (F : L2.Fun K "winner" "winner" s_winner f fd) (sp : DSp) (len : ∀ ds M Q E, sp ds M Q E → ds.length = P_winner.length) (h : ∀ ds M Q E, sp ds M Q E → t_winner K A (ends Q E) (dstart N_winner ds) M) :
    FnOk P w K mg base (L2.CX P w) (2 + 1) f fd P_winner (liftSp K sp) :=
  okD F sc_winner len fun cdv Ar outer s H E hr tk => ⟨t_winner K _, (pssd_one (psd_ret (pd_call G_entry_of (hr.mono (by omega)) tk rfl (pad_cons (pd_fld (pdv 0)) (pad_cons (pd_call G_winners_with (hr.mono (by omega)) tk rfl (pad_cons (pdv 0) (pad_cons (pd_fld (pdv 0)) pad_nil))) (pad_cons (pd_fld (pdv 0)) pad_nil)))))), h⟩
def t_winning_plan (K : PySem.W.Frag) (A : Adr) : DS :=
  (dSeq (dAsg (dCall (sp_winners_with A.Duel) [] (dCons (dVar 0) (dCons (dFld K (dVar 0) "ends") dNil))) (dName 1))
    (dSeq (dAsg (dCall sp_entry_of [] (dCons (dFld K (dVar 0) "root") (dCons (dVar 1) (dCons (dFld K (dVar 0) "ends") dNil)))) (dName 2))
    (dSeq (dAsg (dLst dNil) (dName 3))
    (dSeq (dFor (dZip (dCons (dFld K (dVar 0) "sides") (dCons (dFld K (dVar 0) "children") dNil))) (dGTup 2 (dGCons (dName 4) (dGCons (dName 5) dGNil))) (dSeq (dAsg (dLc (dIter (dVar 5)) (fun d τ => τ.set 7 (some d)) dYes (dCall sp_entry_of [] (dCons (dVar 7) (dCons (dVar 1) (dCons (dFld K (dVar 0) "ends") dNil)))) [7]) (dName 6))
    (dIfS (dB (dOp neD (dVar 4) (dVar 2))) (dDrop (dBM "list" appendM (dVar 3) (dCons (dC .non) dNil))) (dIfS (dB (dOp (inG false) (dVar 2) (dVar 6))) (dDrop (dBM "list" appendM (dVar 3) (dCons (dBM "list" indexM (dVar 6) (dCons (dVar 2) dNil)) dNil))) (dDrop (dBM "list" appendM (dVar 3) (dCons (dC (.int 0)) dNil)))))))
    (dRet (dCB tupG (dCons (dVar 3) dNil)))))))
theorem ok_winning_plan {f : Addr} {fd : FuncData} (T : Txt w K mg A) (G_entry_of : FnD P w K mg base 1 "entry_of" P_entry_of [] sp_entry_of) (G_winners_with : FnD P w K mg base 2 "winners_with" P_winners_with [] (sp_winners_with A.Duel)) (F : L2.Fun K "winning_plan" "winning_plan" s_winning_plan f fd) (sp : DSp) (len : ∀ ds M Q E, sp ds M Q E → ds.length = P_winning_plan.length) (h : ∀ ds M Q E, sp ds M Q E → t_winning_plan K A (ends Q E) (dstart N_winning_plan ds) M) :
    FnOk P w K mg base (L2.CX P w) (2 + 1) f fd P_winning_plan (liftSp K sp) :=
  okD F sc_winning_plan len fun cdv Ar outer s H E hr tk => ⟨t_winning_plan K _, (pssd_cons (psd_set (i := 1) sc_winning_plan.nd rfl (Or.inr rfl) (pd_call G_winners_with (hr.mono (by omega)) tk rfl (pad_cons (pdv 0) (pad_cons (pd_fld (pdv 0)) pad_nil))))
    (pssd_cons (psd_set (i := 2) sc_winning_plan.nd rfl (Or.inl rfl) (pd_call G_entry_of (hr.mono (by omega)) tk rfl (pad_cons (pd_fld (pdv 0)) (pad_cons (pdv 1) (pad_cons (pd_fld (pdv 0)) pad_nil)))))
    (pssd_cons (psd_set (i := 3) sc_winning_plan.nd rfl (Or.inl rfl) (pd_lst pad_nil))
    (pssd_cons (psd_for (passes_of rfl) rfl (pid_zip rfl T.n_zip (pad_cons (pd_fld (pdv 0)) (pad_cons (pd_fld (pdv 0)) pad_nil))) (pgd_tup rfl (pgsd_cons (pgd_name (pg_name (i := 4) sc_winning_plan.nd rfl (Or.inl rfl))) (pgsd_cons (pgd_name (pg_name (i := 5) sc_winning_plan.nd rfl (Or.inl rfl))) pgsd_nil))) (pssd_cons (psd_setLc (own := [("child", 7)]) (i := 7) (j := 6) rfl sc_winning_plan.nd rfl rfl (sw_true rfl rfl rfl (by decide +kernel)) (pid_any (pdv 5)) (blkOk_by (N := N_winning_plan) (sc := defScope s_winning_plan) (by decide +kernel)) (by decide) (fun _ _ _ _ _ => pg_name (i := 7) sc_winning_plan.nd rfl (Or.inl rfl)) (fun _ _ _ _ _ => ptsd_nil) (fun _ _ _ _ _ => (pd_call G_entry_of (hr.mono (by omega)) tk0 rfl (pad_cons (pdv 7) (pad_cons (pdv 1) (pad_cons (pd_fld (pdv 0)) pad_nil))))))
    (pssd_one (psd_if (pt_cmpD (op_neG (u200 hr)) (pdv 4) (pdv 2) (nomark _)) (pssd_one (psd_expr (pd_bm PySem.F.plainAttrs_list PySem.F.slot_list_append PySem.F.type_list_append mt_appendM (pdv 3) (pad_cons pd_non pad_nil)))) (pssd_one (psd_if (pt_cmpD op_inG (pdv 2) (pdv 6) (by with_unfolding_all rfl)) (pssd_one (psd_expr (pd_bm PySem.F.plainAttrs_list PySem.F.slot_list_append PySem.F.type_list_append mt_appendM (pdv 3) (pad_cons (pd_bm PySem.F.plainAttrs_list PySem.F.slot_list_index PySem.F.type_list_index mt_indexM (pdv 6) (pad_cons (pdv 2) pad_nil)) pad_nil)))) (pssd_one (psd_expr (pd_bm PySem.F.plainAttrs_list PySem.F.slot_list_append PySem.F.type_list_append mt_appendM (pdv 3) (pad_cons pd_int pad_nil))))))))))
    (pssd_one (psd_ret (pd_callT call_tupG rfl T.n_tuple bt_tuple (pad_cons (pdv 3) pad_nil)))))))), h⟩
def t_require_plan (K : PySem.W.Frag) (A : Adr) : DS :=
  (dFor (dRng1 (dCons (dCB (mmG fun i j => if j > i then j else i) (dCons (dCB lenG (dCons (dVar 1) dNil)) (dCons (dCB lenG (dCons (dFld K (dVar 0) "sides") dNil)) dNil))) dNil)) (dName 2) (dSeq (dIfS (dOr (dB (dOp (oI0 fun i j => .bl (decide (j ≤ i))) (dVar 2) (dCB lenG (dCons (dVar 1) dNil)))) (dB (dOp (oI0 fun i j => .bl (decide (j ≤ i))) (dVar 2) (dCB lenG (dCons (dFld K (dVar 0) "sides") dNil))))) (dRaiseI A.InvalidPlan ["index"] (dCons (dVar 2) dNil)) dNext)
    (dSeq (dAsg (dOp ixG (dVar 1) (dVar 2)) (dName 3))
    (dIfS (dAnd (dB (dOp (isG true) (dVar 3) (dC .non))) (dNot (dB (dChain (oI0 fun i j => .bl (decide (i ≤ j))) (oI0 fun i j => .bl (decide (i < j))) (dC (.int 0)) (dVar 3) (dCB lenG (dCons (dOp ixG (dFld K (dVar 0) "children") (dVar 2)) dNil)))))) (dRaiseI A.InvalidPlan ["index"] (dCons (dVar 2) dNil)) dNext))))
theorem ok_require_plan {f : Addr} {fd : FuncData} (T : Txt w K mg A) (G_xInvalidPlan : RaiD P w K mg base 1 "InvalidPlan" A.InvalidPlan ["index"]) (F : L2.Fun K "require_plan" "require_plan" s_require_plan f fd) (sp : DSp) (len : ∀ ds M Q E, sp ds M Q E → ds.length = P_require_plan.length) (h : ∀ ds M Q E, sp ds M Q E → t_require_plan K A (ends Q E) (dstart N_require_plan ds) M) :
    FnOk P w K mg base (L2.CX P w) (2 + 1) f fd P_require_plan (liftSp K sp) :=
  okD F sc_require_plan len fun cdv Ar outer s H E hr tk => ⟨t_require_plan K _, (pssd_one (psd_for (passes_of rfl) rfl (pid_rng1 rfl T.n_range (pad_cons (pd_callB (call_maxG rfl) rfl T.n_max bt_max (pad_cons (pd_callB call_lenG rfl T.n_len bt_len (pad_cons (pdv 1) pad_nil)) (pad_cons (pd_callB call_lenG rfl T.n_len bt_len (pad_cons (pd_fld (pdv 0)) pad_nil)) pad_nil))) pad_nil)) (pgd_name (pg_name (i := 2) sc_require_plan.nd rfl (Or.inl rfl))) (pssd_cons (psd_if (PWD.pt (pwd_or (pt_cmpD op_geD (pdv 2) (pd_callB call_lenG rfl T.n_len bt_len (pad_cons (pdv 1) pad_nil)) (nomark _)) (pwd_or1 (pt_cmpD op_geD (pdv 2) (pd_callB call_lenG rfl T.n_len bt_len (pad_cons (pd_fld (pdv 0)) pad_nil)) (nomark _))))) (pssd_one (psd_raiseI G_xInvalidPlan (by decide) (hr.mono (by omega)) rfl tk rfl (pad_cons (pdv 2) pad_nil))) pssd_nil)
    (pssd_cons (psd_set (i := 3) sc_require_plan.nd rfl (Or.inl rfl) (pd_ix ix_G (pdv 1) (pdv 2) (fun _ _ => rfl)))
    (pssd_one (psd_if (PWD.pt (pwd_and (pt_cmpD op_isNotG (pdv 3) pd_non (nomark _)) (pwd_and1 (ptd_not (ptd_chain op_leD op_ltD pd_int (pdv 3) (pd_callB call_lenG rfl T.n_len bt_len (pad_cons (pd_ix ix_G (pd_fld (pdv 0)) (pdv 2) (fun _ _ => rfl)) pad_nil))))))) (pssd_one (psd_raiseI G_xInvalidPlan (by decide) (hr.mono (by omega)) rfl tk rfl (pad_cons (pdv 2) pad_nil))) pssd_nil)))))), h⟩
def t_is_winning (K : PySem.W.Frag) (A : Adr) : DS :=
  (dSeq (dDrop (dCall (sp_require_plan A) [] (dCons (dVar 0) (dCons (dVar 1) dNil))))
    (dSeq (dIfS (dNot (dTru (dCall sp_is_outcome [] (dCons (dVar 2) dNil)))) (dRaise A.OutOfRange) dNext)
    (dSeq (dAsg (dLc (dIter (dFld K (dVar 0) "ends")) (fun d τ => τ.set 7 (some d)) dYes (dOp eqD (dVar 7) (dVar 2)) [7]) (dName 3))
    (dSeq (dAsg (dLc (dIter (dFld K (dVar 0) "sides")) (fun d τ => τ.set 8 (some d)) dYes (dC (.bl false)) [8]) (dName 4))
    (dSeq (dFor (dRngD (dCons (dOp (oI0 fun i j => .int (i - j)) (dCB lenG (dCons (dFld K (dVar 0) "sides") dNil)) (dC (.int 1))) (dCons (dNeg (dC (.int 1))) (dCons (dNeg (dC (.int 1))) dNil)))) (dName 5) (dSeq (dAsg (dLc (dIter (dOp ixG (dFld K (dVar 0) "children") (dVar 5))) (fun d τ => τ.set 9 (some d)) dYes (dCall sp_entry_of [] (dCons (dVar 9) (dCons (dVar 4) (dCons (dVar 3) dNil)))) [9]) (dName 6))
    (dIfS (dB (dOp (isG false) (dOp ixG (dVar 1) (dVar 5)) (dC .non))) (dAsg (dCB (allG fun bs => bs.all id) (dCons (dVar 6) dNil)) (dGSub (dVar 4) (dVar 5))) (dAsg (dOp ixG (dVar 6) (dOp ixG (dVar 1) (dVar 5))) (dGSub (dVar 4) (dVar 5))))))
    (dRet (dCall sp_entry_of [] (dCons (dFld K (dVar 0) "root") (dCons (dVar 4) (dCons (dVar 3) dNil))))))))))
theorem ok_is_winning {f : Addr} {fd : FuncData} (T : Txt w K mg A) (G_entry_of : FnD P w K mg base 1 "entry_of" P_entry_of [] sp_entry_of) (G_is_outcome : FnD P w K mg base 1 "is_outcome" P_is_outcome [] sp_is_outcome) (G_require_plan : FnD P w K mg base 3 "require_plan" P_require_plan [] (sp_require_plan A)) (F : L2.Fun K "is_winning" "is_winning" s_is_winning f fd) (sp : DSp) (len : ∀ ds M Q E, sp ds M Q E → ds.length = P_is_winning.length) (h : ∀ ds M Q E, sp ds M Q E → t_is_winning K A (ends Q E) (dstart N_is_winning ds) M) :
    FnOk P w K mg base (L2.CX P w) (3 + 1) f fd P_is_winning (liftSp K sp) :=
  okD F sc_is_winning len fun cdv Ar outer s H E hr tk => ⟨t_is_winning K _, (pssd_cons (psd_expr (pd_call G_require_plan (hr.mono (by omega)) tk rfl (pad_cons (pdv 0) (pad_cons (pdv 1) pad_nil))))
    (pssd_cons (psd_if (ptd_not (ptd_tru (pd_call G_is_outcome (hr.mono (by omega)) tk rfl (pad_cons (pdv 2) pad_nil)))) (pssd_one (psd_raise T.x_OutOfRange rfl tk rfl)) pssd_nil)
    (pssd_cons (psd_set (i := 3) sc_is_winning.nd rfl (Or.inr rfl) (pd_lc (own := [("end", 7)]) (i := 7) rfl sc_is_winning.nd (pid_any (pd_fld (pdv 0))) (blkOk_by (N := N_is_winning) (sc := defScope s_is_winning) (by decide +kernel)) (by decide) (fun _ _ _ _ _ => pg_name (i := 7) sc_is_winning.nd rfl (Or.inl rfl)) (fun _ _ _ _ _ => ptsd_nil) (fun _ _ _ _ _ => (pd_cmp (op_eqG (u200 hr)) (pdv 7) (pdv 2) (nomark _)))))
    (pssd_cons (psd_set (i := 4) sc_is_winning.nd rfl (Or.inr rfl) (pd_lc (own := [("_", 8)]) (i := 8) rfl sc_is_winning.nd (pid_any (pd_fld (pdv 0))) (blkOk_by (N := N_is_winning) (sc := defScope s_is_winning) (by decide +kernel)) (by decide) (fun _ _ _ _ _ => pg_name (i := 8) sc_is_winning.nd rfl (Or.inl rfl)) (fun _ _ _ _ _ => ptsd_nil) (fun _ _ _ _ _ => pd_bl)))
    (pssd_cons (psd_for (passes_of rfl) rfl (pid_rngD rfl T.n_range (pad_cons (pd_op op_subD (pd_callB call_lenG rfl T.n_len bt_len (pad_cons (pd_fld (pdv 0)) pad_nil)) pd_int) (pad_cons (pd_neg pd_int) (pad_cons (pd_neg pd_int) pad_nil)))) (pgd_name (pg_name (i := 5) sc_is_winning.nd rfl (Or.inl rfl))) (pssd_cons (psd_setLc (own := [("child", 9)]) (i := 9) (j := 6) rfl sc_is_winning.nd rfl rfl (sw_true rfl rfl rfl (by decide +kernel)) (pid_any (pd_ix ix_G (pd_fld (pdv 0)) (pdv 5) (fun _ _ => rfl))) (blkOk_by (N := N_is_winning) (sc := defScope s_is_winning) (by decide +kernel)) (by decide) (fun _ _ _ _ _ => pg_name (i := 9) sc_is_winning.nd rfl (Or.inl rfl)) (fun _ _ _ _ _ => ptsd_nil) (fun _ _ _ _ _ => (pd_call G_entry_of (hr.mono (by omega)) tk0 rfl (pad_cons (pdv 9) (pad_cons (pdv 4) (pad_cons (pdv 3) pad_nil))))))
    (pssd_one (psd_if (pt_cmpD op_isG (pd_ix ix_G (pdv 1) (pdv 5) (fun _ _ => rfl)) pd_non (nomark _)) (pssd_one (psd_asg (pd_callB (call_allG rfl) rfl T.n_all bt_all (pad_cons (pdv 6) pad_nil)) (pgd_sub (pdv 4) (pdv 5)))) (pssd_one (psd_asg (pd_ix ix_G (pdv 6) (pd_ix ix_G (pdv 1) (pdv 5) (fun _ _ => rfl)) (fun _ _ => rfl)) (pgd_sub (pdv 4) (pdv 5))))))))
    (pssd_one (psd_ret (pd_call G_entry_of (hr.mono (by omega)) tk rfl (pad_cons (pd_fld (pdv 0)) (pad_cons (pdv 4) (pad_cons (pdv 3) pad_nil))))))))))), h⟩
def t_law_start (K : PySem.W.Frag) (A : Adr) : DS :=
  (dSeq (dAsg (dC (.int 7)) (dName 1))
    (dSeq (dFor (dRng1 (dCons (dCB lenG (dCons (dVar 0) dNil)) dNil)) (dName 2) (dAsg (dOp (oI (fun _ j => 0 < j) fun i j => .int (i % j)) (dOp addD (dOp addD (dOp addD (dOp mulD (dVar 1) (dC (.int 48271))) (dOp (oI (fun _ j => 0 < j) fun i j => .int (i % j)) (dCB intG (dCons (dOp ixG (dVar 0) (dVar 2)) dNil)) (dC (.int 2147483647)))) (dVar 2)) (dC (.int 1))) (dC (.int 2147483647))) (dName 1)))
    (dRet (dLst (dCons (dVar 1) (dCons (dCB lstG (dCons (dVar 0) dNil)) (dCons (dC (.int 0)) (dCons (dC (.int 0)) dNil))))))))
theorem ok_law_start {f : Addr} {fd : FuncData} (T : Txt w K mg A)  (F : L2.Fun K "_law_start" "_law_start" s_law_start f fd) (sp : DSp) (len : ∀ ds M Q E, sp ds M Q E → ds.length = P_law_start.length) (h : ∀ ds M Q E, sp ds M Q E → t_law_start K A (ends Q E) (dstart N_law_start ds) M) :
    FnOk P w K mg base (L2.CX P w) (0 + 1) f fd P_law_start (liftSp K sp) :=
  okD F sc_law_start len fun cdv Ar outer s H E hr tk => ⟨t_law_start K _, (pssd_cons (psd_set (i := 1) sc_law_start.nd rfl (Or.inl rfl) pd_int)
    (pssd_cons (psd_for (passes_of rfl) rfl (pid_rng1 rfl T.n_range (pad_cons (pd_callB call_lenG rfl T.n_len bt_len (pad_cons (pdv 0) pad_nil)) pad_nil)) (pgd_name (pg_name (i := 2) sc_law_start.nd rfl (Or.inl rfl))) (pssd_one (psd_set (i := 1) sc_law_start.nd rfl (Or.inl rfl) (pd_op op_modD (pd_op op_addD (pd_op op_addD (pd_op op_addD (pd_op op_mulD (pdv 1) pd_int) (pd_op op_modD (pd_callT call_intG rfl T.n_int bt_int (pad_cons (pd_ix ix_G (pdv 0) (pdv 2) (fun _ _ => rfl)) pad_nil)) pd_int)) (pdv 2)) pd_int) pd_int))))
    (pssd_one (psd_ret (pd_lst (pad_cons (pdv 1) (pad_cons (pd_callT call_lstG rfl T.n_list bt_list (pad_cons (pdv 0) pad_nil)) (pad_cons pd_int (pad_cons pd_int pad_nil))))))))), h⟩
def t_law_startK (K : PySem.W.Frag) (A : Adr) : DS :=
  (dSeq (dAsg (dC (.int 7)) (dName 1))
    (dSeq (dFor (dRng1 (dCons (dCB (lenK K) (dCons (dVar 0) dNil)) dNil)) (dName 2) (dAsg (dOp (oI (fun _ j => 0 < j) fun i j => .int (i % j)) (dOp addD (dOp addD (dOp addD (dOp mulD (dVar 1) (dC (.int 48271))) (dOp (oI (fun _ j => 0 < j) fun i j => .int (i % j)) (dCB intG (dCons (dOp (ixK K) (dVar 0) (dVar 2)) dNil)) (dC (.int 2147483647)))) (dVar 2)) (dC (.int 1))) (dC (.int 2147483647))) (dName 1)))
    (dRet (dLst (dCons (dVar 1) (dCons (dCB (lstK K) (dCons (dVar 0) dNil)) (dCons (dC (.int 0)) (dCons (dC (.int 0)) dNil))))))))
theorem ok_law_startK {f : Addr} {fd : FuncData} (T : Txt w K mg A)  (F : L2.Fun K "_law_start" "_law_start" s_law_start f fd) (sp : DSp) (len : ∀ ds M Q E, sp ds M Q E → ds.length = P_law_start.length) (h : ∀ ds M Q E, sp ds M Q E → t_law_startK K A (ends Q E) (dstart N_law_start ds) M) :
    FnOk P w K mg base (L2.CX P w) (0 + 1) f fd P_law_start (liftSp K sp) :=
  okD F sc_law_start len fun cdv Ar outer s H E hr tk => ⟨t_law_startK K _, (pssd_cons (psd_set (i := 1) sc_law_start.nd rfl (Or.inl rfl) pd_int)
    (pssd_cons (psd_for (passes_of rfl) rfl (pid_rng1 rfl T.n_range (pad_cons (pd_callB call_lenK rfl T.n_len bt_len (pad_cons (pdv 0) pad_nil)) pad_nil)) (pgd_name (pg_name (i := 2) sc_law_start.nd rfl (Or.inl rfl))) (pssd_one (psd_set (i := 1) sc_law_start.nd rfl (Or.inl rfl) (pd_op op_modD (pd_op op_addD (pd_op op_addD (pd_op op_addD (pd_op op_mulD (pdv 1) pd_int) (pd_op op_modD (pd_callT call_intG rfl T.n_int bt_int (pad_cons (pd_ix ix_K (pdv 0) (pdv 2) (fun _ _ => rfl)) pad_nil)) pd_int)) (pdv 2)) pd_int) pd_int))))
    (pssd_one (psd_ret (pd_lst (pad_cons (pdv 1) (pad_cons (pd_callT call_lstK rfl T.n_list bt_list (pad_cons (pdv 0) pad_nil)) (pad_cons pd_int (pad_cons pd_int pad_nil))))))))), h⟩
def t_law_pick (K : PySem.W.Frag) (A : Adr) : DS :=
  (dSeq (dIfS (dB (dOp (oI0 fun i j => .bl (decide (j ≤ i))) (dOp ixG (dVar 0) (dC (.int 3))) (dVar 1))) (dSeq (dAsg (dCB intG (dCons (dOp ixG (dVar 0) (dC (.int 3))) dNil)) (dName 2))
    (dSeq (dAsg (dOp (oI CDivW fun i j => .int (i / j)) (dVar 2) (dVar 1)) (dGSub (dVar 0) (dC (.int 3))))
    (dRet (dOp (oI (fun _ j => 0 < j) fun i j => .int (i % j)) (dVar 2) (dVar 1))))) dNext)
    (dSeq (dAsg (dC (.int 11)) (dName 3))
    (dSeq (dIfS (dB (dOp (oI0 fun i j => .bl (decide (i < j))) (dOp ixG (dVar 0) (dC (.int 2))) (dCB lenG (dCons (dOp ixG (dVar 0) (dC (.int 1))) dNil)))) (dSeq (dAsg (dCB intG (dCons (dOp ixG (dOp ixG (dVar 0) (dC (.int 1))) (dOp ixG (dVar 0) (dC (.int 2)))) dNil)) (dName 3))
    (dSeq (dAsg (dOp addD (dOp ixG (dVar 0) (dC (.int 2))) (dC (.int 1))) (dGSub (dVar 0) (dC (.int 2))))
    (dSeq (dIfS (dB (dOp (oI0 fun i j => .bl (decide (i < j))) (dVar 3) (dC (.int 0)))) (dAsg (dOp (oI0 fun i j => .int (i - j)) (dC (.int 1)) (dVar 3)) (dName 3)) dNext)
    (dIfS (dB (dOp (oI0 fun i j => .bl (decide (j ≤ i))) (dVar 3) (dOp (oI CPow fun i j => .int (i ^ j.toNat)) (dC (.int 10)) (dC (.int 18))))) (dSeq (dAsg (dOp (oI CDivW fun i j => .int (i / j)) (dVar 3) (dVar 1)) (dGSub (dVar 0) (dC (.int 3))))
    (dRet (dOp (oI (fun _ j => 0 < j) fun i j => .int (i % j)) (dVar 3) (dVar 1)))) dNext)))) dNext)
    (dSeq (dAsg (dOp (oI (fun _ j => 0 < j) fun i j => .int (i % j)) (dOp mulD (dOp addD (dOp addD (dCB intG (dCons (dOp ixG (dVar 0) (dC (.int 0))) dNil)) (dOp (oI (fun _ j => 0 < j) fun i j => .int (i % j)) (dVar 3) (dC (.int 2147483647)))) (dC (.int 1))) (dC (.int 48271))) (dC (.int 2147483647))) (dName 4))
    (dSeq (dAsg (dOp (oI (fun _ j => 0 < j) fun i j => .int (i % j)) (dOp addD (dOp mulD (dVar 4) (dC (.int 69621))) (dC (.int 12345))) (dC (.int 2147483647))) (dGSub (dVar 0) (dC (.int 0))))
    (dRet (dOp (oI (fun _ j => 0 < j) fun i j => .int (i % j)) (dOp (oI CDivW fun i j => .int (i / j)) (dCB intG (dCons (dOp ixG (dVar 0) (dC (.int 0))) dNil)) (dC (.int 7))) (dVar 1))))))))
theorem ok_law_pick {f : Addr} {fd : FuncData} (T : Txt w K mg A)  (F : L2.Fun K "_law_pick" "_law_pick" s_law_pick f fd) (sp : DSp) (len : ∀ ds M Q E, sp ds M Q E → ds.length = P_law_pick.length) (h : ∀ ds M Q E, sp ds M Q E → t_law_pick K A (ends Q E) (dstart N_law_pick ds) M) :
    FnOk P w K mg base (L2.CX P w) (0 + 1) f fd P_law_pick (liftSp K sp) :=
  okD F sc_law_pick len fun cdv Ar outer s H E hr tk => ⟨t_law_pick K _, (pssd_cons (psd_if (pt_cmpD op_geD (pd_ix ix_G (pdv 0) pd_int (fun _ _ => rfl)) (pdv 1) (nomark _)) (pssd_cons (psd_set (i := 2) sc_law_pick.nd rfl (Or.inl rfl) (pd_callT call_intG rfl T.n_int bt_int (pad_cons (pd_ix ix_G (pdv 0) pd_int (fun _ _ => rfl)) pad_nil)))
    (pssd_cons (psd_asg (pd_op op_fdivD (pdv 2) (pdv 1)) (pgd_sub (pdv 0) pd_int))
    (pssd_one (psd_ret (pd_op op_modD (pdv 2) (pdv 1)))))) pssd_nil)
    (pssd_cons (psd_set (i := 3) sc_law_pick.nd rfl (Or.inl rfl) pd_int)
    (pssd_cons (psd_if (pt_cmpD op_ltD (pd_ix ix_G (pdv 0) pd_int (fun _ _ => rfl)) (pd_callB call_lenG rfl T.n_len bt_len (pad_cons (pd_ix ix_G (pdv 0) pd_int (fun _ _ => rfl)) pad_nil)) (nomark _)) (pssd_cons (psd_set (i := 3) sc_law_pick.nd rfl (Or.inl rfl) (pd_callT call_intG rfl T.n_int bt_int (pad_cons (pd_ix ix_G (pd_ix ix_G (pdv 0) pd_int (fun _ _ => rfl)) (pd_ix ix_G (pdv 0) pd_int (fun _ _ => rfl)) (fun _ _ => rfl)) pad_nil)))
    (pssd_cons (psd_asg (pd_op op_addD (pd_ix ix_G (pdv 0) pd_int (fun _ _ => rfl)) pd_int) (pgd_sub (pdv 0) pd_int))
    (pssd_cons (psd_if (pt_cmpD op_ltD (pdv 3) pd_int (nomark _)) (pssd_one (psd_set (i := 3) sc_law_pick.nd rfl (Or.inl rfl) (pd_op op_subD pd_int (pdv 3)))) pssd_nil)
    (pssd_one (psd_if (pt_cmpD op_geD (pdv 3) (pd_op op_powD pd_int pd_int) (nomark _)) (pssd_cons (psd_asg (pd_op op_fdivD (pdv 3) (pdv 1)) (pgd_sub (pdv 0) pd_int))
    (pssd_one (psd_ret (pd_op op_modD (pdv 3) (pdv 1))))) pssd_nil))))) pssd_nil)
    (pssd_cons (psd_set (i := 4) sc_law_pick.nd rfl (Or.inl rfl) (pd_op op_modD (pd_op op_mulD (pd_op op_addD (pd_op op_addD (pd_callT call_intG rfl T.n_int bt_int (pad_cons (pd_ix ix_G (pdv 0) pd_int (fun _ _ => rfl)) pad_nil)) (pd_op op_modD (pdv 3) pd_int)) pd_int) pd_int) pd_int))
    (pssd_cons (psd_asg (pd_op op_modD (pd_op op_addD (pd_op op_mulD (pdv 4) pd_int) pd_int) pd_int) (pgd_sub (pdv 0) pd_int))
    (pssd_one (psd_ret (pd_op op_modD (pd_op op_fdivD (pd_callT call_intG rfl T.n_int bt_int (pad_cons (pd_ix ix_G (pdv 0) pd_int (fun _ _ => rfl)) pad_nil)) pd_int) (pdv 1))))))))), h⟩
def t_law_same (K : PySem.W.Frag) (A : Adr) (n : Nat) : DS :=
  (dSeq (dIfS (dTru (dCB (isiG K) (dCons (dVar 1) (dCons (dC (.ty "tuple")) dNil)))) (dSeq (dIfS (dOr (dNot (dTru (dCB (isiG K) (dCons (dVar 0) (dCons (dC (.ty "tuple")) dNil))))) (dB (dOp neD (dCB lenG (dCons (dVar 0) dNil)) (dCB lenG (dCons (dVar 1) dNil))))) (dRet (dC (.bl false))) dNext)
    (dRet (dCB (allG fun bs => bs.all id) (dCons (dLc (dRng1 (dCons (dCB lenG (dCons (dVar 1) dNil)) dNil)) (fun d τ => τ.set 2 (some d)) dYes (dCall (sp_law_same n) [] (dCons (dOp ixG (dVar 0) (dVar 2)) (dCons (dOp ixG (dVar 1) (dVar 2)) dNil))) [2]) dNil)))) dNext)
    (dSeq (dIfS (dB (dOp (isG false) (dVar 1) (dC .non))) (dRet (dOp (isG false) (dVar 0) (dC .non))) dNext)
    (dSeq (dIfS (dTru (dCB (isiG K) (dCons (dVar 1) (dCons (dC (.ty "str")) dNil)))) (dRet (dAndV (dCB (isiG K) (dCons (dVar 0) (dCons (dC (.ty "str")) dNil))) (dOp eqD (dVar 0) (dVar 1)))) dNext)
    (dSeq (dIfS (dTru (dCB (isiG K) (dCons (dVar 1) (dCons (dC (.ty "bool")) dNil)))) (dRet (dAndV (dCB (isiG K) (dCons (dVar 0) (dCons (dC (.ty "bool")) dNil))) (dOp eqD (dVar 0) (dVar 1)))) dNext)
    (dRet (dAndV (dCB (isiG K) (dCons (dVar 0) (dCons (dC (.ty "int")) dNil))) (dAndV (dNotV (dCB (isiG K) (dCons (dVar 0) (dCons (dC (.ty "bool")) dNil)))) (dOp eqD (dVar 0) (dVar 1)))))))))
theorem ok_law_same {f : Addr} {fd : FuncData} {n : Nat} (T : Txt w K mg A) (G_law_same : FnD P w K mg base (0 + n) "_law_same" P_law_same [] (sp_law_same n)) (F : L2.Fun K "_law_same" "_law_same" s_law_same f fd) (sp : DSp) (len : ∀ ds M Q E, sp ds M Q E → ds.length = P_law_same.length) (h : ∀ ds M Q E, sp ds M Q E → t_law_same K A n (ends Q E) (dstart N_law_same ds) M) :
    FnOk P w K mg base (L2.CX P w) (0 + n + 1) f fd P_law_same (liftSp K sp) :=
  okD F sc_law_same len fun cdv Ar outer s H E hr tk => ⟨t_law_same K _ n, (pssd_cons (psd_if (ptd_tru (pd_callB call_isiG rfl T.n_isinstance bt_isinstance (pad_cons (pdv 1) (pad_cons (pd_ty rfl T.n_tuple bt_tuple) pad_nil)))) (pssd_cons (psd_if (PWD.pt (pwd_or (ptd_not (ptd_tru (pd_callB call_isiG rfl T.n_isinstance bt_isinstance (pad_cons (pdv 0) (pad_cons (pd_ty rfl T.n_tuple bt_tuple) pad_nil))))) (pwd_or1 (pt_cmpD (op_neG (u200 hr)) (pd_callB call_lenG rfl T.n_len bt_len (pad_cons (pdv 0) pad_nil)) (pd_callB call_lenG rfl T.n_len bt_len (pad_cons (pdv 1) pad_nil)) (nomark _))))) (pssd_one (psd_ret pd_bl)) pssd_nil)
    (pssd_one (psd_ret (pd_callB (call_allG rfl) rfl T.n_all bt_all (pad_cons (pd_lc (own := [("p", 2)]) (i := 2) rfl sc_law_same.nd (pid_rng1 rfl T.n_range (pad_cons (pd_callB call_lenG rfl T.n_len bt_len (pad_cons (pdv 1) pad_nil)) pad_nil)) (blkOk_by (N := N_law_same) (sc := defScope s_law_same) (by decide +kernel)) (by decide) (fun _ _ _ _ _ => pg_name (i := 2) sc_law_same.nd rfl (Or.inl rfl)) (fun _ _ _ _ _ => ptsd_nil) (fun _ _ _ _ _ => (pd_call G_law_same (hr.mono (by omega)) tk0 rfl (pad_cons (pd_ix ix_G (pdv 0) (pdv 2) (fun _ _ => rfl)) (pad_cons (pd_ix ix_G (pdv 1) (pdv 2) (fun _ _ => rfl)) pad_nil))))) pad_nil))))) pssd_nil)
    (pssd_cons (psd_if (pt_cmpD op_isG (pdv 1) pd_non (nomark _)) (pssd_one (psd_ret (pd_cmp op_isG (pdv 0) pd_non (nomark _)))) pssd_nil)
    (pssd_cons (psd_if (ptd_tru (pd_callB call_isiG rfl T.n_isinstance bt_isinstance (pad_cons (pdv 1) (pad_cons (pd_ty rfl T.n_str bt_str) pad_nil)))) (pssd_one (psd_ret (pd_and (pd_callB call_isiG rfl T.n_isinstance bt_isinstance (pad_cons (pdv 0) (pad_cons (pd_ty rfl T.n_str bt_str) pad_nil))) (pd_one (pd_cmp (op_eqG (u200 hr)) (pdv 0) (pdv 1) (nomark _)))))) pssd_nil)
    (pssd_cons (psd_if (ptd_tru (pd_callB call_isiG rfl T.n_isinstance bt_isinstance (pad_cons (pdv 1) (pad_cons (pd_ty rfl T.n_bool bt_bool) pad_nil)))) (pssd_one (psd_ret (pd_and (pd_callB call_isiG rfl T.n_isinstance bt_isinstance (pad_cons (pdv 0) (pad_cons (pd_ty rfl T.n_bool bt_bool) pad_nil))) (pd_one (pd_cmp (op_eqG (u200 hr)) (pdv 0) (pdv 1) (nomark _)))))) pssd_nil)
    (pssd_one (psd_ret (pd_and (pd_callB call_isiG rfl T.n_isinstance bt_isinstance (pad_cons (pdv 0) (pad_cons (pd_ty rfl T.n_int bt_int) pad_nil))) (pd_and (pd_not (pd_callB call_isiG rfl T.n_isinstance bt_isinstance (pad_cons (pdv 0) (pad_cons (pd_ty rfl T.n_bool bt_bool) pad_nil)))) (pd_one (pd_cmp (op_eqG (u200 hr)) (pdv 0) (pdv 1) (nomark _))))))))))), h⟩
def t_law_tree (K : PySem.W.Frag) (A : Adr) (n : Nat) : DS :=
  (dSeq (dIfS (dOr (dB (dOp eqD (dVar 1) (dC (.int 0)))) (dB (dOp eqD (dOp ixG (dVar 2) (dC (.int 0))) (dC (.int 0))))) (dRet (dTup (dCons (dC (.str "end")) (dCons (dCall sp_law_pick [] (dCons (dVar 0) (dCons (dC (.int 2)) dNil))) dNil)))) dNext)
    (dSeq (dAsg (dCB (mmG fun i j => if j < i then j else i) (dCons (dOp addD (dC (.int 1)) (dOp ixG (dVar 2) (dC (.int 1)))) (dCons (dOp ixG (dLst (dCons (dC (.int 1)) (dCons (dC (.int 2)) (dCons (dC (.int 2)) (dCons (dC (.int 2)) (dCons (dC (.int 3)) (dCons (dC (.int 3)) (dCons (dC (.int 5)) (dCons (dC (.int 12)) dNil))))))))) (dCall sp_law_pick [] (dCons (dVar 0) (dCons (dC (.int 8)) dNil)))) dNil))) (dName 3))
    (dSeq (dAsg (dOp (oI0 fun i j => .int (i - j)) (dOp ixG (dVar 2) (dC (.int 0))) (dC (.int 1))) (dGSub (dVar 2) (dC (.int 0))))
    (dSeq (dAsg (dOp (oI0 fun i j => .int (i - j)) (dOp ixG (dVar 2) (dC (.int 1))) (dOp (oI0 fun i j => .int (i - j)) (dVar 3) (dC (.int 1)))) (dGSub (dVar 2) (dC (.int 1))))
    (dSeq (dAsg (dLst dNil) (dName 4))
    (dSeq (dFor (dRng1 (dCons (dVar 3) dNil)) (dName 5) (dSeq (dAsg (dOp (oI0 fun i j => .int (i - j)) (dVar 1) (dC (.int 1))) (dName 6))
    (dSeq (dIfS (dB (dOp eqD (dCall sp_law_pick [] (dCons (dVar 0) (dCons (dC (.int 4)) dNil))) (dC (.int 0)))) (dAsg (dC (.int 0)) (dName 6)) dNext)
    (dDrop (dBM "list" appendM (dVar 4) (dCons (dCall (sp_law_tree n) [] (dCons (dVar 0) (dCons (dVar 6) (dCons (dVar 2) dNil)))) dNil))))))
    (dSeq (dIfS (dB (dOp eqD (dCall sp_law_pick [] (dCons (dVar 0) (dCons (dC (.int 2)) dNil))) (dC (.int 0)))) (dDrop (dBM "list" reverseM (dVar 4) dNil)) dNext)
    (dRet (dOp addD (dTup (dCons (dC (.str "node")) (dCons (dCall sp_law_pick [] (dCons (dVar 0) (dCons (dC (.int 2)) dNil))) dNil))) (dCB tupG (dCons (dVar 4) dNil)))))))))))
theorem ok_law_tree {f : Addr} {fd : FuncData} {n : Nat} (T : Txt w K mg A) (G_law_pick : FnD P w K mg base 1 "_law_pick" P_law_pick [] sp_law_pick) (G_law_tree : FnD P w K mg base (1 + n) "_law_tree" P_law_tree [] (sp_law_tree n)) (F : L2.Fun K "_law_tree" "_law_tree" s_law_tree f fd) (sp : DSp) (len : ∀ ds M Q E, sp ds M Q E → ds.length = P_law_tree.length) (h : ∀ ds M Q E, sp ds M Q E → t_law_tree K A n (ends Q E) (dstart N_law_tree ds) M) :
    FnOk P w K mg base (L2.CX P w) (1 + n + 1) f fd P_law_tree (liftSp K sp) :=
  okD F sc_law_tree len fun cdv Ar outer s H E hr tk => ⟨t_law_tree K _ n, (pssd_cons (psd_if (PWD.pt (pwd_or (pt_cmpD (op_eqG (u200 hr)) (pdv 1) pd_int (nomark _)) (pwd_or1 (pt_cmpD (op_eqG (u200 hr)) (pd_ix ix_G (pdv 2) pd_int (fun _ _ => rfl)) pd_int (nomark _))))) (pssd_one (psd_ret (pd_tup (pad_cons pd_str (pad_cons (pd_call G_law_pick (hr.mono (by omega)) tk rfl (pad_cons (pdv 0) (pad_cons pd_int pad_nil))) pad_nil))))) pssd_nil)
    (pssd_cons (psd_set (i := 3) sc_law_tree.nd rfl (Or.inl rfl) (pd_callB (call_minG rfl) rfl T.n_min bt_min (pad_cons (pd_op op_addD pd_int (pd_ix ix_G (pdv 2) pd_int (fun _ _ => rfl))) (pad_cons (pd_ix ix_G (pd_lst (pad_cons pd_int (pad_cons pd_int (pad_cons pd_int (pad_cons pd_int (pad_cons pd_int (pad_cons pd_int (pad_cons pd_int (pad_cons pd_int pad_nil))))))))) (pd_call G_law_pick (hr.mono (by omega)) tk rfl (pad_cons (pdv 0) (pad_cons pd_int pad_nil))) (fun _ _ => rfl)) pad_nil))))
    (pssd_cons (psd_asg (pd_op op_subD (pd_ix ix_G (pdv 2) pd_int (fun _ _ => rfl)) pd_int) (pgd_sub (pdv 2) pd_int))
    (pssd_cons (psd_asg (pd_op op_subD (pd_ix ix_G (pdv 2) pd_int (fun _ _ => rfl)) (pd_op op_subD (pdv 3) pd_int)) (pgd_sub (pdv 2) pd_int))
    (pssd_cons (psd_set (i := 4) sc_law_tree.nd rfl (Or.inl rfl) (pd_lst pad_nil))
    (pssd_cons (psd_for (passes_of rfl) rfl (pid_rng1 rfl T.n_range (pad_cons (pdv 3) pad_nil)) (pgd_name (pg_name (i := 5) sc_law_tree.nd rfl (Or.inl rfl))) (pssd_cons (psd_set (i := 6) sc_law_tree.nd rfl (Or.inl rfl) (pd_op op_subD (pdv 1) pd_int))
    (pssd_cons (psd_if (pt_cmpD (op_eqG (u200 hr)) (pd_call G_law_pick (hr.mono (by omega)) tk rfl (pad_cons (pdv 0) (pad_cons pd_int pad_nil))) pd_int (nomark _)) (pssd_one (psd_set (i := 6) sc_law_tree.nd rfl (Or.inl rfl) pd_int)) pssd_nil)
    (pssd_one (psd_expr (pd_bm PySem.F.plainAttrs_list PySem.F.slot_list_append PySem.F.type_list_append mt_appendM (pdv 4) (pad_cons (pd_call G_law_tree (hr.mono (by omega)) tk rfl (pad_cons (pdv 0) (pad_cons (pdv 6) (pad_cons (pdv 2) pad_nil)))) pad_nil)))))))
    (pssd_cons (psd_if (pt_cmpD (op_eqG (u200 hr)) (pd_call G_law_pick (hr.mono (by omega)) tk rfl (pad_cons (pdv 0) (pad_cons pd_int pad_nil))) pd_int (nomark _)) (pssd_one (psd_expr (pd_bm0 PySem.F.plainAttrs_list PySem.F.slot_list_reverse PySem.F.type_list_reverse mt_reverseM (pdv 4)))) pssd_nil)
    (pssd_one (psd_ret (pd_op op_addD (pd_tup (pad_cons pd_str (pad_cons (pd_call G_law_pick (hr.mono (by omega)) tk rfl (pad_cons (pdv 0) (pad_cons pd_int pad_nil))) pad_nil))) (pd_callT call_tupG rfl T.n_tuple bt_tuple (pad_cons (pdv 4) pad_nil)))))))))))), h⟩
def t_law_scan (K : PySem.W.Frag) (A : Adr) (n : Nat) : DS :=
  (dSeq (dIfS (dB (dOp eqD (dOp ixG (dVar 0) (dC (.int 0))) (dC (.str "end")))) (dSeq (dDrop (dBM "list" appendM (dVar 2) (dCons (dOp ixG (dVar 0) (dC (.int 1))) dNil)))
    (dRet (dTup (dCons (dC (.int 0)) (dCons (dOp (oI0 fun i j => .int (i - j)) (dCB lenG (dCons (dVar 2) dNil)) (dC (.int 1))) dNil))))) dNext)
    (dSeq (dAsg (dLst dNil) (dName 3))
    (dSeq (dAsg (dCB lenG (dCons (dVar 1) dNil)) (dName 4))
    (dSeq (dDrop (dBM "list" appendM (dVar 1) (dCons (dLst (dCons (dOp ixG (dVar 0) (dC (.int 1))) (dCons (dVar 3) dNil))) dNil)))
    (dSeq (dFor (dIter (dSl (dVar 0) (dPart (dC (.int 2))) dNoP)) (dName 5) (dDrop (dBM "list" appendM (dVar 3) (dCons (dCall (sp_law_scan n) [] (dCons (dVar 5) (dCons (dVar 1) (dCons (dVar 2) dNil)))) dNil))))
    (dRet (dTup (dCons (dC (.int 1)) (dCons (dVar 4) dNil)))))))))
theorem ok_law_scan {f : Addr} {fd : FuncData} {n : Nat} (T : Txt w K mg A) (G_law_scan : FnD P w K mg base (0 + n) "_law_scan" P_law_scan [] (sp_law_scan n)) (F : L2.Fun K "_law_scan" "_law_scan" s_law_scan f fd) (sp : DSp) (len : ∀ ds M Q E, sp ds M Q E → ds.length = P_law_scan.length) (h : ∀ ds M Q E, sp ds M Q E → t_law_scan K A n (ends Q E) (dstart N_law_scan ds) M) :
    FnOk P w K mg base (L2.CX P w) (0 + n + 1) f fd P_law_scan (liftSp K sp) :=
  okD F sc_law_scan len fun cdv Ar outer s H E hr tk => ⟨t_law_scan K _ n, (pssd_cons (psd_if (pt_cmpD (op_eqG (u200 hr)) (pd_ix ix_G (pdv 0) pd_int (fun _ _ => rfl)) pd_str (nomark _)) (pssd_cons (psd_expr (pd_bm PySem.F.plainAttrs_list PySem.F.slot_list_append PySem.F.type_list_append mt_appendM (pdv 2) (pad_cons (pd_ix ix_G (pdv 0) pd_int (fun _ _ => rfl)) pad_nil)))
    (pssd_one (psd_ret (pd_tup (pad_cons pd_int (pad_cons (pd_op op_subD (pd_callB call_lenG rfl T.n_len bt_len (pad_cons (pdv 2) pad_nil)) pd_int) pad_nil)))))) pssd_nil)
    (pssd_cons (psd_set (i := 3) sc_law_scan.nd rfl (Or.inl rfl) (pd_lst pad_nil))
    (pssd_cons (psd_set (i := 4) sc_law_scan.nd rfl (Or.inl rfl) (pd_callB call_lenG rfl T.n_len bt_len (pad_cons (pdv 1) pad_nil)))
    (pssd_cons (psd_expr (pd_bm PySem.F.plainAttrs_list PySem.F.slot_list_append PySem.F.type_list_append mt_appendM (pdv 1) (pad_cons (pd_lst (pad_cons (pd_ix ix_G (pdv 0) pd_int (fun _ _ => rfl)) (pad_cons (pdv 3) pad_nil))) pad_nil)))
    (pssd_cons (psd_for (passes_of rfl) rfl (pid_any (pd_slice (pdv 0) (pod_some pd_int) pod_none)) (pgd_name (pg_name (i := 5) sc_law_scan.nd rfl (Or.inl rfl))) (pssd_one (psd_expr (pd_bm PySem.F.plainAttrs_list PySem.F.slot_list_append PySem.F.type_list_append mt_appendM (pdv 3) (pad_cons (pd_call G_law_scan (hr.mono (by omega)) tk rfl (pad_cons (pdv 5) (pad_cons (pdv 1) (pad_cons (pdv 2) pad_nil)))) pad_nil)))))
    (pssd_one (psd_ret (pd_tup (pad_cons pd_int (pad_cons (pdv 4) pad_nil)))))))))), h⟩
def t_law_at (K : PySem.W.Frag) (A : Adr) : DS :=
  (dSeq (dIfS (dB (dOp eqD (dOp ixG (dVar 0) (dC (.int 0))) (dC (.int 0)))) (dRet (dOp ixG (dVar 2) (dOp ixG (dVar 0) (dC (.int 1))))) dNext)
    (dRet (dOp ixG (dVar 1) (dOp ixG (dVar 0) (dC (.int 1))))))
theorem ok_law_at {f : Addr} {fd : FuncData} (T : Txt w K mg A)  (F : L2.Fun K "_law_at" "_law_at" s_law_at f fd) (sp : DSp) (len : ∀ ds M Q E, sp ds M Q E → ds.length = P_law_at.length) (h : ∀ ds M Q E, sp ds M Q E → t_law_at K A (ends Q E) (dstart N_law_at ds) M) :
    FnOk P w K mg base (L2.CX P w) (0 + 1) f fd P_law_at (liftSp K sp) :=
  okD F sc_law_at len fun cdv Ar outer s H E hr tk => ⟨t_law_at K _, (pssd_cons (psd_if (pt_cmpD (op_eqG (u200 hr)) (pd_ix ix_G (pdv 0) pd_int (fun _ _ => rfl)) pd_int (nomark _)) (pssd_one (psd_ret (pd_ix ix_G (pdv 2) (pd_ix ix_G (pdv 0) pd_int (fun _ _ => rfl)) (fun _ _ => rfl)))) pssd_nil)
    (pssd_one (psd_ret (pd_ix ix_G (pdv 1) (pd_ix ix_G (pdv 0) pd_int (fun _ _ => rfl)) (fun _ _ => rfl))))), h⟩
def t_law_winners (K : PySem.W.Frag) (A : Adr) : DS :=
  (dSeq (dAsg (dLc (dIter (dVar 0)) (fun d τ => τ.set 7 (some d)) dYes (dC (.int 0)) [7]) (dName 2))
    (dSeq (dFor (dRng1 (dCons (dCB lenG (dCons (dVar 0) dNil)) dNil)) (dName 3) (dSeq (dAsg (dOp (oI0 fun i j => .int (i - j)) (dOp (oI0 fun i j => .int (i - j)) (dCB lenG (dCons (dVar 0) dNil)) (dC (.int 1))) (dVar 3)) (dName 4))
    (dSeq (dAsg (dOp ixG (dOp ixG (dVar 0) (dVar 4)) (dC (.int 0))) (dName 5))
    (dSeq (dAsg (dLc (dIter (dOp ixG (dOp ixG (dVar 0) (dVar 4)) (dC (.int 1)))) (fun d τ => τ.set 8 (some d)) dYes (dCall sp_law_at [] (dCons (dVar 8) (dCons (dVar 2) (dCons (dVar 1) dNil)))) [8]) (dName 6))
    (dSeq (dAsg (dOp (oI0 fun i j => .int (i - j)) (dC (.int 1)) (dVar 5)) (dGSub (dVar 2) (dVar 4)))
    (dIfS (dB (dOp (inG false) (dVar 5) (dVar 6))) (dAsg (dVar 5) (dGSub (dVar 2) (dVar 4))) dNext))))))
    (dRet (dVar 2))))
theorem ok_law_winners {f : Addr} {fd : FuncData} (T : Txt w K mg A) (G_law_at : FnD P w K mg base 1 "_law_at" P_law_at [] sp_law_at) (F : L2.Fun K "_law_winners" "_law_winners" s_law_winners f fd) (sp : DSp) (len : ∀ ds M Q E, sp ds M Q E → ds.length = P_law_winners.length) (h : ∀ ds M Q E, sp ds M Q E → t_law_winners K A (ends Q E) (dstart N_law_winners ds) M) :
    FnOk P w K mg base (L2.CX P w) (1 + 1) f fd P_law_winners (liftSp K sp) :=
  okD F sc_law_winners len fun cdv Ar outer s H E hr tk => ⟨t_law_winners K _, (pssd_cons (psd_set (i := 2) sc_law_winners.nd rfl (Or.inr rfl) (pd_lc (own := [("node", 7)]) (i := 7) rfl sc_law_winners.nd (pid_any (pdv 0)) (blkOk_by (N := N_law_winners) (sc := defScope s_law_winners) (by decide +kernel)) (by decide) (fun _ _ _ _ _ => pg_name (i := 7) sc_law_winners.nd rfl (Or.inl rfl)) (fun _ _ _ _ _ => ptsd_nil) (fun _ _ _ _ _ => pd_int)))
    (pssd_cons (psd_for (passes_of rfl) rfl (pid_rng1 rfl T.n_range (pad_cons (pd_callB call_lenG rfl T.n_len bt_len (pad_cons (pdv 0) pad_nil)) pad_nil)) (pgd_name (pg_name (i := 3) sc_law_winners.nd rfl (Or.inl rfl))) (pssd_cons (psd_set (i := 4) sc_law_winners.nd rfl (Or.inl rfl) (pd_op op_subD (pd_op op_subD (pd_callB call_lenG rfl T.n_len bt_len (pad_cons (pdv 0) pad_nil)) pd_int) (pdv 3)))
    (pssd_cons (psd_set (i := 5) sc_law_winners.nd rfl (Or.inl rfl) (pd_ix ix_G (pd_ix ix_G (pdv 0) (pdv 4) (fun _ _ => rfl)) pd_int (fun _ _ => rfl)))
    (pssd_cons (psd_setLc (own := [("child", 8)]) (i := 8) (j := 6) rfl sc_law_winners.nd rfl rfl (sw_true rfl rfl rfl (by decide +kernel)) (pid_any (pd_ix ix_G (pd_ix ix_G (pdv 0) (pdv 4) (fun _ _ => rfl)) pd_int (fun _ _ => rfl))) (blkOk_by (N := N_law_winners) (sc := defScope s_law_winners) (by decide +kernel)) (by decide) (fun _ _ _ _ _ => pg_name (i := 8) sc_law_winners.nd rfl (Or.inl rfl)) (fun _ _ _ _ _ => ptsd_nil) (fun _ _ _ _ _ => (pd_call G_law_at (hr.mono (by omega)) tk0 rfl (pad_cons (pdv 8) (pad_cons (pdv 2) (pad_cons (pdv 1) pad_nil))))))
    (pssd_cons (psd_asg (pd_op op_subD pd_int (pdv 5)) (pgd_sub (pdv 2) (pdv 4)))
    (pssd_one (psd_if (pt_cmpD op_inG (pdv 5) (pdv 6) (by with_unfolding_all rfl)) (pssd_one (psd_asg (pdv 5) (pgd_sub (pdv 2) (pdv 4)))) pssd_nil)))))))
    (pssd_one (psd_ret (pdv 2))))), h⟩
def t_law_reached (K : PySem.W.Frag) (A : Adr) (n : Nat) : DS :=
  (dSeq (dIfS (dB (dOp eqD (dOp ixG (dVar 1) (dC (.int 0))) (dC (.int 0)))) (dRet (dLst (dCons (dOp ixG (dVar 1) (dC (.int 1))) dNil))) dNext)
    (dSeq (dAsg (dOp ixG (dOp ixG (dVar 0) (dOp ixG (dVar 1) (dC (.int 1)))) (dC (.int 1))) (dName 3))
    (dSeq (dAsg (dLst dNil) (dName 4))
    (dSeq (dFor (dRng1 (dCons (dCB lenG (dCons (dVar 3) dNil)) dNil)) (dName 5) (dIfS (dOr (dB (dOp (isG false) (dOp ixG (dVar 2) (dOp ixG (dVar 1) (dC (.int 1)))) (dC .non))) (dB (dOp eqD (dOp ixG (dVar 2) (dOp ixG (dVar 1) (dC (.int 1)))) (dVar 5)))) (dAsg (dOp addD (dVar 4) (dCall (sp_law_reached n) [] (dCons (dVar 0) (dCons (dOp ixG (dVar 3) (dVar 5)) (dCons (dVar 2) dNil))))) (dName 4)) dNext))
    (dRet (dVar 4))))))
theorem ok_law_reached {f : Addr} {fd : FuncData} {n : Nat} (T : Txt w K mg A) (G_law_reached : FnD P w K mg base (0 + n) "_law_reached" P_law_reached [] (sp_law_reached n)) (F : L2.Fun K "_law_reached" "_law_reached" s_law_reached f fd) (sp : DSp) (len : ∀ ds M Q E, sp ds M Q E → ds.length = P_law_reached.length) (h : ∀ ds M Q E, sp ds M Q E → t_law_reached K A n (ends Q E) (dstart N_law_reached ds) M) :
    FnOk P w K mg base (L2.CX P w) (0 + n + 1) f fd P_law_reached (liftSp K sp) :=
  okD F sc_law_reached len fun cdv Ar outer s H E hr tk => ⟨t_law_reached K _ n, (pssd_cons (psd_if (pt_cmpD (op_eqG (u200 hr)) (pd_ix ix_G (pdv 1) pd_int (fun _ _ => rfl)) pd_int (nomark _)) (pssd_one (psd_ret (pd_lst (pad_cons (pd_ix ix_G (pdv 1) pd_int (fun _ _ => rfl)) pad_nil)))) pssd_nil)
    (pssd_cons (psd_set (i := 3) sc_law_reached.nd rfl (Or.inl rfl) (pd_ix ix_G (pd_ix ix_G (pdv 0) (pd_ix ix_G (pdv 1) pd_int (fun _ _ => rfl)) (fun _ _ => rfl)) pd_int (fun _ _ => rfl)))
    (pssd_cons (psd_set (i := 4) sc_law_reached.nd rfl (Or.inl rfl) (pd_lst pad_nil))
    (pssd_cons (psd_for (passes_of rfl) rfl (pid_rng1 rfl T.n_range (pad_cons (pd_callB call_lenG rfl T.n_len bt_len (pad_cons (pdv 3) pad_nil)) pad_nil)) (pgd_name (pg_name (i := 5) sc_law_reached.nd rfl (Or.inl rfl))) (pssd_one (psd_if (PWD.pt (pwd_or (pt_cmpD op_isG (pd_ix ix_G (pdv 2) (pd_ix ix_G (pdv 1) pd_int (fun _ _ => rfl)) (fun _ _ => rfl)) pd_non (nomark _)) (pwd_or1 (pt_cmpD (op_eqG (u200 hr)) (pd_ix ix_G (pdv 2) (pd_ix ix_G (pdv 1) pd_int (fun _ _ => rfl)) (fun _ _ => rfl)) (pdv 5) (nomark _))))) (pssd_one (psd_set (i := 4) sc_law_reached.nd rfl (Or.inl rfl) (pd_op op_addD (pdv 4) (pd_call G_law_reached (hr.mono (by omega)) tk rfl (pad_cons (pdv 0) (pad_cons (pd_ix ix_G (pdv 3) (pdv 5) (fun _ _ => rfl)) (pad_cons (pdv 2) pad_nil))))))) pssd_nil)))
    (pssd_one (psd_ret (pdv 4))))))), h⟩
def t_law_refused (K : PySem.W.Frag) (A : Adr) : DS :=
  (dSeq (dTryAll K [⟨.ref A.InvalidPlan, (some 3), fun y a => (dSeq (dIfS (dOr (dTru (dCB (isxF K y a) (dCons (dVar 3) (dCons (dC (.ref A.InvalidTerm)) dNil)))) (dOr (dTru (dCB (isxF K y a) (dCons (dVar 3) (dCons (dC (.ref A.OutOfRange)) dNil)))) (dTru (dCB (isxF K y a) (dCons (dVar 3) (dCons (dC (.ref A.SizeMismatch)) dNil)))))) (dRet (dTup (dCons (dC (.str "other")) (dCons (dC (.int 0)) dNil)))) dNext)
    (dRet (dTup (dCons (dC (.str "plan")) (dCons (dXf K y a (dVar 3) "index") dNil)))))⟩, ⟨.ref A.OutOfRange, (some 3), fun y a => (dSeq (dIfS (dOr (dTru (dCB (isxF K y a) (dCons (dVar 3) (dCons (dC (.ref A.InvalidTerm)) dNil)))) (dOr (dTru (dCB (isxF K y a) (dCons (dVar 3) (dCons (dC (.ref A.TooLarge)) dNil)))) (dTru (dCB (isxF K y a) (dCons (dVar 3) (dCons (dC (.ref A.SizeMismatch)) dNil)))))) (dRet (dTup (dCons (dC (.str "other")) (dCons (dC (.int 0)) dNil)))) dNext)
    (dRet (dTup (dCons (dC (.str "range")) (dCons (dC (.int 0)) dNil)))))⟩, ⟨.ref A.ProofsError, none, fun y a => (dRet (dTup (dCons (dC (.str "other")) (dCons (dC (.int 0)) dNil))))⟩] (dDrop (dCall (sp_is_winning A) [] (dCons (dVar 0) (dCons (dVar 1) (dCons (dVar 2) dNil))))))
    (dRet (dTup (dCons (dC (.str "let")) (dCons (dC (.int 0)) dNil)))))
theorem ok_law_refused {f : Addr} {fd : FuncData} (T : Txt w K mg A) (G_is_winning : FnD P w K mg base 4 "is_winning" P_is_winning [] (sp_is_winning A)) (F : L2.Fun K "_law_refused" "_law_refused" s_law_refused f fd) (sp : DSp) (len : ∀ ds M Q E, sp ds M Q E → ds.length = P_law_refused.length) (h : ∀ ds M Q E, sp ds M Q E → t_law_refused K A (ends Q E) (dstart N_law_refused ds) M) :
    FnOk P w K mg base (L2.CX P w) (4 + 1) f fd P_law_refused (liftSp K sp) :=
  okD F sc_law_refused len fun cdv Ar outer s H E hr tk => ⟨t_law_refused K _, (pssd_cons (psd_try_all rfl rfl tk (fun W' pn xe tk hpo => (pssd_one (psd_expr (pd_call G_is_winning (hr.mono (by omega)) tk rfl (pad_cons (pdv 0) (pad_cons (pdv 1) (pad_cons (pdv 2) pad_nil))))))) (hsd_cons (fun y a => (dSeq (dIfS (dOr (dTru (dCB (isxF K y a) (dCons (dVar 3) (dCons (dC (.ref A.InvalidTerm)) dNil)))) (dOr (dTru (dCB (isxF K y a) (dCons (dVar 3) (dCons (dC (.ref A.OutOfRange)) dNil)))) (dTru (dCB (isxF K y a) (dCons (dVar 3) (dCons (dC (.ref A.SizeMismatch)) dNil)))))) (dRet (dTup (dCons (dC (.str "other")) (dCons (dC (.int 0)) dNil)))) dNext)
    (dRet (dTup (dCons (dC (.str "plan")) (dCons (dXf K y a (dVar 3) "index") dNil)))))) ⟨rfl, by decide, Or.inl T.m_InvalidPlan⟩ ⟨sc_law_refused.nd, rfl, rfl⟩ (fun y a oe pn hz hf => (pssd_cons (psd_if (PWD.pt (pwd_or (ptd_tru (pd_callB (call_isxF hz hf) (by exact rfl) T.n_isinstance bt_isinstance (pad_cons (pdv 3) (pad_cons (pd_cls (by exact rfl) T.m_InvalidTerm) pad_nil)))) (pwd_or (ptd_tru (pd_callB (call_isxF hz hf) (by exact rfl) T.n_isinstance bt_isinstance (pad_cons (pdv 3) (pad_cons (pd_cls (by exact rfl) T.m_OutOfRange) pad_nil)))) (pwd_or1 (ptd_tru (pd_callB (call_isxF hz hf) (by exact rfl) T.n_isinstance bt_isinstance (pad_cons (pdv 3) (pad_cons (pd_cls (by exact rfl) T.m_SizeMismatch) pad_nil)))))))) (pssd_one (psd_ret (pd_tup (pad_cons pd_str (pad_cons pd_int pad_nil))))) pssd_nil)
    (pssd_one (psd_ret (pd_tup (pad_cons pd_str (pad_cons (pd_xf hz hf (pdv 3)) pad_nil))))))) (hsd_cons (fun y a => (dSeq (dIfS (dOr (dTru (dCB (isxF K y a) (dCons (dVar 3) (dCons (dC (.ref A.InvalidTerm)) dNil)))) (dOr (dTru (dCB (isxF K y a) (dCons (dVar 3) (dCons (dC (.ref A.TooLarge)) dNil)))) (dTru (dCB (isxF K y a) (dCons (dVar 3) (dCons (dC (.ref A.SizeMismatch)) dNil)))))) (dRet (dTup (dCons (dC (.str "other")) (dCons (dC (.int 0)) dNil)))) dNext)
    (dRet (dTup (dCons (dC (.str "range")) (dCons (dC (.int 0)) dNil)))))) ⟨rfl, by decide, Or.inl T.m_OutOfRange⟩ ⟨sc_law_refused.nd, rfl, rfl⟩ (fun y a oe pn hz hf => (pssd_cons (psd_if (PWD.pt (pwd_or (ptd_tru (pd_callB (call_isxF hz hf) (by exact rfl) T.n_isinstance bt_isinstance (pad_cons (pdv 3) (pad_cons (pd_cls (by exact rfl) T.m_InvalidTerm) pad_nil)))) (pwd_or (ptd_tru (pd_callB (call_isxF hz hf) (by exact rfl) T.n_isinstance bt_isinstance (pad_cons (pdv 3) (pad_cons (pd_cls (by exact rfl) T.m_TooLarge) pad_nil)))) (pwd_or1 (ptd_tru (pd_callB (call_isxF hz hf) (by exact rfl) T.n_isinstance bt_isinstance (pad_cons (pdv 3) (pad_cons (pd_cls (by exact rfl) T.m_SizeMismatch) pad_nil)))))))) (pssd_one (psd_ret (pd_tup (pad_cons pd_str (pad_cons pd_int pad_nil))))) pssd_nil)
    (pssd_one (psd_ret (pd_tup (pad_cons pd_str (pad_cons pd_int pad_nil))))))) (hsd_cons (fun y a => (dRet (dTup (dCons (dC (.str "other")) (dCons (dC (.int 0)) dNil))))) ⟨rfl, by decide, Or.inl T.m_ProofsError⟩ True.intro (fun y a oe pn hz hf => (pssd_one (psd_ret (pd_tup (pad_cons pd_str (pad_cons pd_int pad_nil)))))) .nil))))
    (pssd_one (psd_ret (pd_tup (pad_cons pd_str (pad_cons pd_int pad_nil)))))), h⟩
def t_law_exchanged (K : PySem.W.Frag) (A : Adr) (n : Nat) : DS :=
  (dSeq (dIfS (dB (dOp eqD (dOp ixG (dVar 0) (dC (.int 0))) (dC (.str "end")))) (dRet (dTup (dCons (dC (.str "end")) (dCons (dOp (oI0 fun i j => .int (i - j)) (dC (.int 1)) (dOp ixG (dVar 0) (dC (.int 1)))) dNil)))) dNext)
    (dRet (dOp addD (dTup (dCons (dC (.str "node")) (dCons (dOp (oI0 fun i j => .int (i - j)) (dC (.int 1)) (dOp ixG (dVar 0) (dC (.int 1)))) dNil))) (dCB tupG (dCons (dLc (dIter (dSl (dVar 0) (dPart (dC (.int 2))) dNoP)) (fun d τ => τ.set 1 (some d)) dYes (dCall (sp_law_exchanged n) [] (dCons (dVar 1) dNil)) [1]) dNil)))))
theorem ok_law_exchanged {f : Addr} {fd : FuncData} {n : Nat} (T : Txt w K mg A) (G_law_exchanged : FnD P w K mg base (0 + n) "_law_exchanged" P_law_exchanged [] (sp_law_exchanged n)) (F : L2.Fun K "_law_exchanged" "_law_exchanged" s_law_exchanged f fd) (sp : DSp) (len : ∀ ds M Q E, sp ds M Q E → ds.length = P_law_exchanged.length) (h : ∀ ds M Q E, sp ds M Q E → t_law_exchanged K A n (ends Q E) (dstart N_law_exchanged ds) M) :
    FnOk P w K mg base (L2.CX P w) (0 + n + 1) f fd P_law_exchanged (liftSp K sp) :=
  okD F sc_law_exchanged len fun cdv Ar outer s H E hr tk => ⟨t_law_exchanged K _ n, (pssd_cons (psd_if (pt_cmpD (op_eqG (u200 hr)) (pd_ix ix_G (pdv 0) pd_int (fun _ _ => rfl)) pd_str (nomark _)) (pssd_one (psd_ret (pd_tup (pad_cons pd_str (pad_cons (pd_op op_subD pd_int (pd_ix ix_G (pdv 0) pd_int (fun _ _ => rfl))) pad_nil))))) pssd_nil)
    (pssd_one (psd_ret (pd_op op_addD (pd_tup (pad_cons pd_str (pad_cons (pd_op op_subD pd_int (pd_ix ix_G (pdv 0) pd_int (fun _ _ => rfl))) pad_nil))) (pd_callT call_tupG rfl T.n_tuple bt_tuple (pad_cons (pd_lc (own := [("inner", 1)]) (i := 1) rfl sc_law_exchanged.nd (pid_any (pd_slice (pdv 0) (pod_some pd_int) pod_none)) (blkOk_by (N := N_law_exchanged) (sc := defScope s_law_exchanged) (by decide +kernel)) (by decide) (fun _ _ _ _ _ => pg_name (i := 1) sc_law_exchanged.nd rfl (Or.inl rfl)) (fun _ _ _ _ _ => ptsd_nil) (fun _ _ _ _ _ => (pd_call G_law_exchanged (hr.mono (by omega)) tk0 rfl (pad_cons (pdv 1) pad_nil)))) pad_nil)))))), h⟩
def t_law_grouped (K : PySem.W.Frag) (A : Adr) : DS :=
  (dSeq (dAsg (dLc (dRng1 (dCons (dVar 1) dNil)) (fun d τ => τ.set 5 (some d)) dYes (dTup (dCons (dC (.str "end")) (dCons (dCall sp_law_pick [] (dCons (dVar 0) (dCons (dC (.int 2)) dNil))) dNil))) [5]) (dName 3))
    (dSeq (dAsg (dOp addD (dOp addD (dOp (oI CDivW fun i j => .int (i / j)) (dOp addD (dVar 1) (dC (.int 11))) (dC (.int 12))) (dOp (oI CDivW fun i j => .int (i / j)) (dOp addD (dVar 1) (dC (.int 143))) (dC (.int 144)))) (dC (.int 1))) (dName 4))
    (dSeq (dFor (dRng1 (dCons (dOp (oI0 fun i j => .int (i - j)) (dVar 2) (dVar 4)) dNil)) (dName 5) (dSeq (dAsg (dOp (oI (fun _ j => 0 < j) fun i j => .int (i % j)) (dCB intG (dCons (dVar 5) dNil)) (dVar 1)) (dName 6))
    (dAsg (dTup (dCons (dC (.str "node")) (dCons (dCall sp_law_pick [] (dCons (dVar 0) (dCons (dC (.int 2)) dNil))) (dCons (dOp ixG (dVar 3) (dVar 6)) dNil)))) (dGSub (dVar 3) (dVar 6)))))
    (dSeq (dFor (dRng1 (dCons (dC (.int 3)) dNil)) (dName 7) (dSeq (dAsg (dLst dNil) (dName 8))
    (dSeq (dFor (dRng1 (dCons (dOp (oI CDivW fun i j => .int (i / j)) (dOp addD (dCB lenG (dCons (dVar 3) dNil)) (dC (.int 11))) (dC (.int 12))) dNil)) (dName 5) (dDrop (dBM "list" appendM (dVar 8) (dCons (dOp addD (dTup (dCons (dC (.str "node")) (dCons (dCall sp_law_pick [] (dCons (dVar 0) (dCons (dC (.int 2)) dNil))) dNil))) (dCB tupG (dCons (dSl (dVar 3) (dPart (dOp mulD (dC (.int 12)) (dVar 5))) (dPart (dOp addD (dOp mulD (dC (.int 12)) (dVar 5)) (dC (.int 12))))) dNil))) dNil))))
    (dAsg (dVar 8) (dName 3)))))
    (dRet (dOp ixG (dVar 3) (dC (.int 0))))))))
theorem ok_law_grouped {f : Addr} {fd : FuncData} (T : Txt w K mg A) (G_law_pick : FnD P w K mg base 1 "_law_pick" P_law_pick [] sp_law_pick) (F : L2.Fun K "_law_grouped" "_law_grouped" s_law_grouped f fd) (sp : DSp) (len : ∀ ds M Q E, sp ds M Q E → ds.length = P_law_grouped.length) (h : ∀ ds M Q E, sp ds M Q E → t_law_grouped K A (ends Q E) (dstart N_law_grouped ds) M) :
    FnOk P w K mg base (L2.CX P w) (1 + 1) f fd P_law_grouped (liftSp K sp) :=
  okD F sc_law_grouped len fun cdv Ar outer s H E hr tk => ⟨t_law_grouped K _, (pssd_cons (psd_setLc (own := [("k", 5)]) (i := 5) (j := 3) rfl sc_law_grouped.nd rfl rfl (sw_true rfl rfl rfl (by decide +kernel)) (pid_rng1 rfl T.n_range (pad_cons (pdv 1) pad_nil)) (blkOk_by (N := N_law_grouped) (sc := defScope s_law_grouped) (by decide +kernel)) (by decide) (fun _ _ _ _ _ => pg_name (i := 5) sc_law_grouped.nd rfl (Or.inl rfl)) (fun _ _ _ _ _ => ptsd_nil) (fun _ _ _ _ _ => (pd_tup (pad_cons pd_str (pad_cons (pd_call G_law_pick (hr.mono (by omega)) tk0 rfl (pad_cons (pdv 0) (pad_cons pd_int pad_nil))) pad_nil)))))
    (pssd_cons (psd_set (i := 4) sc_law_grouped.nd rfl (Or.inl rfl) (pd_op op_addD (pd_op op_addD (pd_op op_fdivD (pd_op op_addD (pdv 1) pd_int) pd_int) (pd_op op_fdivD (pd_op op_addD (pdv 1) pd_int) pd_int)) pd_int))
    (pssd_cons (psd_for (passes_of rfl) rfl (pid_rng1 rfl T.n_range (pad_cons (pd_op op_subD (pdv 2) (pdv 4)) pad_nil)) (pgd_name (pg_name (i := 5) sc_law_grouped.nd rfl (Or.inl rfl))) (pssd_cons (psd_set (i := 6) sc_law_grouped.nd rfl (Or.inl rfl) (pd_op op_modD (pd_callT call_intG rfl T.n_int bt_int (pad_cons (pdv 5) pad_nil)) (pdv 1)))
    (pssd_one (psd_asg (pd_tup (pad_cons pd_str (pad_cons (pd_call G_law_pick (hr.mono (by omega)) tk rfl (pad_cons (pdv 0) (pad_cons pd_int pad_nil))) (pad_cons (pd_ix ix_G (pdv 3) (pdv 6) (fun _ _ => rfl)) pad_nil)))) (pgd_sub (pdv 3) (pdv 6))))))
    (pssd_cons (psd_for (passes_of rfl) rfl (pid_rng1 rfl T.n_range (pad_cons pd_int pad_nil)) (pgd_name (pg_name (i := 7) sc_law_grouped.nd rfl (Or.inl rfl))) (pssd_cons (psd_set (i := 8) sc_law_grouped.nd rfl (Or.inl rfl) (pd_lst pad_nil))
    (pssd_cons (psd_for (passes_of rfl) rfl (pid_rng1 rfl T.n_range (pad_cons (pd_op op_fdivD (pd_op op_addD (pd_callB call_lenG rfl T.n_len bt_len (pad_cons (pdv 3) pad_nil)) pd_int) pd_int) pad_nil)) (pgd_name (pg_name (i := 5) sc_law_grouped.nd rfl (Or.inl rfl))) (pssd_one (psd_expr (pd_bm PySem.F.plainAttrs_list PySem.F.slot_list_append PySem.F.type_list_append mt_appendM (pdv 8) (pad_cons (pd_op op_addD (pd_tup (pad_cons pd_str (pad_cons (pd_call G_law_pick (hr.mono (by omega)) tk rfl (pad_cons (pdv 0) (pad_cons pd_int pad_nil))) pad_nil))) (pd_callT call_tupG rfl T.n_tuple bt_tuple (pad_cons (pd_slice (pdv 3) (pod_some (pd_op op_mulD pd_int (pdv 5))) (pod_some (pd_op op_addD (pd_op op_mulD pd_int (pdv 5)) pd_int))) pad_nil))) pad_nil)))))
    (pssd_one (psd_set (i := 3) sc_law_grouped.nd rfl (Or.inl rfl) (pdv 8))))))
    (pssd_one (psd_ret (pd_ix ix_G (pdv 3) pd_int (fun _ _ => rfl)))))))), h⟩
def t_law_chain (K : PySem.W.Frag) (A : Adr) : DS :=
  (dSeq (dAsg (dTup (dCons (dC (.str "end")) (dCons (dCall sp_law_pick [] (dCons (dVar 0) (dCons (dC (.int 2)) dNil))) dNil))) (dName 2))
    (dSeq (dAsg (dTup dNil) (dName 3))
    (dSeq (dFor (dRng1 (dCons (dVar 1) dNil)) (dName 4) (dSeq (dAsg (dCall sp_law_pick [] (dCons (dVar 0) (dCons (dC (.int 2)) dNil))) (dName 5))
    (dSeq (dAsg (dTup (dCons (dC (.str "end")) (dCons (dCall sp_law_pick [] (dCons (dVar 0) (dCons (dC (.int 2)) dNil))) dNil))) (dName 6))
    (dIfS (dB (dOp eqD (dCall sp_law_pick [] (dCons (dVar 0) (dCons (dC (.int 2)) dNil))) (dC (.int 0)))) (dSeq (dAsg (dTup (dCons (dC (.str "node")) (dCons (dVar 5) (dCons (dVar 2) (dCons (dVar 6) dNil))))) (dName 2))
    (dAsg (dOp addD (dTup (dCons (dC (.int 2)) dNil)) (dVar 3)) (dName 3))) (dSeq (dAsg (dTup (dCons (dC (.str "node")) (dCons (dVar 5) (dCons (dVar 6) (dCons (dVar 2) dNil))))) (dName 2))
    (dAsg (dOp addD (dTup (dCons (dC (.int 3)) dNil)) (dVar 3)) (dName 3)))))))
    (dRet (dLst (dCons (dVar 2) (dCons (dVar 3) dNil)))))))
theorem ok_law_chain {f : Addr} {fd : FuncData} (T : Txt w K mg A) (G_law_pick : FnD P w K mg base 1 "_law_pick" P_law_pick [] sp_law_pick) (F : L2.Fun K "_law_chain" "_law_chain" s_law_chain f fd) (sp : DSp) (len : ∀ ds M Q E, sp ds M Q E → ds.length = P_law_chain.length) (h : ∀ ds M Q E, sp ds M Q E → t_law_chain K A (ends Q E) (dstart N_law_chain ds) M) :
    FnOk P w K mg base (L2.CX P w) (1 + 1) f fd P_law_chain (liftSp K sp) :=
  okD F sc_law_chain len fun cdv Ar outer s H E hr tk => ⟨t_law_chain K _, (pssd_cons (psd_set (i := 2) sc_law_chain.nd rfl (Or.inl rfl) (pd_tup (pad_cons pd_str (pad_cons (pd_call G_law_pick (hr.mono (by omega)) tk rfl (pad_cons (pdv 0) (pad_cons pd_int pad_nil))) pad_nil))))
    (pssd_cons (psd_set (i := 3) sc_law_chain.nd rfl (Or.inl rfl) (pd_tup pad_nil))
    (pssd_cons (psd_for (passes_of rfl) rfl (pid_rng1 rfl T.n_range (pad_cons (pdv 1) pad_nil)) (pgd_name (pg_name (i := 4) sc_law_chain.nd rfl (Or.inl rfl))) (pssd_cons (psd_set (i := 5) sc_law_chain.nd rfl (Or.inl rfl) (pd_call G_law_pick (hr.mono (by omega)) tk rfl (pad_cons (pdv 0) (pad_cons pd_int pad_nil))))
    (pssd_cons (psd_set (i := 6) sc_law_chain.nd rfl (Or.inl rfl) (pd_tup (pad_cons pd_str (pad_cons (pd_call G_law_pick (hr.mono (by omega)) tk rfl (pad_cons (pdv 0) (pad_cons pd_int pad_nil))) pad_nil))))
    (pssd_one (psd_if (pt_cmpD (op_eqG (u200 hr)) (pd_call G_law_pick (hr.mono (by omega)) tk rfl (pad_cons (pdv 0) (pad_cons pd_int pad_nil))) pd_int (nomark _)) (pssd_cons (psd_set (i := 2) sc_law_chain.nd rfl (Or.inl rfl) (pd_tup (pad_cons pd_str (pad_cons (pdv 5) (pad_cons (pdv 2) (pad_cons (pdv 6) pad_nil))))))
    (pssd_one (psd_set (i := 3) sc_law_chain.nd rfl (Or.inl rfl) (pd_op op_addD (pd_tup (pad_cons pd_int pad_nil)) (pdv 3))))) (pssd_cons (psd_set (i := 2) sc_law_chain.nd rfl (Or.inl rfl) (pd_tup (pad_cons pd_str (pad_cons (pdv 5) (pad_cons (pdv 6) (pad_cons (pdv 2) pad_nil))))))
    (pssd_one (psd_set (i := 3) sc_law_chain.nd rfl (Or.inl rfl) (pd_op op_addD (pd_tup (pad_cons pd_int pad_nil)) (pdv 3))))))))))
    (pssd_one (psd_ret (pd_lst (pad_cons (pdv 2) (pad_cons (pdv 3) pad_nil)))))))), h⟩
def t_law_plans (K : PySem.W.Frag) (A : Adr) : DS :=
  (dSeq (dAsg (dLst (dCons (dTup dNil) dNil)) (dName 1))
    (dSeq (dFor (dIter (dVar 0)) (dName 2) (dSeq (dAsg (dLst dNil) (dName 3))
    (dSeq (dFor (dIter (dVar 1)) (dName 4) (dAsg (dOp addD (dVar 3) (dLc (dIter (dOp addD (dLst (dCons (dC .non) dNil)) (dLstRg (dCons (dCB lenG (dCons (dOp ixG (dVar 2) (dC (.int 1))) dNil)) dNil)))) (fun d τ => τ.set 5 (some d)) dYes (dOp addD (dVar 4) (dTup (dCons (dVar 5) dNil))) [5])) (dName 3)))
    (dAsg (dVar 3) (dName 1)))))
    (dRet (dVar 1))))
theorem ok_law_plans {f : Addr} {fd : FuncData} (T : Txt w K mg A)  (F : L2.Fun K "_law_plans" "_law_plans" s_law_plans f fd) (sp : DSp) (len : ∀ ds M Q E, sp ds M Q E → ds.length = P_law_plans.length) (h : ∀ ds M Q E, sp ds M Q E → t_law_plans K A (ends Q E) (dstart N_law_plans ds) M) :
    FnOk P w K mg base (L2.CX P w) (0 + 1) f fd P_law_plans (liftSp K sp) :=
  okD F sc_law_plans len fun cdv Ar outer s H E hr tk => ⟨t_law_plans K _, (pssd_cons (psd_set (i := 1) sc_law_plans.nd rfl (Or.inl rfl) (pd_lst (pad_cons (pd_tup pad_nil) pad_nil)))
    (pssd_cons (psd_for (passes_of rfl) rfl (pid_any (pdv 0)) (pgd_name (pg_name (i := 2) sc_law_plans.nd rfl (Or.inl rfl))) (pssd_cons (psd_set (i := 3) sc_law_plans.nd rfl (Or.inl rfl) (pd_lst pad_nil))
    (pssd_cons (psd_for (passes_of rfl) rfl (pid_any (pdv 1)) (pgd_name (pg_name (i := 4) sc_law_plans.nd rfl (Or.inr rfl))) (pssd_one (psd_set (i := 3) sc_law_plans.nd rfl (Or.inl rfl) (pd_op op_addD (pdv 3) (pd_lc (own := [("entry", 5)]) (i := 5) rfl sc_law_plans.nd (pid_any (pd_op op_addD (pd_lst (pad_cons pd_non pad_nil)) (pd_lstRg1 rfl rfl T.n_list rfl T.n_range (pd_callB call_lenG rfl T.n_len bt_len (pad_cons (pd_ix ix_G (pdv 2) pd_int (fun _ _ => rfl)) pad_nil))))) (blkOk_by (N := N_law_plans) (sc := defScope s_law_plans) (by decide +kernel)) (by decide) (fun _ _ _ _ _ => pg_name (i := 5) sc_law_plans.nd rfl (Or.inl rfl)) (fun _ _ _ _ _ => ptsd_nil) (fun _ _ _ _ _ => (pd_op op_addD (pdv 4) (pd_tup (pad_cons (pdv 5) pad_nil)))))))))
    (pssd_one (psd_set (i := 1) sc_law_plans.nd rfl (Or.inl rfl) (pdv 3))))))
    (pssd_one (psd_ret (pdv 1))))), h⟩
def t_law_drawn (K : PySem.W.Frag) (A : Adr) : DS :=
  (dSeq (dAsg (dTup dNil) (dName 2))
    (dSeq (dFor (dIter (dVar 1)) (dName 3) (dAsg (dOp addD (dVar 2) (dTup (dCons (dOp ixG (dLst (dCons (dC .non) (dCons (dCall sp_law_pick [] (dCons (dVar 0) (dCons (dCB lenG (dCons (dOp ixG (dVar 3) (dC (.int 1))) dNil)) dNil))) dNil))) (dCall sp_law_pick [] (dCons (dVar 0) (dCons (dC (.int 2)) dNil)))) dNil))) (dName 2)))
    (dRet (dVar 2))))
theorem ok_law_drawn {f : Addr} {fd : FuncData} (T : Txt w K mg A) (G_law_pick : FnD P w K mg base 1 "_law_pick" P_law_pick [] sp_law_pick) (F : L2.Fun K "_law_drawn" "_law_drawn" s_law_drawn f fd) (sp : DSp) (len : ∀ ds M Q E, sp ds M Q E → ds.length = P_law_drawn.length) (h : ∀ ds M Q E, sp ds M Q E → t_law_drawn K A (ends Q E) (dstart N_law_drawn ds) M) :
    FnOk P w K mg base (L2.CX P w) (1 + 1) f fd P_law_drawn (liftSp K sp) :=
  okD F sc_law_drawn len fun cdv Ar outer s H E hr tk => ⟨t_law_drawn K _, (pssd_cons (psd_set (i := 2) sc_law_drawn.nd rfl (Or.inl rfl) (pd_tup pad_nil))
    (pssd_cons (psd_for (passes_of rfl) rfl (pid_any (pdv 1)) (pgd_name (pg_name (i := 3) sc_law_drawn.nd rfl (Or.inl rfl))) (pssd_one (psd_set (i := 2) sc_law_drawn.nd rfl (Or.inl rfl) (pd_op op_addD (pdv 2) (pd_tup (pad_cons (pd_ix ix_G (pd_lst (pad_cons pd_non (pad_cons (pd_call G_law_pick (hr.mono (by omega)) tk rfl (pad_cons (pdv 0) (pad_cons (pd_callB call_lenG rfl T.n_len bt_len (pad_cons (pd_ix ix_G (pdv 3) pd_int (fun _ _ => rfl)) pad_nil)) pad_nil))) pad_nil))) (pd_call G_law_pick (hr.mono (by omega)) tk rfl (pad_cons (pdv 0) (pad_cons pd_int pad_nil))) (fun _ _ => rfl)) pad_nil))))))
    (pssd_one (psd_ret (pdv 2))))), h⟩
def t_law_chosen (K : PySem.W.Frag) (A : Adr) : DS :=
  (dSeq (dAsg (dC (.int 1)) (dName 2))
    (dSeq (dFor (dIter (dVar 1)) (dName 3) (dAsg (dOp mulD (dVar 2) (dOp addD (dC (.int 1)) (dCB lenG (dCons (dOp ixG (dVar 3) (dC (.int 1))) dNil)))) (dName 2)))
    (dSeq (dIfS (dB (dOp (oI0 fun i j => .bl (decide (i ≤ j))) (dVar 2) (dC (.int 100)))) (dRet (dCall sp_law_plans [] (dCons (dVar 1) dNil))) dNext)
    (dSeq (dAsg (dLc (dRng1 (dCons (dC (.int 10)) dNil)) (fun d τ => τ.set 5 (some d)) dYes (dCall sp_law_drawn [] (dCons (dVar 0) (dCons (dVar 1) dNil))) [5]) (dName 4))
    (dSeq (dDrop (dBM "list" appendM (dVar 4) (dCons (dCB tupG (dCons (dLc (dIter (dVar 1)) (fun d τ => τ.set 3 (some d)) dYes (dC .non) [3]) dNil)) dNil)))
    (dSeq (dDrop (dBM "list" appendM (dVar 4) (dCons (dCB tupG (dCons (dLc (dIter (dVar 1)) (fun d τ => τ.set 3 (some d)) dYes (dC (.int 0)) [3]) dNil)) dNil)))
    (dRet (dVar 4))))))))
theorem ok_law_chosen {f : Addr} {fd : FuncData} (T : Txt w K mg A) (G_law_drawn : FnD P w K mg base 2 "_law_drawn" P_law_drawn [] sp_law_drawn) (G_law_plans : FnD P w K mg base 1 "_law_plans" P_law_plans [] sp_law_plans) (F : L2.Fun K "_law_chosen" "_law_chosen" s_law_chosen f fd) (sp : DSp) (len : ∀ ds M Q E, sp ds M Q E → ds.length = P_law_chosen.length) (h : ∀ ds M Q E, sp ds M Q E → t_law_chosen K A (ends Q E) (dstart N_law_chosen ds) M) :
    FnOk P w K mg base (L2.CX P w) (2 + 1) f fd P_law_chosen (liftSp K sp) :=
  okD F sc_law_chosen len fun cdv Ar outer s H E hr tk => ⟨t_law_chosen K _, (pssd_cons (psd_set (i := 2) sc_law_chosen.nd rfl (Or.inl rfl) pd_int)
    (pssd_cons (psd_for (passes_of rfl) rfl (pid_any (pdv 1)) (pgd_name (pg_name (i := 3) sc_law_chosen.nd rfl (Or.inl rfl))) (pssd_one (psd_set (i := 2) sc_law_chosen.nd rfl (Or.inl rfl) (pd_op op_mulD (pdv 2) (pd_op op_addD pd_int (pd_callB call_lenG rfl T.n_len bt_len (pad_cons (pd_ix ix_G (pdv 3) pd_int (fun _ _ => rfl)) pad_nil)))))))
    (pssd_cons (psd_if (pt_cmpD op_leD (pdv 2) pd_int (nomark _)) (pssd_one (psd_ret (pd_call G_law_plans (hr.mono (by omega)) tk rfl (pad_cons (pdv 1) pad_nil)))) pssd_nil)
    (pssd_cons (psd_setLc (own := [("k", 5)]) (i := 5) (j := 4) rfl sc_law_chosen.nd rfl rfl (sw_true rfl rfl rfl (by decide +kernel)) (pid_rng1 rfl T.n_range (pad_cons pd_int pad_nil)) (blkOk_by (N := N_law_chosen) (sc := defScope s_law_chosen) (by decide +kernel)) (by decide) (fun _ _ _ _ _ => pg_name (i := 5) sc_law_chosen.nd rfl (Or.inl rfl)) (fun _ _ _ _ _ => ptsd_nil) (fun _ _ _ _ _ => (pd_call G_law_drawn (hr.mono (by omega)) tk0 rfl (pad_cons (pdv 0) (pad_cons (pdv 1) pad_nil)))))
    (pssd_cons (psd_expr (pd_bm PySem.F.plainAttrs_list PySem.F.slot_list_append PySem.F.type_list_append mt_appendM (pdv 4) (pad_cons (pd_callT call_tupG rfl T.n_tuple bt_tuple (pad_cons (pd_lc (own := [("node", 3)]) (i := 3) rfl sc_law_chosen.nd (pid_any (pdv 1)) (blkOk_by (N := N_law_chosen) (sc := defScope s_law_chosen) (by decide +kernel)) (by decide) (fun _ _ _ _ _ => pg_name (i := 3) sc_law_chosen.nd rfl (Or.inl rfl)) (fun _ _ _ _ _ => ptsd_nil) (fun _ _ _ _ _ => pd_non)) pad_nil)) pad_nil)))
    (pssd_cons (psd_expr (pd_bm PySem.F.plainAttrs_list PySem.F.slot_list_append PySem.F.type_list_append mt_appendM (pdv 4) (pad_cons (pd_callT call_tupG rfl T.n_tuple bt_tuple (pad_cons (pd_lc (own := [("node", 3)]) (i := 3) rfl sc_law_chosen.nd (pid_any (pdv 1)) (blkOk_by (N := N_law_chosen) (sc := defScope s_law_chosen) (by decide +kernel)) (by decide) (fun _ _ _ _ _ => pg_name (i := 3) sc_law_chosen.nd rfl (Or.inl rfl)) (fun _ _ _ _ _ => ptsd_nil) (fun _ _ _ _ _ => pd_int)) pad_nil)) pad_nil)))
    (pssd_one (psd_ret (pdv 4))))))))), h⟩
def t_law_is_plan (K : PySem.W.Frag) (A : Adr) : DS :=
  (dSeq (dIfS (dOr (dNot (dTru (dCB (isiG K) (dCons (dVar 1) (dCons (dC (.ty "tuple")) dNil))))) (dB (dOp neD (dCB lenG (dCons (dVar 1) dNil)) (dCB lenG (dCons (dVar 0) dNil))))) (dRet (dC (.bl false))) dNext)
    (dSeq (dFor (dRng1 (dCons (dCB lenG (dCons (dVar 1) dNil)) dNil)) (dName 2) (dSeq (dAsg (dOp ixG (dVar 1) (dVar 2)) (dName 3))
    (dSeq (dIfS (dAnd (dB (dOp (isG true) (dVar 3) (dC .non))) (dOr (dNot (dTru (dCB (isiG K) (dCons (dVar 3) (dCons (dC (.ty "int")) dNil))))) (dTru (dCB (isiG K) (dCons (dVar 3) (dCons (dC (.ty "bool")) dNil)))))) (dRet (dC (.bl false))) dNext)
    (dIfS (dAnd (dB (dOp (isG true) (dVar 3) (dC .non))) (dNot (dB (dChain (oI0 fun i j => .bl (decide (i ≤ j))) (oI0 fun i j => .bl (decide (i < j))) (dC (.int 0)) (dVar 3) (dCB lenG (dCons (dOp ixG (dOp ixG (dVar 0) (dVar 2)) (dC (.int 1))) dNil)))))) (dRet (dC (.bl false))) dNext))))
    (dRet (dC (.bl true)))))
theorem ok_law_is_plan {f : Addr} {fd : FuncData} (T : Txt w K mg A)  (F : L2.Fun K "_law_is_plan" "_law_is_plan" s_law_is_plan f fd) (sp : DSp) (len : ∀ ds M Q E, sp ds M Q E → ds.length = P_law_is_plan.length) (h : ∀ ds M Q E, sp ds M Q E → t_law_is_plan K A (ends Q E) (dstart N_law_is_plan ds) M) :
    FnOk P w K mg base (L2.CX P w) (0 + 1) f fd P_law_is_plan (liftSp K sp) :=
  okD F sc_law_is_plan len fun cdv Ar outer s H E hr tk => ⟨t_law_is_plan K _, (pssd_cons (psd_if (PWD.pt (pwd_or (ptd_not (ptd_tru (pd_callB call_isiG rfl T.n_isinstance bt_isinstance (pad_cons (pdv 1) (pad_cons (pd_ty rfl T.n_tuple bt_tuple) pad_nil))))) (pwd_or1 (pt_cmpD (op_neG (u200 hr)) (pd_callB call_lenG rfl T.n_len bt_len (pad_cons (pdv 1) pad_nil)) (pd_callB call_lenG rfl T.n_len bt_len (pad_cons (pdv 0) pad_nil)) (nomark _))))) (pssd_one (psd_ret pd_bl)) pssd_nil)
    (pssd_cons (psd_for (passes_of rfl) rfl (pid_rng1 rfl T.n_range (pad_cons (pd_callB call_lenG rfl T.n_len bt_len (pad_cons (pdv 1) pad_nil)) pad_nil)) (pgd_name (pg_name (i := 2) sc_law_is_plan.nd rfl (Or.inl rfl))) (pssd_cons (psd_set (i := 3) sc_law_is_plan.nd rfl (Or.inl rfl) (pd_ix ix_G (pdv 1) (pdv 2) (fun _ _ => rfl)))
    (pssd_cons (psd_if (PWD.pt (pwd_and (pt_cmpD op_isNotG (pdv 3) pd_non (nomark _)) (pwd_and1 (PWD.pt (pwd_or (ptd_not (ptd_tru (pd_callB call_isiG rfl T.n_isinstance bt_isinstance (pad_cons (pdv 3) (pad_cons (pd_ty rfl T.n_int bt_int) pad_nil))))) (pwd_or1 (ptd_tru (pd_callB call_isiG rfl T.n_isinstance bt_isinstance (pad_cons (pdv 3) (pad_cons (pd_ty rfl T.n_bool bt_bool) pad_nil)))))))))) (pssd_one (psd_ret pd_bl)) pssd_nil)
    (pssd_one (psd_if (PWD.pt (pwd_and (pt_cmpD op_isNotG (pdv 3) pd_non (nomark _)) (pwd_and1 (ptd_not (ptd_chain op_leD op_ltD pd_int (pdv 3) (pd_callB call_lenG rfl T.n_len bt_len (pad_cons (pd_ix ix_G (pd_ix ix_G (pdv 0) (pdv 2) (fun _ _ => rfl)) pd_int (fun _ _ => rfl)) pad_nil))))))) (pssd_one (psd_ret pd_bl)) pssd_nil)))))
    (pssd_one (psd_ret pd_bl)))), h⟩
def t_law_wrongs (K : PySem.W.Frag) (A : Adr) : DS :=
  (dSeq (dAsg (dOp ixG (dLst (dCons (dC (.int 2)) (dCons (dNeg (dC (.int 1))) (dCons (dC (.int 999999999)) dNil)))) (dCall sp_law_pick [] (dCons (dVar 0) (dCons (dC (.int 3)) dNil)))) (dName 4))
    (dSeq (dAsg (dTup (dCons (dC (.str "let")) (dCons (dC (.int 0)) dNil))) (dName 5))
    (dSeq (dIfS (dOr (dNot (dTru (dCall (sp_law_same 24) [] (dCons (dCall (sp_law_refused A) [] (dCons (dVar 1) (dCons (dVar 3) (dCons (dC (.int 0)) dNil)))) (dCons (dVar 5) dNil))))) (dNot (dTru (dCall (sp_law_same 24) [] (dCons (dCall (sp_law_refused A) [] (dCons (dVar 1) (dCons (dVar 3) (dCons (dVar 4) dNil)))) (dCons (dTup (dCons (dC (.str "range")) (dCons (dC (.int 0)) dNil))) dNil)))))) (dRet (dC (.bl false))) dNext)
    (dSeq (dAsg (dOp addD (dVar 3) (dTup (dCons (dOp ixG (dLst (dCons (dC .non) (dCons (dC (.int 0)) dNil))) (dCall sp_law_pick [] (dCons (dVar 0) (dCons (dC (.int 2)) dNil)))) dNil))) (dName 6))
    (dSeq (dFor (dIter (dLst (dCons (dC (.int 0)) (dCons (dC (.int 1)) (dCons (dVar 4) dNil))))) (dName 7) (dIfS (dNot (dTru (dCall (sp_law_same 24) [] (dCons (dCall (sp_law_refused A) [] (dCons (dVar 1) (dCons (dVar 6) (dCons (dVar 7) dNil)))) (dCons (dTup (dCons (dC (.str "plan")) (dCons (dCB lenG (dCons (dVar 2) dNil)) dNil))) dNil))))) (dRet (dC (.bl false))) dNext))
    (dSeq (dFor (dRng1 (dCons (dCB (mmG fun i j => if j < i then j else i) (dCons (dCB lenG (dCons (dVar 2) dNil)) (dCons (dC (.int 10)) dNil))) dNil)) (dName 8) (dSeq (dAsg (dCB lenG (dCons (dOp ixG (dOp ixG (dVar 2) (dVar 8)) (dC (.int 1))) dNil)) (dName 9))
    (dSeq (dAsg (dOp ixG (dLst (dCons (dVar 9) (dCons (dNeg (dC (.int 1))) (dCons (dC (.int 12)) (dCons (dC (.int 999999999)) dNil))))) (dCall sp_law_pick [] (dCons (dVar 0) (dCons (dC (.int 4)) dNil)))) (dName 10))
    (dSeq (dAsg (dCB lstG (dCons (dVar 3) dNil)) (dName 11))
    (dSeq (dAsg (dC (.int 12)) (dGSub (dVar 11) (dOp addD (dVar 8) (dCall sp_law_pick [] (dCons (dVar 0) (dCons (dOp (oI0 fun i j => .int (i - j)) (dCB lenG (dCons (dVar 2) dNil)) (dVar 8)) dNil))))))
    (dSeq (dAsg (dVar 10) (dGSub (dVar 11) (dVar 8)))
    (dSeq (dFor (dIter (dLst (dCons (dC (.int 1)) (dCons (dVar 4) dNil)))) (dName 7) (dSeq (dIfS (dNot (dTru (dCall (sp_law_same 24) [] (dCons (dCall (sp_law_refused A) [] (dCons (dVar 1) (dCons (dCB tupG (dCons (dVar 11) dNil)) (dCons (dVar 7) dNil)))) (dCons (dTup (dCons (dC (.str "plan")) (dCons (dVar 8) dNil))) dNil))))) (dRet (dC (.bl false))) dNext)
    (dIfS (dNot (dTru (dCall (sp_law_same 24) [] (dCons (dCall (sp_law_refused A) [] (dCons (dVar 1) (dCons (dSl (dVar 3) dNoP (dPart (dVar 8))) (dCons (dVar 7) dNil)))) (dCons (dTup (dCons (dC (.str "plan")) (dCons (dVar 8) dNil))) dNil))))) (dRet (dC (.bl false))) dNext)))
    (dSeq (dIfS (dNot (dTru (dCall (sp_law_same 24) [] (dCons (dCall (sp_law_refused A) [] (dCons (dVar 1) (dCons (dOp addD (dCB tupG (dCons (dSl (dVar 11) dNoP (dPart (dOp addD (dVar 8) (dC (.int 1))))) dNil)) (dVar 6)) (dCons (dVar 4) dNil)))) (dCons (dTup (dCons (dC (.str "plan")) (dCons (dVar 8) dNil))) dNil))))) (dRet (dC (.bl false))) dNext)
    (dFor (dIter (dLst (dCons (dC .non) (dCons (dC (.int 0)) (dCons (dOp (oI0 fun i j => .int (i - j)) (dVar 9) (dC (.int 1))) dNil))))) (dName 12) (dIfS (dNot (dTru (dCall (sp_law_same 24) [] (dCons (dCall (sp_law_refused A) [] (dCons (dVar 1) (dCons (dOp addD (dOp addD (dSl (dVar 3) dNoP (dPart (dVar 8))) (dTup (dCons (dVar 12) dNil))) (dSl (dVar 3) (dPart (dOp addD (dVar 8) (dC (.int 1)))) dNoP)) (dCons (dC (.int 1)) dNil)))) (dCons (dVar 5) dNil))))) (dRet (dC (.bl false))) dNext))))))))))
    (dRet (dC (.bl true)))))))))
theorem ok_law_wrongs {f : Addr} {fd : FuncData} (T : Txt w K mg A) (G_law_pick : FnD P w K mg base 1 "_law_pick" P_law_pick [] sp_law_pick) (G_law_refused : FnD P w K mg base 5 "_law_refused" P_law_refused [] (sp_law_refused A)) (G_law_same : FnD P w K mg base 24 "_law_same" P_law_same [] (sp_law_same 24)) (F : L2.Fun K "_law_wrongs" "_law_wrongs" s_law_wrongs f fd) (sp : DSp) (len : ∀ ds M Q E, sp ds M Q E → ds.length = P_law_wrongs.length) (h : ∀ ds M Q E, sp ds M Q E → t_law_wrongs K A (ends Q E) (dstart N_law_wrongs ds) M) :
    FnOk P w K mg base (L2.CX P w) (24 + 1) f fd P_law_wrongs (liftSp K sp) :=
  okD F sc_law_wrongs len fun cdv Ar outer s H E hr tk => ⟨t_law_wrongs K _, (pssd_cons (psd_set (i := 4) sc_law_wrongs.nd rfl (Or.inl rfl) (pd_ix ix_G (pd_lst (pad_cons pd_int (pad_cons (pd_neg pd_int) (pad_cons pd_int pad_nil)))) (pd_call G_law_pick (hr.mono (by omega)) tk rfl (pad_cons (pdv 0) (pad_cons pd_int pad_nil))) (fun _ _ => rfl)))
    (pssd_cons (psd_set (i := 5) sc_law_wrongs.nd rfl (Or.inl rfl) (pd_tup (pad_cons pd_str (pad_cons pd_int pad_nil))))
    (pssd_cons (psd_if (PWD.pt (pwd_or (ptd_not (ptd_tru (pd_call G_law_same (hr.mono (by omega)) tk rfl (pad_cons (pd_call G_law_refused (hr.mono (by omega)) tk rfl (pad_cons (pdv 1) (pad_cons (pdv 3) (pad_cons pd_int pad_nil)))) (pad_cons (pdv 5) pad_nil))))) (pwd_or1 (ptd_not (ptd_tru (pd_call G_law_same (hr.mono (by omega)) tk rfl (pad_cons (pd_call G_law_refused (hr.mono (by omega)) tk rfl (pad_cons (pdv 1) (pad_cons (pdv 3) (pad_cons (pdv 4) pad_nil)))) (pad_cons (pd_tup (pad_cons pd_str (pad_cons pd_int pad_nil))) pad_nil)))))))) (pssd_one (psd_ret pd_bl)) pssd_nil)
    (pssd_cons (psd_set (i := 6) sc_law_wrongs.nd rfl (Or.inl rfl) (pd_op op_addD (pdv 3) (pd_tup (pad_cons (pd_ix ix_G (pd_lst (pad_cons pd_non (pad_cons pd_int pad_nil))) (pd_call G_law_pick (hr.mono (by omega)) tk rfl (pad_cons (pdv 0) (pad_cons pd_int pad_nil))) (fun _ _ => rfl)) pad_nil))))
    (pssd_cons (psd_for (passes_of rfl) rfl (pid_any (pd_lst (pad_cons pd_int (pad_cons pd_int (pad_cons (pdv 4) pad_nil))))) (pgd_name (pg_name (i := 7) sc_law_wrongs.nd rfl (Or.inl rfl))) (pssd_one (psd_if (ptd_not (ptd_tru (pd_call G_law_same (hr.mono (by omega)) tk rfl (pad_cons (pd_call G_law_refused (hr.mono (by omega)) tk rfl (pad_cons (pdv 1) (pad_cons (pdv 6) (pad_cons (pdv 7) pad_nil)))) (pad_cons (pd_tup (pad_cons pd_str (pad_cons (pd_callB call_lenG rfl T.n_len bt_len (pad_cons (pdv 2) pad_nil)) pad_nil))) pad_nil))))) (pssd_one (psd_ret pd_bl)) pssd_nil)))
    (pssd_cons (psd_for (passes_of rfl) rfl (pid_rng1 rfl T.n_range (pad_cons (pd_callB (call_minG rfl) rfl T.n_min bt_min (pad_cons (pd_callB call_lenG rfl T.n_len bt_len (pad_cons (pdv 2) pad_nil)) (pad_cons pd_int pad_nil))) pad_nil)) (pgd_name (pg_name (i := 8) sc_law_wrongs.nd rfl (Or.inl rfl))) (pssd_cons (psd_set (i := 9) sc_law_wrongs.nd rfl (Or.inl rfl) (pd_callB call_lenG rfl T.n_len bt_len (pad_cons (pd_ix ix_G (pd_ix ix_G (pdv 2) (pdv 8) (fun _ _ => rfl)) pd_int (fun _ _ => rfl)) pad_nil)))
    (pssd_cons (psd_set (i := 10) sc_law_wrongs.nd rfl (Or.inl rfl) (pd_ix ix_G (pd_lst (pad_cons (pdv 9) (pad_cons (pd_neg pd_int) (pad_cons pd_int (pad_cons pd_int pad_nil))))) (pd_call G_law_pick (hr.mono (by omega)) tk rfl (pad_cons (pdv 0) (pad_cons pd_int pad_nil))) (fun _ _ => rfl)))
    (pssd_cons (psd_set (i := 11) sc_law_wrongs.nd rfl (Or.inl rfl) (pd_callT call_lstG rfl T.n_list bt_list (pad_cons (pdv 3) pad_nil)))
    (pssd_cons (psd_asg pd_int (pgd_sub (pdv 11) (pd_op op_addD (pdv 8) (pd_call G_law_pick (hr.mono (by omega)) tk rfl (pad_cons (pdv 0) (pad_cons (pd_op op_subD (pd_callB call_lenG rfl T.n_len bt_len (pad_cons (pdv 2) pad_nil)) (pdv 8)) pad_nil))))))
    (pssd_cons (psd_asg (pdv 10) (pgd_sub (pdv 11) (pdv 8)))
    (pssd_cons (psd_for (passes_of rfl) rfl (pid_any (pd_lst (pad_cons pd_int (pad_cons (pdv 4) pad_nil)))) (pgd_name (pg_name (i := 7) sc_law_wrongs.nd rfl (Or.inl rfl))) (pssd_cons (psd_if (ptd_not (ptd_tru (pd_call G_law_same (hr.mono (by omega)) tk rfl (pad_cons (pd_call G_law_refused (hr.mono (by omega)) tk rfl (pad_cons (pdv 1) (pad_cons (pd_callT call_tupG rfl T.n_tuple bt_tuple (pad_cons (pdv 11) pad_nil)) (pad_cons (pdv 7) pad_nil)))) (pad_cons (pd_tup (pad_cons pd_str (pad_cons (pdv 8) pad_nil))) pad_nil))))) (pssd_one (psd_ret pd_bl)) pssd_nil)
    (pssd_one (psd_if (ptd_not (ptd_tru (pd_call G_law_same (hr.mono (by omega)) tk rfl (pad_cons (pd_call G_law_refused (hr.mono (by omega)) tk rfl (pad_cons (pdv 1) (pad_cons (pd_slice (pdv 3) pod_none (pod_some (pdv 8))) (pad_cons (pdv 7) pad_nil)))) (pad_cons (pd_tup (pad_cons pd_str (pad_cons (pdv 8) pad_nil))) pad_nil))))) (pssd_one (psd_ret pd_bl)) pssd_nil))))
    (pssd_cons (psd_if (ptd_not (ptd_tru (pd_call G_law_same (hr.mono (by omega)) tk rfl (pad_cons (pd_call G_law_refused (hr.mono (by omega)) tk rfl (pad_cons (pdv 1) (pad_cons (pd_op op_addD (pd_callT call_tupG rfl T.n_tuple bt_tuple (pad_cons (pd_slice (pdv 11) pod_none (pod_some (pd_op op_addD (pdv 8) pd_int))) pad_nil)) (pdv 6)) (pad_cons (pdv 4) pad_nil)))) (pad_cons (pd_tup (pad_cons pd_str (pad_cons (pdv 8) pad_nil))) pad_nil))))) (pssd_one (psd_ret pd_bl)) pssd_nil)
    (pssd_one (psd_for (passes_of rfl) rfl (pid_any (pd_lst (pad_cons pd_non (pad_cons pd_int (pad_cons (pd_op op_subD (pdv 9) pd_int) pad_nil))))) (pgd_name (pg_name (i := 12) sc_law_wrongs.nd rfl (Or.inl rfl))) (pssd_one (psd_if (ptd_not (ptd_tru (pd_call G_law_same (hr.mono (by omega)) tk rfl (pad_cons (pd_call G_law_refused (hr.mono (by omega)) tk rfl (pad_cons (pdv 1) (pad_cons (pd_op op_addD (pd_op op_addD (pd_slice (pdv 3) pod_none (pod_some (pdv 8))) (pd_tup (pad_cons (pdv 12) pad_nil))) (pd_slice (pdv 3) (pod_some (pd_op op_addD (pdv 8) pd_int)) pod_none)) (pad_cons pd_int pad_nil)))) (pad_cons (pdv 5) pad_nil))))) (pssd_one (psd_ret pd_bl)) pssd_nil))))))))))))
    (pssd_one (psd_ret pd_bl)))))))), h⟩
def t_law_played (K : PySem.W.Frag) (A : Adr) : DS :=
  (dSeq (dAsg (dLst dNil) (dName 3))
    (dSeq (dAsg (dLst dNil) (dName 4))
    (dSeq (dAsg (dCall (sp_law_scan 22) [] (dCons (dVar 2) (dCons (dVar 3) (dCons (dVar 4) dNil)))) (dName 5))
    (dSeq (dAsg (dCall (sp_swapped A.Duel) [] (dCons (dVar 1) dNil)) (dName 6))
    (dSeq (dIfS (dOr (dNot (dTru (dCall (sp_law_same 24) [] (dCons (dFld K (dVar 6) "tree") (dCons (dCall (sp_law_exchanged 22) [] (dCons (dVar 2) dNil)) dNil))))) (dNot (dTru (dCall (sp_law_same 24) [] (dCons (dFld K (dCall (sp_swapped A.Duel) [] (dCons (dVar 6) dNil)) "tree") (dCons (dVar 2) dNil)))))) (dRet (dC (.bl false))) dNext)
    (dSeq (dFor (dIter (dCall sp_law_chosen [] (dCons (dVar 0) (dCons (dVar 3) dNil)))) (dName 7) (dSeq (dAsg (dLc (dIter (dCall (sp_law_reached 22) [] (dCons (dVar 3) (dCons (dVar 5) (dCons (dVar 7) dNil))))) (fun d τ => τ.set 12 (some d)) dYes (dOp ixG (dVar 4) (dVar 12)) [12]) (dName 8))
    (dFor (dRng1 (dCons (dC (.int 2)) dNil)) (dName 9) (dSeq (dAsg (dCB (allG fun bs => bs.all id) (dCons (dLc (dIter (dVar 8)) (fun d τ => τ.set 13 (some d)) dYes (dOp eqD (dVar 13) (dVar 9)) [13]) dNil)) (dName 10))
    (dIfS (dOr (dNot (dTru (dCall (sp_law_same 24) [] (dCons (dCall (sp_is_winning A) [] (dCons (dVar 1) (dCons (dVar 7) (dCons (dVar 9) dNil)))) (dCons (dVar 10) dNil))))) (dNot (dTru (dCall (sp_law_same 24) [] (dCons (dCall (sp_is_winning A) [] (dCons (dVar 6) (dCons (dVar 7) (dCons (dOp (oI0 fun i j => .int (i - j)) (dC (.int 1)) (dVar 9)) dNil)))) (dCons (dVar 10) dNil)))))) (dRet (dC (.bl false))) dNext)))))
    (dSeq (dAsg (dCall sp_law_at [] (dCons (dVar 5) (dCons (dCall sp_law_winners [] (dCons (dVar 3) (dCons (dVar 4) dNil))) (dCons (dVar 4) dNil)))) (dName 11))
    (dSeq (dAsg (dCall (sp_winning_plan A.Duel) [] (dCons (dVar 1) dNil)) (dName 7))
    (dSeq (dIfS (dOr (dNot (dTru (dCall (sp_law_same 24) [] (dCons (dCall (sp_winner A.Duel) [] (dCons (dVar 1) dNil)) (dCons (dVar 11) dNil))))) (dNot (dTru (dCall (sp_law_same 24) [] (dCons (dCall (sp_winner A.Duel) [] (dCons (dVar 6) dNil)) (dCons (dOp (oI0 fun i j => .int (i - j)) (dC (.int 1)) (dVar 11)) dNil)))))) (dRet (dC (.bl false))) dNext)
    (dSeq (dIfS (dOr (dNot (dTru (dCall (sp_law_same 24) [] (dCons (dCall (sp_winning_plan A.Duel) [] (dCons (dVar 6) dNil)) (dCons (dVar 7) dNil))))) (dNot (dTru (dCall sp_law_is_plan [] (dCons (dVar 3) (dCons (dVar 7) dNil)))))) (dRet (dC (.bl false))) dNext)
    (dSeq (dIfS (dNot (dTru (dCB (allG fun bs => bs.all id) (dCons (dLc (dIter (dCall (sp_law_reached 22) [] (dCons (dVar 3) (dCons (dVar 5) (dCons (dVar 7) dNil))))) (fun d τ => τ.set 12 (some d)) dYes (dOp eqD (dOp ixG (dVar 4) (dVar 12)) (dVar 11)) [12]) dNil)))) (dRet (dC (.bl false))) dNext)
    (dSeq (dIfS (dOr (dB (dOp (isG true) (dCall (sp_is_winning A) [] (dCons (dVar 1) (dCons (dVar 7) (dCons (dVar 11) dNil)))) (dC (.bl true)))) (dB (dOp (isG true) (dCall (sp_is_winning A) [] (dCons (dVar 1) (dCons (dVar 7) (dCons (dOp (oI0 fun i j => .int (i - j)) (dC (.int 1)) (dVar 11)) dNil)))) (dC (.bl false))))) (dRet (dC (.bl false))) dNext)
    (dRet (dCall (sp_law_wrongs A.Duel) [] (dCons (dVar 0) (dCons (dVar 1) (dCons (dVar 3) (dCons (dCall sp_law_drawn [] (dCons (dVar 0) (dCons (dVar 3) dNil))) dNil))))))))))))))))))
theorem ok_law_played {f : Addr} {fd : FuncData} (T : Txt w K mg A) (G_law_at : FnD P w K mg base 1 "_law_at" P_law_at [] sp_law_at) (G_law_chosen : FnD P w K mg base 3 "_law_chosen" P_law_chosen [] sp_law_chosen) (G_law_drawn : FnD P w K mg base 2 "_law_drawn" P_law_drawn [] sp_law_drawn) (G_law_exchanged : FnD P w K mg base 22 "_law_exchanged" P_law_exchanged [] (sp_law_exchanged 22)) (G_law_is_plan : FnD P w K mg base 1 "_law_is_plan" P_law_is_plan [] sp_law_is_plan) (G_law_reached : FnD P w K mg base 22 "_law_reached" P_law_reached [] (sp_law_reached 22)) (G_law_same : FnD P w K mg base 24 "_law_same" P_law_same [] (sp_law_same 24)) (G_law_scan : FnD P w K mg base 22 "_law_scan" P_law_scan [] (sp_law_scan 22)) (G_law_winners : FnD P w K mg base 2 "_law_winners" P_law_winners [] sp_law_winners) (G_law_wrongs : FnD P w K mg base 25 "_law_wrongs" P_law_wrongs [] (sp_law_wrongs A.Duel)) (G_is_winning : FnD P w K mg base 4 "is_winning" P_is_winning [] (sp_is_winning A)) (G_swapped : FnD P w K mg base 27 "swapped" P_swapped [] (sp_swapped A.Duel)) (G_winner : FnD P w K mg base 3 "winner" P_winner [] (sp_winner A.Duel)) (G_winning_plan : FnD P w K mg base 3 "winning_plan" P_winning_plan [] (sp_winning_plan A.Duel)) (F : L2.Fun K "_law_played" "_law_played" s_law_played f fd) (sp : DSp) (len : ∀ ds M Q E, sp ds M Q E → ds.length = P_law_played.length) (h : ∀ ds M Q E, sp ds M Q E → t_law_played K A (ends Q E) (dstart N_law_played ds) M) :
    FnOk P w K mg base (L2.CX P w) (27 + 1) f fd P_law_played (liftSp K sp) :=
  okD F sc_law_played len fun cdv Ar outer s H E hr tk => ⟨t_law_played K _, (pssd_cons (psd_set (i := 3) sc_law_played.nd rfl (Or.inl rfl) (pd_lst pad_nil))
    (pssd_cons (psd_set (i := 4) sc_law_played.nd rfl (Or.inr rfl) (pd_lst pad_nil))
    (pssd_cons (psd_set (i := 5) sc_law_played.nd rfl (Or.inl rfl) (pd_call G_law_scan (hr.mono (by omega)) tk rfl (pad_cons (pdv 2) (pad_cons (pdv 3) (pad_cons (pdv 4) pad_nil)))))
    (pssd_cons (psd_set (i := 6) sc_law_played.nd rfl (Or.inl rfl) (pd_call G_swapped (hr.mono (by omega)) tk rfl (pad_cons (pdv 1) pad_nil)))
    (pssd_cons (psd_if (PWD.pt (pwd_or (ptd_not (ptd_tru (pd_call G_law_same (hr.mono (by omega)) tk rfl (pad_cons (pd_fld (pdv 6)) (pad_cons (pd_call G_law_exchanged (hr.mono (by omega)) tk rfl (pad_cons (pdv 2) pad_nil)) pad_nil))))) (pwd_or1 (ptd_not (ptd_tru (pd_call G_law_same (hr.mono (by omega)) tk rfl (pad_cons (pd_fld (pd_call G_swapped (hr.mono (by omega)) tk rfl (pad_cons (pdv 6) pad_nil))) (pad_cons (pdv 2) pad_nil)))))))) (pssd_one (psd_ret pd_bl)) pssd_nil)
    (pssd_cons (psd_for (passes_of rfl) rfl (pid_any (pd_call G_law_chosen (hr.mono (by omega)) tk rfl (pad_cons (pdv 0) (pad_cons (pdv 3) pad_nil)))) (pgd_name (pg_name (i := 7) sc_law_played.nd rfl (Or.inl rfl))) (pssd_cons (psd_setLc (own := [("leaf", 12)]) (i := 12) (j := 8) rfl sc_law_played.nd rfl rfl (sw_true rfl rfl rfl (by decide +kernel)) (pid_any (pd_call G_law_reached (hr.mono (by omega)) tk rfl (pad_cons (pdv 3) (pad_cons (pdv 5) (pad_cons (pdv 7) pad_nil))))) (blkOk_by (N := N_law_played) (sc := defScope s_law_played) (by decide +kernel)) (by decide) (fun _ _ _ _ _ => pg_name (i := 12) sc_law_played.nd rfl (Or.inl rfl)) (fun _ _ _ _ _ => ptsd_nil) (fun _ _ _ _ _ => (pd_ix ix_G (pdv 4) (pdv 12) (fun _ _ => rfl))))
    (pssd_one (psd_for (passes_of rfl) rfl (pid_rng1 rfl T.n_range (pad_cons pd_int pad_nil)) (pgd_name (pg_name (i := 9) sc_law_played.nd rfl (Or.inr rfl))) (pssd_cons (psd_set (i := 10) sc_law_played.nd rfl (Or.inl rfl) (pd_callB (call_allG rfl) rfl T.n_all bt_all (pad_cons (pd_lc (own := [("end", 13)]) (i := 13) rfl sc_law_played.nd (pid_any (pdv 8)) (blkOk_by (N := N_law_played) (sc := defScope s_law_played) (by decide +kernel)) (by decide) (fun _ _ _ _ _ => pg_name (i := 13) sc_law_played.nd rfl (Or.inl rfl)) (fun _ _ _ _ _ => ptsd_nil) (fun _ _ _ _ _ => (pd_cmp (op_eqG (u200 hr)) (pdv 13) (pdv 9) (nomark _)))) pad_nil)))
    (pssd_one (psd_if (PWD.pt (pwd_or (ptd_not (ptd_tru (pd_call G_law_same (hr.mono (by omega)) tk rfl (pad_cons (pd_call G_is_winning (hr.mono (by omega)) tk rfl (pad_cons (pdv 1) (pad_cons (pdv 7) (pad_cons (pdv 9) pad_nil)))) (pad_cons (pdv 10) pad_nil))))) (pwd_or1 (ptd_not (ptd_tru (pd_call G_law_same (hr.mono (by omega)) tk rfl (pad_cons (pd_call G_is_winning (hr.mono (by omega)) tk rfl (pad_cons (pdv 6) (pad_cons (pdv 7) (pad_cons (pd_op op_subD pd_int (pdv 9)) pad_nil)))) (pad_cons (pdv 10) pad_nil)))))))) (pssd_one (psd_ret pd_bl)) pssd_nil)))))))
    (pssd_cons (psd_set (i := 11) sc_law_played.nd rfl (Or.inr rfl) (pd_call G_law_at (hr.mono (by omega)) tk rfl (pad_cons (pdv 5) (pad_cons (pd_call G_law_winners (hr.mono (by omega)) tk rfl (pad_cons (pdv 3) (pad_cons (pdv 4) pad_nil))) (pad_cons (pdv 4) pad_nil)))))
    (pssd_cons (psd_set (i := 7) sc_law_played.nd rfl (Or.inl rfl) (pd_call G_winning_plan (hr.mono (by omega)) tk rfl (pad_cons (pdv 1) pad_nil)))
    (pssd_cons (psd_if (PWD.pt (pwd_or (ptd_not (ptd_tru (pd_call G_law_same (hr.mono (by omega)) tk rfl (pad_cons (pd_call G_winner (hr.mono (by omega)) tk rfl (pad_cons (pdv 1) pad_nil)) (pad_cons (pdv 11) pad_nil))))) (pwd_or1 (ptd_not (ptd_tru (pd_call G_law_same (hr.mono (by omega)) tk rfl (pad_cons (pd_call G_winner (hr.mono (by omega)) tk rfl (pad_cons (pdv 6) pad_nil)) (pad_cons (pd_op op_subD pd_int (pdv 11)) pad_nil)))))))) (pssd_one (psd_ret pd_bl)) pssd_nil)
    (pssd_cons (psd_if (PWD.pt (pwd_or (ptd_not (ptd_tru (pd_call G_law_same (hr.mono (by omega)) tk rfl (pad_cons (pd_call G_winning_plan (hr.mono (by omega)) tk rfl (pad_cons (pdv 6) pad_nil)) (pad_cons (pdv 7) pad_nil))))) (pwd_or1 (ptd_not (ptd_tru (pd_call G_law_is_plan (hr.mono (by omega)) tk rfl (pad_cons (pdv 3) (pad_cons (pdv 7) pad_nil)))))))) (pssd_one (psd_ret pd_bl)) pssd_nil)
    (pssd_cons (psd_if (ptd_not (ptd_tru (pd_callB (call_allG rfl) rfl T.n_all bt_all (pad_cons (pd_lc (own := [("leaf", 12)]) (i := 12) rfl sc_law_played.nd (pid_any (pd_call G_law_reached (hr.mono (by omega)) tk rfl (pad_cons (pdv 3) (pad_cons (pdv 5) (pad_cons (pdv 7) pad_nil))))) (blkOk_by (N := N_law_played) (sc := defScope s_law_played) (by decide +kernel)) (by decide) (fun _ _ _ _ _ => pg_name (i := 12) sc_law_played.nd rfl (Or.inl rfl)) (fun _ _ _ _ _ => ptsd_nil) (fun _ _ _ _ _ => (pd_cmp (op_eqG (u200 hr)) (pd_ix ix_G (pdv 4) (pdv 12) (fun _ _ => rfl)) (pdv 11) (nomark _)))) pad_nil)))) (pssd_one (psd_ret pd_bl)) pssd_nil)
    (pssd_cons (psd_if (PWD.pt (pwd_or (pt_cmpD op_isNotG (pd_call G_is_winning (hr.mono (by omega)) tk rfl (pad_cons (pdv 1) (pad_cons (pdv 7) (pad_cons (pdv 11) pad_nil)))) pd_bl (nomark _)) (pwd_or1 (pt_cmpD op_isNotG (pd_call G_is_winning (hr.mono (by omega)) tk rfl (pad_cons (pdv 1) (pad_cons (pdv 7) (pad_cons (pd_op op_subD pd_int (pdv 11)) pad_nil)))) pd_bl (nomark _))))) (pssd_one (psd_ret pd_bl)) pssd_nil)
    (pssd_one (psd_ret (pd_call G_law_wrongs (hr.mono (by omega)) tk rfl (pad_cons (pdv 0) (pad_cons (pdv 1) (pad_cons (pdv 3) (pad_cons (pd_call G_law_drawn (hr.mono (by omega)) tk rfl (pad_cons (pdv 0) (pad_cons (pdv 3) pad_nil))) pad_nil))))))))))))))))))), h⟩
def t_law_counts (K : PySem.W.Frag) (A : Adr) (n : Nat) : DS :=
  (dSeq (dIfS (dB (dOp eqD (dOp ixG (dVar 0) (dC (.int 0))) (dC (.str "end")))) (dRet (dLst (dCons (dC (.int 1)) (dCons (dC (.int 1)) dNil)))) dNext)
    (dSeq (dAsg (dC (.int 1)) (dName 1))
    (dSeq (dAsg (dC (.int 1)) (dName 2))
    (dSeq (dFor (dIter (dSl (dVar 0) (dPart (dC (.int 2))) dNoP)) (dName 3) (dSeq (dAsg (dCall (sp_law_counts n) [] (dCons (dVar 3) dNil)) (dName 4))
    (dSeq (dAsg (dOp mulD (dVar 1) (dOp addD (dOp ixG (dVar 4) (dC (.int 0))) (dOp ixG (dVar 4) (dC (.int 1))))) (dName 1))
    (dAsg (dOp mulD (dVar 2) (dOp ixG (dVar 4) (dOp (oI0 fun i j => .int (i - j)) (dC (.int 1)) (dOp ixG (dVar 0) (dC (.int 1)))))) (dName 2)))))
    (dSeq (dAsg (dLst (dCons (dOp (oI0 fun i j => .int (i - j)) (dVar 1) (dVar 2)) (dCons (dOp (oI0 fun i j => .int (i - j)) (dVar 1) (dVar 2)) dNil))) (dName 5))
    (dSeq (dAsg (dVar 2) (dGSub (dVar 5) (dOp (oI0 fun i j => .int (i - j)) (dC (.int 1)) (dOp ixG (dVar 0) (dC (.int 1))))))
    (dRet (dVar 5))))))))
theorem ok_law_counts {f : Addr} {fd : FuncData} {n : Nat} (T : Txt w K mg A) (G_law_counts : FnD P w K mg base (0 + n) "_law_counts" P_law_counts [] (sp_law_counts n)) (F : L2.Fun K "_law_counts" "_law_counts" s_law_counts f fd) (sp : DSp) (len : ∀ ds M Q E, sp ds M Q E → ds.length = P_law_counts.length) (h : ∀ ds M Q E, sp ds M Q E → t_law_counts K A n (ends Q E) (dstart N_law_counts ds) M) :
    FnOk P w K mg base (L2.CX P w) (0 + n + 1) f fd P_law_counts (liftSp K sp) :=
  okD F sc_law_counts len fun cdv Ar outer s H E hr tk => ⟨t_law_counts K _ n, (pssd_cons (psd_if (pt_cmpD (op_eqG (u200 hr)) (pd_ix ix_G (pdv 0) pd_int (fun _ _ => rfl)) pd_str (nomark _)) (pssd_one (psd_ret (pd_lst (pad_cons pd_int (pad_cons pd_int pad_nil))))) pssd_nil)
    (pssd_cons (psd_set (i := 1) sc_law_counts.nd rfl (Or.inl rfl) pd_int)
    (pssd_cons (psd_set (i := 2) sc_law_counts.nd rfl (Or.inl rfl) pd_int)
    (pssd_cons (psd_for (passes_of rfl) rfl (pid_any (pd_slice (pdv 0) (pod_some pd_int) pod_none)) (pgd_name (pg_name (i := 3) sc_law_counts.nd rfl (Or.inl rfl))) (pssd_cons (psd_set (i := 4) sc_law_counts.nd rfl (Or.inl rfl) (pd_call G_law_counts (hr.mono (by omega)) tk rfl (pad_cons (pdv 3) pad_nil)))
    (pssd_cons (psd_set (i := 1) sc_law_counts.nd rfl (Or.inl rfl) (pd_op op_mulD (pdv 1) (pd_op op_addD (pd_ix ix_G (pdv 4) pd_int (fun _ _ => rfl)) (pd_ix ix_G (pdv 4) pd_int (fun _ _ => rfl)))))
    (pssd_one (psd_set (i := 2) sc_law_counts.nd rfl (Or.inl rfl) (pd_op op_mulD (pdv 2) (pd_ix ix_G (pdv 4) (pd_op op_subD pd_int (pd_ix ix_G (pdv 0) pd_int (fun _ _ => rfl))) (fun _ _ => rfl))))))))
    (pssd_cons (psd_set (i := 5) sc_law_counts.nd rfl (Or.inl rfl) (pd_lst (pad_cons (pd_op op_subD (pdv 1) (pdv 2)) (pad_cons (pd_op op_subD (pdv 1) (pdv 2)) pad_nil))))
    (pssd_cons (psd_asg (pdv 2) (pgd_sub (pdv 5) (pd_op op_subD pd_int (pd_ix ix_G (pdv 0) pd_int (fun _ _ => rfl)))))
    (pssd_one (psd_ret (pdv 5))))))))), h⟩
def t_law_all_ends (K : PySem.W.Frag) (A : Adr) : DS :=
  (dSeq (dAsg (dLst dNil) (dName 2))
    (dSeq (dAsg (dLst dNil) (dName 3))
    (dSeq (dAsg (dCall (sp_law_scan 22) [] (dCons (dVar 1) (dCons (dVar 2) (dCons (dVar 3) dNil)))) (dName 4))
    (dSeq (dAsg (dLst (dCons (dC (.int 1)) (dCons (dC (.int 2)) (dCons (dC (.int 4)) (dCons (dC (.int 8)) (dCons (dC (.int 16)) (dCons (dC (.int 32)) (dCons (dC (.int 64)) dNil)))))))) (dName 5))
    (dSeq (dAsg (dLst (dCons (dC (.int 0)) (dCons (dC (.int 0)) dNil))) (dName 6))
    (dSeq (dFor (dRng1 (dCons (dOp ixG (dVar 5) (dCB lenG (dCons (dVar 3) dNil))) dNil)) (dName 7) (dSeq (dAsg (dLc (dRng1 (dCons (dCB lenG (dCons (dVar 3) dNil)) dNil)) (fun d τ => τ.set 10 (some d)) dYes (dOp (oI (fun _ j => 0 < j) fun i j => .int (i % j)) (dCB intG (dCons (dOp (oI CDivW fun i j => .int (i / j)) (dVar 7) (dOp ixG (dVar 5) (dVar 10))) dNil)) (dC (.int 2))) [10]) (dName 8))
    (dSeq (dAsg (dCall sp_law_at [] (dCons (dVar 4) (dCons (dCall sp_law_winners [] (dCons (dVar 2) (dCons (dVar 8) dNil))) (dCons (dVar 8) dNil)))) (dName 9))
    (dSeq (dIfS (dNot (dTru (dCall (sp_law_same 24) [] (dCons (dCall (sp_winner A.Duel) [] (dCons (dMeth A.Duel "with_ends" (sp_Duel_with_ends A.Duel) [] (dVar 0) (dCons (dCB tupG (dCons (dVar 8) dNil)) dNil)) dNil)) (dCons (dVar 9) dNil))))) (dRet (dC (.bl false))) dNext)
    (dAsg (dOp addD (dOp ixG (dVar 6) (dVar 9)) (dC (.int 1))) (dGSub (dVar 6) (dVar 9)))))))
    (dRet (dAndV (dOp eqD (dVar 6) (dCall (sp_law_counts 22) [] (dCons (dVar 1) dNil))) (dCall (sp_law_same 24) [] (dCons (dFld K (dVar 0) "ends") (dCons (dCB tupG (dCons (dVar 3) dNil)) dNil)))))))))))
theorem ok_law_all_ends {f : Addr} {fd : FuncData} (T : Txt w K mg A) (G_Duel_with_ends : MetD P w K mg base 27 A.Duel "with_ends" P_Duel_with_ends [] (sp_Duel_with_ends A.Duel)) (G_law_at : FnD P w K mg base 1 "_law_at" P_law_at [] sp_law_at) (G_law_counts : FnD P w K mg base 22 "_law_counts" P_law_counts [] (sp_law_counts 22)) (G_law_same : FnD P w K mg base 24 "_law_same" P_law_same [] (sp_law_same 24)) (G_law_scan : FnD P w K mg base 22 "_law_scan" P_law_scan [] (sp_law_scan 22)) (G_law_winners : FnD P w K mg base 2 "_law_winners" P_law_winners [] sp_law_winners) (G_winner : FnD P w K mg base 3 "winner" P_winner [] (sp_winner A.Duel)) (F : L2.Fun K "_law_all_ends" "_law_all_ends" s_law_all_ends f fd) (sp : DSp) (len : ∀ ds M Q E, sp ds M Q E → ds.length = P_law_all_ends.length) (h : ∀ ds M Q E, sp ds M Q E → t_law_all_ends K A (ends Q E) (dstart N_law_all_ends ds) M) :
    FnOk P w K mg base (L2.CX P w) (27 + 1) f fd P_law_all_ends (liftSp K sp) :=
  okD F sc_law_all_ends len fun cdv Ar outer s H E hr tk => ⟨t_law_all_ends K _, (pssd_cons (psd_set (i := 2) sc_law_all_ends.nd rfl (Or.inl rfl) (pd_lst pad_nil))
    (pssd_cons (psd_set (i := 3) sc_law_all_ends.nd rfl (Or.inl rfl) (pd_lst pad_nil))
    (pssd_cons (psd_set (i := 4) sc_law_all_ends.nd rfl (Or.inl rfl) (pd_call G_law_scan (hr.mono (by omega)) tk rfl (pad_cons (pdv 1) (pad_cons (pdv 2) (pad_cons (pdv 3) pad_nil)))))
    (pssd_cons (psd_set (i := 5) sc_law_all_ends.nd rfl (Or.inr rfl) (pd_lst (pad_cons pd_int (pad_cons pd_int (pad_cons pd_int (pad_cons pd_int (pad_cons pd_int (pad_cons pd_int (pad_cons pd_int pad_nil)))))))))
    (pssd_cons (psd_set (i := 6) sc_law_all_ends.nd rfl (Or.inl rfl) (pd_lst (pad_cons pd_int (pad_cons pd_int pad_nil))))
    (pssd_cons (psd_for (passes_of rfl) rfl (pid_rng1 rfl T.n_range (pad_cons (pd_ix ix_G (pdv 5) (pd_callB call_lenG rfl T.n_len bt_len (pad_cons (pdv 3) pad_nil)) (fun _ _ => rfl)) pad_nil)) (pgd_name (pg_name (i := 7) sc_law_all_ends.nd rfl (Or.inr rfl))) (pssd_cons (psd_setLc (own := [("leaf", 10)]) (i := 10) (j := 8) rfl sc_law_all_ends.nd rfl rfl (sw_true rfl rfl rfl (by decide +kernel)) (pid_rng1 rfl T.n_range (pad_cons (pd_callB call_lenG rfl T.n_len bt_len (pad_cons (pdv 3) pad_nil)) pad_nil)) (blkOk_by (N := N_law_all_ends) (sc := defScope s_law_all_ends) (by decide +kernel)) (by decide) (fun _ _ _ _ _ => pg_name (i := 10) sc_law_all_ends.nd rfl (Or.inl rfl)) (fun _ _ _ _ _ => ptsd_nil) (fun _ _ _ _ _ => (pd_op op_modD (pd_callT call_intG rfl T.n_int bt_int (pad_cons (pd_op op_fdivD (pdv 7) (pd_ix ix_G (pdv 5) (pdv 10) (fun _ _ => rfl))) pad_nil)) pd_int)))
    (pssd_cons (psd_set (i := 9) sc_law_all_ends.nd rfl (Or.inl rfl) (pd_call G_law_at (hr.mono (by omega)) tk rfl (pad_cons (pdv 4) (pad_cons (pd_call G_law_winners (hr.mono (by omega)) tk rfl (pad_cons (pdv 2) (pad_cons (pdv 8) pad_nil))) (pad_cons (pdv 8) pad_nil)))))
    (pssd_cons (psd_if (ptd_not (ptd_tru (pd_call G_law_same (hr.mono (by omega)) tk rfl (pad_cons (pd_call G_winner (hr.mono (by omega)) tk rfl (pad_cons (pd_meth G_Duel_with_ends (hr.mono (by omega)) tk (pdv 0) (pad_cons (pd_callT call_tupG rfl T.n_tuple bt_tuple (pad_cons (pdv 8) pad_nil)) pad_nil)) pad_nil)) (pad_cons (pdv 9) pad_nil))))) (pssd_one (psd_ret pd_bl)) pssd_nil)
    (pssd_one (psd_asg (pd_op op_addD (pd_ix ix_G (pdv 6) (pdv 9) (fun _ _ => rfl)) pd_int) (pgd_sub (pdv 6) (pdv 9))))))))
    (pssd_one (psd_ret (pd_and (pd_cmp (op_eqG (u200 hr)) (pdv 6) (pd_call G_law_counts (hr.mono (by omega)) tk rfl (pad_cons (pdv 1) pad_nil)) (nomark _)) (pd_one (pd_call G_law_same (hr.mono (by omega)) tk rfl (pad_cons (pd_fld (pdv 0)) (pad_cons (pd_callT call_tupG rfl T.n_tuple bt_tuple (pad_cons (pdv 3) pad_nil)) pad_nil))))))))))))), h⟩
def t_law (K : PySem.W.Frag) (A : Adr) : DS :=
  (dSeq (dAsg (dCall (sp_law_start K) [] (dCons (dVar 0) dNil)) (dName 1))
    (dSeq (dAsg (dCall sp_law_pick [] (dCons (dVar 1) (dCons (dC (.int 7)) dNil))) (dName 2))
    (dSeq (dAsg (dCall (sp_law_tree 8) [] (dCons (dVar 1) (dCons (dVar 2) (dCons (dLst (dCons (dCall sp_law_pick [] (dCons (dVar 1) (dCons (dC (.int 9)) dNil))) (dCons (dCall sp_law_pick [] (dCons (dVar 1) (dCons (dC (.int 12)) dNil))) dNil))) dNil)))) (dName 3))
    (dSeq (dAsg (dCall sp_law_pick [] (dCons (dVar 1) (dCons (dC (.int 16)) dNil))) (dName 4))
    (dSeq (dIfS (dB (dOp eqD (dVar 4) (dC (.int 0)))) (dAsg (dCall sp_law_grouped [] (dCons (dVar 1) (dCons (dOp addD (dC (.int 150)) (dCall sp_law_pick [] (dCons (dVar 1) (dCons (dC (.int 51)) dNil)))) (dCons (dOp addD (dC (.int 20)) (dCall sp_law_pick [] (dCons (dVar 1) (dCons (dC (.int 181)) dNil)))) dNil)))) (dName 3)) dNext)
    (dSeq (dIfS (dB (dOp eqD (dVar 4) (dC (.int 1)))) (dAsg (dOp ixG (dCall sp_law_chain [] (dCons (dVar 1) (dCons (dC (.int 20)) dNil))) (dC (.int 0))) (dName 3)) dNext)
    (dSeq (dAsg (dLst dNil) (dName 5))
    (dSeq (dAsg (dMake A.Duel (sp_Duel_init A.Duel) [] (dCons (dVar 3) dNil)) (dName 6))
    (dSeq (dIfS (dOr (dNot (dTru (dCall (sp_law_same 24) [] (dCons (dFld K (dVar 6) "tree") (dCons (dVar 3) dNil))))) (dOr (dB (dOp (isG false) (dCall (sp_law_scan 22) [] (dCons (dVar 3) (dCons (dLst dNil) (dCons (dVar 5) dNil)))) (dC .non))) (dNot (dTru (dCall (sp_law_played A.Duel) [] (dCons (dVar 1) (dCons (dVar 6) (dCons (dVar 3) dNil)))))))) (dRet (dC (.bl false))) dNext)
    (dSeq (dIfS (dAnd (dB (dOp (oI0 fun i j => .bl (decide (i < j))) (dCB lenG (dCons (dVar 5) dNil)) (dC (.int 7)))) (dNot (dTru (dCall (sp_law_all_ends A.Duel) [] (dCons (dVar 6) (dCons (dVar 3) dNil)))))) (dRet (dC (.bl false))) dNext)
    (dRet (dCall (sp_law_same 24) [] (dCons (dFld K (dVar 6) "tree") (dCons (dVar 3) dNil))))))))))))))
theorem ok_law {f : Addr} {fd : FuncData} (T : Txt w K mg A) (G_Duel_init : MakD P w K mg base 25 "Duel" A.Duel P_Duel_init [] (sp_Duel_init A.Duel)) (G_law_all_ends : FnD P w K mg base 28 "_law_all_ends" P_law_all_ends [] (sp_law_all_ends A.Duel)) (G_law_chain : FnD P w K mg base 2 "_law_chain" P_law_chain [] sp_law_chain) (G_law_grouped : FnD P w K mg base 2 "_law_grouped" P_law_grouped [] sp_law_grouped) (G_law_pick : FnD P w K mg base 1 "_law_pick" P_law_pick [] sp_law_pick) (G_law_played : FnD P w K mg base 28 "_law_played" P_law_played [] (sp_law_played A.Duel)) (G_law_same : FnD P w K mg base 24 "_law_same" P_law_same [] (sp_law_same 24)) (G_law_scan : FnD P w K mg base 22 "_law_scan" P_law_scan [] (sp_law_scan 22)) (G_law_start : FnD P w K mg base 1 "_law_start" P_law_start [] (sp_law_start K)) (G_law_tree : FnD P w K mg base 9 "_law_tree" P_law_tree [] (sp_law_tree 8)) (F : L2.Fun K "law" "law" s_law f fd) (sp : DSp) (len : ∀ ds M Q E, sp ds M Q E → ds.length = P_law.length) (h : ∀ ds M Q E, sp ds M Q E → t_law K A (ends Q E) (dstart N_law ds) M) :
    FnOk P w K mg base (L2.CX P w) (28 + 1) f fd P_law (liftSp K sp) :=
  okD F sc_law len fun cdv Ar outer s H E hr tk => ⟨t_law K _, (pssd_cons (psd_set (i := 1) sc_law.nd rfl (Or.inl rfl) (pd_call G_law_start (hr.mono (by omega)) tk rfl (pad_cons (pdv 0) pad_nil)))
    (pssd_cons (psd_set (i := 2) sc_law.nd rfl (Or.inl rfl) (pd_call G_law_pick (hr.mono (by omega)) tk rfl (pad_cons (pdv 1) (pad_cons pd_int pad_nil))))
    (pssd_cons (psd_set (i := 3) sc_law.nd rfl (Or.inl rfl) (pd_call G_law_tree (hr.mono (by omega)) tk rfl (pad_cons (pdv 1) (pad_cons (pdv 2) (pad_cons (pd_lst (pad_cons (pd_call G_law_pick (hr.mono (by omega)) tk rfl (pad_cons (pdv 1) (pad_cons pd_int pad_nil))) (pad_cons (pd_call G_law_pick (hr.mono (by omega)) tk rfl (pad_cons (pdv 1) (pad_cons pd_int pad_nil))) pad_nil))) pad_nil)))))
    (pssd_cons (psd_set (i := 4) sc_law.nd rfl (Or.inl rfl) (pd_call G_law_pick (hr.mono (by omega)) tk rfl (pad_cons (pdv 1) (pad_cons pd_int pad_nil))))
    (pssd_cons (psd_if (pt_cmpD (op_eqG (u200 hr)) (pdv 4) pd_int (nomark _)) (pssd_one (psd_set (i := 3) sc_law.nd rfl (Or.inl rfl) (pd_call G_law_grouped (hr.mono (by omega)) tk rfl (pad_cons (pdv 1) (pad_cons (pd_op op_addD pd_int (pd_call G_law_pick (hr.mono (by omega)) tk rfl (pad_cons (pdv 1) (pad_cons pd_int pad_nil)))) (pad_cons (pd_op op_addD pd_int (pd_call G_law_pick (hr.mono (by omega)) tk rfl (pad_cons (pdv 1) (pad_cons pd_int pad_nil)))) pad_nil)))))) pssd_nil)
    (pssd_cons (psd_if (pt_cmpD (op_eqG (u200 hr)) (pdv 4) pd_int (nomark _)) (pssd_one (psd_set (i := 3) sc_law.nd rfl (Or.inl rfl) (pd_ix ix_G (pd_call G_law_chain (hr.mono (by omega)) tk rfl (pad_cons (pdv 1) (pad_cons pd_int pad_nil))) pd_int (fun _ _ => rfl)))) pssd_nil)
    (pssd_cons (psd_set (i := 5) sc_law.nd rfl (Or.inl rfl) (pd_lst pad_nil))
    (pssd_cons (psd_set (i := 6) sc_law.nd rfl (Or.inl rfl) (pd_make G_Duel_init (hr.mono (by omega)) tk rfl (pad_cons (pdv 3) pad_nil)))
    (pssd_cons (psd_if (PWD.pt (pwd_or (ptd_not (ptd_tru (pd_call G_law_same (hr.mono (by omega)) tk rfl (pad_cons (pd_fld (pdv 6)) (pad_cons (pdv 3) pad_nil))))) (pwd_or (pt_cmpD op_isG (pd_call G_law_scan (hr.mono (by omega)) tk rfl (pad_cons (pdv 3) (pad_cons (pd_lst pad_nil) (pad_cons (pdv 5) pad_nil)))) pd_non (nomark _)) (pwd_or1 (ptd_not (ptd_tru (pd_call G_law_played (hr.mono (by omega)) tk rfl (pad_cons (pdv 1) (pad_cons (pdv 6) (pad_cons (pdv 3) pad_nil)))))))))) (pssd_one (psd_ret pd_bl)) pssd_nil)
    (pssd_cons (psd_if (PWD.pt (pwd_and (pt_cmpD op_ltD (pd_callB call_lenG rfl T.n_len bt_len (pad_cons (pdv 5) pad_nil)) pd_int (nomark _)) (pwd_and1 (ptd_not (ptd_tru (pd_call G_law_all_ends (hr.mono (by omega)) tk rfl (pad_cons (pdv 6) (pad_cons (pdv 3) pad_nil)))))))) (pssd_one (psd_ret pd_bl)) pssd_nil)
    (pssd_one (psd_ret (pd_call G_law_same (hr.mono (by omega)) tk rfl (pad_cons (pd_fld (pdv 6)) (pad_cons (pdv 3) pad_nil))))))))))))))), h⟩
end
end K43

set_option maxHeartbeats 4000000
namespace K43
open PySem L2 DL
local macro_rules | `(tactic| walk_at "dl") => `(tactic| simp only [dSeq, dIfS, dB, dTru, truD, dOp, dVar, dC, dAsg, dAug, dCB, dCons, dNil, dRet, dRetN, dName, dGSub, dNext, ends, exOf, dstart, slot, oI0, oI, dAnd, dOr, dNot, dAndV, dOrV, dNotV, dNeg, dSl, dNoP, dPart, dFld, dFldS, dRaise, dLst, dTup, dFor, dIter, dRng1, dRng2, dCall, dMake, dMeth, dIxO, dLc, dYes, dGTup, dGCons, dGNil,
  lenG_T, addD_T, addD_int, mulD_int, lstG_T, mulD_T, eqD_T, eqD_int, neD_int, itemsOf_T, keepOf_T, tup_T, tup_T1, tupG_T, intG, List.nil_append, bne_iff_ne,
  List.map, List.length_cons, List.length_nil, List.cons_append, List.append_nil, List.replicate, List.set, List.getElem?_cons_zero, List.getElem?_cons_succ, Option.join_some, Option.bind_some, decide_eq_true_eq])
local macro_rules | `(tactic| walk_at "wp") => `(tactic| simp only [dSeq, dIfS, dB, dOp, dVar, dC, dAsg, dCB, dCons, dNil, dRet, dName, dGSub, dNext, ends, exOf, dstart, slot, oI0, oI, ixG, seqOf, atI, ixN, addD, mulD, intG, lenG, lenD, lstG, tupG, dLst, dTup, dFor, dRng1, dLoop,
  List.map, List.length_cons, List.length_nil, List.append, List.cons_append, List.nil_append, List.replicate, List.set, List.getElem?_cons_zero, List.getElem?_cons_succ, Option.join_some, Option.bind_some, decide_eq_true_eq])
variable {K : PySem.W.Frag} {A : Adr}
theorem cm1 {i : Int} (h : 0 ≤ i) (h2 : i < 4294967299) : CMulX i 48271 := mulx_ok (a := 33) (b := 16) (by omega) (by decide) (by decide)
theorem cm2 {i : Int} (h : 0 ≤ i) (h2 : i < 4294967299) : CMulX i 69621 := mulx_ok (a := 33) (b := 17) (by omega) (by decide) (by decide)
theorem r_law_pick : ∀ ds M Q E, sp_law_pick ds M Q E → t_law_pick K A (ends Q E) (dstart N_law_pick ds) M := by
  rintro ds M Q E ⟨s, l, ns, limit, rfl, ⟨hsl, hl, seed, pos, rest, hs, h1, h2, h3, h4, h5⟩, hlim, hlog, k⟩
  have hls : l ≠ s := Ne.symm hsl
  have fin : ∀ (M' : Mp) (i : Int) (seed pos rest : Int), M' = put M s (.lst [.int seed, .ref l, .int pos, .int rest]) → 0 ≤ seed → seed < 2147483647 → 0 ≤ pos → pos ≤ ns.length → 0 ≤ rest → dropQ Q (.int (i % limit)) M' := by
    rintro M' i seed pos rest rfl h1 h2 h3 h4 h5
    exact dropQ_of (k _ _ (Int.emod_nonneg _ (by omega)) (Int.emod_lt_of_pos _ hlim) (PSt.mk hsl hl h1 h2 h3 h4 h5)) .refl
  unfold t_law_pick N_law_pick
  walk_at "wp"
  have e10 : CPow 10 18 := by unfold CPow; decide
  have tail : ∀ (z : Int) (pos : Int), 0 ≤ pos → pos ≤ ns.length → CMulX (seed + z % 2147483647 + 1) 48271 ∧ CMulX ((seed + z % 2147483647 + 1) * 48271 % 2147483647) 69621 ∧ CDivW (((seed + z % 2147483647 + 1) * 48271 % 2147483647 * 69621 + 12345) % 2147483647) 7 ∧ 0 < limit ∧
      dropQ Q (.int (((seed + z % 2147483647 + 1) * 48271 % 2147483647 * 69621 + 12345) % 2147483647 / 7 % limit)) (put M s (.lst [.int (((seed + z % 2147483647 + 1) * 48271 % 2147483647 * 69621 + 12345) % 2147483647), .ref l, .int pos, .int rest])) := by
    intro z pos h3 h4
    refine ⟨cm1 (by omega) (by omega), cm2 (by omega) (by omega), ⟨by decide, by decide⟩, hlim, ?_⟩
    exact fin _ _ _ _ _ rfl (by omega) (by omega) h3 h4 h5
  by_cases c : limit ≤ rest
  · simp [hs, put_same, c]
    exact ⟨⟨hlim, hlog⟩, hlim, fin _ _ _ _ _ rfl h1 h2 h3 h4 (Int.ediv_nonneg h5 (by omega))⟩
  · by_cases c2 : pos < ns.length
    · have c3 : pos.toNat < ns.length := by omega
      simp [hs, hl, put_same, put_ne hls, put_put, c, c2, h3, List.getElem?_eq_getElem c3, e10]
      split
      · split
        · exact ⟨⟨hlim, hlog⟩, hlim, fin _ _ _ _ _ rfl h1 h2 (by omega) (by omega) (Int.ediv_nonneg (by omega) (by omega))⟩
        · exact tail _ _ (by omega) (by omega)
      · split
        · exact ⟨⟨hlim, hlog⟩, hlim, fin _ _ _ _ _ rfl h1 h2 (by omega) (by omega) (Int.ediv_nonneg (by omega) (by omega))⟩
        · exact tail _ _ (by omega) (by omega)
    · simp [hs, hl, put_same, put_ne hls, put_put, c, c2, e10]
      exact tail 11 _ (by omega) (by omega)
variable {mg : Str → Option Value}
theorem r_law_start : ∀ ds M Q E, sp_law_start1 ds M Q E → t_law_start K A (ends Q E) (dstart N_law_start ds) M := by
  rintro ds M Q E ⟨a, ns, rfl, hM, hl, k⟩
  have hs := seqOf_rol hM
  unfold t_law_start N_law_start
  walk_at "dl"
  rw [lenG_ref hs, List.length_map]
  simp only
  refine ⟨by omega, by omega, ?_⟩
  refine dLoop_inv (fun i τ M' => M' = M ∧ ∃ (seed : Int) (o : Option D), τ = [some (.ref a), some (.int seed), o] ∧ 0 ≤ seed ∧ seed < 2147483647) (fun _ _ _ _ _ => trivial) ?_ ?_ ⟨rfl, 7, _, rfl, by omega, by omega⟩
  · rintro i d τ M nxt hd ⟨rfl, seed, o, rfl, h1, h2⟩ hnx
    obtain ⟨hi, rfl⟩ := rng_at hd
    walk_at "dl"
    refine ⟨cm1 h1 (by omega), ?_⟩
    rw [ixG_ref hs (by omega) (by omega)]
    walk_at "dl"
    refine ⟨by omega, by omega, hnx _ _ ⟨rfl, _, _, rfl, by omega, by omega⟩⟩
  · rintro τ M ⟨rfl, seed, o, rfl, h1, h2⟩
    walk_at "dl"
    simp only [lstG, hs]
    intro l hl0
    refine ⟨by rw [sizeLine_eq]; omega, fun s hs0 => ?_⟩
    have nsl : s ≠ l := by rintro rfl; rw [put_same] at hs0; cases hs0
    refine dropQ_of (k s l _ ?_ ((sub_put hl0).put hs0)) .refl
    exact PSt.mk nsl put_same h1 h2 (by omega) (by omega) (by omega)
theorem r_law_startK : ∀ ds M Q E, sp_law_start2 K ds M Q E → t_law_startK K A (ends Q E) (dstart N_law_start ds) M := by
  rintro ds M Q E ⟨a, ns, rfl, hM, hl, k⟩
  unfold t_law_startK N_law_start
  walk_at "dl"
  refine ⟨ns, hM, by omega, by omega, ?_⟩
  refine dLoop_inv (fun i τ M' => M' = M ∧ ∃ (seed : Int) (o : Option D), τ = [some (.ref a), some (.int seed), o] ∧ 0 ≤ seed ∧ seed < 2147483647) (fun _ _ _ _ _ => trivial) ?_ ?_ ⟨rfl, 7, _, rfl, by omega, by omega⟩
  · rintro i d τ M nxt hd ⟨rfl, seed, o, rfl, h1, h2⟩ hnx
    obtain ⟨hi, rfl⟩ := rng_at hd
    walk_at "dl"
    refine ⟨cm1 h1 (by omega), ?_⟩
    refine ⟨ns, hM, by omega, by omega, ?_⟩
    walk_at "dl"
    refine ⟨by omega, by omega, hnx _ _ ⟨rfl, _, _, rfl, by omega, by omega⟩⟩
  · rintro τ M ⟨rfl, seed, o, rfl, h1, h2⟩
    walk_at "dl"
    refine ⟨ns, hM, fun l hl0 => ?_⟩
    refine ⟨by rw [sizeLine_eq]; omega, fun s hs0 => ?_⟩
    have nsl : s ≠ l := by rintro rfl; rw [put_same] at hs0; cases hs0
    refine dropQ_of (k s l _ ?_ ((sub_put hl0).put hs0)) .refl
    exact PSt.mk nsl put_same h1 h2 (by omega) (by omega) (by omega)
theorem okS_T {n : Nat} {xs : List Int} (h : xs.length ≤ 100000) : okS (n + 1) (T xs) := by
  unfold T
  rw [okS]
  refine ⟨n, rfl, by simpa using h, fun x hx => ?_⟩
  obtain ⟨i, _, rfl⟩ := List.mem_map.mp hx
  simp [okS, ok]
theorem r_law_same {n : Nat} : ∀ ds M Q E, sp_law_same (n + 1) ds M Q E → t_law_same K A n (ends Q E) (dstart N_law_same ds) M := by
  rintro ds M Q E ⟨d, rfl, hd, k⟩
  unfold t_law_same N_law_same
  have t1 : isB "tuple" "tuple" = true := by decide
  cases d with
  | tup xs =>
    rw [okS] at hd
    obtain ⟨m, rfl, hl, hx⟩ := hd
    walk_at "dl"
    simp only [isiG, tyName, t1, List.mem_cons, true_or, or_true, true_and, if_true, lenG, lenD, neD_int, Bool.not_true, Bool.false_eq_true, if_false, decide_true]
    refine ⟨by omega, by omega, fun p hp => ?_⟩
    refine dCL_inv (fun j M' => M' = put M p (.lst (((List.range j).map fun _ => true).map D.bl))) (fun _ _ _ _ => trivial) ?_ ?_ rfl
    · rintro j d M' nxt hd rfl hnx
      obtain ⟨hj, rfl⟩ := rng_at hd
      simp only [wipeD]
      walk_at "dl"
      have e1 : atI xs (j : Int) = some (xs[j]'(by omega)) := atI_nat (List.getElem?_eq_getElem _)
      simp only [ixG, e1, if_true]
      refine ⟨_, rfl, hx _ (List.getElem_mem _), ?_⟩
      simp only [put_same]
      refine ⟨by rw [List.length_map, List.length_map, List.length_range, sizeLine_eq]; omega, hnx _ ?_⟩
      rw [put_put, List.range_succ, List.map_append, List.map_append]
      rfl
    · rintro M' rfl
      unfold allG
      simp only [seqOf, put_same, Option.bind_some, blsOf_range]
      have e : ((List.range ((List.range xs.length).map fun i => D.int (i : Nat)).length).map fun _ => true).all id = true := by simp
      simp only [Int.toNat_natCast]
      rw [e]
      exact dropQ_of k (sub_put hp)
  | non =>
    walk_at "dl"
    simp [isiG, tyName, isB, isG, isNone]
    exact dropQ_of k .refl
  | bl b =>
    walk_at "dl"
    simp [isiG, tyName, isB, isG, isNone, eqD, eqG, eqOk, ok, dep, eqb]
    exact dropQ_of k .refl
  | int b =>
    walk_at "dl"
    simp [isiG, tyName, isB, isG, isNone]
    exact dropQ_of k .refl
  | str b =>
    walk_at "dl"
    simp [isiG, tyName, isB, isG, isNone, eqD, eqG]
    exact dropQ_of k .refl
  | ref b => simp [okS] at hd
  | ty b => simp [okS] at hd
end K43


set_option maxHeartbeats 4000000
namespace K43
open PySem L2 DL DU
local macro_rules | `(tactic| walk_at "dl") => `(tactic| simp only [dSeq, dIfS, dB, dTru, truD, dOp, dVar, dC, dAsg, dAug, dCB, dCons, dNil, dRet, dRetN, dName, dGSub, dNext, ends, exOf, dstart, slot, oI0, oI, dAnd, dOr, dNot, dAndV, dOrV, dNotV, dNeg, dSl, dNoP, dPart, dFld, dFldS, dRaise, dLst, dTup, dFor, dIter, dRng1, dRng2, dCall, dMake, dMeth, dIxO, dLc, dYes, dGTup, dGCons, dGNil, dDrop, dBreak, dBM, dDIn, dNever, dChain, dDGet, dDGet2, dDNew, dGSubD, dDStar,
  eqD_str, neD_str, eqD_int, neD_int, ixG_t0, ixG_t1, isiG_str, isi_int, isi_int_s, isi_int_t, isi_tup, isi_tup_s, isi_tup_i, isi_str_i, isi_str_t, lenG_tup, addD_int, mulD_int, intG, List.nil_append, bne_iff_ne, ofS_inj, Bool.false_bne, Bool.true_bne,
  List.map, List.length_cons, List.length_nil, List.cons_append, List.append_nil, List.replicate, List.set, List.getElem?_cons_zero, List.getElem?_cons_succ, Option.join_some, Option.bind_some, decide_eq_true_eq])
variable {K : PySem.W.Frag} {A : Adr}
theorem isi_none {M : Mp} {Q : DK} {n : String} (h : n ∈ ["bool", "int", "str", "tuple", "list", "dict"]) : isiG K [.non, .ty n] M Q = Q (.bl false) M := by
  simp only [List.mem_cons, List.not_mem_nil, or_false] at h
  rcases h with rfl | rfl | rfl | rfl | rfl | rfl <;> simp [isiG, tyName, isB]
theorem inG_tupS {hs : List Str} {x : Str} {n : Bool} {ds : List D} {M : Mp} {Q : DK} (hd : ds = hs.map D.str) : inG n (.str x) (.tup ds) M Q = Q (.bl (n != decide (x ∈ hs))) M := by
  subst hd
  unfold inG
  simp only [seqD, flat_strs, any_strs, flatD, true_and]
theorem r_is_outcome : ∀ ds M Q E, sp_is_outcome ds M Q E → t_is_outcome K A (ends Q E) (dstart N_is_outcome ds) M := by
  rintro ds M Q E ⟨i, rfl, k⟩
  unfold t_is_outcome N_is_outcome
  walk_at "dl"
  have k' := dropQ_of k (Sub.refl (M := M))
  unfold bit at k'
  by_cases c : 0 ≤ i
  · by_cases c2 : i ≤ 1
    · simp [c, c2]
      have : i = 0 ∨ i = 1 := by omega
      simpa [this] using k'
    · simp [c, c2]
      have : ¬ (i = 0 ∨ i = 1) := by omega
      simpa [this] using k'
  · simp [c]
    have : ¬ (i = 0 ∨ i = 1) := by omega
    simpa [this] using k'
theorem toDs_len : ∀ {ts : List Tr}, (toDs ts).length = ts.length := by
  intro ts; rw [toDs_map, List.length_map]
theorem outc {i : Int} {M : Mp} {Q : DK} {E : EK} (h : bit i) (k : Q (.bl true) M) : sp_is_outcome [.int i] M Q E := ⟨i, rfl, by simpa [h] using k⟩
theorem r_check_tree : ∀ ds M Q E, sp_check_tree ds M Q E → t_check_tree K A (ends Q E) (dstart N_check_tree ds) M := by
  rintro ds M Q E ⟨t, d, lv, rfl, w, hl, k⟩
  unfold t_check_tree N_check_tree
  cases t with
  | lf o =>
    simp only [Tr.toD]
    walk_at "dl"
    have e : (D.str "end" :: [D.str "node"]) = (["end", "node"] : List Str).map D.str := rfl
    simp [inG_tupS e]
    exact ⟨by rw [sizeLine_eq]; omega, o, rfl, by have h : bit o := w; simpa [h] using dropQ_of k (Sub.refl (M := M))⟩
  | nd s ts =>
    simp only [Tr.wf] at w
    rw [Tr.ht] at hl
    simp only [Tr.toD]
    walk_at "dl"
    have e : (D.str "end" :: [D.str "node"]) = (["end", "node"] : List Str).map D.str := rfl
    have l1 := toDs_len (ts := ts)
    have e1 : (1 : Nat) ≤ ts.length := w.2.1
    have c1 : (3 : Int) ≤ ((ts.length : Nat) : Int) + 1 + 1 := by omega
    have c2 : ((ts.length : Nat) : Int) + 1 + 1 ≤ 2 + 12 := by omega
    have c3 : ¬ (20 : Int) ≤ (lv : Nat) := by omega
    have c4 : ¬ (((ts.length : Nat) : Int) + 1 + 1 = 0) := by omega
    simp [inG_tupS e, l1]
    have sz : (2 : Nat) ≤ sizeLine := by rw [sizeLine_eq]; omega
    refine ⟨by omega, ?_⟩
    simp [c1, c2, c3, c4]
    exact ⟨sz, by omega, by omega, s, rfl, by have h : bit s := w.1; simpa [h] using dropQ_of k (Sub.refl (M := M))⟩
theorem r_entry_of : ∀ ds M Q E, sp_entry_of ds M Q E → t_entry_of K A (ends Q E) (dstart N_entry_of ds) M := by
  rintro ds M Q E ⟨c, W, E', ws, es, v, rfl, h1, h2, h3, k⟩
  unfold t_entry_of N_entry_of
  have k' := dropQ_of k (Sub.refl (M := M))
  cases c with
  | leaf l =>
    simp only [chD]
    walk_at "dl"
    simp
    rw [ixG_sq h2 h3]; exact k'
  | node n =>
    simp only [chD]
    walk_at "dl"
    simp
    rw [ixG_sq h1 h3]; exact k'
theorem r_law_at : ∀ ds M Q E, sp_law_at ds M Q E → t_law_at K A (ends Q E) (dstart N_law_at ds) M := by
  rintro ds M Q E ⟨c, W, E', ws, es, v, rfl, h1, h2, h3, k⟩
  unfold t_law_at N_law_at
  have k' := dropQ_of k (Sub.refl (M := M))
  cases c with
  | leaf l =>
    simp only [lchD]
    walk_at "dl"
    simp
    rw [ixG_sq h2 h3]; exact k'
  | node n =>
    simp only [lchD]
    walk_at "dl"
    simp
    rw [ixG_sq h1 h3]; exact k'
end K43

set_option maxHeartbeats 4000000
namespace K43
open PySem L2 DL DU
local macro_rules | `(tactic| walk_at "dl") => `(tactic| simp only [dSeq, dIfS, dB, dTru, truD, dOp, dVar, dC, dAsg, dAug, dCB, dCons, dNil, dRet, dRetN, dName, dGSub, dNext, ends, exOf, dstart, slot, oI0, oI, dAnd, dOr, dNot, dAndV, dOrV, dNotV, dNeg, dSl, dNoP, dPart, dFld, dFldS, dRaise, dLst, dTup, dFor, dIter, dRng1, dRng2, dCall, dMake, dMeth, dIxO, dLc, dYes, dGTup, dGCons, dGNil, dDrop, dBreak, dBM, dDIn, dNever, dChain, dDGet, dDGet2, dDNew, dGSubD, dDStar,
  eqD_str, neD_str, eqD_int, neD_int, ixG_t0, ixG_t1, isiG_str, isi_int, isi_int_s, isi_int_t, isi_tup, isi_tup_s, isi_tup_i, isi_str_i, isi_str_t, lenG_tup, addD_int, mulD_int, intG, List.nil_append, bne_iff_ne, ofS_inj, Bool.false_bne, Bool.true_bne,
  List.map, List.length_cons, List.length_nil, List.cons_append, List.append_nil, List.replicate, List.set, List.getElem?_cons_zero, List.getElem?_cons_succ, Option.join_some, Option.bind_some, decide_eq_true_eq])
variable {K : PySem.W.Frag} {A : Adr}
theorem cut2 {d e : D} {ds : List D} : cutD (d :: e :: ds) (some 2) none = ds := by
  have := cut_from (xs := d :: e :: ds) (i := 2) (by simp)
  simpa using this
theorem s2 : (2 : Nat) ≤ sizeLine := by rw [sizeLine_eq]; omega
theorem tup_put {M : Mp} {p : Addr} {xs : List D} {Q : DK} : tupG [.ref p] (put M p (.lst xs)) Q = Q (.tup xs) (put M p (.lst xs)) := by
  unfold tupG
  simp only [seqOf, put_same]
theorem wf_kid {s : Int} {ts : List Tr} {t : Tr} (w : (Tr.nd s ts).wf) (h : t ∈ ts) : t.wf := by
  rw [Tr.wf] at w
  exact wfL_mem.mp w.2.2.2 t h
theorem ht_kid {s : Int} {ts : List Tr} {t : Tr} {n : Nat} (w : (Tr.nd s ts).ht < n + 1) (h : t ∈ ts) : t.ht < n := by
  rw [Tr.ht] at w
  have := htL_mem h; omega
theorem len_kid {s : Int} {ts : List Tr} (w : (Tr.nd s ts).wf) : 1 ≤ ts.length ∧ ts.length ≤ 12 := by
  rw [Tr.wf] at w
  exact ⟨w.2.1, w.2.2.1⟩
theorem r_swapped_tree {n : Nat} : ∀ ds M Q E, sp_swapped_tree (n + 1) ds M Q E → t_swapped_tree K A n (ends Q E) (dstart N_swapped_tree ds) M := by
  rintro ds M Q E ⟨t, rfl, w, hh, k⟩
  have sz := s2
  unfold t_swapped_tree N_swapped_tree
  cases t with
  | lf o =>
    simp only [Tr.toD, Tr.sw] at k ⊢
    walk_at "dl"
    simp [slG, cut2, itemsOf, keepOf]
    refine ⟨sz, fun p hp => ?_⟩
    refine ⟨True.intro, ?_⟩
    simp only [tup_put]
    exact ⟨by simpa using sz, dropQ_of k (Sub.refl.put hp)⟩
  | nd s ts =>
    have hl := len_kid w
    simp only [Tr.toD, Tr.sw] at k ⊢
    walk_at "dl"
    simp [slG, cut2, itemsOf, keepOf]
    refine ⟨sz, fun p hp => ?_⟩
    refine dCL_map (xs := ts) Tr.toD (fun t => t.sw.toD) (toDs_map ts) (by omega) (fun _ => trivial) (fun t ht ys k' h => ?_) ?_
    · simp only [wipeD]
      walk_at "dl"
      exact ⟨t, rfl, wf_kid w ht, ht_kid hh ht, h⟩
    · rw [tup_put]
      refine ⟨by rw [sizeLine_eq]; simp; omega, ?_⟩
      rw [toDs_map, swL_map, List.map_map] at k
      exact dropQ_of k (Sub.refl.put hp)
theorem r_law_exchanged {n : Nat} : ∀ ds M Q E, sp_law_exchanged (n + 1) ds M Q E → t_law_exchanged K A n (ends Q E) (dstart N_law_exchanged ds) M := by
  rintro ds M Q E ⟨t, rfl, w, hh, k⟩
  have sz := s2
  unfold t_law_exchanged N_law_exchanged
  cases t with
  | lf o =>
    simp only [Tr.toD, Tr.sw] at k ⊢
    walk_at "dl"
    simp
    exact ⟨sz, dropQ_of k Sub.refl⟩
  | nd s ts =>
    have hl := len_kid w
    simp only [Tr.toD, Tr.sw] at k ⊢
    walk_at "dl"
    simp [slG, cut2, itemsOf, keepOf]
    refine ⟨sz, fun p hp => ?_⟩
    refine dCL_map (xs := ts) Tr.toD (fun t => t.sw.toD) (toDs_map ts) (by omega) (fun _ => trivial) (fun t ht ys k' h => ?_) ?_
    · simp only [wipeD]
      walk_at "dl"
      exact ⟨t, rfl, wf_kid w ht, ht_kid hh ht, h⟩
    · rw [tup_put]
      refine ⟨by rw [sizeLine_eq]; simp; omega, ?_⟩
      rw [toDs_map, swL_map, List.map_map] at k
      exact dropQ_of k (Sub.refl.put hp)
theorem reL_cons {es : List Int} {t : Tr} {ts : List Tr} {l : Nat} : reL es (t :: ts) l = t.re es l :: reL es ts (l + t.nl) := by rw [reL]
theorem reL_app {es : List Int} : ∀ (ts us : List Tr) (l : Nat), reL es (ts ++ us) l = reL es ts l ++ reL es us (l + nlL ts)
  | [], us, l => by simp [reL, nlL_nil]
  | t :: ts, us, l => by rw [List.cons_append, reL_cons, reL_app ts us, reL_cons, List.cons_append, nlL_cons, Nat.add_assoc]
theorem take_app {ts : List Tr} {i : Nat} {t : Tr} (h : ts[i]? = some t) : ts.take (i + 1) = ts.take i ++ [t] := by
  rw [List.take_succ, h]; rfl
theorem r_tree_with_ends {n : Nat} : ∀ ds M Q E, sp_tree_with_ends (n + 1) ds M Q E → t_tree_with_ends K A n (ends Q E) (dstart N_tree_with_ends ds) M := by
  rintro ds M Q E ⟨t, es, l, rfl, w, hh, hl, k⟩
  have sz := s2
  unfold t_tree_with_ends N_tree_with_ends
  cases t with
  | lf o =>
    rw [nl_lf] at hl k
    simp only [Tr.toD, Tr.re, intsD] at k ⊢
    walk_at "dl"
    have e : (es.map D.int)[l]? = some (.int (lv es l)) := by
      rw [List.getElem?_map, List.getElem?_eq_getElem (by omega)]
      unfold lv
      rw [List.getD_eq_getElem?_getD, List.getElem?_eq_getElem (by omega)]
      rfl
    simp
    rw [ixG_nat e]
    exact ⟨sz, by simpa using dropQ_of k Sub.refl⟩
  | nd s ts =>
    have lk := len_kid w
    rw [nl_nd] at hl k
    simp only [Tr.toD, Tr.re, intsD] at k ⊢
    walk_at "dl"
    simp [slG, cut2, itemsOf, keepOf]
    intro p hp
    refine dLoop_inv (fun i τ M' => M' = put M p (.lst ((reL es (ts.take i) l).map Tr.toD)) ∧ ∃ o o', τ = [some (.tup (.str "node" :: .int s :: toDs ts)), some (.tup (es.map D.int)), some (.int (l : Nat)), some (.ref p), some (.int ((l + nlL (ts.take i) : Nat) : Int)), o, o']) (fun _ _ _ _ _ => trivial) ?_ ?_ ⟨by simp [reL], none, none, by simp [nlL_nil]⟩
    · rintro i d τ M' nxt hd ⟨rfl, o, o', rfl⟩ hnx
      rw [toDs_map, List.getElem?_map] at hd
      cases e : ts[i]? with
      | none => rw [e] at hd; cases hd
      | some t =>
        rw [e] at hd
        have ed : d = t.toD := by simpa using hd.symm
        subst ed
        have ht := List.mem_of_getElem? e
        have e1 := take_app e
        have e2 : nlL (ts.take (i + 1)) ≤ nlL ts := by
          have := nlL_app (ts := ts.take (i + 1)) (us := ts.drop (i + 1))
          rw [List.take_append_drop] at this; omega
        have e3 : nlL (ts.take (i + 1)) = nlL (ts.take i) + t.nl := by rw [e1, nlL_app, nlL_cons, nlL_nil]; omega
        have e4 : (reL es (ts.take (i + 1)) l) = reL es (ts.take i) l ++ [t.re es (l + nlL (ts.take i))] := by rw [e1, reL_app, reL_cons, reL]
        walk_at "dl"
        refine ⟨t, es, l + nlL (ts.take i), rfl, wf_kid w ht, ht_kid hh ht, by omega, ?_⟩
        simp [appendM, put_same, put_put]
        refine ⟨by simp [metT, tyName, put_same], by rw [reL_len, sizeLine_eq]; simp; omega, hnx _ _ ⟨by rw [e4]; simp, some t.toD, some (t.re es (l + nlL (ts.take i))).toD, by simp [e3]; omega⟩⟩
    · rintro τ M' ⟨rfl, o, o', rfl⟩
      rw [toDs_map, List.length_map, List.take_length]
      walk_at "dl"
      simp
      have cz : cutD (.str "node" :: .int s :: (ts.map Tr.toD)) none (some 2) = [.str "node", .int s] := by
        have := cut_to (xs := .str "node" :: .int s :: (ts.map Tr.toD)) (i := 2)
        simpa using this
      simp [slG, cz, addD, tup_put]
      rw [toDs_map] at k
      refine ⟨by rw [reL_len, sizeLine_eq]; omega, sz, ?_⟩
      exact dropQ_of (by simpa using k) (Sub.refl.put hp)
end K43

set_option maxHeartbeats 4000000
namespace K43
open PySem L2 DL DU
local macro_rules | `(tactic| walk_at "dl") => `(tactic| simp only [dSeq, dIfS, dB, dTru, truD, dOp, dVar, dC, dAsg, dAug, dCB, dCons, dNil, dRet, dRetN, dName, dGSub, dNext, ends, exOf, dstart, slot, oI0, oI, dAnd, dOr, dNot, dAndV, dOrV, dNotV, dNeg, dSl, dNoP, dPart, dFld, dFldS, dRaise, dLst, dTup, dFor, dIter, dRng1, dRng2, dCall, dMake, dMeth, dIxO, dLc, dYes, dGTup, dGCons, dGNil, dDrop, dBreak, dBM, dDIn, dNever, dChain, dDGet, dDGet2, dDNew, dGSubD, dDStar,
  eqD_str, neD_str, eqD_int, neD_int, ixG_t0, ixG_t1, isiG_str, isi_int, isi_int_s, isi_int_t, isi_tup, isi_tup_s, isi_tup_i, isi_str_i, isi_str_t, lenG_tup, addD_int, mulD_int, intG, List.nil_append, bne_iff_ne, ofS_inj, Bool.false_bne, Bool.true_bne,
  List.map, List.length_cons, List.length_nil, List.cons_append, List.append_nil, List.replicate, List.set, List.getElem?_cons_zero, List.getElem?_cons_succ, Option.join_some, Option.bind_some, decide_eq_true_eq])
variable {K : PySem.W.Frag} {A : Adr}
theorem append_at {M : Mp} {p : Addr} {xs : List D} {y : D} {Q : DK} (h : M p = some (.lst xs)) : appendM (.ref p) [y] M Q = (xs.length < sizeLine ∧ Q .non (put M p (.lst (xs ++ [y])))) := by
  simp only [appendM, h]
theorem metT_list {M : Mp} {p : Addr} {xs : List D} (h : M p = some (.lst xs)) : metT "list" (.ref p) M = True := by simp [metT, h]
theorem kids_snoc {ts : List Tr} {i : Nat} {t : Tr} {n l : Nat} (h : ts[i]? = some t) : kidsL (ts.take (i + 1)) n l = kidsL (ts.take i) n l ++ t.kids (n + nnL (ts.take i)) (l + nlL (ts.take i)) := by
  rw [take_app h, kidsL_app, kidsL, kidsL, List.append_nil]
theorem roots_snoc {ts : List Tr} {i : Nat} {t : Tr} {n l : Nat} (h : ts[i]? = some t) : roots (ts.take (i + 1)) n l = roots (ts.take i) n l ++ [t.root (n + nnL (ts.take i)) (l + nlL (ts.take i))] := by
  rw [take_app h, roots_app, roots, roots]
theorem sides_snoc {ts : List Tr} {i : Nat} {t : Tr} (h : ts[i]? = some t) : sidesL (ts.take (i + 1)) = sidesL (ts.take i) ++ t.sides := by
  rw [take_app h, sidesL_app, sidesL, sidesL, List.append_nil]
theorem ends_snoc {ts : List Tr} {i : Nat} {t : Tr} (h : ts[i]? = some t) : endsL (ts.take (i + 1)) = endsL (ts.take i) ++ t.ends := by
  rw [take_app h, endsL_app, endsL, endsL, List.append_nil]
theorem nn_take {ts : List Tr} {i : Nat} : nnL (ts.take i) ≤ nnL ts := by
  have := nnL_app (ts := ts.take i) (us := ts.drop i)
  rw [List.take_append_drop] at this; omega
theorem nl_take {ts : List Tr} {i : Nat} : nlL (ts.take i) ≤ nlL ts := by
  have := nlL_app (ts := ts.take i) (us := ts.drop i)
  rw [List.take_append_drop] at this; omega
theorem nn_snoc {ts : List Tr} {i : Nat} {t : Tr} (h : ts[i]? = some t) : nnL (ts.take (i + 1)) = nnL (ts.take i) + t.nn := by unfold nnL Tr.nn; rw [sides_snoc h, List.length_append]
theorem nl_snoc {ts : List Tr} {i : Nat} {t : Tr} (h : ts[i]? = some t) : nlL (ts.take (i + 1)) = nlL (ts.take i) + t.nl := by unfold nlL Tr.nl; rw [ends_snoc h, List.length_append]
theorem toDs_at {ts : List Tr} {i : Nat} {d : D} (h : (toDs ts)[i]? = some d) : ∃ t, ts[i]? = some t ∧ d = t.toD := by
  rw [toDs_map, List.getElem?_map] at h
  cases e : ts[i]? with
  | none => rw [e] at h; cases h
  | some t => rw [e] at h; exact ⟨t, rfl, by simpa using h.symm⟩
theorem toDs_get {ts : List Tr} {i : Nat} {t : Tr} (h : ts[i]? = some t) : (toDs ts)[i]? = some t.toD := by rw [toDs_map, List.getElem?_map, h]; rfl
theorem noneOf {M M' : Mp} {S : Addr → Prop} {p : Addr} (e : Ext S M M') (n : ¬ S p) (h : M' p = none) : M p = none := by
  cases q : M p with
  | none => rfl
  | some o => rw [e p o n q] at h; cases h
set_option maxHeartbeats 2000000 in
theorem r_scan_tree {n : Nat} : ∀ ds M Q E, sp_scan_tree (n + 1) ds M Q E → t_scan_tree K A n (ends Q E) (dstart N_scan_tree ds) M := by
  rintro ds M Q E ⟨t, ps, lv, a, b, c, ss, xs, es, rfl, w, hh, hlv, hps, nab, nac, nbc, ha, hb, hc, hx, hn, hl, k⟩
  have sz := s2
  unfold t_scan_tree N_scan_tree
  simp only [dstart, List.map, List.length_cons, List.length_nil, List.replicate, List.cons_append, List.nil_append]
  refine seq_split (fun τ M' => M' = M ∧ τ = [some t.toD, some (.tup ps), some (.int (lv : Nat)), some (.tup [.ref a, .ref b, .ref c]), none, none, none, none, none, none]) ?_ ?_
  rotate_left
  · intro nx hnx
    walk_at "dl"
    exact ⟨t, .tup ps, lv, rfl, w, hlv, hnx _ _ ⟨rfl, rfl⟩⟩
  rintro τ M1 ⟨rfl, rfl⟩
  have sl : sizeLine = 16777216 := sizeLine_eq
  cases t with
  | lf o =>
    rw [nl_lf] at hl
    simp only [Tr.toD]
    walk_at "dl"
    simp only [decide_true, if_true, metT_list hc, append_at hc, List.length_map, true_and]
    refine ⟨by omega, ?_⟩
    rw [lenG_at put_same]
    walk_at "dl"
    refine ⟨by omega, ?_⟩
    refine dropQ_of (M := put M1 c (.lst (es.map D.int ++ [.int o]))) ?_ .refl
    have := k (put M1 c (.lst (es.map D.int ++ [.int o]))) (by rw [put_ne nac]; simpa [Tr.sides] using ha) (by rw [put_ne nbc]; simpa [Tr.kids] using hb) (by rw [put_same]; simp [Tr.ends]) (.set (.inr (.inr rfl)))
    simpa [Tr.root, chD] using this
  | nd s ts =>
    have lk := len_kid w
    have hnd : (Tr.nd s ts).nn = nnL ts + 1 := nn_nd
    have hnl : (Tr.nd s ts).nl = nlL ts := nl_nd
    have hhd : (Tr.nd s ts).ht = htL ts + 1 := by rw [Tr.ht]
    simp only [Tr.toD]
    have M2b : (put M1 a (.lst (ss.map D.int ++ [.int s]))) b = some (.lst xs) := by rw [put_ne nab.symm]; exact hb
    walk_at "dl"
    have en : ¬ (("node" : Str) = "end") := by decide
    simp only [en, decide_false, Bool.false_eq_true, if_false, lenG_at ha, metT_list ha, append_at ha, metT_list M2b, append_at M2b, List.length_map, true_and]
    refine ⟨by omega, by omega, by omega, ⟨by omega, by omega, by omega, by rw [toDs_len]; omega⟩, by rw [toDs_len]; omega, fun p hp => ?_⟩
    have pa : p ≠ a := by rintro rfl; rw [put_ne nab, put_same] at hp; cases hp
    have pb : p ≠ b := by rintro rfl; rw [put_same] at hp; cases hp
    have hp0 : M1 p = none := by rw [put_ne pb, put_ne pa] at hp; exact hp
    have pc : p ≠ c := by rintro rfl; rw [hc] at hp0; cases hp0
    have e0 : (((toDs ts).length + 1 + 1 : Nat) : Int) - 2 = ((ts.length : Nat) : Int) := by rw [toDs_len]; omega
    refine dCL_inv (fun i M' => M' a = some (.lst ((ss ++ s :: sidesL (ts.take i)).map D.int)) ∧ M' b = some (.lst (xs ++ .tup [] :: (kidsL (ts.take i) (ss.length + 1) es.length).map kidsD)) ∧ M' c = some (.lst ((es ++ endsL (ts.take i)).map D.int)) ∧ Ext (In3 a b c) M1 M' ∧ M' p = some (.lst ((roots (ts.take i) (ss.length + 1) es.length).map chD))) (fun _ _ _ _ => trivial) ?_ ?_ ?_
    · rintro i d M' nxt hd ⟨ia, ib, ic, ie, ip⟩ hnx
      obtain ⟨hi, rfl⟩ := rng_at hd
      have hi' : i < ts.length := by
        have := toDs_len (ts := ts); omega
      have e := List.getElem?_eq_getElem hi'
      have ht := List.mem_of_getElem? e
      have hk := nn_snoc e
      have hk2 := nl_snoc e
      have hk3 := nn_take (ts := ts) (i := i + 1)
      have hk4 := nl_take (ts := ts) (i := i + 1)
      have hh1 := htL_mem ht
      have q1 : (ss ++ s :: sidesL (ts.take i)).length = ss.length + 1 + nnL (ts.take i) := by simp [nnL]; omega
      have q2 : (es ++ endsL (ts.take i)).length = es.length + nlL (ts.take i) := by simp [nlL]
      simp only [wipeD]
      walk_at "dl"
      have g : (D.str "node" :: .int s :: toDs ts)[2 + i]? = some (ts[i]).toD := by
        rw [show 2 + i = (i + 1) + 1 by omega, List.getElem?_cons_succ, List.getElem?_cons_succ]; exact toDs_get e
      have g' : ((2 : Int) + ((i : Nat) : Int)) = ((2 + i : Nat) : Int) := by omega
      rw [g', ixG_nat g]
      simp only [addD, List.length_cons, List.length_nil]
      refine ⟨by omega, by omega, ts[i], ps ++ [.int ((2 + i : Nat) : Int)], lv + 1, a, b, c, ss ++ s :: sidesL (ts.take i), xs ++ .tup [] :: (kidsL (ts.take i) (ss.length + 1) es.length).map kidsD, es ++ endsL (ts.take i), by simp, wf_kid w ht, ht_kid hh ht, by omega, by simp; omega, nab, nac, nbc, ia, ib, ic, by simp [kidsL_len, nnL, hx], by omega, by omega, fun M2 ja jb jc je => ?_⟩
      have mp := je _ _ (by unfold In3; simp [pa, pb, pc]) ip
      simp only [mp, List.length_map, roots_len]
      refine ⟨by simp; omega, hnx _ ⟨?_, ?_, ?_, ?_, ?_⟩⟩
      · rw [put_ne pa.symm, ja, sides_snoc e]; simp
      · rw [put_ne pb.symm, jb, kids_snoc e, q1, q2]; simp
      · rw [put_ne pc.symm, jc, ends_snoc e]; simp
      · intro x o hx1 hx2
        have x1 : x ≠ p := by rintro rfl; rw [hp0] at hx2; cases hx2
        rw [put_ne x1]
        exact je _ _ hx1 (ie _ _ hx1 hx2)
      · rw [put_same, roots_snoc e, q1, q2]; simp
    · rintro M' ⟨ia, ib, ic, ie, ip⟩
      rw [len_rng, e0, Int.toNat_natCast, List.take_length] at ia ib ic ip
      simp only [tupG, seqOf_lst ip, ib]
      have e3 : ixN (xs ++ D.tup [] :: (kidsL ts (ss.length + 1) es.length).map kidsD).length ((ss.length : Nat) : Int) = some ss.length := by
        rw [ixN_in (by omega) (by simp; omega)]; simp
      simp only [e3]
      refine ⟨by omega, ?_⟩
      refine dropQ_of (M := put M' b (.lst (xs ++ kidsD (roots ts (ss.length + 1) es.length) :: (kidsL ts (ss.length + 1) es.length).map kidsD))) ?_ ?_
      · have := k (put M' b (.lst (xs ++ kidsD (roots ts (ss.length + 1) es.length) :: (kidsL ts (ss.length + 1) es.length).map kidsD))) (by rw [put_ne nab, ia]; simp [Tr.sides]) (by rw [put_same]; simp [Tr.kids]) (by rw [put_ne nbc.symm, ic]; simp [Tr.ends]) (ie.trans (.set (.inr (.inl rfl))))
        simpa [Tr.root, chD] using this
      · have : (xs ++ D.tup [] :: (kidsL ts (ss.length + 1) es.length).map kidsD).set ss.length (.tup ((roots ts (ss.length + 1) es.length).map chD)) = xs ++ kidsD (roots ts (ss.length + 1) es.length) :: (kidsL ts (ss.length + 1) es.length).map kidsD := by
          rw [List.set_append_right _ _ (by omega), hx, Nat.sub_self, List.set_cons_zero]; rfl
        rw [this]; exact .refl
    · refine ⟨?_, ?_, ?_, ?_, ?_⟩
      · rw [put_ne pa.symm, put_ne nab, put_same]; simp [sidesL]
      · rw [put_ne pb.symm, put_same]; simp [kidsL]
      · rw [put_ne pc.symm, put_ne nbc.symm, put_ne nac.symm, hc]; simp [endsL]
      · exact ((Ext.set (.inl rfl)).trans (.set (.inr (.inl rfl)))).trans (.lay hp)
      · rw [put_same]; simp [roots]
end K43

set_option maxHeartbeats 4000000
namespace K43
open PySem L2 DL DU
local macro_rules | `(tactic| walk_at "dl") => `(tactic| simp only [dSeq, dIfS, dB, dTru, truD, dOp, dVar, dC, dAsg, dAug, dCB, dCons, dNil, dRet, dRetN, dName, dGSub, dNext, ends, exOf, dstart, slot, oI0, oI, dAnd, dOr, dNot, dAndV, dOrV, dNotV, dNeg, dSl, dNoP, dPart, dFld, dFldS, dRaise, dLst, dTup, dFor, dIter, dRng1, dRng2, dCall, dMake, dMeth, dIxO, dLc, dYes, dGTup, dGCons, dGNil, dDrop, dBreak, dBM, dDIn, dNever, dChain, dDGet, dDGet2, dDNew, dGSubD, dDStar,
  eqD_str, neD_str, eqD_int, neD_int, ixG_t0, ixG_t1, isiG_str, isi_int, isi_int_s, isi_int_t, isi_tup, isi_tup_s, isi_tup_i, isi_str_i, isi_str_t, lenG_tup, addD_int, mulD_int, intG, List.nil_append, bne_iff_ne, ofS_inj, Bool.false_bne, Bool.true_bne,
  List.map, List.length_cons, List.length_nil, List.cons_append, List.append_nil, List.replicate, List.set, List.getElem?_cons_zero, List.getElem?_cons_succ, Option.join_some, Option.bind_some, decide_eq_true_eq])
variable {K : PySem.W.Frag} {A : Adr} {w : World} {mg : Str → Option Value}
theorem ixg {M : Mp} {k : Nat} {xs : List D} {d : D} {Q : DK} (h : xs[k]? = some d) : ixG (.tup xs) (.int ((k : Nat) : Int)) M Q = Q d M := ixG_nat h
theorem In3.new {S : Addr → Prop} {M M' : Mp} {a b c : Addr} {M0 : Mp} (ha : M0 a = none) (hb : M0 b = none) (hc : M0 c = none) (e : Ext (In3 a b c) M M') (s : Ext S M0 M) : Ext S M0 M' := fun x o n h => by
  refine e x o ?_ (s x o n h)
  rintro (rfl | rfl | rfl)
  · rw [ha] at h; cases h
  · rw [hb] at h; cases h
  · rw [hc] at h; cases h
set_option maxHeartbeats 2000000 in
theorem r_Duel_init (T : Txt w K mg A) : ∀ ds M Q E, sp_Duel_init A.Duel ds M Q E → t_Duel_init K A (ends Q E) (dstart N_Duel_init ds) M := by
  rintro ds M Q E ⟨x, t, rfl, hx, g, k⟩
  obtain ⟨w, hh, hn, hl⟩ := g
  unfold t_Duel_init N_Duel_init
  walk_at "dl"
  simp [-List.map]
  intro a ha b hb c hc
  have nab : a ≠ b := by rintro rfl; rw [put_same] at hb; cases hb
  have nac : a ≠ c := by rintro rfl; rw [put_ne nab, put_same] at hc; cases hc
  have nbc : b ≠ c := by rintro rfl; rw [put_same] at hc; cases hc
  have hb0 : M b = none := by rwa [put_ne nab.symm] at hb
  have hc0 : M c = none := by rwa [put_ne nbc.symm, put_ne nac.symm] at hc
  have xa : x ≠ a := by rintro rfl; rw [hx] at ha; cases ha
  have xb : x ≠ b := by rintro rfl; rw [hx] at hb0; cases hb0
  have xc : x ≠ c := by rintro rfl; rw [hx] at hc0; cases hc0
  have sl : sizeLine = 16777216 := sizeLine_eq
  refine ⟨by omega, t, [], 0, a, b, c, [], [], [], rfl, w, by omega, by omega, by simp; omega, nab, nac, nbc, ?_, ?_, put_same, rfl, by simp; omega, by simp; omega, fun M' ja jb jc je => ?_⟩
  · rw [put_ne nac, put_ne nab, put_same]; rfl
  · rw [put_ne nbc, put_same]
  have e0 : Ext (Is x) M M' := In3.new ha hb0 hc0 je ((Ext.lay ha).trans ((Ext.lay hb).trans (.lay hc)))
  have mx : M' x = some (.ins A.Duel []) := je _ _ (by unfold In3; simp [xa, xb, xc]) (by rw [put_ne xc, put_ne xb, put_ne xa]; exact hx)
  rw [List.nil_append] at ja jb jc
  have la : ∀ o Q, lenG [.ref a] (put M' x o) Q = Q (.int (t.nn : Nat)) (put M' x o) := fun o Q => by rw [lenG_at (by rw [put_ne xa.symm]; exact ja), List.length_map]; rfl
  have lc : ∀ o Q, lenG [.ref c] (put M' x o) Q = Q (.int (t.nl : Nat)) (put M' x o) := fun o Q => by rw [lenG_at (by rw [put_ne xc.symm]; exact jc), List.length_map]; rfl
  have ta : ∀ o Q, tupG [.ref a] (put M' x o) Q = Q (intsD t.sides) (put M' x o) := fun o Q => by unfold tupG; simp only [seqOf_lst (show (put M' x o) a = _ by rw [put_ne xa.symm]; exact ja)]; rfl
  have tb : ∀ o Q, tupG [.ref b] (put M' x o) Q = Q (.tup ((t.kids 0 0).map kidsD)) (put M' x o) := fun o Q => by unfold tupG; simp only [seqOf_lst (show (put M' x o) b = _ by rw [put_ne xb.symm]; exact jb)]; rfl
  have tc : ∀ o Q, tupG [.ref c] (put M' x o) Q = Q (intsD t.ends) (put M' x o) := fun o Q => by unfold tupG; simp only [seqOf_lst (show (put M' x o) c = _ by rw [put_ne xc.symm]; exact jc)]; rfl
  have c1 : ¬ (200 : Int) < (t.nn : Nat) := by omega
  have c2 : ¬ (200 : Int) < (t.nl : Nat) := by omega
  simp only [mx, la, lc, ta, tb, tc, put_same, put_put, if_neg c1, if_neg c2]
  refine ⟨T.d_Duel_root, by simp, T.d_Duel_tree, by simp [putFD], T.d_Duel_ends, ?_, T.d_Duel_sides, ?_, T.d_Duel_children, ?_, ?_⟩
  · simp [putFD, ofS_inj]
  · simp [putFD, ofS_inj]
  · simp [putFD, ofS_inj]
  · refine dropQ_of (k _ ?_ (e0.trans (.set rfl))) .refl
    unfold DuelAt
    rw [put_same]
    simp [putFD, duelF, ofS_inj]
theorem make_duel {M : Mp} {t : Tr} {Q : DK} {E : EK} {C : Addr} (g : good t) (k : ∀ x M', M x = none → DuelAt C M' x t → Sub M M' → Q (.ref x) M') : ∀ x, M x = none → sp_Duel_init C [.ref x, t.toD] (put M x (.ins C [])) (fun d M2 => d = .non ∧ Q (.ref x) M2) E :=
  fun x hx => ⟨x, t, rfl, put_same, g, fun M' d e => ⟨rfl, k x M' hx d fun a o h => e _ _ (fun z => by rw [z] at h; rw [hx] at h; cases h) (by
    rw [put_ne]; exact h
    rintro rfl; rw [hx] at h; cases h)⟩⟩
theorem all_put {M : Mp} {p : Addr} {bs : List Bool} {f : List Bool → Bool} {Q : DK} : allG f [.ref p] (put M p (.lst (bs.map D.bl))) Q = Q (.bl (f bs)) (put M p (.lst (bs.map D.bl))) := by
  unfold allG
  simp only [seqOf, put_same, Option.bind_some, blsOf_map]
theorem r_swapped (T : Txt w K mg A) : ∀ ds M Q E, sp_swapped A.Duel ds M Q E → t_swapped K A (ends Q E) (dstart N_swapped ds) M := by
  rintro ds M Q E ⟨a, t, rfl, d, g, k⟩
  unfold t_swapped N_swapped
  walk_at "dl"
  unfold DuelAt at d
  simp only [d]
  refine ⟨T.d_Duel_tree, t, rfl, g.1, by have := g.2.1; omega, ?_⟩
  exact make_duel (good_sw g) fun x M' h1 h2 h3 => dropQ_of (k x M' h1 h2 h3) .refl
theorem r_Duel_with_ends (T : Txt w K mg A) : ∀ ds M Q E, sp_Duel_with_ends A.Duel ds M Q E → t_Duel_with_ends K A (ends Q E) (dstart N_Duel_with_ends ds) M := by
  rintro ds M Q E ⟨a, t, es, rfl, d, g, hl, hb, k⟩
  unfold t_Duel_with_ends N_Duel_with_ends
  have d' := d
  unfold DuelAt at d'
  simp only [dstart, List.map, List.length_cons, List.length_nil, List.replicate, List.cons_append, List.nil_append]
  refine seq_split (fun τ M' => Sub M M' ∧ τ = [some (.ref a), some (intsD es), none]) ?_ ?_
  rotate_left
  · intro nx hnx
    walk_at "dl"
    simp only [d', duelF_ends, intsD, lenG_tup, List.length_map]
    refine ⟨T.d_Duel_ends, ?_⟩
    have c1 : (((es.length : Nat) : Int) = ((t.ends.length : Nat) : Int)) = True := eq_true (by rw [hl]; rfl)
    simp only [neD_int, c1, decide_true, bne_self_eq_false, Bool.false_eq_true, if_false, if_true, itemsOf, keepOf, Bool.not_true]
    intro p hp
    have hg := g.2.2.2
    refine dCL_map (xs := es) D.int (fun _ => D.bl true) rfl (by omega) (fun _ => trivial) (fun o ho ys k' h => ?_) ?_
    · simp only [wipeD]
      walk_at "dl"
      exact outc (hb o ho) h
    · have e2 : es.map (fun _ => D.bl true) = (es.map fun _ => true).map D.bl := by rw [List.map_map]; rfl
      have e3 : (es.map fun _ => true).all id = true := by simp
      simp only [e2, all_put, e3, Bool.not_true, Bool.false_eq_true, if_false]
      exact hnx _ _ ⟨Sub.refl.put hp, rfl⟩
  rintro τ M1 ⟨s, rfl⟩
  have d1 := s _ _ d'
  walk_at "dl"
  simp only [d1, duelF_tree]
  refine ⟨T.d_Duel_tree, t, es, 0, rfl, g.1, by have := g.2.1; omega, by omega, ?_⟩
  simp only [ixG_t0]
  have he : ∀ l, bit (lv es l) := lv_bit hb
  exact make_duel (good_re he g) fun x M' h1 h2 h3 => dropQ_of (k x M' (s.none h1) h2 (s.trans h3)) .refl
end K43

set_option maxHeartbeats 4000000
namespace DU
open PySem PySem.Spec L2 DL
/-! ### a list that is filled from the last place on -/
section
variable {α : Type} {f : α → D} {W : List α} {L E : List D}
def Filled (f : α → D) (W : List α) (k : Nat) (L : List D) : Prop := L.length = W.length ∧ ∀ m w, k ≤ m → W[m]? = some w → L[m]? = some (f w)
theorem fill_start (h : L.length = W.length) : Filled f W W.length L := ⟨h, fun m w h1 h2 => by have := (List.getElem?_eq_some_iff.mp h2).1; omega⟩
theorem fill_set {j : Nat} {w : α} (h : Filled f W (j + 1) L) (e : W[j]? = some w) : Filled f W j (L.set j (f w)) := ⟨by rw [List.length_set]; exact h.1, fun m v h1 h2 => by
  by_cases c : j = m
  · subst c
    rw [e] at h2; cases h2
    rw [List.getElem?_set_self]
    have := (List.getElem?_eq_some_iff.mp e).1
    have := h.1; omega
  · rw [List.getElem?_set_ne c]
    exact h.2 m v (by omega) h2⟩
theorem fill_all (h : Filled f W 0 L) : L = W.map f := by
  apply List.ext_getElem?
  intro m
  rw [List.getElem?_map]
  cases e : W[m]? with
  | none =>
    have := List.getElem?_eq_none_iff.mp e
    simpa using (by have := h.1; omega : L.length ≤ m)
  | some w => exact h.2 m w (by omega) e
def valC (E L : List D) (v : D) : Ch → Prop
  | .leaf l => E[l]? = some v
  | .node n => L[n]? = some v
theorem child_val {g : Nat → α} {d0 : α} {j nl : Nat} {c : Ch} (h : inR j W.length 0 nl c) (hL : Filled f W j L) (hE : ∀ l, l < nl → E[l]? = some (f (g l))) : valC E L (f (atC g (fun m => W.getD m d0) c)) c := by
  cases c with
  | leaf l => exact hE l h.2
  | node n =>
    have hn : n < W.length := h.2
    have := hL.2 n W[n] h.1 (List.getElem?_eq_getElem hn)
    simp only [valC, atC]
    rw [this]
    rw [List.getD_eq_getElem?_getD, List.getElem?_eq_getElem hn]; rfl
end
theorem flat_ints {vs : List Int} : (vs.map D.int).all flatD = true := by
  rw [List.all_eq_true]
  intro d h
  obtain ⟨v, _, rfl⟩ := List.mem_map.mp h
  rfl
theorem any_ints {vs : List Int} {x : Int} : ((vs.map D.int).any fun d => eqb d (.int x)) = decide (x ∈ vs) := by
  induction vs with
  | nil => rfl
  | cons v vs ih =>
    rw [List.map_cons, List.any_cons, ih]
    simp only [eqb, List.mem_cons]
    by_cases c : v = x
    · subst c; simp
    · have : ¬ x = v := fun z => c z.symm
      simp [c, this]
theorem any_none {vs : List Int} : ((vs.map D.int).any fun d => eqb d .non) = false := by
  induction vs with
  | nil => rfl
  | cons v vs ih => rw [List.map_cons, List.any_cons, ih]; rfl
theorem inG_ints {vs : List Int} {x : Int} {n : Bool} {p : Addr} {M : Mp} {Q : DK} (h : M p = some (.lst (vs.map D.int))) : inG n (.int x) (.ref p) M Q = Q (.bl (n != decide (x ∈ vs))) M := by
  unfold inG
  simp only [seqD, seqOf, h, flat_ints, any_ints, flatD, true_and]
theorem inG_intsN {vs : List Int} {n : Bool} {p : Addr} {M : Mp} {Q : DK} (h : M p = some (.lst (vs.map D.int))) : inG n .non (.ref p) M Q = Q (.bl (n != false)) M := by
  unfold inG
  simp only [seqD, seqOf, h, flat_ints, any_none, flatD, true_and]
theorem lv_at {es : List Int} {l : Nat} (h : l < es.length) : (es.map D.int)[l]? = some (.int (lv es l)) := by
  unfold lv
  rw [List.getElem?_map, List.getD_eq_getElem?_getD, List.getElem?_eq_getElem h]; rfl
theorem wins_len {es : List Int} {t : Tr} : (wins es t).length = t.nn := vals_len _ _ t 0 0
theorem wins_at {es : List Int} {t : Tr} {j : Nat} {s : Int} {ks : List Ch} (h1 : t.sides[j]? = some s) (h2 : (t.kids 0 0)[j]? = some ks) : (wins es t)[j]? = some (wrule j s (ks.map (atC (lv es) fun m => (wins es t).getD m 0))) := by
  have := node_val wrule (lv es) (W := fun m => (wins es t).getD m 0) t 0 0 (fun j x h => by
    show (wins es t).getD (0 + j) 0 = x
    rw [Nat.zero_add, List.getD_eq_getElem?_getD]
    rw [show wins es t = valsT wrule (lv es) t 0 0 from rfl, h]; rfl) j s ks h1 h2
  rw [Nat.zero_add] at this
  exact this
theorem root_win {es : List Int} {t : Tr} : atC (lv es) (fun m => (wins es t).getD m 0) (t.root 0 0) = win es t :=
  root_val wrule (lv es) t 0 0 fun j x h => by
    show (wins es t).getD (0 + j) 0 = x
    rw [Nat.zero_add, List.getD_eq_getElem?_getD]
    rw [show wins es t = valsT wrule (lv es) t 0 0 from rfl, h]; rfl
/-- the node at a place -/
theorem node_at {t : Tr} {j : Nat} (h : j < t.nn) : ∃ s ks, t.sides[j]? = some s ∧ (t.kids 0 0)[j]? = some ks ∧ ∀ c, c ∈ ks → inR (j + 1) t.nn 0 t.nl c := by
  have h1 : j < t.sides.length := h
  have h2 : j < (t.kids 0 0).length := by rw [kids_len]; exact h
  refine ⟨t.sides[j], (t.kids 0 0)[j], List.getElem?_eq_getElem h1, List.getElem?_eq_getElem h2, fun c hc => ?_⟩
  have := kids_in t 0 0 j _ (List.getElem?_eq_getElem h2) c hc
  simpa using this
mutual
theorem kids_small : ∀ (t : Tr) (n l : Nat), t.wf → ∀ ks, ks ∈ t.kids n l → 1 ≤ ks.length ∧ ks.length ≤ 12
  | .lf _, n, l, _, ks, h => by simp [Tr.kids] at h
  | .nd s ts, n, l, w, ks, h => by
    rw [Tr.wf] at w
    rw [Tr.kids, List.mem_cons] at h
    rcases h with rfl | h
    · rw [roots_len]; exact ⟨w.2.1, w.2.2.1⟩
    · exact kidsL_small ts _ _ w.2.2.2 ks h
theorem kidsL_small : ∀ (ts : List Tr) (n l : Nat), wfL ts → ∀ ks, ks ∈ kidsL ts n l → 1 ≤ ks.length ∧ ks.length ≤ 12
  | [], n, l, _, ks, h => by simp [kidsL] at h
  | t :: ts, n, l, w, ks, h => by
    rw [wfL] at w
    rw [kidsL, List.mem_append] at h
    rcases h with h | h
    · exact kids_small t _ _ w.1 ks h
    · exact kidsL_small ts _ _ w.2 ks h
end
end DU

set_option maxHeartbeats 4000000
namespace K43
open PySem L2 DL DU
local macro_rules | `(tactic| walk_at "dl") => `(tactic| simp only [dSeq, dIfS, dB, dTru, truD, dOp, dVar, dC, dAsg, dAug, dCB, dCons, dNil, dRet, dRetN, dName, dGSub, dNext, ends, exOf, dstart, slot, oI0, oI, dAnd, dOr, dNot, dAndV, dOrV, dNotV, dNeg, dSl, dNoP, dPart, dFld, dFldS, dRaise, dLst, dTup, dFor, dIter, dRng1, dRng2, dCall, dMake, dMeth, dIxO, dLc, dYes, dGTup, dGCons, dGNil, dDrop, dBreak, dBM, dDIn, dNever, dChain, dRngD, dZip, dRaiseI, dLstRg, dDGet, dDGet2, dDNew, dGSubD, dDStar,
  eqD_str, neD_str, eqD_int, neD_int, ixG_t0, ixG_t1, isiG_str, isi_int, isi_int_s, isi_int_t, isi_tup, isi_tup_s, isi_tup_i, isi_str_i, isi_str_t, lenG_tup, addD_int, mulD_int, intG, List.nil_append, bne_iff_ne, ofS_inj, Bool.false_bne, Bool.true_bne,
  List.map, List.length_cons, List.length_nil, List.cons_append, List.append_nil, List.replicate, List.set, List.getElem?_cons_zero, List.getElem?_cons_succ, Option.join_some, Option.bind_some, decide_eq_true_eq])
variable {K : PySem.W.Frag} {A : Adr} {w : World} {mg : Str → Option Value}
theorem ent {c : Ch} {W E : D} {ws es : List D} {v : D} {M : Mp} {Q : DK} {Ex : EK} (h : valC es ws v c) (h1 : sq W M = some ws) (h2 : sq E M = some es) (k : Q v M) : sp_entry_of [chD c, W, E] M Q Ex := ⟨c, W, E, ws, es, v, rfl, h1, h2, by cases c <;> exact h, k⟩
theorem lent {c : Ch} {W E : D} {ws es : List D} {v : D} {M : Mp} {Q : DK} {Ex : EK} (h : valC es ws v c) (h1 : sq W M = some ws) (h2 : sq E M = some es) (k : Q v M) : sp_law_at [lchD c, W, E] M Q Ex := ⟨c, W, E, ws, es, v, rfl, h1, h2, by cases c <;> exact h, k⟩
theorem sq_at {M : Mp} {p : Addr} {xs : List D} (h : M p = some (.lst xs)) : sq (.ref p) M = some xs := by unfold sq; exact seqOf_lst h
theorem sub_set {M0 M : Mp} {p : Addr} {o : MO} (s : Sub M0 M) (h : M0 p = none) : Sub M0 (put M p o) := s.put2 h
set_option maxHeartbeats 2000000 in
theorem r_winners_with (T : Txt w K mg A) : ∀ ds M Q E, sp_winners_with A.Duel ds M Q E → t_winners_with K A (ends Q E) (dstart N_winners_with ds) M := by
  rintro ds M Q E ⟨a, t, es, rfl, d, g, hl, hb, k⟩
  have hn := g.2.2.1
  have sl : sizeLine = 16777216 := sizeLine_eq
  have lsd : t.sides.length = t.nn := rfl
  unfold t_winners_with N_winners_with
  simp only [dstart, List.map, List.length_cons, List.length_nil, List.replicate, List.cons_append, List.nil_append]
  refine seq_split (fun τ M' => ∃ p, M p = none ∧ M' = put M p (.lst (t.sides.map fun _ => .non)) ∧ τ = [some (.ref a), some (intsD es), some (.ref p), none, none, none, none, none]) ?_ ?_
  rotate_left
  · intro nx hnx
    have d' := d
    unfold DuelAt at d'
    walk_at "dl"
    simp only [d', duelF_sides, intsD, itemsOf, keepOf]
    refine ⟨T.d_Duel_sides, fun p hp => ?_⟩
    refine dCL_map (xs := t.sides) D.int (fun _ => D.non) rfl (by omega) (fun _ => trivial) (fun o ho ys k' h => ?_) (hnx _ _ ⟨p, hp, rfl, rfl⟩)
    walk_at "dl"
    exact h
  rintro τ M1 ⟨p, hp, rfl, rfl⟩
  refine seq_split (fun τ M' => Sub M M' ∧ M' p = some (.lst ((wins es t).map D.int)) ∧ ∃ o3 o4 o5 o6 o7, τ = [some (.ref a), some (intsD es), some (.ref p), o3, o4, o5, o6, o7]) ?_ ?_
  rotate_left
  · intro nx hnx
    have pa : a ≠ p := by rintro rfl; rw [d] at hp; cases hp
    have d' : (put M p (.lst (t.sides.map fun _ => D.non))) a = some (.ins A.Duel (duelF t)) := by rw [put_ne pa]; exact d
    walk_at "dl"
    simp only [d', duelF_sides, intsD, lenG_tup, List.length_map, lsd]
    refine ⟨T.d_Duel_sides, trivial, ⟨by omega, by omega, by omega, by omega⟩, by omega, ?_⟩
    have e0 : ((((t.nn : Nat) : Int) - 1) - -1).toNat = t.nn := by omega
    rw [e0]
    refine dLoop_inv (fun i τ M' => Sub M M' ∧ (∃ L, M' p = some (.lst L) ∧ Filled D.int (wins es t) (t.nn - i) L) ∧ ∃ o3 o4 o5 o6 o7, τ = [some (.ref a), some (intsD es), some (.ref p), o3, o4, o5, o6, o7]) (fun _ _ _ _ _ => trivial) ?_ ?_ ⟨Sub.refl.put hp, ⟨_, put_same, by rw [Nat.sub_zero, ← wins_len (es := es)]; exact fill_start (by rw [wins_len, List.length_map]; rfl)⟩, none, none, none, none, none, rfl⟩
    · rintro i dd τ M' nxt hd ⟨s, ⟨L, hL, hf⟩, o3, o4, o5, o6, o7, rfl⟩ hnx'
      obtain ⟨hi, rfl⟩ := rng_at hd
      obtain ⟨j, hj⟩ : ∃ j, t.nn - i = j + 1 := ⟨t.nn - i - 1, by omega⟩
      have hj' : ((t.nn : Nat) : Int) - 1 - ((i : Nat) : Int) = ((j : Nat) : Int) := by omega
      rw [hj] at hf
      obtain ⟨sd, ks, n1, n2, n3⟩ := node_at (t := t) (j := j) (by omega)
      have hw := wins_at (es := es) n1 n2
      have d1 := s _ _ d
      have hks := kids_small t 0 0 g.1 ks (List.mem_of_getElem? n2)
      rw [hj']
      walk_at "dl"
      have i1 : (t.sides.map D.int)[j]? = some (.int sd) := by rw [List.getElem?_map, n1]; rfl
      have i2 : ((t.kids 0 0).map kidsD)[j]? = some (kidsD ks) := by rw [List.getElem?_map, n2]; rfl
      simp only [d1, duelF_sides, duelF_children, intsD, ixG_nat i1, ixG_nat i2, kidsD, itemsOf, keepOf]
      refine ⟨T.d_Duel_sides, T.d_Duel_children, fun q hq => ?_⟩
      have qp : p ≠ q := by rintro rfl; rw [hL] at hq; cases hq
      refine dCL_map (xs := ks) chD (fun c => D.int (atC (lv es) (fun m => (wins es t).getD m 0) c)) rfl (by omega) (fun _ => trivial) (fun c hc ys k' h => ?_) ?_
      · simp only [wipeD]
        walk_at "dl"
        refine ent (child_val (f := D.int) (by rw [wins_len]; exact n3 c hc) hf fun l hl2 => lv_at (by omega)) ?_ rfl h
        exact sq_at (by rw [put_ne qp]; exact hL)
      · have hq' : (put M' q (.lst (ks.map fun c => D.int (atC (lv es) (fun m => (wins es t).getD m 0) c)))) q = some (.lst ((ks.map (atC (lv es) fun m => (wins es t).getD m 0)).map D.int)) := by rw [put_same, List.map_map]; rfl
        have hL' : (put M' q (.lst (ks.map fun c => D.int (atC (lv es) (fun m => (wins es t).getD m 0) c)))) p = some (.lst L) := by rw [put_ne qp]; exact hL
        have ix : ixN L.length ((j : Nat) : Int) = some j := by
          rw [ixN_in (by omega) (by have := hf.1; rw [wins_len] at this; omega)]; simp
        have fin : ∀ (x : Int) τ', wrule j sd (ks.map (atC (lv es) fun m => (wins es t).getD m 0)) = x → (∃ o3 o4 o5 o6 o7, τ' = [some (.ref a), some (intsD es), some (.ref p), o3, o4, o5, o6, o7]) → nxt τ' (put (put M' q (.lst (ks.map fun c => D.int (atC (lv es) (fun m => (wins es t).getD m 0) c)))) p (.lst (L.set j (.int x)))) := fun x τ' hx hτ => hnx' _ _ ⟨sub_set (s.put hq) hp, ⟨_, put_same, by rw [show t.nn - (i + 1) = j by omega]; rw [hx] at hw; exact fill_set hf hw⟩, hτ⟩
        simp only [inG_ints hq', inG_intsN hq', hL', ix]
        by_cases c : sd ∈ ks.map (atC (lv es) fun m => (wins es t).getD m 0)
        · simp only [c, decide_true, Bool.false_bne, if_true]
          exact fin _ _ (by unfold wrule; rw [if_pos c]) ⟨_, _, _, _, _, rfl⟩
        · simp only [c, decide_false, Bool.false_bne, Bool.true_bne, Bool.false_eq_true, if_false, if_true, Bool.not_false]
          exact fin _ _ (by unfold wrule; rw [if_neg c]) ⟨_, _, _, _, _, rfl⟩
    · rintro τ M' ⟨s, ⟨L, hL, hf⟩, hτ⟩
      rw [len_rng, Nat.sub_self] at hf
      exact hnx _ _ ⟨s, by rw [hL, fill_all hf], hτ⟩
  rintro τ M2 ⟨s2, h2, o3, o4, o5, o6, o7, rfl⟩
  walk_at "dl"
  refine dropQ_of (k p hp) fun x o h => ?_
  by_cases c : x = p
  · subst c; rw [put_same] at h; rw [h2]; exact h
  · rw [put_ne c] at h; exact s2 _ _ h
end K43

set_option maxHeartbeats 4000000
namespace K43
open PySem L2 DL DU
local macro_rules | `(tactic| walk_at "dl") => `(tactic| simp only [dSeq, dIfS, dB, dTru, truD, dOp, dVar, dC, dAsg, dAug, dCB, dCons, dNil, dRet, dRetN, dName, dGSub, dNext, ends, exOf, dstart, slot, oI0, oI, dAnd, dOr, dNot, dAndV, dOrV, dNotV, dNeg, dSl, dNoP, dPart, dFld, dFldS, dRaise, dLst, dTup, dFor, dIter, dRng1, dRng2, dCall, dMake, dMeth, dIxO, dLc, dYes, dGTup, dGCons, dGNil, dDrop, dBreak, dBM, dDIn, dNever, dChain, dRngD, dZip, dRaiseI, dLstRg, dDGet, dDGet2, dDNew, dGSubD, dDStar,
  eqD_str, neD_str, eqD_int, neD_int, ixG_t0, ixG_t1, isiG_str, isi_int, isi_int_s, isi_int_t, isi_tup, isi_tup_s, isi_tup_i, isi_str_i, isi_str_t, lenG_tup, addD_int, mulD_int, intG, List.nil_append, bne_iff_ne, ofS_inj, Bool.false_bne, Bool.true_bne,
  List.map, List.length_cons, List.length_nil, List.cons_append, List.append_nil, List.replicate, List.set, List.getElem?_cons_zero, List.getElem?_cons_succ, Option.join_some, Option.bind_some, decide_eq_true_eq])
variable {K : PySem.W.Frag} {A : Adr} {w : World} {mg : Str → Option Value}
theorem ixg_at {M : Mp} {a : Addr} {xs : List D} {i : Nat} {v : D} {Q : DK} (h : M a = some (.lst xs)) (e : xs[i]? = some v) : ixG (.ref a) (.int ((i : Nat) : Int)) M Q = Q v M := ixG_sq (sq_at h) e
theorem ixg_at0 {M : Mp} {a : Addr} {x : D} {xs : List D} {Q : DK} (h : M a = some (.lst (x :: xs))) : ixG (.ref a) (.int 0) M Q = Q x M := ixg_at (i := 0) h rfl
theorem ixg_at1 {M : Mp} {a : Addr} {x y : D} {xs : List D} {Q : DK} (h : M a = some (.lst (x :: y :: xs))) : ixG (.ref a) (.int 1) M Q = Q y M := ixg_at (i := 1) h rfl
theorem bnd {M M' : Mp} {p : Addr} {o o' : MO} (s : Sub M M') (h : M' p = some o') : Sub (put M p o) M' ↔ o = o' ∨ False := by
  constructor
  · intro z
    have := z p o put_same
    rw [h] at this; exact .inl (by cases this; rfl)
  · rintro (rfl | f)
    · intro x u hx
      by_cases c : x = p
      · subst c; rw [put_same] at hx; rw [h]; exact hx
      · rw [put_ne c] at hx; exact s _ _ hx
    · exact f.elim
theorem put_sub {M M' : Mp} {p : Addr} {o : MO} (s : Sub M M') (h : M' p = some o) : Sub (put M p o) M' := (bnd s h).mpr (.inl rfl)
set_option maxHeartbeats 2000000 in
theorem r_law_winners : ∀ ds M Q E, sp_law_winners ds M Q E → t_law_winners K A (ends Q E) (dstart N_law_winners ds) M := by
  rintro ds M Q E ⟨a, b, t, es, rfl, na, hb, g, hl, hbt, k⟩
  have hn := g.2.2.1
  have sl : sizeLine = 16777216 := sizeLine_eq
  obtain ⟨rs, ha, lr, nd⟩ := na
  unfold t_law_winners N_law_winners
  simp only [dstart, List.map, List.length_cons, List.length_nil, List.replicate, List.cons_append, List.nil_append]
  refine seq_split (fun τ M' => ∃ p, M p = none ∧ M' = put M p (.lst (rs.map fun _ => .int 0)) ∧ τ = [some (.ref a), some (.ref b), some (.ref p), none, none, none, none, none, none]) ?_ ?_
  rotate_left
  · intro nx hnx
    walk_at "dl"
    simp only [itemsOf, keepOf, seqOf_lst ha]
    intro p hp
    have pa : a ≠ p := by rintro rfl; rw [ha] at hp; cases hp
    refine dCL_map (xs := rs) D.ref (fun _ => D.int 0) rfl (by omega) (fun ys => seqOf_lst (by rw [put_ne pa]; exact ha)) (fun o ho ys k' h => ?_) (hnx _ _ ⟨p, hp, rfl, rfl⟩)
    walk_at "dl"
    exact h
  rintro τ M1 ⟨p, hp, rfl, rfl⟩
  have pa : a ≠ p := by rintro rfl; rw [ha] at hp; cases hp
  refine seq_split (fun τ M' => Sub M M' ∧ M' p = some (.lst ((wins es t).map D.int)) ∧ ∃ o3 o4 o5 o6 o7 o8, τ = [some (.ref a), some (.ref b), some (.ref p), o3, o4, o5, o6, o7, o8]) ?_ ?_
  rotate_left
  · intro nx hnx
    walk_at "dl"
    rw [lenG_at (by rw [put_ne pa]; exact ha)]
    simp only [List.length_map]
    refine ⟨by omega, by omega, ?_⟩
    rw [lr, Int.toNat_natCast]
    refine dLoop_inv (fun i τ M' => Sub M M' ∧ (∃ L, M' p = some (.lst L) ∧ Filled D.int (wins es t) (t.nn - i) L) ∧ ∃ o3 o4 o5 o6 o7 o8, τ = [some (.ref a), some (.ref b), some (.ref p), o3, o4, o5, o6, o7, o8]) (fun _ _ _ _ _ => trivial) ?_ ?_ ⟨Sub.refl.put hp, ⟨_, put_same, by rw [Nat.sub_zero, ← wins_len (es := es)]; exact fill_start (by rw [wins_len, List.length_map, lr])⟩, none, none, none, none, none, none, rfl⟩
    · rintro i dd τ M' nxt hd ⟨s, ⟨L, hL, hf⟩, o3, o4, o5, o6, o7, o8, rfl⟩ hnx'
      obtain ⟨hi, rfl⟩ := rng_at hd
      obtain ⟨j, hj⟩ : ∃ j, t.nn - i = j + 1 := ⟨t.nn - i - 1, by omega⟩
      have hj' : ((t.nn : Nat) : Int) - 1 - ((i : Nat) : Int) = ((j : Nat) : Int) := by omega
      rw [hj] at hf
      obtain ⟨sd, ks, n1, n2, n3⟩ := node_at (t := t) (j := j) (by omega)
      have hw := wins_at (es := es) n1 n2
      obtain ⟨r, o, e1, e2, e3⟩ := nd j sd ks n1 n2
      rw [Nat.zero_add] at e1
      have ha1 := s _ _ ha
      have f1 := s _ _ e2
      have f2 := s _ _ e3
      have hb1 := s _ _ hb
      have hks := kids_small t 0 0 g.1 ks (List.mem_of_getElem? n2)
      have i1 : (rs.map D.ref)[j]? = some (.ref r) := by rw [List.getElem?_map, e1]; rfl
      refine seq_split (fun τ M'' => M' = M'' ∧ τ = [some (.ref a), some (.ref b), some (.ref p), some (.int (i : Nat)), some (.int ((j : Nat) : Int)), o5, o6, o7, o8]) ?_ ?_
      rotate_left
      · intro nx hnx2
        walk_at "dl"
        simp only [lenG_at ha1, List.length_map, lr, hj']
        exact hnx2 _ _ ⟨rfl, rfl⟩
      rintro τ M2 ⟨rfl, rfl⟩
      walk_at "dl"
      simp only [ixg_at ha1 i1, ixg_at0 f1, ixg_at1 f1, itemsOf, keepOf, seqOf_lst f2]
      intro q hq
      have qp : p ≠ q := by rintro rfl; rw [hL] at hq; cases hq
      have qo : o ≠ q := by rintro rfl; rw [f2] at hq; cases hq
      have qb : b ≠ q := by rintro rfl; rw [hb1] at hq; cases hq
      refine dCL_map (xs := ks) lchD (fun c => D.int (atC (lv es) (fun m => (wins es t).getD m 0) c)) rfl (by omega) (fun ys => seqOf_lst (by rw [put_ne qo]; exact f2)) (fun c hc ys k' h => ?_) ?_
      · simp only [wipeD]
        walk_at "dl"
        refine lent (child_val (f := D.int) (by rw [wins_len]; exact n3 c hc) hf fun l hl2 => lv_at (by omega)) ?_ ?_ h
        · exact sq_at (by rw [put_ne qp]; exact hL)
        · exact sq_at (by rw [put_ne qb]; exact hb1)
      · have hq' : ∀ u, (put (put M' q (.lst (ks.map fun c => D.int (atC (lv es) (fun m => (wins es t).getD m 0) c)))) p u) q = some (.lst ((ks.map (atC (lv es) fun m => (wins es t).getD m 0)).map D.int)) := fun u => by rw [put_ne qp.symm, put_same, List.map_map]; rfl
        have hL' : (put M' q (.lst (ks.map fun c => D.int (atC (lv es) (fun m => (wins es t).getD m 0) c)))) p = some (.lst L) := by rw [put_ne qp]; exact hL
        have ix : ixN L.length ((j : Nat) : Int) = some j := by
          rw [ixN_in (by omega) (by have := hf.1; rw [wins_len] at this; omega)]; simp
        have fin : ∀ (x : Int) τ', wrule j sd (ks.map (atC (lv es) fun m => (wins es t).getD m 0)) = x → (∃ o3 o4 o5 o6 o7 o8, τ' = [some (.ref a), some (.ref b), some (.ref p), o3, o4, o5, o6, o7, o8]) → nxt τ' (put (put M' q (.lst (ks.map fun c => D.int (atC (lv es) (fun m => (wins es t).getD m 0) c)))) p (.lst (L.set j (.int x)))) := fun x τ' hx hτ => hnx' _ _ ⟨sub_set (s.put hq) hp, ⟨_, put_same, by rw [show t.nn - (i + 1) = j by omega]; rw [hx] at hw; exact fill_set hf hw⟩, hτ⟩
        have ix2 : ∀ v, ixN (L.set j v).length ((j : Nat) : Int) = some j := fun v => by rw [List.length_set]; exact ix
        simp only [hL', ix, inG_ints (hq' _), put_same, ix2, put_put, List.set_set]
        by_cases c : sd ∈ ks.map (atC (lv es) fun m => (wins es t).getD m 0)
        · simp only [c, decide_true, Bool.false_bne, if_true]
          exact fin _ _ (by unfold wrule; rw [if_pos c]) ⟨_, _, _, _, _, _, rfl⟩
        · simp only [c, decide_false, Bool.false_bne, Bool.true_bne, Bool.false_eq_true, if_false, if_true, Bool.not_false]
          exact fin _ _ (by unfold wrule; rw [if_neg c]) ⟨_, _, _, _, _, _, rfl⟩
    · rintro τ M' ⟨s, ⟨L, hL, hf⟩, hτ⟩
      rw [len_rng, Nat.sub_self] at hf
      exact hnx _ _ ⟨s, by rw [hL, fill_all hf], hτ⟩
  rintro τ M2 ⟨s2, h2, o3, o4, o5, o6, o7, o8, rfl⟩
  walk_at "dl"
  exact dropQ_of (k p hp) (put_sub s2 h2)
theorem root_ent {t : Tr} {es : List Int} (hl : es.length = t.nl) : valC (es.map D.int) ((wins es t).map D.int) (.int (win es t)) (t.root 0 0) := by
  have h := root_in t 0 0
  rw [Nat.zero_add, Nat.zero_add] at h
  have := child_val (f := D.int) (g := lv es) (d0 := 0) (W := wins es t) (L := (wins es t).map D.int) (E := es.map D.int) (j := 0) (nl := t.nl) (by rw [wins_len]; exact h) ⟨by simp, fun m w _ e => by rw [List.getElem?_map, e]; rfl⟩ fun l hl2 => lv_at (by omega)
  rw [root_win] at this
  exact this
theorem r_winner (T : Txt w K mg A) : ∀ ds M Q E, sp_winner A.Duel ds M Q E → t_winner K A (ends Q E) (dstart N_winner ds) M := by
  rintro ds M Q E ⟨a, t, rfl, d, g, k⟩
  unfold t_winner N_winner
  have d' := d
  unfold DuelAt at d'
  walk_at "dl"
  simp only [d', duelF_root, duelF_ends]
  refine ⟨T.d_Duel_root, T.d_Duel_ends, a, t, t.ends, rfl, d, g, rfl, ends_bit g.1, fun p hp => ?_⟩
  have pa : a ≠ p := by rintro rfl; rw [d'] at hp; cases hp
  have d1 : (put M p (.lst ((wins t.ends t).map D.int))) a = some (.ins A.Duel (duelF t)) := by rw [put_ne pa]; exact d'
  simp only [d1, duelF_ends]
  exact ⟨T.d_Duel_ends, ent (root_ent rfl) (sq_at put_same) rfl (dropQ_of k (Sub.refl.put hp))⟩
end K43

set_option maxHeartbeats 4000000
namespace K43
open PySem L2 DL DU
local macro_rules | `(tactic| walk_at "dl") => `(tactic| simp only [dSeq, dIfS, dB, dTru, truD, dOp, dVar, dC, dAsg, dAug, dCB, dCons, dNil, dRet, dRetN, dName, dGSub, dNext, ends, exOf, dstart, slot, oI0, oI, dAnd, dOr, dNot, dAndV, dOrV, dNotV, dNeg, dSl, dNoP, dPart, dFld, dFldS, dRaise, dLst, dTup, dFor, dIter, dRng1, dRng2, dCall, dMake, dMeth, dIxO, dLc, dYes, dGTup, dGCons, dGNil, dDrop, dBreak, dBM, dDIn, dNever, dChain, dRngD, dZip, dRaiseI, dLstRg, dDGet, dDGet2, dDNew, dGSubD, dDStar,
  eqD_str, neD_str, eqD_int, neD_int, ixG_t0, ixG_t1, isiG_str, isi_int, isi_int_s, isi_int_t, isi_tup, isi_tup_s, isi_tup_i, isi_str_i, isi_str_t, lenG_tup, addD_int, mulD_int, intG, List.nil_append, bne_iff_ne, ofS_inj, Bool.false_bne, Bool.true_bne,
  List.map, List.length_cons, List.length_nil, List.cons_append, List.append_nil, List.replicate, List.set, List.getElem?_cons_zero, List.getElem?_cons_succ, Option.join_some, Option.bind_some, decide_eq_true_eq])
variable {K : PySem.W.Frag} {A : Adr} {w : World} {mg : Str → Option Value}
theorem idx_spec {oc : Int} : ∀ {vs : List Int}, oc ∈ vs → vs[vs.idxOf oc]? = some oc ∧ ∀ m z, m < vs.idxOf oc → vs[m]? = some z → z ≠ oc
  | [], h => by simp at h
  | v :: vs, h => by
    by_cases c : v = oc
    · subst c
      rw [List.idxOf_cons_self]
      exact ⟨rfl, fun m z hm => by omega⟩
    · have ec : (v :: vs).idxOf oc = vs.idxOf oc + 1 := by
        have : (v == oc) = false := by simpa using c
        rw [List.idxOf_cons, this]; rfl
      rw [ec]
      have h' : oc ∈ vs := by
        rcases List.mem_cons.mp h with z | z
        · exact (c z.symm).elim
        · exact z
      obtain ⟨a, b⟩ := idx_spec h'
      refine ⟨by rw [List.getElem?_cons_succ]; exact a, fun m z hm hz => ?_⟩
      cases m with
      | zero => simp at hz; rw [← hz]; exact c
      | succ m => exact b m z (by omega) (by rwa [List.getElem?_cons_succ] at hz)
theorem index_ints {vs : List Int} {oc : Int} {q : Addr} {M : Mp} {Q : DK} (h : M q = some (.lst (vs.map D.int))) (hm : oc ∈ vs) (k : Q (.int ((vs.idxOf oc : Nat) : Int)) M) : indexM (.ref q) [.int oc] M Q := by
  obtain ⟨a, b⟩ := idx_spec hm
  unfold indexM
  simp only [indexM.seqOf', seqOf_lst h]
  refine ⟨rfl, flat_ints, vs.idxOf oc, .int oc, by rw [List.getElem?_map, a]; rfl, by simp [eqb], fun m z hm hz => ?_, k⟩
  rw [List.getElem?_map] at hz
  cases e : vs[m]? with
  | none => rw [e] at hz; cases hz
  | some y =>
    rw [e] at hz
    have : z = .int y := by simpa using hz.symm
    subst this
    simpa [eqb] using b m y hm e
theorem plan_at {es : List Int} {t : Tr} {oc : Int} {j : Nat} {s : Int} {ks : List Ch} (h1 : t.sides[j]? = some s) (h2 : (t.kids 0 0)[j]? = some ks) : (planT oc (lv es) t)[j]? = some (prule oc j s (ks.map (atC (lv es) fun m => (wins es t).getD m 0))) := by
  have := node_map (prule oc) wrule (lv es) (W := fun m => (wins es t).getD m 0) t 0 0 (fun j x h => by
    show (wins es t).getD (0 + j) 0 = x
    rw [Nat.zero_add, List.getD_eq_getElem?_getD]
    rw [show wins es t = valsT wrule (lv es) t 0 0 from rfl, h]; rfl) j s ks h1 h2
  rw [Nat.zero_add] at this
  exact this
theorem plan_len {es : List Int} {t : Tr} {oc : Int} : (planT oc (lv es) t).length = t.nn := mapN_len _ _ _ t 0 0
theorem take_snoc {α : Type} {xs : List α} {i : Nat} {x : α} (h : xs[i]? = some x) : xs.take (i + 1) = xs.take i ++ [x] := by
  rw [List.take_succ, h]; rfl
set_option maxHeartbeats 2000000 in
theorem r_winning_plan (T : Txt w K mg A) : ∀ ds M Q E, sp_winning_plan A.Duel ds M Q E → t_winning_plan K A (ends Q E) (dstart N_winning_plan ds) M := by
  rintro ds M Q E ⟨a, t, rfl, d, g, k⟩
  have hn := g.2.2.1
  have sl : sizeLine = 16777216 := sizeLine_eq
  have lsd : t.sides.length = t.nn := rfl
  have d' := d
  unfold DuelAt at d'
  unfold t_winning_plan N_winning_plan
  simp only [dstart, List.map, List.length_cons, List.length_nil, List.replicate, List.cons_append, List.nil_append]
  refine seq_split (fun τ M' => ∃ p, M p = none ∧ M' = put M p (.lst ((wins t.ends t).map D.int)) ∧ τ = [some (.ref a), some (.ref p), none, none, none, none, none, none]) ?_ ?_
  rotate_left
  · intro nx hnx
    walk_at "dl"
    simp only [d', duelF_ends]
    exact ⟨T.d_Duel_ends, a, t, t.ends, rfl, d, g, rfl, ends_bit g.1, fun p hp => hnx _ _ ⟨p, hp, rfl, rfl⟩⟩
  rintro τ M1 ⟨p, hp, rfl, rfl⟩
  have pa : a ≠ p := by rintro rfl; rw [d'] at hp; cases hp
  have s1 : Sub M (put M p (.lst ((wins t.ends t).map D.int))) := Sub.refl.put hp
  have w1 : (put M p (.lst ((wins t.ends t).map D.int))) p = some (.lst ((wins t.ends t).map D.int)) := put_same
  generalize put M p (.lst ((wins t.ends t).map D.int)) = M1 at s1 w1
  have d1 := s1 _ _ d'
  refine seq_split (fun τ M' => M1 = M' ∧ τ = [some (.ref a), some (.ref p), some (.int (win t.ends t)), none, none, none, none, none]) ?_ ?_
  rotate_left
  · intro nx hnx
    walk_at "dl"
    simp only [d1, duelF_ends, duelF_root]
    exact ⟨T.d_Duel_root, T.d_Duel_ends, ent (root_ent rfl) (sq_at w1) rfl (hnx _ _ ⟨rfl, rfl⟩)⟩
  rintro τ M2 ⟨rfl, rfl⟩
  refine seq_split (fun τ M' => ∃ q, M1 q = none ∧ M' = put M1 q (.lst []) ∧ τ = [some (.ref a), some (.ref p), some (.int (win t.ends t)), some (.ref q), none, none, none, none]) ?_ ?_
  rotate_left
  · intro nx hnx
    walk_at "dl"
    refine ⟨by omega, fun q hq => ?_⟩
    exact hnx _ _ ⟨q, hq, rfl, rfl⟩
  rintro τ M3 ⟨q, hq, rfl, rfl⟩
  have hP := plan_len (es := t.ends) (t := t) (oc := win t.ends t)
  generalize eP : planT (win t.ends t) (lv t.ends) t = P at k hP
  refine seq_split (fun τ M' => Sub M1 M' ∧ M' q = some (.lst (P.map plD)) ∧ ∃ o4 o5 o6 o7, τ = [some (.ref a), some (.ref p), some (.int (win t.ends t)), some (.ref q), o4, o5, o6, o7]) ?_ ?_
  rotate_left
  · intro nx hnx
    have qa : a ≠ q := by rintro rfl; rw [d1] at hq; cases hq
    have d2 : (put M1 q (.lst [])) a = some (.ins A.Duel (duelF t)) := by rw [put_ne qa]; exact d1
    walk_at "dl"
    simp only [d2, duelF_sides, duelF_children, intsD]
    refine ⟨T.d_Duel_sides, T.d_Duel_children, by rw [List.length_map]; omega, ?_⟩
    have hz : (pairsD (t.sides.map D.int) ((t.kids 0 0).map kidsD)).length = t.nn := by rw [pairsD_len, List.length_map, List.length_map, kids_len]; omega
    refine dLoop_inv (fun i τ M' => Sub M1 M' ∧ M' q = some (.lst ((P.take i).map plD)) ∧ ∃ o4 o5 o6 o7, τ = [some (.ref a), some (.ref p), some (.int (win t.ends t)), some (.ref q), o4, o5, o6, o7]) (fun _ _ _ _ _ => trivial) ?_ ?_ ⟨Sub.refl.put hq, by rw [put_same]; simp, none, none, none, none, rfl⟩
    · rintro j dd τ M' nxt hd ⟨s, hL, o4, o5, o6, o7, rfl⟩ hnx'
      have hj : j < t.nn := by have := (List.getElem?_eq_some_iff.mp hd).1; omega
      obtain ⟨sd, ks, n1, n2, n3⟩ := node_at hj
      obtain ⟨x, y, x1, y1, rfl⟩ := pairsD_at hd
      have ex : x = .int sd := by rw [List.getElem?_map, n1] at x1; simpa using x1.symm
      have ey : y = kidsD ks := by rw [List.getElem?_map, n2] at y1; simpa using y1.symm
      subst ex; subst ey
      have hpl := plan_at (es := t.ends) (oc := win t.ends t) n1 n2
      rw [eP] at hpl
      have hks := kids_small t 0 0 g.1 ks (List.mem_of_getElem? n2)
      have d3 := s _ _ d1
      have w3 := s _ _ w1
      have e1 := take_snoc hpl
      walk_at "dl"
      simp only [kidsD, itemsOf, keepOf]
      refine ⟨trivial, fun b hb => ?_⟩
      have bq : q ≠ b := by rintro rfl; rw [hL] at hb; cases hb
      have bp : p ≠ b := by rintro rfl; rw [w3] at hb; cases hb
      have ba : a ≠ b := by rintro rfl; rw [d3] at hb; cases hb
      refine dCL_map (xs := ks) chD (fun c => D.int (atC (lv t.ends) (fun m => (wins t.ends t).getD m 0) c)) rfl (by omega) (fun _ => trivial) (fun c hc ys k' h => ?_) ?_
      · simp only [wipeD]
        walk_at "dl"
        have d4 : (put M' b (.lst ys)) a = some (.ins A.Duel (duelF t)) := by rw [put_ne ba]; exact d3
        simp only [d4, duelF_ends]
        refine ⟨T.d_Duel_ends, ent (child_val (f := D.int) (L := (wins t.ends t).map D.int) (j := j + 1) (by rw [wins_len]; exact n3 c hc) ⟨by simp, fun m w _ e => by rw [List.getElem?_map, e]; rfl⟩ fun l hl2 => lv_at hl2) (sq_at (by rw [put_ne bp]; exact w3)) rfl h⟩
      · have hb' : (put M' b (.lst (ks.map fun c => D.int (atC (lv t.ends) (fun m => (wins t.ends t).getD m 0) c)))) b = some (.lst ((ks.map (atC (lv t.ends) fun m => (wins t.ends t).getD m 0)).map D.int)) := by rw [put_same, List.map_map]; rfl
        have hL' : (put M' b (.lst (ks.map fun c => D.int (atC (lv t.ends) (fun m => (wins t.ends t).getD m 0) c)))) q = some (.lst ((P.take j).map plD)) := by rw [put_ne bq]; exact hL
        have s' := s.put hb (o := .lst (ks.map fun c => D.int (atC (lv t.ends) (fun m => (wins t.ends t).getD m 0) c)))
        generalize put M' b (.lst (ks.map fun c => D.int (atC (lv t.ends) (fun m => (wins t.ends t).getD m 0) c))) = M4 at hb' hL' s'
        generalize (ks.map (atC (lv t.ends) fun m => (wins t.ends t).getD m 0)) = vs at *
        have fin : ∀ (x : Option Int) τ', prule (win t.ends t) j sd vs = x → (∃ o4 o5 o6 o7, τ' = [some (.ref a), some (.ref p), some (.int (win t.ends t)), some (.ref q), o4, o5, o6, o7]) → nxt τ' (put M4 q (.lst ((P.take j).map plD ++ [plD x]))) := fun x τ' hx hτ => hnx' _ _ ⟨sub_set s' hq, by rw [put_same, e1, hx]; simp, hτ⟩
        have lt : ((P.take j).map plD).length < sizeLine := by rw [List.length_map, List.length_take]; omega
        simp only [metT_list hL', metT_list hb', append_at hL', lt, inG_ints hb', true_and]
        by_cases c : sd = win t.ends t
        · by_cases c2 : win t.ends t ∈ vs
          · simp only [c, c2, decide_true, bne_self_eq_false, Bool.false_eq_true, if_false, Bool.false_bne, if_true, Bool.true_bne, Bool.not_true]
            refine index_ints hb' c2 ?_
            simp only [append_at hL', lt, true_and]
            exact fin (some _) _ (by unfold prule; rw [if_neg (by simpa using c), if_pos c2]) ⟨_, _, _, _, rfl⟩
          · simp only [c, c2, decide_true, decide_false, bne_self_eq_false, Bool.false_eq_true, if_false, Bool.false_bne, if_true, Bool.true_bne, Bool.not_true]
            exact fin (some 0) _ (by unfold prule; rw [if_neg (by simpa using c), if_neg c2]) ⟨_, _, _, _, rfl⟩
        · simp only [c, decide_false, Bool.true_bne, Bool.not_false, if_true]
          exact fin none _ (by unfold prule; rw [if_pos c]) ⟨_, _, _, _, rfl⟩
    · rintro τ M' ⟨s, hL, hτ⟩
      rw [hz, List.take_of_length_le (by omega)] at hL
      exact hnx _ _ ⟨s, hL, hτ⟩
  rintro τ M4 ⟨s4, h4, o4, o5, o6, o7, rfl⟩
  walk_at "dl"
  simp only [tupG, seqOf_lst h4]
  exact dropQ_of k (s1.trans s4)
end K43

set_option maxHeartbeats 4000000
namespace K43
open PySem L2 DL DU
local macro_rules | `(tactic| walk_at "dl") => `(tactic| simp only [dSeq, dIfS, dB, dTru, truD, dOp, dVar, dC, dAsg, dAug, dCB, dCons, dNil, dRet, dRetN, dName, dGSub, dNext, ends, exOf, dstart, slot, oI0, oI, dAnd, dOr, dNot, dAndV, dOrV, dNotV, dNeg, dSl, dNoP, dPart, dFld, dFldS, dRaise, dLst, dTup, dFor, dIter, dRng1, dRng2, dCall, dMake, dMeth, dIxO, dLc, dYes, dGTup, dGCons, dGNil, dDrop, dBreak, dBM, dDIn, dNever, dChain, dRngD, dZip, dRaiseI, dLstRg, dDGet, dDGet2, dDNew, dGSubD, dDStar,
  eqD_str, neD_str, eqD_int, neD_int, ixG_t0, ixG_t1, isiG_str, isi_int, isi_int_s, isi_int_t, isi_tup, isi_tup_s, isi_tup_i, isi_str_i, isi_str_t, lenG_tup, addD_int, mulD_int, intG, List.nil_append, bne_iff_ne, ofS_inj, Bool.false_bne, Bool.true_bne,
  List.map, List.length_cons, List.length_nil, List.cons_append, List.append_nil, List.replicate, List.set, List.getElem?_cons_zero, List.getElem?_cons_succ, Option.join_some, Option.bind_some, decide_eq_true_eq])
variable {K : PySem.W.Frag} {A : Adr} {w : World} {mg : Str → Option Value}
theorem ar_at {t : Tr} {i : Nat} {ks : List Ch} (h : (t.kids 0 0)[i]? = some ks) : (ar t)[i]? = some ks.length := by unfold ar; rw [List.getElem?_map, h]; rfl
set_option maxHeartbeats 2000000 in
theorem r_require_plan (T : Txt w K mg A) : ∀ ds M Q E, sp_require_plan A ds M Q E → t_require_plan K A (ends Q E) (dstart N_require_plan ds) M := by
  rintro ds M Q E ⟨a, t, p, rfl, d, g, hp, k, hB⟩
  have hn := g.2.2.1
  have lsd : t.sides.length = t.nn := rfl
  have d' := d
  unfold DuelAt at d'
  unfold t_require_plan N_require_plan
  unfold planD
  walk_at "dl"
  simp only [d', duelF_sides, intsD, lenG_tup, List.length_map, lsd, mmG]
  have em : (if ((t.nn : Nat) : Int) > ((p.length : Nat) : Int) then ((t.nn : Nat) : Int) else ((p.length : Nat) : Int)) = ((max p.length t.nn : Nat) : Int) := by split <;> omega
  rw [em, Int.toNat_natCast]
  refine ⟨T.d_Duel_sides, by omega, by omega, ?_⟩
  refine dLoop_inv (fun i τ M' => M = M' ∧ (∀ j, j < i → okAt p (ar t) j) ∧ ∃ o2 o3, τ = [some (.ref a), some (.tup (p.map plD)), o2, o3]) (fun _ _ _ _ _ => trivial) ?_ ?_ ⟨rfl, fun j h => by omega, none, none, rfl⟩
  · rintro i dd τ M' nxt hd ⟨rfl, ho, o2, o3, rfl⟩ hnx
    obtain ⟨hi, rfl⟩ := rng_at hd
    have bad : ¬ okAt p (ar t) i → ∀ dd, M dd = none → dropE E ⟨.ref A.InvalidPlan, some dd, [("index", .int ((i : Nat) : Int))]⟩ M := fun h dd hdd => dropE_of (hB i ⟨hi, ho, h⟩ dd hdd) .refl
    have good' : okAt p (ar t) i → ∀ o, nxt [some (.ref a), some (.tup (p.map plD)), some (.int (i : Nat)), o] M := fun h o => hnx _ _ ⟨rfl, fun j hj => by
      by_cases c : j = i
      · subst c; exact h
      · exact ho j (by omega), _, _, rfl⟩
    walk_at "dl"
    simp only [d', duelF_sides, duelF_children, intsD, lenG_tup, List.length_map, lsd]
    by_cases c1 : i < p.length
    · have e1 : ¬ ((p.length : Nat) : Int) ≤ (i : Nat) := by omega
      simp only [e1, decide_false, Bool.false_eq_true, if_false]
      refine ⟨T.d_Duel_sides, ?_⟩
      by_cases c2 : i < t.nn
      · have e2 : ¬ ((t.nn : Nat) : Int) ≤ (i : Nat) := by omega
        obtain ⟨sd, ks, n1, n2, n3⟩ := node_at c2
        have i1 : (p.map plD)[i]? = some (plD p[i]) := by rw [List.getElem?_map, List.getElem?_eq_getElem c1]; rfl
        have i2 : ((t.kids 0 0).map kidsD)[i]? = some (kidsD ks) := by rw [List.getElem?_map, n2]; rfl
        simp only [e2, decide_false, Bool.false_eq_true, if_false, ixG_nat i1]
        cases e : p[i] with
        | none =>
          have hk : okAt p (ar t) i := ⟨none, ks.length, by rw [List.getElem?_eq_getElem c1, e], ar_at n2, fun o h => by cases h⟩
          simp only [plD, isG, isNone, Bool.true_bne, Bool.not_true, Bool.false_eq_true, if_false]
          exact good' hk _
        | some o =>
          simp only [plD, isG, isNone, Bool.true_bne, Bool.not_false, if_true]
          by_cases c3 : 0 ≤ o
          · simp only [c3, decide_true, if_true, d', duelF_children, ixG_nat i2, kidsD, lenG_tup, List.length_map]
            refine ⟨T.d_Duel_children, ?_⟩
            by_cases c4 : o < ((ks.length : Nat) : Int)
            · have hk : okAt p (ar t) i := ⟨some o, ks.length, by rw [List.getElem?_eq_getElem c1, e], ar_at n2, fun o' h => by cases h; exact ⟨c3, c4⟩⟩
              simp only [c4, decide_true, Bool.not_true, Bool.false_eq_true, if_false]
              exact good' hk _
            · simp only [c4, decide_false, Bool.not_false, if_true]
              refine ⟨trivial, bad ?_⟩
              rintro ⟨e', k', q1, q2, q3⟩
              rw [List.getElem?_eq_getElem c1, e] at q1
              rw [ar_at n2] at q2
              cases q1; cases q2
              exact c4 (q3 o rfl).2
          · simp only [c3, decide_false, Bool.false_eq_true, if_false, Bool.not_false, if_true]
            refine ⟨trivial, bad ?_⟩
            rintro ⟨e', k', q1, q2, q3⟩
            rw [List.getElem?_eq_getElem c1, e] at q1
            cases q1
            exact c3 (q3 o rfl).1
      · have e2 : ((t.nn : Nat) : Int) ≤ (i : Nat) := by omega
        simp only [e2, decide_true, if_true]
        refine ⟨trivial, bad ?_⟩
        rintro ⟨e', k', q1, q2, q3⟩
        have := (List.getElem?_eq_some_iff.mp q2).1
        rw [ar_len] at this
        exact c2 this
    · have e1 : ((p.length : Nat) : Int) ≤ (i : Nat) := by omega
      simp only [e1, decide_true, if_true]
      refine ⟨trivial, bad ?_⟩
      rintro ⟨e', k', q1, q2, q3⟩
      exact c1 (List.getElem?_eq_some_iff.mp q1).1
  · rintro τ M' ⟨rfl, ho, o2, o3, rfl⟩
    rw [len_rng] at ho
    refine dropQ_of (k ⟨?_, fun i hi => ho i (by omega)⟩) .refl
    by_cases c : p.length = t.nn
    · exact c
    · exfalso
      by_cases c2 : p.length < t.nn
      · obtain ⟨e', k', q1, q2, q3⟩ := ho p.length (by omega)
        have := (List.getElem?_eq_some_iff.mp q1).1; omega
      · obtain ⟨e', k', q1, q2, q3⟩ := ho t.nn (by omega)
        have := (List.getElem?_eq_some_iff.mp q2).1
        rw [ar_len] at this; omega
theorem exch {f : Nat → Prop} : True := trivial
def kept (p : Pl) (goal : Int) (t : Tr) : List Bool := valsT (irule p) (fun l => decide (lv t.ends l = goal)) t 0 0
theorem kept_len {p : Pl} {goal : Int} {t : Tr} : (kept p goal t).length = t.nn := vals_len _ _ t 0 0
theorem kept_at {p : Pl} {goal : Int} {t : Tr} {j : Nat} {s : Int} {ks : List Ch} (h1 : t.sides[j]? = some s) (h2 : (t.kids 0 0)[j]? = some ks) : (kept p goal t)[j]? = some (irule p j s (ks.map (atC (fun l => decide (lv t.ends l = goal)) fun m => (kept p goal t).getD m false))) := by
  have := node_val (irule p) (fun l => decide (lv t.ends l = goal)) (W := fun m => (kept p goal t).getD m false) t 0 0 (fun j x h => by
    show (kept p goal t).getD (0 + j) false = x
    rw [Nat.zero_add, List.getD_eq_getElem?_getD]
    rw [show kept p goal t = valsT (irule p) (fun l => decide (lv t.ends l = goal)) t 0 0 from rfl, h]; rfl) j s ks h1 h2
  rw [Nat.zero_add] at this
  exact this
theorem kept_root {p : Pl} {goal : Int} {t : Tr} : atC (fun l => decide (lv t.ends l = goal)) (fun m => (kept p goal t).getD m false) (t.root 0 0) = isWin t p goal :=
  root_val (irule p) (fun l => decide (lv t.ends l = goal)) t 0 0 fun j x h => by
    show (kept p goal t).getD (0 + j) false = x
    rw [Nat.zero_add, List.getD_eq_getElem?_getD]
    rw [show kept p goal t = valsT (irule p) (fun l => decide (lv t.ends l = goal)) t 0 0 from rfl, h]; rfl
theorem all_at {M : Mp} {p : Addr} {bs : List Bool} {f : List Bool → Bool} {Q : DK} (h : M p = some (.lst (bs.map D.bl))) : allG f [.ref p] M Q = Q (.bl (f bs)) M := by
  unfold allG
  simp only [seqOf_lst h, Option.bind_some, blsOf_map]
set_option maxHeartbeats 2000000 in
theorem r_is_winning (T : Txt w K mg A) : ∀ ds M Q E, sp_is_winning A ds M Q E → t_is_winning K A (ends Q E) (dstart N_is_winning ds) M := by
  rintro ds M Q E ⟨a, t, p, goal, rfl, d, g, hp, k1, k2, hB⟩
  have hn := g.2.2.1
  have hnl := g.2.2.2
  have sl : sizeLine = 16777216 := sizeLine_eq
  have lsd : t.sides.length = t.nn := rfl
  have lse : t.ends.length = t.nl := rfl
  have d' := d
  unfold DuelAt at d'
  unfold t_is_winning N_is_winning
  simp only [dstart, List.map, List.length_cons, List.length_nil, List.replicate, List.cons_append, List.nil_append]
  refine seq_split (fun τ M' => plOk t p ∧ M = M' ∧ τ = [some (.ref a), some (planD p), some (.int goal), none, none, none, none, none, none, none]) ?_ ?_
  rotate_left
  · intro nx hnx
    walk_at "dl"
    refine ⟨a, t, p, rfl, d, g, hp, fun h => hnx _ _ ⟨h, rfl, rfl⟩, fun i hi dd hdd => dropE_of (hB i hi dd hdd) .refl⟩
  rintro τ M1 ⟨ho, rfl, rfl⟩
  refine seq_split (fun τ M' => bit goal ∧ M = M' ∧ τ = [some (.ref a), some (planD p), some (.int goal), none, none, none, none, none, none, none]) ?_ ?_
  rotate_left
  · intro nx hnx
    walk_at "dl"
    refine ⟨goal, rfl, ?_⟩
    by_cases c : bit goal
    · simp only [c, decide_true, Bool.not_true, Bool.false_eq_true, if_false]
      exact hnx _ _ ⟨c, rfl, rfl⟩
    · simp only [c, decide_false, Bool.not_false, if_true]
      exact dropE_of (k2 ho c) .refl
  rintro τ M1 ⟨hg, rfl, rfl⟩
  -- reached
  refine seq_split (fun τ M' => ∃ r, M r = none ∧ M' = put M r (.lst (t.ends.map fun e => .bl (decide (e = goal)))) ∧ τ = [some (.ref a), some (planD p), some (.int goal), some (.ref r), none, none, none, none, none, none]) ?_ ?_
  rotate_left
  · intro nx hnx
    walk_at "dl"
    simp only [d', duelF_ends, intsD, itemsOf, keepOf]
    refine ⟨T.d_Duel_ends, fun r hr => ?_⟩
    refine dCL_map (xs := t.ends) D.int (fun e => D.bl (decide (e = goal))) rfl (by omega) (fun _ => trivial) (fun o ho ys k' h => ?_) (hnx _ _ ⟨r, hr, rfl, rfl⟩)
    simp only [wipeD]
    walk_at "dl"
    simpa using h
  rintro τ M1 ⟨r, hr, rfl, rfl⟩
  have ra : a ≠ r := by rintro rfl; rw [d'] at hr; cases hr
  have s1 : Sub M (put M r (.lst (t.ends.map fun e => D.bl (decide (e = goal))))) := Sub.refl.put hr
  have r1 : (put M r (.lst (t.ends.map fun e => D.bl (decide (e = goal))))) r = some (.lst (t.ends.map fun e => D.bl (decide (e = goal)))) := put_same
  generalize put M r (.lst (t.ends.map fun e => D.bl (decide (e = goal)))) = M1 at s1 r1
  have d1 := s1 _ _ d'
  refine seq_split (fun τ M' => ∃ q, M1 q = none ∧ M' = put M1 q (.lst (t.sides.map fun _ => .bl false)) ∧ τ = [some (.ref a), some (planD p), some (.int goal), some (.ref r), some (.ref q), none, none, none, none, none]) ?_ ?_
  rotate_left
  · intro nx hnx
    walk_at "dl"
    simp only [d1, duelF_sides, intsD, itemsOf, keepOf]
    refine ⟨T.d_Duel_sides, fun q hq => ?_⟩
    refine dCL_map (xs := t.sides) D.int (fun _ => D.bl false) rfl (by omega) (fun _ => trivial) (fun o ho ys k' h => ?_) (hnx _ _ ⟨q, hq, rfl, rfl⟩)
    walk_at "dl"
    exact h
  rintro τ M2 ⟨q, hq, rfl, rfl⟩
  have qa : a ≠ q := by rintro rfl; rw [d1] at hq; cases hq
  have hE : ∀ l, l < t.nl → (t.ends.map fun e => D.bl (decide (e = goal)))[l]? = some (.bl (decide (lv t.ends l = goal))) := fun l hl => by
    unfold lv
    rw [List.getElem?_map, List.getD_eq_getElem?_getD, List.getElem?_eq_getElem (by omega)]; rfl
  refine seq_split (fun τ M' => Sub M1 M' ∧ M' q = some (.lst ((kept p goal t).map D.bl)) ∧ ∃ o5 o6 o7 o8 o9, τ = [some (.ref a), some (planD p), some (.int goal), some (.ref r), some (.ref q), o5, o6, o7, o8, o9]) ?_ ?_
  rotate_left
  · intro nx hnx
    have d2 : (put M1 q (.lst (t.sides.map fun _ => D.bl false))) a = some (.ins A.Duel (duelF t)) := by rw [put_ne qa]; exact d1
    walk_at "dl"
    simp only [d2, duelF_sides, intsD, lenG_tup, List.length_map, lsd]
    refine ⟨T.d_Duel_sides, trivial, ⟨by omega, by omega, by omega, by omega⟩, by omega, ?_⟩
    have e0 : ((((t.nn : Nat) : Int) - 1) - -1).toNat = t.nn := by omega
    rw [e0]
    refine dLoop_inv (fun i τ M' => Sub M1 M' ∧ (∃ L, M' q = some (.lst L) ∧ Filled D.bl (kept p goal t) (t.nn - i) L) ∧ ∃ o5 o6 o7 o8 o9, τ = [some (.ref a), some (planD p), some (.int goal), some (.ref r), some (.ref q), o5, o6, o7, o8, o9]) (fun _ _ _ _ _ => trivial) ?_ ?_ ⟨Sub.refl.put hq, ⟨_, put_same, by rw [Nat.sub_zero, ← kept_len (p := p) (goal := goal)]; exact fill_start (by rw [kept_len, List.length_map]; rfl)⟩, none, none, none, none, none, rfl⟩
    · rintro i dd τ M' nxt hd ⟨s, ⟨L, hL, hf⟩, o5, o6, o7, o8, o9, rfl⟩ hnx'
      obtain ⟨hi, rfl⟩ := rng_at hd
      obtain ⟨j, hj⟩ : ∃ j, t.nn - i = j + 1 := ⟨t.nn - i - 1, by omega⟩
      have hj' : ((t.nn : Nat) : Int) - 1 - ((i : Nat) : Int) = ((j : Nat) : Int) := by omega
      rw [hj] at hf
      obtain ⟨sd, ks, n1, n2, n3⟩ := node_at (t := t) (j := j) (by omega)
      have hw := kept_at (p := p) (goal := goal) n1 n2
      have d3 := s _ _ d1
      have r3 := s _ _ r1
      have hks := kids_small t 0 0 g.1 ks (List.mem_of_getElem? n2)
      have i2 : ((t.kids 0 0).map kidsD)[j]? = some (kidsD ks) := by rw [List.getElem?_map, n2]; rfl
      obtain ⟨e, kk, g1, g2, g3⟩ := ho.2 j (by omega)
      rw [ar_at n2] at g2; cases g2
      have i1 : (p.map plD)[j]? = some (plD e) := by rw [List.getElem?_map, g1]; rfl
      rw [hj']
      walk_at "dl"
      simp only [d3, duelF_children, planD, ixG_nat i1, ixG_nat i2, kidsD, itemsOf, keepOf]
      refine ⟨T.d_Duel_children, fun b hb => ?_⟩
      have bq : q ≠ b := by rintro rfl; rw [hL] at hb; cases hb
      have br : r ≠ b := by rintro rfl; rw [r3] at hb; cases hb
      refine dCL_map (xs := ks) chD (fun c => D.bl (atC (fun l => decide (lv t.ends l = goal)) (fun m => (kept p goal t).getD m false) c)) rfl (by omega) (fun _ => trivial) (fun c hc ys k' h => ?_) ?_
      · simp only [wipeD]
        walk_at "dl"
        refine ent (child_val (f := D.bl) (by rw [kept_len]; exact n3 c hc) hf hE) ?_ ?_ h
        · exact sq_at (by rw [put_ne bq]; exact hL)
        · exact sq_at (by rw [put_ne br]; exact r3)
      · have hb' : (put M' b (.lst (ks.map fun c => D.bl (atC (fun l => decide (lv t.ends l = goal)) (fun m => (kept p goal t).getD m false) c)))) b = some (.lst ((ks.map (atC (fun l => decide (lv t.ends l = goal)) fun m => (kept p goal t).getD m false)).map D.bl)) := by rw [put_same, List.map_map]; rfl
        have hL' : (put M' b (.lst (ks.map fun c => D.bl (atC (fun l => decide (lv t.ends l = goal)) (fun m => (kept p goal t).getD m false) c)))) q = some (.lst L) := by rw [put_ne bq]; exact hL
        have s' := s.put hb (o := .lst (ks.map fun c => D.bl (atC (fun l => decide (lv t.ends l = goal)) (fun m => (kept p goal t).getD m false) c)))
        have lvs : (ks.map (atC (fun l => decide (lv t.ends l = goal)) fun m => (kept p goal t).getD m false)).length = ks.length := by simp
        generalize put M' b (.lst (ks.map fun c => D.bl (atC (fun l => decide (lv t.ends l = goal)) (fun m => (kept p goal t).getD m false) c))) = M4 at hb' hL' s'
        generalize (ks.map (atC (fun l => decide (lv t.ends l = goal)) fun m => (kept p goal t).getD m false)) = vs at *
        have ix : ixN L.length ((j : Nat) : Int) = some j := by
          rw [ixN_in (by omega) (by have := hf.1; rw [kept_len] at this; omega)]; simp
        have fin : ∀ (x : Bool) τ', irule p j sd vs = x → (∃ o5 o6 o7 o8 o9, τ' = [some (.ref a), some (planD p), some (.int goal), some (.ref r), some (.ref q), o5, o6, o7, o8, o9]) → nxt τ' (put M4 q (.lst (L.set j (.bl x)))) := fun x τ' hx hτ => hnx' _ _ ⟨sub_set s' hq, ⟨_, put_same, by rw [show t.nn - (i + 1) = j by omega]; rw [hx] at hw; exact fill_set hf hw⟩, hτ⟩
        cases e with
        | none =>
          simp only [plD, isG, isNone, Bool.false_bne, if_true, all_at hb', hL', ix]
          exact fin _ _ (by unfold irule; rw [g1]) ⟨_, _, _, _, _, rfl⟩
        | some o =>
          obtain ⟨o0, o1⟩ := g3 o rfl
          have i3 : (vs.map D.bl)[o.toNat]? = some (.bl (vs.getD o.toNat false)) := by rw [List.getElem?_map, List.getD_eq_getElem?_getD, List.getElem?_eq_getElem (by omega)]; rfl
          have o2 : ((o.toNat : Nat) : Int) = o := by omega
          have ixo : ∀ Q, ixG (.ref b) (.int o) M4 Q = Q (.bl (vs.getD o.toNat false)) M4 := fun Q => by
            have := ixg_at (Q := Q) hb' i3
            rwa [o2] at this
          simp only [plD, isG, isNone, Bool.false_bne, Bool.false_eq_true, if_false, ixo, hL', ix]
          exact fin _ _ (by unfold irule; rw [g1]) ⟨_, _, _, _, _, rfl⟩
    · rintro τ M' ⟨s, ⟨L, hL, hf⟩, hτ⟩
      rw [len_rng, Nat.sub_self] at hf
      exact hnx _ _ ⟨s, by rw [hL, fill_all hf], hτ⟩
  rintro τ M4 ⟨s4, h4, o5, o6, o7, o8, o9, rfl⟩
  have d4 := s4 _ _ d1
  have r4 := s4 _ _ r1
  walk_at "dl"
  simp only [d4, duelF_root]
  refine ⟨T.d_Duel_root, ent (v := .bl (isWin t p goal)) ?_ (sq_at h4) (sq_at r4) (dropQ_of (k1 ho hg) (s1.trans s4))⟩
  have h := root_in t 0 0
  rw [Nat.zero_add, Nat.zero_add] at h
  have := child_val (f := D.bl) (d0 := false) (W := kept p goal t) (L := (kept p goal t).map D.bl) (j := 0) (by rw [kept_len]; exact h) ⟨by simp, fun m w _ e => by rw [List.getElem?_map, e]; rfl⟩ hE
  rw [kept_root] at this
  exact this
end K43

set_option maxHeartbeats 4000000
namespace K43
open PySem L2 DL DU
local macro_rules | `(tactic| walk_at "dl") => `(tactic| simp only [dSeq, dIfS, dB, dTru, truD, dOp, dVar, dC, dAsg, dAug, dCB, dCons, dNil, dRet, dRetN, dName, dGSub, dNext, ends, exOf, dstart, slot, oI0, oI, dAnd, dOr, dNot, dAndV, dOrV, dNotV, dNeg, dSl, dNoP, dPart, dFld, dFldS, dRaise, dLst, dTup, dFor, dIter, dRng1, dRng2, dCall, dMake, dMeth, dIxO, dLc, dYes, dGTup, dGCons, dGNil, dDrop, dBreak, dBM, dDIn, dNever, dChain, dRngD, dZip, dRaiseI, dLstRg, dDGet, dDGet2, dDNew, dGSubD, dDStar,
  eqD_str, neD_str, eqD_int, neD_int, ixG_t0, ixG_t1, isiG_str, isi_int, isi_int_s, isi_int_t, isi_tup, isi_tup_s, isi_tup_i, isi_str_i, isi_str_t, lenG_tup, addD_int, mulD_int, intG, List.nil_append, bne_iff_ne, ofS_inj, Bool.false_bne, Bool.true_bne,
  List.map, List.length_cons, List.length_nil, List.cons_append, List.append_nil, List.replicate, List.set, List.getElem?_cons_zero, List.getElem?_cons_succ, Option.join_some, Option.bind_some, decide_eq_true_eq])
variable {K : PySem.W.Frag} {A : Adr} {w : World} {mg : Str → Option Value}
theorem put_none {M : Mp} {p x : Addr} {o : MO} (h : put M p o x = none) : x ≠ p ∧ M x = none := by
  by_cases c : x = p
  · subst c; rw [put_same] at h; cases h
  · rw [put_ne c] at h; exact ⟨c, h⟩
theorem split_at {α : Type} {xs ys : List α} {j : Nat} {x : α} (h : (xs ++ ys)[j]? = some x) : (j < xs.length ∧ xs[j]? = some x) ∨ ∃ m, j = xs.length + m ∧ ys[m]? = some x := by
  by_cases c : j < xs.length
  · rw [List.getElem?_append_left c] at h; exact .inl ⟨c, h⟩
  · rw [List.getElem?_append_right (by omega)] at h
    exact .inr ⟨j - xs.length, by omega, h⟩
set_option maxHeartbeats 2000000 in
theorem r_law_scan {n : Nat} : ∀ ds M Q E, sp_law_scan (n + 1) ds M Q E → t_law_scan K A n (ends Q E) (dstart N_law_scan ds) M := by
  rintro ds M Q E ⟨t, a, b, rs, es, rfl, w, hh, nab, ha, hb, hn, hl, k⟩
  have sl : sizeLine = 16777216 := sizeLine_eq
  unfold t_law_scan N_law_scan
  cases t with
  | lf o =>
    rw [nl_lf] at hl
    simp only [Tr.toD]
    walk_at "dl"
    simp only [decide_true, if_true, metT_list hb, append_at hb, List.length_map, true_and]
    refine ⟨by omega, ?_⟩
    rw [lenG_at put_same]
    walk_at "dl"
    refine ⟨by omega, ?_⟩
    refine dropQ_of (M := put M b (.lst (es.map D.int ++ [.int o]))) ?_ .refl
    have := k (put M b (.lst (es.map D.int ++ [.int o]))) [] (by rw [nn_lf]; rfl) (by rw [put_ne nab]; simpa using ha) (by rw [put_same]; simp [Tr.ends]) (.set (.inr rfl)) (fun j s k h => by simp [Tr.sides] at h)
    simpa [Tr.root, lchD] using this
  | nd s ts =>
    have lk := len_kid w
    have hnd : (Tr.nd s ts).nn = nnL ts + 1 := nn_nd
    have hnl : (Tr.nd s ts).nl = nlL ts := nl_nd
    simp only [Tr.toD]
    walk_at "dl"
    have en : ¬ (("node" : Str) = "end") := by decide
    try simp only [en, decide_false, Bool.false_eq_true, if_false]
    refine ⟨by omega, fun q hq => ?_⟩
    have aq : a ≠ q := by rintro rfl; rw [ha] at hq; cases hq
    have bq : b ≠ q := by rintro rfl; rw [hb] at hq; cases hq
    have ha1 : (put M q (.lst [])) a = some (.lst (rs.map D.ref)) := by rw [put_ne aq]; exact ha
    simp only [lenG_at ha1, metT_list ha1, List.length_map, true_and]
    refine ⟨by omega, fun r hr => ?_⟩
    obtain ⟨rq, hr0⟩ := put_none hr
    have ar : a ≠ r := by rintro rfl; rw [ha] at hr0; cases hr0
    have br : b ≠ r := by rintro rfl; rw [hb] at hr0; cases hr0
    have ha2 : (put (put M q (.lst [])) r (.lst [.int s, .ref q])) a = some (.lst (rs.map D.ref)) := by rw [put_ne ar]; exact ha1
    simp only [append_at ha2, List.length_map, slG, cut2, itemsOf, keepOf]
    refine ⟨by omega, ?_⟩
    have hM1 : ∀ x, (put (put (put M q (.lst [])) r (.lst [.int s, .ref q])) a (.lst (rs.map D.ref ++ [.ref r]))) x = none → M x = none := fun x hx => (put_none (put_none (put_none hx).2).2).2
    have m1a : (put (put (put M q (.lst [])) r (.lst [.int s, .ref q])) a (.lst (rs.map D.ref ++ [.ref r]))) a = some (.lst (rs.map D.ref ++ [.ref r])) := put_same
    have m1b : (put (put (put M q (.lst [])) r (.lst [.int s, .ref q])) a (.lst (rs.map D.ref ++ [.ref r]))) b = some (.lst (es.map D.int)) := by rw [put_ne nab.symm, put_ne br, put_ne bq]; exact hb
    have m1q : (put (put (put M q (.lst [])) r (.lst [.int s, .ref q])) a (.lst (rs.map D.ref ++ [.ref r]))) q = some (.lst []) := by rw [put_ne aq.symm, put_ne rq.symm, put_same]
    have m1r : (put (put (put M q (.lst [])) r (.lst [.int s, .ref q])) a (.lst (rs.map D.ref ++ [.ref r]))) r = some (.lst [.int s, .ref q]) := by rw [put_ne ar.symm, put_same]
    have m1e : Ext (In2 a b) M (put (put (put M q (.lst [])) r (.lst [.int s, .ref q])) a (.lst (rs.map D.ref ++ [.ref r]))) := ((Ext.lay hq).trans (.lay hr)).trans (.set (.inl rfl))
    generalize (put (put (put M q (.lst [])) r (.lst [.int s, .ref q])) a (.lst (rs.map D.ref ++ [.ref r]))) = M1 at *
    refine dLoop_inv (fun i τ M' => (∃ us : List Addr, us.length = nnL (ts.take i) ∧ M' a = some (.lst ((rs ++ r :: us).map D.ref)) ∧ NodesNew M1 M' us (sidesL (ts.take i)) (kidsL (ts.take i) (rs.length + 1) es.length)) ∧ M' b = some (.lst ((es ++ endsL (ts.take i)).map D.int)) ∧ M' q = some (.lst ((roots (ts.take i) (rs.length + 1) es.length).map lchD)) ∧ Ext (fun x => x = a ∨ x = b ∨ x = q) M1 M' ∧ ∃ o5, τ = [some (.tup (.str "node" :: .int s :: toDs ts)), some (.ref a), some (.ref b), some (.ref q), some (.int (rs.length : Nat)), o5]) (fun _ _ _ _ _ => trivial) ?_ ?_ ?_
    · rintro i d τ M' nxt hd ⟨⟨us, ul, ja, jn⟩, jb, jq, je, o5, rfl⟩ hnx
      obtain ⟨t, e, rfl⟩ := toDs_at hd
      have ht := List.mem_of_getElem? e
      have hk := nn_snoc e
      have hk2 := nl_snoc e
      have hk3 := nn_take (ts := ts) (i := i + 1)
      have hk4 := nl_take (ts := ts) (i := i + 1)
      have q1 : (rs ++ r :: us).length = rs.length + 1 + nnL (ts.take i) := by simp; omega
      have q2 : (es ++ endsL (ts.take i)).length = es.length + nlL (ts.take i) := by simp [nlL]
      walk_at "dl"
      refine ⟨by rw [metT_list jq]; trivial, t, a, b, rs ++ r :: us, es ++ endsL (ts.take i), rfl, wf_kid w ht, ht_kid hh ht, nab, ja, jb, by omega, by omega, fun M2 us2 ul2 ka kb ke kn => ?_⟩
      have kq := ke _ _ (by unfold In2; simp [aq.symm, bq.symm]) jq
      simp only [append_at kq, List.length_map, roots_len]
      refine ⟨by simp; omega, hnx _ _ ⟨⟨us ++ us2, by rw [List.length_append]; omega, by rw [put_ne aq, ka]; simp, ?_⟩, by rw [put_ne bq, kb, ends_snoc e]; simp, by rw [put_same, roots_snoc e, q1, q2]; simp, ?_, _, rfl⟩⟩
      · intro j sd ks h1 h2
        rw [sides_snoc e] at h1
        rw [kids_snoc e] at h2
        have lsi : (sidesL (ts.take i)).length = nnL (ts.take i) := rfl
        have lki : (kidsL (ts.take i) (rs.length + 1) es.length).length = nnL (ts.take i) := kidsL_len _ _ _
        rcases split_at h1 with ⟨c, h3⟩ | ⟨m, rfl, h3⟩
        · rw [List.getElem?_append_left (by omega)] at h2
          obtain ⟨r', o', g1, g2, g3, g4, g5⟩ := jn j sd ks h3 h2
          have na : ∀ x, M1 x = none → x ≠ a ∧ x ≠ b ∧ x ≠ q := fun x hx => ⟨(by rintro rfl; rw [m1a] at hx; cases hx), (by rintro rfl; rw [m1b] at hx; cases hx), (by rintro rfl; rw [m1q] at hx; cases hx)⟩
          obtain ⟨a1, a2, a3⟩ := na _ g2
          obtain ⟨b1, b2, b3⟩ := na _ g3
          exact ⟨r', o', by rw [List.getElem?_append_left (by omega)]; exact g1, g2, g3, by rw [put_ne a3]; exact ke _ _ (by unfold In2; simp [a1, a2]) g4, by rw [put_ne b3]; exact ke _ _ (by unfold In2; simp [b1, b2]) g5⟩
        · rw [List.getElem?_append_right (by omega), lki, show (sidesL (ts.take i)).length + m - nnL (ts.take i) = m by omega] at h2
          obtain ⟨r', o', g1, g2, g3, g4, g5⟩ := kn m sd ks h3 (by rw [q1, q2]; exact h2)
          have na : ∀ x, M' x = none → M1 x = none ∧ x ≠ q := fun x hx => by
            have xa : x ≠ a := by rintro rfl; rw [ja] at hx; cases hx
            have xb : x ≠ b := by rintro rfl; rw [jb] at hx; cases hx
            have xq : x ≠ q := by rintro rfl; rw [jq] at hx; cases hx
            exact ⟨noneOf je (by simp [xa, xb, xq]) hx, xq⟩
          exact ⟨r', o', by rw [List.getElem?_append_right (by omega), ul, show (sidesL (ts.take i)).length + m - nnL (ts.take i) = m by omega]; exact g1, (na _ g2).1, (na _ g3).1, by rw [put_ne (na _ g2).2]; exact g4, by rw [put_ne (na _ g3).2]; exact g5⟩
      · exact (je.trans (ke.wide fun x hx => by rcases hx with rfl | rfl <;> simp)).trans (.set (.inr (.inr rfl)))
    · rintro τ M' ⟨⟨us, ul, ja, jn⟩, jb, jq, je, o5, rfl⟩
      rw [toDs_len, List.take_length] at ul jn jb jq
      walk_at "dl"
      refine ⟨by omega, ?_⟩
      refine dropQ_of (M := M') ?_ .refl
      have e2 : Ext (In2 a b) M M' := fun x o hx hxo => by
        have xq : x ≠ q := by rintro rfl; rw [hq] at hxo; cases hxo
        refine je _ _ ?_ (m1e _ _ hx hxo)
        unfold In2 at hx
        rintro (z | z | z)
        · exact hx (.inl z)
        · exact hx (.inr z)
        · exact xq z
      have := k M' (r :: us) (by rw [List.length_cons]; omega) ja (by rw [jb]; simp [Tr.ends]) e2 (fun j sd ks h1 h2 => ?_)
      · simpa [Tr.root, lchD] using this
      · rw [Tr.sides] at h1
        rw [Tr.kids] at h2
        cases j with
        | zero =>
          rw [List.getElem?_cons_zero] at h1 h2
          cases h1; cases h2
          exact ⟨r, q, rfl, hr0, hq, je _ _ (by simp [ar.symm, br.symm, rq]) m1r, jq⟩
        | succ j =>
          rw [List.getElem?_cons_succ] at h1 h2
          obtain ⟨r', o', g1, g2, g3, g4, g5⟩ := jn j sd ks h1 h2
          exact ⟨r', o', by rw [List.getElem?_cons_succ]; exact g1, hM1 _ g2, hM1 _ g3, g4, g5⟩
    · exact ⟨⟨[], by simp [nnL_nil], by rw [m1a]; simp, fun j sd ks h1 h2 => by simp [sidesL] at h1⟩, by rw [m1b]; simp [endsL], by rw [m1q]; simp [roots], .refl, none, rfl⟩
end K43

set_option maxHeartbeats 4000000
namespace K43
open PySem L2 DL DU
local macro_rules | `(tactic| walk_at "dl") => `(tactic| simp only [dSeq, dIfS, dB, dTru, truD, dOp, dVar, dC, dAsg, dAug, dCB, dCons, dNil, dRet, dRetN, dName, dGSub, dNext, ends, exOf, dstart, slot, oI0, oI, dAnd, dOr, dNot, dAndV, dOrV, dNotV, dNeg, dSl, dNoP, dPart, dFld, dFldS, dRaise, dLst, dTup, dFor, dIter, dRng1, dRng2, dCall, dMake, dMeth, dIxO, dLc, dYes, dGTup, dGCons, dGNil, dDrop, dBreak, dBM, dDIn, dNever, dChain, dRngD, dZip, dRaiseI, dLstRg, dDGet, dDGet2, dDNew, dGSubD, dDStar,
  eqD_str, neD_str, eqD_int, neD_int, ixG_t0, ixG_t1, isiG_str, isi_int, isi_int_s, isi_int_t, isi_tup, isi_tup_s, isi_tup_i, isi_str_i, isi_str_t, lenG_tup, addD_int, mulD_int, intG, List.nil_append, bne_iff_ne, ofS_inj, Bool.false_bne, Bool.true_bne,
  List.map, List.length_cons, List.length_nil, List.cons_append, List.append_nil, List.replicate, List.set, List.getElem?_cons_zero, List.getElem?_cons_succ, Option.join_some, Option.bind_some, decide_eq_true_eq])
variable {K : PySem.W.Frag} {A : Adr} {w : World} {mg : Str → Option Value}
theorem parts {ts : List Tr} {i : Nat} {t : Tr} (h : ts[i]? = some t) : ts = ts.take i ++ t :: ts.drop (i + 1) := by
  have hi := (List.getElem?_eq_some_iff.mp h).1
  have e : ts[i] = t := (List.getElem?_eq_some_iff.mp h).2
  conv => lhs; rw [← List.take_append_drop i ts, List.drop_eq_getElem_cons hi, e]
theorem sides_sub {ts : List Tr} {i j : Nat} {t : Tr} {s : Int} (h : ts[i]? = some t) (hs : t.sides[j]? = some s) : (sidesL ts)[nnL (ts.take i) + j]? = some s := by
  have e := parts h
  have : sidesL ts = sidesL (ts.take i) ++ (t.sides ++ sidesL (ts.drop (i + 1))) := by conv => lhs; rw [e, sidesL_app, sidesL]
  rw [this, List.getElem?_append_right (by unfold nnL; omega), show nnL (ts.take i) + j - (sidesL (ts.take i)).length = j by unfold nnL; omega, List.getElem?_append_left (List.getElem?_eq_some_iff.mp hs).1]
  exact hs
theorem kids_sub {ts : List Tr} {i j n l : Nat} {t : Tr} {k : List Ch} (h : ts[i]? = some t) (hs : (t.kids (n + nnL (ts.take i)) (l + nlL (ts.take i)))[j]? = some k) : (kidsL ts n l)[nnL (ts.take i) + j]? = some k := by
  have e := parts h
  have : kidsL ts n l = kidsL (ts.take i) n l ++ (t.kids (n + nnL (ts.take i)) (l + nlL (ts.take i)) ++ kidsL (ts.drop (i + 1)) (n + nnL (ts.take i) + t.nn) (l + nlL (ts.take i) + t.nl)) := by conv => lhs; rw [e, kidsL_app, kidsL]
  rw [this, List.getElem?_append_right (by rw [kidsL_len]; omega), show nnL (ts.take i) + j - (kidsL (ts.take i) n l).length = j by rw [kidsL_len]; omega, List.getElem?_append_left (List.getElem?_eq_some_iff.mp hs).1]
  exact hs
theorem roots_at {ts : List Tr} {i n l : Nat} {t : Tr} (h : ts[i]? = some t) : (roots ts n l)[i]? = some (t.root (n + nnL (ts.take i)) (l + nlL (ts.take i))) := by
  have e := parts h
  have hi := (List.getElem?_eq_some_iff.mp h).1
  have e2 : (roots (ts.take i) n l).length = i := by rw [roots_len, List.length_take]; omega
  have : roots ts n l = roots (ts.take i) n l ++ (t.root (n + nnL (ts.take i)) (l + nlL (ts.take i)) :: roots (ts.drop (i + 1)) (n + nnL (ts.take i) + t.nn) (l + nlL (ts.take i) + t.nl)) := by conv => lhs; rw [e, roots_app, roots]
  rw [this, List.getElem?_append_right (by omega), e2, Nat.sub_self]; rfl
theorem okP_sub {p : Pl} : ∀ {ts : List Tr} {i n : Nat} {t : Tr}, okPL p ts n → ts[i]? = some t → okP p t (n + nnL (ts.take i))
  | t :: ts, 0, n, u, h, e => by
    rw [okPL] at h
    simp at e
    subst e
    simpa [nnL_nil] using h.1
  | t :: ts, i + 1, n, u, h, e => by
    rw [okPL] at h
    rw [List.getElem?_cons_succ] at e
    rw [List.take_succ_cons, nnL_cons, ← Nat.add_assoc]
    exact okP_sub h.2 e
theorem reachL_app {p : Pl} {e : Option Int} : ∀ (ts us : List Tr) (i n l : Nat), reachL p e i (ts ++ us) n l = reachL p e i ts n l ++ reachL p e (i + ts.length) us (n + nnL ts) (l + nlL ts)
  | [], us, i, n, l => by simp [reachL, nnL_nil, nlL_nil]
  | t :: ts, us, i, n, l => by
    rw [List.cons_append, reachL, reachL_app ts us, reachL, List.append_assoc, nnL_cons, nlL_cons, Nat.add_assoc n, Nat.add_assoc l, List.length_cons, show i + 1 + ts.length = i + (ts.length + 1) by omega]
theorem reach_snoc {p : Pl} {e : Option Int} {ts : List Tr} {i n l : Nat} {t : Tr} (h : ts[i]? = some t) : reachL p e 0 (ts.take (i + 1)) n l = reachL p e 0 (ts.take i) n l ++ (if e = none ∨ e = some (i : Int) then reachT p t (n + nnL (ts.take i)) (l + nlL (ts.take i)) else []) := by
  have hi := (List.getElem?_eq_some_iff.mp h).1
  rw [take_app h, reachL_app, reachL, reachL, List.append_nil, Nat.zero_add, List.length_take, Nat.min_eq_left (by omega)]
mutual
theorem reach_len (p : Pl) : ∀ (t : Tr) (n l : Nat), (reachT p t n l).length ≤ t.nl
  | .lf _, n, l => by rw [reachT, nl_lf]; simp
  | .nd s ts, n, l => by rw [reachT, nl_nd]; exact reachL_len p _ ts _ _ _
theorem reachL_len (p : Pl) (e : Option Int) : ∀ (ts : List Tr) (i n l : Nat), (reachL p e i ts n l).length ≤ nlL ts
  | [], i, n, l => by simp [reachL]
  | t :: ts, i, n, l => by
    rw [reachL, List.length_append, nlL_cons]
    have h1 := reachL_len p e ts (i + 1) (n + t.nn) (l + t.nl)
    have h2 := reach_len p t n l
    split
    · omega
    · simp; omega
end
theorem list_sub {M M' : Mp} {p : Addr} {o : MO} (h : Sub (put M p o) M') (hp : M p = none) : Sub M M' := fun x u e => h _ _ (by rw [put_ne]; exact e; rintro rfl; rw [hp] at e; cases e)
set_option maxHeartbeats 2000000 in
theorem r_law_reached {n : Nat} : ∀ ds M Q E, sp_law_reached (n + 1) ds M Q E → t_law_reached K A n (ends Q E) (dstart N_law_reached ds) M := by
  rintro ds M Q E ⟨a, rs, t, k0, l0, p, rfl, ha, hN, w, ho, hh, hl, k⟩
  have sl : sizeLine = 16777216 := sizeLine_eq
  unfold t_law_reached N_law_reached
  cases t with
  | lf o =>
    simp only [Tr.root, lchD]
    walk_at "dl"
    simp only [decide_true, if_true]
    refine ⟨by omega, fun q hq => dropQ_of (k q hq) ?_⟩
    simp [reachT]
    exact .refl
  | nd s ts =>
    have lk := len_kid w
    rw [nl_nd] at hl
    obtain ⟨r, o, g1, g2, g3⟩ := hN 0 s (roots ts (k0 + 1) l0) (by simp [Tr.sides]) (by simp [Tr.kids])
    rw [Nat.add_zero] at g1
    rw [okP] at ho
    obtain ⟨o1, o2, o3⟩ := ho
    have i1 : (rs.map D.ref)[k0]? = some (.ref r) := by rw [List.getElem?_map, g1]; rfl
    have i2 : (p.map plD)[k0]? = some (plD (sel p k0)) := by
      rw [List.getElem?_map, List.getElem?_eq_getElem o1, sel_of (List.getElem?_eq_getElem o1)]; rfl
    simp only [Tr.root, lchD]
    simp only [dstart, List.map, List.length_cons, List.length_nil, List.replicate, List.cons_append, List.nil_append]
    refine seq_split (fun τ M' => M = M' ∧ τ = [some (.ref a), some (.tup [.int 1, .int (k0 : Nat)]), some (planD p), none, none, none]) ?_ ?_
    rotate_left
    · intro nx hnx
      walk_at "dl"
      exact hnx _ _ ⟨rfl, rfl⟩
    rintro τ M1 ⟨rfl, rfl⟩
    refine seq_split (fun τ M' => M = M' ∧ τ = [some (.ref a), some (.tup [.int 1, .int (k0 : Nat)]), some (planD p), some (.ref o), none, none]) ?_ ?_
    rotate_left
    · intro nx hnx
      walk_at "dl"
      simp only [ixg_at ha i1, ixg_at1 g2]
      exact hnx _ _ ⟨rfl, rfl⟩
    rintro τ M1 ⟨rfl, rfl⟩
    refine seq_split (fun τ M' => ∃ f, M f = none ∧ M' = put M f (.lst []) ∧ τ = [some (.ref a), some (.tup [.int 1, .int (k0 : Nat)]), some (planD p), some (.ref o), some (.ref f), none]) ?_ ?_
    rotate_left
    · intro nx hnx
      walk_at "dl"
      exact ⟨by omega, fun f hf => hnx _ _ ⟨f, hf, rfl, rfl⟩⟩
    rintro τ M1 ⟨f, hf, rfl, rfl⟩
    have g3' : (put M f (.lst [])) o = some (.lst ((roots ts (k0 + 1) l0).map lchD)) := Sub.refl.put hf _ _ g3
    refine seq_split (fun τ M' => Sub M M' ∧ ∃ f' o5, M f' = none ∧ M' f' = some (.lst ((reachL p (sel p k0) 0 ts (k0 + 1) l0).map fun (m : Nat) => D.int m)) ∧ τ = [some (.ref a), some (.tup [.int 1, .int (k0 : Nat)]), some (planD p), some (.ref o), some (.ref f'), o5]) ?_ ?_
    rotate_left
    · intro nx hnx
      walk_at "dl"
      simp only [lenG_at g3', List.length_map, roots_len, Int.toNat_natCast]
      refine ⟨by omega, by omega, ?_⟩
      refine dLoop_inv (fun i τ M' => Sub M M' ∧ ∃ f' o5, M f' = none ∧ M' f' = some (.lst ((reachL p (sel p k0) 0 (ts.take i) (k0 + 1) l0).map fun (m : Nat) => D.int m)) ∧ τ = [some (.ref a), some (.tup [.int 1, .int (k0 : Nat)]), some (planD p), some (.ref o), some (.ref f'), o5]) (fun _ _ _ _ _ => trivial) ?_ ?_ ⟨Sub.refl.put hf, f, none, hf, by rw [put_same]; simp [reachL], rfl⟩
      · rintro i d τ M' nxt hd ⟨s', f', o5, hf', hL, rfl⟩ hnx'
        obtain ⟨hi, rfl⟩ := rng_at hd
        have e := List.getElem?_eq_getElem hi
        have ht := List.mem_of_getElem? e
        have hr := reach_snoc (p := p) (e := sel p k0) (n := k0 + 1) (l := l0) e
        have hk4 := nl_take (ts := ts) (i := i + 1)
        have hk2 := nl_snoc e
        have len1 := reachL_len p (sel p k0) (ts.take i) 0 (k0 + 1) l0
        refine ifS_p (sel p k0 = none ∨ sel p k0 = some (i : Int)) (fun Q' E' q1 q2 => ?_) (fun c => ?_) fun c => ?_
        · walk_at "dl"
          simp only [planD, ixG_nat i2]
          cases e5 : sel p k0 with
          | none =>
            rw [e5] at q1
            simp only [plD, isG, isNone, Bool.false_bne, if_true]
            exact q1 (.inl rfl)
          | some x =>
            rw [e5] at q1 q2
            simp only [plD, isG, isNone, Bool.false_bne, Bool.false_eq_true, if_false, eqD_int]
            by_cases c : x = (i : Int)
            · simp only [c, decide_true]; exact q1 (.inr (by rw [c]))
            · simp only [c, decide_false]; exact q2 (by rintro (z | z) <;> simp at z; exact c z)
        · rw [if_pos c] at hr
          walk_at "dl"
          have g4 := s' _ _ g3
          have i3 : ((roots ts (k0 + 1) l0).map lchD)[i]? = some (lchD (ts[i].root (k0 + 1 + nnL (ts.take i)) (l0 + nlL (ts.take i)))) := by rw [List.getElem?_map, roots_at e]; rfl
          simp only [ixg_at g4 i3]
          have len2 := reach_len p ts[i] (k0 + 1 + nnL (ts.take i)) (l0 + nlL (ts.take i))
          refine ⟨a, rs, ts[i], k0 + 1 + nnL (ts.take i), l0 + nlL (ts.take i), p, rfl, s' _ _ ha, ?_, wf_kid w ht, okP_sub o3 e, ht_kid hh ht, by omega, fun q hq => ?_⟩
          · intro j sd ks h1 h2
            obtain ⟨r', o', u1, u2, u3⟩ := hN (nnL (ts.take i) + j + 1) sd ks (by rw [Tr.sides, List.getElem?_cons_succ]; exact sides_sub e h1) (by rw [Tr.kids, List.getElem?_cons_succ]; exact kids_sub e h2)
            exact ⟨r', o', by rw [show k0 + 1 + nnL (ts.take i) + j = k0 + (nnL (ts.take i) + j + 1) by omega]; exact u1, s' _ _ u2, s' _ _ u3⟩
          · have fq : f' ≠ q := by rintro rfl; rw [hL] at hq; cases hq
            have hL2 : (put M' q (.lst ((reachT p ts[i] (k0 + 1 + nnL (ts.take i)) (l0 + nlL (ts.take i))).map fun (m : Nat) => D.int m))) f' = some (.lst ((reachL p (sel p k0) 0 (ts.take i) (k0 + 1) l0).map fun (m : Nat) => D.int m)) := by rw [put_ne fq]; exact hL
            simp only [addD, hL2, put_same, List.length_map]
            refine ⟨by omega, fun q2 hq2 => hnx' _ _ ⟨((s'.put hq).put hq2), q2, _, (s'.put hq).none hq2, by rw [put_same, hr]; simp, rfl⟩⟩
        · rw [if_neg c, List.append_nil] at hr
          walk_at "dl"
          exact hnx' _ _ ⟨s', f', _, hf', by rw [hr]; exact hL, rfl⟩
      · rintro τ M' ⟨s', f', o5, hf', hL, rfl⟩
        rw [len_rng, List.take_length] at hL
        exact hnx _ _ ⟨s', f', o5, hf', hL, rfl⟩
    rintro τ M2 ⟨s', f', o5, hf', hL, rfl⟩
    walk_at "dl"
    exact dropQ_of (k f' hf') (put_sub s' (by rw [reachT]; exact hL))
theorem r_law_is_plan : ∀ ds M Q E, sp_law_is_plan ds M Q E → t_law_is_plan K A (ends Q E) (dstart N_law_is_plan ds) M := by
  rintro ds M Q E ⟨a, t, p, rfl, ⟨rs, ha, lr, hN⟩, g, ho, k⟩
  have hn := g.2.2.1
  unfold t_law_is_plan N_law_is_plan
  have lp := ho.1
  unfold planD
  walk_at "dl"
  have c0 : ((((p.map plD).length : Nat) : Int) = (((rs.map D.ref).length : Nat) : Int)) = True := eq_true (by rw [List.length_map, List.length_map, lp, lr])
  simp only [lenG_at ha, neD_int, c0, decide_true, Bool.not_true, bne_self_eq_false, Bool.true_bne, Bool.false_eq_true, if_false]
  refine ⟨by simp; omega, by omega, ?_⟩
  rw [List.length_map, Int.toNat_natCast]
  refine dLoop_inv (fun i τ M' => M = M' ∧ ∃ o2 o3, τ = [some (.ref a), some (.tup (p.map plD)), o2, o3]) (fun _ _ _ _ _ => trivial) ?_ ?_ ⟨rfl, none, none, rfl⟩
  · rintro i dd τ M' nxt hd ⟨rfl, o2, o3, rfl⟩ hnx
    obtain ⟨hi, rfl⟩ := rng_at hd
    obtain ⟨e, kk, g1, g2, g3⟩ := ho.2 i (by omega)
    obtain ⟨sd, ks, n1, n2, n3⟩ := node_at (t := t) (j := i) (by omega)
    rw [ar_at n2] at g2; cases g2
    obtain ⟨r, o, u1, u2, u3⟩ := hN i sd ks n1 n2
    rw [Nat.zero_add] at u1
    have i1 : (p.map plD)[i]? = some (plD e) := by rw [List.getElem?_map, g1]; rfl
    have i2 : (rs.map D.ref)[i]? = some (.ref r) := by rw [List.getElem?_map, u1]; rfl
    walk_at "dl"
    simp only [ixG_nat i1]
    cases e with
    | none =>
      simp only [plD, isG, isNone, Bool.true_bne, Bool.not_true, Bool.false_eq_true, if_false]
      exact hnx _ _ ⟨rfl, _, _, rfl⟩
    | some x =>
      obtain ⟨x0, x1⟩ := g3 x rfl
      have ib : ∀ Q, isiG K [.int x, .ty "bool"] M Q = Q (.bl false) M := fun Q => by simp [isiG, tyName, isB]
      simp only [plD, isG, isNone, Bool.true_bne, Bool.not_false, if_true, ib, isi_int, Bool.not_true, Bool.false_eq_true, if_false, x0, decide_true, ixg_at ha i2, ixg_at1 u2, lenG_at u3, List.length_map, x1]
      exact hnx _ _ ⟨rfl, _, _, rfl⟩
  · rintro τ M' ⟨rfl, o2, o3, rfl⟩
    walk_at "dl"
    exact dropQ_of k .refl
end K43

set_option maxHeartbeats 4000000
namespace K43
open PySem L2 DL DU
local macro_rules | `(tactic| walk_at "dl") => `(tactic| simp only [dSeq, dIfS, dB, dTru, truD, dOp, dVar, dC, dAsg, dAug, dCB, dCons, dNil, dRet, dRetN, dName, dGSub, dNext, ends, exOf, dstart, slot, oI0, oI, dAnd, dOr, dNot, dAndV, dOrV, dNotV, dNeg, dSl, dNoP, dPart, dFld, dFldS, dRaise, dLst, dTup, dFor, dIter, dRng1, dRng2, dCall, dMake, dMeth, dIxO, dLc, dYes, dGTup, dGCons, dGNil, dDrop, dBreak, dBM, dDIn, dNever, dChain, dRngD, dZip, dRaiseI, dLstRg, dDGet, dDGet2, dDNew, dGSubD, dDStar,
  eqD_str, neD_str, eqD_int, neD_int, ixG_t0, ixG_t1, isiG_str, isi_int, isi_int_s, isi_int_t, isi_tup, isi_tup_s, isi_tup_i, isi_str_i, isi_str_t, lenG_tup, addD_int, mulD_int, intG, List.nil_append, bne_iff_ne, ofS_inj, Bool.false_bne, Bool.true_bne,
  List.map, List.length_cons, List.length_nil, List.cons_append, List.append_nil, List.replicate, List.set, List.getElem?_cons_zero, List.getElem?_cons_succ, Option.join_some, Option.bind_some, decide_eq_true_eq])
variable {K : PySem.W.Frag} {A : Adr} {w : World} {mg : Str → Option Value}
theorem nodes_ne {M : Mp} {s l a : Addr} {ns : List Int} {rs : List Addr} (P : PSt M s l ns) (h : M a = some (.lst (rs.map D.ref))) : a ≠ s := by
  cases rs with
  | nil => exact pst_ne2 P h (.inl (by simp))
  | cons r rs => exact pst_ne2 P h (.inr ⟨.ref r, by simp, fun i => by simp⟩)
theorem drawn_ls {S : Addr → Prop} {M0 M : Mp} {s l : Addr} {ns : List Int} {k : Mp → Prop} (J : LS S M0 M s l ns) (h : ∀ M', LS S M0 M' s l ns → Ext (Is s) M M' → k M') : Drawn M s l ns k := fun M' P e => h M' ⟨P, J.X.trans (e.one J.S), J.S⟩ e
theorem okAt_app {p : Pl} {ks : List Nat} {e : Option Int} {j : Nat} (h : okAt p ks j) : okAt (p ++ [e]) ks j := by
  obtain ⟨x, k, h1, h2, h3⟩ := h
  exact ⟨x, k, by rw [List.getElem?_append_left (List.getElem?_eq_some_iff.mp h1).1]; exact h1, h2, h3⟩
theorem okAt_snoc {p : Pl} {ks : List Nat} {e : Option Int} {i k : Nat} (lp : p.length = i) (h : ∀ j, j < i → okAt p ks j) (hk : ks[i]? = some k) (he : ∀ o : Int, e = some o → 0 ≤ o ∧ o < k) : ∀ j, j < i + 1 → okAt (p ++ [e]) ks j := fun j hj => by
  by_cases c : j < i
  · exact okAt_app (h j c)
  · have : j = i := by omega
    subst this
    exact ⟨e, k, by rw [List.getElem?_append_right (by omega), lp, Nat.sub_self]; rfl, hk, he⟩
set_option maxHeartbeats 2000000 in
theorem r_law_drawn : ∀ ds M Q E, sp_law_drawn ds M Q E → t_law_drawn K A (ends Q E) (dstart N_law_drawn ds) M := by
  rintro ds M Q E ⟨s, l, ns, a, t, rfl, P, ⟨rs, ha, lr, hN⟩, g, k⟩
  have sl : sizeLine = 16777216 := sizeLine_eq
  have hn := g.2.2.1
  have nas := nodes_ne P ha
  have J := LS.zero (S := Is s) P rfl
  unfold t_law_drawn N_law_drawn
  walk_at "dl"
  simp only [itemsOf, keepOf, seqOf_lst ha]
  refine ⟨by omega, ?_⟩
  refine dLoop_inv (fun i τ M' => LS (Is s) M M' s l ns ∧ ∃ (p : Pl) (o3 : Option D), p.length = i ∧ (∀ j, j < i → okAt p (ar t) j) ∧ τ = [some (.ref s), some (.ref a), some (planD p), o3]) (fun i τ M' _ h => seqOf_lst (h.1.X _ _ nas ha)) ?_ ?_ ⟨J, [], none, rfl, fun j h => by omega, rfl⟩
  · rintro i d τ M' nxt hd ⟨J', p, o3, lp, ho, rfl⟩ hnx
    have hi : i < t.nn := by have := (List.getElem?_eq_some_iff.mp hd).1; rw [List.length_map] at this; omega
    obtain ⟨sd, ks, n1, n2, n3⟩ := node_at hi
    have hks := kids_small t 0 0 g.1 ks (List.mem_of_getElem? n2)
    obtain ⟨r, o, u1, u2, u3⟩ := (hN.draw P J'.X) i sd ks n1 n2
    rw [Nat.zero_add] at u1
    rw [List.getElem?_map, u1] at hd
    have : d = .ref r := by simpa using hd.symm
    subst this
    have go : ∀ (e : Option Int) M2, LS (Is s) M M2 s l ns → (∀ x : Int, e = some x → 0 ≤ x ∧ x < (ks.length : Nat)) → nxt [some (.ref s), some (.ref a), some (.tup (p.map plD ++ [plD e])), some (.ref r)] M2 := fun e M2 J2 he => hnx _ _ ⟨J2, p ++ [e], some (.ref r), by simp [lp], okAt_snoc lp ho (ar_at n2) he, by simp [planD]⟩
    walk_at "dl"
    simp only [ixg_at1 u2, lenG_at u3, List.length_map, planD]
    refine J'.pick (by omega) (log_small (by omega)) fun r0 M2 r1 r2 J2 e2 => ⟨by omega, ?_⟩
    refine J2.chooseP (vs := [.non, .int r0]) rfl (by simp) (by simp) fun q v M3 hv J3 e3 => ⟨by omega, ?_⟩
    simp only [addD, List.length_map, List.length_cons, List.length_nil]
    refine ⟨by omega, ?_⟩
    simp only [List.mem_cons, List.not_mem_nil, or_false] at hv
    rcases hv with rfl | rfl
    · exact go none M3 J3 (fun x h => by cases h)
    · exact go (some r0) M3 J3 (fun x h => by cases h; exact ⟨r1, r2⟩)
  · rintro τ M' ⟨J', p, o3, lp, ho, rfl⟩
    rw [List.length_map, lr] at lp ho
    walk_at "dl"
    exact dropQ_of (k p ⟨lp, ho⟩ M' J'.P J'.X) .refl
end K43

set_option maxHeartbeats 4000000
namespace K43
open PySem L2 DL DU
local macro_rules | `(tactic| walk_at "dl") => `(tactic| simp only [dSeq, dIfS, dB, dTru, truD, dOp, dVar, dC, dAsg, dAug, dCB, dCons, dNil, dRet, dRetN, dName, dGSub, dNext, ends, exOf, dstart, slot, oI0, oI, dAnd, dOr, dNot, dAndV, dOrV, dNotV, dNeg, dSl, dNoP, dPart, dFld, dFldS, dRaise, dLst, dTup, dFor, dIter, dRng1, dRng2, dCall, dMake, dMeth, dIxO, dLc, dYes, dGTup, dGCons, dGNil, dDrop, dBreak, dBM, dDIn, dNever, dChain, dRngD, dZip, dRaiseI, dLstRg, dDGet, dDGet2, dDNew, dGSubD, dDStar,
  eqD_str, neD_str, eqD_int, neD_int, ixG_t0, ixG_t1, isiG_str, isi_int, isi_int_s, isi_int_t, isi_tup, isi_tup_s, isi_tup_i, isi_str_i, isi_str_t, lenG_tup, addD_int, mulD_int, intG, List.nil_append, bne_iff_ne, ofS_inj, Bool.false_bne, Bool.true_bne,
  List.map, List.length_cons, List.length_nil, List.cons_append, List.append_nil, List.replicate, List.set, List.getElem?_cons_zero, List.getElem?_cons_succ, Option.join_some, Option.bind_some, decide_eq_true_eq])
variable {K : PySem.W.Frag} {A : Adr} {w : World} {mg : Str → Option Value}
def entries (n : Nat) : List (Option Int) := none :: (List.range n).map fun i => some ((i : Nat) : Int)
theorem entries_len {n : Nat} : (entries n).length = n + 1 := by simp [entries]
theorem entries_D {n : Nat} : D.non :: rgD 0 ((n : Nat) : Int) = (entries n).map plD := by
  unfold rgD entries
  have : (((n : Nat) : Int) - 0).toNat = n := by omega
  rw [this, List.map_cons, List.map_map]
  congr 1
  apply List.map_congr_left
  intro x _
  simp [plD]
theorem entries_ok {n : Nat} {e : Option Int} (h : e ∈ entries n) : ∀ o : Int, e = some o → 0 ≤ o ∧ o < (n : Nat) := by
  rintro o rfl
  unfold entries at h
  simp at h
  obtain ⟨i, hi, rfl⟩ := h
  omega
def prodTo (ks : List Nat) (i : Nat) : Nat := ((ks.take i).map (1 + ·)).prod
theorem prodTo_succ {ks : List Nat} {i k : Nat} (h : ks[i]? = some k) : prodTo ks (i + 1) = prodTo ks i * (1 + k) := by
  unfold prodTo
  rw [take_snoc h, List.map_append, List.prod_append]
  simp
theorem prodTo_pos {ks : List Nat} : ∀ {i : Nat}, 1 ≤ prodTo ks i := by
  intro i
  unfold prodTo
  generalize ks.take i = xs
  induction xs with
  | nil => simp
  | cons x xs ih => rw [List.map_cons, List.prod_cons]; exact Nat.mul_pos (by omega) ih
theorem prodTo_mono {ks : List Nat} {i : Nat} : prodTo ks i ≤ prodTo ks ks.length := by
  have : prodTo ks ks.length = prodTo ks i * ((ks.drop i).map (1 + ·)).prod := by
    unfold prodTo
    rw [List.take_length, ← List.prod_append, ← List.map_append, List.take_append_drop]
  rw [this]
  have p : 1 ≤ ((ks.drop i).map (1 + ·)).prod := by
    generalize ks.drop i = xs
    induction xs with
    | nil => simp
    | cons x xs ih => rw [List.map_cons, List.prod_cons]; exact Nat.mul_pos (by omega) ih
  exact Nat.le_mul_of_pos_right _ p
def okTo (t : Tr) (i : Nat) (p : Pl) : Prop := p.length = i ∧ ∀ j, j < i → okAt p (ar t) j
set_option maxHeartbeats 2000000 in
theorem r_law_plans : ∀ ds M Q E, sp_law_plans ds M Q E → t_law_plans K A (ends Q E) (dstart N_law_plans ds) M := by
  rintro ds M Q E ⟨a, t, rfl, ⟨rs, ha, lr, hN⟩, g, hpr, k⟩
  have sl : sizeLine = 16777216 := sizeLine_eq
  have hn := g.2.2.1
  have hpr' : prodTo (ar t) (ar t).length ≤ 100 := by unfold prodTo; rw [List.take_length]; exact hpr
  unfold t_law_plans N_law_plans
  simp only [dstart, List.map, List.length_cons, List.length_nil, List.replicate, List.cons_append, List.nil_append]
  refine seq_split (fun τ M' => ∃ q, M q = none ∧ M' = put M q (.lst [.tup []]) ∧ τ = [some (.ref a), some (.ref q), none, none, none, none]) ?_ ?_
  rotate_left
  · intro nx hnx
    walk_at "dl"
    exact ⟨by omega, by omega, fun q hq => hnx _ _ ⟨q, hq, rfl, rfl⟩⟩
  rintro τ M1 ⟨q0, hq0, rfl, rfl⟩
  refine seq_split (fun τ M' => Sub M M' ∧ ∃ (q : Addr) (ps : List Pl) (o2 o3 o4 o5 : Option D), M q = none ∧ M' q = some (.lst (ps.map planD)) ∧ (∀ p, p ∈ ps → okTo t t.nn p) ∧ τ = [some (.ref a), some (.ref q), o2, o3, o4, o5]) ?_ ?_
  rotate_left
  · intro nx hnx
    walk_at "dl"
    have ha1 := (Sub.refl (M := M)).put hq0 (o := .lst [.tup []]) _ _ ha
    simp only [itemsOf, keepOf, seqOf_lst ha1]
    refine dLoop_inv (fun i τ M' => Sub M M' ∧ ∃ (q : Addr) (ps : List Pl) (o2 o3 o4 o5 : Option D), M q = none ∧ M' q = some (.lst (ps.map planD)) ∧ ps.length = prodTo (ar t) i ∧ (∀ p, p ∈ ps → okTo t i p) ∧ τ = [some (.ref a), some (.ref q), o2, o3, o4, o5]) (fun i τ M' _ h => seqOf_lst (h.1 _ _ ha)) ?_ ?_ ⟨Sub.refl.put hq0, q0, [[]], none, none, none, none, hq0, put_same, by simp [prodTo], fun p hp => by simp at hp; subst hp; exact ⟨rfl, fun j h => by omega⟩, rfl⟩
    · rintro i d τ M' nxt hd ⟨s, q, ps, o2, o3, o4, o5, hq, hL, lps, hps, rfl⟩ hnx'
      have hi : i < t.nn := by have := (List.getElem?_eq_some_iff.mp hd).1; rw [List.length_map] at this; omega
      obtain ⟨sd, ks, n1, n2, n3⟩ := node_at hi
      have hks := kids_small t 0 0 g.1 ks (List.mem_of_getElem? n2)
      obtain ⟨r, o, u1, u2, u3⟩ := hN i sd ks n1 n2
      rw [Nat.zero_add] at u1
      rw [List.getElem?_map, u1] at hd
      have : d = .ref r := by simpa using hd.symm
      subst this
      have pm := prodTo_mono (ks := ar t) (i := i)
      have pm2 := prodTo_mono (ks := ar t) (i := i + 1)
      have psucc := prodTo_succ (ar_at n2)
      walk_at "dl"
      refine ⟨by omega, fun f hf => ?_⟩
      have hf0 := s.none hf
      have fq : q ≠ f := by rintro rfl; rw [hL] at hf; cases hf
      have hL2 : (put M' f (.lst [])) q = some (.lst (ps.map planD)) := by rw [put_ne fq]; exact hL
      simp only [itemsOf, keepOf, seqOf_lst hL2]
      refine dLoop_inv (fun j τ M' => Sub M M' ∧ M' q = some (.lst (ps.map planD)) ∧ ∃ (f : Addr) (qs : List Pl) (o4 o5 : Option D), M f = none ∧ f ≠ q ∧ M' f = some (.lst (qs.map planD)) ∧ qs.length = j * (1 + ks.length) ∧ (∀ p, p ∈ qs → okTo t (i + 1) p) ∧ τ = [some (.ref a), some (.ref q), some (.ref r), some (.ref f), o4, o5]) (fun j τ M' _ h => seqOf_lst h.2.1) ?_ ?_ ⟨s.put hf, hL2, f, [], o4, o5, hf0, fq.symm, by rw [put_same]; rfl, by simp, fun p hp => by simp at hp, rfl⟩
      · rintro j d τ M2 nxt2 hd2 ⟨s2, hq2, f, qs, o4, o5, hf, fq, hF, lqs, hqs, rfl⟩ hnx2
        rw [List.getElem?_map] at hd2
        cases e : ps[j]? with
        | none => rw [e] at hd2; cases hd2
        | some p =>
          rw [e] at hd2
          have : d = planD p := by simpa using hd2.symm
          subst this
          have hj : j < ps.length := (List.getElem?_eq_some_iff.mp e).1
          have hp := hps p (List.mem_of_getElem? e)
          have lb : j * (1 + ks.length) + (1 + ks.length) ≤ 100 := by
            have h1 : (j + 1) * (1 + ks.length) ≤ ps.length * (1 + ks.length) := Nat.mul_le_mul_right _ (by omega)
            rw [Nat.add_mul, Nat.one_mul] at h1
            rw [lps, ← psucc] at h1
            omega
          walk_at "dl"
          refine ⟨by omega, fun p1 hp1 => ?_⟩
          have s3 := s2.put hp1 (o := .lst [.non])
          have v2 := s3 _ _ u2
          have v3 := s3 _ _ u3
          simp only [ixg_at1 v2, lenG_at v3, List.length_map, rgEnds]
          refine ⟨⟨by omega, by omega, by omega, by omega, by omega⟩, fun p2 hp2 => ?_⟩
          have n12 : p1 ≠ p2 := by rintro rfl; rw [put_same] at hp2; cases hp2
          have w1 : (put (put M2 p1 (.lst [.non])) p2 (.lst (rgD 0 ((ks.length : Nat) : Int)))) p1 = some (.lst [.non]) := by rw [put_ne n12, put_same]
          have lrg : (rgD 0 ((ks.length : Nat) : Int)).length = ks.length := by unfold rgD; simp
          simp only [addD, w1, put_same, lrg, List.length_cons, List.length_nil]
          refine ⟨by omega, fun p3 hp3 => ?_⟩
          simp only [itemsOf, keepOf, seqOf, put_same]
          intro p4 hp4
          have n34 : p3 ≠ p4 := by rintro rfl; rw [put_same] at hp4; cases hp4
          have s4 : Sub M2 (put (put (put M2 p1 (.lst [.non])) p2 (.lst (rgD 0 ((ks.length : Nat) : Int)))) p3 (.lst ([.non] ++ rgD 0 ((ks.length : Nat) : Int)))) := ((Sub.refl.put hp1).put hp2).put hp3
          have w3 : (put (put (put M2 p1 (.lst [.non])) p2 (.lst (rgD 0 ((ks.length : Nat) : Int)))) p3 (.lst ([.non] ++ rgD 0 ((ks.length : Nat) : Int)))) p3 = some (.lst ([.non] ++ rgD 0 ((ks.length : Nat) : Int))) := put_same
          generalize (put (put (put M2 p1 (.lst [.non])) p2 (.lst (rgD 0 ((ks.length : Nat) : Int)))) p3 (.lst ([.non] ++ rgD 0 ((ks.length : Nat) : Int)))) = M3 at s4 w3 hp4
          refine dCL_map (xs := entries ks.length) plD (fun e => planD (p ++ [e])) entries_D (by rw [entries_len]; omega) (fun ys => seqOf_lst (by rw [put_ne n34]; exact w3)) (fun e he ys k' h => ?_) ?_
          · simp only [wipeD]
            walk_at "dl"
            simp only [planD, addD, List.length_map, List.length_cons, List.length_nil]
            have := hp.1
            exact ⟨by omega, by omega, by simpa [planD] using h⟩
          · have f4 : f ≠ p4 := by rintro rfl; rw [s4 _ _ hF] at hp4; cases hp4
            have hF2 : (put M3 p4 (.lst ((entries ks.length).map fun e => planD (p ++ [e])))) f = some (.lst (qs.map planD)) := by rw [put_ne f4]; exact s4 _ _ hF
            simp only [hF2, put_same, List.length_map, entries_len]
            refine ⟨by omega, fun p5 hp5 => hnx2 _ _ ⟨((s2.trans s4).put hp4).put hp5, ((s4.put hp4).put hp5) _ _ hq2, p5, qs ++ (entries ks.length).map (fun e => p ++ [e]), _, _, (((s2.trans s4).put hp4).none hp5), ?_, by rw [put_same]; simp, by simp [entries_len, lqs, Nat.add_mul]; omega, fun x hx => ?_, rfl⟩⟩
            · rintro rfl
              have := (s4.put hp4 (o := .lst ((entries ks.length).map fun e => planD (p ++ [e])))) _ _ hq2
              rw [this] at hp5; cases hp5
            · rw [List.mem_append] at hx
              rcases hx with hx | hx
              · exact hqs x hx
              · obtain ⟨e, he, rfl⟩ := List.mem_map.mp hx
                exact ⟨by simp [hp.1], okAt_snoc hp.1 hp.2 (ar_at n2) (entries_ok he)⟩
      · rintro τ M2 ⟨s2, hq2, f, qs, o4, o5, hf, fq, hF, lqs, hqs, rfl⟩
        rw [List.length_map] at lqs
        exact hnx' _ _ ⟨s2, f, qs, _, _, _, _, hf, hF, by rw [lqs, lps, psucc], hqs, rfl⟩
    · rintro τ M' ⟨s, q, ps, o2, o3, o4, o5, hq, hL, lps, hps, rfl⟩
      rw [List.length_map, lr] at hps
      exact hnx _ _ ⟨s, q, ps, o2, o3, o4, o5, hq, hL, hps, rfl⟩
  rintro τ M2 ⟨s, q, ps, o2, o3, o4, o5, hq, hL, hps, rfl⟩
  walk_at "dl"
  exact dropQ_of (k ps (fun p hp => hps p hp) q hq) (put_sub s hL)
end K43

set_option maxHeartbeats 4000000
namespace K43
open PySem L2 DL DU
local macro_rules | `(tactic| walk_at "dl") => `(tactic| simp only [dSeq, dIfS, dB, dTru, truD, dOp, dVar, dC, dAsg, dAug, dCB, dCons, dNil, dRet, dRetN, dName, dGSub, dNext, ends, exOf, dstart, slot, oI0, oI, dAnd, dOr, dNot, dAndV, dOrV, dNotV, dNeg, dSl, dNoP, dPart, dFld, dFldS, dRaise, dLst, dTup, dFor, dIter, dRng1, dRng2, dCall, dMake, dMeth, dIxO, dLc, dYes, dGTup, dGCons, dGNil, dDrop, dBreak, dBM, dDIn, dNever, dChain, dRngD, dZip, dRaiseI, dLstRg, dDGet, dDGet2, dDNew, dGSubD, dDStar,
  eqD_str, neD_str, eqD_int, neD_int, ixG_t0, ixG_t1, isiG_str, isi_int, isi_int_s, isi_int_t, isi_tup, isi_tup_s, isi_tup_i, isi_str_i, isi_str_t, lenG_tup, addD_int, mulD_int, intG, List.nil_append, bne_iff_ne, ofS_inj, Bool.false_bne, Bool.true_bne,
  List.map, List.length_cons, List.length_nil, List.cons_append, List.append_nil, List.replicate, List.set, List.getElem?_cons_zero, List.getElem?_cons_succ, Option.join_some, Option.bind_some, decide_eq_true_eq])
variable {K : PySem.W.Frag} {A : Adr} {w : World} {mg : Str → Option Value}
theorem prodTo_le {ks : List Nat} (h : ∀ k, k ∈ ks → k ≤ 12) : ∀ i, i ≤ ks.length → prodTo ks i ≤ 2 ^ (4 * i)
  | 0, _ => by simp [prodTo]
  | i + 1, hi => by
    have e := List.getElem?_eq_getElem (show i < ks.length by omega)
    rw [prodTo_succ e, Nat.mul_succ, Nat.pow_add]
    have h1 := prodTo_le h i (by omega)
    have h2 := h _ (List.mem_of_getElem? e)
    exact Nat.mul_le_mul h1 (by have : (2 : Nat) ^ 4 = 16 := by decide
                                omega)
theorem ar_small {t : Tr} (w : t.wf) : ∀ k, k ∈ ar t → 1 ≤ k ∧ k ≤ 12 := by
  intro k hk
  unfold ar at hk
  obtain ⟨ks, h, rfl⟩ := List.mem_map.mp hk
  exact kids_small t 0 0 w ks h
theorem plOk_const {t : Tr} (w : t.wf) {e : Option Int} {rs : List Addr} (lr : rs.length = t.nn) (he : e = none ∨ e = some 0) : plOk t (rs.map fun _ => e) := by
  refine ⟨by rw [List.length_map, lr], fun i hi => ?_⟩
  have h1 : i < rs.length := by omega
  have h2 : i < (ar t).length := by rw [ar_len]; exact hi
  refine ⟨e, (ar t)[i], by rw [List.getElem?_map, List.getElem?_eq_getElem h1]; rfl, List.getElem?_eq_getElem h2, fun o ho => ?_⟩
  have := ar_small w _ (List.getElem_mem h2)
  rcases he with rfl | rfl
  · cases ho
  · cases ho; omega
set_option maxHeartbeats 2000000 in
theorem r_law_chosen : ∀ ds M Q E, sp_law_chosen ds M Q E → t_law_chosen K A (ends Q E) (dstart N_law_chosen ds) M := by
  rintro ds M Q E ⟨s, l, ns, a, t, rfl, P, hA, g, k⟩
  obtain ⟨rs, ha, lr, hN⟩ := hA
  have hA : NodesAt M a t := ⟨rs, ha, lr, hN⟩
  have sl : sizeLine = 16777216 := sizeLine_eq
  have hn := g.2.2.1
  have nas := nodes_ne P ha
  have J := LS.zero (S := Is s) P rfl
  have lar : (ar t).length = t.nn := ar_len
  unfold t_law_chosen N_law_chosen
  simp only [dstart, List.map, List.length_cons, List.length_nil, List.replicate, List.cons_append, List.nil_append]
  refine seq_split (fun τ M' => M = M' ∧ τ = [some (.ref s), some (.ref a), some (.int 1), none, none, none]) ?_ ?_
  rotate_left
  · intro nx hnx
    walk_at "dl"
    exact hnx _ _ ⟨rfl, rfl⟩
  rintro τ M1 ⟨rfl, rfl⟩
  refine seq_split (fun τ M' => M = M' ∧ ∃ o3 o4 o5, τ = [some (.ref s), some (.ref a), some (.int (prodTo (ar t) t.nn : Nat)), o3, o4, o5]) ?_ ?_
  rotate_left
  · intro nx hnx
    walk_at "dl"
    simp only [itemsOf, keepOf, seqOf_lst ha]
    refine dLoop_inv (fun i τ M' => M = M' ∧ ∃ o3 o4 o5, τ = [some (.ref s), some (.ref a), some (.int (prodTo (ar t) i : Nat)), o3, o4, o5]) (fun i τ M' _ h => seqOf_lst (by rw [← h.1]; exact ha)) ?_ ?_ ⟨rfl, none, none, none, by simp [prodTo]⟩
    · rintro i d τ M' nxt hd ⟨rfl, o3, o4, o5, rfl⟩ hnx'
      have hi : i < t.nn := by have := (List.getElem?_eq_some_iff.mp hd).1; rw [List.length_map] at this; omega
      obtain ⟨sd, ks, n1, n2, n3⟩ := node_at hi
      have hks := kids_small t 0 0 g.1 ks (List.mem_of_getElem? n2)
      obtain ⟨r, o, u1, u2, u3⟩ := hN i sd ks n1 n2
      rw [Nat.zero_add] at u1
      rw [List.getElem?_map, u1] at hd
      have : d = .ref r := by simpa using hd.symm
      subst this
      have pl := prodTo_le (fun k hk => (ar_small g.1 k hk).2) i (by omega)
      walk_at "dl"
      simp only [ixg_at1 u2, lenG_at u3, List.length_map, mulD]
      refine ⟨mulx_ok (a := 4 * i + 1) (b := 5) ?_ ?_ (by omega), hnx' _ _ ⟨rfl, some (.ref r), o4, o5, by rw [prodTo_succ (ar_at n2)]; simp⟩⟩
      · rw [Int.natAbs_natCast, Nat.pow_succ]; have := Nat.two_pow_pos (4 * i); omega
      · have : (2 : Nat) ^ 5 = 32 := by decide
        omega
    · rintro τ M' ⟨rfl, o3, o4, o5, rfl⟩
      rw [List.length_map, lr]
      exact hnx _ _ ⟨rfl, o3, o4, o5, rfl⟩
  rintro τ M1 ⟨rfl, o3, o4, o5, rfl⟩
  refine seq_split (fun τ M' => M = M' ∧ τ = [some (.ref s), some (.ref a), some (.int (prodTo (ar t) t.nn : Nat)), o3, o4, o5]) ?_ ?_
  rotate_left
  · intro nx hnx
    walk_at "dl"
    by_cases c : ((prodTo (ar t) t.nn : Nat) : Int) ≤ 100
    · simp only [c, decide_true, if_true]
      refine ⟨a, t, rfl, hA, g, ?_, fun ps hps p hp => dropQ_of (k p ps hp hps _ (P.new hp) (.lay hp) put_same) .refl⟩
      have : prodTo (ar t) t.nn ≤ 100 := by omega
      unfold prodTo at this
      rwa [← lar, List.take_length] at this
    · simp only [c, decide_false, Bool.false_eq_true, if_false]
      exact hnx _ _ ⟨rfl, rfl⟩
  rintro τ M1 ⟨rfl, rfl⟩
  have tupC : ∀ (e : Option Int) (v : D) (M' : Mp) (R : D → Mp → Prop) (τ : Sl), v = plD e → LS (Is s) M M' s l ns → (∀ p, M' p = none → R (planD (rs.map fun _ => e)) (put M' p (.lst (rs.map fun _ => v)))) → ∀ p, M' p = none → dCL (fun d τ => τ.set 3 (some d)) dYes (dC v) (fun M => seqOf M a = some (rs.map D.ref)) p (wipeD τ [3]) (fun M2 => tupG [.ref p] M2 R) (rs.map D.ref) (put M' p (.lst [])) := by
    intro e v M' R τ hv J' hR p hp
    have ap : a ≠ p := by rintro rfl; rw [J'.X _ _ nas ha] at hp; cases hp
    refine dCL_map (xs := rs) D.ref (fun _ => v) rfl (by omega) (fun ys => seqOf_lst (by rw [put_ne ap]; exact J'.X _ _ nas ha)) (fun o ho ys k' h => ?_) ?_
    · exact h
    · simp only [tup_put]
      have := hR p hp
      unfold planD at this
      rw [List.map_map] at this
      subst hv
      exact this
  refine seq_split (fun τ M' => LS (Is s) M M' s l ns ∧ ∃ (q : Addr) (ps : List Pl), Own (Is s) M M' s l q (.lst (ps.map planD)) ∧ M q = none ∧ ps.length = 10 ∧ (∀ p, p ∈ ps → plOk t p) ∧ τ = [some (.ref s), some (.ref a), some (.int (prodTo (ar t) t.nn : Nat)), o3, some (.ref q), o5]) ?_ ?_
  rotate_left
  · intro nx hnx
    walk_at "dl"
    refine ⟨by omega, by omega, fun q hq => ?_⟩
    refine dCL_draws planD (plOk t) (J.new hq) (.new J hq) (by simp) (fun _ _ _ => trivial) (fun i d M' k' hd J' e' hk => ?_) fun xs M' hx hxs J' e' O' => ?_
    · simp only [wipeD]
      walk_at "dl"
      exact ⟨s, l, ns, a, t, rfl, J'.P, hA.draw P J'.X, g, fun p hp => drawn_ls J' fun M2 J2 e2 => hk p M2 hp J2 e2⟩
    · exact hnx _ _ ⟨J', q, xs, O', hq, by simpa using hx, hxs, rfl⟩
  rintro τ M2 ⟨J2, q, ps, O2, hq, lps, hps, rfl⟩
  refine seq_split (fun τ M' => LS (Is s) M M' s l ns ∧ ∃ (ps : List Pl), Own (Is s) M M' s l q (.lst (ps.map planD)) ∧ ps.length = 11 ∧ (∀ p, p ∈ ps → plOk t p) ∧ τ = [some (.ref s), some (.ref a), some (.int (prodTo (ar t) t.nn : Nat)), o3, some (.ref q), o5]) ?_ ?_
  rotate_left
  · intro nx hnx
    have ha2 := J2.X _ _ nas ha
    walk_at "dl"
    simp only [metT_list O2.a, itemsOf, keepOf, seqOf_lst ha2, true_and]
    refine tupC none .non M2 _ _ rfl J2 fun p hp => ?_
    have O3 := O2.lay hp (u := .lst (rs.map fun _ => D.non))
    simp only [append_at O3.a, List.length_map]
    refine ⟨by omega, hnx _ _ ⟨(J2.new hp).set O3, ps ++ [rs.map fun _ => none], by simpa using O3.set, by simp [lps], fun x hx => ?_, rfl⟩⟩
    rcases List.mem_append.mp hx with h | h
    · exact hps x h
    · rw [List.mem_singleton.mp h]; exact plOk_const g.1 lr (.inl rfl)
  rintro τ M3 ⟨J3, ps, O3, lps, hps, rfl⟩
  refine seq_split (fun τ M' => LS (Is s) M M' s l ns ∧ ∃ (ps : List Pl), Own (Is s) M M' s l q (.lst (ps.map planD)) ∧ (∀ p, p ∈ ps → plOk t p) ∧ τ = [some (.ref s), some (.ref a), some (.int (prodTo (ar t) t.nn : Nat)), o3, some (.ref q), o5]) ?_ ?_
  rotate_left
  · intro nx hnx
    have ha2 := J3.X _ _ nas ha
    walk_at "dl"
    simp only [metT_list O3.a, itemsOf, keepOf, seqOf_lst ha2, true_and]
    refine tupC (some 0) (.int 0) M3 _ _ rfl J3 fun p hp => ?_
    have O4 := O3.lay hp (u := .lst (rs.map fun _ => D.int 0))
    simp only [append_at O4.a, List.length_map]
    refine ⟨by omega, hnx _ _ ⟨(J3.new hp).set O4, ps ++ [rs.map fun _ => some 0], by simpa using O4.set, fun x hx => ?_, rfl⟩⟩
    rcases List.mem_append.mp hx with h | h
    · exact hps x h
    · rw [List.mem_singleton.mp h]; exact plOk_const g.1 lr (.inr rfl)
  rintro τ M4 ⟨J4, ps, O4, hps, rfl⟩
  walk_at "dl"
  exact dropQ_of (k q ps hq hps M4 J4.P J4.X O4.a) .refl
theorem cL_snoc {v : Int} {t : Tr} : ∀ (ts : List Tr), cL v (ts ++ [t]) = ((cL v ts).1 * ((cT t).1 + (cT t).2), (cL v ts).2 * pk (cT t) v)
  | [] => by simp [cL]
  | u :: ts => by
    rw [List.cons_append, cL, cL_snoc ts, cL]
    simp only [Int.mul_assoc]
theorem cL_bnd {v : Int} (hv : bit v) {ts : List Tr} (w : wfL ts) : (cL v ts).1.natAbs < 2 ^ (nlL ts + 1) ∧ (cL v ts).2.natAbs < 2 ^ (nlL ts + 1) := by
  obtain ⟨h1, h2⟩ := cL_cnt v hv ts w
  have c : cnt (2 ^ nlL ts) (allx v ts) ≤ 2 ^ nlL ts := by unfold cnt; exact Nat.le_trans List.countP_le_length (by simp)
  have p := Nat.two_pow_pos (nlL ts)
  rw [h1, h2, Nat.pow_succ]
  simp only [Int.natAbs_natCast]
  omega
theorem cT_bnd {v : Int} (hv : bit v) {t : Tr} (w : t.wf) : ((cT t).1 + (cT t).2).natAbs < 2 ^ (t.nl + 1) ∧ (pk (cT t) v).natAbs < 2 ^ (t.nl + 1) := by
  obtain ⟨h1, h2⟩ := cT_cnt t w
  have c : (cnt (2 ^ t.nl) fun x => decide (wx t x = v)) ≤ 2 ^ t.nl := by unfold cnt; exact Nat.le_trans List.countP_le_length (by simp)
  have p := Nat.two_pow_pos t.nl
  rw [h2, h1 v hv, Nat.pow_succ]
  simp only [Int.natAbs_natCast]
  omega
theorem wfL_take {ts : List Tr} {i : Nat} (w : wfL ts) : wfL (ts.take i) := wfL_mem.mpr fun t ht => wfL_mem.mp w t (List.mem_of_mem_take ht)
set_option maxHeartbeats 2000000 in
theorem r_law_counts {n : Nat} : ∀ ds M Q E, sp_law_counts (n + 1) ds M Q E → t_law_counts K A n (ends Q E) (dstart N_law_counts ds) M := by
  rintro ds M Q E ⟨t, rfl, w, hh, hl, k⟩
  have sl : sizeLine = 16777216 := sizeLine_eq
  unfold t_law_counts N_law_counts
  cases t with
  | lf o =>
    simp only [Tr.toD]
    walk_at "dl"
    simp only [decide_true, if_true]
    exact ⟨by omega, fun q hq => dropQ_of (by simpa [cT] using k q hq) .refl⟩
  | nd s ts =>
    have lk := len_kid w
    rw [nl_nd] at hl
    have w' := w
    rw [Tr.wf] at w'
    have hs : bit s := w'.1
    have hv := bit_flip hs
    simp only [Tr.toD]
    simp only [dstart, List.map, List.length_cons, List.length_nil, List.replicate, List.cons_append, List.nil_append]
    refine seq_split (fun τ M' => M = M' ∧ τ = [some (.tup (.str "node" :: .int s :: toDs ts)), none, none, none, none, none]) ?_ ?_
    rotate_left
    · intro nx hnx
      walk_at "dl"
      exact hnx _ _ ⟨rfl, rfl⟩
    rintro τ M1 ⟨rfl, rfl⟩
    refine seq_split (fun τ M' => M = M' ∧ τ = [some (.tup (.str "node" :: .int s :: toDs ts)), some (.int 1), none, none, none, none]) ?_ ?_
    rotate_left
    · intro nx hnx
      walk_at "dl"
      exact hnx _ _ ⟨rfl, rfl⟩
    rintro τ M1 ⟨rfl, rfl⟩
    refine seq_split (fun τ M' => M = M' ∧ τ = [some (.tup (.str "node" :: .int s :: toDs ts)), some (.int 1), some (.int 1), none, none, none]) ?_ ?_
    rotate_left
    · intro nx hnx
      walk_at "dl"
      exact hnx _ _ ⟨rfl, rfl⟩
    rintro τ M1 ⟨rfl, rfl⟩
    refine seq_split (fun τ M' => Sub M M' ∧ ∃ o3 o4 o5, τ = [some (.tup (.str "node" :: .int s :: toDs ts)), some (.int (cL (1 - s) ts).1), some (.int (cL (1 - s) ts).2), o3, o4, o5]) ?_ ?_
    rotate_left
    · intro nx hnx
      walk_at "dl"
      simp only [slG, cut2, itemsOf, keepOf]
      refine dLoop_inv (fun i τ M' => Sub M M' ∧ ∃ o3 o4 o5, τ = [some (.tup (.str "node" :: .int s :: toDs ts)), some (.int (cL (1 - s) (ts.take i)).1), some (.int (cL (1 - s) (ts.take i)).2), o3, o4, o5]) (fun _ _ _ _ _ => trivial) ?_ ?_ ⟨.refl, none, none, none, by simp [cL]⟩
      · rintro i d τ M' nxt hd ⟨s', o3, o4, o5, rfl⟩ hnx'
        obtain ⟨t, e, rfl⟩ := toDs_at hd
        have ht := List.mem_of_getElem? e
        have hk4 := nl_take (ts := ts) (i := i + 1)
        have hk2 := nl_snoc e
        have b1 := cL_bnd hv (wfL_take (i := i) w'.2.2.2)
        have b2 := cT_bnd hv (wf_kid w ht)
        have hc := cL_snoc (v := 1 - s) (t := t) (ts.take i)
        rw [← take_app e] at hc
        walk_at "dl"
        refine ⟨t, rfl, wf_kid w ht, ht_kid hh ht, by omega, fun q hq => ?_⟩
        have c0 : (put M' q (.lst [.int (cT t).1, .int (cT t).2])) q = some (.lst [.int (cT t).1, .int (cT t).2]) := put_same
        have cs : ∀ Q, ixG (.ref q) (.int (1 - s)) (put M' q (.lst [.int (cT t).1, .int (cT t).2])) Q = Q (.int (pk (cT t) (1 - s))) (put M' q (.lst [.int (cT t).1, .int (cT t).2])) := fun Q => by
          rcases hs with rfl | rfl
          · exact ixg_at1 c0
          · exact ixg_at0 c0
        simp only [ixg_at0 c0, ixg_at1 c0, cs, mulD]
        refine ⟨mulx_ok b1.1 b2.1 (by omega), ?_⟩
        rw [cs]
        refine ⟨mulx_ok b1.2 b2.2 (by omega), hnx' _ _ ⟨s'.put hq, _, _, _, by rw [hc]⟩⟩
      · rintro τ M' ⟨s', o3, o4, o5, rfl⟩
        rw [toDs_len, List.take_length]
        exact hnx _ _ ⟨s', o3, o4, o5, rfl⟩
    rintro τ M2 ⟨s2, o3, o4, o5, rfl⟩
    walk_at "dl"
    refine ⟨by omega, fun q hq => ?_⟩
    simp only [put_same]
    have hq0 := s2.none hq
    have fin : (if s = 0 then ([.int ((cL (1 - s) ts).1 - (cL (1 - s) ts).2), .int (cL (1 - s) ts).2] : List D) else [.int (cL (1 - s) ts).2, .int ((cL (1 - s) ts).1 - (cL (1 - s) ts).2)]) = [.int (cT (.nd s ts)).1, .int (cT (.nd s ts)).2] := by
      rw [cT]
      split <;> rfl
    have k' := k q hq0
    rw [← fin] at k'
    rcases hs with rfl | rfl
    · simp only [List.length_cons, List.length_nil, show ixN (0 + 1 + 1) (1 - 0) = some 1 from rfl, put_put]
      exact dropQ_of k' (s2.both)
    · simp only [List.length_cons, List.length_nil, show ixN (0 + 1 + 1) (1 - 1) = some 0 from rfl, put_put]
      exact dropQ_of k' (s2.both)
end K43

set_option maxHeartbeats 4000000
namespace K43
open PySem L2 DL DU
local macro_rules | `(tactic| walk_at "dl") => `(tactic| simp only [dSeq, dIfS, dB, dTru, truD, dOp, dVar, dC, dAsg, dAug, dCB, dCons, dNil, dRet, dRetN, dName, dGSub, dNext, ends, exOf, dstart, slot, oI0, oI, dAnd, dOr, dNot, dAndV, dOrV, dNotV, dNeg, dSl, dNoP, dPart, dFld, dFldS, dRaise, dLst, dTup, dFor, dIter, dRng1, dRng2, dCall, dMake, dMeth, dIxO, dLc, dYes, dGTup, dGCons, dGNil, dDrop, dBreak, dBM, dDIn, dNever, dChain, dRngD, dZip, dRaiseI, dLstRg, dDGet, dDGet2, dDNew, dGSubD, dDStar,
  eqD_str, neD_str, eqD_int, neD_int, ixG_t0, ixG_t1, isiG_str, isi_int, isi_int_s, isi_int_t, isi_tup, isi_tup_s, isi_tup_i, isi_str_i, isi_str_t, lenG_tup, addD_int, mulD_int, intG, List.nil_append, bne_iff_ne, ofS_inj, Bool.false_bne, Bool.true_bne,
  List.map, List.length_cons, List.length_nil, List.cons_append, List.append_nil, List.replicate, List.set, List.getElem?_cons_zero, List.getElem?_cons_succ, Option.join_some, Option.bind_some, decide_eq_true_eq])
variable {K : PySem.W.Frag} {A : Adr} {w : World} {mg : Str → Option Value}
theorem bit_of {r : Int} (h0 : 0 ≤ r) (h1 : r < 2) : bit r := by unfold bit; omega
theorem wf_lf {r : Int} (h : bit r) : (Tr.lf r).wf := by rw [Tr.wf]; exact h
theorem wf_nd {r : Int} {ts : List Tr} (h : bit r) (h1 : 1 ≤ ts.length) (h2 : ts.length ≤ 12) (h3 : wfL ts) : (Tr.nd r ts).wf := by rw [Tr.wf]; exact ⟨h, h1, h2, h3⟩
theorem wfL_app {ts us : List Tr} (a : wfL ts) (b : wfL us) : wfL (ts ++ us) := wfL_mem.mpr fun t h => by
  rcases List.mem_append.mp h with h | h
  · exact wfL_mem.mp a t h
  · exact wfL_mem.mp b t h
theorem wfL_one {t : Tr} (h : t.wf) : wfL [t] := by rw [wfL, wfL]; exact ⟨h, trivial⟩
theorem htL_app {ts us : List Tr} {n : Nat} (a : htL ts ≤ n) (b : htL us ≤ n) : htL (ts ++ us) ≤ n := htL_le.mpr fun t h => by
  rcases List.mem_append.mp h with h | h
  · exact htL_le.mp a t h
  · exact htL_le.mp b t h
theorem htL_one {t : Tr} : htL [t] = t.ht := by simp [htL]
theorem nn_one {t : Tr} : nnL [t] = t.nn := by rw [nnL_cons, nnL_nil]; rfl
theorem nl_one {t : Tr} : nlL [t] = t.nl := by rw [nlL_cons, nlL_nil]; rfl
theorem ht_lf {r : Int} : (Tr.lf r).ht = 0 := by rw [Tr.ht]
theorem ht_nd {r : Int} {ts : List Tr} : (Tr.nd r ts).ht = htL ts + 1 := by rw [Tr.ht]
def manies : List D := [.int 1, .int 2, .int 2, .int 2, .int 3, .int 3, .int 5, .int 12]
set_option maxHeartbeats 2000000 in
theorem r_law_tree {n : Nat} : ∀ ds M Q E, sp_law_tree (n + 1) ds M Q E → t_law_tree K A n (ends Q E) (dstart N_law_tree ds) M := by
  rintro ds M Q E ⟨s, l, ns, lv, ro, x, y, rfl, P, nrs, nrl, hro, hlv, hx, hy, k⟩
  have sl : sizeLine = 16777216 := sizeLine_eq
  have J := LS.zero (S := In2 s ro) P (.inl rfl)
  have O : Own (In2 s ro) M M s l ro (.lst [.int (x : Nat), .int (y : Nat)]) := ⟨hro, .inr (.inr rfl), nrs, nrl⟩
  unfold t_law_tree N_law_tree
  simp only [dstart, List.map, List.length_cons, List.length_nil, List.replicate, List.cons_append, List.nil_append]
  refine seq_split (fun τ M' => (0 < lv ∧ 0 < x) ∧ M = M' ∧ τ = [some (.ref s), some (.int (lv : Nat)), some (.ref ro), none, none, none, none]) ?_ ?_
  rotate_left
  · intro nx hnx
    refine ifS_p (lv = 0 ∨ x = 0) (fun Q' E' q1 q2 => ?_) (fun c => ?_) fun c => hnx _ _ ⟨by omega, rfl, rfl⟩
    · walk_at "dl"
      simp only [ixg_at0 hro]
      by_cases c1 : ((lv : Nat) : Int) = 0
      · simp only [c1, decide_true, if_true]; exact q1 (.inl (by omega))
      · simp only [c1, decide_false, Bool.false_eq_true, if_false]
        by_cases c2 : ((x : Nat) : Int) = 0
        · simp only [eqD_int, c2, decide_true]; exact q1 (.inr (by omega))
        · simp only [eqD_int, c2, decide_false]; exact q2 (by omega)
    · walk_at "dl"
      refine J.pick (by decide) (by decide) fun r M2 r0 r1 J2 e2 => ⟨by omega, ?_⟩
      have := k (.lf r) M2 x y (wf_lf (bit_of r0 r1)) (by rw [ht_lf]; omega) (by rw [nn_lf]; omega) (by rw [nl_lf]; omega) J2.P J2.X (O.ext e2).a
      rw [Tr.toD] at this
      exact dropQ_of this .refl
  rintro τ M1 ⟨⟨l0, x0⟩, rfl, rfl⟩
  refine seq_split (fun τ M' => LS (In2 s ro) M M' s l ns ∧ Own (In2 s ro) M M' s l ro (.lst [.int (x : Nat), .int (y : Nat)]) ∧ ∃ m : Nat, 1 ≤ m ∧ m ≤ 12 ∧ m ≤ 1 + y ∧ τ = [some (.ref s), some (.int (lv : Nat)), some (.ref ro), some (.int (m : Nat)), none, none, none]) ?_ ?_
  rotate_left
  · intro nx hnx
    walk_at "dl"
    simp only [ixg_at1 hro]
    refine ⟨by omega, ?_⟩
    refine J.chooseP (vs := manies) rfl (by decide) (by decide) fun q v M2 hv J2 e2 => ?_
    have e2' : Ext (Is s) M M2 := e2
    have O2 := O.ext e2'
    have : ∃ m : Nat, 1 ≤ m ∧ m ≤ 12 ∧ v = .int (m : Nat) := by
      simp only [manies, List.mem_cons, List.not_mem_nil, or_false] at hv
      rcases hv with rfl | rfl | rfl | rfl | rfl | rfl | rfl | rfl
      · exact ⟨1, by omega, by omega, rfl⟩
      · exact ⟨2, by omega, by omega, rfl⟩
      · exact ⟨2, by omega, by omega, rfl⟩
      · exact ⟨2, by omega, by omega, rfl⟩
      · exact ⟨3, by omega, by omega, rfl⟩
      · exact ⟨3, by omega, by omega, rfl⟩
      · exact ⟨5, by omega, by omega, rfl⟩
      · exact ⟨12, by omega, by omega, rfl⟩
    obtain ⟨m, m1, m2, rfl⟩ := this
    simp only [mmG]
    split
    · exact hnx _ _ ⟨J2, O2, m, m1, m2, by omega, rfl⟩
    · refine hnx _ _ ⟨J2, O2, 1 + y, by omega, by omega, by omega, ?_⟩
      have : (1 : Int) + ((y : Nat) : Int) = ((1 + y : Nat) : Int) := by omega
      rw [this]
  rintro τ M2 ⟨J2, O2, m, m1, m2, m3, rfl⟩
  refine seq_split (fun τ M' => LS (In2 s ro) M M' s l ns ∧ Own (In2 s ro) M M' s l ro (.lst [.int ((x - 1 : Nat) : Int), .int (y : Nat)]) ∧ τ = [some (.ref s), some (.int (lv : Nat)), some (.ref ro), some (.int (m : Nat)), none, none, none]) ?_ ?_
  rotate_left
  · intro nx hnx
    walk_at "dl"
    simp only [ixg_at0 O2.a, O2.a, List.length_cons, List.length_nil, show ixN (0 + 1 + 1) 0 = some 0 from rfl, List.set_cons_zero]
    have : ((x : Nat) : Int) - 1 = ((x - 1 : Nat) : Int) := by omega
    rw [this]
    exact hnx _ _ ⟨J2.set O2, O2.set, rfl⟩
  rintro τ M3 ⟨J3, O3, rfl⟩
  refine seq_split (fun τ M' => LS (In2 s ro) M M' s l ns ∧ Own (In2 s ro) M M' s l ro (.lst [.int ((x - 1 : Nat) : Int), .int ((y - (m - 1) : Nat) : Int)]) ∧ τ = [some (.ref s), some (.int (lv : Nat)), some (.ref ro), some (.int (m : Nat)), none, none, none]) ?_ ?_
  rotate_left
  · intro nx hnx
    walk_at "dl"
    simp only [ixg_at1 O3.a, O3.a, List.length_cons, List.length_nil, show ixN (0 + 1 + 1) 1 = some 1 from rfl, List.set_cons_succ, List.set_cons_zero]
    have : ((y : Nat) : Int) - (((m : Nat) : Int) - 1) = ((y - (m - 1) : Nat) : Int) := by omega
    rw [this]
    exact hnx _ _ ⟨J3.set O3, O3.set, rfl⟩
  rintro τ M4 ⟨J4, O4, rfl⟩
  refine seq_split (fun τ M' => LS (In2 s ro) M M' s l ns ∧ Own (In2 s ro) M M' s l ro (.lst [.int ((x - 1 : Nat) : Int), .int ((y - (m - 1) : Nat) : Int)]) ∧ ∃ p, p ≠ ro ∧ Own (In2 s ro) M M' s l p (.lst []) ∧ τ = [some (.ref s), some (.int (lv : Nat)), some (.ref ro), some (.int (m : Nat)), some (.ref p), none, none]) ?_ ?_
  rotate_left
  · intro nx hnx
    walk_at "dl"
    exact ⟨by omega, fun p hp => hnx _ _ ⟨J4.new hp, O4.lay hp, p, (by rintro rfl; rw [O4.a] at hp; cases hp), .new J4 hp, rfl⟩⟩
  rintro τ M5 ⟨J5, O5, p, npr, Op5, rfl⟩
  refine seq_split (fun τ M' => LS (In2 s ro) M M' s l ns ∧ ∃ (ts : List Tr) (x' y' : Nat) (o5 o6 : Option D), Own (In2 s ro) M M' s l ro (.lst [.int (x' : Nat), .int (y' : Nat)]) ∧ Own (In2 s ro) M M' s l p (.lst (ts.map Tr.toD)) ∧ ts.length = m ∧ wfL ts ∧ htL ts ≤ lv - 1 ∧ nnL ts + x' ≤ x - 1 ∧ nlL ts + y' ≤ y - (m - 1) + m ∧ τ = [some (.ref s), some (.int (lv : Nat)), some (.ref ro), some (.int (m : Nat)), some (.ref p), o5, o6]) ?_ ?_
  rotate_left
  · intro nx hnx
    walk_at "dl"
    simp only [Int.toNat_natCast]
    refine ⟨by omega, by omega, ?_⟩
    refine dLoop_inv (fun i τ M' => LS (In2 s ro) M M' s l ns ∧ ∃ (ts : List Tr) (x' y' : Nat) (o5 o6 : Option D), Own (In2 s ro) M M' s l ro (.lst [.int (x' : Nat), .int (y' : Nat)]) ∧ Own (In2 s ro) M M' s l p (.lst (ts.map Tr.toD)) ∧ ts.length = i ∧ wfL ts ∧ htL ts ≤ lv - 1 ∧ nnL ts + x' ≤ x - 1 ∧ nlL ts + y' ≤ y - (m - 1) + i ∧ τ = [some (.ref s), some (.int (lv : Nat)), some (.ref ro), some (.int (m : Nat)), some (.ref p), o5, o6]) (fun _ _ _ _ _ => trivial) ?_ ?_ ⟨J5, [], _, _, none, none, O5, Op5, rfl, by simp [wfL], by simp [htL], by rw [nnL_nil]; omega, by rw [nlL_nil]; omega, rfl⟩
    · rintro i d τ M' nxt hd ⟨J', ts, x', y', o5, o6, Or, Op, lt, wt, ht, nt, nlt, rfl⟩ hnx'
      obtain ⟨hi, rfl⟩ := rng_at hd
      refine seq_split (fun τ M'' => M' = M'' ∧ τ = [some (.ref s), some (.int (lv : Nat)), some (.ref ro), some (.int (m : Nat)), some (.ref p), some (.int (i : Nat)), some (.int ((lv - 1 : Nat) : Int))]) ?_ ?_
      rotate_left
      · intro nx2 hnx2
        walk_at "dl"
        have : ((lv : Nat) : Int) - 1 = ((lv - 1 : Nat) : Int) := by omega
        rw [this]
        exact hnx2 _ _ ⟨rfl, rfl⟩
      rintro τ M6 ⟨rfl, rfl⟩
      refine seq_split (fun τ M'' => LS (In2 s ro) M M'' s l ns ∧ Ext (Is s) M' M'' ∧ ∃ dp : Nat, dp ≤ lv - 1 ∧ τ = [some (.ref s), some (.int (lv : Nat)), some (.ref ro), some (.int (m : Nat)), some (.ref p), some (.int (i : Nat)), some (.int (dp : Nat))]) ?_ ?_
      rotate_left
      · intro nx2 hnx2
        walk_at "dl"
        refine J'.pick (by decide) (by decide) fun r M2 r0 r1 J2 e2 => ?_
        by_cases c : r = 0
        · simp only [c, eqD_int, decide_true, if_true]
          exact hnx2 _ _ ⟨J2, e2, 0, by omega, rfl⟩
        · simp only [c, eqD_int, decide_false, Bool.false_eq_true, if_false]
          exact hnx2 _ _ ⟨J2, e2, _, by omega, rfl⟩
      rintro τ M6 ⟨J6, e6, dp, hdp, rfl⟩
      have Or6 := Or.ext e6
      have Op6 := Op.ext e6
      walk_at "dl"
      refine ⟨by rw [metT_list Op6.a]; trivial, s, l, ns, dp, ro, x', y', rfl, J6.P, nrs, nrl, Or6.a, by omega, by omega, by omega, fun t M7 x2 y2 wt2 ht2 nt2 nl2 P7 e7 h7 => ?_⟩
      have np : ¬ In2 s ro p := by unfold In2; simp [Op.ns, npr]
      have J7 : LS (In2 s ro) M M7 s l ns := ⟨P7, J6.X.trans e7, J6.S⟩
      have Op7 := Op6.extS np e7
      have Or7 : Own (In2 s ro) M M7 s l ro (.lst [.int (x2 : Nat), .int (y2 : Nat)]) := ⟨h7, .inr (.inr rfl), nrs, nrl⟩
      simp only [append_at Op7.a, List.length_map]
      refine ⟨by omega, hnx' _ _ ⟨J7.set Op7, ts ++ [t], x2, y2, some (.int (i : Nat)), some (.int (dp : Nat)), Or7.put npr, by simpa using Op7.set, by simp [lt], wfL_app wt (wfL_one wt2), htL_app ht (by rw [htL_one]; omega), by rw [nnL_app, nn_one]; omega, by rw [nlL_app, nl_one]; omega, rfl⟩⟩
    · rintro τ M' ⟨J', ts, x', y', o5, o6, Or, Op, lt, wt, ht, nt, nlt, rfl⟩
      rw [len_rng] at lt nlt
      exact hnx _ _ ⟨J', ts, x', y', o5, o6, Or, Op, lt, wt, ht, nt, nlt, rfl⟩
  rintro τ M6 ⟨J6, ts, x', y', o5, o6, Or, Op, lt, wt, ht, nt, nlt, rfl⟩
  refine seq_split (fun τ M' => LS (In2 s ro) M M' s l ns ∧ ∃ (ts : List Tr), Own (In2 s ro) M M' s l ro (.lst [.int (x' : Nat), .int (y' : Nat)]) ∧ Own (In2 s ro) M M' s l p (.lst (ts.map Tr.toD)) ∧ ts.length = m ∧ wfL ts ∧ htL ts ≤ lv - 1 ∧ nnL ts + x' ≤ x - 1 ∧ nlL ts + y' ≤ y - (m - 1) + m ∧ τ = [some (.ref s), some (.int (lv : Nat)), some (.ref ro), some (.int (m : Nat)), some (.ref p), o5, o6]) ?_ ?_
  rotate_left
  · intro nx hnx
    walk_at "dl"
    refine J6.pick (by decide) (by decide) fun r M2 r0 r1 J2 e2 => ?_
    have Or2 := Or.ext e2
    have Op2 := Op.ext e2
    by_cases c : r = 0
    · simp only [c, eqD_int, decide_true, if_true, metT_list Op2.a, reverseM, Op2.a, true_and]
      exact hnx _ _ ⟨J2.set Op2, ts.reverse, Or2.put npr, by simpa using Op2.set, by simp [lt], wfL_mem.mpr fun t h => wfL_mem.mp wt t (List.mem_reverse.mp h), htL_le.mpr fun t h => htL_le.mp ht t (List.mem_reverse.mp h), by rw [nnL_rev]; exact nt, by rw [nlL_rev]; exact nlt, rfl⟩
    · simp only [c, eqD_int, decide_false, Bool.false_eq_true, if_false]
      exact hnx _ _ ⟨J2, ts, Or2, Op2, lt, wt, ht, nt, nlt, rfl⟩
  rintro τ M7 ⟨J7, ts, Or, Op, lt, wt, ht, nt, nlt, rfl⟩
  walk_at "dl"
  refine J7.pick (by decide) (by decide) fun r M8 r0 r1 J8 e8 => ⟨by omega, ?_⟩
  have Op8 := Op.ext e8
  simp only [tupG, seqOf_lst Op8.a, addD, List.length_map, List.length_cons, List.length_nil]
  refine ⟨by omega, ?_⟩
  have := k (.nd r ts) M8 x' y' (wf_nd (bit_of r0 r1) (by omega) (by omega) wt) (by rw [ht_nd]; omega) (by rw [nn_nd]; omega) (by rw [nl_nd]; omega) J8.P J8.X (Or.ext e8).a
  rw [Tr.toD, toDs_map] at this
  exact dropQ_of this .refl
end K43

set_option maxHeartbeats 4000000
namespace K43
open PySem L2 DL DU
local macro_rules | `(tactic| walk_at "dl") => `(tactic| simp only [dSeq, dIfS, dB, dTru, truD, dOp, dVar, dC, dAsg, dAug, dCB, dCons, dNil, dRet, dRetN, dName, dGSub, dNext, ends, exOf, dstart, slot, oI0, oI, dAnd, dOr, dNot, dAndV, dOrV, dNotV, dNeg, dSl, dNoP, dPart, dFld, dFldS, dRaise, dLst, dTup, dFor, dIter, dRng1, dRng2, dCall, dMake, dMeth, dIxO, dLc, dYes, dGTup, dGCons, dGNil, dDrop, dBreak, dBM, dDIn, dNever, dChain, dRngD, dZip, dRaiseI, dLstRg, dDGet, dDGet2, dDNew, dGSubD, dDStar,
  eqD_str, neD_str, eqD_int, neD_int, ixG_t0, ixG_t1, isiG_str, isi_int, isi_int_s, isi_int_t, isi_tup, isi_tup_s, isi_tup_i, isi_str_i, isi_str_t, lenG_tup, addD_int, mulD_int, intG, List.nil_append, bne_iff_ne, ofS_inj, Bool.false_bne, Bool.true_bne,
  List.map, List.length_cons, List.length_nil, List.cons_append, List.append_nil, List.replicate, List.set, List.getElem?_cons_zero, List.getElem?_cons_succ, Option.join_some, Option.bind_some, decide_eq_true_eq])
variable {K : PySem.W.Frag} {A : Adr} {w : World} {mg : Str → Option Value}
theorem two_nn {r : Int} {t u : Tr} : (Tr.nd r [t, u]).nn = t.nn + u.nn + 1 := by rw [nn_nd, nnL_cons, nnL_cons, nnL_nil]; omega
theorem two_nl {r : Int} {t u : Tr} : (Tr.nd r [t, u]).nl = t.nl + u.nl := by rw [nl_nd, nlL_cons, nlL_cons, nlL_nil]; omega
theorem two_ht {r : Int} {t u : Tr} : (Tr.nd r [t, u]).ht = max t.ht u.ht + 1 := by rw [ht_nd]; simp [htL]
theorem two_wf {r : Int} {t u : Tr} (h : bit r) (h1 : t.wf) (h2 : u.wf) : (Tr.nd r [t, u]).wf := wf_nd h (by simp) (by simp) (by simp [wfL]; exact ⟨h1, h2⟩)
set_option maxHeartbeats 2000000 in
theorem r_law_chain : ∀ ds M Q E, sp_law_chain ds M Q E → t_law_chain K A (ends Q E) (dstart N_law_chain ds) M := by
  rintro ds M Q E ⟨s, l, ns, rfl, P, k⟩
  have sl : sizeLine = 16777216 := sizeLine_eq
  have J := LS.zero (S := Is s) P rfl
  unfold t_law_chain N_law_chain
  simp only [dstart, List.map, List.length_cons, List.length_nil, List.replicate, List.cons_append, List.nil_append]
  refine seq_split (fun τ M' => LS (Is s) M M' s l ns ∧ ∃ r, bit r ∧ τ = [some (.ref s), some (.int 20), some (Tr.lf r).toD, none, none, none, none]) ?_ ?_
  rotate_left
  · intro nx hnx
    walk_at "dl"
    exact J.pick (by decide) (by decide) fun r M2 r0 r1 J2 e2 => ⟨by omega, hnx _ _ ⟨J2, r, bit_of r0 r1, by rw [Tr.toD]⟩⟩
  rintro τ M1 ⟨J1, r, hr, rfl⟩
  refine seq_split (fun τ M' => LS (Is s) M M' s l ns ∧ τ = [some (.ref s), some (.int 20), some (Tr.lf r).toD, some (.tup []), none, none, none]) ?_ ?_
  rotate_left
  · intro nx hnx
    walk_at "dl"
    exact ⟨by omega, hnx _ _ ⟨J1, rfl⟩⟩
  rintro τ M2 ⟨J2, rfl⟩
  refine seq_split (fun τ M' => LS (Is s) M M' s l ns ∧ ∃ (t : Tr) (d : D) (o4 o5 o6 : Option D), good t ∧ τ = [some (.ref s), some (.int 20), some t.toD, some d, o4, o5, o6]) ?_ ?_
  rotate_left
  · intro nx hnx
    walk_at "dl"
    refine ⟨by omega, by omega, ?_⟩
    refine dLoop_inv (fun i τ M' => LS (Is s) M M' s l ns ∧ ∃ (t : Tr) (ps : List D) (o4 o5 o6 : Option D), t.wf ∧ t.ht ≤ i ∧ t.nn ≤ i ∧ t.nl ≤ i + 1 ∧ ps.length = i ∧ τ = [some (.ref s), some (.int 20), some t.toD, some (.tup ps), o4, o5, o6]) (fun _ _ _ _ _ => trivial) ?_ ?_ ⟨J2, .lf r, [], none, none, none, wf_lf hr, by rw [ht_lf]; omega, by rw [nn_lf]; omega, by rw [nl_lf]; omega, rfl, rfl⟩
    · rintro i d τ M' nxt hd ⟨J', t, ps, o4, o5, o6, wt, ht, nt, nlt, lp, rfl⟩ hnx'
      obtain ⟨hi, rfl⟩ := rng_at hd
      have hi : i < 20 := by simpa using hi
      refine seq_split (fun τ M'' => LS (Is s) M M'' s l ns ∧ ∃ a, bit a ∧ τ = [some (.ref s), some (.int 20), some t.toD, some (.tup ps), some (.int (i : Nat)), some (.int a), o6]) ?_ ?_
      rotate_left
      · intro nx2 hnx2
        walk_at "dl"
        exact J'.pick (by decide) (by decide) fun r M2 r0 r1 J2 e2 => hnx2 _ _ ⟨J2, r, bit_of r0 r1, rfl⟩
      rintro τ M3 ⟨J3, a, ha, rfl⟩
      refine seq_split (fun τ M'' => LS (Is s) M M'' s l ns ∧ ∃ b, bit b ∧ τ = [some (.ref s), some (.int 20), some t.toD, some (.tup ps), some (.int (i : Nat)), some (.int a), some (Tr.lf b).toD]) ?_ ?_
      rotate_left
      · intro nx2 hnx2
        walk_at "dl"
        exact J3.pick (by decide) (by decide) fun r M2 r0 r1 J2 e2 => ⟨by omega, hnx2 _ _ ⟨J2, r, bit_of r0 r1, by rw [Tr.toD]⟩⟩
      rintro τ M4 ⟨J4, b, hb, rfl⟩
      walk_at "dl"
      refine J4.pick (by decide) (by decide) fun c M5 c0 c1 J5 e5 => ?_
      have wb := wf_lf hb
      by_cases c : c = 0
      · simp only [c, eqD_int, decide_true, if_true, addD, List.length_cons, List.length_nil, lp]
        refine ⟨by omega, by omega, by omega, hnx' _ _ ⟨J5, .nd a [t, .lf b], .int 2 :: ps, some (.int (i : Nat)), some (.int a), some (Tr.lf b).toD, two_wf ha wt wb, by rw [two_ht, ht_lf]; omega, by rw [two_nn, nn_lf]; omega, by rw [two_nl, nl_lf]; omega, by simp [lp], by simp [Tr.toD, toDs]⟩⟩
      · simp only [c, eqD_int, decide_false, Bool.false_eq_true, if_false, addD, List.length_cons, List.length_nil, lp]
        refine ⟨by omega, by omega, by omega, hnx' _ _ ⟨J5, .nd a [.lf b, t], .int 3 :: ps, some (.int (i : Nat)), some (.int a), some (Tr.lf b).toD, two_wf ha wb wt, by rw [two_ht, ht_lf]; omega, by rw [two_nn, nn_lf]; omega, by rw [two_nl, nl_lf]; omega, by simp [lp], by simp [Tr.toD, toDs]⟩⟩
    · rintro τ M' ⟨J', t, ps, o4, o5, o6, wt, ht, nt, nlt, lp, rfl⟩
      have e : ((List.range (Int.toNat 20)).map fun i => D.int ((i : Nat) : Int)).length = 20 := by simp
      rw [e] at ht nt nlt
      exact hnx _ _ ⟨J', t, .tup ps, o4, o5, o6, ⟨wt, ht, by omega, by omega⟩, rfl⟩
  rintro τ M3 ⟨J3, t, d, o4, o5, o6, g, rfl⟩
  walk_at "dl"
  exact ⟨by omega, fun p hp => dropQ_of (k t p d g _ (J3.new hp).P (J3.new hp).X put_same) .refl⟩
theorem set_parts {ts : List Tr} {a : Nat} {t u : Tr} (h : ts[a]? = some t) : ts.set a u = ts.take a ++ u :: ts.drop (a + 1) := by
  have hi := (List.getElem?_eq_some_iff.mp h).1
  rw [List.set_eq_take_append_cons_drop, if_pos hi]
theorem nnL_set {ts : List Tr} {a : Nat} {t u : Tr} (h : ts[a]? = some t) : nnL (ts.set a u) + t.nn = nnL ts + u.nn := by
  have e := parts h
  have e1 : nnL ts = nnL (ts.take a) + (t.nn + nnL (ts.drop (a + 1))) := by conv => lhs; rw [e, nnL_app, nnL_cons]
  rw [set_parts h, nnL_app, nnL_cons, e1]; omega
theorem nlL_set {ts : List Tr} {a : Nat} {t u : Tr} (h : ts[a]? = some t) : nlL (ts.set a u) + t.nl = nlL ts + u.nl := by
  have e := parts h
  have e1 : nlL ts = nlL (ts.take a) + (t.nl + nlL (ts.drop (a + 1))) := by conv => lhs; rw [e, nlL_app, nlL_cons]
  rw [set_parts h, nlL_app, nlL_cons, e1]; omega
theorem wfL_set {ts : List Tr} {a : Nat} {u : Tr} (h : wfL ts) (hu : u.wf) : wfL (ts.set a u) := wfL_mem.mpr fun x hx => by
  rcases List.mem_or_eq_of_mem_set hx with h1 | rfl
  · exact wfL_mem.mp h x h1
  · exact hu
theorem leaves_nn : ∀ rs : List Int, nnL (rs.map Tr.lf) = 0
  | [] => by simp [nnL_nil]
  | r :: rs => by rw [List.map_cons, nnL_cons, leaves_nn rs, nn_lf]
theorem leaves_nl : ∀ rs : List Int, nlL (rs.map Tr.lf) = rs.length
  | [] => by simp [nlL_nil]
  | r :: rs => by rw [List.map_cons, nlL_cons, leaves_nl rs, nl_lf, List.length_cons]; omega
def Lf (lv : Nat) : Nat → Nat
  | 0 => lv
  | 1 => (lv + 11) / 12
  | 2 => ((lv + 11) / 12 + 11) / 12
  | _ => 1
def Rf (lv : Nat) : Nat → Nat
  | 0 => (lv + 11) / 12 + ((lv + 11) / 12 + 11) / 12 + 1
  | 1 => ((lv + 11) / 12 + 11) / 12 + 1
  | 2 => 1
  | _ => 0
theorem Lf_step {lv i : Nat} (l1 : 150 ≤ lv) (l2 : lv ≤ 200) (hi : i < 3) : Lf lv (i + 1) = (Lf lv i + 11) / 12 ∧ Rf lv i = Lf lv (i + 1) + Rf lv (i + 1) ∧ 1 ≤ Lf lv i ∧ Lf lv i ≤ 200 := by
  have : i = 0 ∨ i = 1 ∨ i = 2 := by omega
  rcases this with rfl | rfl | rfl
  · show ((lv + 11) / 12 = (lv + 11) / 12 ∧ (lv + 11) / 12 + ((lv + 11) / 12 + 11) / 12 + 1 = (lv + 11) / 12 + (((lv + 11) / 12 + 11) / 12 + 1) ∧ 1 ≤ lv ∧ lv ≤ 200)
    omega
  · show (((lv + 11) / 12 + 11) / 12 = ((lv + 11) / 12 + 11) / 12 ∧ ((lv + 11) / 12 + 11) / 12 + 1 = ((lv + 11) / 12 + 11) / 12 + 1 ∧ 1 ≤ (lv + 11) / 12 ∧ (lv + 11) / 12 ≤ 200)
    omega
  · show (1 = (((lv + 11) / 12 + 11) / 12 + 11) / 12 ∧ 1 = 1 + 0 ∧ 1 ≤ ((lv + 11) / 12 + 11) / 12 ∧ ((lv + 11) / 12 + 11) / 12 ≤ 200)
    omega
theorem cut_mid {xs : List D} {i j : Nat} (h : i ≤ xs.length) (h2 : i ≤ j) : cutD xs (some (i : Int)) (some (j : Int)) = (xs.drop i).take (j - i) := by
  unfold cutD HT.sIx
  dsimp only
  rw [if_neg (by omega), if_neg (by omega), Int.toNat_natCast, Int.toNat_natCast, Nat.min_eq_left h]
  by_cases c : j ≤ xs.length
  · rw [Nat.min_eq_left c]
  · rw [Nat.min_eq_right (by omega), List.take_of_length_le (by rw [List.length_drop]; omega), List.take_of_length_le (by rw [List.length_drop]; omega)]
theorem nnL_take12 {ts : List Tr} {i : Nat} : nnL (ts.take (12 * (i + 1))) = nnL (ts.take (12 * i)) + nnL ((ts.drop (12 * i)).take 12) := by
  rw [show 12 * (i + 1) = 12 * i + 12 by omega, List.take_add, nnL_app]
theorem nlL_take12 {ts : List Tr} {i : Nat} : nlL (ts.take (12 * (i + 1))) = nlL (ts.take (12 * i)) + nlL ((ts.drop (12 * i)).take 12) := by
  rw [show 12 * (i + 1) = 12 * i + 12 by omega, List.take_add, nlL_app]
def hb (lv a k : Nat) : Nat := (if a < k then 1 else 0) + (if a + lv < k then 1 else 0)
set_option maxHeartbeats 4000000 in
theorem r_law_grouped : ∀ ds M Q E, sp_law_grouped ds M Q E → t_law_grouped K A (ends Q E) (dstart N_law_grouped ds) M := by
  rintro ds M Q E ⟨s, l, ns, lv, nd, rfl, P, l1, l2, n1, n2, k⟩
  have sl : sizeLine = 16777216 := sizeLine_eq
  have J := LS.zero (S := Is s) P rfl
  unfold t_law_grouped N_law_grouped
  simp only [dstart, List.map, List.length_cons, List.length_nil, List.replicate, List.cons_append, List.nil_append]
  refine seq_split (fun τ M' => LS (Is s) M M' s l ns ∧ ∃ (p : Addr) (rs : List Int), Own (Is s) M M' s l p (.lst (rs.map fun r => (Tr.lf r).toD)) ∧ rs.length = lv ∧ (∀ r, r ∈ rs → bit r) ∧ τ = [some (.ref s), some (.int (lv : Nat)), some (.int (nd : Nat)), some (.ref p), none, none, none, none, none]) ?_ ?_
  rotate_left
  · intro nx hnx
    walk_at "dl"
    simp only [Int.toNat_natCast]
    refine ⟨by omega, by omega, fun p hp => ?_⟩
    refine dCL_draws (fun r => (Tr.lf r).toD) bit (J.new hp) (.new J hp) (by simp; omega) (fun _ _ _ => trivial) (fun i d M' k' hd J' e' hk => ?_) fun xs M' hx hxs J' e' O' => hnx _ _ ⟨J', p, xs, O', by simpa using hx, hxs, rfl⟩
    simp only [wipeD]
    walk_at "dl"
    refine J'.pick (by decide) (by decide) fun r M2 r0 r1 J2 e2 => ⟨by omega, ?_⟩
    have := hk r M2 (bit_of r0 r1) J2 e2
    rw [Tr.toD] at this
    exact this
  rintro τ M1 ⟨J1, p, rs, O1, lr, hr, rfl⟩
  have cd : ∀ i : Int, 0 ≤ i → i ≤ 1000 → CDivW i 12 ∧ CDivW i 144 := fun i h0 h1 => ⟨⟨by decide, log_small (by omega)⟩, ⟨by decide, log_small (by omega)⟩⟩
  refine seq_split (fun τ M' => M1 = M' ∧ τ = [some (.ref s), some (.int (lv : Nat)), some (.int (nd : Nat)), some (.ref p), some (.int (((lv : Nat) + 11) / 12 + ((lv : Nat) + 143) / 144 + 1)), none, none, none, none]) ?_ ?_
  rotate_left
  · intro nx hnx
    walk_at "dl"
    exact ⟨(cd _ (by omega) (by omega)).1, (cd _ (by omega) (by omega)).2, hnx _ _ ⟨rfl, rfl⟩⟩
  rintro τ M2 ⟨rfl, rfl⟩
  refine seq_split (fun τ M' => LS (Is s) M M' s l ns ∧ ∃ (ts : List Tr) (o5 o6 : Option D), Own (Is s) M M' s l p (.lst (ts.map Tr.toD)) ∧ ts.length = lv ∧ wfL ts ∧ nnL ts + Rf lv 0 ≤ 200 ∧ nlL ts = lv ∧ htL ts ≤ 2 ∧ τ = [some (.ref s), some (.int (lv : Nat)), some (.int (nd : Nat)), some (.ref p), some (.int (((lv : Nat) + 11) / 12 + ((lv : Nat) + 143) / 144 + 1)), o5, o6, none, none]) ?_ ?_
  rotate_left
  · intro nx hnx
    walk_at "dl"
    refine ⟨by omega, by omega, ?_⟩
    refine dLoop_inv (fun i τ M' => LS (Is s) M M' s l ns ∧ ∃ (ts : List Tr) (o5 o6 : Option D), Own (Is s) M M' s l p (.lst (ts.map Tr.toD)) ∧ ts.length = lv ∧ wfL ts ∧ nnL ts = i ∧ nlL ts = lv ∧ (∀ b t, ts[b]? = some t → t.ht ≤ hb lv b i) ∧ τ = [some (.ref s), some (.int (lv : Nat)), some (.int (nd : Nat)), some (.ref p), some (.int (((lv : Nat) + 11) / 12 + ((lv : Nat) + 143) / 144 + 1)), o5, o6, none, none]) (fun _ _ _ _ _ => trivial) ?_ ?_ ⟨J1, rs.map Tr.lf, none, none, by rw [List.map_map]; exact O1, by simp [lr], wfL_mem.mpr fun t ht => ?_, leaves_nn rs, by rw [leaves_nl, lr], fun b t ht => ?_, rfl⟩
    · rintro i d τ M' nxt hd ⟨J', ts, o5, o6, Op, lt, wt, nt, nlt, hts, rfl⟩ hnx'
      obtain ⟨hi, rfl⟩ := rng_at hd
      have hi2 : i < 200 := by omega
      obtain ⟨a, ha, ha2⟩ : ∃ a, i % lv = a ∧ a = if i < lv then i else i - lv := ⟨i % lv, rfl, by
        split
        · rename_i c; exact Nat.mod_eq_of_lt c
        · rename_i c; rw [Nat.mod_eq_sub_mod (by omega), Nat.mod_eq_of_lt (by omega)]⟩
      have ham : ((i : Nat) : Int) % ((lv : Nat) : Int) = ((a : Nat) : Int) := by rw [← ha]; exact (Int.natCast_emod i lv).symm
      have hal : a < lv := by rw [ha2]; split <;> omega
      refine seq_split (fun τ M'' => M' = M'' ∧ τ = [some (.ref s), some (.int (lv : Nat)), some (.int (nd : Nat)), some (.ref p), some (.int (((lv : Nat) + 11) / 12 + ((lv : Nat) + 143) / 144 + 1)), some (.int (i : Nat)), some (.int (a : Nat)), none, none]) ?_ ?_
      rotate_left
      · intro nx2 hnx2
        walk_at "dl"
        rw [ham]
        exact ⟨by omega, hnx2 _ _ ⟨rfl, rfl⟩⟩
      rintro τ M3 ⟨rfl, rfl⟩
      walk_at "dl"
      refine J'.pick (by decide) (by decide) fun r M4 r0 r1 J4 e4 => ?_
      have O4 := Op.ext e4
      have e := List.getElem?_eq_getElem (show a < ts.length by omega)
      have i1 : (ts.map Tr.toD)[a]? = some ts[a].toD := by rw [List.getElem?_map, e]; rfl
      have ix : ixN (ts.map Tr.toD).length ((a : Nat) : Int) = some a := by rw [ixN_in (by omega) (by simp; omega)]; simp
      simp only [ixg_at O4.a i1, O4.a, ix]
      have en : (D.tup [.str "node", .int r, ts[a].toD]) = (Tr.nd r [ts[a]]).toD := by simp [Tr.toD, toDs]
      rw [en, ← List.map_set]
      have wn : (Tr.nd r [ts[a]]).wf := wf_nd (bit_of r0 r1) (by simp) (by simp) (wfL_one (wfL_mem.mp wt _ (List.mem_of_getElem? e)))
      have s1 := nnL_set (u := .nd r [ts[a]]) e
      have s2 := nlL_set (u := .nd r [ts[a]]) e
      rw [nn_nd, nn_one] at s1
      rw [nl_nd, nl_one] at s2
      refine ⟨by omega, hnx' _ _ ⟨J4.set O4, ts.set a (.nd r [ts[a]]), _, _, O4.set, by simp [lt], wfL_set wt wn, by omega, by omega, fun b t hb' => ?_, rfl⟩⟩
      by_cases c : a = b
      · subst c
        rw [List.getElem?_set_self (by omega)] at hb'
        have : t = .nd r [ts[a]] := by simpa using hb'.symm
        subst this
        rw [ht_nd, htL_one]
        have := hts a _ e
        unfold hb at this ⊢
        generalize ts[a].ht = hh at this ⊢
        by_cases c : i < lv
        · have ea : a = i := by rw [ha2, if_pos c]
          split at this <;> split at this <;> split <;> split <;> omega
        · have ea : a = i - lv := by rw [ha2, if_neg c]
          split at this <;> split at this <;> split <;> split <;> omega
      · rw [List.getElem?_set_ne c] at hb'
        have := hts b t hb'
        unfold hb at this ⊢
        split at this <;> split at this <;> split <;> split <;> omega
    · rintro τ M' ⟨J', ts, o5, o6, Op, lt, wt, nt, nlt, hts, rfl⟩
      rw [len_rng] at nt hts
      refine hnx _ _ ⟨J', ts, o5, o6, Op, lt, wt, ?_, nlt, htL_le.mpr fun t ht => ?_, rfl⟩
      · simp only [Rf]
        omega
      · obtain ⟨b, hb1, hb2⟩ := List.getElem_of_mem ht
        have := hts b t (by rw [List.getElem?_eq_getElem hb1, hb2])
        unfold hb at this
        split at this <;> split at this <;> omega
    · obtain ⟨r, hr1, rfl⟩ := List.mem_map.mp ht
      exact wf_lf (hr r hr1)
    · rw [List.getElem?_map] at ht
      cases e : rs[b]? with
      | none => rw [e] at ht; cases ht
      | some r =>
        rw [e] at ht
        have : t = .lf r := by simpa using ht.symm
        subst this
        rw [ht_lf]; omega
  rintro τ M3 ⟨J3, ts, o5, o6, O3, lt, wt, nt, nlt, hts, rfl⟩
  refine seq_split (fun τ M' => LS (Is s) M M' s l ns ∧ ∃ (p : Addr) (ts : List Tr) (o4 o5 o6 o7 o8 : Option D), Own (Is s) M M' s l p (.lst (ts.map Tr.toD)) ∧ ts.length = 1 ∧ wfL ts ∧ nnL ts ≤ 200 ∧ nlL ts = lv ∧ htL ts ≤ 5 ∧ τ = [some (.ref s), some (.int (lv : Nat)), some (.int (nd : Nat)), some (.ref p), o4, o5, o6, o7, o8]) ?_ ?_
  rotate_left
  · intro nx hnx
    walk_at "dl"
    refine ⟨by omega, by omega, ?_⟩
    have e3 : ((List.range (Int.toNat 3)).map fun i => D.int ((i : Nat) : Int)).length = 3 := by simp
    refine dLoop_inv (fun i τ M' => LS (Is s) M M' s l ns ∧ ∃ (p : Addr) (ts : List Tr) (o4 o5 o6 o7 o8 : Option D), Own (Is s) M M' s l p (.lst (ts.map Tr.toD)) ∧ ts.length = Lf lv i ∧ wfL ts ∧ nnL ts + Rf lv i ≤ 200 ∧ nlL ts = lv ∧ htL ts ≤ 2 + i ∧ τ = [some (.ref s), some (.int (lv : Nat)), some (.int (nd : Nat)), some (.ref p), o4, o5, o6, o7, o8]) (fun _ _ _ _ _ => trivial) ?_ ?_ ⟨J3, p, ts, _, o5, o6, none, none, O3, lt, wt, nt, nlt, by omega, rfl⟩
    · rintro i d τ M' nxt hd ⟨J', p, ts, o4, o5, o6, o7, o8, Op, lt, wt, nt, nlt, hts, rfl⟩ hnx'
      obtain ⟨hi, rfl⟩ := rng_at hd
      have hi : i < 3 := by simpa using hi
      obtain ⟨f1, f2, f3, f4⟩ := Lf_step l1 l2 hi
      refine seq_split (fun τ M'' => LS (Is s) M M'' s l ns ∧ Own (Is s) M M'' s l p (.lst (ts.map Tr.toD)) ∧ ∃ q, q ≠ p ∧ Own (Is s) M M'' s l q (.lst []) ∧ τ = [some (.ref s), some (.int (lv : Nat)), some (.int (nd : Nat)), some (.ref p), o4, o5, o6, some (.int (i : Nat)), some (.ref q)]) ?_ ?_
      rotate_left
      · intro nx2 hnx2
        walk_at "dl"
        exact ⟨by omega, fun q hq => hnx2 _ _ ⟨J'.new hq, Op.lay hq, q, Op.ne hq, .new J' hq, rfl⟩⟩
      rintro τ M4 ⟨J4, O4, q, nqp, Oq, rfl⟩
      refine seq_split (fun τ M'' => LS (Is s) M M'' s l ns ∧ ∃ (gs : List Tr) (o5 : Option D), Own (Is s) M M'' s l q (.lst (gs.map Tr.toD)) ∧ gs.length = Lf lv (i + 1) ∧ wfL gs ∧ nnL gs = nnL ts + Lf lv (i + 1) ∧ nlL gs = lv ∧ htL gs ≤ 2 + (i + 1) ∧ τ = [some (.ref s), some (.int (lv : Nat)), some (.int (nd : Nat)), some (.ref p), o4, o5, o6, some (.int (i : Nat)), some (.ref q)]) ?_ ?_
      rotate_left
      · intro nx2 hnx2
        walk_at "dl"
        simp only [lenG_at O4.a, List.length_map, lt]
        have eL : ((((Lf lv i : Nat) : Int) + 11) / 12).toNat = Lf lv (i + 1) := by rw [f1]; omega
        refine ⟨(cd _ (by omega) (by omega)).1, by omega, by omega, ?_⟩
        rw [eL]
        refine dLoop_inv (fun j τ M'' => LS (Is s) M M'' s l ns ∧ Own (Is s) M M'' s l p (.lst (ts.map Tr.toD)) ∧ ∃ (gs : List Tr) (o5 : Option D), Own (Is s) M M'' s l q (.lst (gs.map Tr.toD)) ∧ gs.length = j ∧ wfL gs ∧ nnL gs = nnL (ts.take (12 * j)) + j ∧ nlL gs = nlL (ts.take (12 * j)) ∧ htL gs ≤ 2 + (i + 1) ∧ τ = [some (.ref s), some (.int (lv : Nat)), some (.int (nd : Nat)), some (.ref p), o4, o5, o6, some (.int (i : Nat)), some (.ref q)]) (fun _ _ _ _ _ => trivial) ?_ ?_ ⟨J4, O4, [], _, Oq, rfl, by simp [wfL], by simp [nnL_nil], by simp [nlL_nil], by simp [htL], rfl⟩
        · rintro j d τ M5 nxt2 hd2 ⟨J5, O5, gs, o5, Og, lg, wg, ng, nlg, hg, rfl⟩ hnx3
          obtain ⟨hj, rfl⟩ := rng_at hd2
          have hj12 : 12 * j < ts.length := by omega
          have lpart : ((ts.drop (12 * j)).take 12).length = min 12 (ts.length - 12 * j) := by rw [List.length_take, List.length_drop]
          have wpart : wfL ((ts.drop (12 * j)).take 12) := wfL_mem.mpr fun t h => wfL_mem.mp wt t (List.mem_of_mem_drop (List.mem_of_mem_take h))
          have hpart : htL ((ts.drop (12 * j)).take 12) ≤ 2 + i := htL_le.mpr fun t h => htL_le.mp hts t (List.mem_of_mem_drop (List.mem_of_mem_take h))
          walk_at "dl"
          refine ⟨by rw [metT_list Og.a]; trivial, ?_⟩
          refine J5.pick (by decide) (by decide) fun r M6 r0 r1 J6 e6 => ?_
          have O6 := O5.ext e6
          have Og6 := Og.ext e6
          refine ⟨by omega, mulx_ok (a := 4) (b := 10) (by decide) (by omega) (by decide), mulx_ok (a := 4) (b := 10) (by decide) (by omega) (by decide), ?_⟩
          have c1 : (12 : Int) * ((j : Nat) : Int) = ((12 * j : Nat) : Int) := by omega
          have c2 : ((12 * j : Nat) : Int) + 12 = ((12 * j + 12 : Nat) : Int) := by omega
          rw [c1, c2]
          simp only [slG, seqOf_lst O6.a]
          intro p2 hp2
          rw [cut_mid (by simp; omega) (by omega), show 12 * j + 12 - 12 * j = 12 by omega, ← List.map_drop, ← List.map_take]
          simp only [tup_put, addD, List.length_map, List.length_cons, List.length_nil]
          have Og7 := Og6.lay hp2 (u := .lst (((ts.drop (12 * j)).take 12).map Tr.toD))
          simp only [append_at Og7.a, List.length_map]
          refine ⟨by omega, by omega, hnx3 _ _ ⟨(J6.new hp2).set Og7, (O6.lay hp2).put nqp, gs ++ [.nd r ((ts.drop (12 * j)).take 12)], _, by simpa [Tr.toD, toDs_map] using Og7.set, by simp [lg], wfL_app wg (wfL_one (wf_nd (bit_of r0 r1) (by omega) (by omega) wpart)), ?_, ?_, htL_app hg (by rw [htL_one, ht_nd]; omega), rfl⟩⟩
          · rw [nnL_app, nn_one, nn_nd, nnL_take12]; omega
          · rw [nlL_app, nl_one, nl_nd, nlL_take12]; omega
        · rintro τ M5 ⟨J5, O5, gs, o5, Og, lg, wg, ng, nlg, hg, rfl⟩
          rw [len_rng] at lg ng nlg
          rw [List.take_of_length_le (by omega)] at ng nlg
          exact hnx2 _ _ ⟨J5, gs, _, Og, lg, wg, ng, by omega, hg, rfl⟩
      rintro τ M5 ⟨J5, gs, o5', Og, lg, wg, ng, nlg, hg, rfl⟩
      walk_at "dl"
      exact hnx' _ _ ⟨J5, q, gs, _, _, _, _, _, Og, lg, wg, by omega, nlg, hg, rfl⟩
    · rintro τ M' ⟨J', p, ts, o4, o5, o6, o7, o8, Op, lt, wt, nt, nlt, hts, rfl⟩
      rw [e3] at lt nt hts
      exact hnx _ _ ⟨J', p, ts, o4, o5, o6, o7, o8, Op, lt, wt, nt, nlt, hts, rfl⟩
  rintro τ M4 ⟨J4, p, ts, o4, o5, o6, o7, o8, Op, lt, wt, nt, nlt, hts, rfl⟩
  obtain ⟨t, rfl⟩ := List.length_eq_one_iff.mp lt
  walk_at "dl"
  have O : M4 p = some (.lst (t.toD :: [])) := Op.a
  simp only [ixg_at0 O]
  rw [nn_one] at nt
  rw [nl_one] at nlt
  rw [htL_one] at hts
  exact dropQ_of (k t ⟨wfL_mem.mp wt t (by simp), by omega, nt, by omega⟩ M4 J4.P J4.X) .refl
end K43

set_option maxHeartbeats 4000000
namespace K43
open PySem L2 DL DU
local macro_rules | `(tactic| walk_at "dl") => `(tactic| simp only [dSeq, dIfS, dB, dTru, truD, dOp, dVar, dC, dAsg, dAug, dCB, dCons, dNil, dRet, dRetN, dName, dGSub, dNext, ends, exOf, dstart, slot, oI0, oI, dAnd, dOr, dNot, dAndV, dOrV, dNotV, dNeg, dSl, dNoP, dPart, dFld, dFldS, dRaise, dLst, dTup, dFor, dIter, dRng1, dRng2, dCall, dMake, dMeth, dIxO, dLc, dYes, dGTup, dGCons, dGNil, dDrop, dBreak, dBM, dDIn, dNever, dChain, dRngD, dZip, dRaiseI, dLstRg, dDGet, dDGet2, dDNew, dGSubD, dDStar,
  eqD_str, neD_str, eqD_int, neD_int, ixG_t0, ixG_t1, isiG_str, isi_int, isi_int_s, isi_int_t, isi_tup, isi_tup_s, isi_tup_i, isi_str_i, isi_str_t, lenG_tup, addD_int, mulD_int, intG, List.nil_append, bne_iff_ne, ofS_inj, Bool.false_bne, Bool.true_bne,
  List.map, List.length_cons, List.length_nil, List.cons_append, List.append_nil, List.replicate, List.set, List.getElem?_cons_zero, List.getElem?_cons_succ, Option.join_some, Option.bind_some, decide_eq_true_eq])
variable {K : PySem.W.Frag} {A : Adr} {w : World} {mg : Str → Option Value}
structure KX (K : PySem.W.Frag) (A : Adr) : Prop where
  m1 : PySem.W.exmOne K (.ref A.InvalidPlan) (.ref A.InvalidPlan) = some true
  m2 : PySem.W.exmOne K (.ref A.OutOfRange) (.ref A.InvalidPlan) = some false
  m3 : PySem.W.exmOne K (.ref A.OutOfRange) (.ref A.OutOfRange) = some true
  c1 : ExcC K A.InvalidPlan
  c2 : ExcC K A.OutOfRange
  k1 : PySem.W.kitOne K (.ref A.InvalidPlan) (.ref A.InvalidTerm) = some false
  k2 : PySem.W.kitOne K (.ref A.InvalidPlan) (.ref A.OutOfRange) = some false
  k3 : PySem.W.kitOne K (.ref A.InvalidPlan) (.ref A.SizeMismatch) = some false
  k4 : PySem.W.kitOne K (.ref A.OutOfRange) (.ref A.InvalidTerm) = some false
  k5 : PySem.W.kitOne K (.ref A.OutOfRange) (.ref A.TooLarge) = some false
  k6 : PySem.W.kitOne K (.ref A.OutOfRange) (.ref A.SizeMismatch) = some false
  x1 : XfC K A.InvalidPlan
  x2 : PySem.W.findIn K (.ref A.InvalidPlan) "index" = some none
theorem isx {y : DX} {a C D : Addr} {M : Mp} {Q : DK} {b : Bool} (hd : ∀ dd, y.d = some dd → ∃ fs, M dd = some (.xd fs)) (hc : y.cls = .ref D) (he : ExcC K D) (hk : PySem.W.kitOne K (.ref D) (.ref C) = some b) (q : Q (.bl b) M) : isxF K y a [.ref a, .ref C] M Q := ⟨rfl, hd, D, b, .ref C, hc, he, .inl ⟨C, rfl, rfl⟩, hk, q⟩
set_option maxHeartbeats 2000000 in
theorem r_law_refused (X : KX K A) : ∀ ds M Q E, sp_law_refused A ds M Q E → t_law_refused K A (ends Q E) (dstart N_law_refused ds) M := by
  rintro ds M Q E ⟨a, t, p, goal, rfl, d, g, hp, k1, k2, k3⟩
  have sl : sizeLine = 16777216 := sizeLine_eq
  unfold t_law_refused N_law_refused
  simp only [dstart, List.map, List.length_cons, List.length_nil, List.replicate, List.cons_append, List.nil_append]
  refine seq_split (fun τ M' => M = M' ∧ dropQ Q (.tup [.str "let", .int 0]) M) ?_ ?_
  rotate_left
  · intro nx hnx
    unfold dTryAll
    walk_at "dl"
    refine ⟨a, t, p, goal, rfl, d, g, hp, fun h1 h2 => hnx _ _ ⟨rfl, dropQ_of (k1 h1 h2) .refl⟩, fun h1 h2 => ?_, fun i hi dd hdd => ?_⟩
    · refine ⟨false, X.m2, (fun z => nomatch z), fun _ => ⟨true, X.m3, fun _ b hb => ?_, (fun z => nomatch z)⟩⟩
      simp only [caught, slotD, endD]
      walk_at "dl"
      refine isx (fun dd e => by cases e) rfl X.c2 X.k4 ?_
      simp only [Bool.false_eq_true, if_false]
      refine isx (fun dd e => by cases e) rfl X.c2 X.k5 ?_
      simp only [Bool.false_eq_true, if_false]
      refine isx (fun dd e => by cases e) rfl X.c2 X.k6 ?_
      simp only [Bool.false_eq_true, if_false]
      exact ⟨by omega, dropQ_of (k2 h1 h2) .refl⟩
    · refine ⟨true, X.m1, fun _ b hb => ?_, (fun z => nomatch z)⟩
      have hx : ∀ dd', (⟨.ref A.InvalidPlan, some dd, [("index", .int ((i : Nat) : Int))]⟩ : DX).d = some dd' → ∃ fs, (put M dd (.xd [("index", .int ((i : Nat) : Int))])) dd' = some (.xd fs) := fun dd' e => by
        cases e; exact ⟨_, put_same⟩
      simp only [caught, slotD, endD]
      walk_at "dl"
      refine isx hx rfl X.c1 X.k1 ?_
      simp only [Bool.false_eq_true, if_false]
      refine isx hx rfl X.c1 X.k2 ?_
      simp only [Bool.false_eq_true, if_false]
      refine isx hx rfl X.c1 X.k3 ?_
      simp only [Bool.false_eq_true, if_false]
      refine ⟨rfl, A.InvalidPlan, dd, [("index", .int ((i : Nat) : Int))], .int ((i : Nat) : Int), rfl, X.x1, X.x2, rfl, put_same, by rfl, by omega, dropQ_of (k3 i hi) (Sub.refl.put hdd)⟩
  rintro τ M1 ⟨rfl, h⟩
  walk_at "dl"
  exact ⟨by omega, h⟩
theorem bad_not {t : Tr} {p : Pl} {i : Nat} (h : plOk t p) (b : firstBad t p i) : False := b.2.2 (h.2 i (by have := b.1; have := h.1; omega))
theorem bad_uniq {t : Tr} {p : Pl} {i j : Nat} (h : firstBad t p i) (b : firstBad t p j) : i = j := by
  rcases Nat.lt_trichotomy i j with c | c | c
  · exact (h.2.2 (b.2.1 i c)).elim
  · exact c
  · exact (b.2.2 (h.2.1 j c)).elim
section
variable {t : Tr} {p : Pl} {M : Mp} {Q : DK} {E : EK} {d : Addr} {goal : Int}
theorem ref_let (h : DuelAt A.Duel M d t) (g : good t) (ho : plOk t p) (hg : bit goal) (k : Q (.tup [.str "let", .int 0]) M) : sp_law_refused A [.ref d, planD p, .int goal] M Q E :=
  ⟨d, t, p, goal, rfl, h, g, by have := ho.1; have := g.2.2.1; omega, fun _ _ => k, fun _ z => (z hg).elim, fun i b => (bad_not ho b).elim⟩
theorem ref_range (h : DuelAt A.Duel M d t) (g : good t) (ho : plOk t p) (hg : ¬ bit goal) (k : Q (.tup [.str "range", .int 0]) M) : sp_law_refused A [.ref d, planD p, .int goal] M Q E :=
  ⟨d, t, p, goal, rfl, h, g, by have := ho.1; have := g.2.2.1; omega, fun _ z => (hg z).elim, fun _ _ => k, fun i b => (bad_not ho b).elim⟩
theorem ref_plan {i : Nat} (h : DuelAt A.Duel M d t) (g : good t) (hl : p.length ≤ 1000) (b : firstBad t p i) (k : Q (.tup [.str "plan", .int (i : Nat)]) M) : sp_law_refused A [.ref d, planD p, .int goal] M Q E :=
  ⟨d, t, p, goal, rfl, h, g, hl, fun z _ => (bad_not z b).elim, fun z _ => (bad_not z b).elim, fun i' b' => by rw [← bad_uniq b b']; exact k⟩
theorem same_ok {x : D} (h : okS 23 x) (k : Q (.bl true) M) : sp_law_same 24 [x, x] M Q E := ⟨x, rfl, h, k⟩
theorem okS_two {x : Str} {i : Int} (h : ok (.str x) = true) : okS 23 (.tup [.str x, .int i]) := by
  unfold okS
  refine ⟨22, rfl, by simp, fun y hy => ?_⟩
  simp only [List.mem_cons, List.not_mem_nil, or_false] at hy
  rcases hy with rfl | rfl
  · simpa [okS] using h
  · simp [okS, ok]
end
theorem bad_long {t : Tr} {p : Pl} {e : Option Int} (h : plOk t p) : firstBad t (p ++ [e]) t.nn := ⟨by have := h.1; simp; omega, fun j hj => okAt_app (h.2 j hj), fun ⟨_, _, _, q, _⟩ => by
  have := (List.getElem?_eq_some_iff.mp q).1
  rw [ar_len] at this; omega⟩
theorem okAt_congr {p q : Pl} {ks : List Nat} {j : Nat} (e : p[j]? = q[j]?) (h : okAt p ks j) : okAt q ks j := by
  obtain ⟨x, k, h1, h2, h3⟩ := h
  exact ⟨x, k, by rw [← e]; exact h1, h2, h3⟩
theorem bad_take {t : Tr} {p : Pl} {i : Nat} (h : plOk t p) (hi : i < t.nn) : firstBad t (p.take i) i := ⟨by have := h.1; simp; omega, fun j hj => okAt_congr (by rw [List.getElem?_take_of_lt hj]) (h.2 j (by omega)), fun ⟨_, _, q, _⟩ => by
  have := (List.getElem?_eq_some_iff.mp q).1
  rw [List.length_take] at this; omega⟩
def spoil (p : Pl) (i r : Nat) (wr : Int) : Pl := (p.set (i + r) (some 12)).set i (some wr)
theorem spoil_low {p : Pl} {i r j : Nat} {wr : Int} (h : j < i) : (spoil p i r wr)[j]? = p[j]? := by
  unfold spoil
  rw [List.getElem?_set_ne (by omega), List.getElem?_set_ne (by omega)]
theorem spoil_at {p : Pl} {i r : Nat} {wr : Int} (h : i < p.length) : (spoil p i r wr)[i]? = some (some wr) := by
  unfold spoil
  rw [List.getElem?_set_self (by simpa using h)]
theorem spoil_len {p : Pl} {i r : Nat} {wr : Int} : (spoil p i r wr).length = p.length := by unfold spoil; simp
theorem bad_spoil {t : Tr} {p x : Pl} {i r k : Nat} {wr : Int} (h : plOk t p) (hi : i < t.nn) (hk : (ar t)[i]? = some k) (hw : ¬ (0 ≤ wr ∧ wr < k)) (hx : ∀ j, j < i + 1 → x[j]? = (spoil p i r wr)[j]?) : firstBad t x i := ⟨by omega, fun j hj => okAt_congr (by rw [hx j (by omega), spoil_low hj]) (h.2 j (by omega)), fun ⟨e, k', q1, q2, q3⟩ => by
  rw [hx i (by omega), spoil_at (by have := h.1; omega)] at q1
  rw [hk] at q2
  cases q1; cases q2
  exact hw (q3 wr rfl)⟩
theorem plOk_set {t : Tr} {p : Pl} {i k : Nat} {e : Option Int} (h : plOk t p) (hk : (ar t)[i]? = some k) (he : ∀ o : Int, e = some o → 0 ≤ o ∧ o < k) : plOk t (p.set i e) := ⟨by rw [List.length_set]; exact h.1, fun j hj => by
  by_cases c : i = j
  · subst c
    exact ⟨e, k, by rw [List.getElem?_set_self (by have := h.1; omega)], hk, he⟩
  · exact okAt_congr (by rw [List.getElem?_set_ne c]) (h.2 j hj)⟩
theorem set_cut {p : Pl} {i : Nat} {e : Option Int} (h : i < p.length) : p.take i ++ [e] ++ p.drop (i + 1) = p.set i e := by
  rw [List.set_eq_take_append_cons_drop, if_pos h]; simp
theorem ok_let : ok (.str "let") = true := by decide +kernel
theorem ok_range : ok (.str "range") = true := by decide +kernel
theorem ok_plan : ok (.str "plan") = true := by decide +kernel
theorem pick_lit {S : Addr → Prop} {M0 M : Mp} {s l : Addr} {ns : List Int} (J : LS S M0 M s l ns) {vs : List D} {n : Int} {Q : DK} {E : EK} (hn : n = vs.length) (h0 : 0 < vs.length) (h1 : vs.length < 1000000) (k : ∀ (v : D) (M' : Mp), v ∈ vs → LS S M0 M' s l ns → Ext (Is s) M M' → Q v M') :
    ∀ p, M p = none → spPick [.ref s, .int n] (DL.put M p (.lst vs)) (fun y M2 => ixG (.ref p) y M2 Q) E := fun p hp => J.choose hn h0 h1 k p hp
def badG (b : Int) : Prop := b = 2 ∨ b = -1 ∨ b = 999999999
theorem badG_not {b : Int} (h : badG b) : ¬ bit b := by unfold badG at h; unfold bit; omega
set_option maxHeartbeats 4000000 in
theorem r_law_wrongs : ∀ ds M Q E, sp_law_wrongs A.Duel ds M Q E → t_law_wrongs K A (ends Q E) (dstart N_law_wrongs ds) M := by
  rintro ds M Q E ⟨s, l, ns, d, a, t, p, rfl, P, hD, hA, g, ho, k⟩
  have sl : sizeLine = 16777216 := sizeLine_eq
  have hn := g.2.2.1
  have lp := ho.1
  have J := LS.zero (S := Is s) P rfl
  have D' : ∀ {M'}, LS (Is s) M M' s l ns → DuelAt A.Duel M' d t := fun J' => hD.draw P J'.X
  have A' : ∀ {M'}, LS (Is s) M M' s l ns → NodesAt M' a t := fun J' => hA.draw P J'.X
  have L' : ∀ {M'}, LS (Is s) M M' s l ns → ∃ rs : List Addr, M' a = some (.lst (rs.map D.ref)) ∧ rs.length = t.nn := fun J' => by
    obtain ⟨rs, h1, h2, _⟩ := A' J'
    exact ⟨rs, h1, h2⟩
  unfold t_law_wrongs N_law_wrongs
  simp only [dstart, List.map, List.length_cons, List.length_nil, List.replicate, List.cons_append, List.nil_append]
  refine seq_split (fun τ M' => LS (Is s) M M' s l ns ∧ ∃ b, badG b ∧ τ = [some (.ref s), some (.ref d), some (.ref a), some (planD p), some (.int b), none, none, none, none, none, none, none, none]) ?_ ?_
  rotate_left
  · intro nx hnx
    walk_at "dl"
    refine ⟨by omega, ?_⟩
    refine J.chooseP (vs := [.int 2, .int (-1), .int 999999999]) rfl (by decide) (by decide) fun q v M2 hv J2 e2 => ?_
    simp only [List.mem_cons, List.not_mem_nil, or_false] at hv
    rcases hv with rfl | rfl | rfl
    · exact hnx _ _ ⟨J2, 2, .inl rfl, rfl⟩
    · exact hnx _ _ ⟨J2, -1, .inr (.inl rfl), rfl⟩
    · exact hnx _ _ ⟨J2, 999999999, .inr (.inr rfl), rfl⟩
  rintro τ M1 ⟨J1, b, hb, rfl⟩
  have nb := badG_not hb
  refine seq_split (fun τ M' => M1 = M' ∧ τ = [some (.ref s), some (.ref d), some (.ref a), some (planD p), some (.int b), some (.tup [.str "let", .int 0]), none, none, none, none, none, none, none]) ?_ ?_
  rotate_left
  · intro nx hnx
    walk_at "dl"
    exact ⟨by omega, hnx _ _ ⟨rfl, rfl⟩⟩
  rintro τ M2 ⟨rfl, rfl⟩
  refine seq_split (fun τ M' => M1 = M' ∧ τ = [some (.ref s), some (.ref d), some (.ref a), some (planD p), some (.int b), some (.tup [.str "let", .int 0]), none, none, none, none, none, none, none]) ?_ ?_
  rotate_left
  · intro nx hnx
    refine ifS_p False (fun Q' E' _ q2 => ?_) False.elim fun _ => hnx _ _ ⟨rfl, rfl⟩
    have q2 := q2 id
    walk_at "dl"
    refine ref_let (D' J1) g ho (.inl rfl) (same_ok (okS_two ok_let) ?_)
    simp only [Bool.not_true, Bool.false_eq_true, if_false]
    refine ref_range (D' J1) g ho nb ⟨by omega, same_ok (okS_two ok_range) ?_⟩
    simp only [Bool.not_true]
    exact q2
  rintro τ M2 ⟨rfl, rfl⟩
  refine seq_split (fun τ M' => LS (Is s) M M' s l ns ∧ ∃ e, (e = none ∨ e = some 0) ∧ τ = [some (.ref s), some (.ref d), some (.ref a), some (planD p), some (.int b), some (.tup [.str "let", .int 0]), some (planD (p ++ [e])), none, none, none, none, none, none]) ?_ ?_
  rotate_left
  · intro nx hnx
    walk_at "dl"
    refine ⟨by omega, ?_⟩
    refine J1.chooseP (vs := [.non, .int 0]) rfl (by decide) (by decide) fun q v M2 hv J2 e2 => ⟨by omega, ?_⟩
    simp only [planD, addD, List.length_map, List.length_cons, List.length_nil]
    refine ⟨by omega, ?_⟩
    simp only [List.mem_cons, List.not_mem_nil, or_false] at hv
    rcases hv with rfl | rfl
    · exact hnx _ _ ⟨J2, none, .inl rfl, by simp [planD, plD]⟩
    · exact hnx _ _ ⟨J2, some 0, .inr rfl, by simp [planD, plD]⟩
  rintro τ M2 ⟨J2, e, he, rfl⟩
  have llong : (p ++ [e]).length = t.nn + 1 := by simp [lp]
  refine seq_split (fun τ M' => LS (Is s) M M' s l ns ∧ ∃ o7, τ = [some (.ref s), some (.ref d), some (.ref a), some (planD p), some (.int b), some (.tup [.str "let", .int 0]), some (planD (p ++ [e])), o7, none, none, none, none, none]) ?_ ?_
  rotate_left
  · intro nx hnx
    walk_at "dl"
    refine ⟨by omega, fun q hq => ?_⟩
    simp only [itemsOf, keepOf, seqOf_lst put_same]
    refine dLoop_inv (fun i τ M' => (put M2 q (.lst [.int 0, .int 1, .int b])) = M' ∧ ∃ o7, τ = [some (.ref s), some (.ref d), some (.ref a), some (planD p), some (.int b), some (.tup [.str "let", .int 0]), some (planD (p ++ [e])), o7, none, none, none, none, none]) (fun i τ M' _ h => by rw [← h.1]; exact seqOf_lst put_same) ?_ ?_ ⟨rfl, none, rfl⟩
    · rintro i dd τ M' nxt hd ⟨rfl, o7, rfl⟩ hnx'
      obtain ⟨gl, rfl⟩ : ∃ gl : Int, dd = .int gl := by
        have := List.mem_of_getElem? hd
        simp only [List.mem_cons, List.not_mem_nil, or_false] at this
        rcases this with rfl | rfl | rfl <;> exact ⟨_, rfl⟩
      obtain ⟨rs, ra, rl⟩ := L' (J2.new hq (o := .lst [.int 0, .int 1, .int b]))
      walk_at "dl"
      refine ref_plan (D' (J2.new hq)) g (by omega) (bad_long ho) ?_
      simp only [lenG_at ra, List.length_map, rl]
      refine ⟨by omega, same_ok (okS_two ok_plan) ?_⟩
      simp only [Bool.not_true, Bool.false_eq_true, if_false]
      exact hnx' _ _ ⟨rfl, _, rfl⟩
    · rintro τ M' ⟨rfl, o7, rfl⟩
      exact hnx _ _ ⟨J2.new hq, o7, rfl⟩
  rintro τ M3 ⟨J3, o7, rfl⟩
  refine seq_split (fun τ M' => LS (Is s) M M' s l ns) ?_ ?_
  rotate_left
  · intro nx hnx
    obtain ⟨rs, ra, rl⟩ := L' J3
    walk_at "dl"
    simp only [lenG_at ra, List.length_map, rl, mmG]
    have em : (if (10 : Int) < ((t.nn : Nat) : Int) then (10 : Int) else ((t.nn : Nat) : Int)) = ((min t.nn 10 : Nat) : Int) := by split <;> omega
    rw [em, Int.toNat_natCast]
    refine ⟨by omega, by omega, ?_⟩
    refine dLoop_inv (fun i τ M' => LS (Is s) M M' s l ns ∧ ∃ o7 o8 o9 o10 o11 o12, τ = [some (.ref s), some (.ref d), some (.ref a), some (planD p), some (.int b), some (.tup [.str "let", .int 0]), some (planD (p ++ [e])), o7, o8, o9, o10, o11, o12]) (fun _ _ _ _ _ => trivial) ?_ ?_ ⟨J3, o7, none, none, none, none, none, rfl⟩
    · rintro i dd τ M' nxt hd ⟨J', o7, o8, o9, o10, o11, o12, rfl⟩ hnx'
      obtain ⟨hi, rfl⟩ := rng_at hd
      have hi1 : i < t.nn := by omega
      obtain ⟨sd, ks, n1, n2, n3⟩ := node_at hi1
      have hks := kids_small t 0 0 g.1 ks (List.mem_of_getElem? n2)
      have hk := ar_at n2
      refine seq_split (fun τ M'' => M' = M'' ∧ τ = [some (.ref s), some (.ref d), some (.ref a), some (planD p), some (.int b), some (.tup [.str "let", .int 0]), some (planD (p ++ [e])), o7, some (.int (i : Nat)), some (.int (ks.length : Nat)), o10, o11, o12]) ?_ ?_
      rotate_left
      · intro nx2 hnx2
        obtain ⟨rs, ra, rl, hN⟩ := A' J'
        obtain ⟨r, o, u1, u2, u3⟩ := hN i sd ks n1 n2
        rw [Nat.zero_add] at u1
        have i2 : (rs.map D.ref)[i]? = some (.ref r) := by rw [List.getElem?_map, u1]; rfl
        walk_at "dl"
        simp only [ixg_at ra i2, ixg_at1 u2, lenG_at u3, List.length_map]
        exact hnx2 _ _ ⟨rfl, rfl⟩
      rintro τ M5 ⟨rfl, rfl⟩
      refine seq_split (fun τ M'' => LS (Is s) M M'' s l ns ∧ ∃ wr : Int, ¬ (0 ≤ wr ∧ wr < (ks.length : Nat)) ∧ τ = [some (.ref s), some (.ref d), some (.ref a), some (planD p), some (.int b), some (.tup [.str "let", .int 0]), some (planD (p ++ [e])), o7, some (.int (i : Nat)), some (.int (ks.length : Nat)), some (.int wr), o11, o12]) ?_ ?_
      rotate_left
      · intro nx2 hnx2
        walk_at "dl"
        refine ⟨by omega, ?_⟩
        refine J'.chooseP (vs := [.int (ks.length : Nat), .int (-1), .int 12, .int 999999999]) rfl (by simp) (by simp) fun q v M2 hv J2 e2 => ?_
        simp only [List.mem_cons, List.not_mem_nil, or_false] at hv
        rcases hv with rfl | rfl | rfl | rfl
        · exact hnx2 _ _ ⟨J2, _, by omega, rfl⟩
        · exact hnx2 _ _ ⟨J2, _, by omega, rfl⟩
        · exact hnx2 _ _ ⟨J2, _, by omega, rfl⟩
        · exact hnx2 _ _ ⟨J2, _, by omega, rfl⟩
      rintro τ M6 ⟨J6, wr, hwr, rfl⟩
      refine seq_split (fun τ M'' => LS (Is s) M M'' s l ns ∧ ∃ q, Own (Is s) M M'' s l q (.lst (p.map plD)) ∧ τ = [some (.ref s), some (.ref d), some (.ref a), some (planD p), some (.int b), some (.tup [.str "let", .int 0]), some (planD (p ++ [e])), o7, some (.int (i : Nat)), some (.int (ks.length : Nat)), some (.int wr), some (.ref q), o12]) ?_ ?_
      rotate_left
      · intro nx2 hnx2
        walk_at "dl"
        simp only [planD, lstG]
        exact fun q hq => hnx2 _ _ ⟨J6.new hq, q, .new J6 hq, rfl⟩
      rintro τ M7 ⟨J7, q, O7, rfl⟩
      refine seq_split (fun τ M'' => LS (Is s) M M'' s l ns ∧ ∃ r : Nat, Own (Is s) M M'' s l q (.lst ((p.set (i + r) (some 12)).map plD)) ∧ τ = [some (.ref s), some (.ref d), some (.ref a), some (planD p), some (.int b), some (.tup [.str "let", .int 0]), some (planD (p ++ [e])), o7, some (.int (i : Nat)), some (.int (ks.length : Nat)), some (.int wr), some (.ref q), o12]) ?_ ?_
      rotate_left
      · intro nx2 hnx2
        obtain ⟨rs, ra, rl⟩ := L' J7
        walk_at "dl"
        simp only [lenG_at ra, List.length_map, rl]
        refine J7.pick (by omega) (log_small (by omega)) fun r M8 r0 r1 J8 e8 => ?_
        obtain ⟨r, rfl⟩ := Int.eq_ofNat_of_zero_le r0
        have O8 := O7.ext e8
        have ix : ixN (p.map plD).length (((i : Nat) : Int) + ((r : Nat) : Int)) = some (i + r) := by
          rw [ixN_in (by omega) (by simp; omega)]; congr 1
        simp only [addD, O8.a, ix]
        exact hnx2 _ _ ⟨J8.set O8, r, by simpa [plD, List.map_set] using O8.set, rfl⟩
      rintro τ M8 ⟨J8, r, O8, rfl⟩
      have lsp : (spoil p i r wr).length = t.nn := by rw [spoil_len, lp]
      refine seq_split (fun τ M'' => LS (Is s) M M'' s l ns ∧ Own (Is s) M M'' s l q (.lst ((spoil p i r wr).map plD)) ∧ τ = [some (.ref s), some (.ref d), some (.ref a), some (planD p), some (.int b), some (.tup [.str "let", .int 0]), some (planD (p ++ [e])), o7, some (.int (i : Nat)), some (.int (ks.length : Nat)), some (.int wr), some (.ref q), o12]) ?_ ?_
      rotate_left
      · intro nx2 hnx2
        walk_at "dl"
        have ix : ixN ((p.set (i + r) (some 12)).map plD).length ((i : Nat) : Int) = some i := by
          rw [ixN_in (by omega) (by simp; omega)]; simp
        simp only [O8.a, ix]
        exact hnx2 _ _ ⟨J8.set O8, by simpa [spoil, plD, List.map_set] using O8.set, rfl⟩
      rintro τ M9 ⟨J9, O9, rfl⟩
      refine seq_split (fun τ M'' => LS (Is s) M M'' s l ns ∧ Own (Is s) M M'' s l q (.lst ((spoil p i r wr).map plD)) ∧ ∃ o7, τ = [some (.ref s), some (.ref d), some (.ref a), some (planD p), some (.int b), some (.tup [.str "let", .int 0]), some (planD (p ++ [e])), o7, some (.int (i : Nat)), some (.int (ks.length : Nat)), some (.int wr), some (.ref q), o12]) ?_ ?_
      rotate_left
      · intro nx2 hnx2
        walk_at "dl"
        refine ⟨by omega, fun z hz => ?_⟩
        have J10 := J9.new hz (o := .lst [.int 1, .int b])
        have O10 := O9.lay hz (u := .lst [.int 1, .int b])
        have z10 : (put M9 z (.lst [.int 1, .int b])) z = some (.lst [.int 1, .int b]) := put_same
        simp only [itemsOf, keepOf, seqOf_lst z10]
        generalize put M9 z (.lst [.int 1, .int b]) = M10 at J10 O10 z10
        refine dLoop_inv (fun i' τ M'' => M10 = M'' ∧ ∃ o7, τ = [some (.ref s), some (.ref d), some (.ref a), some (planD p), some (.int b), some (.tup [.str "let", .int 0]), some (planD (p ++ [e])), o7, some (.int (i : Nat)), some (.int (ks.length : Nat)), some (.int wr), some (.ref q), o12]) (fun i τ M' _ h => by rw [← h.1]; exact seqOf_lst z10) ?_ ?_ ⟨rfl, o7, rfl⟩
        · rintro i' dd τ M'' nxt2 hd2 ⟨rfl, o7, rfl⟩ hnx3
          obtain ⟨gl, rfl⟩ : ∃ gl : Int, dd = .int gl := by
            have := List.mem_of_getElem? hd2
            simp only [List.mem_cons, List.not_mem_nil, or_false] at this
            rcases this with rfl | rfl <;> exact ⟨_, rfl⟩
          walk_at "dl"
          simp only [tupG, seqOf_lst O10.a]
          refine ref_plan (p := spoil p i r wr) (D' J10) g (by omega) (bad_spoil ho hi1 hk hwr fun _ _ => rfl) ⟨by omega, same_ok (okS_two ok_plan) ?_⟩
          simp only [Bool.not_true, Bool.false_eq_true, if_false, planD, slG, cut_to, ← List.map_take]
          refine ref_plan (p := p.take i) (D' J10) g (by rw [List.length_take]; omega) (bad_take ho hi1) ⟨by omega, same_ok (okS_two ok_plan) ?_⟩
          simp only [Bool.not_true, Bool.false_eq_true, if_false]
          exact hnx3 _ _ ⟨rfl, _, rfl⟩
        · rintro τ M'' ⟨rfl, o7, rfl⟩
          exact hnx2 _ _ ⟨J10, O10, o7, rfl⟩
      rintro τ M10 ⟨J10, O10, o7, rfl⟩
      refine seq_split (fun τ M'' => LS (Is s) M M'' s l ns ∧ τ = [some (.ref s), some (.ref d), some (.ref a), some (planD p), some (.int b), some (.tup [.str "let", .int 0]), some (planD (p ++ [e])), o7, some (.int (i : Nat)), some (.int (ks.length : Nat)), some (.int wr), some (.ref q), o12]) ?_ ?_
      rotate_left
      · intro nx2 hnx2
        have ci : ((i : Nat) : Int) + 1 = ((i + 1 : Nat) : Int) := by omega
        walk_at "dl"
        simp only [ci, slG, seqOf_lst O10.a, cut_to, ← List.map_take]
        intro z hz
        simp only [tup_put, planD, addD, ← List.map_append]
        refine ⟨by simp; omega, ?_⟩
        refine ref_plan (p := (spoil p i r wr).take (i + 1) ++ (p ++ [e])) (D' (J10.new hz)) g (by simp; omega) (bad_spoil (r := r) ho hi1 hk hwr fun j hj => ?_) ⟨by omega, same_ok (okS_two ok_plan) ?_⟩
        · rw [List.getElem?_append_left (by rw [List.length_take]; omega), List.getElem?_take_of_lt hj]
        · simp only [Bool.not_true, Bool.false_eq_true, if_false]
          exact hnx2 _ _ ⟨J10.new hz, rfl⟩
      rintro τ M11 ⟨J11, rfl⟩
      walk_at "dl"
      refine ⟨by omega, fun z hz => ?_⟩
      have J12 := J11.new hz (o := .lst [.non, .int 0, .int (((ks.length : Nat) : Int) - 1)])
      have z12 : (put M11 z (.lst [.non, .int 0, .int (((ks.length : Nat) : Int) - 1)])) z = some (.lst [.non, .int 0, .int (((ks.length : Nat) : Int) - 1)]) := put_same
      simp only [itemsOf, keepOf, seqOf_lst z12]
      generalize put M11 z (.lst [.non, .int 0, .int (((ks.length : Nat) : Int) - 1)]) = M12 at J12 z12
      refine dLoop_inv (fun i' τ M'' => M12 = M'' ∧ ∃ o12, τ = [some (.ref s), some (.ref d), some (.ref a), some (planD p), some (.int b), some (.tup [.str "let", .int 0]), some (planD (p ++ [e])), o7, some (.int (i : Nat)), some (.int (ks.length : Nat)), some (.int wr), some (.ref q), o12]) (fun i τ M' _ h => by rw [← h.1]; exact seqOf_lst z12) ?_ ?_ ⟨rfl, o12, rfl⟩
      · rintro i' dd τ M'' nxt2 hd2 ⟨rfl, o12, rfl⟩ hnx3
        obtain ⟨x, rfl, hx⟩ : ∃ x : Option Int, dd = plD x ∧ ∀ o : Int, x = some o → 0 ≤ o ∧ o < (ks.length : Nat) := by
          have := List.mem_of_getElem? hd2
          simp only [List.mem_cons, List.not_mem_nil, or_false] at this
          rcases this with rfl | rfl | rfl
          · exact ⟨none, rfl, fun o h => by cases h⟩
          · exact ⟨some 0, rfl, fun o h => by cases h; omega⟩
          · exact ⟨some (((ks.length : Nat) : Int) - 1), rfl, fun o h => by cases h; omega⟩
        have ci : ((i : Nat) : Int) + 1 = ((i + 1 : Nat) : Int) := by omega
        walk_at "dl"
        simp only [ci, planD, slG, cut_to, cut_from (xs := p.map plD) (i := i + 1) (by simp; omega), addD, List.length_append, List.length_take, List.length_drop, List.length_map, List.length_cons, List.length_nil]
        refine ⟨by omega, by omega, by omega, ?_⟩
        have es : (p.map plD).take i ++ [plD x] ++ (p.map plD).drop (i + 1) = (p.set i x).map plD := by rw [← set_cut (by omega)]; simp
        rw [es]
        refine ref_let (p := p.set i x) (D' J12) g (plOk_set ho hk hx) (.inr rfl) (same_ok (okS_two ok_let) ?_)
        simp only [Bool.not_true, Bool.false_eq_true, if_false]
        exact hnx3 _ _ ⟨rfl, _, rfl⟩
      · rintro τ M'' ⟨rfl, o12, rfl⟩
        exact hnx' _ _ ⟨J12, o7, _, _, _, _, o12, rfl⟩
    · rintro τ M' ⟨J', _⟩
      exact hnx _ _ J'
  intro τ M4 J4
  walk_at "dl"
  exact dropQ_of (k M4 J4.P J4.X) .refl
end K43

set_option maxHeartbeats 4000000
namespace K43
open PySem L2 DL DU
local macro_rules | `(tactic| walk_at "dl") => `(tactic| simp only [dSeq, dIfS, dB, dTru, truD, dOp, dVar, dC, dAsg, dAug, dCB, dCons, dNil, dRet, dRetN, dName, dGSub, dNext, ends, exOf, dstart, slot, oI0, oI, dAnd, dOr, dNot, dAndV, dOrV, dNotV, dNeg, dSl, dNoP, dPart, dFld, dFldS, dRaise, dLst, dTup, dFor, dIter, dRng1, dRng2, dCall, dMake, dMeth, dIxO, dLc, dYes, dGTup, dGCons, dGNil, dDrop, dBreak, dBM, dDIn, dNever, dChain, dRngD, dZip, dRaiseI, dLstRg, dDGet, dDGet2, dDNew, dGSubD, dDStar,
  eqD_str, neD_str, eqD_int, neD_int, ixG_t0, ixG_t1, isiG_str, isi_int, isi_int_s, isi_int_t, isi_tup, isi_tup_s, isi_tup_i, isi_str_i, isi_str_t, lenG_tup, addD_int, mulD_int, intG, List.nil_append, bne_iff_ne, ofS_inj, Bool.false_bne, Bool.true_bne,
  List.map, List.length_cons, List.length_nil, List.cons_append, List.append_nil, List.replicate, List.set, List.getElem?_cons_zero, List.getElem?_cons_succ, Option.join_some, Option.bind_some, decide_eq_true_eq])
variable {K : PySem.W.Frag} {A : Adr} {w : World} {mg : Str → Option Value}
theorem PSt.ext {S : Addr → Prop} {M M' : Mp} {s l : Addr} {ns : List Int} (P : PSt M s l ns) (e : Ext S M M') (h1 : ¬ S s) (h2 : ¬ S l) : PSt M' s l ns := by
  obtain ⟨n, hl, a, b, c, hs, r⟩ := P
  exact ⟨n, e _ _ h2 hl, a, b, c, e _ _ h1 hs, r⟩
theorem PSt.sub {M M' : Mp} {s l : Addr} {ns : List Int} (P : PSt M s l ns) (e : Sub M M') : PSt M' s l ns := PSt.ext (S := fun _ => False) P (.sub e) id id
theorem ar_sw {t : Tr} : ar t.sw = ar t := by unfold ar; rw [sw_kids]
theorem plOk_sw {t : Tr} {p : Pl} (h : plOk t p) : plOk t.sw p := ⟨by rw [sw_nn]; exact h.1, fun i hi => by rw [ar_sw]; exact h.2 i (by rwa [sw_nn] at hi)⟩
section
variable {α β : Type} {h : Nat → Int → List α → β} {f : Nat → Int → List α → α} {g g' : Nat → α}
mutual
theorem mapN_congr : ∀ (t : Tr) (n l : Nat), (∀ m, l ≤ m → m < l + t.nl → g m = g' m) → mapN h f g t n l = mapN h f g' t n l
  | .lf _, n, l, _ => by simp [mapN]
  | .nd s ts, n, l, e => by
    rw [nl_nd] at e
    rw [mapN, mapN, evalL_congr ts (n + 1) l e, mapNL_congr ts (n + 1) l e]
theorem mapNL_congr : ∀ (ts : List Tr) (n l : Nat), (∀ m, l ≤ m → m < l + nlL ts → g m = g' m) → mapNL h f g ts n l = mapNL h f g' ts n l
  | [], n, l, _ => by simp [mapNL]
  | t :: ts, n, l, e => by
    rw [nlL_cons] at e
    rw [mapNL, mapNL, mapN_congr t n l fun m h1 h2 => e m h1 (by omega), mapNL_congr ts _ _ fun m h1 h2 => e m (by omega) (by omega)]
end
end
theorem win_sw {t : Tr} : win t.sw.ends t.sw = 1 - win t.ends t := by
  unfold win
  rw [← sw_win]
  refine eval_congr t.sw 0 0 fun m _ h => ?_
  rw [sw_nl, Nat.zero_add] at h
  rw [sw_ends, lv_sw h]
theorem plan_sw {t : Tr} : planT (win t.sw.ends t.sw) (lv t.sw.ends) t.sw = planT (win t.ends t) (lv t.ends) t := by
  rw [win_sw]
  unfold planT
  rw [← sw_planN (oc := win t.ends t) (g := lv t.ends) t 0 0]
  refine mapN_congr t.sw 0 0 fun m _ h => ?_
  rw [sw_nl, Nat.zero_add] at h
  rw [sw_ends, lv_sw h]
theorem plan_plOk {t : Tr} {es : List Int} {oc : Int} (w : t.wf) : plOk t (planT oc (lv es) t) := ⟨plan_len, fun j hj => by
  obtain ⟨sd, ks, n1, n2, n3⟩ := node_at hj
  have hks := kids_small t 0 0 w ks (List.mem_of_getElem? n2)
  refine ⟨_, ks.length, plan_at n1 n2, ar_at n2, fun o ho => ?_⟩
  unfold prule at ho
  split at ho
  · cases ho
  · split at ho
    · rename_i c
      cases ho
      have := List.idxOf_lt_length_of_mem c
      rw [List.length_map] at this
      omega
    · cases ho; omega⟩
theorem win_is_bit {t : Tr} (w : t.wf) : bit (win t.ends t) := win_bit (lv_bit (ends_bit w)) t 0 0 w
theorem best_reach {t : Tr} (w : t.wf) : ∀ m, m ∈ reachT (planT (win t.ends t) (lv t.ends) t) t 0 0 → lv t.ends m = win t.ends t :=
  plan_reach _ _ _ (win_is_bit w) (lv_bit (ends_bit w)) t 0 0 w (fun j x h => by rw [Nat.zero_add]; exact h) rfl
theorem best_win {t : Tr} (w : t.wf) : isWin t (planT (win t.ends t) (lv t.ends) t) (win t.ends t) = true := by
  rw [isWin_reach (plOk_okP (plan_plOk w)), List.all_eq_true]
  intro m hm
  simpa using best_reach w m hm
theorem best_lose {t : Tr} (w : t.wf) : isWin t (planT (win t.ends t) (lv t.ends) t) (1 - win t.ends t) = false := by
  rw [isWin_reach (plOk_okP (plan_plOk w))]
  have ne := reach_ne _ t 0 0 w (plOk_okP (plan_plOk (es := t.ends) (oc := win t.ends t) w))
  obtain ⟨m, hm⟩ := List.exists_mem_of_ne_nil _ ne
  rw [Bool.eq_false_iff]
  intro h
  have := List.all_eq_true.mp h m hm
  rw [best_reach w m hm] at this
  simp at this
  omega
theorem win_ok {t : Tr} {p : Pl} {goal : Int} {M : Mp} {Q : DK} {E : EK} {d : Addr} (h : DuelAt A.Duel M d t) (g : good t) (ho : plOk t p) (hg : bit goal) (k : Q (.bl (isWin t p goal)) M) : sp_is_winning A [.ref d, planD p, .int goal] M Q E :=
  ⟨d, t, p, goal, rfl, h, g, by have := ho.1; have := g.2.2.1; omega, fun _ _ => k, fun _ z => (z hg).elim, fun i b => (bad_not ho b).elim⟩
theorem okS_bl {b : Bool} : okS 23 (.bl b) := by simp [okS, ok]
theorem okS_int {i : Int} : okS 23 (.int i) := by simp [okS, ok]
mutual
theorem okS_tree : ∀ (t : Tr) (n : Nat), t.wf → t.ht < n → okS n t.toD
  | .lf o, n, _, h => by
    rw [Tr.toD]
    unfold okS
    refine ⟨n - 1, by omega, by simp, fun y hy => ?_⟩
    simp only [List.mem_cons, List.not_mem_nil, or_false] at hy
    rcases hy with rfl | rfl
    · have : ok (.str "end") = true := by decide +kernel
      simpa [okS] using this
    · simp [okS, ok]
  | .nd s ts, n, w, h => by
    have lk := len_kid w
    rw [Tr.ht] at h
    rw [Tr.wf] at w
    rw [Tr.toD]
    unfold okS
    refine ⟨n - 1, by omega, by simp [toDs_len]; omega, fun y hy => ?_⟩
    rcases List.mem_cons.mp hy with rfl | hy
    · have : ok (.str "node") = true := by decide +kernel
      simpa [okS] using this
    · rcases List.mem_cons.mp hy with rfl | hy
      · simp [okS, ok]
      · exact okS_trees ts (n - 1) w.2.2.2 (by omega) y hy
theorem okS_trees : ∀ (ts : List Tr) (n : Nat), wfL ts → htL ts < n → ∀ y, y ∈ toDs ts → okS n y
  | [], n, _, _, y, hy => by simp [toDs] at hy
  | t :: ts, n, w, h, y, hy => by
    rw [wfL] at w
    rw [htL] at h
    rw [toDs] at hy
    rcases List.mem_cons.mp hy with rfl | hy
    · exact okS_tree t n w.1 (by omega)
    · exact okS_trees ts n w.2 (by omega) y hy
end
theorem okS_plan {p : Pl} (h : p.length ≤ 1000) : okS 23 (planD p) := by
  unfold planD okS
  refine ⟨22, rfl, by simp; omega, fun y hy => ?_⟩
  obtain ⟨e, _, rfl⟩ := List.mem_map.mp hy
  cases e <;> simp [plD, okS, ok]
theorem okS_ints {es : List Int} (h : es.length ≤ 1000) : okS 23 (intsD es) := by
  unfold intsD okS
  refine ⟨22, rfl, by simp; omega, fun y hy => ?_⟩
  obtain ⟨e, _, rfl⟩ := List.mem_map.mp hy
  simp [okS, ok]
/-- the law's scan from nothing -/
theorem scan_new {t : Tr} {a b : Addr} {M : Mp} {Q : DK} {E : EK} (g : good t) (nab : a ≠ b) (ha : M a = some (.lst [])) (hb : M b = some (.lst [])) (k : ∀ M', NodesAt M' a t → M' b = some (.lst (t.ends.map D.int)) → Ext (In2 a b) M M' → Q (lchD (t.root 0 0)) M') : sp_law_scan 22 [t.toD, .ref a, .ref b] M Q E := by
  refine ⟨t, a, b, [], [], rfl, g.1, by have := g.2.1; omega, nab, ha, hb, by have := g.2.2.1; simp; omega, by have := g.2.2.2; simp; omega, fun M' us lu h1 h2 e n => ?_⟩
  refine k M' ⟨us, by simpa using h1, lu, fun j s ks h3 h4 => ?_⟩ (by simpa using h2) e
  obtain ⟨r, o, u1, _, _, u2, u3⟩ := n j s ks h3 h4
  exact ⟨r, o, by rw [Nat.zero_add]; exact u1, u2, u3⟩
end K43

set_option maxHeartbeats 4000000
namespace K43
open PySem L2 DL DU
local macro_rules | `(tactic| walk_at "dl") => `(tactic| simp only [dSeq, dIfS, dB, dTru, truD, dOp, dVar, dC, dAsg, dAug, dCB, dCons, dNil, dRet, dRetN, dName, dGSub, dNext, ends, exOf, dstart, slot, oI0, oI, dAnd, dOr, dNot, dAndV, dOrV, dNotV, dNeg, dSl, dNoP, dPart, dFld, dFldS, dRaise, dLst, dTup, dFor, dIter, dRng1, dRng2, dCall, dMake, dMeth, dIxO, dLc, dYes, dGTup, dGCons, dGNil, dDrop, dBreak, dBM, dDIn, dNever, dChain, dRngD, dZip, dRaiseI, dLstRg, dDGet, dDGet2, dDNew, dGSubD, dDStar,
  eqD_str, neD_str, eqD_int, neD_int, ixG_t0, ixG_t1, isiG_str, isi_int, isi_int_s, isi_int_t, isi_tup, isi_tup_s, isi_tup_i, isi_str_i, isi_str_t, lenG_tup, addD_int, mulD_int, intG, List.nil_append, bne_iff_ne, ofS_inj, Bool.false_bne, Bool.true_bne,
  List.map, List.length_cons, List.length_nil, List.cons_append, List.append_nil, List.replicate, List.set, List.getElem?_cons_zero, List.getElem?_cons_succ, Option.join_some, Option.bind_some, decide_eq_true_eq])
variable {K : PySem.W.Frag} {A : Adr} {w : World} {mg : Str → Option Value}
theorem any_sub {M M' : Mp} {x : Addr} {o : MO} (s : Sub M M') (h : M x = some o) : M' x = some o := s _ _ h
/-- the leaves that a plan reaches, their outcomes -/
theorem leaf_comp {M : Mp} {b f r : Addr} {es : List Int} {ms : List Nat} {i : Nat} {τ : Sl} {te : DE} {F : Mp → Prop} (G : Int → D) (hb : M b = some (.lst (es.map D.int))) (hf : M f = some (.lst (ms.map fun (m : Nat) => D.int m))) (hr : M r = none) (hm : ∀ m, m ∈ ms → m < es.length) (hl : ms.length ≤ 1000)
    (step : ∀ (m : Nat) (M' : Mp) (k : D → Mp → Prop), M' b = some (.lst (es.map D.int)) → m < es.length → k (G (lv es m)) M' → te ((wipeD τ [i]).set i (some (.int (m : Nat)))) M' k noE) (done : F (put M r (.lst (ms.map fun m => G (lv es m))))) :
    dCL (fun d τ => τ.set i (some d)) dYes te (fun M => seqOf M f = some (ms.map fun (m : Nat) => D.int m)) r (wipeD τ [i]) F (ms.map fun (m : Nat) => D.int m) (put M r (.lst [])) := by
  have fr : f ≠ r := by rintro rfl; rw [hf] at hr; cases hr
  have br : b ≠ r := by rintro rfl; rw [hb] at hr; cases hr
  exact dCL_map (xs := ms) (fun (m : Nat) => D.int m) (fun m => G (lv es m)) rfl (by omega) (fun ys => seqOf_lst (by rw [put_ne fr]; exact hf)) (fun m hmm ys k' h => step m _ k' (by rw [put_ne br]; exact hb) (hm m hmm) h) done
set_option maxHeartbeats 4000000 in
theorem r_law_played (T : Txt w K mg A) : ∀ ds M Q E, sp_law_played A.Duel ds M Q E → t_law_played K A (ends Q E) (dstart N_law_played ds) M := by
  rintro ds M Q E ⟨s, l, ns, d, t, rfl, P, hD, g, k⟩
  have sl : sizeLine = 16777216 := sizeLine_eq
  have hn := g.2.2.1
  have hnl := g.2.2.2
  have lse : t.ends.length = t.nl := rfl
  unfold t_law_played N_law_played
  simp only [dstart, List.map, List.length_cons, List.length_nil, List.replicate, List.cons_append, List.nil_append]
  refine seq_split (fun τ M' => ∃ a, M a = none ∧ M' = put M a (.lst []) ∧ τ = [some (.ref s), some (.ref d), some t.toD, some (.ref a), none, none, none, none, none, none, none, none, none, none]) ?_ ?_
  rotate_left
  · intro nx hnx
    walk_at "dl"
    exact ⟨by omega, fun a ha => hnx _ _ ⟨a, ha, rfl, rfl⟩⟩
  rintro τ M1 ⟨a, ha, rfl, rfl⟩
  refine seq_split (fun τ M' => ∃ b, (put M a (.lst [])) b = none ∧ M' = put (put M a (.lst [])) b (.lst []) ∧ τ = [some (.ref s), some (.ref d), some t.toD, some (.ref a), some (.ref b), none, none, none, none, none, none, none, none, none]) ?_ ?_
  rotate_left
  · intro nx hnx
    walk_at "dl"
    exact ⟨by omega, fun b hb => hnx _ _ ⟨b, hb, rfl, rfl⟩⟩
  rintro τ M2 ⟨b, hb, rfl, rfl⟩
  obtain ⟨nba, hb0⟩ := put_none hb
  have sa := P.s_some ha
  have sb := P.s_some hb0
  have P2 : PSt (put (put M a (.lst [])) b (.lst [])) s l ns := (P.new ha).new hb
  have e2 : Ext (Is s) M (put (put M a (.lst [])) b (.lst [])) := (Ext.lay ha).trans (.lay hb)
  have D2 : (put (put M a (.lst [])) b (.lst [])) d = some (.ins A.Duel (duelF t)) := e2 _ _ (by
    rintro rfl
    obtain ⟨_, _, _, _, _, hs, _⟩ := P
    rw [DuelAt, hs] at hD; cases hD) hD
  refine seq_split (fun τ M' => PSt M' s l ns ∧ Ext (Is s) M M' ∧ DuelAt A.Duel M' d t ∧ NodesAt M' a t ∧ M' b = some (.lst (t.ends.map D.int)) ∧ τ = [some (.ref s), some (.ref d), some t.toD, some (.ref a), some (.ref b), some (lchD (t.root 0 0)), none, none, none, none, none, none, none, none]) ?_ ?_
  rotate_left
  · intro nx hnx
    walk_at "dl"
    refine scan_new g nba.symm (by rw [put_ne nba.symm, put_same]) put_same fun M' nA hB e => ?_
    refine hnx _ _ ⟨PSt.ext P2 e ?_ ?_, fun x o hx hxo => ?_, e _ _ ?_ D2, nA, hB, rfl⟩
    · rintro (rfl | rfl)
      · exact sa.1 rfl
      · exact sb.1 rfl
    · rintro (rfl | rfl)
      · exact sa.2 rfl
      · exact sb.2 rfl
    · refine e _ _ ?_ (e2 _ _ hx hxo)
      rintro (rfl | rfl)
      · rw [ha] at hxo; cases hxo
      · rw [hb0] at hxo; cases hxo
    · rintro (rfl | rfl)
      · rw [DuelAt, ha] at hD; cases hD
      · rw [DuelAt, hb0] at hD; cases hD
  rintro τ M3 ⟨P3, e3, D3, N3, B3, rfl⟩
  refine seq_split (fun τ M' => Sub M3 M' ∧ ∃ o, DuelAt A.Duel M' o t.sw ∧ τ = [some (.ref s), some (.ref d), some t.toD, some (.ref a), some (.ref b), some (lchD (t.root 0 0)), some (.ref o), none, none, none, none, none, none, none]) ?_ ?_
  rotate_left
  · intro nx hnx
    walk_at "dl"
    exact ⟨d, t, rfl, D3, g, fun o M' _ h1 h2 => hnx _ _ ⟨h2, o, h1, rfl⟩⟩
  rintro τ M4 ⟨s4, o, O4, rfl⟩
  have gsw := good_sw g
  refine seq_split (fun τ M' => Sub M4 M' ∧ τ = [some (.ref s), some (.ref d), some t.toD, some (.ref a), some (.ref b), some (lchD (t.root 0 0)), some (.ref o), none, none, none, none, none, none, none]) ?_ ?_
  rotate_left
  · intro nx hnx
    have O4' := O4
    unfold DuelAt at O4'
    walk_at "dl"
    simp only [O4', duelF_tree]
    refine ⟨T.d_Duel_tree, t, rfl, g.1, by have := g.2.1; omega, same_ok (okS_tree _ _ gsw.1 (by have := gsw.2.1; omega)) ?_⟩
    simp only [Bool.not_true, Bool.false_eq_true, if_false]
    refine ⟨o, t.sw, rfl, O4, gsw, fun x M' hx h1 h2 => ?_⟩
    have h1' := h1
    unfold DuelAt at h1'
    simp only [h1', duelF_tree, sw_sw]
    refine ⟨T.d_Duel_tree, same_ok (okS_tree _ _ g.1 (by have := g.2.1; omega)) ?_⟩
    simp only [Bool.not_true, Bool.false_eq_true, if_false]
    exact hnx _ _ ⟨h2, rfl⟩
  rintro τ M5 ⟨s5, rfl⟩
  have s35 := s4.trans s5
  have P5 := PSt.sub P3 s35
  have J5 := LS.zero (S := Is s) P5 rfl
  have nbs : b ≠ s := sb.1
  have D' : ∀ {M'}, LS (Is s) M5 M' s l ns → DuelAt A.Duel M' d t := fun J' => DuelAt.draw (s35 _ _ D3) P5 J'.X
  have O' : ∀ {M'}, LS (Is s) M5 M' s l ns → DuelAt A.Duel M' o t.sw := fun J' => DuelAt.draw (s5 _ _ O4) P5 J'.X
  have N' : ∀ {M'}, LS (Is s) M5 M' s l ns → NodesAt M' a t := fun J' => (N3.sub s35).draw P5 J'.X
  have B' : ∀ {M'}, LS (Is s) M5 M' s l ns → M' b = some (.lst (t.ends.map D.int)) := fun J' => J'.X _ _ nbs (s35 _ _ B3)
  have e5 : Ext (Is s) M M5 := e3.trans (.sub s35)
  clear P2 e2 D2 s4 s5
  -- what the reached leaves are
  have reach : ∀ {M' : Mp} {p : Pl} {Q : DK} {E : EK}, LS (Is s) M5 M' s l ns → plOk t p → (∀ f M2, LS (Is s) M5 M2 s l ns → Ext (Is s) M' M2 → M2 f = some (.lst ((reachT p t 0 0).map fun (m : Nat) => D.int m)) → Q (.ref f) M2) → sp_law_reached 22 [.ref a, lchD (t.root 0 0), planD p] M' Q E := by
    intro M' p Q E J' ho hk
    obtain ⟨rs, h1, h2, h3⟩ := N' J'
    exact ⟨a, rs, t, 0, 0, p, rfl, h1, h3, g.1, plOk_okP ho, by have := g.2.1; omega, by omega, fun f hf => hk f _ (J'.new hf) (.lay hf) put_same⟩
  have rin : ∀ {p : Pl}, ∀ m, m ∈ reachT p t 0 0 → m < t.ends.length := fun {p} m hm => by have := (reach_in p t 0 0 m hm).2; omega
  have rlen : ∀ {p : Pl}, (reachT p t 0 0).length ≤ 1000 := fun {p} => by have := reach_len p t 0 0; omega
  refine seq_split (fun τ M' => LS (Is s) M5 M' s l ns ∧ ∃ o7 o8 o9 o10 o12 o13, τ = [some (.ref s), some (.ref d), some t.toD, some (.ref a), some (.ref b), some (lchD (t.root 0 0)), some (.ref o), o7, o8, o9, o10, none, o12, o13]) ?_ ?_
  rotate_left
  · intro nx hnx
    walk_at "dl"
    refine ⟨s, l, ns, a, t, rfl, J5.P, N' J5, g, fun q ps hq hps => drawn_ls J5 fun M6 J6 e6 hL => ?_⟩
    have nqs : q ≠ s := (P5.s_some hq).1
    simp only [itemsOf, keepOf, seqOf_lst hL]
    refine dLoop_inv (fun i τ M' => LS (Is s) M5 M' s l ns ∧ M' q = some (.lst (ps.map planD)) ∧ ∃ o7 o8 o9 o10 o12 o13, τ = [some (.ref s), some (.ref d), some t.toD, some (.ref a), some (.ref b), some (lchD (t.root 0 0)), some (.ref o), o7, o8, o9, o10, none, o12, o13]) (fun i τ M' _ h => seqOf_lst h.2.1) ?_ ?_ ⟨J6, hL, none, none, none, none, none, none, rfl⟩
    · rintro i dd τ M7 nxt hd ⟨J7, hL7, o7, o8, o9, o10, o12, o13, rfl⟩ hnx'
      rw [List.getElem?_map] at hd
      cases e : ps[i]? with
      | none => rw [e] at hd; cases hd
      | some p =>
        rw [e] at hd
        have : dd = planD p := by simpa using hd.symm
        subst this
        have hp := hps p (List.mem_of_getElem? e)
        refine seq_split (fun τ M' => LS (Is s) M5 M' s l ns ∧ M' q = some (.lst (ps.map planD)) ∧ ∃ r, M' r = some (.lst (((reachT p t 0 0).map fun m => lv t.ends m).map D.int)) ∧ τ = [some (.ref s), some (.ref d), some t.toD, some (.ref a), some (.ref b), some (lchD (t.root 0 0)), some (.ref o), some (planD p), some (.ref r), o9, o10, none, o12, o13]) ?_ ?_
        rotate_left
        · intro nx2 hnx2
          walk_at "dl"
          refine reach J7 hp fun f M8 J8 e8 hf => ?_
          simp only [itemsOf, keepOf, seqOf_lst hf]
          intro r hr
          have hq8 := e8 _ _ nqs hL7
          have qr : q ≠ r := by rintro rfl; rw [hq8] at hr; cases hr
          refine leaf_comp D.int (B' J8) hf hr rin rlen (fun m M' k' hb' hm h => ?_) ?_
          · simp only [wipeD]
            walk_at "dl"
            rw [ixg_at hb' (lv_at hm)]
            exact h
          · exact hnx2 _ _ ⟨J8.new hr, by rw [put_ne qr]; exact hq8, r, by rw [put_same, List.map_map]; rfl, rfl⟩
        rintro τ M8 ⟨J8, hL8, r, hr8, rfl⟩
        walk_at "dl"
        refine ⟨by omega, by omega, ?_⟩
        refine dLoop_inv (fun i τ M' => LS (Is s) M5 M' s l ns ∧ M' q = some (.lst (ps.map planD)) ∧ M' r = some (.lst (((reachT p t 0 0).map fun m => lv t.ends m).map D.int)) ∧ ∃ o9 o10 o12 o13, τ = [some (.ref s), some (.ref d), some t.toD, some (.ref a), some (.ref b), some (lchD (t.root 0 0)), some (.ref o), some (planD p), some (.ref r), o9, o10, none, o12, o13]) (fun _ _ _ _ _ => trivial) ?_ ?_ ⟨J8, hL8, hr8, o9, o10, o12, o13, rfl⟩
        · rintro i2 dd τ M9 nxt2 hd2 ⟨J9, hL9, hr9, o9, o10, o12, o13, rfl⟩ hnx3
          obtain ⟨hi2, rfl⟩ := rng_at hd2
          have hi2 : i2 < 2 := by simpa using hi2
          have hg : bit ((i2 : Nat) : Int) := by unfold bit; omega
          refine seq_split (fun τ M' => LS (Is s) M5 M' s l ns ∧ M' q = some (.lst (ps.map planD)) ∧ M' r = some (.lst (((reachT p t 0 0).map fun m => lv t.ends m).map D.int)) ∧ ∃ o13, τ = [some (.ref s), some (.ref d), some t.toD, some (.ref a), some (.ref b), some (lchD (t.root 0 0)), some (.ref o), some (planD p), some (.ref r), some (.int (i2 : Nat)), some (.bl (isWin t p (i2 : Nat))), none, o12, o13]) ?_ ?_
          rotate_left
          · intro nx2 hnx2
            walk_at "dl"
            simp only [itemsOf, keepOf, seqOf_lst hr9]
            intro z hz
            have rz : r ≠ z := by rintro rfl; rw [hr9] at hz; cases hz
            have qz : q ≠ z := by rintro rfl; rw [hL9] at hz; cases hz
            refine dCL_map (xs := (reachT p t 0 0).map fun m => lv t.ends m) D.int (fun v => D.bl (decide (v = ((i2 : Nat) : Int)))) rfl (by rw [List.length_map]; have := rlen (p := p); omega) (fun ys => seqOf_lst (by rw [put_ne rz]; exact hr9)) (fun v hv ys k' h => ?_) ?_
            · simp only [wipeD]
              walk_at "dl"
              exact h
            · have e9 : ((reachT p t 0 0).map fun m => lv t.ends m).map (fun v => D.bl (decide (v = ((i2 : Nat) : Int)))) = ((reachT p t 0 0).map fun m => decide (lv t.ends m = ((i2 : Nat) : Int))).map D.bl := by rw [List.map_map, List.map_map]; rfl
              have e10 : ((reachT p t 0 0).map fun m => decide (lv t.ends m = ((i2 : Nat) : Int))).all id = isWin t p (i2 : Nat) := by rw [isWin_reach (plOk_okP hp), List.all_map]; rfl
              simp only [e9, all_put, e10]
              exact hnx2 _ _ ⟨J9.new hz, by rw [put_ne qz]; exact hL9, by rw [put_ne rz]; exact hr9, o13, rfl⟩
          rintro τ M10 ⟨J10, hL10, hr10, o13, rfl⟩
          refine ifS_p False (fun Q' E' _ q2 => ?_) False.elim fun _ => hnx3 _ _ ⟨J10, hL10, hr10, _, _, _, _, rfl⟩
          have q2 := q2 id
          walk_at "dl"
          refine win_ok (D' J10) g hp hg (same_ok okS_bl ?_)
          simp only [Bool.not_true, Bool.false_eq_true, if_false]
          refine win_ok (O' J10) gsw (plOk_sw hp) (bit_flip hg) ?_
          rw [isWin_sw (plOk_okP hp)]
          refine same_ok okS_bl ?_
          simp only [Bool.not_true]
          exact q2
        · rintro τ M9 ⟨J9, hL9, hr9, o9, o10, o12, o13, rfl⟩
          exact hnx' _ _ ⟨J9, hL9, _, _, _, _, _, _, rfl⟩
    · rintro τ M7 ⟨J7, hL7, o7, o8, o9, o10, o12, o13, rfl⟩
      exact hnx _ _ ⟨J7, o7, o8, o9, o10, o12, o13, rfl⟩
  rintro τ M6 ⟨J6, o7, o8, o9, o10, o12, o13, rfl⟩
  have hw := win_is_bit g.1
  refine seq_split (fun τ M' => LS (Is s) M5 M' s l ns ∧ τ = [some (.ref s), some (.ref d), some t.toD, some (.ref a), some (.ref b), some (lchD (t.root 0 0)), some (.ref o), o7, o8, o9, o10, some (.int (win t.ends t)), o12, o13]) ?_ ?_
  rotate_left
  · intro nx hnx
    walk_at "dl"
    refine ⟨a, b, t, t.ends, rfl, N' J6, B' J6, g, rfl, ends_bit g.1, fun p hp => ?_⟩
    refine lent (root_ent rfl) (sq_at put_same) (sq_at (B' (J6.new hp))) (hnx _ _ ⟨J6.new hp, rfl⟩)
  rintro τ M7 ⟨J7, rfl⟩
  have hP : plOk t (planT (win t.ends t) (lv t.ends) t) := plan_plOk g.1
  refine seq_split (fun τ M' => M7 = M' ∧ τ = [some (.ref s), some (.ref d), some t.toD, some (.ref a), some (.ref b), some (lchD (t.root 0 0)), some (.ref o), some (planD (planT (win t.ends t) (lv t.ends) t)), o8, o9, o10, some (.int (win t.ends t)), o12, o13]) ?_ ?_
  rotate_left
  · intro nx hnx
    walk_at "dl"
    exact ⟨d, t, rfl, D' J7, g, hnx _ _ ⟨rfl, rfl⟩⟩
  rintro τ M8 ⟨rfl, rfl⟩
  refine seq_split (fun τ M' => M7 = M' ∧ τ = [some (.ref s), some (.ref d), some t.toD, some (.ref a), some (.ref b), some (lchD (t.root 0 0)), some (.ref o), some (planD (planT (win t.ends t) (lv t.ends) t)), o8, o9, o10, some (.int (win t.ends t)), o12, o13]) ?_ ?_
  rotate_left
  · intro nx hnx
    refine ifS_p False (fun Q' E' _ q2 => ?_) False.elim fun _ => hnx _ _ ⟨rfl, rfl⟩
    have q2 := q2 id
    walk_at "dl"
    refine ⟨d, t, rfl, D' J7, g, same_ok okS_int ?_⟩
    simp only [Bool.not_true, Bool.false_eq_true, if_false]
    refine ⟨o, t.sw, rfl, O' J7, gsw, ?_⟩
    rw [win_sw]
    refine same_ok okS_int ?_
    simp only [Bool.not_true]
    exact q2
  rintro τ M8 ⟨rfl, rfl⟩
  refine seq_split (fun τ M' => M7 = M' ∧ τ = [some (.ref s), some (.ref d), some t.toD, some (.ref a), some (.ref b), some (lchD (t.root 0 0)), some (.ref o), some (planD (planT (win t.ends t) (lv t.ends) t)), o8, o9, o10, some (.int (win t.ends t)), o12, o13]) ?_ ?_
  rotate_left
  · intro nx hnx
    refine ifS_p False (fun Q' E' _ q2 => ?_) False.elim fun _ => hnx _ _ ⟨rfl, rfl⟩
    have q2 := q2 id
    walk_at "dl"
    refine ⟨o, t.sw, rfl, O' J7, gsw, ?_⟩
    rw [plan_sw]
    refine same_ok (okS_plan (by have := hP.1; omega)) ?_
    simp only [Bool.not_true, Bool.false_eq_true, if_false]
    refine ⟨a, t, _, rfl, N' J7, g, hP, ?_⟩
    simp only [Bool.not_true]
    exact q2
  rintro τ M8 ⟨rfl, rfl⟩
  refine seq_split (fun τ M' => LS (Is s) M5 M' s l ns ∧ τ = [some (.ref s), some (.ref d), some t.toD, some (.ref a), some (.ref b), some (lchD (t.root 0 0)), some (.ref o), some (planD (planT (win t.ends t) (lv t.ends) t)), o8, o9, o10, some (.int (win t.ends t)), o12, o13]) ?_ ?_
  rotate_left
  · intro nx hnx
    walk_at "dl"
    refine reach J7 hP fun f M8 J8 e8 hf => ?_
    simp only [itemsOf, keepOf, seqOf_lst hf]
    intro r hr
    refine leaf_comp (fun v => D.bl (decide (v = win t.ends t))) (B' J8) hf hr rin rlen (fun m M' k' hb' hm h => ?_) ?_
    · simp only [wipeD]
      walk_at "dl"
      rw [ixg_at hb' (lv_at hm)]
      simp only [eqD_int]
      exact h
    · have e9 : (reachT (planT (win t.ends t) (lv t.ends) t) t 0 0).map (fun m => D.bl (decide (lv t.ends m = win t.ends t))) = ((reachT (planT (win t.ends t) (lv t.ends) t) t 0 0).map fun m => decide (lv t.ends m = win t.ends t)).map D.bl := by rw [List.map_map]; rfl
      have e10 : ((reachT (planT (win t.ends t) (lv t.ends) t) t 0 0).map fun m => decide (lv t.ends m = win t.ends t)).all id = true := by
        rw [← best_win g.1, isWin_reach (plOk_okP hP), List.all_map]; rfl
      simp only [e9, all_put, e10, Bool.not_true, Bool.false_eq_true, if_false]
      exact hnx _ _ ⟨J8.new hr, rfl⟩
  rintro τ M8 ⟨J8, rfl⟩
  refine seq_split (fun τ M' => M8 = M' ∧ τ = [some (.ref s), some (.ref d), some t.toD, some (.ref a), some (.ref b), some (lchD (t.root 0 0)), some (.ref o), some (planD (planT (win t.ends t) (lv t.ends) t)), o8, o9, o10, some (.int (win t.ends t)), o12, o13]) ?_ ?_
  rotate_left
  · intro nx hnx
    refine ifS_p False (fun Q' E' _ q2 => ?_) False.elim fun _ => hnx _ _ ⟨rfl, rfl⟩
    have q2 := q2 id
    walk_at "dl"
    refine win_ok (D' J8) g hP hw ?_
    rw [best_win g.1]
    simp only [isG, decide_true, bne_self_eq_false, Bool.false_eq_true, if_false, Bool.true_bne, Bool.not_true]
    refine win_ok (D' J8) g hP (bit_flip hw) ?_
    rw [best_lose g.1]
    simp only [isG, decide_true, Bool.true_bne, Bool.not_true]
    exact q2
  rintro τ M9 ⟨rfl, rfl⟩
  walk_at "dl"
  refine ⟨s, l, ns, a, t, rfl, J8.P, N' J8, g, fun p hp => drawn_ls J8 fun M9 J9 e9 => ?_⟩
  exact ⟨s, l, ns, d, a, t, p, rfl, J9.P, D' J9, N' J9, g, hp, drawn_ls J9 fun M10 J10 e10 => dropQ_of (k M10 J10.P (e5.trans J10.X)) .refl⟩
end K43

set_option maxHeartbeats 4000000
namespace K43
open PySem L2 DL DU
local macro_rules | `(tactic| walk_at "dl") => `(tactic| simp only [dSeq, dIfS, dB, dTru, truD, dOp, dVar, dC, dAsg, dAug, dCB, dCons, dNil, dRet, dRetN, dName, dGSub, dNext, ends, exOf, dstart, slot, oI0, oI, dAnd, dOr, dNot, dAndV, dOrV, dNotV, dNeg, dSl, dNoP, dPart, dFld, dFldS, dRaise, dLst, dTup, dFor, dIter, dRng1, dRng2, dCall, dMake, dMeth, dIxO, dLc, dYes, dGTup, dGCons, dGNil, dDrop, dBreak, dBM, dDIn, dNever, dChain, dRngD, dZip, dRaiseI, dLstRg, dDGet, dDGet2, dDNew, dGSubD, dDStar,
  eqD_str, neD_str, eqD_int, neD_int, ixG_t0, ixG_t1, isiG_str, isi_int, isi_int_s, isi_int_t, isi_tup, isi_tup_s, isi_tup_i, isi_str_i, isi_str_t, lenG_tup, addD_int, mulD_int, intG, List.nil_append, bne_iff_ne, ofS_inj, Bool.false_bne, Bool.true_bne,
  List.map, List.length_cons, List.length_nil, List.cons_append, List.append_nil, List.replicate, List.set, List.getElem?_cons_zero, List.getElem?_cons_succ, Option.join_some, Option.bind_some, decide_eq_true_eq])
variable {K : PySem.W.Frag} {A : Adr} {w : World} {mg : Str → Option Value}
def bits (n x : Nat) : List Int := (List.range n).map fun l => bt x l
theorem bits_len {n x : Nat} : (bits n x).length = n := by simp [bits]
theorem bits_bit {n x : Nat} : ∀ o, o ∈ bits n x → bit o := by
  intro o h
  obtain ⟨l, _, rfl⟩ := List.mem_map.mp h
  exact bt_bit x l
theorem bits_lv {n x l : Nat} (h : l < n) : lv (bits n x) l = bt x l := by
  unfold lv bits
  rw [List.getD_eq_getElem?_getD, List.getElem?_map, List.getElem?_range h]; rfl
theorem bits_win {t : Tr} {x : Nat} : win (bits t.nl x) t = wx t x := eval_congr t 0 0 fun m _ h => bits_lv (by omega)
theorem re_win {t : Tr} {es : List Int} (h : es.length = t.nl) : win (t.re es 0).ends (t.re es 0) = win es t := by
  rw [re_ends_all h]
  exact re_eval t 0 0 0
theorem ok_intL : ∀ es : List Int, okL (es.map D.int) = true
  | [] => by simp [okL]
  | e :: es => by simp [okL, ok, ok_intL es]
theorem dep_intL : ∀ es : List Int, depL (es.map D.int) = 0
  | [] => by simp [depL]
  | e :: es => by simp [depL, dep, dep_intL es]
theorem eq_ints {p q : Addr} {M : Mp} {xs ys : List Int} {Q : DK} (h1 : M p = some (.lst (xs.map D.int))) (h2 : M q = some (.lst (ys.map D.int))) (h : xs = ys) (k : Q (.bl true) M) : eqD (.ref p) (.ref q) M Q := by
  unfold eqD eqG
  simp only [h1, h2]
  refine ⟨ok_intL _, ok_intL _, by rw [dep_intL]; omega, ?_⟩
  rw [eqbL_ints, decide_eq_true h]
  simpa using k
def pows : List Int := [1, 2, 4, 8, 16, 32, 64]
theorem pows_at {n : Nat} (h : n < 7) : (pows.map D.int)[n]? = some (.int ((2 ^ n : Nat) : Int)) := by
  have : n = 0 ∨ n = 1 ∨ n = 2 ∨ n = 3 ∨ n = 4 ∨ n = 5 ∨ n = 6 := by omega
  rcases this with rfl | rfl | rfl | rfl | rfl | rfl | rfl <;> rfl
set_option maxHeartbeats 4000000 in
theorem r_law_all_ends (T : Txt w K mg A) : ∀ ds M Q E, sp_law_all_ends A.Duel ds M Q E → t_law_all_ends K A (ends Q E) (dstart N_law_all_ends ds) M := by
  rintro ds M Q E ⟨d, t, rfl, hD, g, h7, k⟩
  have sl : sizeLine = 16777216 := sizeLine_eq
  have hn := g.2.2.1
  have lse : t.ends.length = t.nl := rfl
  have hD' := hD
  unfold DuelAt at hD'
  unfold t_law_all_ends N_law_all_ends
  simp only [dstart, List.map, List.length_cons, List.length_nil, List.replicate, List.cons_append, List.nil_append]
  refine seq_split (fun τ M' => ∃ a, M a = none ∧ M' = put M a (.lst []) ∧ τ = [some (.ref d), some t.toD, some (.ref a), none, none, none, none, none, none, none, none]) ?_ ?_
  rotate_left
  · intro nx hnx
    walk_at "dl"
    exact ⟨by omega, fun a ha => hnx _ _ ⟨a, ha, rfl, rfl⟩⟩
  rintro τ M1 ⟨a, ha, rfl, rfl⟩
  refine seq_split (fun τ M' => ∃ b, (put M a (.lst [])) b = none ∧ M' = put (put M a (.lst [])) b (.lst []) ∧ τ = [some (.ref d), some t.toD, some (.ref a), some (.ref b), none, none, none, none, none, none, none]) ?_ ?_
  rotate_left
  · intro nx hnx
    walk_at "dl"
    exact ⟨by omega, fun b hb => hnx _ _ ⟨b, hb, rfl, rfl⟩⟩
  rintro τ M2 ⟨b, hb, rfl, rfl⟩
  obtain ⟨nba, hb0⟩ := put_none hb
  have e2 : Sub M (put (put M a (.lst [])) b (.lst [])) := (Sub.refl.put ha).put hb
  refine seq_split (fun τ M' => Sub M M' ∧ NodesAt M' a t ∧ M' b = some (.lst (t.ends.map D.int)) ∧ τ = [some (.ref d), some t.toD, some (.ref a), some (.ref b), some (lchD (t.root 0 0)), none, none, none, none, none, none]) ?_ ?_
  rotate_left
  · intro nx hnx
    walk_at "dl"
    refine scan_new g nba.symm (by rw [put_ne nba.symm, put_same]) put_same fun M' nA hB e => ?_
    refine hnx _ _ ⟨fun x o hxo => ?_, nA, hB, rfl⟩
    refine e _ _ ?_ (e2 _ _ hxo)
    rintro (rfl | rfl)
    · rw [ha] at hxo; cases hxo
    · rw [hb0] at hxo; cases hxo
  rintro τ M3 ⟨e3, N3, B3, rfl⟩
  refine seq_split (fun τ M' => ∃ pw, Sub M3 M' ∧ M' pw = some (.lst (pows.map D.int)) ∧ τ = [some (.ref d), some t.toD, some (.ref a), some (.ref b), some (lchD (t.root 0 0)), some (.ref pw), none, none, none, none, none]) ?_ ?_
  rotate_left
  · intro nx hnx
    walk_at "dl"
    exact ⟨by omega, fun pw hp => hnx _ _ ⟨pw, Sub.refl.put hp, by rw [put_same]; rfl, rfl⟩⟩
  rintro τ M4 ⟨pw, s4, P4, rfl⟩
  refine seq_split (fun τ M' => ∃ w, M4 w = none ∧ M' = put M4 w (.lst [.int 0, .int 0]) ∧ τ = [some (.ref d), some t.toD, some (.ref a), some (.ref b), some (lchD (t.root 0 0)), some (.ref pw), some (.ref w), none, none, none, none]) ?_ ?_
  rotate_left
  · intro nx hnx
    walk_at "dl"
    exact ⟨by omega, fun w hw => hnx _ _ ⟨w, hw, rfl, rfl⟩⟩
  rintro τ M5 ⟨w, hw, rfl, rfl⟩
  have D4 : M4 d = some (.ins A.Duel (duelF t)) := s4 _ _ (e3 _ _ hD')
  have N4 : NodesAt M4 a t := N3.sub s4
  have B4 := s4 _ _ B3
  refine seq_split (fun τ M' => Sub M4 M' ∧ M' w = some (.lst ([((cnt (2 ^ t.nl) fun x => decide (wx t x = 0) : Nat) : Int), ((cnt (2 ^ t.nl) fun x => decide (wx t x = 1) : Nat) : Int)].map D.int)) ∧ ∃ o7 o8 o9 o10, τ = [some (.ref d), some t.toD, some (.ref a), some (.ref b), some (lchD (t.root 0 0)), some (.ref pw), some (.ref w), o7, o8, o9, o10]) ?_ ?_
  rotate_left
  · intro nx hnx
    have s5 : Sub M4 (put M4 w (.lst [.int 0, .int 0])) := Sub.refl.put hw
    have P5 := s5 _ _ P4
    have B5 := s5 _ _ B4
    walk_at "dl"
    simp only [lenG_at B5, List.length_map, lse, ixg_at P5 (pows_at h7), Int.toNat_natCast]
    have p64 : 2 ^ t.nl ≤ 64 := by
      have := Nat.pow_le_pow_right (show 0 < 2 by omega) (show t.nl ≤ 6 by omega)
      simpa using this
    have p0 := Int.natCast_nonneg (2 ^ t.nl)
    refine ⟨by omega, by omega, ?_⟩
    refine dLoop_inv (fun i τ M' => Sub M4 M' ∧ M' w = some (.lst ([((cnt i fun x => decide (wx t x = 0) : Nat) : Int), ((cnt i fun x => decide (wx t x = 1) : Nat) : Int)].map D.int)) ∧ ∃ o7 o8 o9 o10, τ = [some (.ref d), some t.toD, some (.ref a), some (.ref b), some (lchD (t.root 0 0)), some (.ref pw), some (.ref w), o7, o8, o9, o10]) (fun _ _ _ _ _ => trivial) ?_ ?_ ⟨s5, by rw [put_same]; simp [cnt], none, none, none, none, rfl⟩
    · rintro i dd τ M6 nxt hd ⟨s6, W6, o7, o8, o9, o10, rfl⟩ hnx'
      obtain ⟨hi, rfl⟩ := rng_at hd
      have hwb : bit (wx t i) := win_bit (bt_bit i) t 0 0 g.1
      refine seq_split (fun τ M' => Sub M6 M' ∧ ∃ e, M' e = some (.lst ((bits t.nl i).map D.int)) ∧ τ = [some (.ref d), some t.toD, some (.ref a), some (.ref b), some (lchD (t.root 0 0)), some (.ref pw), some (.ref w), some (.int (i : Nat)), some (.ref e), o9, o10]) ?_ ?_
      rotate_left
      · intro nx2 hnx2
        have B6 := s6 _ _ B4
        have P6 := s6 _ _ P4
        walk_at "dl"
        simp only [lenG_at B6, List.length_map, lse, Int.toNat_natCast]
        refine ⟨by omega, by omega, fun e he => ?_⟩
        have pe : pw ≠ e := by rintro rfl; rw [P6] at he; cases he
        refine dCL_map (xs := List.range t.nl) (fun (m : Nat) => D.int m) (fun m => D.int (bt i m)) rfl (by simp; omega) (fun _ => trivial) (fun m hm ys k' h => ?_) ?_
        · have hm := List.mem_range.mp hm
          have pp : (put M6 e (.lst ys)) pw = some (.lst (pows.map D.int)) := by rw [put_ne pe]; exact P6
          simp only [wipeD]
          walk_at "dl"
          rw [ixg_at pp (pows_at (by omega))]
          have pl : 0 < 2 ^ m := Nat.two_pow_pos m
          have pu : 2 ^ m ≤ 64 := by
            have := Nat.pow_le_pow_right (show 0 < 2 by omega) (show m ≤ 6 by omega)
            simpa using this
          refine ⟨⟨by omega, log_small (by simp; omega)⟩, by omega, ?_⟩
          have : ((i : Nat) : Int) / ((2 ^ m : Nat) : Int) % 2 = bt i m := by unfold bt; omega
          rw [this]; exact h
        · exact hnx2 _ _ ⟨Sub.refl.put he, e, by rw [put_same]; unfold bits; rw [List.map_map]; rfl, rfl⟩
      rintro τ M7 ⟨s7, e, E7, rfl⟩
      have s47 := s6.trans s7
      refine seq_split (fun τ M' => Sub M7 M' ∧ τ = [some (.ref d), some t.toD, some (.ref a), some (.ref b), some (lchD (t.root 0 0)), some (.ref pw), some (.ref w), some (.int (i : Nat)), some (.ref e), some (.int (wx t i)), o10]) ?_ ?_
      rotate_left
      · intro nx2 hnx2
        walk_at "dl"
        refine ⟨a, e, t, bits t.nl i, rfl, N4.sub s47, E7, g, bits_len, bits_bit, fun p hp => ?_⟩
        have sp := Sub.refl.put hp (o := .lst ((wins (bits t.nl i) t).map D.int))
        refine lent (root_ent bits_len) (sq_at put_same) (sq_at (sp _ _ E7)) ?_
        rw [bits_win]
        exact hnx2 _ _ ⟨sp, rfl⟩
      rintro τ M8 ⟨s8, rfl⟩
      have s48 := s47.trans s8
      have E8 := s8 _ _ E7
      refine seq_split (fun τ M' => Sub M8 M' ∧ τ = [some (.ref d), some t.toD, some (.ref a), some (.ref b), some (lchD (t.root 0 0)), some (.ref pw), some (.ref w), some (.int (i : Nat)), some (.ref e), some (.int (wx t i)), o10]) ?_ ?_
      rotate_left
      · intro nx2 hnx2
        have D8 := s48 _ _ D4
        walk_at "dl"
        simp only [D8, tupG, seqOf_lst E8]
        refine ⟨trivial, by rfl, d, t, bits t.nl i, rfl, D8, g, bits_len, bits_bit, fun x M9 hx h1 h2 => ?_⟩
        refine ⟨x, t.re (bits t.nl i) 0, rfl, h1, good_re (lv_bit bits_bit) g, ?_⟩
        rw [re_win bits_len, bits_win]
        refine same_ok okS_int ?_
        simp only [Bool.not_true, Bool.false_eq_true, if_false]
        exact hnx2 _ _ ⟨h2, rfl⟩
      rintro τ M9 ⟨s9, rfl⟩
      have W9 : M9 w = _ := s9 _ _ (s8 _ _ (s7 _ _ W6))
      have s49 := s48.trans s9
      walk_at "dl"
      have c0 := cnt_succ (N := i) (P := fun x => decide (wx t x = 0))
      have c1 := cnt_succ (N := i) (P := fun x => decide (wx t x = 1))
      unfold bit at hwb
      rcases hwb with hwb | hwb
      · rw [hwb]
        rw [hwb] at c0 c1
        simp only [ixg_at0 W9, addD, W9, List.map, List.length_cons, List.length_nil, show ixN (0 + 1 + 1) 0 = some 0 from rfl, List.set_cons_zero]
        refine hnx' _ _ ⟨sub_set s49 hw, ?_, _, _, _, _, rfl⟩
        rw [put_same, c0, c1]
        simp
      · rw [hwb]
        rw [hwb] at c0 c1
        simp only [ixg_at1 W9, addD, W9, List.map, List.length_cons, List.length_nil, show ixN (0 + 1 + 1) 1 = some 1 from rfl, List.set_cons_zero, List.set_cons_succ]
        refine hnx' _ _ ⟨sub_set s49 hw, ?_, _, _, _, _, rfl⟩
        rw [put_same, c0, c1]
        simp
    · rintro τ M6 ⟨s6, W6, hτ⟩
      rw [len_rng] at W6
      exact hnx _ _ ⟨s6, W6, hτ⟩
  rintro τ M6 ⟨s6, W6, o7, o8, o9, o10, rfl⟩
  walk_at "dl"
  refine ⟨t, rfl, g.1, by have := g.2.1; omega, g.2.2.2, fun p hp => ?_⟩
  have sp := Sub.refl.put hp (o := .lst [.int (cT t).1, .int (cT t).2])
  have cc := (cT_cnt t g.1).1
  have c0 := cc 0 (.inl rfl)
  have c1 := cc 1 (.inr rfl)
  unfold pk at c0 c1
  simp only [if_true] at c0
  rw [if_neg (by omega)] at c1
  refine eq_ints (xs := _) (ys := [(cT t).1, (cT t).2]) (sp _ _ W6) (by rw [put_same]; rfl) (by rw [c0, c1]) ?_
  have D6 := sp _ _ (s6 _ _ D4)
  have B6 := sp _ _ (s6 _ _ B4)
  simp only [if_true, D6, duelF_ends, tupG, seqOf_lst B6]
  refine ⟨T.d_Duel_ends, same_ok (okS_ints (by omega)) ?_⟩
  exact dropQ_of k (((e3.trans s4).trans s6).trans sp)
end K43

set_option maxHeartbeats 4000000
namespace K43
open PySem L2 DL DU
local macro_rules | `(tactic| walk_at "dl") => `(tactic| simp only [dSeq, dIfS, dB, dTru, truD, dOp, dVar, dC, dAsg, dAug, dCB, dCons, dNil, dRet, dRetN, dName, dGSub, dNext, ends, exOf, dstart, slot, oI0, oI, dAnd, dOr, dNot, dAndV, dOrV, dNotV, dNeg, dSl, dNoP, dPart, dFld, dFldS, dRaise, dLst, dTup, dFor, dIter, dRng1, dRng2, dCall, dMake, dMeth, dIxO, dLc, dYes, dGTup, dGCons, dGNil, dDrop, dBreak, dBM, dDIn, dNever, dChain, dRngD, dZip, dRaiseI, dLstRg, dDGet, dDGet2, dDNew, dGSubD, dDStar,
  eqD_str, neD_str, eqD_int, neD_int, ixG_t0, ixG_t1, isiG_str, isi_int, isi_int_s, isi_int_t, isi_tup, isi_tup_s, isi_tup_i, isi_str_i, isi_str_t, lenG_tup, addD_int, mulD_int, intG, List.nil_append, bne_iff_ne, ofS_inj, Bool.false_bne, Bool.true_bne,
  List.map, List.length_cons, List.length_nil, List.cons_append, List.append_nil, List.replicate, List.set, List.getElem?_cons_zero, List.getElem?_cons_succ, Option.join_some, Option.bind_some, decide_eq_true_eq])
variable {K : PySem.W.Frag} {A : Adr} {w : World} {mg : Str → Option Value}
set_option maxHeartbeats 4000000 in
theorem r_law (T : Txt w K mg A) : ∀ ds M Q E, sp_law K ds M Q E → t_law K A (ends Q E) (dstart N_law ds) M := by
  rintro ds M Q E ⟨a0, ns, rfl, hM, hl, hb, k⟩
  have sl : sizeLine = 16777216 := sizeLine_eq
  have fin : ∀ M', dropQ Q (.bl true) M' := fun M' => dropQ_of (k M') .refl
  unfold t_law N_law
  simp only [dstart, List.map, List.length_cons, List.length_nil, List.replicate, List.cons_append, List.nil_append]
  refine seq_split (fun τ M' => ∃ s l, PSt M' s l ns ∧ τ = [some (.ref a0), some (.ref s), none, none, none, none, none]) ?_ ?_
  rotate_left
  · intro nx hnx
    walk_at "dl"
    exact ⟨a0, ns, rfl, hM, hl, fun s l M' P _ => hnx _ _ ⟨s, l, P, rfl⟩⟩
  rintro τ M0 ⟨s, l, P, rfl⟩
  have J := LS.zero (S := Is s) P rfl
  refine seq_split (fun τ M' => LS (Is s) M0 M' s l ns ∧ ∃ lv : Nat, lv ≤ 6 ∧ τ = [some (.ref a0), some (.ref s), some (.int (lv : Nat)), none, none, none, none]) ?_ ?_
  rotate_left
  · intro nx hnx
    walk_at "dl"
    refine J.pick (by decide) (by decide) fun r M2 r0 r1 J2 e2 => ?_
    obtain ⟨r, rfl⟩ := Int.eq_ofNat_of_zero_le r0
    exact hnx _ _ ⟨J2, r, by omega, rfl⟩
  rintro τ M1 ⟨J1, lv, hlv, rfl⟩
  refine seq_split (fun τ M' => PSt M' s l ns ∧ ∃ t, good t ∧ τ = [some (.ref a0), some (.ref s), some (.int (lv : Nat)), some t.toD, none, none, none]) ?_ ?_
  rotate_left
  · intro nx hnx
    walk_at "dl"
    refine J1.pick (by decide) (by decide) fun x M2 x0 x1 J2 e2 => ?_
    refine J2.pick (by decide) (by decide) fun y M3 y0 y1 J3 e3 => ?_
    obtain ⟨x, rfl⟩ := Int.eq_ofNat_of_zero_le x0
    obtain ⟨y, rfl⟩ := Int.eq_ofNat_of_zero_le y0
    refine ⟨by omega, fun ro hro => ?_⟩
    have nr := J3.P.s_some hro
    refine ⟨s, l, ns, lv, ro, x, y, rfl, J3.P.new hro, nr.1, nr.2, put_same, by omega, by omega, by omega, fun t M' x' y' wt ht nt nlt P' _ _ => ?_⟩
    exact hnx _ _ ⟨P', t, ⟨wt, by omega, by omega, by omega⟩, rfl⟩
  rintro τ M2 ⟨P2, t0, g0, rfl⟩
  have J2 := LS.zero (S := Is s) P2 rfl
  refine seq_split (fun τ M' => LS (Is s) M2 M' s l ns ∧ ∃ wy : Int, τ = [some (.ref a0), some (.ref s), some (.int (lv : Nat)), some t0.toD, some (.int wy), none, none]) ?_ ?_
  rotate_left
  · intro nx hnx
    walk_at "dl"
    exact J2.pick (by decide) (by decide) fun r M2 r0 r1 J2 e2 => hnx _ _ ⟨J2, r, rfl⟩
  rintro τ M3 ⟨J3, wy, rfl⟩
  refine seq_split (fun τ M' => PSt M' s l ns ∧ ∃ t, good t ∧ τ = [some (.ref a0), some (.ref s), some (.int (lv : Nat)), some t.toD, some (.int wy), none, none]) ?_ ?_
  rotate_left
  · intro nx hnx
    walk_at "dl"
    by_cases c : wy = 0
    · simp only [c, decide_true, if_true]
      refine J3.pick (by decide) (by decide) fun x M4 x0 x1 J4 e4 => ?_
      simp only [addD]
      refine J4.pick (by decide) (by decide) fun y M5 y0 y1 J5 e5 => ?_
      obtain ⟨x, rfl⟩ := Int.eq_ofNat_of_zero_le x0
      obtain ⟨y, rfl⟩ := Int.eq_ofNat_of_zero_le y0
      simp only [addD]
      refine ⟨s, l, ns, 150 + x, 20 + y, by simp, J5.P, by omega, by omega, by omega, by omega, fun t g M6 P6 e6 => ?_⟩
      exact hnx _ _ ⟨P6, t, g, by rw [c]⟩
    · simp only [c, decide_false, Bool.false_eq_true, if_false]
      exact hnx _ _ ⟨J3.P, t0, g0, rfl⟩
  rintro τ M4 ⟨P4, t1, g1, rfl⟩
  refine seq_split (fun τ M' => PSt M' s l ns ∧ ∃ t, good t ∧ τ = [some (.ref a0), some (.ref s), some (.int (lv : Nat)), some t.toD, some (.int wy), none, none]) ?_ ?_
  rotate_left
  · intro nx hnx
    walk_at "dl"
    by_cases c : wy = 1
    · simp only [c, decide_true, if_true]
      refine ⟨s, l, ns, rfl, P4, fun t p d g M6 P6 e6 h6 => ?_⟩
      simp only [ixg_at0 h6]
      exact hnx _ _ ⟨P6, t, g, by rw [c]⟩
    · simp only [c, decide_false, Bool.false_eq_true, if_false]
      exact hnx _ _ ⟨P4, t1, g1, rfl⟩
  rintro τ M5 ⟨P5, t, g, rfl⟩
  refine seq_split (fun τ M' => ∃ b, PSt M' s l ns ∧ b ≠ s ∧ b ≠ l ∧ M' b = some (.lst []) ∧ τ = [some (.ref a0), some (.ref s), some (.int (lv : Nat)), some t.toD, some (.int wy), some (.ref b), none]) ?_ ?_
  rotate_left
  · intro nx hnx
    walk_at "dl"
    exact ⟨by omega, fun b hb => hnx _ _ ⟨b, P5.new hb, (P5.s_some hb).1, (P5.s_some hb).2, put_same, rfl⟩⟩
  rintro τ M6 ⟨b, P6, nbs, nbl, B6, rfl⟩
  refine seq_split (fun τ M' => ∃ d, PSt M' s l ns ∧ DuelAt A.Duel M' d t ∧ M' b = some (.lst []) ∧ τ = [some (.ref a0), some (.ref s), some (.int (lv : Nat)), some t.toD, some (.int wy), some (.ref b), some (.ref d)]) ?_ ?_
  rotate_left
  · intro nx hnx
    walk_at "dl"
    exact make_duel (Q := fun v M' => nx [some (.ref a0), some (.ref s), some (.int (lv : Nat)), some t.toD, some (.int wy), some (.ref b), some v] M') g fun d M' _ h1 h2 => hnx _ _ ⟨d, PSt.sub P6 h2, h1, h2 _ _ B6, rfl⟩
  rintro τ M7 ⟨d, P7, D7, B7, rfl⟩
  have stree := okS_tree t 23 g.1 (by have := g.2.1; omega)
  refine seq_split (fun τ M' => DuelAt A.Duel M' d t ∧ M' b = some (.lst (t.ends.map D.int)) ∧ τ = [some (.ref a0), some (.ref s), some (.int (lv : Nat)), some t.toD, some (.int wy), some (.ref b), some (.ref d)]) ?_ ?_
  rotate_left
  · intro nx hnx
    have D7' := D7
    unfold DuelAt at D7'
    walk_at "dl"
    simp only [D7', duelF_tree]
    refine ⟨T.d_Duel_tree, same_ok stree ?_⟩
    simp only [Bool.not_true, Bool.false_eq_true, if_false]
    refine ⟨by omega, fun a ha => ?_⟩
    have nab : a ≠ b := by rintro rfl; rw [B7] at ha; cases ha
    have nas := P7.s_some ha
    have nad : d ≠ a := by rintro rfl; rw [D7'] at ha; cases ha
    have nbd : d ≠ b := by rintro rfl; rw [D7'] at B7; cases B7
    have P8 : PSt (put M7 a (.lst [])) s l ns := P7.new ha
    refine scan_new g nab put_same (by rw [put_ne nab.symm]; exact B7) fun M8 _ B8 e8 => ?_
    have P9 : PSt M8 s l ns := PSt.ext P8 e8 (by rintro (rfl | rfl); exact nas.1 rfl; exact nbs rfl) (by rintro (rfl | rfl); exact nas.2 rfl; exact nbl rfl)
    have D8 : DuelAt A.Duel M8 d t := e8 _ _ (by rintro (rfl | rfl); exact nad rfl; exact nbd rfl) (by rw [put_ne nad]; exact D7')
    have nn : isNone (lchD (t.root 0 0)) = false := by cases t.root 0 0 <;> rfl
    simp only [isG, nn, Bool.false_bne, Bool.false_eq_true, if_false]
    refine ⟨s, l, ns, d, t, rfl, P9, D8, g, fun M9 P10 e9 => ?_⟩
    simp only [Bool.not_true, Bool.false_eq_true, if_false]
    exact hnx _ _ ⟨D8.draw P9 e9, e9 _ _ nbs B8, rfl⟩
  rintro τ M8 ⟨D8, B8, rfl⟩
  refine seq_split (fun τ M' => DuelAt A.Duel M' d t ∧ τ = [some (.ref a0), some (.ref s), some (.int (lv : Nat)), some t.toD, some (.int wy), some (.ref b), some (.ref d)]) ?_ ?_
  rotate_left
  · intro nx hnx
    have lse : t.ends.length = t.nl := rfl
    walk_at "dl"
    simp only [lenG_at B8, List.length_map, lse]
    by_cases c : ((t.nl : Nat) : Int) < 7
    · simp only [c, decide_true, if_true]
      refine ⟨d, t, rfl, D8, g, by omega, ?_⟩
      simp only [Bool.not_true, Bool.false_eq_true, if_false]
      exact hnx _ _ ⟨D8, rfl⟩
    · simp only [c, decide_false, Bool.false_eq_true, if_false]
      exact hnx _ _ ⟨D8, rfl⟩
  rintro τ M9 ⟨D9, rfl⟩
  have D9' := D9
  unfold DuelAt at D9'
  walk_at "dl"
  simp only [D9', duelF_tree]
  exact ⟨T.d_Duel_tree, same_ok stree (fin _)⟩
end K43

set_option maxHeartbeats 4000000
namespace K43
open PySem L2 DL
theorem fnOk_not {P : Program} {w : World} {K : PySem.W.Frag} {mg : Str → Option Value} {base : Heap} {k : Nat} {f : Addr} {fd : FuncData} {ps : List Str} {sp : DSp} (h : ∀ ds M Q E, ¬ sp ds M Q E) : FnOk P w K mg base (L2.CX P w) k f fd ps (liftSp K sp) :=
  ⟨fun vs H Q E ⟨ds, M, Qd, Ed, q, r⟩ => (h _ _ _ _ q).elim, fun A outer s H args us vs Q E hr he hb hv ⟨ds, M, Qd, Ed, q, r⟩ => (h _ _ _ _ q).elim⟩
theorem len_is_outcome : ∀ ds M Q E, sp_is_outcome ds M Q E → ds.length = P_is_outcome.length := fun ds M Q E h => by
  (repeat (obtain ⟨_, h⟩ := h))
  all_goals (subst_vars; rfl)
theorem len_check_tree : ∀ ds M Q E, sp_check_tree ds M Q E → ds.length = P_check_tree.length := fun ds M Q E h => by
  (repeat (obtain ⟨_, h⟩ := h))
  all_goals (subst_vars; rfl)
theorem len_scan_tree {n : Nat} : ∀ ds M Q E, sp_scan_tree (n + 1) ds M Q E → ds.length = P_scan_tree.length := fun ds M Q E h => by
  (repeat (obtain ⟨_, h⟩ := h))
  all_goals (subst_vars; rfl)
theorem len_Duel_init {A : Adr} : ∀ ds M Q E, sp_Duel_init A.Duel ds M Q E → ds.length = P_Duel_init.length := fun ds M Q E h => by
  (repeat (obtain ⟨_, h⟩ := h))
  all_goals (subst_vars; rfl)
theorem len_tree_with_ends {n : Nat} : ∀ ds M Q E, sp_tree_with_ends (n + 1) ds M Q E → ds.length = P_tree_with_ends.length := fun ds M Q E h => by
  (repeat (obtain ⟨_, h⟩ := h))
  all_goals (subst_vars; rfl)
theorem len_Duel_with_ends {A : Adr} : ∀ ds M Q E, sp_Duel_with_ends A.Duel ds M Q E → ds.length = P_Duel_with_ends.length := fun ds M Q E h => by
  (repeat (obtain ⟨_, h⟩ := h))
  all_goals (subst_vars; rfl)
theorem len_swapped_tree {n : Nat} : ∀ ds M Q E, sp_swapped_tree (n + 1) ds M Q E → ds.length = P_swapped_tree.length := fun ds M Q E h => by
  (repeat (obtain ⟨_, h⟩ := h))
  all_goals (subst_vars; rfl)
theorem len_swapped {A : Adr} : ∀ ds M Q E, sp_swapped A.Duel ds M Q E → ds.length = P_swapped.length := fun ds M Q E h => by
  (repeat (obtain ⟨_, h⟩ := h))
  all_goals (subst_vars; rfl)
theorem len_entry_of : ∀ ds M Q E, sp_entry_of ds M Q E → ds.length = P_entry_of.length := fun ds M Q E h => by
  (repeat (obtain ⟨_, h⟩ := h))
  all_goals (subst_vars; rfl)
theorem len_winners_with {A : Adr} : ∀ ds M Q E, sp_winners_with A.Duel ds M Q E → ds.length = P_winners_with.length := fun ds M Q E h => by
  (repeat (obtain ⟨_, h⟩ := h))
  all_goals (subst_vars; rfl)
theorem len_winner {A : Adr} : ∀ ds M Q E, sp_winner A.Duel ds M Q E → ds.length = P_winner.length := fun ds M Q E h => by
  (repeat (obtain ⟨_, h⟩ := h))
  all_goals (subst_vars; rfl)
theorem len_winning_plan {A : Adr} : ∀ ds M Q E, sp_winning_plan A.Duel ds M Q E → ds.length = P_winning_plan.length := fun ds M Q E h => by
  (repeat (obtain ⟨_, h⟩ := h))
  all_goals (subst_vars; rfl)
theorem len_require_plan {A : Adr} : ∀ ds M Q E, sp_require_plan A ds M Q E → ds.length = P_require_plan.length := fun ds M Q E h => by
  (repeat (obtain ⟨_, h⟩ := h))
  all_goals (subst_vars; rfl)
theorem len_is_winning {A : Adr} : ∀ ds M Q E, sp_is_winning A ds M Q E → ds.length = P_is_winning.length := fun ds M Q E h => by
  (repeat (obtain ⟨_, h⟩ := h))
  all_goals (subst_vars; rfl)
theorem len_law_pick : ∀ ds M Q E, sp_law_pick ds M Q E → ds.length = P_law_pick.length := fun ds M Q E h => by
  (repeat (obtain ⟨_, h⟩ := h))
  all_goals (subst_vars; rfl)
theorem len_law_same {n : Nat} : ∀ ds M Q E, sp_law_same (n + 1) ds M Q E → ds.length = P_law_same.length := fun ds M Q E h => by
  (repeat (obtain ⟨_, h⟩ := h))
  all_goals (subst_vars; rfl)
theorem len_law_tree {n : Nat} : ∀ ds M Q E, sp_law_tree (n + 1) ds M Q E → ds.length = P_law_tree.length := fun ds M Q E h => by
  (repeat (obtain ⟨_, h⟩ := h))
  all_goals (subst_vars; rfl)
theorem len_law_scan {n : Nat} : ∀ ds M Q E, sp_law_scan (n + 1) ds M Q E → ds.length = P_law_scan.length := fun ds M Q E h => by
  (repeat (obtain ⟨_, h⟩ := h))
  all_goals (subst_vars; rfl)
theorem len_law_at : ∀ ds M Q E, sp_law_at ds M Q E → ds.length = P_law_at.length := fun ds M Q E h => by
  (repeat (obtain ⟨_, h⟩ := h))
  all_goals (subst_vars; rfl)
theorem len_law_winners : ∀ ds M Q E, sp_law_winners ds M Q E → ds.length = P_law_winners.length := fun ds M Q E h => by
  (repeat (obtain ⟨_, h⟩ := h))
  all_goals (subst_vars; rfl)
theorem len_law_reached {n : Nat} : ∀ ds M Q E, sp_law_reached (n + 1) ds M Q E → ds.length = P_law_reached.length := fun ds M Q E h => by
  (repeat (obtain ⟨_, h⟩ := h))
  all_goals (subst_vars; rfl)
theorem len_law_refused {A : Adr} : ∀ ds M Q E, sp_law_refused A ds M Q E → ds.length = P_law_refused.length := fun ds M Q E h => by
  (repeat (obtain ⟨_, h⟩ := h))
  all_goals (subst_vars; rfl)
theorem len_law_exchanged {n : Nat} : ∀ ds M Q E, sp_law_exchanged (n + 1) ds M Q E → ds.length = P_law_exchanged.length := fun ds M Q E h => by
  (repeat (obtain ⟨_, h⟩ := h))
  all_goals (subst_vars; rfl)
theorem len_law_grouped : ∀ ds M Q E, sp_law_grouped ds M Q E → ds.length = P_law_grouped.length := fun ds M Q E h => by
  (repeat (obtain ⟨_, h⟩ := h))
  all_goals (subst_vars; rfl)
theorem len_law_chain : ∀ ds M Q E, sp_law_chain ds M Q E → ds.length = P_law_chain.length := fun ds M Q E h => by
  (repeat (obtain ⟨_, h⟩ := h))
  all_goals (subst_vars; rfl)
theorem len_law_plans : ∀ ds M Q E, sp_law_plans ds M Q E → ds.length = P_law_plans.length := fun ds M Q E h => by
  (repeat (obtain ⟨_, h⟩ := h))
  all_goals (subst_vars; rfl)
theorem len_law_drawn : ∀ ds M Q E, sp_law_drawn ds M Q E → ds.length = P_law_drawn.length := fun ds M Q E h => by
  (repeat (obtain ⟨_, h⟩ := h))
  all_goals (subst_vars; rfl)
theorem len_law_chosen : ∀ ds M Q E, sp_law_chosen ds M Q E → ds.length = P_law_chosen.length := fun ds M Q E h => by
  (repeat (obtain ⟨_, h⟩ := h))
  all_goals (subst_vars; rfl)
theorem len_law_is_plan : ∀ ds M Q E, sp_law_is_plan ds M Q E → ds.length = P_law_is_plan.length := fun ds M Q E h => by
  (repeat (obtain ⟨_, h⟩ := h))
  all_goals (subst_vars; rfl)
theorem len_law_wrongs {A : Adr} : ∀ ds M Q E, sp_law_wrongs A.Duel ds M Q E → ds.length = P_law_wrongs.length := fun ds M Q E h => by
  (repeat (obtain ⟨_, h⟩ := h))
  all_goals (subst_vars; rfl)
theorem len_law_played {A : Adr} : ∀ ds M Q E, sp_law_played A.Duel ds M Q E → ds.length = P_law_played.length := fun ds M Q E h => by
  (repeat (obtain ⟨_, h⟩ := h))
  all_goals (subst_vars; rfl)
theorem len_law_counts {n : Nat} : ∀ ds M Q E, sp_law_counts (n + 1) ds M Q E → ds.length = P_law_counts.length := fun ds M Q E h => by
  (repeat (obtain ⟨_, h⟩ := h))
  all_goals (subst_vars; rfl)
theorem len_law_all_ends {A : Adr} : ∀ ds M Q E, sp_law_all_ends A.Duel ds M Q E → ds.length = P_law_all_ends.length := fun ds M Q E h => by
  (repeat (obtain ⟨_, h⟩ := h))
  all_goals (subst_vars; rfl)
theorem len_law {K : PySem.W.Frag} : ∀ ds M Q E, sp_law K ds M Q E → ds.length = P_law.length := fun ds M Q E h => by
  (repeat (obtain ⟨_, h⟩ := h))
  all_goals (subst_vars; rfl)
theorem all_mk {l : PySem.W.OpenLaw} {w : World} {K : PySem.W.Frag} {h : Heap} {mg : Str → Option Value} {fa ProofsError InvalidText InvalidTerm InvalidDuel OutOfRange SizeMismatch TooLarge InvalidPlan Duel f1 f2 f3 f4 f5 f6 f7 f8 f9 f10 f11 f12 f13 f14 f15 f16 f17 f18 f19 f20 f21 f22 f23 f24 f25 f26 f27 f28 f29 f30 f31 f32 f33 f34 f35 : Addr} (X : K.In h) (G : h.Ns mainGlobals mg) (hfa : mg "law" = some (.ref fa))
    {od1 an1 od2 an2 od3 an3 od4 an4 od5 an5 od6 an6 od7 an7 od8 an8 od9 an9 od10 an10 od11 an11 od12 an12 od13 an13 od14 an14 od15 an15 od16 an16 od17 an17 od18 an18 od19 an19 od20 an20 od21 an21 od22 an22 od23 an23 od24 an24 od25 an25 od26 an26 od27 an27 od28 an28 od29 an29 od30 an30 od31 an31 od32 an32 od33 an33 od34 an34 od35 an35 : Option Addr} {sl1 sl2 sl3 sl4 sl5 sl6 sl7 sl8 sl9 sl10 sl11 sl12 sl13 sl14 sl15 sl16 sl17 sl18 sl19 sl20 sl21 sl22 sl23 sl24 sl25 sl26 sl27 sl28 sl29 sl30 sl31 sl32 sl33 sl34 sl35 : Array (Option Value)} {oc1 kV1 dc1 pm1 cd1 ct1 oc2 kV2 dc2 pm2 cd2 ct2 oc3 kV3 dc3 pm3 cd3 ct3 oc4 kV4 dc4 pm4 cd4 ct4 oc5 kV5 dc5 pm5 cd5 ct5 oc6 kV6 dc6 pm6 cd6 ct6 oc7 kV7 dc7 pm7 cd7 ct7 oc8 kV8 dc8 pm8 cd8 ct8 oc9 kV9 dc9 pm9 cd9 ct9 oc10 kV10 dc10 pm10 cd10 ct10 oc11 kV11 dc11 pm11 cd11 ct11 oc12 kV12 dc12 pm12 cd12 ct12 oc13 kV13 dc13 pm13 cd13 ct13 oc14 kV14 dc14 pm14 cd14 ct14 oc15 kV15 dc15 pm15 cd15 ct15 oc16 kV16 dc16 pm16 cd16 ct16 oc17 kV17 dc17 pm17 cd17 ct17 oc18 kV18 dc18 pm18 cd18 ct18 oc19 kV19 dc19 pm19 cd19 ct19 oc20 kV20 dc20 pm20 cd20 ct20 oc21 kV21 dc21 pm21 cd21 ct21 oc22 kV22 dc22 pm22 cd22 ct22 oc23 kV23 dc23 pm23 cd23 ct23 oc24 kV24 dc24 pm24 cd24 ct24 oc25 kV25 dc25 pm25 cd25 ct25 oc26 kV26 dc26 pm26 cd26 ct26 oc27 kV27 dc27 pm27 cd27 ct27 oc28 kV28 dc28 pm28 cd28 ct28 oc29 kV29 dc29 pm29 cd29 ct29 oc30 kV30 dc30 pm30 cd30 ct30 oc31 kV31 dc31 pm31 cd31 ct31 oc32 kV32 dc32 pm32 cd32 ct32 oc33 kV33 dc33 pm33 cd33 ct33 oc34 kV34 dc34 pm34 cd34 ct34 oc35 kV35 dc35 pm35 cd35 ct35 : Value}
    {xnInvalidPlan xqInvalidPlan : Str} {xNInvalidPlan xfInvalidPlan : Addr} {xbInvalidPlan xmInvalidPlan : List Value} {xsInvalidPlan : List Str} {xuInvalidPlan : List Value} {xaInvalidPlan : Bool} {xcInvalidPlan : Option Bool} {xdInvalidPlan : Option Addr} {xk0InvalidPlan xk1InvalidPlan xk2InvalidPlan xk3InvalidPlan xk5InvalidPlan : Option Value}
    {xoInvalidPlan xanInvalidPlan : Option Addr} {xocInvalidPlan xkVInvalidPlan xdcInvalidPlan xpmInvalidPlan xcdInvalidPlan xctInvalidPlan : Value} {xslInvalidPlan : Array (Option Value)}
    {tkMOST_DEPTH : Tok}
    {tkMOST_DIGITS : Tok}
    {tkMOST_LETTERS : Tok}
    {tkMOST_NUMBER : Tok}
    {tkMOST_TREES : Tok}
    {tcDuelMOST_LEAVES : Tok}
    {tcDuelMOST_LEVELS : Tok}
    {tcDuelMOST_NODES : Tok}
    (aProofsError : PySem.W.nsIn K mainGlobals "ProofsError" = some (some (.ref ProofsError)))
    (aInvalidText : PySem.W.nsIn K mainGlobals "InvalidText" = some (some (.ref InvalidText)))
    (aInvalidTerm : PySem.W.nsIn K mainGlobals "InvalidTerm" = some (some (.ref InvalidTerm)))
    (aInvalidDuel : PySem.W.nsIn K mainGlobals "InvalidDuel" = some (some (.ref InvalidDuel)))
    (aOutOfRange : PySem.W.nsIn K mainGlobals "OutOfRange" = some (some (.ref OutOfRange)))
    (aSizeMismatch : PySem.W.nsIn K mainGlobals "SizeMismatch" = some (some (.ref SizeMismatch)))
    (aTooLarge : PySem.W.nsIn K mainGlobals "TooLarge" = some (some (.ref TooLarge)))
    (aInvalidPlan : PySem.W.nsIn K mainGlobals "InvalidPlan" = some (some (.ref InvalidPlan)))
    (aDuel : PySem.W.nsIn K mainGlobals "Duel" = some (some (.ref Duel)))
    (zall : PySem.W.nsIn K mainGlobals "all" = some none)
    (zbool : PySem.W.nsIn K mainGlobals "bool" = some none)
    (zint : PySem.W.nsIn K mainGlobals "int" = some none)
    (zisinstance : PySem.W.nsIn K mainGlobals "isinstance" = some none)
    (zlen : PySem.W.nsIn K mainGlobals "len" = some none)
    (zlist : PySem.W.nsIn K mainGlobals "list" = some none)
    (zmax : PySem.W.nsIn K mainGlobals "max" = some none)
    (zmin : PySem.W.nsIn K mainGlobals "min" = some none)
    (zrange : PySem.W.nsIn K mainGlobals "range" = some none)
    (zstr : PySem.W.nsIn K mainGlobals "str" = some none)
    (ztuple : PySem.W.nsIn K mainGlobals "tuple" = some none)
    (zzip : PySem.W.nsIn K mainGlobals "zip" = some none)
    (qOutOfRange : PySem.W.excIn K OutOfRange [.type "ValueError", .type "Exception", .type "BaseException", .type "object"] "ValueError.__new__" = true)
    (kOutOfRange : PySem.W.keepIn K (.ref OutOfRange) = true)
    (sOutOfRange : PySem.W.subIn K (.ref OutOfRange) (.type "BaseException") = some true)
    (tOutOfRange : PySem.W.typeIn K (.ref OutOfRange) = some (.type "type"))
    (hgOutOfRange : PySem.W.findIn K (.ref OutOfRange) "__getattribute__" = some (some (.builtin "BaseException.__getattribute__")))
    (hkOutOfRange : PySem.W.findIn K (.ref OutOfRange) "__getattr__" = some none)
    (hdOutOfRange : PySem.W.hasDictIn K OutOfRange = true)
    (haOutOfRange : PySem.W.findIn K (.ref OutOfRange) "__class__" = some (some (.builtin "object.__class__")))
    (hmOutOfRange : PySem.W.mroIn K OutOfRange (.type "object") = some true)
    (qTooLarge : PySem.W.excIn K TooLarge [.type "ValueError", .type "Exception", .type "BaseException", .type "object"] "ValueError.__new__" = true)
    (kTooLarge : PySem.W.keepIn K (.ref TooLarge) = true)
    (sTooLarge : PySem.W.subIn K (.ref TooLarge) (.type "BaseException") = some true)
    (tTooLarge : PySem.W.typeIn K (.ref TooLarge) = some (.type "type"))
    (hgTooLarge : PySem.W.findIn K (.ref TooLarge) "__getattribute__" = some (some (.builtin "BaseException.__getattribute__")))
    (hkTooLarge : PySem.W.findIn K (.ref TooLarge) "__getattr__" = some none)
    (hdTooLarge : PySem.W.hasDictIn K TooLarge = true)
    (haTooLarge : PySem.W.findIn K (.ref TooLarge) "__class__" = some (some (.builtin "object.__class__")))
    (hmTooLarge : PySem.W.mroIn K TooLarge (.type "object") = some true)
    (hn : PySem.W.specialIn K (.builtin "object.__class__") "__get__" = some (some (.builtin "getset_descriptor.__get__")))
    (ht : PySem.W.takesIn K (.builtin "object.__class__") = some true)
    (pgDuel : PySem.W.plainGet K Duel Str.empty = true)
    (hdDuel : PySem.W.hasDictIn K Duel = true)
    (poDuel : PySem.W.plainOver K Duel = true)
    (saDuel : PySem.W.findIn K (.ref Duel) "__setattr__" = some (some (.builtin "object.__setattr__")))
    (mkDuel : PySem.W.makesIn K Duel = true)
    (kcDuel : PySem.W.keepIn K (.ref Duel) = true)
    (haDuel : PySem.W.findIn K (.ref Duel) "__class__" = some (some (.builtin "object.__class__")))
    (hmDuel : PySem.W.mroIn K Duel (.type "object") = some true)
    (noDuelroot : PySem.W.findIn K (.ref Duel) "root" = some none)
    (noDueltree : PySem.W.findIn K (.ref Duel) "tree" = some none)
    (noDuelends : PySem.W.findIn K (.ref Duel) "ends" = some none)
    (noDuelsides : PySem.W.findIn K (.ref Duel) "sides" = some none)
    (noDuelchildren : PySem.W.findIn K (.ref Duel) "children" = some none)
    (kInvalidPlan : PySem.W.keepIn K (.ref InvalidPlan) = true)
    (sInvalidPlan : PySem.W.subIn K (.ref InvalidPlan) (.type "BaseException") = some true)
    (tInvalidPlan : PySem.W.typeIn K (.ref InvalidPlan) = some (.type "type"))
    (hgInvalidPlan : PySem.W.findIn K (.ref InvalidPlan) "__getattribute__" = some (some (.builtin "BaseException.__getattribute__")))
    (hkInvalidPlan : PySem.W.findIn K (.ref InvalidPlan) "__getattr__" = some none)
    (hdInvalidPlan : PySem.W.hasDictIn K InvalidPlan = true)
    (haInvalidPlan : PySem.W.findIn K (.ref InvalidPlan) "__class__" = some (some (.builtin "object.__class__")))
    (hmInvalidPlan : PySem.W.mroIn K InvalidPlan (.type "object") = some true)
    (xlInvalidPlan : K.lookup InvalidPlan = some (excClassObj xnInvalidPlan xqInvalidPlan InvalidPlan xNInvalidPlan xbInvalidPlan xmInvalidPlan true xsInvalidPlan xuInvalidPlan xaInvalidPlan xcInvalidPlan xdInvalidPlan xk0InvalidPlan xk1InvalidPlan xk2InvalidPlan xk3InvalidPlan xk5InvalidPlan "ValueError.__new__"))
    (xrInvalidPlan : PySem.HandSPX.refsVE xmInvalidPlan = true)
    (xSInvalidPlan : PySem.W.findIn K (.ref InvalidPlan) "__setattr__" = some (some (.builtin "object.__setattr__")))
    (xiInvalidPlan : PySem.W.findIn K (.ref InvalidPlan) "__init__" = some (some (.ref xfInvalidPlan)))
    (xtInvalidPlan : PySem.W.typeIn K (.ref xfInvalidPlan) = some (.type "function"))
    (xLInvalidPlan : K.lookup xfInvalidPlan = some ⟨xocInvalidPlan, xoInvalidPlan, .func (PySem.W.fnOf "__init__" "InvalidPlan.__init__" (defArgs s_xInvalidPlan) (defBody s_xInvalidPlan) (defScope s_xInvalidPlan) .none xkVInvalidPlan xdcInvalidPlan xpmInvalidPlan xanInvalidPlan xcdInvalidPlan xctInvalidPlan), xslInvalidPlan⟩)
    (xCInvalidPlan : PySem.W.codeIn K xcdInvalidPlan "InvalidPlan.__init__" = true)
    (xKInvalidPlan : PySem.W.keepIn K (.ref xfInvalidPlan) = true)
    (xnoInvalidPlanindex : PySem.W.findIn K (.ref InvalidPlan) "index" = some none)
    (zcMOST_DEPTH : PySem.W.nsIn K mainGlobals "MOST_DEPTH" = some (some (.int 200 tkMOST_DEPTH)))
    (zcMOST_DIGITS : PySem.W.nsIn K mainGlobals "MOST_DIGITS" = some (some (.int 9 tkMOST_DIGITS)))
    (zcMOST_LETTERS : PySem.W.nsIn K mainGlobals "MOST_LETTERS" = some (some (.int 12 tkMOST_LETTERS)))
    (zcMOST_NUMBER : PySem.W.nsIn K mainGlobals "MOST_NUMBER" = some (some (.int 999999999 tkMOST_NUMBER)))
    (zcMOST_TREES : PySem.W.nsIn K mainGlobals "MOST_TREES" = some (some (.int 12 tkMOST_TREES)))
    (rdDuel : PySem.W.readsIn K Duel (.type "type") = true)
    (spDuel : PySem.W.specialIn K (.ref Duel) "__getattribute__" = some (some (.builtin "type.__getattribute__")))
    (fcDuelMOST_LEAVES : PySem.W.findCls K (.ref Duel) (.type "type") "MOST_LEAVES" = some (.val (.int 200 tcDuelMOST_LEAVES)))
    (fcDuelMOST_LEVELS : PySem.W.findCls K (.ref Duel) (.type "type") "MOST_LEVELS" = some (.val (.int 20 tcDuelMOST_LEVELS)))
    (fcDuelMOST_NODES : PySem.W.findCls K (.ref Duel) (.type "type") "MOST_NODES" = some (.val (.int 200 tcDuelMOST_NODES)))
    (icInvalidTerm : PySem.W.isClsIn K InvalidTerm = true)
    (tcInvalidTerm : PySem.W.typeIn K (.ref InvalidTerm) = some (.type "type"))
    (scInvalidPlanInvalidTerm : PySem.W.subIn K (.ref InvalidPlan) (.ref InvalidTerm) = some false)
    (neInvalidPlanInvalidTerm : (InvalidPlan == InvalidTerm) = false)
    (icOutOfRange : PySem.W.isClsIn K OutOfRange = true)
    (tcOutOfRange : PySem.W.typeIn K (.ref OutOfRange) = some (.type "type"))
    (scInvalidPlanOutOfRange : PySem.W.subIn K (.ref InvalidPlan) (.ref OutOfRange) = some false)
    (neInvalidPlanOutOfRange : (InvalidPlan == OutOfRange) = false)
    (icSizeMismatch : PySem.W.isClsIn K SizeMismatch = true)
    (tcSizeMismatch : PySem.W.typeIn K (.ref SizeMismatch) = some (.type "type"))
    (scInvalidPlanSizeMismatch : PySem.W.subIn K (.ref InvalidPlan) (.ref SizeMismatch) = some false)
    (neInvalidPlanSizeMismatch : (InvalidPlan == SizeMismatch) = false)
    (scOutOfRangeInvalidTerm : PySem.W.subIn K (.ref OutOfRange) (.ref InvalidTerm) = some false)
    (neOutOfRangeInvalidTerm : (OutOfRange == InvalidTerm) = false)
    (icTooLarge : PySem.W.isClsIn K TooLarge = true)
    (tcTooLarge : PySem.W.typeIn K (.ref TooLarge) = some (.type "type"))
    (scOutOfRangeTooLarge : PySem.W.subIn K (.ref OutOfRange) (.ref TooLarge) = some false)
    (neOutOfRangeTooLarge : (OutOfRange == TooLarge) = false)
    (scOutOfRangeSizeMismatch : PySem.W.subIn K (.ref OutOfRange) (.ref SizeMismatch) = some false)
    (neOutOfRangeSizeMismatch : (OutOfRange == SizeMismatch) = false)
    (icInvalidPlan : PySem.W.isClsIn K InvalidPlan = true)
    (tcInvalidPlan : PySem.W.typeIn K (.ref InvalidPlan) = some (.type "type"))
    (scOutOfRangeInvalidPlan : PySem.W.subIn K (.ref OutOfRange) (.ref InvalidPlan) = some false)
    (neOutOfRangeInvalidPlan : (OutOfRange == InvalidPlan) = false)
    (ssInvalidPlan : PySem.W.subIn K (.ref InvalidPlan) (.ref InvalidPlan) = some true)
    (ssOutOfRange : PySem.W.subIn K (.ref OutOfRange) (.ref OutOfRange) = some true)
    (a1 : PySem.W.nsIn K mainGlobals "is_outcome" = some (some (.ref f1)))
    (l1 : K.lookup f1 = some ⟨oc1, od1, .func (PySem.W.fnOf "is_outcome" "is_outcome" (defArgs s_is_outcome) (defBody s_is_outcome) (defScope s_is_outcome) .none kV1 dc1 pm1 an1 cd1 ct1), sl1⟩)
    (c1 : PySem.W.codeIn K cd1 "is_outcome" = true)
    (k1 : PySem.W.keepIn K (.ref f1) = true)
    (a2 : PySem.W.nsIn K mainGlobals "check_tree" = some (some (.ref f2)))
    (l2 : K.lookup f2 = some ⟨oc2, od2, .func (PySem.W.fnOf "check_tree" "check_tree" (defArgs s_check_tree) (defBody s_check_tree) (defScope s_check_tree) .none kV2 dc2 pm2 an2 cd2 ct2), sl2⟩)
    (c2 : PySem.W.codeIn K cd2 "check_tree" = true)
    (k2 : PySem.W.keepIn K (.ref f2) = true)
    (a3 : PySem.W.nsIn K mainGlobals "scan_tree" = some (some (.ref f3)))
    (l3 : K.lookup f3 = some ⟨oc3, od3, .func (PySem.W.fnOf "scan_tree" "scan_tree" (defArgs s_scan_tree) (defBody s_scan_tree) (defScope s_scan_tree) .none kV3 dc3 pm3 an3 cd3 ct3), sl3⟩)
    (c3 : PySem.W.codeIn K cd3 "scan_tree" = true)
    (k3 : PySem.W.keepIn K (.ref f3) = true)
    (a4 : PySem.W.findIn K (.ref Duel) "__init__" = some (some (.ref f4)))
    (i4 : PySem.W.isFn K (.ref f4) = true)
    (l4 : K.lookup f4 = some ⟨oc4, od4, .func (PySem.W.fnOf "__init__" "Duel.__init__" (defArgs s_Duel_init) (defBody s_Duel_init) (defScope s_Duel_init) .none kV4 dc4 pm4 an4 cd4 ct4), sl4⟩)
    (c4 : PySem.W.codeIn K cd4 "Duel.__init__" = true)
    (k4 : PySem.W.keepIn K (.ref f4) = true)
    (a5 : PySem.W.nsIn K mainGlobals "tree_with_ends" = some (some (.ref f5)))
    (l5 : K.lookup f5 = some ⟨oc5, od5, .func (PySem.W.fnOf "tree_with_ends" "tree_with_ends" (defArgs s_tree_with_ends) (defBody s_tree_with_ends) (defScope s_tree_with_ends) .none kV5 dc5 pm5 an5 cd5 ct5), sl5⟩)
    (c5 : PySem.W.codeIn K cd5 "tree_with_ends" = true)
    (k5 : PySem.W.keepIn K (.ref f5) = true)
    (a6 : PySem.W.findIn K (.ref Duel) "with_ends" = some (some (.ref f6)))
    (i6 : PySem.W.isFn K (.ref f6) = true)
    (l6 : K.lookup f6 = some ⟨oc6, od6, .func (PySem.W.fnOf "with_ends" "Duel.with_ends" (defArgs s_Duel_with_ends) (defBody s_Duel_with_ends) (defScope s_Duel_with_ends) .none kV6 dc6 pm6 an6 cd6 ct6), sl6⟩)
    (c6 : PySem.W.codeIn K cd6 "Duel.with_ends" = true)
    (k6 : PySem.W.keepIn K (.ref f6) = true)
    (a7 : PySem.W.nsIn K mainGlobals "swapped_tree" = some (some (.ref f7)))
    (l7 : K.lookup f7 = some ⟨oc7, od7, .func (PySem.W.fnOf "swapped_tree" "swapped_tree" (defArgs s_swapped_tree) (defBody s_swapped_tree) (defScope s_swapped_tree) .none kV7 dc7 pm7 an7 cd7 ct7), sl7⟩)
    (c7 : PySem.W.codeIn K cd7 "swapped_tree" = true)
    (k7 : PySem.W.keepIn K (.ref f7) = true)
    (a8 : PySem.W.nsIn K mainGlobals "swapped" = some (some (.ref f8)))
    (l8 : K.lookup f8 = some ⟨oc8, od8, .func (PySem.W.fnOf "swapped" "swapped" (defArgs s_swapped) (defBody s_swapped) (defScope s_swapped) .none kV8 dc8 pm8 an8 cd8 ct8), sl8⟩)
    (c8 : PySem.W.codeIn K cd8 "swapped" = true)
    (k8 : PySem.W.keepIn K (.ref f8) = true)
    (a9 : PySem.W.nsIn K mainGlobals "entry_of" = some (some (.ref f9)))
    (l9 : K.lookup f9 = some ⟨oc9, od9, .func (PySem.W.fnOf "entry_of" "entry_of" (defArgs s_entry_of) (defBody s_entry_of) (defScope s_entry_of) .none kV9 dc9 pm9 an9 cd9 ct9), sl9⟩)
    (c9 : PySem.W.codeIn K cd9 "entry_of" = true)
    (k9 : PySem.W.keepIn K (.ref f9) = true)
    (a10 : PySem.W.nsIn K mainGlobals "winners_with" = some (some (.ref f10)))
    (l10 : K.lookup f10 = some ⟨oc10, od10, .func (PySem.W.fnOf "winners_with" "winners_with" (defArgs s_winners_with) (defBody s_winners_with) (defScope s_winners_with) .none kV10 dc10 pm10 an10 cd10 ct10), sl10⟩)
    (c10 : PySem.W.codeIn K cd10 "winners_with" = true)
    (k10 : PySem.W.keepIn K (.ref f10) = true)
    (a11 : PySem.W.nsIn K mainGlobals "winner" = some (some (.ref f11)))
    (l11 : K.lookup f11 = some ⟨oc11, od11, .func (PySem.W.fnOf "winner" "winner" (defArgs s_winner) (defBody s_winner) (defScope s_winner) .none kV11 dc11 pm11 an11 cd11 ct11), sl11⟩)
    (c11 : PySem.W.codeIn K cd11 "winner" = true)
    (k11 : PySem.W.keepIn K (.ref f11) = true)
    (a12 : PySem.W.nsIn K mainGlobals "winning_plan" = some (some (.ref f12)))
    (l12 : K.lookup f12 = some ⟨oc12, od12, .func (PySem.W.fnOf "winning_plan" "winning_plan" (defArgs s_winning_plan) (defBody s_winning_plan) (defScope s_winning_plan) .none kV12 dc12 pm12 an12 cd12 ct12), sl12⟩)
    (c12 : PySem.W.codeIn K cd12 "winning_plan" = true)
    (k12 : PySem.W.keepIn K (.ref f12) = true)
    (a13 : PySem.W.nsIn K mainGlobals "require_plan" = some (some (.ref f13)))
    (l13 : K.lookup f13 = some ⟨oc13, od13, .func (PySem.W.fnOf "require_plan" "require_plan" (defArgs s_require_plan) (defBody s_require_plan) (defScope s_require_plan) .none kV13 dc13 pm13 an13 cd13 ct13), sl13⟩)
    (c13 : PySem.W.codeIn K cd13 "require_plan" = true)
    (k13 : PySem.W.keepIn K (.ref f13) = true)
    (a14 : PySem.W.nsIn K mainGlobals "is_winning" = some (some (.ref f14)))
    (l14 : K.lookup f14 = some ⟨oc14, od14, .func (PySem.W.fnOf "is_winning" "is_winning" (defArgs s_is_winning) (defBody s_is_winning) (defScope s_is_winning) .none kV14 dc14 pm14 an14 cd14 ct14), sl14⟩)
    (c14 : PySem.W.codeIn K cd14 "is_winning" = true)
    (k14 : PySem.W.keepIn K (.ref f14) = true)
    (a15 : PySem.W.nsIn K mainGlobals "_law_start" = some (some (.ref f15)))
    (l15 : K.lookup f15 = some ⟨oc15, od15, .func (PySem.W.fnOf "_law_start" "_law_start" (defArgs s_law_start) (defBody s_law_start) (defScope s_law_start) .none kV15 dc15 pm15 an15 cd15 ct15), sl15⟩)
    (c15 : PySem.W.codeIn K cd15 "_law_start" = true)
    (k15 : PySem.W.keepIn K (.ref f15) = true)
    (a16 : PySem.W.nsIn K mainGlobals "_law_pick" = some (some (.ref f16)))
    (l16 : K.lookup f16 = some ⟨oc16, od16, .func (PySem.W.fnOf "_law_pick" "_law_pick" (defArgs s_law_pick) (defBody s_law_pick) (defScope s_law_pick) .none kV16 dc16 pm16 an16 cd16 ct16), sl16⟩)
    (c16 : PySem.W.codeIn K cd16 "_law_pick" = true)
    (k16 : PySem.W.keepIn K (.ref f16) = true)
    (a17 : PySem.W.nsIn K mainGlobals "_law_same" = some (some (.ref f17)))
    (l17 : K.lookup f17 = some ⟨oc17, od17, .func (PySem.W.fnOf "_law_same" "_law_same" (defArgs s_law_same) (defBody s_law_same) (defScope s_law_same) .none kV17 dc17 pm17 an17 cd17 ct17), sl17⟩)
    (c17 : PySem.W.codeIn K cd17 "_law_same" = true)
    (k17 : PySem.W.keepIn K (.ref f17) = true)
    (a18 : PySem.W.nsIn K mainGlobals "_law_tree" = some (some (.ref f18)))
    (l18 : K.lookup f18 = some ⟨oc18, od18, .func (PySem.W.fnOf "_law_tree" "_law_tree" (defArgs s_law_tree) (defBody s_law_tree) (defScope s_law_tree) .none kV18 dc18 pm18 an18 cd18 ct18), sl18⟩)
    (c18 : PySem.W.codeIn K cd18 "_law_tree" = true)
    (k18 : PySem.W.keepIn K (.ref f18) = true)
    (a19 : PySem.W.nsIn K mainGlobals "_law_scan" = some (some (.ref f19)))
    (l19 : K.lookup f19 = some ⟨oc19, od19, .func (PySem.W.fnOf "_law_scan" "_law_scan" (defArgs s_law_scan) (defBody s_law_scan) (defScope s_law_scan) .none kV19 dc19 pm19 an19 cd19 ct19), sl19⟩)
    (c19 : PySem.W.codeIn K cd19 "_law_scan" = true)
    (k19 : PySem.W.keepIn K (.ref f19) = true)
    (a20 : PySem.W.nsIn K mainGlobals "_law_at" = some (some (.ref f20)))
    (l20 : K.lookup f20 = some ⟨oc20, od20, .func (PySem.W.fnOf "_law_at" "_law_at" (defArgs s_law_at) (defBody s_law_at) (defScope s_law_at) .none kV20 dc20 pm20 an20 cd20 ct20), sl20⟩)
    (c20 : PySem.W.codeIn K cd20 "_law_at" = true)
    (k20 : PySem.W.keepIn K (.ref f20) = true)
    (a21 : PySem.W.nsIn K mainGlobals "_law_winners" = some (some (.ref f21)))
    (l21 : K.lookup f21 = some ⟨oc21, od21, .func (PySem.W.fnOf "_law_winners" "_law_winners" (defArgs s_law_winners) (defBody s_law_winners) (defScope s_law_winners) .none kV21 dc21 pm21 an21 cd21 ct21), sl21⟩)
    (c21 : PySem.W.codeIn K cd21 "_law_winners" = true)
    (k21 : PySem.W.keepIn K (.ref f21) = true)
    (a22 : PySem.W.nsIn K mainGlobals "_law_reached" = some (some (.ref f22)))
    (l22 : K.lookup f22 = some ⟨oc22, od22, .func (PySem.W.fnOf "_law_reached" "_law_reached" (defArgs s_law_reached) (defBody s_law_reached) (defScope s_law_reached) .none kV22 dc22 pm22 an22 cd22 ct22), sl22⟩)
    (c22 : PySem.W.codeIn K cd22 "_law_reached" = true)
    (k22 : PySem.W.keepIn K (.ref f22) = true)
    (a23 : PySem.W.nsIn K mainGlobals "_law_refused" = some (some (.ref f23)))
    (l23 : K.lookup f23 = some ⟨oc23, od23, .func (PySem.W.fnOf "_law_refused" "_law_refused" (defArgs s_law_refused) (defBody s_law_refused) (defScope s_law_refused) .none kV23 dc23 pm23 an23 cd23 ct23), sl23⟩)
    (c23 : PySem.W.codeIn K cd23 "_law_refused" = true)
    (k23 : PySem.W.keepIn K (.ref f23) = true)
    (a24 : PySem.W.nsIn K mainGlobals "_law_exchanged" = some (some (.ref f24)))
    (l24 : K.lookup f24 = some ⟨oc24, od24, .func (PySem.W.fnOf "_law_exchanged" "_law_exchanged" (defArgs s_law_exchanged) (defBody s_law_exchanged) (defScope s_law_exchanged) .none kV24 dc24 pm24 an24 cd24 ct24), sl24⟩)
    (c24 : PySem.W.codeIn K cd24 "_law_exchanged" = true)
    (k24 : PySem.W.keepIn K (.ref f24) = true)
    (a25 : PySem.W.nsIn K mainGlobals "_law_grouped" = some (some (.ref f25)))
    (l25 : K.lookup f25 = some ⟨oc25, od25, .func (PySem.W.fnOf "_law_grouped" "_law_grouped" (defArgs s_law_grouped) (defBody s_law_grouped) (defScope s_law_grouped) .none kV25 dc25 pm25 an25 cd25 ct25), sl25⟩)
    (c25 : PySem.W.codeIn K cd25 "_law_grouped" = true)
    (k25 : PySem.W.keepIn K (.ref f25) = true)
    (a26 : PySem.W.nsIn K mainGlobals "_law_chain" = some (some (.ref f26)))
    (l26 : K.lookup f26 = some ⟨oc26, od26, .func (PySem.W.fnOf "_law_chain" "_law_chain" (defArgs s_law_chain) (defBody s_law_chain) (defScope s_law_chain) .none kV26 dc26 pm26 an26 cd26 ct26), sl26⟩)
    (c26 : PySem.W.codeIn K cd26 "_law_chain" = true)
    (k26 : PySem.W.keepIn K (.ref f26) = true)
    (a27 : PySem.W.nsIn K mainGlobals "_law_plans" = some (some (.ref f27)))
    (l27 : K.lookup f27 = some ⟨oc27, od27, .func (PySem.W.fnOf "_law_plans" "_law_plans" (defArgs s_law_plans) (defBody s_law_plans) (defScope s_law_plans) .none kV27 dc27 pm27 an27 cd27 ct27), sl27⟩)
    (c27 : PySem.W.codeIn K cd27 "_law_plans" = true)
    (k27 : PySem.W.keepIn K (.ref f27) = true)
    (a28 : PySem.W.nsIn K mainGlobals "_law_drawn" = some (some (.ref f28)))
    (l28 : K.lookup f28 = some ⟨oc28, od28, .func (PySem.W.fnOf "_law_drawn" "_law_drawn" (defArgs s_law_drawn) (defBody s_law_drawn) (defScope s_law_drawn) .none kV28 dc28 pm28 an28 cd28 ct28), sl28⟩)
    (c28 : PySem.W.codeIn K cd28 "_law_drawn" = true)
    (k28 : PySem.W.keepIn K (.ref f28) = true)
    (a29 : PySem.W.nsIn K mainGlobals "_law_chosen" = some (some (.ref f29)))
    (l29 : K.lookup f29 = some ⟨oc29, od29, .func (PySem.W.fnOf "_law_chosen" "_law_chosen" (defArgs s_law_chosen) (defBody s_law_chosen) (defScope s_law_chosen) .none kV29 dc29 pm29 an29 cd29 ct29), sl29⟩)
    (c29 : PySem.W.codeIn K cd29 "_law_chosen" = true)
    (k29 : PySem.W.keepIn K (.ref f29) = true)
    (a30 : PySem.W.nsIn K mainGlobals "_law_is_plan" = some (some (.ref f30)))
    (l30 : K.lookup f30 = some ⟨oc30, od30, .func (PySem.W.fnOf "_law_is_plan" "_law_is_plan" (defArgs s_law_is_plan) (defBody s_law_is_plan) (defScope s_law_is_plan) .none kV30 dc30 pm30 an30 cd30 ct30), sl30⟩)
    (c30 : PySem.W.codeIn K cd30 "_law_is_plan" = true)
    (k30 : PySem.W.keepIn K (.ref f30) = true)
    (a31 : PySem.W.nsIn K mainGlobals "_law_wrongs" = some (some (.ref f31)))
    (l31 : K.lookup f31 = some ⟨oc31, od31, .func (PySem.W.fnOf "_law_wrongs" "_law_wrongs" (defArgs s_law_wrongs) (defBody s_law_wrongs) (defScope s_law_wrongs) .none kV31 dc31 pm31 an31 cd31 ct31), sl31⟩)
    (c31 : PySem.W.codeIn K cd31 "_law_wrongs" = true)
    (k31 : PySem.W.keepIn K (.ref f31) = true)
    (a32 : PySem.W.nsIn K mainGlobals "_law_played" = some (some (.ref f32)))
    (l32 : K.lookup f32 = some ⟨oc32, od32, .func (PySem.W.fnOf "_law_played" "_law_played" (defArgs s_law_played) (defBody s_law_played) (defScope s_law_played) .none kV32 dc32 pm32 an32 cd32 ct32), sl32⟩)
    (c32 : PySem.W.codeIn K cd32 "_law_played" = true)
    (k32 : PySem.W.keepIn K (.ref f32) = true)
    (a33 : PySem.W.nsIn K mainGlobals "_law_counts" = some (some (.ref f33)))
    (l33 : K.lookup f33 = some ⟨oc33, od33, .func (PySem.W.fnOf "_law_counts" "_law_counts" (defArgs s_law_counts) (defBody s_law_counts) (defScope s_law_counts) .none kV33 dc33 pm33 an33 cd33 ct33), sl33⟩)
    (c33 : PySem.W.codeIn K cd33 "_law_counts" = true)
    (k33 : PySem.W.keepIn K (.ref f33) = true)
    (a34 : PySem.W.nsIn K mainGlobals "_law_all_ends" = some (some (.ref f34)))
    (l34 : K.lookup f34 = some ⟨oc34, od34, .func (PySem.W.fnOf "_law_all_ends" "_law_all_ends" (defArgs s_law_all_ends) (defBody s_law_all_ends) (defScope s_law_all_ends) .none kV34 dc34 pm34 an34 cd34 ct34), sl34⟩)
    (c34 : PySem.W.codeIn K cd34 "_law_all_ends" = true)
    (k34 : PySem.W.keepIn K (.ref f34) = true)
    (a35 : PySem.W.nsIn K mainGlobals "law" = some (some (.ref f35)))
    (l35 : K.lookup f35 = some ⟨oc35, od35, .func (PySem.W.fnOf "law" "law" (defArgs s_law) (defBody s_law) (defScope s_law) .none kV35 dc35 pm35 an35 cd35 ct35), sl35⟩)
    (c35 : PySem.W.codeIn K cd35 "law" = true)
    (k35 : PySem.W.keepIn K (.ref f35) = true)
    : ∃ fd : FuncData, (∀ (s : Shared) (v : Value), BindsTo s fd ⟨[v], []⟩ [("script", v)]) ∧ ∀ base : Heap, K.In base → base.Ns mainGlobals mg → FnOk l.prog w K mg base (L2.CX l.prog w) 29 fa fd ["script"] (liftSp K (spScript K)) := by
  have e := hfa.symm.trans (PySem.W.mg_of X G a35)
  cases e
  let A : Adr := ⟨ProofsError, InvalidText, InvalidTerm, InvalidDuel, OutOfRange, SizeMismatch, TooLarge, InvalidPlan, Duel⟩
  have clDuel : Cls K Duel := ⟨pgDuel, hdDuel, poDuel, saDuel⟩
  have T : Txt w K mg A := {
    n_all := PySem.W.mg_none_of X G zall
    n_bool := PySem.W.mg_none_of X G zbool
    n_int := PySem.W.mg_none_of X G zint
    n_isinstance := PySem.W.mg_none_of X G zisinstance
    n_len := PySem.W.mg_none_of X G zlen
    n_list := PySem.W.mg_none_of X G zlist
    n_max := PySem.W.mg_none_of X G zmax
    n_min := PySem.W.mg_none_of X G zmin
    n_range := PySem.W.mg_none_of X G zrange
    n_str := PySem.W.mg_none_of X G zstr
    n_tuple := PySem.W.mg_none_of X G ztuple
    n_zip := PySem.W.mg_none_of X G zzip
    m_ProofsError := PySem.W.mg_of X G aProofsError
    m_InvalidText := PySem.W.mg_of X G aInvalidText
    m_InvalidTerm := PySem.W.mg_of X G aInvalidTerm
    m_InvalidDuel := PySem.W.mg_of X G aInvalidDuel
    m_OutOfRange := PySem.W.mg_of X G aOutOfRange
    m_SizeMismatch := PySem.W.mg_of X G aSizeMismatch
    m_TooLarge := PySem.W.mg_of X G aTooLarge
    m_InvalidPlan := PySem.W.mg_of X G aInvalidPlan
    x_OutOfRange := ⟨qOutOfRange, PySem.W.mg_of X G aOutOfRange, kOutOfRange, sOutOfRange, tOutOfRange⟩
    x_TooLarge := ⟨qTooLarge, PySem.W.mg_of X G aTooLarge, kTooLarge, sTooLarge, tTooLarge⟩
    m_Duel := PySem.W.mg_of X G aDuel
    i_Duel := ⟨clDuel, haDuel, hn, ht, hmDuel⟩
    d_Duel_root := ⟨clDuel, noDuelroot⟩
    d_Duel_tree := ⟨clDuel, noDueltree⟩
    d_Duel_ends := ⟨clDuel, noDuelends⟩
    d_Duel_sides := ⟨clDuel, noDuelsides⟩
    d_Duel_children := ⟨clDuel, noDuelchildren⟩
    c_MOST_DEPTH := ⟨_, PySem.W.mg_of X G zcMOST_DEPTH⟩
    c_MOST_DIGITS := ⟨_, PySem.W.mg_of X G zcMOST_DIGITS⟩
    c_MOST_LETTERS := ⟨_, PySem.W.mg_of X G zcMOST_LETTERS⟩
    c_MOST_NUMBER := ⟨_, PySem.W.mg_of X G zcMOST_NUMBER⟩
    c_MOST_TREES := ⟨_, PySem.W.mg_of X G zcMOST_TREES⟩
    cst_Duel_MOST_LEAVES := CstK.int rdDuel spDuel fcDuelMOST_LEAVES
    cst_Duel_MOST_LEVELS := CstK.int rdDuel spDuel fcDuelMOST_LEVELS
    cst_Duel_MOST_NODES := CstK.int rdDuel spDuel fcDuelMOST_NODES }
  have HX : KX K A := ⟨exm_sub sInvalidPlan icInvalidPlan tcInvalidPlan ssInvalidPlan, exm_sub sInvalidPlan icInvalidPlan tcInvalidPlan scOutOfRangeInvalidPlan, exm_sub sOutOfRange icOutOfRange tcOutOfRange ssOutOfRange, ⟨hgInvalidPlan, hkInvalidPlan, sInvalidPlan, hdInvalidPlan, haInvalidPlan, hn, ht, hmInvalidPlan⟩, ⟨hgOutOfRange, hkOutOfRange, sOutOfRange, hdOutOfRange, haOutOfRange, hn, ht, hmOutOfRange⟩, kit_ne neInvalidPlanInvalidTerm icInvalidTerm tcInvalidTerm scInvalidPlanInvalidTerm, kit_ne neInvalidPlanOutOfRange icOutOfRange tcOutOfRange scInvalidPlanOutOfRange, kit_ne neInvalidPlanSizeMismatch icSizeMismatch tcSizeMismatch scInvalidPlanSizeMismatch, kit_ne neOutOfRangeInvalidTerm icInvalidTerm tcInvalidTerm scOutOfRangeInvalidTerm, kit_ne neOutOfRangeTooLarge icTooLarge tcTooLarge scOutOfRangeTooLarge, kit_ne neOutOfRangeSizeMismatch icSizeMismatch tcSizeMismatch scOutOfRangeSizeMismatch, ⟨hgInvalidPlan, hkInvalidPlan, sInvalidPlan, hdInvalidPlan⟩, xnoInvalidPlanindex⟩
  have F1 := fun_mk (st := s_is_outcome) l1 c1 k1
  have b1 := F1.binds (ps := P_is_outcome) fun _ _ _ _ _ _ us hl => match us, hl with | [_], _ => rfl
  have F2 := fun_mk (st := s_check_tree) l2 c2 k2
  have b2 := F2.binds (ps := P_check_tree) fun _ _ _ _ _ _ us hl => match us, hl with | [_, _, _], _ => rfl
  have F3 := fun_mk (st := s_scan_tree) l3 c3 k3
  have b3 := F3.binds (ps := P_scan_tree) fun _ _ _ _ _ _ us hl => match us, hl with | [_, _, _, _], _ => rfl
  have F4 := fun_mk (st := s_Duel_init) l4 c4 k4
  have b4 := F4.binds (ps := P_Duel_init) fun _ _ _ _ _ _ us hl => match us, hl with | [_, _], _ => rfl
  have F5 := fun_mk (st := s_tree_with_ends) l5 c5 k5
  have b5 := F5.binds (ps := P_tree_with_ends) fun _ _ _ _ _ _ us hl => match us, hl with | [_, _, _], _ => rfl
  have F6 := fun_mk (st := s_Duel_with_ends) l6 c6 k6
  have b6 := F6.binds (ps := P_Duel_with_ends) fun _ _ _ _ _ _ us hl => match us, hl with | [_, _], _ => rfl
  have F7 := fun_mk (st := s_swapped_tree) l7 c7 k7
  have b7 := F7.binds (ps := P_swapped_tree) fun _ _ _ _ _ _ us hl => match us, hl with | [_], _ => rfl
  have F8 := fun_mk (st := s_swapped) l8 c8 k8
  have b8 := F8.binds (ps := P_swapped) fun _ _ _ _ _ _ us hl => match us, hl with | [_], _ => rfl
  have F9 := fun_mk (st := s_entry_of) l9 c9 k9
  have b9 := F9.binds (ps := P_entry_of) fun _ _ _ _ _ _ us hl => match us, hl with | [_, _, _], _ => rfl
  have F10 := fun_mk (st := s_winners_with) l10 c10 k10
  have b10 := F10.binds (ps := P_winners_with) fun _ _ _ _ _ _ us hl => match us, hl with | [_, _], _ => rfl
  have F11 := fun_mk (st := s_winner) l11 c11 k11
  have b11 := F11.binds (ps := P_winner) fun _ _ _ _ _ _ us hl => match us, hl with | [_], _ => rfl
  have F12 := fun_mk (st := s_winning_plan) l12 c12 k12
  have b12 := F12.binds (ps := P_winning_plan) fun _ _ _ _ _ _ us hl => match us, hl with | [_], _ => rfl
  have F13 := fun_mk (st := s_require_plan) l13 c13 k13
  have b13 := F13.binds (ps := P_require_plan) fun _ _ _ _ _ _ us hl => match us, hl with | [_, _], _ => rfl
  have F14 := fun_mk (st := s_is_winning) l14 c14 k14
  have b14 := F14.binds (ps := P_is_winning) fun _ _ _ _ _ _ us hl => match us, hl with | [_, _, _], _ => rfl
  have F15 := fun_mk (st := s_law_start) l15 c15 k15
  have b15 := F15.binds (ps := P_law_start) fun _ _ _ _ _ _ us hl => match us, hl with | [_], _ => rfl
  have F16 := fun_mk (st := s_law_pick) l16 c16 k16
  have b16 := F16.binds (ps := P_law_pick) fun _ _ _ _ _ _ us hl => match us, hl with | [_, _], _ => rfl
  have F17 := fun_mk (st := s_law_same) l17 c17 k17
  have b17 := F17.binds (ps := P_law_same) fun _ _ _ _ _ _ us hl => match us, hl with | [_, _], _ => rfl
  have F18 := fun_mk (st := s_law_tree) l18 c18 k18
  have b18 := F18.binds (ps := P_law_tree) fun _ _ _ _ _ _ us hl => match us, hl with | [_, _, _], _ => rfl
  have F19 := fun_mk (st := s_law_scan) l19 c19 k19
  have b19 := F19.binds (ps := P_law_scan) fun _ _ _ _ _ _ us hl => match us, hl with | [_, _, _], _ => rfl
  have F20 := fun_mk (st := s_law_at) l20 c20 k20
  have b20 := F20.binds (ps := P_law_at) fun _ _ _ _ _ _ us hl => match us, hl with | [_, _, _], _ => rfl
  have F21 := fun_mk (st := s_law_winners) l21 c21 k21
  have b21 := F21.binds (ps := P_law_winners) fun _ _ _ _ _ _ us hl => match us, hl with | [_, _], _ => rfl
  have F22 := fun_mk (st := s_law_reached) l22 c22 k22
  have b22 := F22.binds (ps := P_law_reached) fun _ _ _ _ _ _ us hl => match us, hl with | [_, _, _], _ => rfl
  have F23 := fun_mk (st := s_law_refused) l23 c23 k23
  have b23 := F23.binds (ps := P_law_refused) fun _ _ _ _ _ _ us hl => match us, hl with | [_, _, _], _ => rfl
  have F24 := fun_mk (st := s_law_exchanged) l24 c24 k24
  have b24 := F24.binds (ps := P_law_exchanged) fun _ _ _ _ _ _ us hl => match us, hl with | [_], _ => rfl
  have F25 := fun_mk (st := s_law_grouped) l25 c25 k25
  have b25 := F25.binds (ps := P_law_grouped) fun _ _ _ _ _ _ us hl => match us, hl with | [_, _, _], _ => rfl
  have F26 := fun_mk (st := s_law_chain) l26 c26 k26
  have b26 := F26.binds (ps := P_law_chain) fun _ _ _ _ _ _ us hl => match us, hl with | [_, _], _ => rfl
  have F27 := fun_mk (st := s_law_plans) l27 c27 k27
  have b27 := F27.binds (ps := P_law_plans) fun _ _ _ _ _ _ us hl => match us, hl with | [_], _ => rfl
  have F28 := fun_mk (st := s_law_drawn) l28 c28 k28
  have b28 := F28.binds (ps := P_law_drawn) fun _ _ _ _ _ _ us hl => match us, hl with | [_, _], _ => rfl
  have F29 := fun_mk (st := s_law_chosen) l29 c29 k29
  have b29 := F29.binds (ps := P_law_chosen) fun _ _ _ _ _ _ us hl => match us, hl with | [_, _], _ => rfl
  have F30 := fun_mk (st := s_law_is_plan) l30 c30 k30
  have b30 := F30.binds (ps := P_law_is_plan) fun _ _ _ _ _ _ us hl => match us, hl with | [_, _], _ => rfl
  have F31 := fun_mk (st := s_law_wrongs) l31 c31 k31
  have b31 := F31.binds (ps := P_law_wrongs) fun _ _ _ _ _ _ us hl => match us, hl with | [_, _, _, _], _ => rfl
  have F32 := fun_mk (st := s_law_played) l32 c32 k32
  have b32 := F32.binds (ps := P_law_played) fun _ _ _ _ _ _ us hl => match us, hl with | [_, _, _], _ => rfl
  have F33 := fun_mk (st := s_law_counts) l33 c33 k33
  have b33 := F33.binds (ps := P_law_counts) fun _ _ _ _ _ _ us hl => match us, hl with | [_], _ => rfl
  have F34 := fun_mk (st := s_law_all_ends) l34 c34 k34
  have b34 := F34.binds (ps := P_law_all_ends) fun _ _ _ _ _ _ us hl => match us, hl with | [_, _], _ => rfl
  have F35 := fun_mk (st := s_law) l35 c35 k35
  have b35 := F35.binds (ps := P_law) fun _ _ _ _ _ _ us hl => match us, hl with | [_], _ => rfl
  refine ⟨PySem.W.fnOf "law" "law" (defArgs s_law) (defBody s_law) (defScope s_law) .none kV35 dc35 pm35 an35 cd35 ct35, fun s v => .of_eq rfl, fun base _ _ => ?_⟩
  have FxInvalidPlan := fun_mk (st := s_xInvalidPlan) xLInvalidPlan xCInvalidPlan xKInvalidPlan
  have bxInvalidPlan := FxInvalidPlan.binds (ps := N_xInvalidPlan) fun _ _ _ _ _ _ us hl => match us, hl with | [_, _], _ => rfl
  have TxInvalidPlan : OexC K InvalidPlan := ⟨⟨_, _, _, _, _, _, _, _, _, _, _, _, _, _, _, xlInvalidPlan, xrInvalidPlan⟩, xSInvalidPlan, sInvalidPlan, tInvalidPlan, kInvalidPlan⟩
  have G_xInvalidPlan : RaiD l.prog w K mg base 1 "InvalidPlan" InvalidPlan ["index"] := ⟨xfInvalidPlan, _, N_xInvalidPlan, TxInvalidPlan, xiInvalidPlan, xtInvalidPlan, okI1 (k := 0) FxInvalidPlan sc_xInvalidPlan rfl TxInvalidPlan xnoInvalidPlanindex (fun _ _ _ _ _ _ => pss_one (ps_ost (pe_var rfl (Or.inl rfl)) (pe_var rfl (Or.inl rfl)))), bxInvalidPlan, PySem.W.mg_of X G aInvalidPlan⟩
  have O1 : FnOk l.prog w K mg base (L2.CX l.prog w) 1 f1 _ P_is_outcome (liftSp K (sp_is_outcome)) := ok_is_outcome T  F1 (sp_is_outcome) len_is_outcome r_is_outcome
  have G_is_outcome : FnD l.prog w K mg base 1 "is_outcome" P_is_outcome [] (sp_is_outcome) := fnd_mk F1 (PySem.W.mg_of X G a1) b1 O1
  have O2 : FnOk l.prog w K mg base (L2.CX l.prog w) 2 f2 _ P_check_tree (liftSp K (sp_check_tree)) := ok_check_tree T G_is_outcome F2 (sp_check_tree) len_check_tree r_check_tree
  have G_check_tree : FnD l.prog w K mg base 2 "check_tree" P_check_tree [] (sp_check_tree) := fnd_mk F2 (PySem.W.mg_of X G a2) b2 O2
  have GG_scan_tree : ∀ n, FnD l.prog w K mg base (2 + n) "scan_tree" P_scan_tree [] (sp_scan_tree n) := fun n => by
    induction n with
    | zero => exact fnd_mk F3 (PySem.W.mg_of X G a3) b3 (fnOk_not fun ds M Q E h => by first | exact h.elim | ((repeat (obtain ⟨_, h⟩ := h)); omega))
    | succ n ih => exact fnd_mk F3 (PySem.W.mg_of X G a3) b3 (ok_scan_tree T G_check_tree ih F3 (sp_scan_tree (n + 1)) len_scan_tree r_scan_tree)
  have G_scan_tree := GG_scan_tree 22
  have O4 : FnOk l.prog w K mg base (L2.CX l.prog w) 25 f4 _ P_Duel_init (liftSp K (sp_Duel_init A.Duel)) := ok_Duel_init T G_scan_tree F4 (sp_Duel_init A.Duel) len_Duel_init (r_Duel_init T)
  have G_Duel_init : MakD l.prog w K mg base 25 "Duel" A.Duel P_Duel_init [] (sp_Duel_init A.Duel) := ⟨f4, _, [], [], ⟨mkDuel, a4, i4, kcDuel⟩, PySem.W.mg_of X G aDuel, O4, b4, .nil, fun _ => .nil⟩
  have GG_tree_with_ends : ∀ n, FnD l.prog w K mg base (0 + n) "tree_with_ends" P_tree_with_ends [] (sp_tree_with_ends n) := fun n => by
    induction n with
    | zero => exact fnd_mk F5 (PySem.W.mg_of X G a5) b5 (fnOk_not fun ds M Q E h => by first | exact h.elim | ((repeat (obtain ⟨_, h⟩ := h)); omega))
    | succ n ih => exact fnd_mk F5 (PySem.W.mg_of X G a5) b5 (ok_tree_with_ends T ih F5 (sp_tree_with_ends (n + 1)) len_tree_with_ends r_tree_with_ends)
  have G_tree_with_ends := GG_tree_with_ends 22
  have O6 : FnOk l.prog w K mg base (L2.CX l.prog w) 27 f6 _ P_Duel_with_ends (liftSp K (sp_Duel_with_ends A.Duel)) := ok_Duel_with_ends T G_Duel_init G_is_outcome G_tree_with_ends F6 (sp_Duel_with_ends A.Duel) len_Duel_with_ends (r_Duel_with_ends T)
  have G_Duel_with_ends : MetD l.prog w K mg base 27 A.Duel "with_ends" P_Duel_with_ends [] (sp_Duel_with_ends A.Duel) := ⟨f6, _, [], [], clDuel, ⟨a6, i6, k6⟩, O6, b6, .nil, fun _ => .nil⟩
  have GG_swapped_tree : ∀ n, FnD l.prog w K mg base (0 + n) "swapped_tree" P_swapped_tree [] (sp_swapped_tree n) := fun n => by
    induction n with
    | zero => exact fnd_mk F7 (PySem.W.mg_of X G a7) b7 (fnOk_not fun ds M Q E h => by first | exact h.elim | ((repeat (obtain ⟨_, h⟩ := h)); omega))
    | succ n ih => exact fnd_mk F7 (PySem.W.mg_of X G a7) b7 (ok_swapped_tree T ih F7 (sp_swapped_tree (n + 1)) len_swapped_tree r_swapped_tree)
  have G_swapped_tree := GG_swapped_tree 22
  have O8 : FnOk l.prog w K mg base (L2.CX l.prog w) 27 f8 _ P_swapped (liftSp K (sp_swapped A.Duel)) := ok_swapped T G_Duel_init G_swapped_tree F8 (sp_swapped A.Duel) len_swapped (r_swapped T)
  have G_swapped : FnD l.prog w K mg base 27 "swapped" P_swapped [] (sp_swapped A.Duel) := fnd_mk F8 (PySem.W.mg_of X G a8) b8 O8
  have O9 : FnOk l.prog w K mg base (L2.CX l.prog w) 1 f9 _ P_entry_of (liftSp K (sp_entry_of)) := ok_entry_of T  F9 (sp_entry_of) len_entry_of r_entry_of
  have G_entry_of : FnD l.prog w K mg base 1 "entry_of" P_entry_of [] (sp_entry_of) := fnd_mk F9 (PySem.W.mg_of X G a9) b9 O9
  have O10 : FnOk l.prog w K mg base (L2.CX l.prog w) 2 f10 _ P_winners_with (liftSp K (sp_winners_with A.Duel)) := ok_winners_with T G_entry_of F10 (sp_winners_with A.Duel) len_winners_with (r_winners_with T)
  have G_winners_with : FnD l.prog w K mg base 2 "winners_with" P_winners_with [] (sp_winners_with A.Duel) := fnd_mk F10 (PySem.W.mg_of X G a10) b10 O10
  have O11 : FnOk l.prog w K mg base (L2.CX l.prog w) 3 f11 _ P_winner (liftSp K (sp_winner A.Duel)) := ok_winner T G_entry_of G_winners_with F11 (sp_winner A.Duel) len_winner (r_winner T)
  have G_winner : FnD l.prog w K mg base 3 "winner" P_winner [] (sp_winner A.Duel) := fnd_mk F11 (PySem.W.mg_of X G a11) b11 O11
  have O12 : FnOk l.prog w K mg base (L2.CX l.prog w) 3 f12 _ P_winning_plan (liftSp K (sp_winning_plan A.Duel)) := ok_winning_plan T G_entry_of G_winners_with F12 (sp_winning_plan A.Duel) len_winning_plan (r_winning_plan T)
  have G_winning_plan : FnD l.prog w K mg base 3 "winning_plan" P_winning_plan [] (sp_winning_plan A.Duel) := fnd_mk F12 (PySem.W.mg_of X G a12) b12 O12
  have O13 : FnOk l.prog w K mg base (L2.CX l.prog w) 3 f13 _ P_require_plan (liftSp K (sp_require_plan A)) := ok_require_plan T G_xInvalidPlan F13 (sp_require_plan A) len_require_plan (r_require_plan T)
  have G_require_plan : FnD l.prog w K mg base 3 "require_plan" P_require_plan [] (sp_require_plan A) := fnd_mk F13 (PySem.W.mg_of X G a13) b13 O13
  have O14 : FnOk l.prog w K mg base (L2.CX l.prog w) 4 f14 _ P_is_winning (liftSp K (sp_is_winning A)) := ok_is_winning T G_entry_of G_is_outcome G_require_plan F14 (sp_is_winning A) len_is_winning (r_is_winning T)
  have G_is_winning : FnD l.prog w K mg base 4 "is_winning" P_is_winning [] (sp_is_winning A) := fnd_mk F14 (PySem.W.mg_of X G a14) b14 O14
  have O15 : FnOk l.prog w K mg base (L2.CX l.prog w) 1 f15 _ P_law_start (liftSp K (sp_law_start K)) := fnOk_or (ok_law_start T F15 sp_law_start1 (fun ds M Q E h => by (repeat (obtain ⟨_, h⟩ := h)); subst_vars; rfl) r_law_start) (ok_law_startK T F15 (sp_law_start2 K) (fun ds M Q E h => by (repeat (obtain ⟨_, h⟩ := h)); subst_vars; rfl) r_law_startK) (fun ds M Q E ⟨a, ns, e, h, r⟩ => h.elim (fun h => .inl ⟨a, ns, e, h, r⟩) fun h => .inr ⟨a, ns, e, h, r⟩)
  have G_law_start : FnD l.prog w K mg base 1 "_law_start" P_law_start [] (sp_law_start K) := fnd_mk F15 (PySem.W.mg_of X G a15) b15 O15
  have O16 : FnOk l.prog w K mg base (L2.CX l.prog w) 1 f16 _ P_law_pick (liftSp K (sp_law_pick)) := ok_law_pick T  F16 (sp_law_pick) len_law_pick r_law_pick
  have G_law_pick : FnD l.prog w K mg base 1 "_law_pick" P_law_pick [] (sp_law_pick) := fnd_mk F16 (PySem.W.mg_of X G a16) b16 O16
  have GG_law_same : ∀ n, FnD l.prog w K mg base (0 + n) "_law_same" P_law_same [] (sp_law_same n) := fun n => by
    induction n with
    | zero => exact fnd_mk F17 (PySem.W.mg_of X G a17) b17 (fnOk_not fun ds M Q E h => by first | exact h.elim | ((repeat (obtain ⟨_, h⟩ := h)); omega))
    | succ n ih => exact fnd_mk F17 (PySem.W.mg_of X G a17) b17 (ok_law_same T ih F17 (sp_law_same (n + 1)) len_law_same r_law_same)
  have G_law_same := GG_law_same 24
  have GG_law_tree : ∀ n, FnD l.prog w K mg base (1 + n) "_law_tree" P_law_tree [] (sp_law_tree n) := fun n => by
    induction n with
    | zero => exact fnd_mk F18 (PySem.W.mg_of X G a18) b18 (fnOk_not fun ds M Q E h => by first | exact h.elim | ((repeat (obtain ⟨_, h⟩ := h)); omega))
    | succ n ih => exact fnd_mk F18 (PySem.W.mg_of X G a18) b18 (ok_law_tree T G_law_pick ih F18 (sp_law_tree (n + 1)) len_law_tree r_law_tree)
  have G_law_tree := GG_law_tree 8
  have GG_law_scan : ∀ n, FnD l.prog w K mg base (0 + n) "_law_scan" P_law_scan [] (sp_law_scan n) := fun n => by
    induction n with
    | zero => exact fnd_mk F19 (PySem.W.mg_of X G a19) b19 (fnOk_not fun ds M Q E h => by first | exact h.elim | ((repeat (obtain ⟨_, h⟩ := h)); omega))
    | succ n ih => exact fnd_mk F19 (PySem.W.mg_of X G a19) b19 (ok_law_scan T ih F19 (sp_law_scan (n + 1)) len_law_scan r_law_scan)
  have G_law_scan := GG_law_scan 22
  have O20 : FnOk l.prog w K mg base (L2.CX l.prog w) 1 f20 _ P_law_at (liftSp K (sp_law_at)) := ok_law_at T  F20 (sp_law_at) len_law_at r_law_at
  have G_law_at : FnD l.prog w K mg base 1 "_law_at" P_law_at [] (sp_law_at) := fnd_mk F20 (PySem.W.mg_of X G a20) b20 O20
  have O21 : FnOk l.prog w K mg base (L2.CX l.prog w) 2 f21 _ P_law_winners (liftSp K (sp_law_winners)) := ok_law_winners T G_law_at F21 (sp_law_winners) len_law_winners r_law_winners
  have G_law_winners : FnD l.prog w K mg base 2 "_law_winners" P_law_winners [] (sp_law_winners) := fnd_mk F21 (PySem.W.mg_of X G a21) b21 O21
  have GG_law_reached : ∀ n, FnD l.prog w K mg base (0 + n) "_law_reached" P_law_reached [] (sp_law_reached n) := fun n => by
    induction n with
    | zero => exact fnd_mk F22 (PySem.W.mg_of X G a22) b22 (fnOk_not fun ds M Q E h => by first | exact h.elim | ((repeat (obtain ⟨_, h⟩ := h)); omega))
    | succ n ih => exact fnd_mk F22 (PySem.W.mg_of X G a22) b22 (ok_law_reached T ih F22 (sp_law_reached (n + 1)) len_law_reached r_law_reached)
  have G_law_reached := GG_law_reached 22
  have O23 : FnOk l.prog w K mg base (L2.CX l.prog w) 5 f23 _ P_law_refused (liftSp K (sp_law_refused A)) := ok_law_refused T G_is_winning F23 (sp_law_refused A) len_law_refused (r_law_refused HX)
  have G_law_refused : FnD l.prog w K mg base 5 "_law_refused" P_law_refused [] (sp_law_refused A) := fnd_mk F23 (PySem.W.mg_of X G a23) b23 O23
  have GG_law_exchanged : ∀ n, FnD l.prog w K mg base (0 + n) "_law_exchanged" P_law_exchanged [] (sp_law_exchanged n) := fun n => by
    induction n with
    | zero => exact fnd_mk F24 (PySem.W.mg_of X G a24) b24 (fnOk_not fun ds M Q E h => by first | exact h.elim | ((repeat (obtain ⟨_, h⟩ := h)); omega))
    | succ n ih => exact fnd_mk F24 (PySem.W.mg_of X G a24) b24 (ok_law_exchanged T ih F24 (sp_law_exchanged (n + 1)) len_law_exchanged r_law_exchanged)
  have G_law_exchanged := GG_law_exchanged 22
  have O25 : FnOk l.prog w K mg base (L2.CX l.prog w) 2 f25 _ P_law_grouped (liftSp K (sp_law_grouped)) := ok_law_grouped T G_law_pick F25 (sp_law_grouped) len_law_grouped r_law_grouped
  have G_law_grouped : FnD l.prog w K mg base 2 "_law_grouped" P_law_grouped [] (sp_law_grouped) := fnd_mk F25 (PySem.W.mg_of X G a25) b25 O25
  have O26 : FnOk l.prog w K mg base (L2.CX l.prog w) 2 f26 _ P_law_chain (liftSp K (sp_law_chain)) := ok_law_chain T G_law_pick F26 (sp_law_chain) len_law_chain r_law_chain
  have G_law_chain : FnD l.prog w K mg base 2 "_law_chain" P_law_chain [] (sp_law_chain) := fnd_mk F26 (PySem.W.mg_of X G a26) b26 O26
  have O27 : FnOk l.prog w K mg base (L2.CX l.prog w) 1 f27 _ P_law_plans (liftSp K (sp_law_plans)) := ok_law_plans T  F27 (sp_law_plans) len_law_plans r_law_plans
  have G_law_plans : FnD l.prog w K mg base 1 "_law_plans" P_law_plans [] (sp_law_plans) := fnd_mk F27 (PySem.W.mg_of X G a27) b27 O27
  have O28 : FnOk l.prog w K mg base (L2.CX l.prog w) 2 f28 _ P_law_drawn (liftSp K (sp_law_drawn)) := ok_law_drawn T G_law_pick F28 (sp_law_drawn) len_law_drawn r_law_drawn
  have G_law_drawn : FnD l.prog w K mg base 2 "_law_drawn" P_law_drawn [] (sp_law_drawn) := fnd_mk F28 (PySem.W.mg_of X G a28) b28 O28
  have O29 : FnOk l.prog w K mg base (L2.CX l.prog w) 3 f29 _ P_law_chosen (liftSp K (sp_law_chosen)) := ok_law_chosen T G_law_drawn G_law_plans F29 (sp_law_chosen) len_law_chosen r_law_chosen
  have G_law_chosen : FnD l.prog w K mg base 3 "_law_chosen" P_law_chosen [] (sp_law_chosen) := fnd_mk F29 (PySem.W.mg_of X G a29) b29 O29
  have O30 : FnOk l.prog w K mg base (L2.CX l.prog w) 1 f30 _ P_law_is_plan (liftSp K (sp_law_is_plan)) := ok_law_is_plan T  F30 (sp_law_is_plan) len_law_is_plan r_law_is_plan
  have G_law_is_plan : FnD l.prog w K mg base 1 "_law_is_plan" P_law_is_plan [] (sp_law_is_plan) := fnd_mk F30 (PySem.W.mg_of X G a30) b30 O30
  have O31 : FnOk l.prog w K mg base (L2.CX l.prog w) 25 f31 _ P_law_wrongs (liftSp K (sp_law_wrongs A.Duel)) := ok_law_wrongs T G_law_pick G_law_refused G_law_same F31 (sp_law_wrongs A.Duel) len_law_wrongs r_law_wrongs
  have G_law_wrongs : FnD l.prog w K mg base 25 "_law_wrongs" P_law_wrongs [] (sp_law_wrongs A.Duel) := fnd_mk F31 (PySem.W.mg_of X G a31) b31 O31
  have O32 : FnOk l.prog w K mg base (L2.CX l.prog w) 28 f32 _ P_law_played (liftSp K (sp_law_played A.Duel)) := ok_law_played T G_law_at G_law_chosen G_law_drawn G_law_exchanged G_law_is_plan G_law_reached G_law_same G_law_scan G_law_winners G_law_wrongs G_is_winning G_swapped G_winner G_winning_plan F32 (sp_law_played A.Duel) len_law_played (r_law_played T)
  have G_law_played : FnD l.prog w K mg base 28 "_law_played" P_law_played [] (sp_law_played A.Duel) := fnd_mk F32 (PySem.W.mg_of X G a32) b32 O32
  have GG_law_counts : ∀ n, FnD l.prog w K mg base (0 + n) "_law_counts" P_law_counts [] (sp_law_counts n) := fun n => by
    induction n with
    | zero => exact fnd_mk F33 (PySem.W.mg_of X G a33) b33 (fnOk_not fun ds M Q E h => by first | exact h.elim | ((repeat (obtain ⟨_, h⟩ := h)); omega))
    | succ n ih => exact fnd_mk F33 (PySem.W.mg_of X G a33) b33 (ok_law_counts T ih F33 (sp_law_counts (n + 1)) len_law_counts r_law_counts)
  have G_law_counts := GG_law_counts 22
  have O34 : FnOk l.prog w K mg base (L2.CX l.prog w) 28 f34 _ P_law_all_ends (liftSp K (sp_law_all_ends A.Duel)) := ok_law_all_ends T G_Duel_with_ends G_law_at G_law_counts G_law_same G_law_scan G_law_winners G_winner F34 (sp_law_all_ends A.Duel) len_law_all_ends (r_law_all_ends T)
  have G_law_all_ends : FnD l.prog w K mg base 28 "_law_all_ends" P_law_all_ends [] (sp_law_all_ends A.Duel) := fnd_mk F34 (PySem.W.mg_of X G a34) b34 O34
  exact ok_law T G_Duel_init G_law_all_ends G_law_chain G_law_grouped G_law_pick G_law_played G_law_same G_law_scan G_law_start G_law_tree F35 (sp_law K) len_law (r_law T)
end K43

open PySem PySem.W PyProof.Rows
set_option maxRecDepth 100000 in
set_option maxHeartbeats 0 in
theorem PySem.Challenge.cw_proofchoosers_k43_side_plans_played_holds : PySem.Challenge.rw_proofchoosers_k43_side_plans_played.Holds := by
  w_on; o_law; k_head; (case hw => w_witness2)
  k_fill
  refine DL.walkD (n := 63) (k := 29) (x := "script") (l := PySem.Challenge.rw_proofchoosers_k43_side_plans_played) rfl (by decide) rfl ⟨rfl, by decide, by decide⟩ (fun w h Y => PySem.W.kIn_of Y) ?F
  case F =>
    intro w mg fa h KX G hmg
    refine' K43.all_mk KX G hmg ?aProofsError ?aInvalidText ?aInvalidTerm ?aInvalidDuel ?aOutOfRange ?aSizeMismatch ?aTooLarge ?aInvalidPlan ?aDuel ?zall ?zbool ?zint ?zisinstance ?zlen ?zlist ?zmax ?zmin ?zrange ?zstr ?ztuple ?zzip ?qOutOfRange ?kOutOfRange ?sOutOfRange ?tOutOfRange ?hgOutOfRange ?hkOutOfRange ?hdOutOfRange ?haOutOfRange ?hmOutOfRange ?qTooLarge ?kTooLarge ?sTooLarge ?tTooLarge ?hgTooLarge ?hkTooLarge ?hdTooLarge ?haTooLarge ?hmTooLarge ?hn ?ht ?pgDuel ?hdDuel ?poDuel ?saDuel ?mkDuel ?kcDuel ?haDuel ?hmDuel ?noDuelroot ?noDueltree ?noDuelends ?noDuelsides ?noDuelchildren ?kInvalidPlan ?sInvalidPlan ?tInvalidPlan ?hgInvalidPlan ?hkInvalidPlan ?hdInvalidPlan ?haInvalidPlan ?hmInvalidPlan ?xlInvalidPlan ?xrInvalidPlan ?xSInvalidPlan ?xiInvalidPlan ?xtInvalidPlan ?xLInvalidPlan ?xCInvalidPlan ?xKInvalidPlan ?xnoInvalidPlanindex ?zcMOST_DEPTH ?zcMOST_DIGITS ?zcMOST_LETTERS ?zcMOST_NUMBER ?zcMOST_TREES ?rdDuel ?spDuel ?fcDuelMOST_LEAVES ?fcDuelMOST_LEVELS ?fcDuelMOST_NODES ?icInvalidTerm ?tcInvalidTerm ?scInvalidPlanInvalidTerm ?neInvalidPlanInvalidTerm ?icOutOfRange ?tcOutOfRange ?scInvalidPlanOutOfRange ?neInvalidPlanOutOfRange ?icSizeMismatch ?tcSizeMismatch ?scInvalidPlanSizeMismatch ?neInvalidPlanSizeMismatch ?scOutOfRangeInvalidTerm ?neOutOfRangeInvalidTerm ?icTooLarge ?tcTooLarge ?scOutOfRangeTooLarge ?neOutOfRangeTooLarge ?scOutOfRangeSizeMismatch ?neOutOfRangeSizeMismatch ?icInvalidPlan ?tcInvalidPlan ?scOutOfRangeInvalidPlan ?neOutOfRangeInvalidPlan ?ssInvalidPlan ?ssOutOfRange ?a1 ?l1 ?c1 ?k1 ?a2 ?l2 ?c2 ?k2 ?a3 ?l3 ?c3 ?k3 ?a4 ?i4 ?l4 ?c4 ?k4 ?a5 ?l5 ?c5 ?k5 ?a6 ?i6 ?l6 ?c6 ?k6 ?a7 ?l7 ?c7 ?k7 ?a8 ?l8 ?c8 ?k8 ?a9 ?l9 ?c9 ?k9 ?a10 ?l10 ?c10 ?k10 ?a11 ?l11 ?c11 ?k11 ?a12 ?l12 ?c12 ?k12 ?a13 ?l13 ?c13 ?k13 ?a14 ?l14 ?c14 ?k14 ?a15 ?l15 ?c15 ?k15 ?a16 ?l16 ?c16 ?k16 ?a17 ?l17 ?c17 ?k17 ?a18 ?l18 ?c18 ?k18 ?a19 ?l19 ?c19 ?k19 ?a20 ?l20 ?c20 ?k20 ?a21 ?l21 ?c21 ?k21 ?a22 ?l22 ?c22 ?k22 ?a23 ?l23 ?c23 ?k23 ?a24 ?l24 ?c24 ?k24 ?a25 ?l25 ?c25 ?k25 ?a26 ?l26 ?c26 ?k26 ?a27 ?l27 ?c27 ?k27 ?a28 ?l28 ?c28 ?k28 ?a29 ?l29 ?c29 ?k29 ?a30 ?l30 ?c30 ?k30 ?a31 ?l31 ?c31 ?k31 ?a32 ?l32 ?c32 ?k32 ?a33 ?l33 ?c33 ?k33 ?a34 ?l34 ?c34 ?k34 ?a35 ?l35 ?c35 ?k35
    (case aProofsError => k_is)
    (case aInvalidText => k_is)
    (case aInvalidTerm => k_is)
    (case aInvalidDuel => k_is)
    (case aOutOfRange => k_is)
    (case aSizeMismatch => k_is)
    (case aTooLarge => k_is)
    (case aInvalidPlan => k_is)
    (case aDuel => k_is)
    (case zall => k_is)
    (case zbool => k_is)
    (case zint => k_is)
    (case zisinstance => k_is)
    (case zlen => k_is)
    (case zlist => k_is)
    (case zmax => k_is)
    (case zmin => k_is)
    (case zrange => k_is)
    (case zstr => k_is)
    (case ztuple => k_is)
    (case zzip => k_is)
    (case qOutOfRange => k_exc)
    (case kOutOfRange => k_is)
    (case sOutOfRange => k_is)
    (case tOutOfRange => k_is)
    (case hgOutOfRange => k_is)
    (case hkOutOfRange => k_is)
    (case hdOutOfRange => k_is)
    (case haOutOfRange => k_is)
    (case hmOutOfRange => k_is)
    (case qTooLarge => k_exc)
    (case kTooLarge => k_is)
    (case sTooLarge => k_is)
    (case tTooLarge => k_is)
    (case hgTooLarge => k_is)
    (case hkTooLarge => k_is)
    (case hdTooLarge => k_is)
    (case haTooLarge => k_is)
    (case hmTooLarge => k_is)
    (case hn => k_is)
    (case ht => k_is)
    (case pgDuel => k_is)
    (case hdDuel => k_is)
    (case poDuel => k_is)
    (case saDuel => k_is)
    (case mkDuel => k_is)
    (case kcDuel => k_is)
    (case haDuel => k_is)
    (case hmDuel => k_is)
    (case noDuelroot => k_is)
    (case noDueltree => k_is)
    (case noDuelends => k_is)
    (case noDuelsides => k_is)
    (case noDuelchildren => k_is)
    (case kInvalidPlan => k_is)
    (case sInvalidPlan => k_is)
    (case tInvalidPlan => k_is)
    (case hgInvalidPlan => k_is)
    (case hkInvalidPlan => k_is)
    (case hdInvalidPlan => k_is)
    (case haInvalidPlan => k_is)
    (case hmInvalidPlan => k_is)
    (case xlInvalidPlan => k_is)
    (case xrInvalidPlan => rfl)
    (case xSInvalidPlan => k_is)
    (case xiInvalidPlan => k_is)
    (case xtInvalidPlan => k_is)
    (case xLInvalidPlan => k_is)
    (case xCInvalidPlan => k_is)
    (case xKInvalidPlan => k_is)
    (case xnoInvalidPlanindex => k_is)
    (case zcMOST_DEPTH => k_is)
    (case zcMOST_DIGITS => k_is)
    (case zcMOST_LETTERS => k_is)
    (case zcMOST_NUMBER => k_is)
    (case zcMOST_TREES => k_is)
    (case rdDuel => k_is)
    (case spDuel => k_is)
    (case fcDuelMOST_LEAVES => k_is)
    (case fcDuelMOST_LEVELS => k_is)
    (case fcDuelMOST_NODES => k_is)
    (case icInvalidTerm => k_is)
    (case tcInvalidTerm => k_is)
    (case scInvalidPlanInvalidTerm => k_is)
    (case neInvalidPlanInvalidTerm => rfl)
    (case icOutOfRange => k_is)
    (case tcOutOfRange => k_is)
    (case scInvalidPlanOutOfRange => k_is)
    (case neInvalidPlanOutOfRange => rfl)
    (case icSizeMismatch => k_is)
    (case tcSizeMismatch => k_is)
    (case scInvalidPlanSizeMismatch => k_is)
    (case neInvalidPlanSizeMismatch => rfl)
    (case scOutOfRangeInvalidTerm => k_is)
    (case neOutOfRangeInvalidTerm => rfl)
    (case icTooLarge => k_is)
    (case tcTooLarge => k_is)
    (case scOutOfRangeTooLarge => k_is)
    (case neOutOfRangeTooLarge => rfl)
    (case scOutOfRangeSizeMismatch => k_is)
    (case neOutOfRangeSizeMismatch => rfl)
    (case icInvalidPlan => k_is)
    (case tcInvalidPlan => k_is)
    (case scOutOfRangeInvalidPlan => k_is)
    (case neOutOfRangeInvalidPlan => rfl)
    (case ssInvalidPlan => k_is)
    (case ssOutOfRange => k_is)
    (case a1 => k_is)
    (case l1 => k_is)
    (case c1 => k_is)
    (case k1 => k_is)
    (case a2 => k_is)
    (case l2 => k_is)
    (case c2 => k_is)
    (case k2 => k_is)
    (case a3 => k_is)
    (case l3 => k_is)
    (case c3 => k_is)
    (case k3 => k_is)
    (case a4 => k_is)
    (case i4 => k_is)
    (case l4 => k_is)
    (case c4 => k_is)
    (case k4 => k_is)
    (case a5 => k_is)
    (case l5 => k_is)
    (case c5 => k_is)
    (case k5 => k_is)
    (case a6 => k_is)
    (case i6 => k_is)
    (case l6 => k_is)
    (case c6 => k_is)
    (case k6 => k_is)
    (case a7 => k_is)
    (case l7 => k_is)
    (case c7 => k_is)
    (case k7 => k_is)
    (case a8 => k_is)
    (case l8 => k_is)
    (case c8 => k_is)
    (case k8 => k_is)
    (case a9 => k_is)
    (case l9 => k_is)
    (case c9 => k_is)
    (case k9 => k_is)
    (case a10 => k_is)
    (case l10 => k_is)
    (case c10 => k_is)
    (case k10 => k_is)
    (case a11 => k_is)
    (case l11 => k_is)
    (case c11 => k_is)
    (case k11 => k_is)
    (case a12 => k_is)
    (case l12 => k_is)
    (case c12 => k_is)
    (case k12 => k_is)
    (case a13 => k_is)
    (case l13 => k_is)
    (case c13 => k_is)
    (case k13 => k_is)
    (case a14 => k_is)
    (case l14 => k_is)
    (case c14 => k_is)
    (case k14 => k_is)
    (case a15 => k_is)
    (case l15 => k_is)
    (case c15 => k_is)
    (case k15 => k_is)
    (case a16 => k_is)
    (case l16 => k_is)
    (case c16 => k_is)
    (case k16 => k_is)
    (case a17 => k_is)
    (case l17 => k_is)
    (case c17 => k_is)
    (case k17 => k_is)
    (case a18 => k_is)
    (case l18 => k_is)
    (case c18 => k_is)
    (case k18 => k_is)
    (case a19 => k_is)
    (case l19 => k_is)
    (case c19 => k_is)
    (case k19 => k_is)
    (case a20 => k_is)
    (case l20 => k_is)
    (case c20 => k_is)
    (case k20 => k_is)
    (case a21 => k_is)
    (case l21 => k_is)
    (case c21 => k_is)
    (case k21 => k_is)
    (case a22 => k_is)
    (case l22 => k_is)
    (case c22 => k_is)
    (case k22 => k_is)
    (case a23 => k_is)
    (case l23 => k_is)
    (case c23 => k_is)
    (case k23 => k_is)
    (case a24 => k_is)
    (case l24 => k_is)
    (case c24 => k_is)
    (case k24 => k_is)
    (case a25 => k_is)
    (case l25 => k_is)
    (case c25 => k_is)
    (case k25 => k_is)
    (case a26 => k_is)
    (case l26 => k_is)
    (case c26 => k_is)
    (case k26 => k_is)
    (case a27 => k_is)
    (case l27 => k_is)
    (case c27 => k_is)
    (case k27 => k_is)
    (case a28 => k_is)
    (case l28 => k_is)
    (case c28 => k_is)
    (case k28 => k_is)
    (case a29 => k_is)
    (case l29 => k_is)
    (case c29 => k_is)
    (case k29 => k_is)
    (case a30 => k_is)
    (case l30 => k_is)
    (case c30 => k_is)
    (case k30 => k_is)
    (case a31 => k_is)
    (case l31 => k_is)
    (case c31 => k_is)
    (case k31 => k_is)
    (case a32 => k_is)
    (case l32 => k_is)
    (case c32 => k_is)
    (case k32 => k_is)
    (case a33 => k_is)
    (case l33 => k_is)
    (case c33 => k_is)
    (case k33 => k_is)
    (case a34 => k_is)
    (case l34 => k_is)
    (case c34 => k_is)
    (case k34 => k_is)
    (case a35 => k_is)
    (case l35 => k_is)
    (case c35 => k_is)
    (case k35 => k_is)

