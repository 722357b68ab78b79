import PyProof.Rows.All
import Wide.All
import OpenK.AllK
import Wide.FinOn
import HandS.ForMost
import HandS.ForExc
import HandS.TupAny
import HandS.IsInst
import HandS.Wide
import HandS.WideBits
import HandS.TupMul
import HandS.Style
import HandS.CallSlots
import HandS.Codes
import HandS.EndBits
import HandS.ExcIs
import HandS.ExcField
import HandS.TryMany
import HandS.Defaults
import HandS.Zip
import HandS.Iter
import HandS.Deep
import PyProof.DictUpdate
import PyProof.DictDisplay
import HandS.Small
import HandS.WordsDict
import HandS.SortInts
import HandS.Text
import HandS.More
import HandS.ExcInit
import KE.KExcIs
import HandS.Conv
import HandS.ClsMeth
import PyProof.P3In
import HandS.SortKw
import KE.DataMinKey
import HandS.Exc
import HandS.RaiseMore
import HandS.Strs
import HandS.SetFor
import HandS.DictComp
import PySem.Challenge.RW_proofchoosers_k58_needed_places_and_head
set_option Elab.async false
set_option linter.all false
set_option maxRecDepth 100000
namespace DL
open PySem L2

/-- plain data: tuples are values, mutable things are addresses -/
inductive D where
  | non | bl (b : Bool) | int (i : Int) | str (x : Str) | tup (xs : List D) | ref (a : Addr) | ty (n : String)

section
variable (K : PySem.W.Frag) (H : Hp)
mutual
inductive Rp : V → D → Prop
  | non : Rp .non .non
  | bl (b) : Rp (.bl b) (.bl b)
  | int (i) : Rp (.int i) (.int i)
  | str (x) : Rp (.str x) (.str x)
  | ref (a) : Rp (.ref a) (.ref a)
  | ty (n) : Rp (.ty n) (.ty n)
  | tup {a : Addr} {xs : List V} {ds : List D} : SqT K H a xs → RpL xs ds → Rp (.ref a) (.tup ds)
inductive RpL : List V → List D → Prop
  | nil : RpL [] []
  | cons {x : V} {d : D} {xs : List V} {ds : List D} : Rp x d → RpL xs ds → RpL (x :: xs) (d :: ds)
end
/-- tuples stay, and what is read only -/
structure TExt (H H' : Hp) : Prop where
  tup : ∀ a xs, SqT K H a xs → SqT K H' a xs
  frz : ∀ a o u, H a = some (.frz o u) → H' a = some (.frz o u)
end
section
variable {K : PySem.W.Frag} {H H' H1 H2 : Hp}
theorem TExt.refl : TExt K H H := ⟨fun _ _ h => h, fun _ _ _ h => h⟩
theorem TExt.trans (a : TExt K H H1) (b : TExt K H1 H2) : TExt K H H2 := ⟨fun p xs h => b.tup p xs (a.tup p xs h), fun p o u h => b.frz p o u (a.frz p o u h)⟩
mutual
theorem Rp.mono (e : TExt K H H') : ∀ {v : V} {d : D}, Rp K H v d → Rp K H' v d
  | _, _, .non => .non
  | _, _, .bl b => .bl b
  | _, _, .int b => .int b
  | _, _, .str b => .str b
  | _, _, .ref b => .ref b
  | _, _, .ty b => .ty b
  | _, _, .tup h l => .tup (e.tup _ _ h) (RpL.mono e l)
theorem RpL.mono (e : TExt K H H') : ∀ {v : List V} {d : List D}, RpL K H v d → RpL K H' v d
  | _, _, .nil => .nil
  | _, _, .cons h l => .cons (Rp.mono e h) (RpL.mono e l)
end
/-- writing at a place that is no tuple's -/
def NoTup (o : Option HO) : Prop := match o with
  | some (.tup _) => False
  | some (.frz _ _) => False
  | _ => True
theorem TExt.upd {p : Addr} {o : HO} (h : NoTup (H p)) : TExt K H (upd H p o) := by
  refine ⟨fun a xs hs => ?_, fun a o' u hs => ?_⟩
  rotate_left
  · rw [upd_ne]
    · exact hs
    · rintro rfl; rw [hs] at h; exact h
  rcases hs with (hs | ⟨q, hs⟩) | hs
  · refine .inl (.inl ?_)
    rw [upd_ne]
    · exact hs
    · rintro rfl; rw [hs] at h; exact h
  · refine .inl (.inr ⟨q, ?_⟩)
    rw [upd_ne]
    · exact hs
    · rintro rfl; rw [hs] at h; exact h
  · exact .inr hs
theorem TExt.new {p : Addr} {o : HO} (h : H p = none) : TExt K H (L2.upd H p o) := TExt.upd (by rw [h]; trivial)

theorem RpL.length : ∀ {xs : List V} {ds : List D}, RpL K H xs ds → xs.length = ds.length
  | _, _, .nil => rfl
  | _, _, .cons _ l => by simp [RpL.length l]
theorem RpL.append : ∀ {xs ys : List V} {ds es : List D}, RpL K H xs ds → RpL K H ys es → RpL K H (xs ++ ys) (ds ++ es)
  | _, _, _, _, .nil, m => m
  | _, _, _, _, .cons r l, m => .cons r (RpL.append l m)
theorem RpL.take : ∀ {xs : List V} {ds : List D} (n : Nat), RpL K H xs ds → RpL K H (xs.take n) (ds.take n)
  | _, _, 0, _ => by simpa using RpL.nil
  | _, _, _ + 1, .nil => .nil
  | _, _, n + 1, .cons r l => .cons r (RpL.take n l)
theorem RpL.drop : ∀ {xs : List V} {ds : List D} (n : Nat), RpL K H xs ds → RpL K H (xs.drop n) (ds.drop n)
  | _, _, 0, h => by simpa using h
  | _, _, _ + 1, .nil => .nil
  | _, _, n + 1, .cons _ l => RpL.drop n l
theorem RpL.get : ∀ {xs : List V} {ds : List D} {i : Nat} {d : D}, RpL K H xs ds → ds[i]? = some d → ∃ x, xs[i]? = some x ∧ Rp K H x d
  | _, _, _, _, .nil, e => by simp at e
  | _, _, 0, _, .cons r _, e => by simp at e; subst e; exact ⟨_, rfl, r⟩
  | _, _, i + 1, d, .cons _ l, e => by
    obtain ⟨x, h1, h2⟩ := RpL.get (i := i) (d := d) l (by simpa using e)
    exact ⟨x, by simpa using h1, h2⟩
theorem RpL.set {x : V} {d : D} (r : Rp K H x d) : ∀ {xs : List V} {ds : List D} (i : Nat), RpL K H xs ds → RpL K H (xs.set i x) (ds.set i d)
  | _, _, _, .nil => .nil
  | _, _, 0, .cons _ l => .cons r l
  | _, _, i + 1, .cons q l => .cons q (RpL.set r i l)
theorem RpL.reverse {xs : List V} {ds : List D} (h : RpL K H xs ds) : RpL K H xs.reverse ds.reverse := by
  induction xs generalizing ds with
  | nil => cases h; exact .nil
  | cons x xs ih =>
    cases h with
    | cons r l => rw [List.reverse_cons, List.reverse_cons]; exact (ih l).append (.cons r .nil)
theorem RpL.dropLast : ∀ {xs : List V} {ds : List D}, RpL K H xs ds → RpL K H xs.dropLast ds.dropLast
  | _, _, .nil => .nil
  | _, _, .cons _ .nil => .nil
  | _, _, .cons r (.cons q l) => .cons r (RpL.dropLast (.cons q l))
theorem RpL.rep {xs : List V} {ds : List D} (h : RpL K H xs ds) : ∀ k : Nat, RpL K H (List.replicate k xs).flatten (List.replicate k ds).flatten
  | 0 => .nil
  | k + 1 => by rw [List.replicate_succ, List.replicate_succ, List.flatten_cons, List.flatten_cons]; exact h.append (RpL.rep h k)
theorem RpL.isEmpty {xs : List V} {ds : List D} (h : RpL K H xs ds) : xs.isEmpty = ds.isEmpty := by
  cases h <;> rfl
theorem RpL.nil_of {xs : List V} (h : RpL K H xs []) : xs = [] := by cases h; rfl
theorem RpL.ints : ∀ {xs : List V} {ns : List Int}, RpL K H xs (ns.map D.int) → xs = ns.map V.int
  | _, [], .nil => rfl
  | _, n :: ns, .cons (.int _) l => by rw [RpL.ints l]; rfl
theorem RpL.strs : ∀ {xs : List V} {ns : List Str}, RpL K H xs (ns.map D.str) → xs = ns.map V.str
  | _, [], .nil => rfl
  | _, n :: ns, .cons (.str _) l => by rw [RpL.strs l]; rfl
theorem RpL.bls : ∀ {xs : List V} {ns : List Bool}, RpL K H xs (ns.map D.bl) → xs = ns.map V.bl
  | _, [], .nil => rfl
  | _, n :: ns, .cons (.bl _) l => by rw [RpL.bls l]; rfl
theorem RpL.ofInts : ∀ {ns : List Int}, RpL K H (ns.map V.int) (ns.map D.int)
  | [] => .nil
  | n :: ns => .cons (.int n) RpL.ofInts
theorem RpL.ofStrs : ∀ {ns : List Str}, RpL K H (ns.map V.str) (ns.map D.str)
  | [] => .nil
  | n :: ns => .cons (.str n) RpL.ofStrs
end

/-! ### the mutable part -/
inductive MO where
  /-- a list -/
  | lst (xs : List D)
  /-- a list that is read only -/
  | rol (xs : List D)
  /-- a dict with keys that are ints or texts -/
  | dk (kvs : List (Key × D))
  /-- an instance of the class at C -/
  | ins (C : Addr) (fs : List (Str × D))
  /-- the attributes of an exception -/
  | xd (fs : List (Str × D))
  /-- a dict that is read only, while it is walked -/
  | rdk (kvs : List (Key × D))
  /-- a tuple that is known to be one and no more -/
  | xt (xs : List D)
abbrev Mp := Addr → Option MO
def put (M : Mp) (a : Addr) (o : MO) : Mp := fun b => if b = a then some o else M b
theorem put_same {M : Mp} {a : Addr} {o : MO} : put M a o a = some o := by unfold put; rw [if_pos rfl]
theorem put_ne {M : Mp} {a b : Addr} {o : MO} (h : b ≠ a) : put M a o b = M b := by unfold put; rw [if_neg h]
theorem put_put {M : Mp} {a : Addr} {o u : MO} : put (put M a o) a u = put M a u := by
  funext b; unfold put; split <;> rfl
def KD (K : PySem.W.Frag) (H : Hp) : List (Key × V) → List (Key × D) → Prop
  | [], [] => True
  | p :: ps, q :: qs => p.1 = q.1 ∧ Rp K H p.2 q.2 ∧ KD K H ps qs
  | _, _ => False
def FD (K : PySem.W.Frag) (H : Hp) : List (Str × V) → List (Str × D) → Prop
  | [], [] => True
  | p :: ps, q :: qs => p.1 = q.1 ∧ Rp K H p.2 q.2 ∧ FD K H ps qs
  | _, _ => False
theorem KD.mono {K : PySem.W.Frag} {H H' : Hp} (e : TExt K H H') : ∀ {ps : List (Key × V)} {qs : List (Key × D)}, KD K H ps qs → KD K H' ps qs
  | [], [], h => h
  | p :: ps, q :: qs, h => ⟨h.1, h.2.1.mono e, KD.mono e h.2.2⟩
  | [], _ :: _, h => h.elim
  | _ :: _, [], h => h.elim
theorem FD.mono {K : PySem.W.Frag} {H H' : Hp} (e : TExt K H H') : ∀ {ps : List (Str × V)} {qs : List (Str × D)}, FD K H ps qs → FD K H' ps qs
  | [], [], h => h
  | p :: ps, q :: qs, h => ⟨h.1, h.2.1.mono e, FD.mono e h.2.2⟩
  | [], _ :: _, h => h.elim
  | _ :: _, [], h => h.elim
def MR (K : PySem.W.Frag) (H : Hp) (a : Addr) : MO → Prop
  | .lst ds => ∃ xs, H a = some (.lst xs) ∧ RpL K H xs ds
  | .rol ds => ∃ o xs, H a = some (.frz o (.lst xs)) ∧ RpL K H xs ds
  | .dk kvs => ∃ vs, H a = some (.dK vs) ∧ KD K H vs kvs
  | .ins C fs => ∃ dx vs, H a = some (.ins C dx vs) ∧ FD K H vs fs
  | .xd fs => ∃ vs, H a = some (.xd vs) ∧ FD K H vs fs
  | .rdk kvs => ∃ o vs, H a = some (.frz o (.dK vs)) ∧ KD K H vs kvs
  | .xt ds => ∃ o vs, H a = some (.frz o (.tup vs)) ∧ o.dict = none ∧ RpL K H vs ds
def HR (K : PySem.W.Frag) (H : Hp) (M : Mp) : Prop := ∀ a o, M a = some o → MR K H a o
def Sub (M M' : Mp) : Prop := ∀ a o, M a = some o → M' a = some o
theorem Sub.refl {M : Mp} : Sub M M := fun _ _ h => h
theorem Sub.trans {M1 M2 M3 : Mp} (a : Sub M1 M2) (b : Sub M2 M3) : Sub M1 M3 := fun p o h => b p o (a p o h)
theorem Sub.none {M M' : Mp} (s : Sub M M') {p : Addr} (h : M' p = .none) : M p = .none := by
  cases e : M p with
  | none => rfl
  | some o => rw [s p o e] at h; cases h
theorem Sub.put {M M' : Mp} {p : Addr} {o : MO} (s : Sub M M') (h : M' p = .none) : Sub M (DL.put M' p o) := fun a u e => by
  have e' := s a u e
  rw [put_ne]
  · exact e'
  · rintro rfl; rw [e'] at h; cases h
theorem Sub.put2 {M M' : Mp} {p : Addr} {o : MO} (s : Sub M M') (h : M p = .none) : Sub M (DL.put M' p o) := fun a u e => by
  have e' := s a u e
  rw [put_ne]
  · exact e'
  · rintro rfl; rw [e] at h; cases h
theorem Sub.both {M M' : Mp} {p : Addr} {o : MO} (s : Sub M M') : Sub (DL.put M p o) (DL.put M' p o) := fun a u e => by
  by_cases c : a = p
  · subst c; rw [put_same] at e ⊢; exact e
  · rw [put_ne c] at e ⊢; exact s a u e
theorem HR.sub {K : PySem.W.Frag} {H : Hp} {M M' : Mp} (h : HR K H M') (s : Sub M M') : HR K H M := fun a o e => h a o (s a o e)
theorem HR.free {K : PySem.W.Frag} {H : Hp} {M : Mp} (h : HR K H M) {p : Addr} (hp : H p = none) : M p = none := by
  cases e : M p with
  | none => rfl
  | some o =>
    have q := h p o e
    cases o with
    | lst ds => obtain ⟨_, q, _⟩ := q; rw [hp] at q; cases q
    | rol ds => obtain ⟨_, _, q, _⟩ := q; rw [hp] at q; cases q
    | dk ds => obtain ⟨_, q, _⟩ := q; rw [hp] at q; cases q
    | ins C ds => obtain ⟨_, _, q, _⟩ := q; rw [hp] at q; cases q
    | xd ds => obtain ⟨_, q, _⟩ := q; rw [hp] at q; cases q
    | rdk ds => obtain ⟨_, _, q, _⟩ := q; rw [hp] at q; cases q
    | xt ds => obtain ⟨_, _, q, _⟩ := q; rw [hp] at q; cases q
theorem MR.away {K : PySem.W.Frag} {H : Hp} {a p : Addr} {o : MO} {u : HO} (h : MR K H a o) (e : TExt K H (upd H p u)) (ne : a ≠ p) : MR K (upd H p u) a o := by
  cases o with
  | lst ds => obtain ⟨xs, q, r⟩ := h; exact ⟨xs, (upd_ne ne).trans q, r.mono e⟩
  | rol ds => obtain ⟨o, xs, q, r⟩ := h; exact ⟨o, xs, (upd_ne ne).trans q, r.mono e⟩
  | dk ds => obtain ⟨xs, q, r⟩ := h; exact ⟨xs, (upd_ne ne).trans q, r.mono e⟩
  | ins C ds => obtain ⟨dx, xs, q, r⟩ := h; exact ⟨dx, xs, (upd_ne ne).trans q, r.mono e⟩
  | xd ds => obtain ⟨xs, q, r⟩ := h; exact ⟨xs, (upd_ne ne).trans q, r.mono e⟩
  | rdk ds => obtain ⟨o, xs, q, r⟩ := h; exact ⟨o, xs, (upd_ne ne).trans q, r.mono e⟩
  | xt ds => obtain ⟨o, xs, q, u, r⟩ := h; exact ⟨o, xs, (upd_ne ne).trans q, u, r.mono e⟩
theorem HR.fresh {K : PySem.W.Frag} {H : Hp} {M : Mp} {p : Addr} {u : HO} (h : HR K H M) (hp : H p = none) : HR K (upd H p u) M := fun a o e =>
  (h a o e).away (.new hp) fun z => by subst z; rw [h.free hp] at e; cases e
theorem HR.made {K : PySem.W.Frag} {H : Hp} {M : Mp} {p : Addr} {u : HO} {o : MO} (h : HR K H M) (hp : NoTup (H p)) (n : MR K (upd H p u) p o) : HR K (upd H p u) (DL.put M p o) := fun a q e => by
  by_cases c : a = p
  · subst c; rw [put_same] at e; cases e; exact n
  · rw [put_ne c] at e; exact (h a q e).away (.upd hp) c
theorem noTup_none {H : Hp} {p : Addr} (h : H p = none) : NoTup (H p) := by rw [h]; trivial
theorem noTup_lst {H : Hp} {p : Addr} {xs : List V} (h : H p = some (.lst xs)) : NoTup (H p) := by rw [h]; trivial
theorem noTup_dK {H : Hp} {p : Addr} {xs : List (Key × V)} (h : H p = some (.dK xs)) : NoTup (H p) := by rw [h]; trivial
theorem noTup_ins {H : Hp} {p C dx : Addr} {xs : List (Str × V)} (h : H p = some (.ins C dx xs)) : NoTup (H p) := by rw [h]; trivial

/-! ### readings over plain data -/
abbrev Sl := List (Option D)
/-- an exception: its class, the attributes of its own -/
structure DX where
  cls : Value
  d : Option Addr
  fs : List (Str × D)
abbrev DK := D → Mp → Prop
abbrev EK := DX → Mp → Prop
abbrev DE := Sl → Mp → DK → EK → Prop
abbrev DT := Sl → Mp → (Bool → Mp → Prop) → EK → Prop
abbrev DA := Sl → Mp → (List D → Mp → Prop) → EK → Prop
structure DN where
  nx : Sl → Mp → Prop
  rt : DK
  bk : Sl → Mp → Prop := fun _ _ => False
  ct : Sl → Mp → Prop := fun _ _ => False
  ex : DX → Sl → Mp → Prop := fun _ _ _ => False
abbrev DS := DN → Sl → Mp → Prop
/-- what is wanted of an exception; tuples of the heap h0 still stand -/
structure DW where
  h0 : Hp
  w : DX → Sl → Mp → Prop
/-- the slots -/
structure RS (K : PySem.W.Frag) (H0 H : Hp) (σ : St) (τ : Sl) : Prop where
  ext : TExt K H0 H
  len : τ.length ≤ σ.length
  at_ : ∀ (i : Nat) (d : D), τ[i]? = some (some d) → ∃ v, σ[i]? = some (some v) ∧ Rp K H v d
section
variable (K : PySem.W.Frag)
def XR (H : Hp) (cls : Value) (d : Option Addr) (x : DX) : Prop := cls = x.cls ∧ d = x.d ∧ ∀ dx, d = some dx → ∃ vs, H dx = some (.xd vs) ∧ FD K H vs x.fs
/-- what the reading of an expression says of the heap's reading -/
def KC (H : Hp) (Qd : DK) (Q : VK) : Prop := ∀ d M' v H', Qd d M' → TExt K H H' → Rp K H' v d → HR K H' M' → Q v H'
def liftE (W : DW) (t : DE) : TE := fun σ H Q => ∃ τ M Qd Ed, RS K W.h0 H σ τ ∧ HR K H M ∧ t τ M Qd Ed ∧ (∀ x M', Ed x M' → W.w x τ M') ∧ KC K H Qd Q
def liftT (W : DW) (t : DT) : TT := fun σ H Q => ∃ τ M Qd Ed, RS K W.h0 H σ τ ∧ HR K H M ∧ t τ M Qd Ed ∧ (∀ x M', Ed x M' → W.w x τ M') ∧ (∀ b M' H', Qd b M' → TExt K H H' → HR K H' M' → Q b H')
def liftA (W : DW) (t : DA) : TA := fun σ H Q => ∃ τ M Qd Ed, RS K W.h0 H σ τ ∧ HR K H M ∧ t τ M Qd Ed ∧ (∀ x M', Ed x M' → W.w x τ M') ∧ (∀ ds M' vs H', Qd ds M' → TExt K H H' → RpL K H' vs ds → HR K H' M' → Q vs H')
def liftW (W : DW) : WX := fun cls d σ H => ∃ x τ M, RS K W.h0 H σ τ ∧ HR K H M ∧ XR K H cls d x ∧ W.w x τ M
structure NC (H0 H : Hp) (Dd : DN) (De : Ends) : Prop where
  nx : ∀ τ M σ H', Dd.nx τ M → TExt K H H' → RS K H0 H' σ τ → HR K H' M → De.nx σ H'
  rt : ∀ d M v H', Dd.rt d M → TExt K H H' → Rp K H' v d → HR K H' M → De.rt v H'
  bk : ∀ τ M σ H', Dd.bk τ M → TExt K H H' → RS K H0 H' σ τ → HR K H' M → De.bk σ H'
  ct : ∀ τ M σ H', Dd.ct τ M → TExt K H H' → RS K H0 H' σ τ → HR K H' M → De.ct σ H'
def liftS (W : DW) (t : DS) : TS := fun De σ H => ∃ τ M Dd, RS K W.h0 H σ τ ∧ HR K H M ∧ t Dd τ M ∧ (∀ x τ' M', Dd.ex x τ' M' → W.w x τ' M') ∧ NC K W.h0 H Dd De
end
section
variable {K : PySem.W.Frag} {H0 H H' : Hp} {σ : St} {τ : Sl}
theorem RS.mono (e : TExt K H H') (h : RS K H0 H σ τ) : RS K H0 H' σ τ := ⟨h.ext.trans e, h.len, fun i d q => by
  obtain ⟨v, a, b⟩ := h.at_ i d q
  exact ⟨v, a, b.mono e⟩⟩
theorem NC.mono {Dd : DN} {De : Ends} (e : TExt K H H') (h : NC K H0 H Dd De) : NC K H0 H' Dd De :=
  ⟨fun τ M σ H2 q x => h.nx τ M σ H2 q (e.trans x), fun d M v H2 q x => h.rt d M v H2 q (e.trans x), fun τ M σ H2 q x => h.bk τ M σ H2 q (e.trans x), fun τ M σ H2 q x => h.ct τ M σ H2 q (e.trans x)⟩
theorem KC.mono {Qd : DK} {Q : VK} (e : TExt K H H') (h : KC K H Qd Q) : KC K H' Qd Q := fun d M v H2 q x => h d M v H2 q (e.trans x)
theorem RS.set {i : Nat} {v : V} {d : D} (h : RS K H0 H σ τ) (r : Rp K H v d) : RS K H0 H (σ.set i (some v)) (τ.set i (some d)) := ⟨h.ext, by simpa using h.len, fun j e q => by
  by_cases c : i = j
  · subst c
    by_cases hi : i < τ.length
    · rw [List.getElem?_set_self hi] at q
      cases q
      exact ⟨v, List.getElem?_set_self (Nat.lt_of_lt_of_le hi h.len), r⟩
    · rw [List.getElem?_eq_none (by simpa using hi)] at q
      cases q
  · rw [List.getElem?_set_ne c] at q ⊢
    exact h.at_ j e q⟩
end
section
variable (X : Cx) (W : DW)
structure PD (e : Expr) (t : DE) : Prop where
  run : PE X e (liftE X.K W t)
structure PTD (e : Expr) (t : DT) : Prop where
  run : PT X e (liftT X.K W t)
structure PWD (e : Expr) (t : DT) : Prop where
  run : PW X e (liftT X.K W t)
structure PAD (es : List Expr) (t : DA) : Prop where
  run : PA X es (liftA X.K W t)
structure PSD (st : Stmt) (t : DS) : Prop where
  run : PS X st (liftS X.K W t)
structure PSsD (st : List Stmt) (t : DS) : Prop where
  run : PSs X st (liftS X.K W t)
end
section
variable {X : Cx}
theorem PEimp {e : Expr} {t t' : TE} (h : PE X e t) (i : ∀ σ H Q, t' σ H Q → t σ H Q) : PE X e t' := ⟨fun pins s σ H Q I q => h.run pins s σ H Q I (i σ H Q q)⟩
theorem PTimp {e : Expr} {t t' : TT} (h : PT X e t) (i : ∀ σ H Q, t' σ H Q → t σ H Q) : PT X e t' := ⟨fun pins s σ H Q I q => h.run pins s σ H Q I (i σ H Q q)⟩
theorem PWimp {e : Expr} {t t' : TT} (h : PW X e t) (i : ∀ σ H Q, t' σ H Q → t σ H Q) : PW X e t' := ⟨fun wh pins s σ H Q I q => h.run wh pins s σ H Q I (i σ H Q q)⟩
theorem PAimp {es : List Expr} {t t' : TA} (h : PA X es t) (i : ∀ σ H Q, t' σ H Q → t σ H Q) : PA X es t' := ⟨fun pos pins s σ H Q I q => h.run pos pins s σ H Q I (i σ H Q q)⟩
theorem PSimp {e : Stmt} {t t' : TS} (h : PS X e t) (i : ∀ De σ H, t' De σ H → t De σ H) : PS X e t' := ⟨fun pins s σ H De I q => h.run pins s σ H De I (i De σ H q)⟩
theorem PSsimp {e : List Stmt} {t t' : TS} (h : PSs X e t) (i : ∀ De σ H, t' De σ H → t De σ H) : PSs X e t' := ⟨fun pins s σ H De I q => h.run pins s σ H De I (i De σ H q)⟩
end
end DL

set_option maxHeartbeats 4000000
namespace DL
open PySem L2
section
variable {X : Cx} {W : DW}

/-! ### names, constants -/
def slot (τ : Sl) (i : Nat) : Option D := (τ[i]?).join
theorem slot_eq {τ : Sl} {i : Nat} {d : D} (h : slot τ i = some d) : τ[i]? = some (some d) := by
  unfold slot at h
  cases e : τ[i]? with
  | none => rw [e] at h; cases h
  | some o => rw [e] at h; exact congrArg some h
def dVar (i : Nat) : DE := fun τ M Q _ => match slot τ i with | some d => Q d M | none => False
def dC (d : D) : DE := fun _ M Q _ => Q d M
theorem pd_var {i : Nat} {e : Expr} (h : PE X e (tVar i)) : PD X W e (dVar i) := ⟨PEimp h fun σ H Q ⟨τ, M, Qd, Ed, hs, hr, q, _, k⟩ => by
  unfold dVar at q
  split at q
  · rename_i d e
    obtain ⟨v, a, b⟩ := hs.at_ i d (slot_eq e)
    exact ⟨v, a, k d M v H q .refl b hr⟩
  · exact q.elim⟩
theorem pd_c {e : Expr} {v : V} {d : D} (h : PE X e (tC v)) (r : ∀ H, Rp X.K H v d) : PD X W e (dC d) := ⟨PEimp h fun σ H Q ⟨τ, M, Qd, Ed, hs, hr, q, _, k⟩ => k d M v H q .refl (r H) hr⟩
theorem pd_int {i j pos} : PD X W (.Constant (.int i) j pos) (dC (.int i)) := pd_c pe_int fun _ => .int i
theorem pd_bl {b j pos} : PD X W (.Constant (.bool b) j pos) (dC (.bl b)) := pd_c pe_bl fun _ => .bl b
theorem pd_non {j pos} : PD X W (.Constant .none j pos) (dC .non) := pd_c pe_non fun _ => .non
theorem pd_str {x j pos} : PD X W (.Constant (.str x) j pos) (dC (.str x)) := pd_c pe_str fun _ => .str x
/-- a slot by its place -/
theorem pdv (i : Nat) {x : Str} {pos : Pos} (hN : X.N[i]? = some x := by rfl) (hv : Vis X.env.scope x := by first | exact Or.inl rfl | exact Or.inr (Or.inl rfl) | exact Or.inr (Or.inr rfl)) (hd : (x == ("__debug__" : Str)) = false := by decide)
    (hcd : (x == ("__classdict__" : Str)) = false := by decide) : PD X W (.Name x pos) (dVar i) := pd_var (pe_var hN hv hd hcd)

/-! ### operators by values -/
abbrev DO := D → D → Mp → DK → Prop
def liftO (K : PySem.W.Frag) (g : DO) : R2 := fun x y H Q => ∃ dx dy M Qd, g dx dy M Qd ∧ Rp K H x dx ∧ Rp K H y dy ∧ HR K H M ∧ KC K H Qd Q
def dOp (g : DO) (ta tb : DE) : DE := fun τ M Q E => ta τ M (fun x M1 => tb τ M1 (fun y M2 => g x y M2 Q) E) E
theorem dOp_lift {g : DO} {ta tb : DE} {σ : St} {H : Hp} {Q : VK} (h : liftE X.K W (dOp g ta tb) σ H Q) : tOp (liftO X.K g) (liftE X.K W ta) (liftE X.K W tb) σ H Q := by
  obtain ⟨τ, M, Qd, Ed, hs, hr, q, we, k⟩ := h
  refine ⟨τ, M, _, Ed, hs, hr, q, we, fun x M1 v H1 q1 e1 r1 h1 => ⟨τ, M1, _, Ed, hs.mono e1, h1, q1, we, fun y M2 u H2 q2 e2 r2 h2 => ?_⟩⟩
  exact ⟨x, y, M2, Qd, q2, r1.mono e2, r2, h2, k.mono (e1.trans e2)⟩
theorem pd_op {op : Operator} {g : DO} {a b : Expr} {ta tb : DE} {pos : Pos} (ho : OpR X (binaryOp op) (liftO X.K g)) (ha : PD X W a ta) (hb : PD X W b tb) : PD X W (.BinOp a op b pos) (dOp g ta tb) :=
  ⟨PEimp (pe_op ho ha.run hb.run) fun _ _ _ h => dOp_lift h⟩
theorem OpRimp {f : Value → Value → Sem Value} {r r' : R2} (h : OpR X f r) (i : ∀ x y H Q, r' x y H Q → r x y H Q) : OpR X f r' := fun pins s σ H x y v u Q I rx ry q => h pins s σ H x y v u Q I rx ry (i x y H Q q)
/-- an operator whose reading is one of two -/
theorem liftO_or {f : Value → Value → Sem Value} {g g1 g2 : DO} (h1 : OpR X f (liftO X.K g1)) (h2 : OpR X f (liftO X.K g2)) (h : ∀ x y M Q, g x y M Q → g1 x y M Q ∨ g2 x y M Q) : OpR X f (liftO X.K g) :=
  OpRimp (h1.or h2) fun x y H Q ⟨dx, dy, M, Qd, q, a, b, c, k⟩ => (h dx dy M Qd q).elim (fun z => .inl ⟨dx, dy, M, Qd, z, a, b, c, k⟩) fun z => .inr ⟨dx, dy, M, Qd, z, a, b, c, k⟩
theorem Rp.toInt {K : PySem.W.Frag} {H : Hp} {v : V} {i : Int} (h : Rp K H v (.int i)) : v = .int i := by cases h; rfl
theorem Rp.toStr {K : PySem.W.Frag} {H : Hp} {v : V} {i : Str} (h : Rp K H v (.str i)) : v = .str i := by cases h; rfl
theorem Rp.toBl {K : PySem.W.Frag} {H : Hp} {v : V} {i : Bool} (h : Rp K H v (.bl i)) : v = .bl i := by cases h; rfl
theorem Rp.toRef {K : PySem.W.Frag} {H : Hp} {v : V} {i : Addr} (h : Rp K H v (.ref i)) : v = .ref i := by cases h; rfl
theorem Rp.toTy {K : PySem.W.Frag} {H : Hp} {v : V} {i : String} (h : Rp K H v (.ty i)) : v = .ty i := by cases h; rfl
theorem Rp.toNon {K : PySem.W.Frag} {H : Hp} {v : V} (h : Rp K H v .non) : v = .non := by cases h; rfl
theorem Rp.toTup {K : PySem.W.Frag} {H : Hp} {v : V} {ds : List D} (h : Rp K H v (.tup ds)) : ∃ a xs, v = .ref a ∧ SqT K H a xs ∧ RpL K H xs ds := by
  cases h with
  | tup s l => exact ⟨_, _, rfl, s, l⟩
theorem HR.lst {K : PySem.W.Frag} {H : Hp} {M : Mp} {a : Addr} {ds : List D} (h : HR K H M) (e : M a = some (.lst ds)) : ∃ xs, H a = some (.lst xs) ∧ RpL K H xs ds := h a _ e
theorem HR.dk {K : PySem.W.Frag} {H : Hp} {M : Mp} {a : Addr} {ds : List (Key × D)} (h : HR K H M) (e : M a = some (.dk ds)) : ∃ xs, H a = some (.dK xs) ∧ KD K H xs ds := h a _ e
theorem HR.ins {K : PySem.W.Frag} {H : Hp} {M : Mp} {a C : Addr} {ds : List (Str × D)} (h : HR K H M) (e : M a = some (.ins C ds)) : ∃ dx xs, H a = some (.ins C dx xs) ∧ FD K H xs ds := h a _ e
/-- a new tuple -/
theorem KC.tup {K : PySem.W.Frag} {H : Hp} {M : Mp} {Qd : DK} {Q : VK} {xs : List V} {ds : List D} {p : Addr} (k : KC K H Qd Q) (hr : HR K H M) (l : RpL K H xs ds) (hp : H p = none) (q : Qd (.tup ds) M) : Q (.ref p) (upd H p (.tup xs)) :=
  k _ M _ _ q (.new hp) (.tup (.of upd_same) (l.mono (.new hp))) (hr.fresh hp)
/-- a new list -/
theorem KC.lst {K : PySem.W.Frag} {H : Hp} {M : Mp} {Qd : DK} {Q : VK} {xs : List V} {ds : List D} {p : Addr} (k : KC K H Qd Q) (hr : HR K H M) (l : RpL K H xs ds) (hp : H p = none) (q : ∀ p, M p = none → Qd (.ref p) (put M p (.lst ds))) : Q (.ref p) (upd H p (.lst xs)) :=
  k _ _ _ _ (q p (hr.free hp)) (.new hp) (.ref p) (hr.made (noTup_none hp) ⟨xs, upd_same, l.mono (.new hp)⟩)

/-- two ints -/
def oI (C : Int → Int → Prop) (f : Int → Int → D) : DO := fun x y M Q => match x, y with | .int i, .int j => C i j ∧ Q (f i j) M | _, _ => False
def oI0 (f : Int → Int → D) : DO := fun x y M Q => match x, y with | .int i, .int j => Q (f i j) M | _, _ => False
theorem oI_of {f : Value → Value → Sem Value} {C : Int → Int → Prop} {g : Int → Int → V} {gd : Int → Int → D} (h : OpR X f (rI C g)) (hg : ∀ i j H, Rp X.K H (g i j) (gd i j)) : OpR X f (liftO X.K (oI C gd)) :=
  OpRimp h fun x y H Q ⟨dx, dy, M, Qd, q, a, b, c, k⟩ => by
    unfold oI at q
    split at q
    · rename_i i j
      exact ⟨i, j, a.toInt, b.toInt, q.1, k _ M _ H q.2 .refl (hg i j H) c⟩
    · exact q.elim
theorem oI0_of {f : Value → Value → Sem Value} {g : Int → Int → V} {gd : Int → Int → D} (h : OpR X f (rI0 g)) (hg : ∀ i j H, Rp X.K H (g i j) (gd i j)) : OpR X f (liftO X.K (oI0 gd)) :=
  OpRimp h fun x y H Q ⟨dx, dy, M, Qd, q, a, b, c, k⟩ => by
    unfold oI0 at q
    split at q
    · rename_i i j
      exact ⟨i, j, a.toInt, b.toInt, k _ M _ H q .refl (hg i j H) c⟩
    · exact q.elim
/-- + -/
def addD : DO := fun x y M Q => match x, y with
  | .int i, .int j => Q (.int (i + j)) M
  | .str i, .str j => i.length + j.length ≤ sizeLine ∧ Q (.str (i ++ j)) M
  | .tup xs, .tup ys => xs.length + ys.length ≤ sizeLine ∧ Q (.tup (xs ++ ys)) M
  | .ref a, .ref b => match M a, M b with
    | some (.lst xs), some (.lst ys) => xs.length + ys.length ≤ sizeLine ∧ ∀ p, M p = none → Q (.ref p) (put M p (.lst (xs ++ ys)))
    | _, _ => False
  | _, _ => False
theorem op_addD : OpR X (binaryOp .Add) (liftO X.K addD) :=
  OpRimp ((op_add (X := X)).or ((op_add_str (X := X)).or ((op_catA (X := X)).or (op_cat (X := X))))) fun x y H Q ⟨dx, dy, M, Qd, q, a, b, c, k⟩ => by
    unfold addD at q
    split at q
    · exact .inl ⟨_, _, a.toInt, b.toInt, k _ M _ H q .refl (.int _) c⟩
    · exact .inr (.inl ⟨_, _, a.toStr, b.toStr, q.1, k _ M _ H q.2 .refl (.str _) c⟩)
    · rename_i xs ys
      obtain ⟨pa, va, rfl, sa, la⟩ := a.toTup
      obtain ⟨pb, vb, rfl, sb, lb⟩ := b.toTup
      refine .inr (.inr (.inl ⟨pa, pb, va, vb, rfl, rfl, sa, sb, by rw [la.length, lb.length]; exact q.1, fun e => ?_, fun _ e => ?_, fun _ _ p hp => k.tup c (la.append lb) hp q.2⟩))
      · subst e
        have e' : xs = [] := by cases la; rfl
        subst e'
        exact k _ M _ H q.2 .refl (.tup sb (by simpa using lb)) c
      · subst e
        have e' : ys = [] := by cases lb; rfl
        subst e'
        exact k _ M _ H q.2 .refl (.tup sa (by simpa using la)) c
    · rename_i pa pb
      split at q
      · rename_i xs ys e1 e2
        obtain ⟨va, ha, la⟩ := c.lst e1
        obtain ⟨vb, hb, lb⟩ := c.lst e2
        exact .inr (.inr (.inr ⟨pa, pb, va, vb, a.toRef, b.toRef, ha, hb, by rw [la.length, lb.length]; exact q.1, fun p hp => k.lst c (la.append lb) hp q.2⟩))
      · exact q.elim
    · exact q.elim
theorem op_subD : OpR X (binaryOp .Sub) (liftO X.K (oI0 fun i j => .int (i - j))) := oI0_of op_sub fun _ _ _ => .int _
theorem op_fdivD : OpR X (binaryOp .FloorDiv) (liftO X.K (oI CDivW fun i j => .int (i / j))) := oI_of op_fdivW fun _ _ _ => .int _
theorem op_modD : OpR X (binaryOp .Mod) (liftO X.K (oI (fun _ j => 0 < j) fun i j => .int (i % j))) := oI_of op_mod fun _ _ _ => .int _
theorem op_powD : OpR X (binaryOp .Pow) (liftO X.K (oI CPow fun i j => .int (i ^ j.toNat))) := oI_of op_pow fun _ _ _ => .int _
end
end DL

set_option maxHeartbeats 4000000
namespace DL
open PySem L2

/-! ### plain data as the library's data; Python's == -/
mutual
def toP : D → PyData
  | .non => .none
  | .bl b => .bool b
  | .int i => .int i
  | .str x => .str x
  | .tup xs => .tuple (toPL xs)
  | .ref _ => .none
  | .ty _ => .none
def toPL : List D → List PyData
  | [] => []
  | d :: ds => toP d :: toPL ds
end
mutual
/-- no addresses, no classes; signs as they may be -/
def ok : D → Bool
  | .str x => x.cps.all (· < 0x110000)
  | .tup xs => okL xs
  | .ref _ => false
  | .ty _ => false
  | .non => true
  | .bl _ => true
  | .int _ => true
def okL : List D → Bool
  | [] => true
  | d :: ds => ok d && okL ds
end
mutual
def dep : D → Nat
  | .tup xs => depL xs + 1
  | .non => 0
  | .bl _ => 0
  | .int _ => 0
  | .str _ => 0
  | .ref _ => 0
  | .ty _ => 0
def depL : List D → Nat
  | [] => 0
  | d :: ds => max (dep d) (depL ds)
end
mutual
def eqb : D → D → Bool
  | .non, y => match y with | .non => true | _ => false
  | .bl a, y => match y with | .bl b => a == b | .int j => (if a then 1 else 0) == j | _ => false
  | .int i, y => match y with | .bl b => i == (if b then 1 else 0) | .int j => i == j | _ => false
  | .str a, y => match y with | .str b => a == b | _ => false
  | .tup xs, y => match y with | .tup ys => eqbL xs ys | _ => false
  | .ref _, _ => false
  | .ty _, _ => false
def eqbL : List D → List D → Bool
  | [], ys => match ys with | [] => true | _ => false
  | x :: xs, ys => match ys with | y :: ys => eqb x y && eqbL xs ys | _ => false
end
mutual
theorem eqv_toP : ∀ (x y : D), ok x = true → ok y = true → PyData.eqv (toP x) (toP y) = eqb x y
  | .non, y, h, k => by cases y <;> simp_all [toP, eqb, PyData.eqv, ok]
  | .bl _, y, h, k => by cases y <;> simp_all [toP, eqb, PyData.eqv, ok]
  | .int _, y, h, k => by cases y <;> simp_all [toP, eqb, PyData.eqv, ok]
  | .str _, y, h, k => by cases y <;> simp_all [toP, eqb, PyData.eqv, ok]
  | .ref _, y, h, k => by simp [ok] at h
  | .ty _, y, h, k => by simp [ok] at h
  | .tup xs, y, h, k => by
    cases y with
    | tup ys =>
      have q := eqvL_toP xs ys (by simpa [ok] using h) (by simpa [ok] using k)
      simpa [toP, eqb, PyData.eqv] using q
    | ref _ => simp [ok] at k
    | ty _ => simp [ok] at k
    | _ => simp [toP, eqb, PyData.eqv]
theorem eqvL_toP : ∀ (xs ys : List D), okL xs = true → okL ys = true → PyData.eqvAll (toPL xs) (toPL ys) = eqbL xs ys
  | [], [], _, _ => by simp [toPL, eqbL, PyData.eqvAll]
  | [], _ :: _, _, _ => by simp [toPL, eqbL, PyData.eqvAll]
  | _ :: _, [], _, _ => by simp [toPL, eqbL, PyData.eqvAll]
  | x :: xs, y :: ys, h, k => by
    have h' : ok x = true ∧ okL xs = true := by simpa [okL] using h
    have k' : ok y = true ∧ okL ys = true := by simpa [okL] using k
    simp [toPL, eqbL, PyData.eqvAll, eqv_toP x y h'.1 k'.1, eqvL_toP xs ys h'.2 k'.2]
end
mutual
theorem lay_toP : ∀ (x : D), ok x = true → (toP x).canLay0 = true
  | .non, h => by simp [toP, PyData.canLay0]
  | .bl _, h => by simp [toP, PyData.canLay0]
  | .int _, h => by simp [toP, PyData.canLay0]
  | .str _, h => by simpa [toP, PyData.canLay0, PyData.strOk, ok] using h
  | .ref _, h => by simp [ok] at h
  | .ty _, h => by simp [ok] at h
  | .tup xs, h => by
    have q := layL_toP xs (by simpa [ok] using h)
    simpa [toP, PyData.canLay0] using q
theorem layL_toP : ∀ (xs : List D), okL xs = true → PyData.canLayAll0 (toPL xs) = true
  | [], _ => by simp [toPL, PyData.canLayAll0]
  | x :: xs, h => by
    have h' : ok x = true ∧ okL xs = true := by simpa [okL] using h
    simp [toPL, PyData.canLayAll0, lay_toP x h'.1, layL_toP xs h'.2]
end
mutual
theorem dep_toP : ∀ (x : D), (toP x).depth = dep x
  | .non => by simp [toP, PyData.depth, dep]
  | .bl _ => by simp [toP, PyData.depth, dep]
  | .int _ => by simp [toP, PyData.depth, dep]
  | .str _ => by simp [toP, PyData.depth, dep]
  | .ref _ => by simp [toP, PyData.depth, dep]
  | .ty _ => by simp [toP, PyData.depth, dep]
  | .tup xs => by simp [toP, PyData.depth, dep, depL_toP xs]
theorem depL_toP : ∀ (xs : List D), PyData.depthAll (toPL xs) = depL xs
  | [] => by simp [toPL, PyData.depthAll, depL]
  | x :: xs => by simp [toPL, PyData.depthAll, depL, dep_toP x, depL_toP xs]
end
mutual
theorem dp_of {K : PySem.W.Frag} {H : Hp} : ∀ {v : V} {d : D}, Rp K H v d → ok d = true → Dp K H v (toP d)
  | _, _, .non, _ => by simpa [toP] using Dp.non
  | _, _, .bl b, _ => by simpa [toP] using Dp.bl b
  | _, _, .int b, _ => by simpa [toP] using Dp.int b
  | _, _, .str b, _ => by simpa [toP] using Dp.str b
  | _, _, .ref b, h => by simp [ok] at h
  | _, _, .ty b, h => by simp [ok] at h
  | _, _, .tup s l, h => by simpa [toP] using Dp.tup s (dpL_of l (by simpa [ok] using h))
theorem dpL_of {K : PySem.W.Frag} {H : Hp} : ∀ {v : List V} {d : List D}, RpL K H v d → okL d = true → DpAll K H v (toPL d)
  | _, _, .nil, _ => by simpa [toPL] using DpAll.nil
  | _, _, .cons r l, h => by
    rename_i d _ ds
    have h' : ok d = true ∧ okL ds = true := by simpa [okL] using h
    simpa [toPL] using DpAll.cons (dp_of r h'.1) (dpL_of l h'.2)
end
section
variable {X : Cx} {W : DW}
/-- what both sides of == are asked -/
def eqOk (x y : D) : Prop := ok x = true ∧ ok y = true ∧ min (dep x) (dep y) ≤ 200
def eqG (n : Bool) : DO := fun x y M Q => match x, y with
  | .int i, .int j => Q (.bl (n != decide (i = j))) M
  | .str i, .str j => Q (.bl (n != decide (i = j))) M
  | .ref a, .ref b => match M a, M b with
    | some (.lst xs), some (.lst ys) => okL xs = true ∧ okL ys = true ∧ min (depL xs) (depL ys) ≤ 199 ∧ Q (.bl (n != eqbL xs ys)) M
    | _, _ => False
  | x, y => eqOk x y ∧ Q (.bl (n != eqb x y)) M
abbrev eqD : DO := eqG false
abbrev neD : DO := eqG true
def rDeep (K : PySem.W.Frag) (n : Bool) : R2 := fun x y H Q => ∃ d e, Dp K H x d ∧ Dp K H y e ∧ d.canLay0 = true ∧ e.canLay0 = true ∧ min d.depth e.depth ≤ 200 ∧ Q (.bl (n != PyData.eqv d e)) H
theorem op_deepE (hu : X.A.units + 200 < cLine) : OpR X (compareOp .Eq) (rDeep X.K false) := by
  intro pins s σ H x y v u Q I rx ry ⟨d, e, hd, he, sd, se, dm, q⟩
  obtain ⟨as, r1⟩ := Dp.reads I d x v hd rx
  obtain ⟨bs, r2⟩ := Dp.reads I e y u he ry
  exact SeqAt.compareEq_reads r1 r2 sd se (by omega) ⟨.bl _, H, I, rfl, by simpa using q⟩
theorem op_deepN (hu : X.A.units + 200 < cLine) : OpR X (compareOp .NotEq) (rDeep X.K true) := by
  intro pins s σ H x y v u Q I rx ry ⟨d, e, hd, he, sd, se, dm, q⟩
  obtain ⟨as, r1⟩ := Dp.reads I d x v hd rx
  obtain ⟨bs, r2⟩ := Dp.reads I e y u he ry
  exact SeqAt.compareNe_reads r1 r2 sd se (by omega) ⟨.bl _, H, I, rfl, by simpa using q⟩
def rScal (n : Bool) : R2 := fun x y H Q => (∃ i j : Int, x = .int i ∧ y = .int j ∧ Q (.bl (n != decide (i = j))) H) ∨ (∃ i j : Str, x = .str i ∧ y = .str j ∧ Q (.bl (n != decide (i = j))) H)
theorem dInt {i j : Int} : decide (V.int i = V.int j) = decide (i = j) := by
  by_cases h : i = j
  · subst h; simp
  · simp [h]
theorem dStr {i j : Str} : decide (V.str i = V.str j) = decide (i = j) := by
  by_cases h : i = j
  · subst h; simp
  · simp [h]
theorem op_scalE : OpR X (compareOp .Eq) (rScal false) := OpRimp op_eq fun x y H Q h => by
  rcases h with ⟨i, j, rfl, rfl, q⟩ | ⟨i, j, rfl, rfl, q⟩
  · exact ⟨rfl, by rw [dInt]; simpa using q⟩
  · exact ⟨rfl, by rw [dStr]; simpa using q⟩
theorem op_scalN : OpR X (compareOp .NotEq) (rScal true) := OpRimp op_ne fun x y H Q h => by
  rcases h with ⟨i, j, rfl, rfl, q⟩ | ⟨i, j, rfl, rfl, q⟩
  · exact ⟨rfl, by rw [dInt]; simpa using q⟩
  · exact ⟨rfl, by rw [dStr]; simpa using q⟩
theorem eqG_of {f : Value → Value → Sem Value} {n : Bool} (h1 : OpR X f (rScal n)) (h2 : OpR X f (rDeep X.K n)) : OpR X f (liftO X.K (eqG n)) :=
  OpRimp (h1.or h2) fun x y H Q ⟨dx, dy, M, Qd, q, a, b, c, k⟩ => by
    unfold eqG at q
    split at q
    · exact .inl (.inl ⟨_, _, a.toInt, b.toInt, k _ M _ H q .refl (.bl _) c⟩)
    · exact .inl (.inr ⟨_, _, a.toStr, b.toStr, k _ M _ H q .refl (.bl _) c⟩)
    · rename_i pa pb
      split at q
      · rename_i xs ys e1 e2
        obtain ⟨va, ha, la⟩ := c.lst e1
        obtain ⟨vb, hb, lb⟩ := c.lst e2
        have ra := a.toRef
        have rb := b.toRef
        subst ra; subst rb
        refine .inr ⟨_, _, .lst (SqL.of ha) (dpL_of la q.1), .lst (SqL.of hb) (dpL_of lb q.2.1), by simpa [PyData.canLay0] using layL_toP _ q.1, by simpa [PyData.canLay0] using layL_toP _ q.2.1, ?_, ?_⟩
        · have := q.2.2.1
          simp only [PyData.depth, depL_toP]
          omega
        · refine k _ M _ H ?_ .refl (.bl _) c
          have := q.2.2.2
          rw [← eqvL_toP xs ys q.1 q.2.1] at this
          simpa [PyData.eqv] using this
      · exact q.elim
    · obtain ⟨⟨o1, o2, dm⟩, q⟩ := q
      refine .inr ⟨_, _, dp_of a o1, dp_of b o2, lay_toP _ o1, lay_toP _ o2, by rw [dep_toP, dep_toP]; exact dm, ?_⟩
      rw [eqv_toP _ _ o1 o2]
      exact k _ M _ H q .refl (.bl _) c
theorem op_eqG (hu : X.A.units + 200 < cLine) : OpR X (compareOp .Eq) (liftO X.K eqD) := eqG_of op_scalE (op_deepE hu)
theorem op_neG (hu : X.A.units + 200 < cLine) : OpR X (compareOp .NotEq) (liftO X.K neD) := eqG_of op_scalN (op_deepN hu)
theorem Room.u200 {k : Nat} {A : Around} (r : Room k A) : A.units + 200 < cLine := by have := r.un; omega

/-! ### < and the like, is -/
theorem op_ltD : OpR X (compareOp .Lt) (liftO X.K (oI0 fun i j => .bl (decide (i < j)))) := oI0_of op_lt fun _ _ _ => .bl _
theorem op_leD : OpR X (compareOp .LtE) (liftO X.K (oI0 fun i j => .bl (decide (i ≤ j)))) := oI0_of op_le fun _ _ _ => .bl _
theorem op_gtD : OpR X (compareOp .Gt) (liftO X.K (oI0 fun i j => .bl (decide (j < i)))) := oI0_of op_gt fun _ _ _ => .bl _
theorem op_geD : OpR X (compareOp .GtE) (liftO X.K (oI0 fun i j => .bl (decide (j ≤ i)))) := oI0_of op_ge fun _ _ _ => .bl _
def isNone : D → Bool
  | .non => true
  | _ => false
/-- is None; is of two bools -/
def isG (n : Bool) : DO := fun x y M Q => match y with
  | .non => Q (.bl (n != isNone x)) M
  | .bl b => match x with
    | .bl a => Q (.bl (n != decide (a = b))) M
    | _ => False
  | _ => False
theorem isNone_of {K : PySem.W.Frag} {H : Hp} {v : V} {d : D} (r : Rp K H v d) : decide (v = .non) = isNone d := by
  cases r <;> simp [isNone]
theorem op_isG : OpR X (compareOp .Is) (liftO X.K (isG false)) :=
  OpRimp ((op_isN (X := X)).or (op_isBl (X := X))) fun x y H Q ⟨dx, dy, M, Qd, q, a, b, c, k⟩ => by
    unfold isG at q
    split at q
    · exact .inl ⟨b.toNon, by rw [isNone_of a]; exact k _ M _ H (by simpa using q) .refl (.bl _) c⟩
    · split at q
      · exact .inr ⟨_, _, a.toBl, b.toBl, k _ M _ H (by simpa using q) .refl (.bl _) c⟩
      · exact q.elim
    · exact q.elim
theorem op_isNotG : OpR X (compareOp .IsNot) (liftO X.K (isG true)) :=
  OpRimp ((op_notN (X := X)).or (op_notBl (X := X))) fun x y H Q ⟨dx, dy, M, Qd, q, a, b, c, k⟩ => by
    unfold isG at q
    split at q
    · exact .inl ⟨b.toNon, by rw [isNone_of a]; exact k _ M _ H (by simpa using q) .refl (.bl _) c⟩
    · split at q
      · exact .inr ⟨_, _, a.toBl, b.toBl, k _ M _ H (by simpa using q) .refl (.bl _) c⟩
      · exact q.elim
    · exact q.elim

/-! ### comparisons and tests -/
theorem pd_cmp {op : CmpOp} {g : DO} {a b : Expr} {ta tb : DE} {pos : Pos} (ho : OpR X (compareOp op) (liftO X.K g)) (ha : PD X W a ta) (hb : PD X W b tb) (hm : behindInMarks op b = false) : PD X W (.Compare a [op] [b] pos) (dOp g ta tb) :=
  ⟨PEimp (pe_cmpR ho ha.run hb.run hm) fun _ _ _ h => dOp_lift h⟩
/-- a value that is a bool, as a test -/
def dB (t : DE) : DT := fun τ M Q E => t τ M (fun d M1 => match d with | .bl b => Q b M1 | _ => False) E
theorem dB_lift {t : DE} {σ : St} {H : Hp} {Q : Bool → Hp → Prop} (h : liftT X.K W (dB t) σ H Q) : liftE X.K W t σ H (fun x H1 => ∃ k, x = .bl k ∧ Q k H1) := by
  obtain ⟨τ, M, Qd, Ed, hs, hr, q, we, k⟩ := h
  refine ⟨τ, M, _, Ed, hs, hr, q, we, fun d M1 v H1 q1 e1 r1 h1 => ?_⟩
  dsimp only at q1
  split at q1
  · exact ⟨_, r1.toBl, k _ M1 H1 q1 e1 h1⟩
  · exact q1.elim
theorem pt_cmpD {op : CmpOp} {g : DO} {a b : Expr} {ta tb : DE} {pos : Pos} (ho : OpR X (compareOp op) (liftO X.K g)) (ha : PD X W a ta) (hb : PD X W b tb) (hm : behindInMarks op b = false) : PTD X W (.Compare a [op] [b] pos) (dB (dOp g ta tb)) :=
  ⟨PTimp (pt_cmpR ho ha.run hb.run hm) fun σ H Q h => dOp_lift (Q := fun x H1 => ∃ k, x = .bl k ∧ Q k H1) (W := W) (by
    obtain ⟨τ, M, Qd, Ed, hs, hr, q, we, k⟩ := h
    exact ⟨τ, M, _, Ed, hs, hr, q, we, fun d M1 v H1 q1 e1 r1 h1 => by
      dsimp only at q1
      split at q1
      · exact ⟨_, r1.toBl, k _ M1 H1 q1 e1 h1⟩
      · exact q1.elim⟩)⟩
theorem ptd_val {e : Expr} {t : DE} (h : PD X W e t) (he : ∀ whole, isTrue e X.env whole = (do let v ← whole; standAt e.pos; holding [v] (truthy v)) := by intro _; rfl) : PTD X W e (dB t) :=
  ⟨PTimp (pt_val h.run he) fun σ H Q h => dB_lift h⟩
/-- a value by its truth -/
def truD (d : D) (M : Mp) : Option Bool := match d with
  | .non => some false
  | .bl b => some b
  | .int i => some (i != 0)
  | .str x => if x.length ≤ sizeLine then some ((x.length : Int) != 0) else none
  | .tup xs => some (!xs.isEmpty)
  | .ref a => match M a with
    | some (.lst xs) => some (!xs.isEmpty)
    | some (.dk xs) => some (!xs.isEmpty)
    | _ => none
  | .ty _ => none
def dTru (t : DE) : DT := fun τ M Q E => t τ M (fun d M1 => match truD d M1 with | some b => Q b M1 | none => False) E
theorem KD.isEmpty {K : PySem.W.Frag} {H : Hp} {ps : List (Key × V)} {qs : List (Key × D)} (h : KD K H ps qs) : ps.isEmpty = qs.isEmpty := by
  cases ps <;> cases qs <;> first | rfl | exact h.elim
theorem truD_ok {K : PySem.W.Frag} {H : Hp} {M : Mp} {v : V} {d : D} {b : Bool} (r : Rp K H v d) (hr : HR K H M) (h : truD d M = some b) : TruV K v H b := by
  cases d with
  | non => cases r; exact (Option.some.inj h).symm
  | bl b => cases r; exact (Option.some.inj h).symm
  | int i => cases r; exact (Option.some.inj h).symm
  | str x =>
    cases r
    unfold truD at h
    by_cases c : x.length ≤ sizeLine
    · simp only [c, if_true] at h
      exact ⟨c, (Option.some.inj h).symm⟩
    · simp [c] at h
  | tup xs =>
    obtain ⟨a, vs, rfl, s, l⟩ := r.toTup
    exact .inr (.inl ⟨vs, s, by rw [l.isEmpty]; exact (Option.some.inj h).symm⟩)
  | ref a =>
    cases r
    have h' : (match M a with | some (.lst xs) => some (!xs.isEmpty) | some (.dk xs) => some (!xs.isEmpty) | _ => none) = some b := h
    cases e : M a with
    | none => rw [e] at h'; cases h'
    | some o =>
      rw [e] at h'
      cases o with
      | lst xs =>
        obtain ⟨vs, hv, l⟩ := hr.lst e
        exact .inl ⟨vs, SqL.of hv, by rw [l.isEmpty]; exact (Option.some.inj h').symm⟩
      | dk xs =>
        obtain ⟨vs, hv, l⟩ := hr.dk e
        exact .inr (.inr ⟨vs, hv, by rw [l.isEmpty]; exact (Option.some.inj h').symm⟩)
      | rol xs => cases h'
      | ins C xs => cases h'
      | xd xs => cases h'
      | rdk xs => cases h'
      | xt xs => cases h'
  | ty n => cases h
theorem ptd_tru {e : Expr} {t : DE} (h : PD X W e t) (he : ∀ whole, isTrue e X.env whole = (do let v ← whole; standAt e.pos; holding [v] (truthy v)) := by intro _; rfl) : PTD X W e (dTru t) :=
  ⟨PTimp (pt_truth h.run he) fun σ H Q ⟨τ, M, Qd, Ed, hs, hr, q, we, k⟩ => ⟨τ, M, _, Ed, hs, hr, q, we, fun d M1 v H1 q1 e1 r1 h1 => by
    dsimp only at q1
    split at q1
    · rename_i b eb
      exact ⟨b, truD_ok r1 h1 eb, k b M1 H1 q1 e1 h1⟩
    · exact q1.elim⟩⟩
def dAnd (t u : DT) : DT := fun τ M Q E => t τ M (fun c M1 => if c = true then u τ M1 Q E else Q false M1) E
def dOr (t u : DT) : DT := fun τ M Q E => t τ M (fun c M1 => if c = true then Q true M1 else u τ M1 Q E) E
def dNot (t : DT) : DT := fun τ M Q E => t τ M (fun c M1 => Q (!c) M1) E
section
variable {a b : Expr} {rest : List Expr} {t u : DT} {pos : Pos} {te ue : DE}
theorem PWD.pt {e : Expr} {t : DT} (h : PWD X W e t) : PTD X W e t := ⟨h.run.pt⟩
theorem pwd_and1 (h : PTD X W a t) : PWD X W (.BoolOp .And [a] pos) t := ⟨pw_and1 h.run⟩
theorem pwd_or1 (h : PTD X W a t) : PWD X W (.BoolOp .Or [a] pos) t := ⟨pw_or1 h.run⟩
theorem pwd_and (h : PTD X W a t) (hb : PWD X W (.BoolOp .And (b :: rest) pos) u) : PWD X W (.BoolOp .And (a :: b :: rest) pos) (dAnd t u) :=
  ⟨PWimp (pw_and h.run hb.run) fun σ H Q ⟨τ, M, Qd, Ed, hs, hr, q, we, k⟩ => ⟨τ, M, _, Ed, hs, hr, q, we, fun c M1 H1 q1 e1 h1 => by
    cases c with
    | true => exact ⟨τ, M1, Qd, Ed, hs.mono e1, h1, q1, we, fun b M2 H2 q2 e2 h2 => k b M2 H2 q2 (e1.trans e2) h2⟩
    | false => exact k false M1 H1 (by simpa using q1) e1 h1⟩⟩
theorem pwd_or (h : PTD X W a t) (hb : PWD X W (.BoolOp .Or (b :: rest) pos) u) : PWD X W (.BoolOp .Or (a :: b :: rest) pos) (dOr t u) :=
  ⟨PWimp (pw_or h.run hb.run) fun σ H Q ⟨τ, M, Qd, Ed, hs, hr, q, we, k⟩ => ⟨τ, M, _, Ed, hs, hr, q, we, fun c M1 H1 q1 e1 h1 => by
    cases c with
    | true => exact k true M1 H1 q1 e1 h1
    | false => exact ⟨τ, M1, Qd, Ed, hs.mono e1, h1, (by simpa using q1), we, fun b M2 H2 q2 e2 h2 => k b M2 H2 q2 (e1.trans e2) h2⟩⟩⟩
theorem ptd_not (h : PTD X W a t) : PTD X W (.UnaryOp .Not a pos) (dNot t) :=
  ⟨PTimp (pt_not h.run) fun σ H Q ⟨τ, M, Qd, Ed, hs, hr, q, we, k⟩ => ⟨τ, M, _, Ed, hs, hr, q, we, fun c M1 H1 q1 e1 h1 => k _ M1 H1 q1 e1 h1⟩⟩
/-- .. as values, all but the last bools -/
def dAndV (t u : DE) : DE := fun τ M Q E => t τ M (fun d M1 => match d with | .bl c => if c = true then u τ M1 Q E else Q (.bl false) M1 | _ => False) E
def dOrV (t u : DE) : DE := fun τ M Q E => t τ M (fun d M1 => match d with | .bl c => if c = true then Q (.bl true) M1 else u τ M1 Q E | _ => False) E
def dNotV (t : DE) : DE := fun τ M Q E => t τ M (fun d M1 => match d with | .bl c => Q (.bl (!c)) M1 | _ => False) E
theorem pd_one {op : BoolOp} (h : PD X W a te) : PD X W (.BoolOp op [a] pos) te := ⟨pe_one h.run⟩
theorem pd_and (h : PD X W a te) (hb : PD X W (.BoolOp .And (b :: rest) pos) ue) : PD X W (.BoolOp .And (a :: b :: rest) pos) (dAndV te ue) :=
  ⟨PEimp (pe_and h.run hb.run) fun σ H Q ⟨τ, M, Qd, Ed, hs, hr, q, we, k⟩ => ⟨τ, M, _, Ed, hs, hr, q, we, fun d M1 v H1 q1 e1 r1 h1 => by
    dsimp only at q1
    split at q1
    · rename_i c
      refine ⟨c, r1.toBl, ?_⟩
      cases c with
      | true => exact ⟨τ, M1, Qd, Ed, hs.mono e1, h1, q1, we, k.mono e1⟩
      | false => exact k _ M1 _ H1 (by simpa using q1) e1 (.bl _) h1
    · exact q1.elim⟩⟩
theorem pd_or (h : PD X W a te) (hb : PD X W (.BoolOp .Or (b :: rest) pos) ue) : PD X W (.BoolOp .Or (a :: b :: rest) pos) (dOrV te ue) :=
  ⟨PEimp (pe_or h.run hb.run) fun σ H Q ⟨τ, M, Qd, Ed, hs, hr, q, we, k⟩ => ⟨τ, M, _, Ed, hs, hr, q, we, fun d M1 v H1 q1 e1 r1 h1 => by
    dsimp only at q1
    split at q1
    · rename_i c
      refine ⟨c, r1.toBl, ?_⟩
      cases c with
      | true => exact k _ M1 _ H1 (by simpa using q1) e1 (.bl _) h1
      | false => exact ⟨τ, M1, Qd, Ed, hs.mono e1, h1, (by simpa using q1), we, k.mono e1⟩
    · exact q1.elim⟩⟩
theorem pd_not (h : PD X W a te) : PD X W (.UnaryOp .Not a pos) (dNotV te) :=
  ⟨PEimp (pe_not h.run) fun σ H Q ⟨τ, M, Qd, Ed, hs, hr, q, we, k⟩ => ⟨τ, M, _, Ed, hs, hr, q, we, fun d M1 v H1 q1 e1 r1 h1 => by
    dsimp only at q1
    split at q1
    · exact ⟨_, r1.toBl, k _ M1 _ H1 q1 e1 (.bl _) h1⟩
    · exact q1.elim⟩⟩
def dNeg (t : DE) : DE := fun τ M Q E => t τ M (fun d M1 => match d with | .int i => Q (.int (-i)) M1 | _ => False) E
theorem pd_neg (h : PD X W a te) : PD X W (.UnaryOp .USub a pos) (dNeg te) :=
  ⟨PEimp (pe_un un_neg h.run) fun σ H Q ⟨τ, M, Qd, Ed, hs, hr, q, we, k⟩ => ⟨τ, M, _, Ed, hs, hr, q, we, fun d M1 v H1 q1 e1 r1 h1 => by
    dsimp only at q1
    split at q1
    · exact ⟨_, r1.toInt, k _ M1 _ H1 q1 e1 (.int _) h1⟩
    · exact q1.elim⟩⟩
end
end
end DL

set_option maxHeartbeats 4000000
namespace DL
open PySem L2
section
variable {X : Cx} {W : DW} {e a b o : Expr} {es : List Expr} {te ta tb : DE} {t : DA} {pos p apos : Pos}

/-! ### argument lists, displays -/
def dNil : DA := fun _ M Q _ => Q [] M
def dCons (te : DE) (t : DA) : DA := fun τ M Q E => te τ M (fun d M1 => t τ M1 (fun ds M2 => Q (d :: ds) M2) E) E
theorem pad_nil : PAD X W [] dNil := ⟨PAimp pa_nil fun σ H Q ⟨τ, M, Qd, Ed, hs, hr, q, we, k⟩ => k [] M [] H q .refl .nil hr⟩
theorem pad_cons (he : PD X W e te) (h : PAD X W es t) (hs : starEach (e :: es) X.env = (false, eval e X.env) :: starEach es X.env := by rfl) : PAD X W (e :: es) (dCons te t) :=
  ⟨PAimp (pa_cons he.run h.run hs) fun σ H Q ⟨τ, M, Qd, Ed, hs, hr, q, we, k⟩ => ⟨τ, M, _, Ed, hs, hr, q, we, fun d M1 v H1 q1 e1 r1 h1 =>
    ⟨τ, M1, _, Ed, hs.mono e1, h1, q1, we, fun ds M2 vs H2 q2 e2 r2 h2 => k (d :: ds) M2 (v :: vs) H2 q2 (e1.trans e2) (.cons (r1.mono e2) r2) h2⟩⟩⟩
def dTup (t : DA) : DE := fun τ M Q E => t τ M (fun ds M1 => ds.length ≤ sizeLine ∧ Q (.tup ds) M1) E
def dLst (t : DA) : DE := fun τ M Q E => t τ M (fun ds M1 => ds.length ≤ sizeLine ∧ ∀ p, M1 p = none → Q (.ref p) (put M1 p (.lst ds))) E
theorem pd_tup {x1} (h : PAD X W es t) : PD X W (.Tuple es x1 pos) (dTup t) :=
  ⟨PEimp (pe_tup h.run) fun σ H Q ⟨τ, M, Qd, Ed, hs, hr, q, we, k⟩ => ⟨τ, M, _, Ed, hs, hr, q, we, fun ds M1 vs H1 q1 e1 r1 h1 =>
    ⟨by rw [r1.length]; exact q1.1, fun p hp => (k.mono e1).tup h1 r1 hp q1.2⟩⟩⟩
theorem pd_lst (h : PAD X W es t) : PD X W (.List es pos) (dLst t) :=
  ⟨PEimp (pe_lst h.run) fun σ H Q ⟨τ, M, Qd, Ed, hs, hr, q, we, k⟩ => ⟨τ, M, _, Ed, hs, hr, q, we, fun ds M1 vs H1 q1 e1 r1 h1 =>
    ⟨by rw [r1.length]; exact q1.1, fun p hp => (k.mono e1).lst h1 r1 hp q1.2⟩⟩⟩

/-! ### calls of what is built in -/
abbrev DG := List D → Mp → DK → Prop
def liftC (K : PySem.W.Frag) (g : DG) : List V → Hp → VK → Prop := fun xs H Q => ∃ ds M Qd, g ds M Qd ∧ RpL K H xs ds ∧ HR K H M ∧ KC K H Qd Q
def dCB (g : DG) (t : DA) : DE := fun τ M Q E => t τ M (fun ds M1 => g ds M1 Q) E
theorem dCB_lift {g : DG} {σ : St} {H : Hp} {Q : VK} (h : liftE X.K W (dCB g t) σ H Q) : tCB (liftC X.K g) (liftA X.K W t) σ H Q := by
  obtain ⟨τ, M, Qd, Ed, hs, hr, q, we, k⟩ := h
  exact ⟨τ, M, _, Ed, hs, hr, q, we, fun ds M1 vs H1 q1 e1 r1 h1 => ⟨ds, M1, Qd, q1, r1, h1, k.mono e1⟩⟩
theorem CallRimp {f : Value} {r r' : List V → Hp → VK → Prop} (h : CallR X f r) (i : ∀ xs H Q, r' xs H Q → r xs H Q) : CallR X f r' := fun pins s σ H xs us Q I rs q => h pins s σ H xs us Q I rs (i xs H Q q)
theorem pd_callB {id : String} {x : Str} {g : DG} (hc : CallR X (.builtin id) (liftC X.K g)) (hg : Gl X x) (hm : X.mg x = none) (hv : bootBuiltins x = some (.builtin id)) (ha : PAD X W (e :: es) t) (hn : x ≠ "__name__" := by decide) (hdb : (x == ("__debug__" : Str)) = false := by decide)
    (he : starEach (e :: es) X.env = (false, eval e X.env) :: starEach es X.env := by rfl) (hpl : (backTo pos (starEach es X.env)).any (·.1) = false := by rfl) :
    PD X W (.Call (.Name x p) (e :: es) [] pos) (dCB g t) := ⟨PEimp (pe_callB hc hg hm hv ha.run hn hdb he hpl) fun _ _ _ h => dCB_lift h⟩
theorem pd_callT {T : String} {x : Str} {g : DG} (hc : CallR X (.type T) (liftC X.K g)) (hg : Gl X x) (hm : X.mg x = none) (hv : bootBuiltins x = some (.type T)) (ha : PAD X W (e :: es) t) (hn : x ≠ "__name__" := by decide) (hdb : (x == ("__debug__" : Str)) = false := by decide)
    (he : starEach (e :: es) X.env = (false, eval e X.env) :: starEach es X.env := by rfl) (hpl : (backTo pos (starEach es X.env)).any (·.1) = false := by rfl) :
    PD X W (.Call (.Name x p) (e :: es) [] pos) (dCB g t) := ⟨PEimp (pe_callTy hc hg hm hv ha.run hn hdb he hpl) fun _ _ _ h => dCB_lift h⟩
theorem RpL.one {K : PySem.W.Frag} {H : Hp} {vs : List V} {d : D} (h : RpL K H vs [d]) : ∃ v, vs = [v] ∧ Rp K H v d := by
  cases h with
  | cons r l => cases l; exact ⟨_, rfl, r⟩
theorem RpL.two {K : PySem.W.Frag} {H : Hp} {vs : List V} {d d' : D} (h : RpL K H vs [d, d']) : ∃ v v', vs = [v, v'] ∧ Rp K H v d ∧ Rp K H v' d' := by
  cases h with
  | cons r l => obtain ⟨v, rfl, q⟩ := l.one; exact ⟨_, _, rfl, r, q⟩
/-- len -/
def lenD (d : D) (M : Mp) : Option Nat := match d with
  | .tup xs => some xs.length
  | .str x => if x.length ≤ sizeLine then some x.length else none
  | .ref a => match M a with
    | some (.lst xs) => some xs.length
    | some (.rol xs) => some xs.length
    | _ => none
  | _ => none
def lenG : DG := fun ds M Q => match ds with
  | [d] => match lenD d M with
    | some n => Q (.int n) M
    | none => False
  | _ => False
theorem HR.rol {K : PySem.W.Frag} {H : Hp} {M : Mp} {a : Addr} {ds : List D} (h : HR K H M) (e : M a = some (.rol ds)) : ∃ o xs, H a = some (.frz o (.lst xs)) ∧ RpL K H xs ds := h a _ e
/-- the items of a list that is read -/
def seqOf (M : Mp) (a : Addr) : Option (List D) := match M a with
  | some (.lst xs) => some xs
  | some (.rol xs) => some xs
  | _ => none
theorem seqOf_ok {K : PySem.W.Frag} {H : Hp} {M : Mp} {a : Addr} {ds : List D} (hr : HR K H M) (h : seqOf M a = some ds) : ∃ xs, SqL K H a xs ∧ RpL K H xs ds := by
  unfold seqOf at h
  cases e : M a with
  | none => rw [e] at h; cases h
  | some o =>
    rw [e] at h
    cases o with
    | lst xs => cases h; obtain ⟨vs, q, l⟩ := hr.lst e; exact ⟨vs, .of q, l⟩
    | rol xs => cases h; obtain ⟨o, vs, q, l⟩ := hr.rol e; exact ⟨vs, .inl (.inr ⟨o, q⟩), l⟩
    | dk xs => cases h
    | ins C xs => cases h
    | xd xs => cases h
    | rdk xs => cases h
    | xt xs => cases h
theorem lenD_ok {K : PySem.W.Frag} {H : Hp} {M : Mp} {v : V} {d : D} {n : Nat} (r : Rp K H v d) (hr : HR K H M) (h : lenD d M = some n) : LenV K v H n := by
  cases d with
  | tup xs =>
    obtain ⟨a, vs, rfl, s, l⟩ := r.toTup
    cases h
    exact .inr ⟨vs, s, l.length.symm⟩
  | str x =>
    cases r
    have h' : (if x.length ≤ sizeLine then some x.length else none) = some n := h
    by_cases c : x.length ≤ sizeLine
    · rw [if_pos c] at h'; cases h'; exact ⟨c, rfl⟩
    · rw [if_neg c] at h'; cases h'
  | ref a =>
    cases r
    have h' : (match M a with | some (.lst xs) => some xs.length | some (.rol xs) => some xs.length | _ => none) = some n := h
    have : ∃ ds, seqOf M a = some ds ∧ ds.length = n := by
      unfold seqOf
      cases e : M a with
      | none => rw [e] at h'; cases h'
      | some o => rw [e] at h'; cases o <;> first | (cases h'; exact ⟨_, rfl, rfl⟩) | cases h'
    obtain ⟨ds, e, rfl⟩ := this
    obtain ⟨xs, s, l⟩ := seqOf_ok hr e
    exact .inl ⟨xs, s, l.length.symm⟩
  | _ => cases h
theorem call_lenG : CallR X (.builtin "len") (liftC X.K lenG) := CallRimp call_len fun xs H Q ⟨ds, M, Qd, q, r, hr, k⟩ => by
  unfold lenG at q
  split at q
  · rename_i d
    obtain ⟨v, rfl, rv⟩ := r.one
    split at q
    · rename_i n e
      exact ⟨v, n, rfl, lenD_ok rv hr e, k _ M _ H q .refl (.int _) hr⟩
    · exact q.elim
  · exact q.elim
/-- int(n), int(flag) -/
def intG : DG := fun ds M Q => match ds with
  | [.int i] => Q (.int i) M
  | [.bl b] => Q (.int (if b then 1 else 0)) M
  | _ => False
theorem call_intG : CallR X (.type "int") (liftC X.K intG) := CallRimp call_int1 fun xs H Q ⟨ds, M, Qd, q, r, hr, k⟩ => by
  unfold intG at q
  split at q
  · obtain ⟨v, rfl, rv⟩ := r.one
    rw [rv.toInt]
    exact .inl ⟨_, rfl, k _ M _ H q .refl (.int _) hr⟩
  · obtain ⟨v, rfl, rv⟩ := r.one
    rw [rv.toBl]
    exact .inr ⟨_, rfl, k _ M _ H q .refl (.int _) hr⟩
  · exact q.elim
/-- tuple(..), list(..) -/
def tupG : DG := fun ds M Q => match ds with
  | [.tup xs] => Q (.tup xs) M
  | [.ref a] => match seqOf M a with
    | some xs => Q (.tup xs) M
    | none => False
  | _ => False
theorem call_tupG : CallR X (.type "tuple") (liftC X.K tupG) := CallRimp call_tuple_of fun xs H Q ⟨ds, M, Qd, q, r, hr, k⟩ => by
  unfold tupG at q
  split at q
  · obtain ⟨v, rfl, rv⟩ := r.one
    obtain ⟨a, vs, rfl, s, l⟩ := rv.toTup
    exact ⟨a, vs, rfl, .inr ⟨s, k _ M _ H q .refl (.tup s l) hr⟩⟩
  · obtain ⟨v, rfl, rv⟩ := r.one
    rw [rv.toRef]
    split at q
    · rename_i xs e
      obtain ⟨vs, s, l⟩ := seqOf_ok hr e
      exact ⟨_, vs, rfl, .inl ⟨s, fun p hp => k.tup hr l hp q⟩⟩
    · exact q.elim
  · exact q.elim
def lstG : DG := fun ds M Q => match ds with
  | [.tup xs] => ∀ p, M p = none → Q (.ref p) (put M p (.lst xs))
  | [.ref a] => match seqOf M a with
    | some xs => ∀ p, M p = none → Q (.ref p) (put M p (.lst xs))
    | none => False
  | _ => False
theorem call_lstG : CallR X (.type "list") (liftC X.K lstG) := CallRimp call_list_of fun xs H Q ⟨ds, M, Qd, q, r, hr, k⟩ => by
  unfold lstG at q
  split at q
  · obtain ⟨v, rfl, rv⟩ := r.one
    obtain ⟨a, vs, rfl, s, l⟩ := rv.toTup
    exact ⟨a, vs, rfl, .inr s, fun p hp => k.lst hr l hp q⟩
  · obtain ⟨v, rfl, rv⟩ := r.one
    rw [rv.toRef]
    split at q
    · rename_i xs e
      obtain ⟨vs, s, l⟩ := seqOf_ok hr e
      exact ⟨_, vs, rfl, .inl s, fun p hp => k.lst hr l hp q⟩
    · exact q.elim
  · exact q.elim
/-- all, any of a list of bools -/
def blsOf : List D → Option (List Bool)
  | [] => some []
  | .bl b :: ds => (blsOf ds).map (b :: ·)
  | _ :: _ => none
theorem blsOf_map : ∀ bs : List Bool, blsOf (bs.map D.bl) = some bs
  | [] => rfl
  | b :: bs => by simp [blsOf, blsOf_map bs]
theorem blsOf_ok : ∀ {ds : List D} {bs : List Bool}, blsOf ds = some bs → ds = bs.map D.bl
  | [], bs, h => by cases h; rfl
  | d :: ds, bs, h => by
    cases d with
    | bl b =>
      have h' : (blsOf ds).map (b :: ·) = some bs := h
      cases e : blsOf ds with
      | none => rw [e] at h'; cases h'
      | some cs => rw [e] at h'; cases h'; rw [blsOf_ok e]; rfl
    | _ => cases h
def allG (f : List Bool → Bool) : DG := fun ds M Q => match ds with
  | [.ref a] => match (seqOf M a).bind blsOf with
    | some bs => Q (.bl (f bs)) M
    | none => False
  | _ => False
theorem allG_of {id : String} {f : List Bool → Bool} (h : CallR X (.builtin id) fun vs H Q => ∃ (a : Addr) (bs : List Bool), vs = [V.ref a] ∧ SqL X.K H a (bs.map V.bl) ∧ Q (.bl (f bs)) H) : CallR X (.builtin id) (liftC X.K (allG f)) := CallRimp h fun xs H Q ⟨ds, M, Qd, q, r, hr, k⟩ => by
  unfold allG at q
  split at q
  · obtain ⟨v, rfl, rv⟩ := r.one
    rw [rv.toRef]
    split at q
    · rename_i bs e
      obtain ⟨ds, e1, e2⟩ := Option.bind_eq_some_iff.mp e
      obtain ⟨vs, s, l⟩ := seqOf_ok hr e1
      have e3 := blsOf_ok e2
      subst e3
      exact ⟨_, bs, rfl, by rw [← l.bls]; exact s, k _ M _ H q .refl (.bl _) hr⟩
    · exact q.elim
  · exact q.elim
theorem call_allG (hc : X.calm = true) : CallR X (.builtin "all") (liftC X.K (allG fun bs => bs.all id)) := allG_of (cr_all hc)
theorem call_anyG (hc : X.calm = true) : CallR X (.builtin "any") (liftC X.K (allG fun bs => bs.any id)) := allG_of (cr_any hc)
/-- max, min of two ints -/
def mmG (f : Int → Int → Int) : DG := fun ds M Q => match ds with
  | [.int i, .int j] => Q (.int (f i j)) M
  | _ => False
theorem call_maxG (hc : X.calm = true) : CallR X (.builtin "max") (liftC X.K (mmG fun i j => if j > i then j else i)) := CallRimp (call_max2 hc) fun xs H Q ⟨ds, M, Qd, q, r, hr, k⟩ => by
  unfold mmG at q
  split at q
  · obtain ⟨v, v', rfl, rv, rv'⟩ := r.two
    rw [rv.toInt, rv'.toInt]
    exact ⟨_, _, rfl, k _ M _ H q .refl (.int _) hr⟩
  · exact q.elim
theorem call_minG (hc : X.calm = true) : CallR X (.builtin "min") (liftC X.K (mmG fun i j => if j < i then j else i)) := CallRimp (call_min2 hc) fun xs H Q ⟨ds, M, Qd, q, r, hr, k⟩ => by
  unfold mmG at q
  split at q
  · obtain ⟨v, v', rfl, rv, rv'⟩ := r.two
    rw [rv.toInt, rv'.toInt]
    exact ⟨_, _, rfl, k _ M _ H q .refl (.int _) hr⟩
  · exact q.elim

/-! ### isinstance -/
/-- what the written part says of a class whose instances are asked -/
structure InsK (K : PySem.W.Frag) (C : Addr) : Prop where
  cl : Cls K C
  ha : PySem.W.findIn K (.ref C) "__class__" = some (some (.builtin "object.__class__"))
  hn : PySem.W.specialIn K (.builtin "object.__class__") "__get__" = some (some (.builtin "getset_descriptor.__get__"))
  htk : PySem.W.takesIn K (.builtin "object.__class__") = some true
  hm : PySem.W.mroIn K C (.type "object") = some true
def tyName (d : D) (M : Mp) : Option String := match d with
  | .non => some "NoneType"
  | .bl _ => some "bool"
  | .int _ => some "int"
  | .str _ => some "str"
  | .tup _ => some "tuple"
  | .ref a => match M a with
    | some (.lst _) => some "list"
    | some (.rol _) => some "list"
    | some (.dk _) => some "dict"
    | _ => none
  | .ty _ => none
def clsOf (d : D) (M : Mp) : Option Addr := match d with
  | .ref a => match M a with
    | some (.ins C _) => some C
    | _ => none
  | _ => none
theorem tyName_ok {K : PySem.W.Frag} {H : Hp} {M : Mp} {v : V} {d : D} {n : String} (r : Rp K H v d) (hr : HR K H M) (h : tyName d M = some n) : TyX K H v (.type n) := by
  cases d with
  | non => cases r; cases h; exact .base .non
  | bl b => cases r; cases h; exact .base (.bl b)
  | int b => cases r; cases h; exact .base (.int b)
  | str b => cases r; cases h; exact .base (.str b)
  | tup xs =>
    obtain ⟨a, vs, rfl, s, l⟩ := r.toTup
    cases h
    rcases s with (s | ⟨o, s⟩) | ⟨o, its, m, s, c, _⟩
    · exact .base (.tup s)
    · exact .fTuple s
    · exact .kTuple s c
  | ref a =>
    cases r
    have h' : (match M a with | some (.lst _) => some "list" | some (.rol _) => some "list" | some (.dk _) => some "dict" | _ => none) = some n := h
    cases e : M a with
    | none => rw [e] at h'; cases h'
    | some o =>
      rw [e] at h'
      cases o with
      | lst xs => cases h'; obtain ⟨vs, q, _⟩ := hr.lst e; exact .base (.lst q)
      | rol xs => cases h'; obtain ⟨o, vs, q, _⟩ := hr.rol e; exact .base (.frz q)
      | dk xs => cases h'; obtain ⟨vs, q, _⟩ := hr.dk e; exact .base (.dK q)
      | ins C xs => cases h'
      | xd xs => cases h'
      | rdk xs => cases h'
      | xt xs => cases h'
  | ty n => cases h
theorem clsOf_ok {K : PySem.W.Frag} {H : Hp} {M : Mp} {v : V} {d : D} {C : Addr} (r : Rp K H v d) (hr : HR K H M) (h : clsOf d M = some C) (i : InsK K C) : TyX K H v (.ref C) := by
  cases d with
  | ref a =>
    cases r
    have h' : (match M a with | some (.ins C _) => some C | _ => none) = some C := h
    cases e : M a with
    | none => rw [e] at h'; cases h'
    | some o =>
      rw [e] at h'
      cases o with
      | ins C' xs => cases h'; obtain ⟨dx, vs, q, _⟩ := hr.ins e; exact .base (.ins q i.cl i.ha i.hn i.htk i.hm)
      | _ => cases h'
  | _ => cases h
def isB (a b : String) : Bool := decide (a = b) || (decide (a = "bool") && decide (b = "int"))
theorem kit_isB {a b : String} (ha : a ∈ ["NoneType", "bool", "int", "str", "tuple", "list", "dict"]) (hb : b ∈ ["bool", "int", "str", "tuple", "list", "dict"]) : kitB a b = some (isB a b) := by
  simp only [List.mem_cons, List.not_mem_nil, or_false] at ha hb
  rcases ha with rfl | rfl | rfl | rfl | rfl | rfl | rfl <;> rcases hb with rfl | rfl | rfl | rfl | rfl | rfl <;> decide +kernel
theorem tyName_mem {d : D} {M : Mp} {n : String} (h : tyName d M = some n) : n ∈ ["NoneType", "bool", "int", "str", "tuple", "list", "dict"] := by
  cases d with
  | ref a =>
    have h' : (match M a with | some (.lst _) => some "list" | some (.rol _) => some "list" | some (.dk _) => some "dict" | _ => none) = some n := h
    cases e : M a with
    | none => rw [e] at h'; cases h'
    | some o => rw [e] at h'; cases o <;> first | (cases h'; simp) | cases h'
  | ty n => cases h
  | _ => cases h; simp
def isiG (K : PySem.W.Frag) : DG := fun ds M Q => match ds with
  | [x, .ty b] => b ∈ ["bool", "int", "str", "tuple", "list", "dict"] ∧ match tyName x M with
    | some a => Q (.bl (isB a b)) M
    | none => ∃ C, clsOf x M = some C ∧ InsK K C ∧ PySem.W.kitOne K (.ref C) (.type b) = some false ∧ Q (.bl false) M
  | [x, .ref C'] => match tyName x M with
    | some a => PySem.W.kitOne K (.type a) (.ref C') = some false ∧ Q (.bl false) M
    | none => ∃ C r, clsOf x M = some C ∧ InsK K C ∧ PySem.W.kitOne K (.ref C) (.ref C') = some r ∧ Q (.bl r) M
  | _ => False
theorem call_isiG : CallR X (.builtin "isinstance") (liftC X.K (isiG X.K)) := CallRimp call_isi fun xs H Q ⟨ds, M, Qd, q, r, hr, k⟩ => by
  unfold isiG at q
  split at q
  · rename_i x b
    obtain ⟨v, v', rfl, rv, rv'⟩ := r.two
    rw [rv'.toTy]
    obtain ⟨hb, q⟩ := q
    split at q
    · rename_i a ea
      exact ⟨v, _, _, _, _, rfl, .ty b, tyName_ok rv hr ea, kit_ty (kit_isB (tyName_mem ea) hb), k _ M _ H q .refl (.bl _) hr⟩
    · obtain ⟨C, ec, i, kk, q⟩ := q
      exact ⟨v, _, _, _, _, rfl, .ty b, clsOf_ok rv hr ec i, kk, k _ M _ H q .refl (.bl _) hr⟩
  · rename_i x C'
    obtain ⟨v, v', rfl, rv, rv'⟩ := r.two
    rw [rv'.toRef]
    split at q
    · rename_i a ea
      exact ⟨v, _, _, _, _, rfl, .own C', tyName_ok rv hr ea, q.1, k _ M _ H q.2 .refl (.bl _) hr⟩
    · obtain ⟨C, r, ec, i, kk, q⟩ := q
      exact ⟨v, _, _, _, _, rfl, .own C', clsOf_ok rv hr ec i, kk, k _ M _ H q .refl (.bl _) hr⟩
  · exact q.elim

/-! ### subscripts, slices, attributes -/
def ixG : DO := fun x y M Q => match x, y with
  | .tup xs, .int i => match atI xs i with
    | some d => Q d M
    | none => False
  | .ref a, .int i => match (seqOf M a).bind (atI · i) with
    | some d => Q d M
    | none => False
  | .str z, .int i => z.length ≤ sizeLine ∧ match atI z.cps.toList i with
    | some c => Q (.str ⟨#[c]⟩) M
    | none => False
  | _, _ => False
theorem RpL.atI {K : PySem.W.Frag} {H : Hp} {xs : List V} {ds : List D} {i : Int} {d : D} (l : RpL K H xs ds) (h : L2.atI ds i = some d) : ∃ v, L2.atI xs i = some v ∧ Rp K H v d := by
  unfold L2.atI at h ⊢
  rw [l.length]
  obtain ⟨j, e1, e2⟩ := Option.bind_eq_some_iff.mp h
  obtain ⟨v, e3, r⟩ := l.get e2
  exact ⟨v, by rw [e1]; exact e3, r⟩
theorem IxRimp {r r' : R2} (h : IxR X r) (i : ∀ x y H Q, r' x y H Q → r x y H Q) : IxR X r' := fun value slice pins s σ H x y v u Q I rx ry q hs => h value slice pins s σ H x y v u Q I rx ry (i x y H Q q) hs
theorem ix_G : IxR X (liftO X.K ixG) := IxRimp ix_seq fun x y H Q ⟨dx, dy, M, Qd, q, a, b, c, k⟩ => by
  unfold ixG at q
  split at q
  · obtain ⟨p, vs, rfl, s, l⟩ := a.toTup
    split at q
    · rename_i d e
      obtain ⟨v, ev, rv⟩ := l.atI e
      exact .inr (.inl ⟨p, vs, _, v, rfl, b.toInt, s, ev, k _ M _ H q .refl rv c⟩)
    · exact q.elim
  · split at q
    · rename_i d e
      obtain ⟨xs, e1, e2⟩ := Option.bind_eq_some_iff.mp e
      obtain ⟨vs, s, l⟩ := seqOf_ok c e1
      obtain ⟨v, ev, rv⟩ := l.atI e2
      exact .inl ⟨_, vs, _, v, a.toRef, b.toInt, s, ev, k _ M _ H q .refl rv c⟩
    · exact q.elim
  · obtain ⟨hz, q⟩ := q
    split at q
    · rename_i d e
      exact .inr (.inr ⟨_, _, _, a.toStr, b.toInt, hz, e, k _ M _ H q .refl (.str _) c⟩)
    · exact q.elim
  · exact q.elim
theorem pd_ix {g : DO} (hg : IxR X (liftO X.K g)) (ha : PD X W a ta) (hb : PD X W b tb) (hs : PlainIx b) : PD X W (.Subscript a b pos) (dOp g ta tb) :=
  ⟨PEimp (pe_ix hg ha.run hb.run hs) fun _ _ _ h => dOp_lift h⟩
/-- a slice's part -/
abbrev DP := Sl → Mp → (Option Int → Mp → Prop) → EK → Prop
def liftP (K : PySem.W.Frag) (W : DW) (t : DP) : TO := fun σ H Q => ∃ τ M Qd Ed, RS K W.h0 H σ τ ∧ HR K H M ∧ t τ M Qd Ed ∧ (∀ x M', Ed x M' → W.w x τ M') ∧ (∀ b M' H', Qd b M' → TExt K H H' → HR K H' M' → Q b H')
structure POD (X : Cx) (W : DW) (e : Option Expr) (t : DP) : Prop where
  run : PO X e (liftP X.K W t)
def dNoP : DP := fun _ M Q _ => Q none M
def dPart (t : DE) : DP := fun τ M Q E => t τ M (fun d M1 => match d with | .int i => Q (some i) M1 | _ => False) E
theorem POimp {e : Option Expr} {t t' : TO} (h : PO X e t) (i : ∀ σ H Q, t' σ H Q → t σ H Q) : PO X e t' := ⟨fun pins s σ H Q I q => h.run pins s σ H Q I (i σ H Q q)⟩
theorem pod_none : POD X W none dNoP := ⟨POimp po_none fun σ H Q ⟨τ, M, Qd, Ed, hs, hr, q, we, k⟩ => k none M H q .refl hr⟩
theorem pod_some (h : PD X W e te) : POD X W (some e) (dPart te) := ⟨POimp (po_some h.run) fun σ H Q ⟨τ, M, Qd, Ed, hs, hr, q, we, k⟩ => ⟨τ, M, _, Ed, hs, hr, q, we, fun d M1 v H1 q1 e1 r1 h1 => by
  dsimp only at q1
  split at q1
  · exact ⟨_, r1.toInt, k _ M1 H1 q1 e1 h1⟩
  · exact q1.elim⟩⟩
def cutD (xs : List D) (lo hi : Option Int) : List D := (xs.drop (HT.sIx xs.length 0 lo)).take (HT.sIx xs.length xs.length hi - HT.sIx xs.length 0 lo)
theorem RpL.cut {K : PySem.W.Frag} {H : Hp} {xs : List V} {ds : List D} {lo hi : Option Int} (l : RpL K H xs ds) : RpL K H (cutV xs lo hi) (cutD ds lo hi) := by
  unfold cutV cutD
  rw [l.length]
  exact (l.drop _).take _
def slG (x : D) (lo hi : Option Int) (M : Mp) (Q : DK) : Prop := match x with
  | .tup xs => Q (.tup (cutD xs lo hi)) M
  | .ref a => match seqOf M a with
    | some xs => ∀ p, M p = none → Q (.ref p) (put M p (.lst (cutD xs lo hi)))
    | none => False
  | .str z => z.length ≤ sizeLine ∧ Q (.str (cutS z lo hi)) M
  | _ => False
theorem sIx_whole {n : Nat} {lo hi : Option Int} {xs : List D} (hn : xs.length = n) (h : HT.sIx n 0 lo = 0 ∧ HT.sIx n n hi = n) : cutD xs lo hi = xs := by
  unfold cutD
  rw [hn, h.1, h.2, ← hn]
  simp
def dSl (te : DE) (tl th : DP) : DE := fun τ M Q E => te τ M (fun x M1 => tl τ M1 (fun lo M2 => th τ M2 (fun hi M3 => slG x lo hi M3 Q) E) E) E
def liftSl (K : PySem.W.Frag) : V → Option Int → Option Int → Hp → VK → Prop := fun x lo hi H Q => ∃ d M Qd, slG d lo hi M Qd ∧ Rp K H x d ∧ HR K H M ∧ KC K H Qd Q
theorem sl_G : SlR X (liftSl X.K) := by
  have h := (sl_tupA (X := X)).or ((sl_list (X := X)).or (sl_str (X := X)))
  intro pins s σ H x v vl vu lo hi sl Q I rx hs pl pu ⟨d, M, Qd, q, r, hr, k⟩
  refine h pins s σ H x v vl vu lo hi sl Q I rx hs pl pu ?_
  unfold slG at q
  split at q
  · obtain ⟨p, vs, rfl, s, l⟩ := r.toTup
    refine .inl ⟨p, vs, rfl, s, fun hw => ?_, fun _ p hp => k.tup hr l.cut hp q⟩
    rw [sIx_whole l.length.symm hw] at q
    exact k _ M _ H q .refl (.tup s l) hr
  · split at q
    · rename_i xs e
      obtain ⟨vs, s, l⟩ := seqOf_ok hr e
      exact .inr (.inl ⟨_, vs, r.toRef, s, fun p hp => k.lst hr l.cut hp q⟩)
    · exact q.elim
  · exact .inr (.inr ⟨_, r.toStr, q.1, k _ M _ H q.2 .refl (.str _) hr⟩)
  · exact q.elim
theorem pd_slice {lo hi : Option Expr} {tl th : DP} {p2 : Pos} (he : PD X W e te) (hl : POD X W lo tl) (hh : POD X W hi th) : PD X W (.Subscript e (.Slice lo hi none p2) pos) (dSl te tl th) :=
  ⟨PEimp (pe_slice sl_G he.run hl.run hh.run) fun σ H Q ⟨τ, M, Qd, Ed, hs, hr, q, we, k⟩ => ⟨τ, M, _, Ed, hs, hr, q, we, fun x M1 v H1 q1 e1 r1 h1 =>
    ⟨τ, M1, _, Ed, hs.mono e1, h1, q1, we, fun lo M2 H2 q2 e2 h2 => ⟨τ, M2, _, Ed, hs.mono (e1.trans e2), h2, q2, we, fun hi M3 H3 q3 e3 h3 =>
      ⟨x, M3, Qd, q3, r1.mono (e2.trans e3), h3, k.mono (e1.trans (e2.trans e3))⟩⟩⟩⟩⟩
/-- an attribute of an instance -/
def FldK (K : PySem.W.Frag) (C : Addr) (f : Str) : Prop := Cls K C ∧ NoAttr K C f
def dFld (K : PySem.W.Frag) (te : DE) (f : Str) : DE := fun τ M Q E => te τ M (fun d M1 => match d with
  | .ref a => match M1 a with
    | some (.ins C fs) => FldK K C f ∧ match fs.lookup f with
      | some v => Q v M1
      | none => False
    | _ => False
  | _ => False) E
theorem FD.look {K : PySem.W.Frag} {H : Hp} {f : Str} : ∀ {vs : List (Str × V)} {fs : List (Str × D)}, FD K H vs fs → ∀ {d : D}, fs.lookup f = some d → ∃ v, vs.lookup f = some v ∧ Rp K H v d
  | [], [], _, d, h => by cases h
  | p :: ps, q :: qs, ⟨e, r, l⟩, d, h => by
    obtain ⟨p1, p2⟩ := p
    obtain ⟨q1, q2⟩ := q
    simp only at e r
    subst e
    by_cases c : (f == p1) = true
    · rw [List.lookup_cons, c] at h ⊢
      cases h
      exact ⟨p2, rfl, r⟩
    · have c' : (f == p1) = false := by simpa using c
      rw [List.lookup_cons, c'] at h ⊢
      exact FD.look l h
  | [], _ :: _, h, _, _ => h.elim
  | _ :: _, [], h, _, _ => h.elim
theorem pd_fld {f : Str} (he : PD X W e te) (hb : attributeBase e f X.env (eval e X.env) = eval e X.env := by rfl) : PD X W (.Attribute e f pos) (dFld X.K te f) :=
  ⟨PEimp (pe_fld he.run hb) fun σ H Q ⟨τ, M, Qd, Ed, hs, hr, q, we, k⟩ => ⟨τ, M, _, Ed, hs, hr, q, we, fun d M1 v H1 q1 e1 r1 h1 => by
    dsimp only at q1
    split at q1
    · rename_i a
      split at q1
      · rename_i C fs ea
        obtain ⟨⟨c, n⟩, q1⟩ := q1
        split at q1
        · rename_i y ey
          obtain ⟨dx, vs, hv, fd⟩ := h1.ins ea
          obtain ⟨w, ew, rw'⟩ := fd.look ey
          exact ⟨a, C, dx, vs, w, r1.toRef, hv, c, n, ew, k _ M1 _ H1 q1 e1 rw' h1⟩
        · exact q1.elim
      · exact q1.elim
    · exact q1.elim⟩⟩
end
end DL

set_option maxHeartbeats 4000000
namespace DL
open PySem L2

/-! ### statements -/
section
variable {X : Cx} {W : DW} {e : Expr} {st : Stmt} {rest : List Stmt} {t u : DS} {te : DE} {pos : Pos}
def dNext : DS := fun Dn τ M => Dn.nx τ M
def dSeq (t u : DS) : DS := fun Dn τ M => t { Dn with nx := u Dn } τ M
theorem pssd_nil : PSsD X W [] dNext := ⟨PSsimp pss_nil fun De σ H ⟨τ, M, Dd, hs, hr, q, we, nc⟩ => nc.nx τ M σ H q .refl hs hr⟩
theorem pssd_cons (h1 : PSD X W st t) (h2 : PSsD X W rest u) : PSsD X W (st :: rest) (dSeq t u) :=
  ⟨PSsimp (pss_cons h1.run h2.run) fun De σ H ⟨τ, M, Dd, hs, hr, q, we, nc⟩ => ⟨τ, M, _, hs, hr, q, we,
    ⟨fun τ' M' σ' H' q' e' hs' hr' => ⟨τ', M', Dd, hs', hr', q', we, nc.mono e'⟩, nc.rt, nc.bk, nc.ct⟩⟩⟩
theorem pssd_one (h1 : PSD X W st t) : PSsD X W [st] t := ⟨PSsimp (pss_one h1.run) fun De σ H h => h⟩
def dBreak : DS := fun Dn τ M => Dn.bk τ M
def dCont : DS := fun Dn τ M => Dn.ct τ M
theorem psd_pass : PSD X W (.Pass pos) dNext := ⟨PSimp ps_pass fun De σ H ⟨τ, M, Dd, hs, hr, q, we, nc⟩ => nc.nx τ M σ H q .refl hs hr⟩
theorem psd_break : PSD X W (.Break pos) dBreak := ⟨PSimp ps_break fun De σ H ⟨τ, M, Dd, hs, hr, q, we, nc⟩ => nc.bk τ M σ H q .refl hs hr⟩
theorem psd_cont : PSD X W (.Continue pos) dCont := ⟨PSimp ps_continue fun De σ H ⟨τ, M, Dd, hs, hr, q, we, nc⟩ => nc.ct τ M σ H q .refl hs hr⟩
/-- what an expression lets out -/
abbrev exOf (Dn : DN) (τ : Sl) : EK := fun x M => Dn.ex x τ M
def dDrop (te : DE) : DS := fun Dn τ M => te τ M (fun _ M1 => Dn.nx τ M1) (exOf Dn τ)
theorem psd_expr (he : PD X W e te) (hs : swapsWith e none pos.line X.env = pure false := by rfl) : PSD X W (.Expr e pos) (dDrop te) :=
  ⟨PSimp (ps_expr he.run hs) fun De σ H ⟨τ, M, Dd, hs, hr, q, we, nc⟩ => ⟨τ, M, _, _, hs, hr, q, fun x M' h => we x τ M' h, fun d M1 v H1 q1 e1 r1 h1 => nc.nx τ M1 σ H1 q1 e1 (hs.mono e1) h1⟩⟩
def dRet (te : DE) : DS := fun Dn τ M => te τ M Dn.rt (exOf Dn τ)
theorem psd_ret (he : PD X W e te) : PSD X W (.Return (some e) pos) (dRet te) :=
  ⟨PSimp (ps_ret he.run) fun De σ H ⟨τ, M, Dd, hs, hr, q, we, nc⟩ => ⟨τ, M, _, _, hs, hr, q, fun x M' h => we x τ M' h, fun d M1 v H1 q1 e1 r1 h1 => nc.rt d M1 v H1 q1 e1 r1 h1⟩⟩
def dRetN : DS := fun Dn τ M => Dn.rt .non M
theorem psd_retN : PSD X W (.Return none pos) dRetN := ⟨PSimp ps_retN fun De σ H ⟨τ, M, Dd, hs, hr, q, we, nc⟩ => nc.rt .non M .non H q .refl .non hr⟩
def dIfS (c : DT) (t u : DS) : DS := fun Dn τ M => c τ M (fun b M1 => if b = true then t Dn τ M1 else u Dn τ M1) (exOf Dn τ)
theorem psd_if {c : Expr} {a b : List Stmt} {tc : DT} (hc : PTD X W c tc) (ha : PSsD X W a t) (hb : PSsD X W b u) : PSD X W (.If c a b pos) (dIfS tc t u) :=
  ⟨PSimp (ps_if hc.run ha.run hb.run) fun De σ H ⟨τ, M, Dd, hs, hr, q, we, nc⟩ => ⟨τ, M, _, _, hs, hr, q, fun x M' h => we x τ M' h, fun b M1 H1 q1 e1 h1 => by
    cases b with
    | true => exact ⟨τ, M1, Dd, hs.mono e1, h1, (by simpa using q1), we, nc.mono e1⟩
    | false => exact ⟨τ, M1, Dd, hs.mono e1, h1, (by simpa using q1), we, nc.mono e1⟩⟩⟩
def dNever : DS := fun _ _ _ => False
theorem psd_never : PSD X W st dNever := ⟨PSimp ps_never fun De σ H ⟨_, _, _, _, _, q, _⟩ => q⟩
/-- e if c else e' -/
def dIfE (c : DT) (t u : DE) : DE := fun τ M Q E => c τ M (fun b M1 => if b = true then t τ M1 Q E else u τ M1 Q E) E
theorem pd_ifE {c a b : Expr} {tc : DT} {ta tb : DE} (hc : PTD X W c tc) (ha : PD X W a ta) (hb : PD X W b tb) : PD X W (.IfExp c a b pos) (dIfE tc ta tb) :=
  ⟨PEimp (pe_ifExp hc.run ha.run hb.run) fun σ H Q ⟨τ, M, Qd, Ed, hs, hr, q, we, k⟩ => ⟨τ, M, _, Ed, hs, hr, q, we, fun b M1 H1 q1 e1 h1 => by
    cases b with
    | true => exact ⟨τ, M1, Qd, Ed, hs.mono e1, h1, (by simpa using q1), we, k.mono e1⟩
    | false => exact ⟨τ, M1, Qd, Ed, hs.mono e1, h1, (by simpa using q1), we, k.mono e1⟩⟩⟩
end

/-! ### targets -/
abbrev DGt := D → Sl → Mp → (Sl → Mp → Prop) → Prop
abbrev DGs := List D → Sl → Mp → (Sl → Mp → Prop) → Prop
section
variable (K : PySem.W.Frag)
def liftG (H0 : Hp) (g : DGt) : TG := fun v σ H Q => ∃ d τ M Qd, Rp K H v d ∧ RS K H0 H σ τ ∧ HR K H M ∧ g d τ M Qd ∧ ∀ τ' M' σ' H', Qd τ' M' → TExt K H H' → RS K H0 H' σ' τ' → HR K H' M' → Q σ' H'
def liftGs (H0 : Hp) (g : DGs) : TGs := fun vs σ H Q => ∃ ds τ M Qd, RpL K H vs ds ∧ RS K H0 H σ τ ∧ HR K H M ∧ g ds τ M Qd ∧ ∀ τ' M' σ' H', Qd τ' M' → TExt K H H' → RS K H0 H' σ' τ' → HR K H' M' → Q σ' H'
end
section
variable {X : Cx} {W : DW} {pos : Pos}
structure PGD (X : Cx) (H0 : Hp) (tg : Expr) (g : DGt) : Prop where
  run : PG X tg (liftG X.K H0 g)
structure PGsD (X : Cx) (H0 : Hp) (tg : List Expr) (g : DGs) : Prop where
  run : PGs X tg (liftGs X.K H0 g)
theorem PGimp {tg : Expr} {t t' : TG} (h : PG X tg t) (i : ∀ v σ H Q, t' v σ H Q → t v σ H Q) : PG X tg t' := ⟨fun pins s σ H v u Q I r q => h.run pins s σ H v u Q I r (i v σ H Q q)⟩
theorem PGsimp {tg : List Expr} {t t' : TGs} (h : PGs X tg t) (i : ∀ v σ H Q, t' v σ H Q → t v σ H Q) : PGs X tg t' := ⟨fun pins s σ H v u Q I r q => h.run pins s σ H v u Q I r (i v σ H Q q)⟩
def dName (i : Nat) : DGt := fun d τ M Q => Q (τ.set i (some d)) M
theorem pgd_name {H0 : Hp} {i : Nat} {tg : Expr} (h : PG X tg (gName i)) : PGD X H0 tg (dName i) := ⟨PGimp h fun v σ H Q ⟨d, τ, M, Qd, r, hs, hr, q, k⟩ => k _ M _ H q .refl (hs.set r) hr⟩
def dGNil : DGs := fun ds τ M Q => match ds with | [] => Q τ M | _ => False
def dGCons (g : DGt) (gs : DGs) : DGs := fun ds τ M Q => match ds with | d :: r => g d τ M (fun τ1 M1 => gs r τ1 M1 Q) | [] => False
theorem pgsd_nil {H0 : Hp} : PGsD X H0 [] dGNil := ⟨PGsimp pgs_nil fun vs σ H Q ⟨ds, τ, M, Qd, r, hs, hr, q, k⟩ => by
  unfold dGNil at q
  split at q
  · exact ⟨r.nil_of, k τ M σ H q .refl hs hr⟩
  · exact q.elim⟩
theorem pgsd_cons {H0 : Hp} {e : Expr} {es : List Expr} {g : DGt} {gs : DGs} (h1 : PGD X H0 e g) (h2 : PGsD X H0 es gs)
    (hs : (assignEach (e :: es) X.env).map (·.2) = assign e X.env :: (assignEach es X.env).map (·.2) := by rfl) : PGsD X H0 (e :: es) (dGCons g gs) := ⟨PGsimp (pgs_cons h1.run h2.run hs) fun vs σ H Q ⟨ds, τ, M, Qd, r, hs, hr, q, k⟩ => by
  unfold dGCons at q
  split at q
  · rename_i d dr
    cases r with
    | cons rv rl =>
      refine ⟨_, _, rfl, d, τ, M, _, rv, hs, hr, q, fun τ1 M1 σ1 H1 q1 e1 hs1 hr1 => ?_⟩
      exact ⟨dr, τ1, M1, Qd, rl.mono e1, hs1, hr1, q1, fun τ2 M2 σ2 H2 q2 e2 => k τ2 M2 σ2 H2 q2 (e1.trans e2)⟩
  · exact q.elim⟩
/-- a tuple or a list taken apart -/
def dGTup (n : Nat) (gs : DGs) : DGt := fun d τ M Q => match d with
  | .tup ds => ds.length = n ∧ gs ds τ M Q
  | .ref a => match seqOf M a with
    | some ds => ds.length = n ∧ gs ds τ M Q
    | none => False
  | _ => False
theorem PGor {tg : Expr} {t t' : TG} (h : PG X tg t) (h' : PG X tg t') : PG X tg (fun v σ H Q => t v σ H Q ∨ t' v σ H Q) := ⟨fun pins s σ H v u Q I r q => q.elim (fun z => h.run pins s σ H v u Q I r z) fun z => h'.run pins s σ H v u Q I r z⟩
theorem pgd_tup {H0 : Hp} {es : List Expr} {k : Nat} {gs : DGs} {n : Nat} (hc : X.calm = true) (h : PGsD X H0 es gs)
    (hn : (assignEach es X.env).length = n := by rfl) (hst : (assignEach es X.env).findIdx? (·.1) = none := by rfl) : PGD X H0 (.Tuple es k pos) (dGTup n gs) :=
  ⟨PGimp (PGor (pg_tup hc h.run hn hst) (pg_lst hc h.run hn hst)) fun v σ H Q ⟨d, τ, M, Qd, r, hs, hr, q, k⟩ => by
    unfold dGTup at q
    split at q
    · obtain ⟨a, vs, rfl, s, l⟩ := r.toTup
      exact .inl ⟨a, vs, rfl, s, by rw [l.length]; exact q.1, _, τ, M, Qd, l, hs, hr, q.2, k⟩
    · split at q
      · rename_i ds e
        obtain ⟨vs, s, l⟩ := seqOf_ok hr e
        exact .inr ⟨_, vs, r.toRef, s, by rw [l.length]; exact q.1, _, τ, M, Qd, l, hs, hr, q.2, k⟩
      · exact q.elim
    · exact q.elim⟩
/-- o[i] = .. of a list -/
def dGSub (to ti : DE) : DGt := fun v τ M Q => to τ M (fun o M1 => ti τ M1 (fun i M2 => match o, i with
  | .ref a, .int k => match M2 a with
    | some (.lst xs) => match ixN xs.length k with
      | some j => Q τ (put M2 a (.lst (xs.set j v)))
      | none => False
    | _ => False
  | _, _ => False) fun _ _ => False) fun _ _ => False
theorem pgd_sub {o i : Expr} {to ti : DE} (ho : PD X W o to) (hi : PD X W i ti)
    (ha : ∀ v, assign (.Subscript o i pos) X.env v = (do
      let ov ← holding [v] (eval o X.env)
      let iv ← holding [v, ov] (eval i X.env)
      standAt pos
      holding [v, ov, iv] (setItem ov iv v)
      release [v, ov, iv] []) := by intro _; rfl) : PGD X W.h0 (.Subscript o i pos) (dGSub to ti) :=
  ⟨PGimp (pg_sub ho.run hi.run set_list ha) fun v σ H Q ⟨d, τ, M, Qd, r, hs, hr, q, k⟩ => ⟨τ, M, _, _, hs, hr, q, fun _ _ z => z.elim, fun od M1 ov H1 q1 e1 r1 h1 =>
    ⟨τ, M1, _, _, hs.mono e1, h1, q1, fun _ _ z => z.elim, fun id M2 iv H2 q2 e2 r2 h2 => by
      dsimp only at q2
      split at q2
      · rename_i a kk
        split at q2
        · rename_i xs ea
          split at q2
          · rename_i j ej
            obtain ⟨vs, hv, l⟩ := h2.lst ea
            have e3 : TExt X.K H2 (upd H2 a (.lst (vs.set j v))) := .upd (noTup_lst hv)
            refine ⟨a, vs, kk, j, (r1.mono e2).toRef, r2.toInt, hv, by rw [l.length]; exact ej, ?_⟩
            exact k τ _ σ _ q2 (e1.trans (e2.trans e3)) (hs.mono (e1.trans (e2.trans e3))) (h2.made (noTup_lst hv) ⟨_, upd_same, ((l.set (r.mono (e1.trans e2)) j)).mono e3⟩)
          · exact q2.elim
        · exact q2.elim
      · exact q2.elim⟩⟩⟩
/-- target = value -/
def dAsg (te : DE) (g : DGt) : DS := fun Dn τ M => te τ M (fun d M1 => g d τ M1 Dn.nx) (exOf Dn τ)
theorem psd_asg {tg e : Expr} {te : DE} {g : DGt} (he : PD X W e te) (hg : PGD X W.h0 tg g) (hs : swapsWithSole [tg] e pos.line X.env = pure false := by rfl) (hw : swappedStores [tg] e X.env = pure none := by rfl)
    (h1 : (assignEach [tg] X.env).map (·.2) = [assign tg X.env] := by rfl) : PSD X W (.Assign [tg] e pos) (dAsg te g) :=
  ⟨PSimp (ps_asg he.run hg.run hs hw h1) fun De σ H ⟨τ, M, Dd, hs, hr, q, we, nc⟩ => ⟨τ, M, _, _, hs, hr, q, fun x M' h => we x τ M' h, fun d M1 v H1 q1 e1 r1 h1 =>
    ⟨d, τ, M1, _, r1, hs.mono e1, h1, q1, fun τ' M' σ' H' q' e' hs' hr' => nc.nx τ' M' σ' H' q' (e1.trans e') hs' hr'⟩⟩⟩
/-- name = value -/
theorem psd_set {i : Nat} {x : Str} {e : Expr} {te : DE} {pos' : Pos} (hN : X.N.Nodup) (hi : X.N[i]? = some x) (hx : Loc X.env.scope x) (he : PD X W e te) (hs : swapsWith e (some (.Name x pos')) pos.line X.env = pure false := by rfl) (hf : X.fn x = true ∨ X.env.scope.names.lookup x = some .local := by first | exact .inl rfl | exact .inr rfl | assumption) :
    PSD X W (.Assign [.Name x pos'] e pos) (dAsg te (dName i)) :=
  ⟨PSimp (ps_set hN hi hx he.run hs hf) fun De σ H ⟨τ, M, Dd, hs, hr, q, we, nc⟩ => ⟨τ, M, _, _, hs, hr, q, fun x M' h => we x τ M' h, fun d M1 v H1 q1 e1 r1 h1 =>
    nc.nx _ M1 _ H1 q1 e1 ((hs.mono e1).set r1) h1⟩⟩
/-- name op= e -/
def dAug (i : Nat) (te : DE) (g : DO) : DS := fun Dn τ M => match slot τ i with
  | some x => te τ M (fun y M1 => g x y M1 (fun z M2 => Dn.nx (τ.set i (some z)) M2)) (exOf Dn τ)
  | none => False
theorem psd_aug {i : Nat} {x : Str} {e : Expr} {te : DE} {op : Operator} {g : DO} {pos' : Pos} (hN : X.N.Nodup) (hi : X.N[i]? = some x) (hx : Loc X.env.scope x) (he : PD X W e te) (ho : OpR X (inplaceOp op) (liftO X.K g)) (hf : X.fn x = true ∨ X.env.scope.names.lookup x = some .local := by first | exact .inl rfl | exact .inr rfl | assumption) :
    PSD X W (.AugAssign (.Name x pos') op e pos) (dAug i te g) :=
  ⟨PSimp (ps_aug hN hi hx he.run (ti := liftO X.K g) ho hf) fun De σ H ⟨τ, M, Dd, hs, hr, q, we, nc⟩ => by
    unfold dAug at q
    split at q
    · rename_i d ed
      obtain ⟨v, ev, rv⟩ := hs.at_ i d (slot_eq ed)
      refine ⟨v, ev, τ, M, _, _, hs, hr, q, fun x M' h => we x τ M' h, fun y M1 u H1 q1 e1 r1 h1 => ?_⟩
      exact ⟨d, y, M1, _, q1, rv.mono e1, r1, h1, fun z M2 w H2 q2 e2 r2 h2 => nc.nx _ M2 _ H2 q2 (e1.trans e2) ((hs.mono (e1.trans e2)).set r2) h2⟩
    · exact q.elim⟩
theorem iop_addI : OpR X (inplaceOp .Add) (liftO X.K (oI0 fun i j => .int (i + j))) := oI0_of iop_add fun _ _ _ => .int _
theorem iop_subI : OpR X (inplaceOp .Sub) (liftO X.K (oI0 fun i j => .int (i - j))) := oI0_of iop_sub fun _ _ _ => .int _
/-- o.f = value -/
def putFD (f : Str) (v : D) : List (Str × D) → List (Str × D)
  | [] => [(f, v)]
  | p :: r => if p.1 = f then (p.1, v) :: r else p :: putFD f v r
theorem FD.put {K : PySem.W.Frag} {H : Hp} {f : Str} {v : V} {d : D} (r : Rp K H v d) : ∀ {vs : List (Str × V)} {fs : List (Str × D)}, FD K H vs fs → FD K H (putF f v vs) (putFD f d fs)
  | [], [], _ => ⟨rfl, r, trivial⟩
  | (p1, p2) :: ps, (q1, q2) :: qs, ⟨e, r', l⟩ => by
    simp only at e
    subst e
    unfold putF putFD
    by_cases c : p1 = f
    · simp only [c, if_true]; exact ⟨rfl, r, l⟩
    · simp only [c, if_false]; exact ⟨rfl, r', FD.put r l⟩
  | [], _ :: _, h => h.elim
  | _ :: _, [], h => h.elim
theorem FD.length {K : PySem.W.Frag} {H : Hp} : ∀ {vs : List (Str × V)} {fs : List (Str × D)}, FD K H vs fs → vs.length = fs.length
  | [], [], _ => rfl
  | _ :: _, _ :: _, ⟨_, _, l⟩ => by simp [FD.length l]
  | [], _ :: _, h => h.elim
  | _ :: _, [], h => h.elim
theorem FD.look_none {K : PySem.W.Frag} {H : Hp} {f : Str} : ∀ {vs : List (Str × V)} {fs : List (Str × D)}, FD K H vs fs → fs.lookup f = none → vs.lookup f = none
  | [], [], _, _ => rfl
  | (p1, p2) :: ps, (q1, q2) :: qs, ⟨e, r', l⟩, h => by
    simp only at e
    subst e
    by_cases c : (f == p1) = true
    · rw [List.lookup_cons, c] at h; cases h
    · have c' : (f == p1) = false := by simpa using c
      rw [List.lookup_cons, c'] at h ⊢
      exact FD.look_none l h
  | [], _ :: _, h, _ => h.elim
  | _ :: _, [], h, _ => h.elim
def dFldS (K : PySem.W.Frag) (to te : DE) (f : Str) : DS := fun Dn τ M => te τ M (fun v M1 => to τ M1 (fun o M2 => match o with
  | .ref a => match M2 a with
    | some (.ins C fs) => FldK K C f ∧ fs.length < 1000 ∧ Dn.nx τ (put M2 a (.ins C (putFD f v fs)))
    | _ => False
  | _ => False) (exOf Dn τ)) (exOf Dn τ)
theorem psd_fld {o e : Expr} {to te : DE} {f : Str} {pos' : Pos} (ho : PD X W o to) (he : PD X W e te) (hs : swapsWith e (some (.Attribute o f pos')) pos.line X.env = pure false := by rfl) : PSD X W (.Assign [.Attribute o f pos'] e pos) (dFldS X.K to te f) :=
  ⟨PSimp (ps_fld ho.run he.run hs) fun De σ H ⟨τ, M, Dd, hs, hr, q, we, nc⟩ => ⟨τ, M, _, _, hs, hr, q, fun x M' h => we x τ M' h, fun d M1 v H1 q1 e1 r1 h1 =>
    ⟨τ, M1, _, _, hs.mono e1, h1, q1, fun x M' h => we x τ M' h, fun od M2 ov H2 q2 e2 r2 h2 => by
      dsimp only at q2
      split at q2
      · rename_i a
        split at q2
        · rename_i C fs ea
          obtain ⟨⟨c, n⟩, hl, q2⟩ := q2
          obtain ⟨dx, vs, hv, fd⟩ := h2.ins ea
          have e3 : TExt X.K H2 (upd H2 a (.ins C dx (putF f v vs))) := .upd (noTup_ins hv)
          refine ⟨a, C, dx, vs, r2.toRef, hv, c, n, by rw [fd.length]; exact hl, ?_⟩
          exact nc.nx τ _ σ _ q2 (e1.trans (e2.trans e3)) (hs.mono (e1.trans (e2.trans e3))) (h2.made (noTup_ins hv) ⟨dx, _, upd_same, (FD.put (r1.mono e2) fd).mono e3⟩)
        · exact q2.elim
      · exact q2.elim⟩⟩⟩
end

/-! ### while -/
section
variable {X : Cx} {W : DW} {pos : Pos}
def dWhN (c : DT) (tb : DS) : Nat → DN → Sl → Mp → Prop
  | 0, _, _, _ => False
  | n + 1, Dn, τ, M => c τ M (fun b M1 => if b = true then tb { Dn with nx := dWhN c tb n Dn, ct := dWhN c tb n Dn, bk := Dn.nx } τ M1 else Dn.nx τ M1) (exOf Dn τ)
def dWhile (c : DT) (tb : DS) : DS := fun Dn τ M => ∃ n, dWhN c tb n Dn τ M
theorem psd_while {c : Expr} {body : List Stmt} {tc : DT} {tb : DS} (hp : PassesOwn (model X.prog X.w) X.A X.env X.xe) (hc : PTD X W c tc) (hb : PSsD X W body tb) : PSD X W (.While c body [] pos) (dWhile tc tb) :=
  ⟨PSimp (ps_while hp hc.run hb.run) fun De σ H ⟨τ, M, Dd, hs, hr, ⟨n, q⟩, we, nc⟩ => by
    refine ⟨fun m σ' H' => ∃ τ' M', TExt X.K H H' ∧ RS X.K W.h0 H' σ' τ' ∧ HR X.K H' M' ∧ dWhN tc tb m Dd τ' M', ⟨n, τ, M, .refl, hs, hr, q⟩, ?_⟩
    rintro m σ1 H1 ⟨τ1, M1, e1, hs1, hr1, q1⟩
    cases m with
    | zero => exact q1.elim
    | succ m =>
      refine ⟨τ1, M1, _, _, hs1, hr1, q1, fun x M' h => we x τ1 M' h, fun b M2 H2 q2 e2 h2 => ?_⟩
      cases b with
      | false => exact nc.nx τ1 M2 σ1 H2 (by simpa using q2) (e1.trans e2) (hs1.mono e2) h2
      | true =>
        simp only [if_true] at q2 ⊢
        refine ⟨fun σ' H' => ∃ τ' M', TExt X.K H H' ∧ RS X.K W.h0 H' σ' τ' ∧ HR X.K H' M' ∧ dWhN tc tb m Dd τ' M', fun σ' H' h => ⟨m, Nat.lt_succ_self m, h⟩, ?_⟩
        exact ⟨τ1, M2, _, hs1.mono e2, h2, q2, we, ⟨fun τ' M' σ' H' h e' hs' hr' => ⟨τ', M', e1.trans (e2.trans e'), hs', hr', h⟩, fun d M' v H' h e' => nc.rt d M' v H' h (e1.trans (e2.trans e')),
          fun τ' M' σ' H' h e' => nc.nx τ' M' σ' H' h (e1.trans (e2.trans e')), fun τ' M' σ' H' h e' hs' hr' => ⟨τ', M', e1.trans (e2.trans e'), hs', hr', h⟩⟩⟩⟩
end

/-! ### what is walked -/
/-- J walks its, as long as kp holds -/
structure ItOk (K : PySem.W.Frag) (H0 : Hp) (J : It) (its : List D) (kp : Mp → Prop) : Prop where
  small : its.length ≤ sizeLine
  go : ∀ i H M, TExt K H0 H → HR K H M → kp M → i < its.length → J.go i H
  stop : ∀ i H M, TExt K H0 H → HR K H M → kp M → its.length ≤ i → J.stop i H
  yld : ∀ i H M x H', TExt K H0 H → HR K H M → kp M → J.yld i H x H' → TExt K H H' ∧ (∀ M', HR K H M' → HR K H' M') ∧ ∀ d, its[i]? = some d → Rp K H' x d
abbrev DI := Sl → Mp → (List D → (Mp → Prop) → Mp → Prop) → EK → Prop
def liftI (K : PySem.W.Frag) (W : DW) (t : DI) : TI := fun σ H R => ∃ τ M Qd Ed, RS K W.h0 H σ τ ∧ HR K H M ∧ t τ M Qd Ed ∧ (∀ x M', Ed x M' → W.w x τ M') ∧ ∀ its kp J M' H', Qd its kp M' → TExt K H H' → HR K H' M' → ItOk K H' J its kp → R J H'
structure PID (X : Cx) (W : DW) (tg iter : Expr) (t : DI) : Prop where
  run : PI X tg iter (liftI X.K W t)
/-- what a value gives when it is walked -/
def itemsOf (d : D) (M : Mp) : Option (List D) := match d with
  | .tup xs => some xs
  | .ref a => seqOf M a
  | .str z => if z.length ≤ sizeLine then some (z.cps.toList.map fun c => .str ⟨#[c]⟩) else none
  | _ => none
def keepOf (d : D) (its : List D) : Mp → Prop := match d with
  | .ref a => fun M => seqOf M a = some its
  | _ => fun _ => True
def dIter (te : DE) : DI := fun τ M Q E => te τ M (fun d M1 => match itemsOf d M1 with
  | some its => Q its (keepOf d its) M1
  | none => False) E
section
variable {X : Cx} {W : DW} {tg : Expr} {pins : List (Addr × Obj)} {s : Shared} {σ : St} {H : Hp} {R : It → Hp → Prop} {E : Value → Shared → Prop}
theorem iter_lst {a : Addr} {xs : List V} (I : Inv X pins σ H s) (hq : SqL X.K H a xs) (q : R (Itl X.K a) H) : wpAny (model X.prog X.w) X.A (pyIter (.ref a)) (PIE X pins σ tg R) E s := by
  obtain ⟨its, rv, pl, hz⟩ := I.list hq
  refine wpAny_pyIter_list pl.isList ⟨s.heap.objs.size, [s.heap.objs.size], _, _, H, rfl, I.kept (t' := s.toks) fun b o e => Heap.get?_push_of_some _ e, turn_list a _, ⟨_, Heap.get?_push_size _ rfl, rfl, rfl⟩, fun b hb => ?_, q⟩
  obtain rfl : b = s.heap.objs.size := by simpa using hb
  exact I.fpOk (Nat.le_refl _) (I.hok.fresh (Nat.le_refl _))
theorem iter_tup {a : Addr} {xs : List V} (I : Inv X pins σ H s) (hq : SqT X.K H a xs) (q : R (Itt X.K a) H) : wpAny (model X.prog X.w) X.A (pyIter (.ref a)) (PIE X pins σ tg R) E s := by
  obtain ⟨its, rv, pl, hz⟩ := I.tuple hq
  refine wpAny_pyIter_tuple (show s.heap.IsTuple a its.toArray from pl) ⟨s.heap.objs.size, [s.heap.objs.size], _, _, H, rfl, I.kept (t' := s.toks) fun b o e => Heap.get?_push_of_some _ e, turn_tuple a _, ⟨_, Heap.get?_push_size _ rfl, rfl, rfl⟩, fun b hb => ?_, q⟩
  obtain rfl : b = s.heap.objs.size := by simpa using hb
  exact I.fpOk (Nat.le_refl _) (I.hok.fresh (Nat.le_refl _))
theorem iter_str {z : Str} {u : Value} (I : Inv X pins σ H s) (hu : RelV (.str z) u) (q : R (Its z) H) : wpAny (model X.prog X.w) X.A (pyIter u) (PIE X pins σ tg R) E s := by
  obtain ⟨t, rfl⟩ := hu
  cases ha : z.cps.all (· < 128) with
  | false => exact wpAny_pyIter_wide ha (pi_one (tk := s.toks) I _ (turn_str _ z t _ (.inr rfl)) ⟨_, Heap.get?_push_size _ rfl, rfl, rfl⟩ q)
  | true => exact wpAny_pyIter_ascii ha (pi_one (tk := s.toks) I _ (turn_str _ z t _ (.inl rfl)) ⟨_, Heap.get?_push_size _ rfl, rfl, rfl⟩ q)
theorem itOk_tup {K : PySem.W.Frag} {H : Hp} {a : Addr} {vs : List V} {ds : List D} (s : SqT K H a vs) (l : RpL K H vs ds) (z : vs.length ≤ sizeLine) : ItOk K H (Itt K a) ds fun _ => True where
  small := by rw [← l.length]; exact z
  go := fun i H1 M e _ _ hi => ⟨vs, vs[i]'(by rw [l.length]; exact hi), e.tup _ _ s, by simp⟩
  stop := fun i H1 M e _ _ hi => ⟨vs, e.tup _ _ s, by rw [l.length]; exact hi⟩
  yld := fun i H1 M x H2 e _ _ y => by
    obtain ⟨rfl, y⟩ := y
    have hx := y vs (e.tup _ _ s)
    refine ⟨.refl, fun _ h => h, fun d hd => ?_⟩
    obtain ⟨v, ev, rv⟩ := (l.mono e).get hd
    rw [hx] at ev
    cases ev
    exact rv
theorem itOk_lst {K : PySem.W.Frag} {H : Hp} {a : Addr} {vs : List V} {ds : List D} (l : RpL K H vs ds) (z : vs.length ≤ sizeLine) : ItOk K H (Itl K a) ds fun M => seqOf M a = some ds where
  small := by rw [← l.length]; exact z
  go := fun i H1 M e hr k hi => by
    obtain ⟨us, s, l'⟩ := seqOf_ok hr k
    exact ⟨us, us[i]'(by rw [l'.length]; exact hi), s, by simp⟩
  stop := fun i H1 M e hr k hi => by
    obtain ⟨us, s, l'⟩ := seqOf_ok hr k
    exact ⟨us, s, by rw [l'.length]; exact hi⟩
  yld := fun i H1 M x H2 e hr k y => by
    obtain ⟨rfl, y⟩ := y
    obtain ⟨us, s, l'⟩ := seqOf_ok hr k
    have hx := y us s
    refine ⟨.refl, fun _ h => h, fun d hd => ?_⟩
    obtain ⟨v, ev, rv⟩ := l'.get hd
    rw [hx] at ev
    cases ev
    exact rv
theorem itOk_str {K : PySem.W.Frag} {H : Hp} {z : Str} (hz : z.length ≤ sizeLine) : ItOk K H (Its z) (z.cps.toList.map fun c => D.str ⟨#[c]⟩) fun _ => True where
  small := by simpa [Str.length] using hz
  go := fun i H1 M e _ _ hi => show i < z.cps.size by simpa using hi
  stop := fun i H1 M e _ _ hi => show z.cps.size ≤ i by simpa using hi
  yld := fun i H1 M x H2 e _ _ y => by
    obtain ⟨rfl, c, hc, rfl⟩ := y
    refine ⟨.refl, fun _ h => h, fun d hd => ?_⟩
    rw [List.getElem?_map, Array.getElem?_toList, hc] at hd
    cases hd
    exact .str _
theorem itOk_rng {K : PySem.W.Frag} {H : Hp} {lo : Int} {n : Nat} (hz : n ≤ sizeLine) : ItOk K H (Itr lo n) ((List.range n).map fun i => D.int (lo + (i : Nat))) fun _ => True where
  small := by simpa using hz
  go := fun i H1 M e _ _ hi => show i < n by simpa using hi
  stop := fun i H1 M e _ _ hi => show n ≤ i by simpa using hi
  yld := fun i H1 M x H2 e _ _ y => by
    obtain ⟨rfl, rfl⟩ := y
    refine ⟨.refl, fun _ h => h, fun d hd => ?_⟩
    by_cases hi : i < n
    · rw [List.getElem?_map, List.getElem?_range hi] at hd
      cases hd
      exact .int _
    · rw [List.getElem?_eq_none (by simpa using hi)] at hd
      cases hd
theorem pid_any {e : Expr} {te : DE} (he : PD X W e te) : PID X W tg e (dIter te) := ⟨⟨fun pins s σ H R I ⟨τ, M, Qd, Ed, hs, hr, q, we, k⟩ => by
  refine thn (he.run.run pins s σ H (fun v H1 => ∃ d M1, Rp X.K H1 v d ∧ HR X.K H1 M1 ∧ TExt X.K H H1 ∧ match itemsOf d M1 with
    | some its => Qd its (keepOf d its) M1
    | none => False) I ⟨τ, M, _, Ed, hs, hr, q, we, fun d M1 v H1 q1 e1 r1 h1 => ⟨d, M1, r1, h1, e1, q1⟩⟩) fun u s1 ⟨v, H1, I1, rv, d, M1, r1, h1, e1, q1⟩ => ?_
  split at q1
  · rename_i its ei
    cases d with
    | tup xs =>
      obtain ⟨a, vs, rfl, sq, l⟩ := r1.toTup
      cases rv
      cases ei
      obtain ⟨_, _, _, z⟩ := I1.tuple sq
      exact iter_tup I1 sq (k _ _ _ M1 H1 q1 e1 h1 (itOk_tup sq l z))
    | ref a =>
      have ea := r1.toRef
      subst ea
      cases rv
      obtain ⟨vs, sq, l⟩ := seqOf_ok h1 ei
      obtain ⟨_, _, _, z⟩ := I1.list sq
      exact iter_lst I1 sq (k _ _ _ M1 H1 q1 e1 h1 (itOk_lst l z))
    | str z =>
      have ea := r1.toStr
      subst ea
      have ei' : (if z.length ≤ sizeLine then some (z.cps.toList.map fun c => D.str ⟨#[c]⟩) else none) = some its := ei
      by_cases c : z.length ≤ sizeLine
      · rw [if_pos c] at ei'
        cases ei'
        exact iter_str I1 rv (k _ _ _ M1 H1 q1 e1 h1 (itOk_str c))
      · rw [if_neg c] at ei'; cases ei'
    | _ => cases ei
  · exact q1.elim⟩⟩
end
end DL

set_option maxHeartbeats 4000000
namespace DL
open PySem L2
section
variable {X : Cx} {W : DW} {tg : Expr} {pos p : Pos} {ta : DA}
/-! ### range -/
def dRng1 (ta : DA) : DI := fun τ M Q E => ta τ M (fun ds M1 => match ds with
  | [.int j] => j ≤ 16777216 ∧ -(2 ^ 62) ≤ j ∧ Q ((List.range j.toNat).map fun i => D.int (i : Nat)) (fun _ => True) M1
  | _ => False) E
def dRng2 (ta : DA) : DI := fun τ M Q E => ta τ M (fun ds M1 => match ds with
  | [.int i, .int j] => (-(2 ^ 62) ≤ i ∧ i < 2 ^ 62 ∧ -(2 ^ 62) ≤ j ∧ j < 2 ^ 62) ∧ j - i ≤ 16777216 ∧ Q ((List.range (j - i).toNat).map fun k => D.int (i + (k : Nat))) (fun _ => True) M1
  | _ => False) E
theorem PIimp {iter : Expr} {t t' : TI} (h : PI X tg iter t) (i : ∀ σ H R, t' σ H R → t σ H R) : PI X tg iter t' := ⟨fun pins s σ H R I q => h.run pins s σ H R I (i σ H R q)⟩
theorem pid_rng1 {a : Expr} (hg : Gl X "range") (hm : X.mg "range" = none) (ha : PAD X W [a] ta) (hs : starEach [a] X.env = [(false, eval a X.env)] := by rfl) : PID X W tg (.Call (.Name "range" p) [a] [] pos) (dRng1 ta) :=
  ⟨PIimp (pi_range1 hg hm ha.run hs) fun σ H R ⟨τ, M, Qd, Ed, hs, hr, q, we, k⟩ => ⟨τ, M, _, Ed, hs, hr, q, we, fun ds M1 vs H1 q1 e1 r1 h1 => by
    split at q1
    · rename_i j
      obtain ⟨v, rfl, rv⟩ := r1.one
      obtain ⟨c1, c2, q1⟩ := q1
      refine ⟨j, by rw [rv.toInt], c2, by omega, k _ _ _ M1 H1 q1 e1 h1 ?_⟩
      have := itOk_rng (K := X.K) (H := H1) (lo := 0) (n := j.toNat) (by rw [sizeLine_eq]; omega)
      simpa using this
    · exact q1.elim⟩⟩
theorem pid_rng2 {a b : Expr} (hg : Gl X "range") (hm : X.mg "range" = none) (ha : PAD X W [a, b] ta) (hs : starEach [a, b] X.env = [(false, eval a X.env), (false, eval b X.env)] := by rfl) (hs2 : starEach [b] X.env = [(false, eval b X.env)] := by rfl) : PID X W tg (.Call (.Name "range" p) [a, b] [] pos) (dRng2 ta) :=
  ⟨PIimp (pi_range2 hg hm ha.run hs hs2) fun σ H R ⟨τ, M, Qd, Ed, hs, hr, q, we, k⟩ => ⟨τ, M, _, Ed, hs, hr, q, we, fun ds M1 vs H1 q1 e1 r1 h1 => by
    split at q1
    · rename_i i j
      obtain ⟨v, v', rfl, rv, rv'⟩ := r1.two
      obtain ⟨c1, c2, q1⟩ := q1
      refine ⟨i, j, by rw [rv.toInt, rv'.toInt], c1, k _ _ _ M1 H1 q1 e1 h1 (itOk_rng (by rw [sizeLine_eq]; omega))⟩
    · exact q1.elim⟩⟩

/-! ### for -/
def dLoop (g : DGt) (tb : DS) (kp : Mp → Prop) : List D → DN → Sl → Mp → Prop
  | [], Dn, τ, M => kp M ∧ Dn.nx τ M
  | d :: ds, Dn, τ, M => kp M ∧ g d τ M fun τ2 M2 => tb { Dn with nx := dLoop g tb kp ds Dn, ct := dLoop g tb kp ds Dn, bk := Dn.nx } τ2 M2
def dFor (ti : DI) (g : DGt) (tb : DS) : DS := fun Dn τ M => ti τ M (fun its kp M1 => dLoop g tb kp its Dn τ M1) (exOf Dn τ)
theorem psd_for {iter : Expr} {body : List Stmt} {ti : DI} {g : DGt} {tb : DS} (hp : PassesOwn (model X.prog X.w) X.A X.env X.xe) (hc : X.calm = true) (hi : PID X W tg iter ti) (hg : PGD X W.h0 tg g) (hb : PSsD X W body tb)
    (hs : ∀ x, foldedSetIterable iter X.env x = pure x := by intro _; rfl) : PSD X W (.For tg iter body [] pos) (dFor ti g tb) :=
  ⟨PSimp (ps_for hp hc hi.run hg.run hb.run hs) fun De σ H ⟨τ, M, Dd, hs, hr, q, we, nc⟩ => ⟨τ, M, _, _, hs, hr, q, fun x M' h => we x τ M' h, fun its kp J M1 H1 q1 e1 h1 ok => by
    refine ⟨fun i m σ' H' => m = its.length - i ∧ i ≤ its.length ∧ TExt X.K H1 H' ∧ ∃ τ' M', RS X.K W.h0 H' σ' τ' ∧ HR X.K H' M' ∧ dLoop g tb kp (its.drop i) Dd τ' M', ⟨_, rfl, Nat.zero_le _, .refl, τ, M1, hs.mono e1, h1, by simpa using q1⟩, ?_⟩
    rintro i m σ2 H2 ⟨rfl, hi, e2, τ2, M2, hs2, hr2, q2⟩
    by_cases hlt : i < its.length
    · rw [List.drop_eq_getElem_cons hlt] at q2
      obtain ⟨hk, q2⟩ := q2
      refine .inr ⟨ok.go i H2 M2 e2 hr2 hk hlt, fun σ' H' => TExt X.K H1 H' ∧ ∃ τ' M', RS X.K W.h0 H' σ' τ' ∧ HR X.K H' M' ∧ dLoop g tb kp (its.drop (i + 1)) Dd τ' M', fun σ' H' h => ⟨its.length - (i + 1), by omega, rfl, hlt, h.1, h.2⟩, fun x H3 y => ?_⟩
      obtain ⟨e3, k3, r3⟩ := ok.yld i H2 M2 x H3 e2 hr2 hk y
      have rx := r3 its[i] (by simp [hlt])
      refine ⟨its[i], τ2, M2, _, rx, hs2.mono e3, k3 _ hr2, q2, fun τ4 M4 σ4 H4 q4 e4 hs4 hr4 => ?_⟩
      exact ⟨τ4, M4, _, hs4, hr4, q4, we, ⟨fun τ' M' σ' H' h e' hs' hr' => ⟨e2.trans (e3.trans (e4.trans e')), τ', M', hs', hr', h⟩, fun d M' v H' h e' => nc.rt d M' v H' h (e1.trans (e2.trans (e3.trans (e4.trans e')))),
        fun τ' M' σ' H' h e' => nc.nx τ' M' σ' H' h (e1.trans (e2.trans (e3.trans (e4.trans e')))), fun τ' M' σ' H' h e' hs' hr' => ⟨e2.trans (e3.trans (e4.trans e')), τ', M', hs', hr', h⟩⟩⟩
    · have ei : i = its.length := by omega
      subst ei
      rw [List.drop_length] at q2
      exact .inl ⟨ok.stop _ H2 M2 e2 hr2 q2.1 (Nat.le_refl _), nc.nx τ2 M2 σ2 H2 q2.2 (e1.trans e2) hs2 hr2⟩⟩⟩

/-! ### comprehensions -/
def wipeD (τ : Sl) : List Nat → Sl
  | [] => τ
  | v :: vs => (wipeD τ vs).set v none
theorem wipeD_length (τ : Sl) : ∀ vs : List Nat, (wipeD τ vs).length = τ.length
  | [] => rfl
  | v :: vs => by unfold wipeD; rw [List.length_set, wipeD_length τ vs]
theorem wipeD_some {τ : Sl} {i : Nat} {x : D} : ∀ {vs : List Nat}, (wipeD τ vs)[i]? = some (some x) → τ[i]? = some (some x) ∧ i ∉ vs
  | [], h => ⟨h, by simp⟩
  | v :: vs, h => by
    unfold wipeD at h
    by_cases hi : v = i
    · subst hi
      by_cases hv : v < (wipeD τ vs).length
      · rw [List.getElem?_set_self hv] at h; cases h
      · rw [List.getElem?_eq_none (by simpa using hv)] at h; cases h
    · rw [List.getElem?_set_ne hi] at h
      obtain ⟨a, b⟩ := wipeD_some h
      exact ⟨a, by simpa using ⟨fun e => hi e.symm, b⟩⟩
theorem wipe_out' {σ : St} {i : Nat} : ∀ {vs : List Nat}, i ∉ vs → (wipe σ vs)[i]? = σ[i]?
  | [], _ => rfl
  | v :: vs, h => by
    have h' : v ≠ i ∧ i ∉ vs := by simpa [eq_comm] using h
    unfold wipe
    rw [List.getElem?_set_ne h'.1, wipe_out' h'.2]
theorem wipe_at {σ : St} {i : Nat} (hi : i < σ.length) : ∀ {vs : List Nat}, i ∈ vs → (wipe σ vs)[i]? = some none
  | v :: vs, h => by
    unfold wipe
    by_cases c : v = i
    · subst c; rw [List.getElem?_set_self (by rw [wipe_length]; exact hi)]
    · rw [List.getElem?_set_ne c]
      rcases List.mem_cons.mp h with h | h
      · exact absurd h.symm c
      · exact wipe_at hi h
theorem wipe_same {σ σ' : St} {vs : List Nat} (hl : σ'.length = σ.length) (h : ∀ i, i ∉ vs → σ'[i]? = σ[i]?) : wipe σ' vs = wipe σ vs := by
  apply List.ext_getElem?
  intro i
  by_cases c : i ∈ vs
  · by_cases hi : i < σ.length
    · rw [wipe_at hi c, wipe_at (by omega) c]
    · rw [List.getElem?_eq_none (by rw [wipe_length]; omega), List.getElem?_eq_none (by rw [wipe_length]; omega)]
  · rw [wipe_out' c, wipe_out' c, h i c]
theorem wipe_set {σ : St} {vs : List Nat} {i : Nat} {x : Option V} (h : i ∈ vs) : wipe ((wipe σ vs).set i x) vs = wipe σ vs := by
  apply wipe_same
  · simp [wipe_length]
  · intro j hj
    have : i ≠ j := fun e => hj (e ▸ h)
    rw [List.getElem?_set_ne this, wipe_out' hj]
theorem RS.wipe {K : PySem.W.Frag} {H0 H : Hp} {σ : St} {τ : Sl} (h : RS K H0 H σ τ) (vs : List Nat) (e : TExt K H1 H) : RS K H1 H (L2.wipe σ vs) (wipeD τ vs) := ⟨e, by rw [wipeD_length, wipe_length]; exact h.len, fun i d q => by
  obtain ⟨a, b⟩ := wipeD_some q
  obtain ⟨v, c, r⟩ := h.at_ i d a
  exact ⟨v, (wipe_out' b).trans c, r⟩⟩
def H0n : Hp := fun _ => none
theorem TExt.none {K : PySem.W.Frag} {H : Hp} : TExt K H0n H := ⟨fun a xs h => by
  rcases h with (h | ⟨o, h⟩) | h
  · cases h
  · cases h
  · exact .inr h, fun a o u h => by cases h⟩
/-- within a comprehension nothing is let out -/
def W0 : DW := ⟨H0n, fun _ _ _ => False⟩
def noE : EK := fun _ _ => False
/-- one clause; p is the list that grows -/
def dCL (g : D → Sl → Sl) (tt : DT) (te : DE) (kp : Mp → Prop) (p : Addr) (τ : Sl) (F : Mp → Prop) : List D → Mp → Prop
  | [], M => kp M ∧ F M
  | d :: ds, M => kp M ∧ tt (g d τ) M (fun b M1 => if b = true then te (g d τ) M1 (fun y M2 => match M2 p with
      | some (.lst acc) => acc.length < sizeLine ∧ dCL g tt te kp p τ F ds (put M2 p (.lst (acc ++ [y])))
      | _ => False) noE else dCL g tt te kp p τ F ds M1) noE
def dLc (ti : DI) (g : D → Sl → Sl) (tt : DT) (te : DE) (vs : List Nat) : DE := fun τ M Q E => ti τ M (fun its kp M1 => ∀ p, M1 p = none → dCL g tt te kp p (wipeD τ vs) (fun M2 => Q (.ref p) M2) its (put M1 p (.lst []))) E
structure PTsD (X : Cx) (W : DW) (ifs : List Expr) (t : DT) : Prop where
  run : PTs X ifs (liftT X.K W t)
def dYes : DT := fun _ M Q _ => Q true M
theorem PTsimp {ifs : List Expr} {t t' : TT} (h : PTs X ifs t) (i : ∀ σ H Q, t' σ H Q → t σ H Q) : PTs X ifs t' := ⟨fun pins s σ H Q I q => h.run pins s σ H Q I (i σ H Q q)⟩
theorem ptsd_nil : PTsD X W [] dYes := ⟨PTsimp pts_nil fun σ H Q ⟨τ, M, Qd, Ed, hs, hr, q, we, k⟩ => k true M H q .refl hr⟩
theorem ptsd_one {c : Expr} {t : DT} (h : PTD X W c t) : PTsD X W [c] t := ⟨pts_one h.run⟩
/-- the core, for a target that is one name -/
theorem lc_read {ti : DI} {tt : DT} {te : DE} {i : Nat} {vs : List Nat} {K : PySem.W.Frag} (hi : i ∈ vs) {σ : St} {H : Hp} {Q : VK} (h : liftE K W (dLc ti (fun d τ => τ.set i (some d)) tt te vs) σ H Q) :
    tLc (liftI K W ti) (gName i) (liftT K W0 tt) (liftE K W0 te) vs σ H Q := by
  obtain ⟨τ, M, Qd, Ed, hs, hr, q, we, k⟩ := h
  refine ⟨τ, M, _, Ed, hs, hr, q, we, fun its kp J M1 H1 q1 e1 h1 ok D hD => ?_⟩
  have q2 := q1 D (h1.free hD)
  have e2 : TExt K H1 (upd H1 D (.lst [])) := .new hD
  refine ⟨fun i m H' => m = its.length - i ∧ i ≤ its.length ∧ TExt K (upd H1 D (.lst [])) H' ∧ ∃ M', HR K H' M' ∧ dCL (fun d τ => τ.set _ (some d)) tt te kp D (wipeD τ vs) (fun M2 => Qd (.ref D) M2) (its.drop i) M', ⟨_, rfl, Nat.zero_le _, .refl, _, h1.made (o := .lst []) (noTup_none hD) ⟨[], upd_same, .nil⟩, by simpa using q2⟩, ?_⟩
  rintro j m H2 ⟨rfl, hj, e3, M2, hr2, q3⟩
  by_cases hlt : j < its.length
  · rw [List.drop_eq_getElem_cons hlt] at q3
    obtain ⟨hk, q3⟩ := q3
    refine .inr ⟨ok.go j H2 M2 (e2.trans e3) hr2 hk hlt, fun H' => TExt K (upd H1 D (.lst [])) H' ∧ ∃ M', HR K H' M' ∧ dCL (fun d τ => τ.set _ (some d)) tt te kp D (wipeD τ vs) (fun M2 => Qd (.ref D) M2) (its.drop (j + 1)) M', fun H' h => ⟨its.length - (j + 1), by omega, rfl, hlt, h.1, h.2⟩, fun x H3 y => ?_⟩
    obtain ⟨e4, k4, r4⟩ := ok.yld j H2 M2 x H3 (e2.trans e3) hr2 hk y
    have rx := r4 its[j] (by simp [hlt])
    have hs3 : RS K W0.h0 H3 ((wipe σ vs).set i (some x)) ((wipeD τ vs).set i (some its[j])) := ((hs.mono (e1.trans (e2.trans (e3.trans e4)))).wipe vs .none).set rx
    refine ⟨wipe_set hi, _, M2, _, _, hs3, k4 _ hr2, q3, fun _ _ z => z.elim, fun b M4 H4 q4 e5 h4 => ?_⟩
    cases b with
    | false => exact ⟨e3.trans (e4.trans e5), M4, h4, by simpa using q4⟩
    | true =>
      simp only [if_true] at q4 ⊢
      refine ⟨_, M4, _, _, hs3.mono e5, h4, q4, fun _ _ z => z.elim, fun y M5 v H5 q5 e6 r5 h5 => ?_⟩
      dsimp only at q5
      split at q5
      · rename_i acc ea
        obtain ⟨us, hu, l⟩ := h5.lst ea
        have e7 : TExt K H5 (upd H5 D (.lst (us ++ [v]))) := .upd (noTup_lst hu)
        refine ⟨us, hu, by rw [l.length]; exact q5.1, e3.trans (e4.trans (e5.trans (e6.trans e7))), _, h5.made (o := .lst (acc ++ [y])) (noTup_lst hu) ⟨_, upd_same, (l.append (.cons r5 .nil)).mono e7⟩, q5.2⟩
      · exact q5.elim
  · have ei : j = its.length := by omega
    subst ei
    rw [List.drop_length] at q3
    exact .inl ⟨ok.stop _ H2 M2 (e2.trans e3) hr2 q3.1 (Nat.le_refl _), k _ M2 _ H2 q3.2 (e1.trans (e2.trans e3)) (.ref D) hr2⟩
section
variable {elt iter : Expr} {ifs : List Expr} {scope : Scope} {own : List (Str × Nat)} {ti : DI} {tt : DT} {te : DE} {i : Nat}
theorem pd_lc (hc : X.calm = true) (hN : X.N.Nodup) (hi : PID X W tg iter ti) (ok : BlkOk X.N X.env.scope scope own) (hv : i ∈ own.map (·.2))
    (hg : ∀ (s : Shared) (H : Hp) (C : Addr) (cl : List (Str × Addr)) (fp : List Addr), PG (X.blk s H scope (compEnvC scope cl C X.env) fp) tg (gName i))
    (ht : ∀ (s : Shared) (H : Hp) (C : Addr) (cl : List (Str × Addr)) (fp : List Addr), PTsD (X.blk s H scope (compEnvC scope cl C X.env) fp) W0 ifs tt)
    (he : ∀ (s : Shared) (H : Hp) (C : Addr) (cl : List (Str × Addr)) (fp : List Addr), PD (X.blk s H scope (compEnvC scope cl C X.env) fp) W0 elt te) (hs : ∀ x, foldedSetIterable iter X.env x = pure x := by intro _; rfl) :
    PD X W (.ListComp elt [⟨tg, iter, ifs, 0⟩] scope pos) (dLc ti (fun d τ => τ.set i (some d)) tt te (own.map (·.2))) :=
  ⟨PEimp (pe_lc hc hN hi.run ok hg (fun s H C cl fp => (ht s H C cl fp).run) (fun s H C cl fp => (he s H C cl fp).run) hs) fun σ H Q h => lc_read hv h⟩
/-- name = [..] on one line -/
theorem psd_setLc {j : Nat} {y : Str} {py spos : Pos} (hc : X.calm = true) (hN : X.N.Nodup) (hy : X.N[j]? = some y) (hyl : X.env.scope.names.lookup y = some .local)
    (hsw : swapsWith (.ListComp elt [⟨tg, iter, ifs, 0⟩] scope pos) (some (.Name y py)) spos.line X.env = pure true) (hi : PID X W tg iter ti) (ok : BlkOk X.N X.env.scope scope own) (hv : i ∈ own.map (·.2))
    (hg : ∀ (s : Shared) (H : Hp) (C : Addr) (cl : List (Str × Addr)) (fp : List Addr), PG (X.blk s H scope (compEnvC scope cl C X.env) fp) tg (gName i))
    (ht : ∀ (s : Shared) (H : Hp) (C : Addr) (cl : List (Str × Addr)) (fp : List Addr), PTsD (X.blk s H scope (compEnvC scope cl C X.env) fp) W0 ifs tt)
    (he : ∀ (s : Shared) (H : Hp) (C : Addr) (cl : List (Str × Addr)) (fp : List Addr), PD (X.blk s H scope (compEnvC scope cl C X.env) fp) W0 elt te) (hs : ∀ x, foldedSetIterable iter X.env x = pure x := by intro _; rfl) :
    PSD X W (.Assign [.Name y py] (.ListComp elt [⟨tg, iter, ifs, 0⟩] scope pos) spos) (dAsg (dLc ti (fun d τ => τ.set i (some d)) tt te (own.map (·.2))) (dName j)) :=
  ⟨PSimp (ps_setLc hc hN hy hyl hsw hi.run ok hg (fun s H C cl fp => (ht s H C cl fp).run) (fun s H C cl fp => (he s H C cl fp).run) hs) fun De σ H ⟨τ, M, Dd, hs, hr, q, we, nc⟩ =>
    lc_read hv ⟨τ, M, _, _, hs, hr, q, fun x M' h => we x τ M' h, fun d M1 v H1 q1 e1 r1 h1 => nc.nx _ M1 _ H1 q1 e1 ((hs.mono e1).set r1) h1⟩⟩
end
end

/-! ### defs -/
/-- a promise over plain data -/
abbrev DSp := List D → Mp → DK → EK → Prop
def XC (K : PySem.W.Frag) (H : Hp) (Ed : EK) (E : XK) : Prop := ∀ x M' cls d H', Ed x M' → TExt K H H' → XR K H' cls d x → HR K H' M' → E cls d H'
def liftSp (K : PySem.W.Frag) (sp : DSp) : Sp := fun vs H Q E => ∃ ds M Qd Ed, sp ds M Qd Ed ∧ RpL K H vs ds ∧ HR K H M ∧ KC K H Qd Q ∧ XC K H Ed E
/-- the def that the module's name x holds -/
structure FnD (P : Program) (w : World) (K : PySem.W.Frag) (mg : Str → Option Value) (base : Heap) (k : Nat) (x : Str) (ps : List Str) (dds : List D) (sp : DSp) : Prop where
  ex : ∃ (f : Addr) (fd : FuncData) (dvs : List V) (ds : List Value), FnOk P w K mg base (L2.CX P w) k f fd ps (liftSp K sp) ∧ mg x = some (.ref f) ∧ PySem.W.keepIn K (.ref f) = true ∧ Binds K fd ps ds ∧ Vals dvs ds ∧ ∀ H, RpL K H dvs dds
theorem FnD.mono {P : Program} {w : World} {K : PySem.W.Frag} {mg : Str → Option Value} {base : Heap} {j k : Nat} {x : Str} {ps : List Str} {dds : List D} {sp : DSp} (F : FnD P w K mg base j x ps dds sp) (h : j ≤ k) : FnD P w K mg base k x ps dds sp := by
  obtain ⟨f, fd, dvs, ds, F, r⟩ := F.ex
  exact ⟨f, fd, dvs, ds, F.mono h, r⟩
theorem FnD.imp {P : Program} {w : World} {K : PySem.W.Frag} {mg : Str → Option Value} {base : Heap} {k : Nat} {x : Str} {ps : List Str} {dds : List D} {sp sp' : DSp} (F : FnD P w K mg base k x ps dds sp) (h : ∀ ds M Q E, sp' ds M Q E → sp ds M Q E) : FnD P w K mg base k x ps dds sp' := by
  obtain ⟨f, fd, dvs, ds, F, r⟩ := F.ex
  exact ⟨f, fd, dvs, ds, F.imp fun vs H Q E ⟨ds, M, Qd, Ed, q, r⟩ => ⟨ds, M, Qd, Ed, h _ _ _ _ q, r⟩, r⟩
def dCall (sp : DSp) (dds : List D) (t : DA) : DE := fun τ M Q E => t τ M (fun ds M1 => sp (ds ++ dds) M1 Q E) E
section
variable {X : Cx} {W : DW} {k : Nat} {x : Str} {ps : List Str} {dds : List D} {sp : DSp} {p pos apos : Pos} {e o : Expr} {es : List Expr} {t : DA} {to : DE}
theorem spIn {dvs : List V} {H1 : Hp} {σ : St} {τ : Sl} {M1 : Mp} {Qd : DK} {Ed : EK} {Q : VK} {vs : List V} {ds : List D} (hs : RS X.K W.h0 H1 σ τ) (q : sp ds M1 Qd Ed) (r : RpL X.K H1 vs ds) (hr : HR X.K H1 M1) (we : ∀ x M', Ed x M' → W.w x τ M') (k : KC X.K H1 Qd Q) :
    liftSp X.K sp vs H1 Q (WE (liftW X.K W) σ) :=
  ⟨ds, M1, Qd, Ed, q, r, hr, k, fun x M' cls d H' h e xr hr' => ⟨x, τ, M', hs.mono e, hr', xr, we x M' h⟩⟩
theorem pd_call (F : FnD X.prog X.w X.K X.mg X.base k x ps dds sp) (hr : Room k X.A) (tk : Takes X (liftW X.K W)) (hg : Gl X x) (ha : PAD X W (e :: es) t)
    (hdb : (x == ("__debug__" : Str)) = false := by decide) (he : starEach (e :: es) X.env = (false, eval e X.env) :: starEach es X.env := by rfl) (hpl : (backTo pos (starEach es X.env)).any (·.1) = false := by rfl) :
    PD X W (.Call (.Name x p) (e :: es) [] pos) (dCall sp dds t) := by
  obtain ⟨f, fd, dvs, ds0, F, hm, hk, hb, hd, hdd⟩ := F.ex
  exact ⟨PEimp (pe_callSD F hr hg hm hk hb hd (fun σ => passAt tk σ) ha.run hdb he hpl) fun σ H Q ⟨τ, M, Qd, Ed, hs, hr, q, we, k⟩ => ⟨τ, M, _, Ed, hs, hr, q, we, fun ds M1 vs H1 q1 e1 r1 h1 =>
    spIn (dvs := dvs) (hs.mono e1) q1 (r1.append (hdd H1)) h1 we (k.mono e1)⟩⟩
theorem pd_call0 (F : FnD X.prog X.w X.K X.mg X.base k x ps dds sp) (hr : Room k X.A) (tk : Takes X (liftW X.K W)) (hg : Gl X x) (hdb : (x == ("__debug__" : Str)) = false := by decide) : PD X W (.Call (.Name x p) [] [] pos) (dCall sp dds dNil) := by
  obtain ⟨f, fd, dvs, ds0, F, hm, hk, hb, hd, hdd⟩ := F.ex
  refine ⟨⟨fun pins s σ H Q I ⟨τ, M, Qd, Ed, hs, hr', q, we, k⟩ => ?_⟩⟩
  refine wpAny_Call_Name_kw (ld_glob I hg hm ?_ hdb)
  exact PySem.W.callWith_K0 I.kIn hk (run_fnSD (us := []) (vs := []) (E := WE (liftW X.K W)) F hr hb hd (passAt tk σ) I .nil (spIn (dvs := dvs) hs q (by simpa using hdd H) hr' we k))
end
end DL

set_option maxHeartbeats 4000000
namespace DL
open PySem L2
open PyProof.Rows (envOfC Subscript_)

/-! ### a def keeps its promise -/
def dstart (N : List Str) (ds : List D) : Sl := ds.map some ++ List.replicate (N.length - ds.length) none
/-- at a def's end what is no more asked is dropped -/
def dropQ (Q : DK) : DK := fun d M => ∃ M0, Sub M0 M ∧ Q d M0
def dropE (E : EK) : EK := fun x M => ∃ M0, Sub M0 M ∧ E x M0
theorem dropQ_of {Q : DK} {d : D} {M M' : Mp} (h : Q d M) (s : Sub M M') : dropQ Q d M' := ⟨M, s, h⟩
theorem dropE_of {E : EK} {d : DX} {M M' : Mp} (h : E d M) (s : Sub M M') : dropE E d M' := ⟨M, s, h⟩
/-- what a body is to reach -/
def ends (Q : DK) (E : EK) : DN := { nx := fun _ M => dropQ Q .non M, rt := dropQ Q, ex := fun x _ M => dropE E x M }
/-- what a def may let out: some promise's -/
def defW (K : PySem.W.Frag) (H : Hp) (E : XK) : DW := ⟨H, fun x _ M => ∀ H' cls d, TExt K H H' → XR K H' cls d x → HR K H' M → E cls d H'⟩
theorem rs_start {K : PySem.W.Frag} {H : Hp} {N : List Str} {vs : List V} {ds : List D} (r : RpL K H vs ds) : RS K H H (L2.start N vs) (dstart N ds) := ⟨.refl, by simp [L2.start, dstart, r.length], fun i d q => by
  unfold dstart at q
  unfold L2.start
  by_cases hi : i < ds.length
  · rw [List.getElem?_append_left (by simpa using hi), List.getElem?_map] at q
    rw [List.getElem?_append_left (by simpa [r.length] using hi), List.getElem?_map]
    cases e : ds[i]? with
    | none => rw [e] at q; cases q
    | some d' =>
      rw [e] at q
      cases q
      obtain ⟨v, ev, rv⟩ := r.get e
      exact ⟨v, by rw [ev]; rfl, rv⟩
  · rw [List.getElem?_append_right (by simpa using hi)] at q
    have : ∀ (n j : Nat), (List.replicate n (none : Option D))[j]? ≠ some (some d) := fun n j h => by
      have := List.mem_of_getElem? h
      simp at this
    exact absurd q (this _ _)⟩
section
variable {P : Program} {w : World} {K : PySem.W.Frag} {mg : Str → Option Value} {base : Heap}
/-- THE RULE for a def: its body as a term of rules, and that term's reading for every plain datum -/
theorem okD {x qual : Str} {st : Stmt} {f : Addr} {fd : FuncData} {N ps : List Str} {k : Nat} {sp : DSp} (F : L2.Fun K x qual st f fd) (S : FnScope N ps (defScope st)) (len : ∀ ds M Q E, sp ds M Q E → ds.length = ps.length)
    (hbody : ∀ (cdv : Value) (A : Around) (outer : List Env) (s : Shared) (H : Hp) (E : XK), Room k (A.deeper (envOfC qual (defScope st) s.heap.objs.size f cdv)) →
      Takes (cxOf (L2.CX P w) P w K mg base N qual (defScope st) f cdv A outer s H E) (liftW K (defW K H E)) →
      ∃ t, PSsD (cxOf (L2.CX P w) P w K mg base N qual (defScope st) f cdv A outer s H E) (defW K H E) (defBody st) t ∧ ∀ ds M Q E', sp ds M Q E' → t (ends Q E') (dstart N ds) M) :
    FnOk P w K mg base (L2.CX P w) (k + 1) f fd ps (liftSp K sp) := by
  refine F.okX S (fun vs H Q E ⟨ds, M, Qd, Ed, hsp, r, _⟩ => r.length.trans (len ds M Qd Ed hsp)) fun cdv A outer s H vs Q E hr ⟨ds, M, Qd, Ed, hsp, r, hr', kc, xc⟩ => ?_
  obtain ⟨t, ht, q⟩ := hbody cdv A outer s H E hr (Takes.imp (takes_of rfl rfl rfl rfl) fun c d σ H' ⟨x, τ, M', rs, h2, xr, hw⟩ => hw H' c d rs.ext xr h2)
  refine ⟨_, ht.run, dstart N ds, M, ends Qd Ed, rs_start r, hr', q ds M Qd Ed hsp, fun x τ M' ⟨M0, sb, h⟩ H' cls d e xr h2 => xc x M0 cls d H' h e xr (h2.sub sb), ?_⟩
  exact ⟨fun τ M' σ H' ⟨M0, sb, h⟩ e _ h2 => kc _ M0 _ H' h e .non (h2.sub sb), fun d M' v H' ⟨M0, sb, h⟩ e rv h2 => kc d M0 v H' h e rv (h2.sub sb), fun _ _ _ _ z => z.elim, fun _ _ _ _ z => z.elim⟩
theorem fnd_mk {x qual : Str} {st : Stmt} {f : Addr} {fd : FuncData} {ps : List Str} {k : Nat} {sp : DSp} (F : L2.Fun K x qual st f fd) (m : mg x = some (.ref f)) (b : Binds K fd ps []) (h : FnOk P w K mg base (L2.CX P w) k f fd ps (liftSp K sp)) : FnD P w K mg base k x ps [] sp :=
  ⟨f, fd, [], [], h, m, F.kp, b, .nil, fun _ => .nil⟩
/-- the method m of the class at C -/
structure MetD (P : Program) (w : World) (K : PySem.W.Frag) (mg : Str → Option Value) (base : Heap) (k : Nat) (C : Addr) (m : Str) (ps : List Str) (dds : List D) (sp : DSp) : Prop where
  ex : ∃ (f : Addr) (fd : FuncData) (dvs : List V) (ds : List Value), Cls K C ∧ Meth K C m f ∧ FnOk P w K mg base (L2.CX P w) k f fd ps (liftSp K sp) ∧ Binds K fd ps ds ∧ Vals dvs ds ∧ ∀ H, RpL K H dvs dds
/-- the class x at C, made -/
structure MakD (P : Program) (w : World) (K : PySem.W.Frag) (mg : Str → Option Value) (base : Heap) (k : Nat) (x : Str) (C : Addr) (ps : List Str) (dds : List D) (sp : DSp) : Prop where
  ex : ∃ (f : Addr) (fd : FuncData) (dvs : List V) (ds : List Value), Mk K C f ∧ mg x = some (.ref C) ∧ FnOk P w K mg base (L2.CX P w) k f fd ps (liftSp K sp) ∧ Binds K fd ps ds ∧ Vals dvs ds ∧ ∀ H, RpL K H dvs dds
end
def dMeth (C : Addr) (m : Str) (sp : DSp) (dds : List D) (to : DE) (t : DA) : DE := fun τ M Q E => to τ M (fun o M1 => match o with
  | .ref a => match M1 a with
    | some (.ins C' fs) => C' = C ∧ fs.lookup m = none ∧ t τ M1 (fun ds M2 => sp (.ref a :: (ds ++ dds)) M2 Q E) E
    | _ => False
  | _ => False) E
def dMake (C : Addr) (sp : DSp) (dds : List D) (t : DA) : DE := fun τ M Q E => t τ M (fun ds M1 => ∀ x, M1 x = none → sp (.ref x :: (ds ++ dds)) (put M1 x (.ins C [])) (fun d M2 => d = .non ∧ Q (.ref x) M2) E) E
/-- o[i] by an own __getitem__ -/
def dIxO (C : Addr) (sp : DSp) (to ti : DE) : DE := fun τ M Q E => to τ M (fun o M1 => ti τ M1 (fun i M2 => match o with
  | .ref a => match M2 a with
    | some (.ins C' _) => C' = C ∧ sp [.ref a, i] M2 Q E
    | _ => False
  | _ => False) E) E
section
variable {X : Cx} {W : DW} {k : Nat} {C : Addr} {x m : Str} {ps : List Str} {dds : List D} {sp : DSp} {p pos apos : Pos} {e o : Expr} {es : List Expr} {t : DA} {to ti : DE}
theorem methS {f : Addr} {fd : FuncData} {dvs : List V} {ds0 : List Value} {pl : Sem Bool} {args : List Expr} {ta : TA} {E : St → XK} {to' : TE} {sp' : Sp} (hT : PE X o to') (cl : Cls X.K C) (hm : Meth X.K C m f) (F : FnOk X.prog X.w X.K X.mg X.base (L2.CX X.prog X.w) k f fd ps sp') (hr : Room k X.A)
    (hb : Binds X.K fd ps ds0) (hd : Vals dvs ds0) (hx : ∀ σ, PassesAt (L2.CX X.prog X.w) X σ (E σ))
    (run : ∀ {pins : List (Addr × Obj)} {s : Shared} {σ : St} {H : Hp} {a : Addr} {Q : VK}, Inv X pins σ H s → ta σ H (fun vs H2 => sp' (.ref a :: (vs ++ dvs)) H2 Q (E σ)) →
      wpAny (model X.prog X.w) X.A (callWith pos (.ref f) [.ref a] (backTo pos (starEach args X.env)) (backToKw pos (keywordEach [] X.env))) (EP X pins σ Q) X.xe s)
    (ht : eval (.Call (.Attribute o m apos) args [] pos) X.env = (do
      let ov ← eval o X.env
      standAt apos.atName
      let (f, first) ← holding [ov] (getMethod ov m pl)
      callWith pos f first (backTo pos (starEach args X.env)) (backToKw pos (keywordEach [] X.env)))) :
    PE X (.Call (.Attribute o m apos) args [] pos) (fun σ H Q => to' σ H fun v H1 => ∃ a dx fs, v = .ref a ∧ H1 a = some (.ins C dx fs) ∧ fs.lookup m = none ∧ ta σ H1 fun vs H2 => sp' (.ref a :: (vs ++ dvs)) H2 Q (E σ)) :=
  ⟨fun pins s σ H Q I h => PySem.W.methodCall_KW (pl := pl) (thn (hT.run pins s σ H _ I h) fun u s1 ⟨v, H1, I1, rv, a, dx, fs, ev, ea, l, q⟩ => by
    subst ev
    cases (show u = Value.ref a from rv)
    exact getmeth_ok I1 ea cl hm l (run I1 q)) ht⟩
theorem pd_meth {pl : Sem Bool} (F : MetD X.prog X.w X.K X.mg X.base k C m ps dds sp) (hr : Room k X.A) (tk : Takes X (liftW X.K W)) (ho : PD X W o to) (ha : PAD X W (e :: es) t)
    (hst : starEach (e :: es) X.env = (false, eval e X.env) :: starEach es X.env := by rfl) (hpl : (backTo pos (starEach es X.env)).any (·.1) = false := by rfl)
    (ht : eval (.Call (.Attribute o m apos) (e :: es) [] pos) X.env = (do
      let ov ← eval o X.env
      standAt apos.atName
      let (f, first) ← holding [ov] (getMethod ov m pl)
      callWith pos f first (backTo pos (starEach (e :: es) X.env)) (backToKw pos (keywordEach [] X.env))) := by rfl) : PD X W (.Call (.Attribute o m apos) (e :: es) [] pos) (dMeth C m sp dds to t) := by
  obtain ⟨f, fd, dvs, ds0, cl, hm, F, hb, hd, hdd⟩ := F.ex
  refine ⟨PEimp (methS (E := WE (liftW X.K W)) (ta := liftA X.K W t) ho.run cl hm F hr hb hd (fun σ => passAt tk σ) (fun {pins s σ H a Q} I h => ?_) ht) fun σ H Q ⟨τ, M, Qd, Ed, hs, hr, q, we, k⟩ => ⟨τ, M, _, Ed, hs, hr, q, we, fun d M1 v H1 q1 e1 r1 h1 => ?_⟩⟩
  · refine PySem.W.callWith_K (first := [.ref a]) (h₀ := X.base) I.ok.mod.kin hm.kp (thn (ha.run.run pos pins s σ H _ I h) fun us s2 ⟨vs, H2, I2, r, q2⟩ => ⟨I2.kIn, ?_⟩) hst hpl
    exact run_fnSD (us := .ref a :: us) (vs := .ref a :: vs) F hr hb hd (passAt tk σ) I2 (.cons rfl r) q2
  · dsimp only at q1
    split at q1
    · rename_i a
      split at q1
      · rename_i C' fs ea
        obtain ⟨rfl, hl, q1⟩ := q1
        obtain ⟨dx, vs, hv, fdd⟩ := h1.ins ea
        refine ⟨a, dx, vs, r1.toRef, hv, fdd.look_none hl, τ, M1, _, Ed, hs.mono e1, h1, q1, we, fun ds M2 us H2 q2 e2 r2 h2 => ?_⟩
        exact spIn (dvs := dvs) (hs.mono (e1.trans e2)) q2 (.cons (.ref a) (r2.append (hdd H2))) h2 we (k.mono (e1.trans e2))
      · exact q1.elim
    · exact q1.elim
theorem pd_meth0 {pl : Sem Bool} (F : MetD X.prog X.w X.K X.mg X.base k C m ps dds sp) (hr : Room k X.A) (tk : Takes X (liftW X.K W)) (ho : PD X W o to)
    (ht : eval (.Call (.Attribute o m apos) [] [] pos) X.env = (do
      let ov ← eval o X.env
      standAt apos.atName
      let (f, first) ← holding [ov] (getMethod ov m pl)
      callWith pos f first (backTo pos (starEach [] X.env)) (backToKw pos (keywordEach [] X.env))) := by rfl) : PD X W (.Call (.Attribute o m apos) [] [] pos) (dMeth C m sp dds to dNil) := by
  obtain ⟨f, fd, dvs, ds0, cl, hm, F, hb, hd, hdd⟩ := F.ex
  refine ⟨PEimp (methS (E := WE (liftW X.K W)) (ta := tNil) ho.run cl hm F hr hb hd (fun σ => passAt tk σ) (fun {pins s σ H a Q} I h => ?_) ht) fun σ H Q ⟨τ, M, Qd, Ed, hs, hr, q, we, k⟩ => ⟨τ, M, _, Ed, hs, hr, q, we, fun d M1 v H1 q1 e1 r1 h1 => ?_⟩⟩
  · exact PySem.W.callWith_K0 (first := [.ref a]) I.kIn hm.kp (run_fnSD (us := [.ref a]) (vs := [.ref a]) F hr hb hd (passAt tk σ) I (.cons rfl .nil) h)
  · dsimp only at q1
    split at q1
    · rename_i a
      split at q1
      · rename_i C' fs ea
        obtain ⟨rfl, hl, q1⟩ := q1
        obtain ⟨dx, vs, hv, fdd⟩ := h1.ins ea
        exact ⟨a, dx, vs, r1.toRef, hv, fdd.look_none hl, spIn (dvs := dvs) (hs.mono e1) q1 (.cons (.ref a) (by simpa using hdd H1)) h1 we (k.mono e1)⟩
      · exact q1.elim
    · exact q1.elim
/-- a new instance and its __init__, what is raised wished for at the slots -/
theorem makeS {f : Addr} {fd : FuncData} {dvs : List V} {ds0 : List Value} {pins : List (Addr × Obj)} {σ : St} {H : Hp} {s : Shared} {Q : VK} {us : List Value} {vs : List V} {E : XK} {sp' : Sp} (M : Mk X.K C f) (F : FnOk X.prog X.w X.K X.mg X.base (L2.CX X.prog X.w) k f fd ps sp') (hr : Room (k + 1) X.A)
    (hb : Binds X.K fd ps ds0) (hd : Vals dvs ds0) (hx : PassesAt (L2.CX X.prog X.w) X σ E) (I : Inv X pins σ H s) (r : Vals vs us)
    (h : ∀ x dx, H x = none → H dx = none → dx ≠ x → sp' (.ref x :: (vs ++ dvs)) (upd (upd H dx (.own x)) x (.ins C dx [])) (fun v H2 => v = .non ∧ Q (.ref x) H2) E) :
    wpAny (model X.prog X.w) X.A (call (.ref C) us) (EP X pins σ Q) X.xe s := by
  have n0 : s.heap.objs.size ≠ s.heap.objs.size + 1 := by omega
  have hq := h (s.heap.objs.size + 1) s.heap.objs.size (I.hok.fresh (by omega)) (I.hok.fresh (Nat.le_refl _)) n0
  have J := Inv.made (C := C) I
  have r2 : Vals (V.ref (s.heap.objs.size + 1) :: (vs ++ dvs)) (Value.ref (s.heap.objs.size + 1) :: (us ++ ds0)) := .cons rfl (r.append hd)
  have hl : (Value.ref (s.heap.objs.size + 1) :: us ++ ds0).length = ps.length := (F.len _ _ _ _ hq ▸ r2.length).symm
  refine wpAny_call (make_map (f := f) I.kIn M.makes M.init (beq_iff_eq.mp M.fn) (codeAny_mono (F.run _ X.stack _ _ ⟨Value.ref (s.heap.objs.size + 1) :: us, []⟩ _ _ _ E (hr.make C us []) (J.env0.make C us [])
    (hb _ (Value.ref (s.heap.objs.size + 1) :: us) J.kIn hl) r2 hq) fun res s' hq' => ?_))
  cases res with
  | error e => exact hx pins _ _ e s' J hq'
  | ok fl =>
    cases fl with
    | ret u =>
      obtain ⟨v, H', J2, rv, ev, q3⟩ := J.after hq'
      subst ev
      exact ⟨rv, ⟨V.ref (s.heap.objs.size + 1), H', J2, rfl, q3⟩⟩
    | _ => exact False.elim hq'
theorem HR.newIns {K : PySem.W.Frag} {H : Hp} {M : Mp} {x dx : Addr} (hr : HR K H M) (hx : H x = .none) (hd : H dx = .none) (n : dx ≠ x) : HR K (upd (upd H dx (.own x)) x (.ins C dx [])) (put M x (.ins C [])) :=
  (hr.fresh hd).made (noTup_none (by rw [upd_ne (Ne.symm n)]; exact hx)) ⟨dx, [], upd_same, trivial⟩
theorem TExt.newIns {K : PySem.W.Frag} {H : Hp} {x dx : Addr} (hx : H x = .none) (hd : H dx = .none) (n : dx ≠ x) : TExt K H (L2.upd (L2.upd H dx (.own x)) x (.ins C dx [])) :=
  (TExt.new hd).trans (TExt.new ((upd_ne (Ne.symm n)).trans hx))
theorem pd_make (F : MakD X.prog X.w X.K X.mg X.base k x C ps dds sp) (hr : Room (k + 1) X.A) (tk : Takes X (liftW X.K W)) (hg : Gl X x) (ha : PAD X W (e :: es) t)
    (hdb : (x == ("__debug__" : Str)) = false := by decide) (he : starEach (e :: es) X.env = (false, eval e X.env) :: starEach es X.env := by rfl) (hpl : (backTo pos (starEach es X.env)).any (·.1) = false := by rfl) :
    PD X W (.Call (.Name x p) (e :: es) [] pos) (dMake C sp dds t) := by
  obtain ⟨f, fd, dvs, ds0, M, hm, F, hb, hd, hdd⟩ := F.ex
  refine ⟨⟨fun pins s σ H Q I ⟨τ, Mm, Qd, Ed, hs, hr', q, we, k⟩ => wpAny_Call_Name_kw (ld_glob I hg hm ?_ hdb)⟩⟩
  refine PySem.W.callWith_K (h₀ := X.base) I.ok.mod.kin M.kp (thn (ha.run.run pos pins s σ H (fun vs H1 => ∀ a dx, H1 a = none → H1 dx = none → dx ≠ a → liftSp X.K sp (.ref a :: (vs ++ dvs)) (upd (upd H1 dx (.own a)) a (.ins C dx [])) (fun v H2 => v = .non ∧ Q (.ref a) H2) (WE (liftW X.K W) σ)) I
    ⟨τ, Mm, _, Ed, hs, hr', q, we, fun ds M1 vs H1 q1 e1 r1 h1 a dx ha hdx n => ?_⟩) fun us s1 ⟨vs, H1, I1, r, q1⟩ => ⟨I1.kIn, makeS M F hr hb hd (passAt tk σ) I1 r q1⟩) he hpl
  have e2 : TExt X.K H1 (upd (upd H1 dx (.own a)) a (.ins C dx [])) := .newIns ha hdx n
  exact spIn (dvs := dvs) (Qd := fun d M2 => d = .non ∧ Qd (.ref a) M2) (hs.mono (e1.trans e2)) (q1 a (h1.free ha)) (.cons (.ref a) ((r1.mono e2).append (hdd _))) (h1.newIns ha hdx n) we
    fun d M' v H' ⟨ed, h⟩ e' rv h' => ⟨by subst ed; exact rv.toNon, k _ M' _ H' h (e1.trans (e2.trans e')) (.ref a) h'⟩
/-- in a call's inner room -/
theorem run1 {f : Addr} {fd : FuncData} {pins : List (Addr × Obj)} {σ : St} {H : Hp} {s : Shared} {Q : VK} {us : List Value} {vs : List V} {E : XK} {sp' : Sp} (F : FnOk X.prog X.w X.K X.mg X.base (L2.CX X.prog X.w) k f fd ps sp') (hr : Room (k + 1) X.A) (hb : Binds X.K fd ps []) (hx : PassesAt (L2.CX X.prog X.w) X σ E)
    (I : Inv X pins σ H s) (r : Vals vs us) (h : sp' vs H Q E) : wpAny (model X.prog X.w) X.A.in1 (call (.ref f) us) (EP X pins σ Q) X.xe s := by
  have hl : (us ++ []).length = ps.length := by rw [List.append_nil, ← r.length]; exact F.len _ _ _ _ h
  have hb' := hb s us I.kIn hl
  rw [List.append_nil] at hb'
  refine wpAny_call (codeAny_mono (F.run X.A.in1 X.stack s H ⟨us, []⟩ us vs Q E hr.in1 I.env0.in1 hb' r h) fun res s' hq => ?_)
  cases res with
  | error e => exact hx pins H s e s' I hq
  | ok fl =>
    cases fl with
    | ret u => exact I.after hq
    | _ => exact False.elim hq
theorem pd_ixO {a b : Expr} (F : MetD X.prog X.w X.K X.mg X.base k C "__getitem__" ps [] sp) (hfn : ∀ f, PySem.W.findIn X.K (.ref C) "__getitem__" = some (some (.ref f)) → PySem.W.fnIn X.K f = true) (hr : Room (k + 1) X.A) (tk : Takes X (liftW X.K W)) (ho : PD X W a to) (hi : PD X W b ti)
    (hsl : ∀ x i, subscripted b true (.ref x) i = runValue (.builtin "lifetime.subscript" ⟨[.ref x, i], []⟩) := by intro _ _; with_unfolding_all rfl) : PD X W (.Subscript a b pos) (dIxO C sp to ti) := by
  obtain ⟨f, fd, dvs, ds0, cl, hm, F, hb, hd, hdd⟩ := F.ex
  have e0 : dvs = [] := (hdd H0n).nil_of
  subst e0
  have e1 : ds0 = [] := by cases hd; rfl
  subst e1
  refine ⟨⟨fun pins s σ H Q I ⟨τ, M, Qd, Ed, hs, hr', q, we, k⟩ => Subscript_ (binT (R := fun x y H2 => ∃ a dx fs, x = .ref a ∧ H2 a = some (.ins C dx fs) ∧ liftSp X.K sp [.ref a, y] H2 Q (WE (liftW X.K W) σ)) ho.run hi.run I
    ⟨τ, M, _, Ed, hs, hr', q, we, fun od M1 ov H1 q1 e1 r1 h1 => ⟨τ, M1, _, Ed, hs.mono e1, h1, q1, we, fun y M2 yv H2 q2 e2 r2 h2 => ?_⟩⟩ fun v u s2 x y H2 I2 rx ry ⟨a, dx, fs, ex, ea, q2⟩ => ?_)⟩⟩
  · dsimp only at q2
    split at q2
    · rename_i a
      split at q2
      · rename_i C' fs ea
        obtain ⟨rfl, q2⟩ := q2
        obtain ⟨dx, vs, hv, _⟩ := h2.ins ea
        exact ⟨a, dx, vs, (r1.mono e2).toRef, hv, spIn (dvs := []) (hs.mono (e1.trans e2)) q2 (.cons (.ref a) (.cons r2 .nil)) h2 we (k.mono (e1.trans e2))⟩
      · exact q2.elim
    · exact q2.elim
  · subst ex
    cases (show v = Value.ref a from rx)
    obtain ⟨m, Fr⟩ := I2.fr
    obtain ⟨mA, O, _⟩ := ins_get I2.hok ea
    obtain ⟨od, J, _⟩ := O.look
    exact PySem.W.sub_K Fr I2.ok.mod.kin J hm.at_ (hfn f hm.at_) hm.fn (run1 F hr hb (passAt tk σ) I2 (.cons (show RelV (.ref a) (.ref a) from rfl) (.cons ry .nil)) q2) (hsl a u)
end
end DL

set_option maxHeartbeats 4000000
namespace DL
open PySem L2
section
variable {X : Cx} {W : DW} {pos p p2 np pos' : Pos}
/-- what the written part says of an exception class of the program, without its own __init__ -/
structure ExcK (K : PySem.W.Frag) (mg : Str → Option Value) (x : Str) (C : Addr) : Prop where
  q : PySem.W.excIn K C [.type "ValueError", .type "Exception", .type "BaseException", .type "object"] "ValueError.__new__" = true
  m : mg x = some (.ref C)
  k : PySem.W.keepIn K (.ref C) = true
  s : PySem.W.subIn K (.ref C) (.type "BaseException") = some true
  t : PySem.W.typeIn K (.ref C) = some (.type "type")
def dRaise (C : Addr) : DS := fun Dn τ M => Dn.ex ⟨.ref C, none, []⟩ τ M
theorem psd_raise {x m : Str} {C : Addr} {j : Nat} (E : ExcK X.K X.mg x C) (hc : X.calm = true) (tk : Takes X (liftW X.K W)) (hg : Gl X x) (hdb : (x == ("__debug__" : Str)) = false := by decide) :
    PSD X W (.Raise (some (.Call (.Name x p) [.Constant (.str m) j p2] [] pos')) none pos) (dRaise C) :=
  ⟨PSimp (ps_raise hc tk (pmk_own PySem.F.excBase_ValueError E.q E.m E.k (raises_own E.s E.t) hg hdb)) fun De σ H ⟨τ, M, Dd, hs, hr, q, we, nc⟩ =>
    ⟨⟨.ref C, none, []⟩, τ, M, hs, hr, ⟨rfl, rfl, fun dx e => by cases e⟩, we _ τ M q⟩⟩
theorem RS.setN {K : PySem.W.Frag} {H0 H : Hp} {σ : St} {τ : Sl} (h : RS K H0 H σ τ) (i : Nat) : RS K H0 H (σ.set i none) (τ.set i none) := ⟨h.ext, by simpa using h.len, fun j e q => by
  by_cases c : i = j
  · subst c
    by_cases hi : i < τ.length
    · rw [List.getElem?_set_self hi] at q; cases q
    · rw [List.getElem?_eq_none (by simpa using hi)] at q; cases q
  · rw [List.getElem?_set_ne c] at q ⊢
    exact h.at_ j e q⟩
/-- the exception's own attributes beside the rest -/
def caught (x : DX) (M : Mp) : Mp := match x.d with
  | some dx => put M dx (.xd x.fs)
  | none => M
theorem caught_ok {K : PySem.W.Frag} {H : Hp} {M : Mp} {cls : Value} {d : Option Addr} {x : DX} (h : HR K H M) (xr : XR K H cls d x) : HR K H (caught x M) := by
  unfold caught
  obtain ⟨_, e, r⟩ := xr
  cases hd : x.d with
  | none => exact h
  | some dx =>
    intro a o q
    by_cases c : a = dx
    · subst c
      have q' : put M a (.xd x.fs) a = some o := q
      rw [put_same] at q'
      cases q'
      exact r a (by rw [e, hd])
    · have q' : put M dx (.xd x.fs) a = some o := q
      rw [put_ne c] at q'
      exact h a o q'
/-- what an exception of the body meets; c the class that is named, i the name's slot -/
def hAs (K : PySem.W.Frag) (c : Value) (i : Nat) (ts : DX → Addr → DS) (Dn : DN) : DX → Sl → Mp → Prop := fun x τ M =>
  ∃ b, PySem.W.exmOne K x.cls c = some b ∧ (b = true → ∀ a, M a = none → ts x a { nx := fun τ' M' => Dn.nx (τ'.set i none) M', rt := Dn.rt, bk := fun τ' M' => Dn.bk (τ'.set i none) M', ct := fun τ' M' => Dn.ct (τ'.set i none) M' } (τ.set i (some (.ref a))) (caught x M)) ∧
    (b = false → Dn.ex x τ M)
def dTryAs (K : PySem.W.Frag) (c : Value) (i : Nat) (t : DS) (ts : DX → Addr → DS) : DS := fun Dn τ M => t { Dn with ex := hAs K c i ts Dn } τ M
def Wn (H0 : Hp) : DW := ⟨H0, fun _ _ _ => False⟩
theorem RS.base {K : PySem.W.Frag} {H0 H1 H : Hp} {σ : St} {τ : Sl} (h : RS K H1 H σ τ) (e : TExt K H0 H) : RS K H0 H σ τ := ⟨e, h.len, h.at_⟩
theorem NC.base {K : PySem.W.Frag} {H0 H : Hp} {Dd : DN} {De : Ends} (h : NC K H0 H Dd De) (e : TExt K H0 H) : NC K H H Dd De :=
  ⟨fun τ M σ H' q x rs hr => h.nx τ M σ H' q x (rs.base (e.trans x)) hr, h.rt, fun τ M σ H' q x rs hr => h.bk τ M σ H' q x (rs.base (e.trans x)) hr, fun τ M σ H' q x rs hr => h.ct τ M σ H' q x (rs.base (e.trans x)) hr⟩
theorem psd_try_as {x n : Str} {c : Value} {i : Nat} {body suite : List Stmt} {b₀ : Stmt} {t : DS} {ts : DX → Addr → DS} (hs : X.stack = X.env :: X.outer) (hf : X.env.frame = some X.env.locals) (hN : X.N.Nodup) (hi : X.N[i]? = some n) (hln : X.env.kindOf n = some .local) (hc : Names X x c) (tk : Takes X (liftW X.K W))
    (hb : ∀ (W' : DW) (pn : List (Addr × Obj)) (xe : Value → Shared → Prop), Takes (X.tr pn xe) (liftW X.K W') → PassesOwn (model X.prog X.w) X.A X.env xe → PSsD (X.tr pn xe) W' body t)
    (hsu : ∀ (y : DX) (a : Addr) (oe : Obj) (pn : List (Addr × Obj)), Zc y.cls y.d oe → (∃ vs, oe.data = .fields vs) → PSsD (X.suite a ((a, oe) :: pn)) (Wn W.h0) (b₀ :: suite) (ts y a)) :
    PSD X W (.Try body [.ExceptHandler (some (.Name x np)) (some n) (b₀ :: suite) pos'] [] [] pos) (dTryAs X.K c i t ts) := by
  refine ⟨PSimp (ps_try_as (tb := fun Wx De σ H => ∃ W' : DW, (∀ cls d σ H, liftW X.K W' cls d σ H → Wx cls d σ H) ∧ liftS X.K W' t De σ H) (ts := fun a cls d De σ H => ∃ y, cls = y.cls ∧ d = y.d ∧ liftS X.K (Wn W.h0) (ts y a) De σ H)
    (Wout := liftW X.K W) hs hf hN hi hln hc tk (fun Wx pn xe htk hpo => ⟨fun pins s σ H De I ⟨W', hw, h⟩ => (hb W' pn xe (htk.imp hw) hpo).run.run pins s σ H De I h⟩) (fun a oe cls d pn hz hd => ⟨fun pins s σ H De I ⟨y, e1, e2, h⟩ => ?_⟩)) fun De σ H ⟨τ, M, Dd, hs, hr, q, we, nc⟩ => ?_⟩
  · subst e1; subst e2
    exact (hsu y a oe pn hz hd).run.run pins s σ H De I h
  · refine ⟨⟨H, fun y τ' M' => hAs X.K c i ts Dd y τ' M'⟩, ?_, τ, M, { Dd with ex := hAs X.K c i ts Dd }, hs.base .refl, hr, q, fun y τ' M' h => h, (nc.base hs.ext).nx, (nc.base hs.ext).rt, (nc.base hs.ext).bk, (nc.base hs.ext).ct⟩
    rintro cls d σ' H' ⟨y, τ', M', hs', hr', xr, b, hb1, hy, hn⟩
    refine ⟨b, by rw [xr.1]; exact hb1, fun eb a ha => ⟨y, xr.1, xr.2.1, τ'.set i (some (.ref a)), caught y M', _, (hs'.base (hs.ext.trans hs'.ext)).set (.ref a), caught_ok hr' xr, hy eb a (hr'.free ha), fun _ _ _ z => z.elim, ?_⟩, fun eb => ⟨y, τ', M', hs'.base (hs.ext.trans hs'.ext), hr', xr, we y τ' M' (hn eb)⟩⟩
    exact ⟨fun τ2 M2 σ2 H2 q2 e2 rs2 hr2 => nc.nx _ M2 _ H2 q2 (hs'.ext.trans e2) (rs2.setN i) hr2, fun d2 M2 v H2 q2 e2 => nc.rt d2 M2 v H2 q2 (hs'.ext.trans e2), fun τ2 M2 σ2 H2 q2 e2 rs2 hr2 => nc.bk _ M2 _ H2 q2 (hs'.ext.trans e2) (rs2.setN i) hr2, fun τ2 M2 σ2 H2 q2 e2 rs2 hr2 => nc.ct _ M2 _ H2 q2 (hs'.ext.trans e2) (rs2.setN i) hr2⟩
/-- isinstance(e, C) of the exception that the suite holds -/
def isxG (K : PySem.W.Frag) (y : DX) (a : Addr) : DG := fun ds M Q => match ds with
  | [.ref a', c] => a' = a ∧ y.d = none ∧ ∃ D b cv, y.cls = .ref D ∧ ExcC K D ∧ ((∃ C, c = .ref C ∧ cv = .ref C) ∨ ∃ n, c = .ty n ∧ cv = .type n) ∧ PySem.W.kitOne K (.ref D) cv = some b ∧ Q (.bl b) M
  | _ => False
theorem call_isxG {y : DX} {a : Addr} {oe : Obj} {pn : List (Addr × Obj)} (hz : Zc y.cls y.d oe) (hf : ∃ vs, oe.data = .fields vs) : CallR (X.suite a ((a, oe) :: pn)) (.builtin "isinstance") (liftC X.K (isxG X.K y a)) := by
  intro pins s σ H xs us Q I rs ⟨ds, M, Qd, q, r, hr, k⟩
  unfold isxG at q
  split at q
  · rename_i a' c
    obtain ⟨rfl, hd, D, b, cv, ec, C, hc, kk, q⟩ := q
    obtain ⟨v, v', rfl, rv, rv'⟩ := r.two
    obtain ⟨u1, u2, rfl, r1, r2⟩ := vals2 rs
    rw [rv.toRef] at r1
    cases (show u1 = Value.ref a' from r1)
    have e2 : u2 = cv := by
      rcases hc with ⟨C', rfl, rfl⟩ | ⟨n, rfl, rfl⟩
      · rw [rv'.toRef] at r2; exact r2
      · rw [rv'.toTy] at r2; exact r2
    subst e2
    obtain ⟨hget, _⟩ := I.pin (a', oe) (List.mem_append.mpr (.inl List.mem_cons_self))
    obtain ⟨vs, hv⟩ := hf
    have J : PySem.W.InstAt s.heap a' oe D none := ⟨hget, by rw [hz.1]; exact ec, by unfold PySem.W.notCls; rw [hv] <;> rfl, by rw [hz.2, hd]; trivial⟩
    exact PySem.W.kia_one (PySem.W.handS_kitx_exc C.hg C.hk C.hs C.hd C.ha C.hn C.ht C.hm) I.kIn J kk (fun z => nomatch z) fun tk => ⟨.bl b, H, I.kept (t' := tk) fun _ _ z => z, rfl, k _ M _ H q .refl (.bl _) hr⟩
  · exact q.elim
end
end DL

set_option maxHeartbeats 4000000
namespace PySem
namespace DLmul
open PySem.SeqAt
open PySem.AutoSeq1 (wpAny_loadPart')
open PySem.MeetsSeq PySem.MeetsSeq2 PySem.MeetsSeq3 PySem.SeqRoads2
/-- once, or an empty one: the tuple itself -/
theorem mul_self (l : Addr) (items : Array Value) (n : Nat) (dd : Option Addr) (sl : Array (Option Value)) (x : Int) (u : Tok) (c0 : (decide (x < -(2 ^ 63)) || decide (x ≥ 2 ^ 63)) = false) (c1 : (items.isEmpty || x == 1) = true) :
    Meets (Builtin.«tuple.__mul__» ⟨[.ref l, .int x u], []⟩) (fun _ R s => s.heap.get? l = some { cls := .type "tuple", dict := dd, data := .seq items n, slots := sl } ∧ R (.ok (.ret (.ref l))) s) :=
  .of_wp fun prog w A R s h => by
    obtain ⟨hp, g, d, tk, os⟩ := s
    obtain ⟨hl, h⟩ := h
    have f1 := AutoSeq1.idx_int
    wp_walk using wpAny_loadPart' hl
    repeat (first
      | (refine wpAny_ite_false (decide_eq_false (by rw [c0]; exact Bool.false_ne_true)) ?_; wp_walk using wpAny_loadPart' hl)
      | (refine wpAny_ite_true (decide_eq_true c1) ?_; wp_walk using wpAny_loadPart' hl))
    exact ⟨_, rfl, h⟩
theorem mul_zero (l : Addr) (items : Array Value) (n : Nat) (dd : Option Addr) (sl : Array (Option Value)) (x : Int) (u : Tok) (c0 : (decide (x < -(2 ^ 63)) || decide (x ≥ 2 ^ 63)) = false) (c1 : (items.isEmpty || x == 1) = false) (c2 : (decide (x ≤ 0) || items.isEmpty) = true) :
    Meets (Builtin.«tuple.__mul__» ⟨[.ref l, .int x u], []⟩) (fun _ R s => s.heap.get? l = some { cls := .type "tuple", dict := dd, data := .seq items n, slots := sl } ∧ R (.ok (.ret (.ref s.heap.objs.size))) { s with heap := s.heap.push { cls := .type "tuple", data := .seq #[] } }) :=
  .of_wp fun prog w A R s h => by
    obtain ⟨hp, g, d, tk, os⟩ := s
    obtain ⟨hl, h⟩ := h
    have f1 := AutoSeq1.idx_int
    wp_walk using wpAny_loadPart' hl
    repeat (first
      | (refine wpAny_ite_false (decide_eq_false (by rw [c0]; exact Bool.false_ne_true)) ?_; wp_walk using wpAny_loadPart' hl)
      | (refine wpAny_ite_false (decide_eq_false (by rw [c1]; exact Bool.false_ne_true)) ?_; wp_walk using wpAny_loadPart' hl)
      | (refine wpAny_ite_true (decide_eq_true c2) ?_; wp_walk using wpAny_loadPart' hl))
    exact ⟨_, rfl, h⟩
end DLmul
end PySem

namespace DL
open PySem L2
theorem bt_tuple : bootBuiltins "tuple" = some (.type "tuple") := by decide +kernel
theorem bt_list : bootBuiltins "list" = some (.type "list") := by decide +kernel
theorem bt_int : bootBuiltins "int" = some (.type "int") := by decide +kernel
theorem bt_str : bootBuiltins "str" = some (.type "str") := by decide +kernel
theorem bt_bool : bootBuiltins "bool" = some (.type "bool") := by decide +kernel
theorem bt_dict : bootBuiltins "dict" = some (.type "dict") := by decide +kernel
theorem bt_ValueError : bootBuiltins "ValueError" = some (.type "ValueError") := by decide +kernel
theorem bt_len : bootBuiltins "len" = some (.builtin "len") := by decide +kernel
theorem bt_isinstance : bootBuiltins "isinstance" = some (.builtin "isinstance") := by decide +kernel
theorem bt_all : bootBuiltins "all" = some (.builtin "all") := by decide +kernel
theorem bt_any : bootBuiltins "any" = some (.builtin "any") := by decide +kernel
theorem bt_max : bootBuiltins "max" = some (.builtin "max") := by decide +kernel
theorem bt_min : bootBuiltins "min" = some (.builtin "min") := by decide +kernel
section
variable {X : Cx} {W : DW} {pos : Pos}
theorem tk0 : Takes X (liftW X.K W0) := (takes0 (X := X)).imp fun _ _ _ _ ⟨_, _, _, _, _, _, h⟩ => h
theorem tkn {H0 : Hp} : Takes X (liftW X.K (Wn H0)) := (takes0 (X := X)).imp fun _ _ _ _ ⟨_, _, _, _, _, _, h⟩ => h
/-- a built-in class as a value -/
theorem pd_ty {x : Str} {n : String} (hg : Gl X x) (hm : X.mg x = none) (hv : bootBuiltins x = some (.type n)) (hn : x ≠ "__name__" := by decide) (hd : (x == ("__debug__" : Str)) = false := by decide) : PD X W (.Name x pos) (dC (.ty n)) :=
  pd_c (pe_bltn (v := .ty n) hg hm hv rfl hn hd) fun _ => .ty n
/-- a class of the program as a value -/
theorem pd_cls {x : Str} {C : Addr} (hg : Gl X x) (hm : X.mg x = some (.ref C)) (hd : (x == ("__debug__" : Str)) = false := by decide) : PD X W (.Name x pos) (dC (.ref C)) :=
  pd_c (pe_glob (v := .ref C) hg hm rfl hd) fun _ => .ref C
/-- a constant of the module -/
theorem pd_gint {x : Str} {i : Int} {t : Tok} (hg : Gl X x) (hm : X.mg x = some (.int i t)) (hd : (x == ("__debug__" : Str)) = false := by decide) : PD X W (.Name x pos) (dC (.int i)) :=
  pd_c (pe_glob (v := .int i) hg hm ⟨t, rfl⟩ hd) fun _ => .int i
theorem pd_gstr {x : Str} {z : Str} {t : Tok} (hg : Gl X x) (hm : X.mg x = some (.str z t)) (hd : (x == ("__debug__" : Str)) = false := by decide) : PD X W (.Name x pos) (dC (.str z)) :=
  pd_c (pe_glob (v := .str z) hg hm ⟨t, rfl⟩ hd) fun _ => .str z
/-- t * k, any k -/
def rRepA (K : PySem.W.Frag) : R2 := fun x y H Q => ∃ l k xs, x = .ref l ∧ y = .int k ∧ SqT K H l xs ∧ -(2 ^ 63) ≤ k ∧ k < 2 ^ 63 ∧ xs.length * k.toNat ≤ sizeLine ∧ (xs = [] ∨ k = 1 → Q (.ref l) H) ∧
  (¬ (xs = [] ∨ k = 1) → ∀ p, H p = none → Q (.ref p) (upd H p (.tup (List.replicate k.toNat xs).flatten)))
theorem op_repA : OpR X (binaryOp .Mult) (rRepA X.K) := by
  intro pins s σ H x y v u Q I rx ry ⟨l, k, xs, ex, ey, hT, k1, k2, hz, q1, q2⟩
  subst ex; subst ey
  cases rx
  obtain ⟨t, rfl⟩ := ry
  obtain ⟨its, r, ⟨⟨cls, dd, data, sl⟩, ho, hc, n, hd⟩, hs⟩ := I.tuple hT
  simp only at hc hd
  subst hc hd
  have hle : its.length = xs.length := r.length.symm
  have c0 : (decide (k < -(2 ^ 63)) || decide (k ≥ 2 ^ 63)) = false := by simp; omega
  have he : its.toArray.isEmpty = decide (xs = []) := by
    cases r with
    | nil => simp
    | cons _ _ => simp
  have road : ∀ {P : Builtin → (Result → Shared → Prop) → Shared → Prop} {b : Fin → Prop}, True := fun {_ _} => trivial
  have go : wpAny (model X.prog X.w) X.A (call (.builtin "tuple.__mul__") [.ref l, .int k t]) (EP X pins σ Q) X.xe s → wpAny (model X.prog X.w) X.A (binaryOp .Mult (.ref l) (.int k t)) (EP X pins σ Q) X.xe s := fun h =>
    wpAny_binaryOp_repeat_ref (T := "tuple") (U := "int") (by decide) ⟨_, ho, rfl⟩ (fun s' => typeIs_int s' k t) noFill_tuple_mul F.fills_int_mul F.slot_int_rmul repeat_tuple F.slot_int_index.lookup
      (call_meets F.slot_int_rmul (typeIs_int s k t) F.entry_int_rmul (F.args_int_rmul_2 _ _) (int_rmul_tuple k t l its.toArray n dd sl) ⟨ho, rfl, ⟨_, ho, rfl⟩, h⟩)
  by_cases hw : xs = [] ∨ k = 1
  · refine go (call_meets F.slot_tuple_mul ⟨_, ho, rfl⟩ F.entry_tuple_mul (F.args_tuple_mul_2 _ _) (DLmul.mul_self l its.toArray n dd sl k t c0 ?_) ⟨ho, ⟨.ref l, H, I, rfl, q1 hw⟩⟩)
    rw [he]
    rcases hw with h | h <;> simp [h]
  · have hx : xs ≠ [] := fun e => hw (.inl e)
    have hk : k ≠ 1 := fun e => hw (.inr e)
    have c1 : (its.toArray.isEmpty || k == 1) = false := by rw [he]; simp [hx, hk]
    by_cases hp : k ≤ 0
    · refine go (call_meets F.slot_tuple_mul ⟨_, ho, rfl⟩ F.entry_tuple_mul (F.args_tuple_mul_2 _ _) (DLmul.mul_zero l its.toArray n dd sl k t c0 c1 (by simp [hp])) ⟨ho, ?_⟩)
      have e0 : k.toNat = 0 := by omega
      refine ⟨.ref s.heap.objs.size, _, I.laid (t' := s.toks) (o := .tup []) (fun b ob q => Heap.get?_push_of_some _ q) (Nat.le_refl _) ⟨Nat.zero_le _, [], .nil, PyProof.Rows.IsTup.new _ _⟩, rfl, ?_⟩
      have := q2 hw s.heap.objs.size (I.hok.fresh (Nat.le_refl _))
      rw [e0] at this
      exact this
    · have hsz : (List.replicate k.toNat its).flatten.length ≤ sizeLine := by rw [PyProof.Rows.lm_len_rep_flat, hle, Nat.mul_comm]; exact hz
      have hm : ((its.toArray.size : Nat) : Int) * k ≤ 16777216 := by
        have e1 : k = (k.toNat : Int) := by omega
        rw [sizeLine_eq] at hz
        rw [e1, List.size_toArray, hle, ← Int.natCast_mul]
        exact Int.ofNat_le.mpr hz
      refine go (call_meets F.slot_tuple_mul ⟨_, ho, rfl⟩ F.entry_tuple_mul (F.args_tuple_mul_2 _ _) (tuple_mulW l its.toArray n dd sl k t c0 c1 (by rw [he]; simp [hx]; omega) (by omega) ?_ (by rw [size_rep, List.size_toArray]; exact hsz)) ⟨ho, ?_⟩)
      · unfold Builtin.Tuple.tupleTooMany
        rw [sizeLine_eq]
        exact decide_eq_false (by omega)
      · rw [size_rep]
        exact ⟨.ref s.heap.objs.size, _, I.laid (t' := s.toks) (o := .tup (List.replicate k.toNat xs).flatten) (fun b ob q => Heap.get?_push_of_some _ q) (Nat.le_refl _) ⟨by rw [PyProof.Rows.lm_len_rep_flat, Nat.mul_comm]; exact hz, _, r.rep k.toNat, PyProof.Rows.IsTup.new _ _⟩, rfl, q2 hw _ (I.hok.fresh (Nat.le_refl _))⟩
/-- * -/
def mulD : DO := fun x y M Q => match x, y with
  | .int i, .int j => CMulX i j ∧ Q (.int (i * j)) M
  | .tup xs, .int k => (-(2 ^ 63) ≤ k ∧ k < 2 ^ 63 ∧ xs.length * k.toNat ≤ sizeLine) ∧ Q (.tup (List.replicate k.toNat xs).flatten) M
  | .ref a, .int k => match M a with
    | some (.lst xs) => (-(2 ^ 63) ≤ k ∧ k < 2 ^ 63 ∧ xs.length * k.toNat ≤ sizeLine) ∧ ∀ p, M p = none → Q (.ref p) (put M p (.lst (List.replicate k.toNat xs).flatten))
    | _ => False
  | _, _ => False
theorem op_mulD : OpR X (binaryOp .Mult) (liftO X.K mulD) :=
  OpRimp ((op_mulX (X := X)).or ((op_repA (X := X)).or (op_rep (X := X)))) fun x y H Q ⟨dx, dy, M, Qd, q, a, b, c, k⟩ => by
    unfold mulD at q
    split at q
    · exact .inl ⟨_, _, a.toInt, b.toInt, q.1, k _ M _ H q.2 .refl (.int _) c⟩
    · rename_i xs kk
      obtain ⟨pa, va, rfl, sa, la⟩ := a.toTup
      obtain ⟨⟨k2, k3, z⟩, q⟩ := q
      refine .inr (.inl ⟨pa, kk, va, rfl, b.toInt, sa, k2, k3, by rw [la.length]; exact z, fun e => ?_, fun _ p hp => k.tup c (la.rep _) hp q⟩)
      rcases e with e | e
      · subst e
        have e' : xs = [] := by cases la; rfl
        subst e'
        have e2 : (List.replicate kk.toNat ([] : List D)).flatten = [] := by simp
        rw [e2] at q
        exact k _ M _ H q .refl (.tup sa la) c
      · subst e
        have e2 : (List.replicate (1 : Int).toNat xs).flatten = xs := by simp
        rw [e2] at q
        exact k _ M _ H q .refl (.tup sa la) c
    · rename_i pa kk
      split at q
      · rename_i xs e1
        obtain ⟨va, ha, la⟩ := c.lst e1
        obtain ⟨⟨k1, k2, z⟩, q⟩ := q
        exact .inr (.inr ⟨pa, kk, va, a.toRef, b.toInt, ha, k1, k2, by rw [la.length]; exact z, fun p hp => k.lst c (la.rep _) hp q⟩)
      · exact q.elim
    · exact q.elim
/-- a < b < c -/
def dChain (g g' : DO) (ta tb tc : DE) : DE := fun τ M Q E => ta τ M (fun x M1 => tb τ M1 (fun y M2 => g x y M2 (fun z M3 => match z with
  | .bl k => if k = true then tc τ M3 (fun z2 M4 => g' y z2 M4 Q) E else Q (.bl false) M3
  | _ => False)) E) E
theorem dChain_lift {g g' : DO} {ta tb tc : DE} {σ : L2.St} {H : Hp} {Q : VK} (h : liftE X.K W (dChain g g' ta tb tc) σ H Q) : tChain (liftO X.K g) (liftO X.K g') (liftE X.K W ta) (liftE X.K W tb) (liftE X.K W tc) σ H Q := by
  obtain ⟨τ, M, Qd, Ed, hs, hr, q, we, k⟩ := h
  refine ⟨τ, M, _, Ed, hs, hr, q, we, fun x M1 v H1 q1 e1 r1 h1 => ⟨τ, M1, _, Ed, hs.mono e1, h1, q1, we, fun y M2 u H2 q2 e2 r2 h2 => ?_⟩⟩
  refine ⟨x, y, M2, _, q2, r1.mono e2, r2, h2, fun z M3 zv H3 q3 e3 r3 h3 => ?_⟩
  dsimp only at q3
  split at q3
  · rename_i b
    refine ⟨b, r3.toBl, ?_⟩
    cases b with
    | false => exact k _ M3 _ H3 (by simpa using q3) (e1.trans (e2.trans e3)) (.bl _) h3
    | true =>
      simp only [if_true] at q3 ⊢
      exact ⟨τ, M3, _, Ed, hs.mono (e1.trans (e2.trans e3)), h3, q3, we, fun w M4 wv H4 q4 e4 r4 h4 => ⟨y, w, M4, Qd, q4, r2.mono (e3.trans e4), r4, h4, k.mono (e1.trans (e2.trans (e3.trans e4)))⟩⟩
  · exact q3.elim
theorem pd_chain {op op' : CmpOp} {g g' : DO} {a b c : Expr} {ta tb tc : DE} (ho : OpR X (compareOp op) (liftO X.K g)) (ho' : OpR X (compareOp op') (liftO X.K g')) (ha : PD X W a ta) (hb : PD X W b tb) (hc : PD X W c tc)
    (hm : lastMarks [op, op'] [b, c] = false := by with_unfolding_all rfl) : PD X W (.Compare a [op, op'] [b, c] pos) (dChain g g' ta tb tc) := ⟨PEimp (pe_chain ho ho' ha.run hb.run hc.run hm) fun _ _ _ h => dChain_lift h⟩
theorem ptd_chain {op op' : CmpOp} {g g' : DO} {a b c : Expr} {ta tb tc : DE} (ho : OpR X (compareOp op) (liftO X.K g)) (ho' : OpR X (compareOp op') (liftO X.K g')) (ha : PD X W a ta) (hb : PD X W b tb) (hc : PD X W c tc)
    (hm : lastMarks [op, op'] [b, c] = false := by with_unfolding_all rfl) : PTD X W (.Compare a [op, op'] [b, c] pos) (dB (dChain g g' ta tb tc)) :=
  ⟨PTimp (pt_chain ho ho' ha.run hb.run hc.run hm) fun σ H Q h => dChain_lift (Q := fun x H1 => ∃ k, x = .bl k ∧ Q k H1) (W := W) (by
    obtain ⟨τ, M, Qd, Ed, hs, hr, q, we, k⟩ := h
    exact ⟨τ, M, _, Ed, hs, hr, q, we, fun d M1 v H1 q1 e1 r1 h1 => by
      dsimp only at q1
      split at q1
      · exact ⟨_, r1.toBl, k _ M1 H1 q1 e1 h1⟩
      · exact q1.elim⟩)⟩
end
end DL
namespace DL
open PySem L2
/-! ### loops by an invariant -/
theorem dLoop_inv {g : DGt} {tb : DS} {kp : Mp → Prop} {Dn : DN} {its : List D} (I : Nat → Sl → Mp → Prop) (hk : ∀ i τ M, i ≤ its.length → I i τ M → kp M)
    (hs : ∀ (i : Nat) (d : D) (τ : Sl) (M : Mp) (nxt : Sl → Mp → Prop), its[i]? = some d → I i τ M → (∀ τ' M', I (i + 1) τ' M' → nxt τ' M') → g d τ M fun τ2 M2 => tb { Dn with nx := nxt, ct := nxt, bk := Dn.nx } τ2 M2)
    (hd : ∀ τ M, I its.length τ M → Dn.nx τ M) {τ : Sl} {M : Mp} (h0 : I 0 τ M) : dLoop g tb kp its Dn τ M := by
  have go : ∀ (n i : Nat), its.length - i = n → i ≤ its.length → ∀ τ M, I i τ M → dLoop g tb kp (its.drop i) Dn τ M := by
    intro n
    induction n with
    | zero =>
      intro i e hi τ M h
      have : i = its.length := by omega
      subst this
      rw [List.drop_length]
      exact ⟨hk _ _ _ hi h, hd τ M h⟩
    | succ n ih =>
      intro i e hi τ M h
      have hlt : i < its.length := by omega
      rw [List.drop_eq_getElem_cons hlt]
      exact ⟨hk _ _ _ hi h, hs i _ τ M _ (by simp [hlt]) h fun τ' M' h' => ih (i + 1) (by omega) hlt τ' M' h'⟩
  simpa using go _ 0 rfl (Nat.zero_le _) τ M h0
theorem dCL_inv {g : D → Sl → Sl} {tt : DT} {te : DE} {kp : Mp → Prop} {p : Addr} {τ : Sl} {F : Mp → Prop} {its : List D} (I : Nat → Mp → Prop) (hk : ∀ i M, i ≤ its.length → I i M → kp M)
    (hs : ∀ (i : Nat) (d : D) (M : Mp) (nxt : Mp → Prop), its[i]? = some d → I i M → (∀ M', I (i + 1) M' → nxt M') → tt (g d τ) M (fun b M1 => if b = true then te (g d τ) M1 (fun y M2 => match M2 p with
      | some (.lst acc) => acc.length < sizeLine ∧ nxt (put M2 p (.lst (acc ++ [y])))
      | _ => False) noE else nxt M1) noE)
    (hd : ∀ M, I its.length M → F M) {M : Mp} (h0 : I 0 M) : dCL g tt te kp p τ F its M := by
  have go : ∀ (n i : Nat), its.length - i = n → i ≤ its.length → ∀ M, I i M → dCL g tt te kp p τ F (its.drop i) M := by
    intro n
    induction n with
    | zero =>
      intro i e hi M h
      have : i = its.length := by omega
      subst this
      rw [List.drop_length]
      exact ⟨hk _ _ hi h, hd M h⟩
    | succ n ih =>
      intro i e hi M h
      have hlt : i < its.length := by omega
      rw [List.drop_eq_getElem_cons hlt]
      exact ⟨hk _ _ hi h, hs i _ M _ (by simp [hlt]) h fun M' h' => ih (i + 1) (by omega) hlt M' h'⟩
  simpa using go _ 0 rfl (Nat.zero_le _) M h0
end DL

set_option maxHeartbeats 4000000
namespace DL
open PySem L2
/-! ### tuples of ints in readings -/
def T (xs : List Int) : D := .tup (xs.map D.int)
variable {xs ys : List Int} {M : Mp} {Q : DK} {i j : Int}
theorem T_inj : T xs = T ys ↔ xs = ys := by
  unfold T
  constructor
  · intro h
    injection h with h
    exact (List.map_inj_right (fun a b e => by injection e)).mp h
  · rintro rfl; rfl
theorem getD_of {n : Nat} (h : n < xs.length) : xs[n]? = some (xs.getD n 0) := by
  rw [List.getD_eq_getElem?_getD, List.getElem?_eq_getElem h]; rfl
theorem lenG_T : lenG [T xs] M Q = Q (.int xs.length) M := by simp [lenG, lenD, T]
theorem ixN_in {n : Nat} (h0 : 0 ≤ i) (h1 : i < n) : ixN n i = some i.toNat := by
  unfold ixN
  rw [if_pos h0, if_pos h1]
theorem atI_T (h0 : 0 ≤ i) (h1 : i < xs.length) : atI (xs.map D.int) i = some (.int (xs.getD i.toNat 0)) := by
  unfold atI
  rw [List.length_map, ixN_in h0 h1]
  show (xs.map D.int)[i.toNat]? = _
  rw [List.getElem?_map, getD_of (by omega)]
  rfl
theorem ixG_T (h0 : 0 ≤ i) (h1 : i < xs.length) : ixG (T xs) (.int i) M Q = Q (.int (xs.getD i.toNat 0)) M := by
  unfold T ixG
  simp only
  rw [atI_T h0 h1]
theorem addD_T : addD (T xs) (T ys) M Q = (xs.length + ys.length ≤ sizeLine ∧ Q (T (xs ++ ys)) M) := by
  unfold T addD
  simp only [List.length_map, List.map_append]
theorem mulD_T {k : Int} : mulD (T xs) (.int k) M Q = ((-(2 ^ 63) ≤ k ∧ k < 2 ^ 63 ∧ xs.length * k.toNat ≤ sizeLine) ∧ Q (T (List.replicate k.toNat xs).flatten) M) := by
  unfold T mulD
  simp only [List.length_map, List.map_flatten, List.map_replicate]
theorem okL_ints : okL (xs.map D.int) = true := by
  induction xs with
  | nil => rfl
  | cons a l ih => simp [okL, ok, ih]
theorem depL_ints : depL (xs.map D.int) = 0 := by
  induction xs with
  | nil => rfl
  | cons a l ih => simp [depL, dep, ih]
theorem eqbL_ints : ∀ {xs ys : List Int}, eqbL (xs.map D.int) (ys.map D.int) = decide (xs = ys)
  | [], [] => by simp [eqbL]
  | [], _ :: _ => by simp [eqbL]
  | _ :: _, [] => by simp [eqbL]
  | x :: xs, y :: ys => by
    simp [eqbL, eqb, eqbL_ints (xs := xs) (ys := ys)]
    rw [Bool.beq_eq_decide_eq]
theorem eqG_T {n : Bool} : eqG n (T xs) (T ys) M Q = Q (.bl (n != decide (xs = ys))) M := by
  unfold T eqG eqOk
  simp [ok, dep, okL_ints, depL_ints, eqb, eqbL_ints]
theorem eqG_int {n : Bool} : eqG n (.int i) (.int j) M Q = Q (.bl (n != decide (i = j))) M := rfl
theorem eqD_T : eqD (T xs) (T ys) M Q = Q (.bl (decide (xs = ys))) M := by unfold eqD; rw [eqG_T, Bool.false_bne]
theorem eqD_int : eqD (.int i) (.int j) M Q = Q (.bl (decide (i = j))) M := by unfold eqD; rw [eqG_int, Bool.false_bne]
theorem neD_int : neD (.int i) (.int j) M Q = Q (.bl (!decide (i = j))) M := by unfold neD; rw [eqG_int, Bool.true_bne]
theorem rng_at {n : Nat} {f : Nat → D} {i : Nat} {d : D} (h : ((List.range n).map f)[i]? = some d) : i < n ∧ d = f i := by
  have h1 := (List.getElem?_eq_some_iff.mp h).1
  rw [List.length_map, List.length_range] at h1
  rw [List.getElem?_map, List.getElem?_range h1] at h
  exact ⟨h1, by simpa using h.symm⟩
theorem map_at {xs : List Int} {i : Nat} {d : D} (h : (xs.map D.int)[i]? = some d) : i < xs.length ∧ d = .int (xs.getD i 0) := by
  have h1 := (List.getElem?_eq_some_iff.mp h).1
  rw [List.length_map] at h1
  rw [List.getElem?_map, getD_of h1] at h
  exact ⟨h1, by simpa using h.symm⟩
theorem len_rng {n : Nat} {f : Nat → D} : ((List.range n).map f).length = n := by rw [List.length_map, List.length_range]
theorem cut_pre (h0 : 0 ≤ i) : cutD (xs.map D.int) none (some i) = (xs.take i.toNat).map D.int := by
  unfold cutD HT.sIx
  simp only [List.drop_zero, Nat.sub_zero, List.length_map]
  rw [if_neg (by omega)]
  rw [← List.map_take]
  congr 1
  rw [List.take_eq_take_iff]
  omega
theorem cut_post (h0 : 0 ≤ i) : cutD (xs.map D.int) (some i) none = (xs.drop i.toNat).map D.int := by
  unfold cutD HT.sIx
  simp only [List.length_map]
  rw [if_neg (by omega), ← List.map_drop, List.take_of_length_le (by rw [List.length_map, List.length_drop]; omega)]
  by_cases h : i.toNat ≤ xs.length
  · rw [Nat.min_eq_left h]
  · rw [Nat.min_eq_right (by omega), List.drop_eq_nil_of_le (by omega), List.drop_eq_nil_of_le (by omega)]
theorem cut_mid (h0 : 0 ≤ i) (h1 : i ≤ j) (h2 : i ≤ xs.length) : cutD (xs.map D.int) (some i) (some j) = ((xs.drop i.toNat).take (j - i).toNat).map D.int := by
  unfold cutD HT.sIx
  simp only [List.length_map]
  rw [if_neg (by omega), if_neg (by omega), ← List.map_drop, ← List.map_take]
  have e : min i.toNat xs.length = i.toNat := by omega
  rw [e]
  congr 1
  rw [List.take_eq_take_iff, List.length_drop]
  omega
theorem slG_pre (h0 : 0 ≤ i) : slG (T xs) none (some i) M Q = Q (T (xs.take i.toNat)) M := by
  unfold T slG
  simp only
  rw [cut_pre h0]
theorem slG_post (h0 : 0 ≤ i) : slG (T xs) (some i) none M Q = Q (T (xs.drop i.toNat)) M := by
  unfold T slG
  simp only
  rw [cut_post h0]
theorem slG_mid (h0 : 0 ≤ i) (h1 : i ≤ j) (h2 : i ≤ xs.length) : slG (T xs) (some i) (some j) M Q = Q (T ((xs.drop i.toNat).take (j - i).toNat)) M := by
  unfold T slG
  simp only
  rw [cut_mid h0 h1 h2]
theorem itemsOf_T : itemsOf (T xs) M = some (xs.map D.int) := rfl
theorem keepOf_T {its : List D} : keepOf (T xs) its = fun _ => True := rfl
theorem tup_T : D.tup [] = T [] := rfl
theorem tup_T1 : D.tup [.int i] = T [i] := rfl
theorem tupG_T : tupG [T xs] M Q = Q (T xs) M := rfl
/-- a field of an instance that is known -/
theorem fld_at {K : PySem.W.Frag} {a C : Addr} {fs : List (Str × D)} {f : Str} {v : D} (hM : M a = some (.ins C fs)) (hk : FldK K C f) (hl : fs.lookup f = some v) :
    (match M a with
    | some (.ins C fs) => FldK K C f ∧ match fs.lookup f with
      | some v => Q v M
      | none => False
    | _ => False) = Q v M := by
  rw [hM]
  simp only [hl, hk, true_and]
/-- lists of ints -/
theorem seqOf_lst {a : Addr} {ds : List D} (h : M a = some (.lst ds)) : seqOf M a = some ds := by unfold seqOf; rw [h]
theorem seqOf_rol {a : Addr} {ds : List D} (h : M a = some (.rol ds)) : seqOf M a = some ds := by unfold seqOf; rw [h]
theorem lenG_ref {a : Addr} {ds : List D} (h : seqOf M a = some ds) : lenG [.ref a] M Q = Q (.int ds.length) M := by
  unfold seqOf at h
  unfold lenG lenD
  cases e : M a with
  | none => rw [e] at h; cases h
  | some o =>
    rw [e] at h
    cases o <;> first | (cases h; simp only [e]) | cases h
theorem ixG_ref {a : Addr} {ns : List Int} (h : seqOf M a = some (ns.map D.int)) (h0 : 0 ≤ i) (h1 : i < ns.length) : ixG (.ref a) (.int i) M Q = Q (.int (ns.getD i.toNat 0)) M := by
  unfold ixG
  simp only
  rw [h]
  simp only [Option.bind_some]
  rw [atI_T h0 h1]
theorem blsOf_range {n : Nat} {f : Nat → Bool} : blsOf (((List.range n).map f).map D.bl) = some ((List.range n).map f) := blsOf_map _
theorem addD_int : addD (.int i) (.int j) M Q = Q (.int (i + j)) M := rfl
theorem mulD_int : mulD (.int i) (.int j) M Q = (CMulX i j ∧ Q (.int (i * j)) M) := rfl
theorem mulD_ref {a : Addr} {ns : List Int} {k : Int} (h : M a = some (.lst (ns.map D.int))) : mulD (.ref a) (.int k) M Q = ((-(2 ^ 63) ≤ k ∧ k < 2 ^ 63 ∧ ns.length * k.toNat ≤ sizeLine) ∧ ∀ p, M p = none → Q (.ref p) (put M p (.lst ((List.replicate k.toNat ns).flatten.map D.int)))) := by
  unfold mulD
  simp only [h, List.length_map, List.map_flatten, List.map_replicate]
theorem addD_ref {a b : Addr} {ns ms : List Int} (h : M a = some (.lst (ns.map D.int))) (h' : M b = some (.lst (ms.map D.int))) : addD (.ref a) (.ref b) M Q = (ns.length + ms.length ≤ sizeLine ∧ ∀ p, M p = none → Q (.ref p) (put M p (.lst ((ns ++ ms).map D.int)))) := by
  unfold addD
  simp only [h, h', List.length_map, List.map_append]
theorem slG_rpre {a : Addr} {ns : List Int} (h : seqOf M a = some (ns.map D.int)) (h0 : 0 ≤ i) : slG (.ref a) none (some i) M Q = ∀ p, M p = none → Q (.ref p) (put M p (.lst ((ns.take i.toNat).map D.int))) := by
  unfold slG
  simp only [h]
  rw [cut_pre h0]
theorem slG_rpost {a : Addr} {ns : List Int} (h : seqOf M a = some (ns.map D.int)) (h0 : 0 ≤ i) : slG (.ref a) (some i) none M Q = ∀ p, M p = none → Q (.ref p) (put M p (.lst ((ns.drop i.toNat).map D.int))) := by
  unfold slG
  simp only [h]
  rw [cut_post h0]
theorem tupG_ref {a : Addr} {ns : List Int} (h : seqOf M a = some (ns.map D.int)) : tupG [.ref a] M Q = Q (T ns) M := by
  simp only [tupG, h]
  rfl
theorem lstG_T : lstG [T xs] M Q = ∀ p, M p = none → Q (.ref p) (put M p (.lst (xs.map D.int))) := rfl
theorem sub_put {M : Mp} {p : Addr} {o : MO} (h : M p = none) : Sub M (DL.put M p o) := Sub.refl.put h
/-- while by a variant -/
theorem dWh_inv {c : DT} {tb : DS} {Dn : DN} (I : Nat → Sl → Mp → Prop)
    (step : ∀ (n : Nat) (τ : Sl) (M : Mp) (nxt : Sl → Mp → Prop), I n τ M → (∀ m, n = m + 1 → ∀ τ' M', I m τ' M' → nxt τ' M') →
      c τ M (fun b M1 => if b = true then tb { Dn with nx := nxt, ct := nxt, bk := Dn.nx } τ M1 else Dn.nx τ M1) (exOf Dn τ)) {n : Nat} {τ : Sl} {M : Mp} (h : I n τ M) : dWhile c tb Dn τ M := by
  refine ⟨n + 1, ?_⟩
  have go : ∀ (n : Nat) (τ : Sl) (M : Mp), I n τ M → dWhN c tb (n + 1) Dn τ M := by
    intro n
    induction n with
    | zero => exact fun τ M h => step 0 τ M _ h fun m e => by omega
    | succ n ih =>
      intro τ M h
      refine step (n + 1) τ M _ h fun m e τ' M' h' => ?_
      have : m = n := by omega
      subst this
      exact ih τ' M' h'
  exact go n τ M h
end DL

set_option maxHeartbeats 4000000
namespace DL
open PySem L2
/-! ### a list of the module's own: it is read in every heap -/
def KL (K : PySem.W.Frag) (a : Addr) (ns : List Int) : Prop := ∀ H, SqL K H a (ns.map V.int)
def lenK (K : PySem.W.Frag) : DG := fun ds M Q => match ds with
  | [.ref a] => ∃ ns, KL K a ns ∧ Q (.int ((ns.length : Nat) : Int)) M
  | _ => False
def ixK (K : PySem.W.Frag) : DO := fun x y M Q => match x, y with
  | .ref a, .int i => ∃ ns, KL K a ns ∧ 0 ≤ i ∧ i < ns.length ∧ Q (.int (ns.getD i.toNat 0)) M
  | _, _ => False
def lstK (K : PySem.W.Frag) : DG := fun ds M Q => match ds with
  | [.ref a] => ∃ ns : List Int, KL K a ns ∧ ∀ p, M p = none → Q (.ref p) (put M p (.lst (ns.map D.int)))
  | _ => False
section
variable {X : Cx}
theorem call_lenK : CallR X (.builtin "len") (liftC X.K (lenK X.K)) := CallRimp call_len fun xs H Q ⟨ds, M, Qd, q, r, hr, k⟩ => by
  unfold lenK at q
  split at q
  · obtain ⟨ns, h, q⟩ := q
    obtain ⟨v, rfl, rv⟩ := r.one
    rw [rv.toRef]
    exact ⟨_, ns.length, rfl, .inl ⟨_, h H, (List.length_map ..).symm⟩, k _ M _ H q .refl (.int _) hr⟩
  · exact q.elim
theorem ix_K : IxR X (liftO X.K (ixK X.K)) := IxRimp ix_seq fun x y H Q ⟨dx, dy, M, Qd, q, a, b, c, k⟩ => by
  unfold ixK at q
  split at q
  · obtain ⟨ns, h, h0, h1, q⟩ := q
    refine .inl ⟨_, _, _, .int (ns.getD _ 0), a.toRef, b.toInt, h H, ?_, k _ M _ H q .refl (.int _) c⟩
    unfold atI
    rw [List.length_map, ixN_in h0 h1, Option.bind_some, List.getElem?_map, getD_of (by omega)]
    rfl
  · exact q.elim
theorem call_lstK : CallR X (.type "list") (liftC X.K (lstK X.K)) := CallRimp call_list_of fun xs H Q ⟨ds, M, Qd, q, r, hr, k⟩ => by
  unfold lstK at q
  split at q
  · obtain ⟨ns, h, q⟩ := q
    obtain ⟨v, rfl, rv⟩ := r.one
    rw [rv.toRef]
    exact ⟨_, _, rfl, .inl (h H), fun p hp => k.lst hr RpL.ofInts hp q⟩
  · exact q.elim
end
section
variable {P : Program} {w : World} {K : PySem.W.Frag} {mg : Str → Option Value} {base : Heap}
/-- a def with defaults -/
theorem okDf {x qual : Str} {st : Stmt} {f : Addr} {fd : FuncData} {N ps : List Str} {k : Nat} {sp : DSp} {dvs : List V} {kws : List (Str × V)} (F : FunD K x qual (defArgs st) (defBody st) (defScope st) dvs kws f fd) (S : FnScope N ps (defScope st)) (len : ∀ ds M Q E, sp ds M Q E → ds.length = ps.length)
    (hbody : ∀ (cdv : Value) (A : Around) (outer : List Env) (s : Shared) (H : Hp) (E : XK), Room k (A.deeper (PyProof.Rows.envOfC qual (defScope st) s.heap.objs.size f cdv)) →
      Takes (cxOf (L2.CX P w) P w K mg base N qual (defScope st) f cdv A outer s H E) (liftW K (defW K H E)) →
      ∃ t, PSsD (cxOf (L2.CX P w) P w K mg base N qual (defScope st) f cdv A outer s H E) (defW K H E) (defBody st) t ∧ ∀ ds M Q E', sp ds M Q E' → t (ends Q E') (dstart N ds) M) :
    FnOk P w K mg base (L2.CX P w) (k + 1) f fd ps (liftSp K sp) := by
  refine F.ok S (fun vs H Q E ⟨ds, M, Qd, Ed, hsp, r, _⟩ => r.length.trans (len ds M Qd Ed hsp)) fun cdv A outer s H vs Q E hr ⟨ds, M, Qd, Ed, hsp, r, hr', kc, xc⟩ => ?_
  obtain ⟨t, ht, q⟩ := hbody cdv A outer s H E hr (Takes.imp (takes_of rfl rfl rfl rfl) fun c d σ H' ⟨x, τ, M', rs, h2, xr, hw⟩ => hw H' c d rs.ext xr h2)
  refine ⟨_, ht.run, dstart N ds, M, ends Qd Ed, rs_start r, hr', q ds M Qd Ed hsp, fun x τ M' ⟨M0, sb, h⟩ H' cls d e xr h2 => xc x M0 cls d H' h e xr (h2.sub sb), ?_⟩
  exact ⟨fun τ M' σ H' ⟨M0, sb, h⟩ e _ h2 => kc _ M0 _ H' h e .non (h2.sub sb), fun d M' v H' ⟨M0, sb, h⟩ e rv h2 => kc d M0 v H' h e rv (h2.sub sb), fun _ _ _ _ z => z.elim, fun _ _ _ _ z => z.elim⟩
/-- one of two promises -/
theorem fnOk_or {k : Nat} {f : Addr} {fd : FuncData} {ps : List Str} {sp1 sp2 sp : DSp} (F1 : FnOk P w K mg base (L2.CX P w) k f fd ps (liftSp K sp1)) (F2 : FnOk P w K mg base (L2.CX P w) k f fd ps (liftSp K sp2))
    (h : ∀ ds M Q E, sp ds M Q E → sp1 ds M Q E ∨ sp2 ds M Q E) : FnOk P w K mg base (L2.CX P w) k f fd ps (liftSp K sp) :=
  ⟨fun vs H Q E ⟨ds, M, Qd, Ed, q, r⟩ => (h _ _ _ _ q).elim (fun q => F1.len vs H Q E ⟨ds, M, Qd, Ed, q, r⟩) fun q => F2.len vs H Q E ⟨ds, M, Qd, Ed, q, r⟩,
   fun A outer s H args us vs Q E hr he hb hv ⟨ds, M, Qd, Ed, q, r⟩ => (h _ _ _ _ q).elim (fun q => F1.run A outer s H args us vs Q E hr he hb hv ⟨ds, M, Qd, Ed, q, r⟩) fun q => F2.run A outer s H args us vs Q E hr he hb hv ⟨ds, M, Qd, Ed, q, r⟩⟩
theorem fnOk_no {k : Nat} {f : Addr} {fd : FuncData} {ps : List Str} : FnOk P w K mg base (L2.CX P w) k f fd ps (liftSp K fun _ _ _ _ => False) :=
  ⟨fun vs H Q E ⟨ds, M, Qd, Ed, q, r⟩ => q.elim, fun A outer s H args us vs Q E hr he hb hv ⟨ds, M, Qd, Ed, q, r⟩ => q.elim⟩
end
/-! ### classes by their facts -/
theorem kitCls_of {K : PySem.W.Frag} {t : Value} {C : Addr} {b : Bool} (h1 : PySem.W.isClsIn K C = true) (h2 : PySem.W.typeIn K (.ref C) = some (.type "type")) (h3 : PySem.W.subIn K t (.ref C) = some b) : PySem.W.kitCls K t (.ref C) = some b := by
  have e2 : ((PySem.W.clsIn K C).isSome && PySem.W.typeIn K (.ref C) == some (.type "type")) = true := by
    have h1' : (PySem.W.clsIn K C).isSome = true := h1
    rw [h1', h2]
    rfl
  unfold PySem.W.kitCls
  simp only [e2, if_true]
  exact h3
theorem kit_ne {K : PySem.W.Frag} {a C : Addr} {b : Bool} (hn : (a == C) = false) (h1 : PySem.W.isClsIn K C = true) (h2 : PySem.W.typeIn K (.ref C) = some (.type "type")) (h3 : PySem.W.subIn K (.ref a) (.ref C) = some b) : PySem.W.kitOne K (.ref a) (.ref C) = some b := by
  have e : (Value.ref a == Value.ref C) = false := beq_eq_false_iff_ne.mpr fun e => by
    cases e
    rw [beq_self_eq_true] at hn
    cases hn
  unfold PySem.W.kitOne
  rw [if_neg (by rw [e]; exact Bool.false_ne_true)]
  exact kitCls_of h1 h2 h3
theorem kit_self {K : PySem.W.Frag} {a : Addr} : PySem.W.kitOne K (.ref a) (.ref a) = some true := by
  have e : (Value.ref a == Value.ref a) = true := beq_self_eq_true (Value.ref a)
  unfold PySem.W.kitOne
  rw [if_pos e]
theorem kit_bt {K : PySem.W.Frag} {a : Addr} {n : String} {b : Bool} (hm : PySem.W.kitMeta n = true) (h : PySem.W.subIn K (.ref a) (.type n) = some b) : PySem.W.kitOne K (.ref a) (.type n) = some b := by
  unfold PySem.W.kitOne
  have e : (Value.ref a == Value.type n) = false := beq_eq_false_iff_ne.mpr fun e => by cases e
  rw [if_neg (by rw [e]; exact Bool.false_ne_true)]
  unfold PySem.W.kitCls
  simp only [hm, if_true]
  exact h
theorem exm_sub {K : PySem.W.Frag} {t : Value} {C : Addr} {b : Bool} (h0 : PySem.W.subIn K (.ref C) (.type "BaseException") = some true) (h1 : PySem.W.isClsIn K C = true) (h2 : PySem.W.typeIn K (.ref C) = some (.type "type")) (h3 : PySem.W.subIn K t (.ref C) = some b) : PySem.W.exmOne K t (.ref C) = some b := by
  unfold PySem.W.exmOne
  rw [if_pos (by rw [h0]; rfl)]
  exact kitCls_of h1 h2 h3
theorem meta_VE : PySem.W.kitMeta "ValueError" = true := by decide +kernel
/-! ### the end of a law of a script -/
/-- what law(script) promises -/
def spScript (K : PySem.W.Frag) : DSp := fun ds M Q _ => ∃ (a : Addr) (ns : List Int), ds = [.ref a] ∧ (M a = some (.rol (ns.map D.int)) ∨ KL K a ns) ∧ ns.length ≤ 100000 ∧ (∀ z ∈ ns, Builtin.Int.intBits z ≤ 1048576) ∧ ∀ M1, Q (.bl true) M1
theorem walkD {l : PySem.W.OpenLaw} {n k : Nat} {q : Program} {loose : List Str} {XP : (Str → Option Value) → Heap → Prop} {YP : World → Heap → Prop} {d : DefRec} {K : Params → PySem.W.Frag} {x : Str} (hn : l.most = some n) (hn2 : n ≤ 100000) (hdf : d.params.defaults = []) (hr : Room k callerA)
    (hY : ∀ (w : World) (h : Heap), YP w h → (K w.params).In h)
    (F : ∀ (w : World) (mg : Str → Option Value) (fa : Addr) (h : Heap), (K w.params).In h → h.Ns mainGlobals mg → mg d.name = some (.ref fa) →
      ∃ fd : FuncData, (∀ (s : Shared) (u : Value), BindsTo s fd ⟨[u], []⟩ [(x, u)]) ∧ ∀ base : Heap, (K w.params).In base → base.Ns mainGlobals mg → FnOk l.prog w (K w.params) mg base (L2.CX l.prog w) k fa fd [x] (liftSp (K w.params) (spScript (K w.params)))) :
    PySem.W.WalkO q loose XP YP l.row.toRowW d [] (fun f vs => PySem.call f vs) :=
  L2.walk_ofB (n := n) (k := k) (x := x) (CX := fun w => L2.CX l.prog w) (sp := fun w => liftSp (K w.params) (spScript (K w.params))) hn (Nat.le_trans hn2 (by rw [PySem.sizeLine_eq]; omega)) hdf hr hY F
    (fun w H a ns hl hbits hO hS => by
      have fin : ∀ M, HR (K w.params) H M → (M a = some (.rol (ns.map D.int)) ∨ KL (K w.params) a ns) → liftSp (K w.params) (spScript (K w.params)) [.ref a] H (fun v _ => v = .bl true) fun _ _ _ => False := fun M hr hM =>
        ⟨[.ref a], M, fun d _ => d = .bl true, fun _ _ => False, ⟨a, ns, rfl, hM, Nat.le_trans hl hn2, hbits, fun _ => rfl⟩, .cons (.ref a) .nil, hr, fun d M' v H' e _ rv _ => by subst e; exact rv.toBl, fun _ _ _ _ _ h => h.elim⟩
      rcases hS with (h | ⟨o, h⟩) | h
      · rcases hO a with e | ⟨o, xs, e⟩
        · rw [e] at h; cases h
        · rw [e] at h; cases h
      · refine fin (fun b => if b = a then some (.rol (ns.map D.int)) else none) (fun b u e => ?_) (.inl (if_pos rfl))
        have e : (if b = a then some (MO.rol (ns.map D.int)) else none) = some u := e
        by_cases c : b = a
        · subst c
          rw [if_pos rfl] at e
          cases e
          exact ⟨o, _, h, RpL.ofInts⟩
        · rw [if_neg c] at e
          cases e
      · exact fin (fun _ => none) (fun b u e => by cases e) (.inr fun H' => .inr h))
    fun w H s e s' h => by
      obtain ⟨_, _, _, _, _, _, _, _, _, _, _, _, h⟩ := h
      exact h
end DL

set_option maxHeartbeats 4000000
namespace DL
open PySem PySem.Spec L2
/-! ### in, not in: flat items -/
def flatD : D → Bool
  | .non => true
  | .bl _ => true
  | .int _ => true
  | .str _ => true
  | .tup _ => false
  | .ref _ => false
  | .ty _ => false
theorem flatD_ok {K : PySem.W.Frag} {H : Hp} {v : V} {d : D} (r : Rp K H v d) (h : flatD d = true) : flatV v = true := by
  cases r <;> first | rfl | cases h
theorem flatL_ok {K : PySem.W.Frag} {H : Hp} : ∀ {vs : List V} {ds : List D}, RpL K H vs ds → ds.all flatD = true → vs.all flatV = true
  | _, _, .nil, _ => rfl
  | _, _, .cons r l, h => by
    rw [List.all_cons, Bool.and_eq_true] at h
    rw [List.all_cons, flatD_ok r h.1, flatL_ok l h.2]
    rfl
theorem eqV_flat {K : PySem.W.Frag} {H : Hp} {v u : V} {d e : D} (r : Rp K H v d) (q : Rp K H u e) (h : flatD d = true) (h' : flatD e = true) : eqV v u = eqb d e := by
  cases r <;> cases q <;> first | rfl | (simp [eqV, eqb]; done) | cases h | cases h'
theorem inV_flat {K : PySem.W.Frag} {H : Hp} {u : V} {e : D} (q : Rp K H u e) (h' : flatD e = true) : ∀ {vs : List V} {ds : List D}, RpL K H vs ds → ds.all flatD = true → inV u vs = ds.any fun d => eqb d e
  | _, _, .nil, _ => rfl
  | _, _, .cons r l, h => by
    rw [List.all_cons, Bool.and_eq_true] at h
    have := inV_flat q h' l h.2
    unfold inV at this ⊢
    rw [List.any_cons, List.any_cons, this, eqV_flat r q h.1 h']
/-- the items of a list or a tuple -/
def seqD (d : D) (M : Mp) : Option (List D) := match d with
  | .tup xs => some xs
  | .ref a => seqOf M a
  | _ => none
theorem seqD_ok {K : PySem.W.Frag} {H : Hp} {M : Mp} {v : V} {d : D} {ds : List D} (r : Rp K H v d) (hr : HR K H M) (h : seqD d M = some ds) : ∃ a vs, v = .ref a ∧ (SqL K H a vs ∨ SqT K H a vs) ∧ RpL K H vs ds := by
  cases d with
  | tup xs =>
    cases h
    obtain ⟨a, vs, rfl, s, l⟩ := r.toTup
    exact ⟨a, vs, rfl, .inr s, l⟩
  | ref a =>
    have h' : seqOf M a = some ds := h
    obtain ⟨vs, s, l⟩ := seqOf_ok hr h'
    exact ⟨a, vs, r.toRef, .inl s, l⟩
  | _ => cases h
def inG (n : Bool) : DO := fun x y M Q => match seqD y M with
  | some ys => flatD x = true ∧ ys.all flatD = true ∧ Q (.bl (n != ys.any fun d => eqb d x)) M
  | none => False
section
variable {X : Cx} {W : DW} {pos p : Pos}
theorem op_inG : OpR X (compareOp .In) (liftO X.K (inG false)) := OpRimp op_in_seq fun x y H Q ⟨dx, dy, M, Qd, q, a, b, c, k⟩ => by
  unfold inG at q
  split at q
  · rename_i ys e
    obtain ⟨l, vs, rfl, s, r⟩ := seqD_ok b c e
    refine ⟨l, vs, rfl, s, flatD_ok a q.1, flatL_ok r q.2.1, ?_⟩
    rw [inV_flat a q.1 r q.2.1]
    exact k _ M _ H (by simpa using q.2.2) .refl (.bl _) c
  · exact q.elim
theorem op_notInG : OpR X (compareOp .NotIn) (liftO X.K (inG true)) := OpRimp op_notIn_seq fun x y H Q ⟨dx, dy, M, Qd, q, a, b, c, k⟩ => by
  unfold inG at q
  split at q
  · rename_i ys e
    obtain ⟨l, vs, rfl, s, r⟩ := seqD_ok b c e
    refine ⟨l, vs, rfl, s, flatD_ok a q.1, flatL_ok r q.2.1, ?_⟩
    rw [inV_flat a q.1 r q.2.1]
    exact k _ M _ H (by simpa using q.2.2) .refl (.bl _) c
  · exact q.elim
/-! ### methods of built-in things -/
abbrev DM := D → List D → Mp → DK → Prop
def liftM (K : PySem.W.Frag) (g : DM) : V → List V → Hp → VK → Prop := fun x xs H Q => ∃ d ds M Qd, g d ds M Qd ∧ Rp K H x d ∧ RpL K H xs ds ∧ HR K H M ∧ KC K H Qd Q
/-- what has the methods of T -/
def metT (T : String) (d : D) (M : Mp) : Prop := match d with
  | .str _ => T = "str"
  | .ref a => match M a with
    | some (.lst _) => T = "list"
    | some (.rol _) => T = "list"
    | some (.dk _) => T = "dict"
    | _ => False
  | _ => False
theorem metT_ok {K : PySem.W.Frag} {H : Hp} {M : Mp} {v : V} {d : D} {T : String} (r : Rp K H v d) (hr : HR K H M) (h : metT T d M) : tyV K T v H := by
  cases d with
  | str x => cases r; exact h
  | ref a =>
    cases r
    have h' : (match M a with
      | some (.lst _) => T = "list"
      | some (.rol _) => T = "list"
      | some (.dk _) => T = "dict"
      | _ => False) := h
    cases e : M a with
    | none => rw [e] at h'; exact h'.elim
    | some o =>
      rw [e] at h'
      cases o with
      | lst xs => obtain ⟨vs, q, _⟩ := hr.lst e; exact .inl ⟨h', vs, .of q⟩
      | rol xs => obtain ⟨o, vs, q, _⟩ := hr.rol e; exact .inl ⟨h', vs, .inl (.inr ⟨o, q⟩)⟩
      | dk xs => obtain ⟨vs, q, _⟩ := hr.dk e; exact .inr (.inr (.inl ⟨h', .inl ⟨vs, q⟩⟩))
      | ins C xs => exact h'.elim
      | xd xs => exact h'.elim
      | rdk xs => exact h'.elim
      | xt xs => exact h'.elim
  | _ => exact h.elim
def dBM (T : String) (g : DM) (to : DE) (t : DA) : DE := fun τ M Q E => to τ M (fun d M1 => metT T d M1 ∧ t τ M1 (fun ds M2 => g d ds M2 Q) E) E
theorem dBM_lift {T : String} {g : DM} {to : DE} {t : DA} {σ : L2.St} {H : Hp} {Q : VK} (h : liftE X.K W (dBM T g to t) σ H Q) : tBM X.K T (liftM X.K g) (liftE X.K W to) (liftA X.K W t) σ H Q := by
  obtain ⟨τ, M, Qd, Ed, hs, hr, q, we, k⟩ := h
  refine ⟨τ, M, _, Ed, hs, hr, q, we, fun d M1 v H1 q1 e1 r1 h1 => ⟨metT_ok r1 h1 q1.1, τ, M1, _, Ed, hs.mono e1, h1, q1.2, we, fun ds M2 vs H2 q2 e2 r2 h2 => ?_⟩⟩
  exact ⟨d, ds, M2, Qd, q2, r1.mono e2, r2, h2, k.mono (e1.trans e2)⟩
variable {o e : Expr} {es : List Expr} {to : DE} {t : DA} {name : Str} {apos cpos : Pos} {T id : String} {g : DM}
theorem pd_bm (pa : PlainAttrs T) (slot : Slot T name id) (hty : typeOf (.builtin id) = pure (.type "method_descriptor")) (hm : MtR X id (liftM X.K g)) (ho : PD X W o to) (ha : PAD X W (e :: es) t)
    (hbase : attributeBase o name X.env (eval o X.env) = eval o X.env := by rfl)
    (hfew : ((backTo cpos (starEach (e :: es) X.env)).all (fun x => !x.1) && (backToKw cpos (keywordEach [] X.env)).all (fun x => x.1.isSome)
      && decide ((e :: es).length + ([] : List Keyword).length + (if ([] : List Keyword).isEmpty then 0 else 1) < 30)) = true := by rfl)
    (hline : (apos.endLine == cpos.line) = true := by rfl) (hs : starEach (e :: es) X.env = (false, eval e X.env) :: starEach es X.env := by rfl) (hplain : (backTo cpos (starEach es X.env)).any (·.1) = false := by rfl) :
    PD X W (.Call (.Attribute o name apos) (e :: es) [] cpos) (dBM T g to t) := ⟨PEimp (pe_bm pa slot hty hm ho.run ha.run hbase hfew hline hs hplain) fun _ _ _ h => dBM_lift h⟩
theorem pd_bm0 (pa : PlainAttrs T) (slot : Slot T name id) (hty : typeOf (.builtin id) = pure (.type "method_descriptor")) (hm : MtR X id (liftM X.K g)) (ho : PD X W o to)
    (hbase : attributeBase o name X.env (eval o X.env) = eval o X.env := by rfl) (hline : (apos.endLine == cpos.line) = true := by rfl) :
    PD X W (.Call (.Attribute o name apos) [] [] cpos) (dBM T g to dNil) := ⟨PEimp (pe_bm0 pa slot hty hm ho.run hbase hline) fun σ H Q ⟨τ, M, Qd, Ed, hs, hr, q, we, k⟩ =>
  ⟨τ, M, _, Ed, hs, hr, q, we, fun d M1 v H1 q1 e1 r1 h1 => ⟨metT_ok r1 h1 q1.1, d, [], M1, Qd, q1.2, r1, .nil, h1, k.mono e1⟩⟩⟩
theorem MtRimp {r r' : V → List V → Hp → VK → Prop} (h : MtR X id r) (i : ∀ x xs H Q, r' x xs H Q → r x xs H Q) : MtR X id r' := fun pins s σ H x xs v us Q I rx rs q => h pins s σ H x xs v us Q I rx rs (i x xs H Q q)
/-- a list is written anew -/
theorem KC.wrote {K : PySem.W.Frag} {H : Hp} {M : Mp} {Qd : DK} {Q : VK} {v : V} {d : D} {xs xs' : List V} {ds' : List D} {a : Addr} (k : KC K H Qd Q) (hr : HR K H M) (hv : H a = some (.lst xs)) (l : RpL K H xs' ds') (r : Rp K H v d) (q : Qd d (put M a (.lst ds'))) : Q v (upd H a (.lst xs')) := by
  have e : TExt K H (upd H a (.lst xs')) := .upd (noTup_lst hv)
  exact k d _ v _ q e (r.mono e) (hr.made (noTup_lst hv) ⟨xs', upd_same, l.mono e⟩)
def appendM : DM := fun d ds M Q => match d, ds with
  | .ref a, [y] => match M a with
    | some (.lst xs) => xs.length < sizeLine ∧ Q .non (put M a (.lst (xs ++ [y])))
    | _ => False
  | _, _ => False
theorem mt_appendM : MtR X "list.append" (liftM X.K appendM) := MtRimp mt_append fun x xs H Q ⟨d, ds, M, Qd, q, rx, rs, hr, k⟩ => by
  unfold appendM at q
  split at q
  · rename_i a y
    obtain ⟨v, rfl, rv⟩ := rs.one
    split at q
    · rename_i ys e
      obtain ⟨vs, hv, l⟩ := hr.lst e
      exact ⟨a, vs, v, rx.toRef, rfl, hv, by rw [l.length]; exact q.1, k.wrote hr hv (l.append (.cons rv .nil)) .non q.2⟩
    · exact q.elim
  · exact q.elim
def extendM : DM := fun d ds M Q => match d, ds with
  | .ref a, [.ref b] => match M a, M b with
    | some (.lst xs), some (.lst ys) => xs.length + ys.length ≤ sizeLine ∧ Q .non (put M a (.lst (xs ++ ys)))
    | _, _ => False
  | _, _ => False
theorem mt_extendM : MtR X "list.extend" (liftM X.K extendM) := MtRimp mt_extend fun x xs H Q ⟨d, ds, M, Qd, q, rx, rs, hr, k⟩ => by
  unfold extendM at q
  split at q
  · rename_i a b
    obtain ⟨v, rfl, rv⟩ := rs.one
    split at q
    · rename_i xs ys e1 e2
      obtain ⟨vs, hv, l⟩ := hr.lst e1
      obtain ⟨us, hu, l2⟩ := hr.lst e2
      exact ⟨a, b, vs, us, rx.toRef, by rw [rv.toRef], hv, hu, by rw [l.length, l2.length]; exact q.1, k.wrote hr hv (l.append l2) .non q.2⟩
    · exact q.elim
  · exact q.elim
def reverseM : DM := fun d ds M Q => match d, ds with
  | .ref a, [] => match M a with
    | some (.lst xs) => Q .non (put M a (.lst xs.reverse))
    | _ => False
  | _, _ => False
theorem mt_reverseM : MtR X "list.reverse" (liftM X.K reverseM) := MtRimp mt_reverse fun x xs H Q ⟨d, ds, M, Qd, q, rx, rs, hr, k⟩ => by
  unfold reverseM at q
  split at q
  · rename_i a
    split at q
    · rename_i xs e1
      obtain ⟨vs, hv, l⟩ := hr.lst e1
      exact ⟨a, vs, rx.toRef, rs.nil_of, hv, k.wrote hr hv l.reverse .non q⟩
    · exact q.elim
  · exact q.elim
theorem RpL.erase {K : PySem.W.Frag} {H : Hp} : ∀ {xs : List V} {ds : List D} (i : Nat), RpL K H xs ds → RpL K H (xs.eraseIdx i) (ds.eraseIdx i)
  | _, _, _, .nil => by simpa using RpL.nil
  | _, _, 0, .cons _ l => l
  | _, _, i + 1, .cons r l => .cons r (RpL.erase i l)
/-- pop(i), i not below 0 -/
def popM : DM := fun d ds M Q => match d, ds with
  | .ref a, [.int i] => match M a with
    | some (.lst xs) => 0 ≤ i ∧ i < xs.length ∧ xs.length ≤ sizeLine ∧ match xs[i.toNat]? with
      | some y => Q y (put M a (.lst (xs.eraseIdx i.toNat)))
      | none => False
    | _ => False
  | .ref a, [] => match M a with
    | some (.lst xs) => match xs[xs.length - 1]? with
      | some y => Q y (put M a (.lst xs.dropLast))
      | none => False
    | _ => False
  | _, _ => False
theorem mt_popM : MtR X "list.pop" (liftM X.K popM) := MtRimp (MtR.or mt_popAt mt_pop) fun x xs H Q ⟨d, ds, M, Qd, q, rx, rs, hr, k⟩ => by
  unfold popM at q
  split at q
  · rename_i a i
    obtain ⟨v, rfl, rv⟩ := rs.one
    split at q
    · rename_i xs e1
      obtain ⟨vs, hv, l⟩ := hr.lst e1
      obtain ⟨h0, h1, h2, q⟩ := q
      split at q
      · rename_i y ey
        obtain ⟨u, hu, ru⟩ := l.get ey
        rw [sizeLine_eq] at h2
        refine .inl ⟨a, vs, i, i.toNat, u, rx.toRef, by rw [rv.toInt], hv, by omega, by omega, ?_, hu, k.wrote hr hv (l.erase _) ru q⟩
        have := (ixN_seq (n := vs.length) (i := i) (j := i.toNat) (ixN_in h0 (by rw [l.length]; exact h1))).1
        exact this
      · exact q.elim
    · exact q.elim
  · rename_i a
    split at q
    · rename_i xs e1
      obtain ⟨vs, hv, l⟩ := hr.lst e1
      split at q
      · rename_i y ey
        rw [← l.length] at ey
        obtain ⟨u, hu, ru⟩ := l.get ey
        exact .inr ⟨a, vs, u, rx.toRef, rs.nil_of, hv, hu, k.wrote hr hv l.dropLast ru q⟩
      · exact q.elim
    · exact q.elim
  · exact q.elim
/-! ### sums -/
def intsOf : List D → Option (List Int)
  | [] => some []
  | .int i :: ds => (intsOf ds).map (i :: ·)
  | _ :: _ => none
theorem intsOf_map : ∀ ns : List Int, intsOf (ns.map D.int) = some ns
  | [] => rfl
  | n :: ns => by simp [intsOf, intsOf_map ns]
theorem intsOf_ok : ∀ {ds : List D} {ns : List Int}, intsOf ds = some ns → ds = ns.map D.int
  | [], ns, h => by cases h; rfl
  | d :: ds, ns, h => by
    cases d with
    | int b =>
      have h' : (intsOf ds).map (b :: ·) = some ns := h
      cases e : intsOf ds with
      | none => rw [e] at h'; cases h'
      | some cs => rw [e] at h'; cases h'; rw [intsOf_ok e]; rfl
    | _ => cases h
def sumG : DG := fun ds M Q => match ds with
  | [.ref a] => match (seqOf M a).bind intsOf with
    | some ns => Q (.int ns.sum) M
    | none => False
  | _ => False
theorem call_sumG (hc : X.calm = true) : CallR X (.builtin "sum") (liftC X.K sumG) := CallRimp (cr_sum hc) fun xs H Q ⟨ds, M, Qd, q, r, hr, k⟩ => by
  unfold sumG at q
  split at q
  · obtain ⟨v, rfl, rv⟩ := r.one
    split at q
    · rename_i ns e
      obtain ⟨zs, e1, e2⟩ := Option.bind_eq_some_iff.mp e
      obtain ⟨vs, s, l⟩ := seqOf_ok hr e1
      rw [intsOf_ok e2] at l
      rw [l.ints] at s
      exact ⟨_, ns, by rw [rv.toRef], s, k _ M _ H q .refl (.int _) hr⟩
    · exact q.elim
  · exact q.elim
/-! ### range(i, j, -1), zip -/
variable {tg : Expr} {ta : DA}
def dRngD (ta : DA) : DI := fun τ M Q E => ta τ M (fun ds M1 => match ds with
  | [.int i, .int j, .int c] => c = -1 ∧ (-(2 ^ 62) ≤ i ∧ i < 2 ^ 62 ∧ -(2 ^ 62) ≤ j ∧ j < 2 ^ 62) ∧ i - j ≤ 16777216 ∧ Q ((List.range (i - j).toNat).map fun k => D.int (i - (k : Nat))) (fun _ => True) M1
  | _ => False) E
theorem RpL.three {K : PySem.W.Frag} {H : Hp} {vs : List V} {d d' d2 : D} (h : RpL K H vs [d, d', d2]) : ∃ v v' v2, vs = [v, v', v2] ∧ Rp K H v d ∧ Rp K H v' d' ∧ Rp K H v2 d2 := by
  cases h with
  | cons r l => obtain ⟨v, v', rfl, q⟩ := l.two; exact ⟨_, _, _, rfl, r, q⟩
theorem itOk_down {K : PySem.W.Frag} {H : Hp} {hi : Int} {n : Nat} (hz : n ≤ sizeLine) : ItOk K H (Itc hi (-1) n) ((List.range n).map fun i => D.int (hi - (i : Nat))) fun _ => True where
  small := by simpa using hz
  go := fun i H1 M e _ _ hi => show i < n by simpa using hi
  stop := fun i H1 M e _ _ hi => show n ≤ i by simpa using hi
  yld := fun i H1 M x H2 e _ _ y => by
    obtain ⟨rfl, rfl⟩ := y
    refine ⟨.refl, fun _ h => h, fun d hd => ?_⟩
    obtain ⟨_, rfl⟩ := rng_at hd
    have e : hi + ((i : Nat) : Int) * (-1) = hi - ((i : Nat) : Int) := by omega
    rw [e]
    exact .int _
theorem pid_rngD {a b c : Expr} (hg : Gl X "range") (hm : X.mg "range" = none) (ha : PAD X W [a, b, c] ta)
    (hs : starEach [a, b, c] X.env = (false, eval a X.env) :: starEach [b, c] X.env := by rfl) (hpl : (backTo pos (starEach [b, c] X.env)).any (·.1) = false := by rfl) : PID X W tg (.Call (.Name "range" p) [a, b, c] [] pos) (dRngD ta) :=
  ⟨PIimp (pi_range3 hg hm ha.run hs hpl) fun σ H R ⟨τ, M, Qd, Ed, hs, hr, q, we, k⟩ => ⟨τ, M, _, Ed, hs, hr, q, we, fun ds M1 vs H1 q1 e1 r1 h1 => by
    split at q1
    · rename_i i j c
      obtain ⟨v, v', v2, rfl, rv, rv', rv2⟩ := r1.three
      obtain ⟨rfl, c1, c2, q1⟩ := q1
      refine ⟨i, j, -1, (i - j).toNat, by rw [rv.toInt, rv'.toInt, rv2.toInt], RgC.neg c1.1 c1.2.1 c1.2.2.1 c1.2.2.2, k _ _ _ M1 H1 q1 e1 h1 (itOk_down (by rw [sizeLine_eq]; omega))⟩
    · exact q1.elim⟩⟩
end
end DL

set_option maxHeartbeats 4000000
namespace DLdict
open PySem
section
variable {prog : Program} {w : World} {K : Type} [DecidableEq K] {kd : KeyKind prog w K} {A : Around} {E : Value → Shared → Prop} {s : Shared}
/-- one pair is put, without the rules of d[k] = v -/
theorem put_pairs {a : Addr} {ps : List (K × Value)} {k : K} {kv v : Value} {Q : Unit → Shared → Prop} (hk : kd.is k kv = true) (hm : s.heap.DictOf kd a ps) (hz : ps.length ≤ sizeLine)
    (hQ : ∀ h', h'.DictOf kd a (stored ps k v) → Heap.SameBut a s.heap h' → Q () { s with heap := h' }) : wpAny (model prog w) A (dictPut a (kd.hash k) kv v) Q E s := by
  obtain ⟨ob, en, epo, g1, g2, g3, g4, g5, g6⟩ := hm
  have hen : en.size ≤ sizeLine := by
    have e1 := g5.length
    rw [Array.length_toList] at e1
    omega
  unfold dictPut
  refine wpAny_bind (wpAny_dictFind_of hk g1 g3 g4 ?_)
  have same : (en.findIdx? fun e => kd.is k e.key) = ps.findIdx? fun q => decide (q.1 = k) := by
    rw [← g5.findIdx k]
    obtain ⟨l⟩ := en
    simp
  cases hi : en.findIdx? fun e => kd.is k e.key with
  | some i =>
    have yes := any_of_findIdx_some (same ▸ hi)
    refine wpAny_updateDict g1 g3 (hQ _ ⟨_, _, epo, Heap.get?_update_self _ g1 (Obj.isFreed_of_dict (Obj.data_mapDict g3 _)), g2.mapDict _, Obj.data_mapDict g3 _, g4.modify _ _, ?_, ?_⟩ (Heap.SameBut.update ..))
    · have at_ : (en.toList.findIdx? fun e => kd.is k e.key) = some i := by
        rw [← hi]
        obtain ⟨l⟩ := en
        simp
      have r := g5.modify g6 at_ v
      rw [stored, if_pos yes]
      obtain ⟨l⟩ := en
      simpa using r
    · rw [stored, if_pos yes, keys_map_store]
      exact g6
  | none =>
    have out : k ∉ ps.map (·.1) := not_mem_of_findIdx_none (same ▸ hi)
    have no : ¬ (ps.any fun q => decide (q.1 = k)) = true := fun h => by
      obtain ⟨q, hq, e⟩ := List.any_eq_true.mp h
      exact out (List.mem_map.mpr ⟨q, hq, of_decide_eq_true e⟩)
    refine wpAny_updateDictKeys (hz := hen) g1 g3 (hQ _ ⟨_, _, epo + 1, Heap.get?_update_self _ g1 (Obj.isFreed_of_dict (Obj.data_mapDictKeys g3 _)), g2.mapDictKeys _, Obj.data_mapDictKeys g3 _, g4.push hk _, ?_, ?_⟩ (Heap.SameBut.update ..))
    · have r := g5.append hk (kd.hash k) v
      rw [stored, if_neg no]
      obtain ⟨l⟩ := en
      simpa using r
    · rw [stored, if_neg no, List.map_append]
      refine List.nodup_append.mpr ⟨g6, by simp, fun x hx y hy e => ?_⟩
      have : y = k := by simpa using hy
      subst this
      exact out (e ▸ hx)
/-- what {**o} does with a plain dict o -/
theorem merge_map {a o : Addr} {ps more : List (K × Value)} {Q : Unit → Shared → Prop} (hao : a ≠ o) (hoS : (o == sysModules) = false) (flat : ∀ (k : K) (v : Value), kd.is k v = true → ∀ b, v ≠ .ref b)
    (hd : s.heap.DictOf kd a ps) (ho : s.heap.DictOf kd o more) (hz : ps.length + more.length ≤ sizeLine)
    (hQ : ∀ h', h'.DictOf kd a (merged ps more) → h'.DictOf kd o more → Heap.SameBut a s.heap h' → Q () { s with heap := h' }) : wpAny (model prog w) A (mergeMapping a (.ref o) false) Q E s := by
  obtain ⟨od, ed, pd, d1, d2, d3, d4, d5, d6⟩ := id hd
  obtain ⟨oo, eo, po, o1, o2, o3, o4, o5, o6⟩ := id ho
  have hlen : more.length = eo.size := by rw [← o5.length, Array.length_toList]
  have hty := ho.typeIs
  unfold mergeMapping
  refine wpAny_bind (wpAny_isInstance hty F.sub_dict_dict ?_)
  dsimp only
  rw [if_pos rfl]
  refine wpAny_bind (wpAny_specialOf hty F.slot_dict_iter.lookup (wpAny_bind (wpAny_pure ?_)))
  have ey : ((some (Value.builtin "dict.__iter__") : Option Value) == some (.builtin "dict.__iter__")) = true := by simp
  rw [ey]
  dsimp only
  rw [if_neg (by rw [hoS]; exact Bool.false_ne_true)]
  refine wpAny_bind (wpAny_dictEntries d1 d3 ?_)
  have loop : wpAny (model prog w) A (do
      let en ← dictEntries o
      let epo ← dictEpoch o
      forIn (List.range en.size) PUnit.unit fun i (_ : PUnit) => (do
        let en2 ← dictEntries o
        match en2[i]? with
        | some e => do
          holding [e.key, e.val] (dictPut a e.hash e.key e.val)
          let epo2 ← dictEpoch o
          if (epo2 != epo) = true then do
              (unsupported "dict.changed-during-merge" : Sem PUnit)
              pure (ForInStep.yield PUnit.unit)
            else pure (ForInStep.yield PUnit.unit)
        | _ => do
          (unsupported "dict.changed-during-merge" : Sem PUnit)
          pure (ForInStep.yield PUnit.unit) : Sem (ForInStep PUnit))
      pure ()) Q E s := by
    refine wpAny_bind (wpAny_dictEntries o1 o3 ?_)
    refine wpAny_bind (wpAny_dictEpoch o1 o3 ?_)
    refine wpAny_bind ?_
    rw [List.range_eq_range']
    refine wpAny_forIn_list _ (fun rest _ s' => ∃ h' i, s' = { s with heap := h' } ∧ rest = List.range' i (eo.size - i) ∧ i ≤ eo.size ∧ h'.DictOf kd a (merged ps (more.take i)) ∧ h'.get? o = some oo ∧ Heap.SameBut a s.heap h')
      _ ?_ ?_ _ _ ⟨s.heap, 0, rfl, by simp, Nat.zero_le _, by simpa [merged] using hd, o1, Heap.SameBut.refl _ _⟩
    · rintro x rest b s' ⟨h', i, rfl, hr, hi, hd', hoo', hs'⟩
      have hlt : i < eo.size := by
        by_cases c : i < eo.size
        · exact c
        · have e0 : eo.size - i = 0 := by omega
          rw [e0] at hr
          cases hr
      have step : eo.size - i = (eo.size - (i + 1)) + 1 := by omega
      rw [step, List.range'_succ] at hr
      injection hr with hx hrest
      subst hx
      refine wpAny_bind (wpAny_dictEntries hoo' o3 ?_)
      rw [Array.getElem?_eq_getElem hlt]
      obtain ⟨⟨k, v⟩, hkv⟩ : ∃ q, more[x]? = some q := ⟨more[x]'(by rw [hlen]; exact hlt), List.getElem?_eq_getElem _⟩
      obtain ⟨hkey, hval⟩ := o5.get? (e := eo[x]) (by simp [hlt]) hkv
      obtain ⟨k', hkey', hhash⟩ := o4 eo[x] (Array.getElem_mem hlt)
      obtain rfl : k' = k := kd.inj _ _ _ hkey' hkey
      show wpAny _ _ (holding [eo[x].key, eo[x].val] (dictPut a eo[x].hash eo[x].key eo[x].val) >>= _) _ _ _
      rw [hhash, hval]
      have hmx : (merged ps (more.take x)).length ≤ sizeLine := by
        have e1 := merged_length_le ps (more.take x)
        rw [List.length_take] at e1
        omega
      refine wpAny_bind (wpAny_holding (put_pairs hkey hd' hmx fun h2 hd2 hs2 => ?_))
      have hoo2 : h2.get? o = some oo := (hs2.2 o (Ne.symm hao)).trans hoo'
      refine wpAny_bind (wpAny_dictEpoch hoo2 o3 ?_)
      rw [if_neg (by simp)]
      exact wpAny_pure ⟨h2, x + 1, rfl, hrest, hlt, by rw [merged_take_succ ps more x (k', v) hkv]; exact hd2, hoo2, hs'.trans hs2⟩
    · rintro b s' ⟨h', i, rfl, hr, hi, hd', hoo', hs'⟩
      have hin : i = eo.size := by
        by_cases c : i < eo.size
        · have step : eo.size - i = (eo.size - (i + 1)) + 1 := by omega
          rw [step, List.range'_succ] at hr
          cases hr
        · omega
      refine wpAny_pure (hQ h' ?_ ⟨oo, eo, po, hoo', o2, o3, o4, o5, o6⟩ hs')
      rw [hin, ← hlen, List.take_length] at hd'
      exact hd'
  split
  · refine wpAny_bind (wpAny_dictEntries o1 o3 ?_)
    refine wpAny_bind ?_
    have still : (forIn eo PUnit.unit fun e (_ : PUnit) => (match e.key with
        | Value.ref b => do
          let r ← specialOf e.key (Str.ofString "__eq__")
          if (r != some (Value.builtin "object.__eq__")) = true then
            if (Array.filter (fun x => x.hash == e.hash) eo).size > 1 then do
              (unsupported "dict.merge-into-an-empty-dict:keys-of-equal-hash" : Sem PUnit)
              pure (ForInStep.yield PUnit.unit)
            else pure (ForInStep.yield PUnit.unit)
          else pure (ForInStep.yield PUnit.unit)
        | _ => pure (ForInStep.yield PUnit.unit) : Sem (ForInStep PUnit))) = pure PUnit.unit := by
      rw [← Array.forIn_toList]
      refine forIn_yield_id _ fun e he c => ?_
      obtain ⟨k, hkey, _⟩ := o4 e (Array.mem_toList_iff.mp he)
      have nr := flat k _ hkey
      cases e2 : e.key with
      | ref b => exact absurd e2 (nr b)
      | _ => rfl
    exact wpAny_of_eq still loop
  · exact loop
end
end DLdict

set_option maxHeartbeats 4000000
namespace DLdict
open PySem L2
section
variable {prog : Program} {w : World} {K : Type} [DecidableEq K] {kd : KeyKind prog w K} {A : Around} {E : Value → Shared → Prop} {s : Shared}
/-- {**e, k: v} -/
theorem star_display {te tk tv : Sem Value} {Q : Value → Shared → Prop} (flat : ∀ (k : K) (v : Value), kd.is k v = true → ∀ b, v ≠ .ref b)
    (h : wpAny (model prog w) A te (fun m s1 => ∃ (o : Addr) (kvs : List (K × Value)), m = .ref o ∧ s.heap.objs.size ≠ o ∧ (o == sysModules) = false ∧ s1.heap.DictOf kd s.heap.objs.size [] ∧ s1.heap.DictOf kd o kvs ∧ kvs.length ≤ 100000 ∧
      ∀ h2, h2.DictOf kd s.heap.objs.size (merged [] kvs) → Heap.SameBut s.heap.objs.size s1.heap h2 →
        wpAny (model prog w) A (evalPairs [(tk, tv)]) (fun vs s3 => ∃ prs xs : List (K × Value), prs.length ≤ 1 ∧ xs.length ≤ 100000 ∧ Carries kd vs prs ∧ s3.heap.DictOf kd h2.objs.size [] ∧ s3.heap.DictOf kd s.heap.objs.size xs ∧ s.heap.objs.size ≠ h2.objs.size ∧ (h2.objs.size == sysModules) = false ∧
          ∀ h4 h5, h4.DictOf kd h2.objs.size (merged [] prs) → Heap.SameBut h2.objs.size s3.heap h4 → h5.DictOf kd s.heap.objs.size (merged xs (merged [] prs)) → h5.DictOf kd h2.objs.size (merged [] prs) → Heap.SameBut s.heap.objs.size h4 h5 →
            Q (.ref s.heap.objs.size) { s3 with heap := h5, toks := s3.toks + vs.length }) E { s1 with heap := h2.push { cls := .type "dict", data := .dict #[] } }) E
      { s with heap := s.heap.push { cls := .type "dict", data := .dict #[] } }) : wpAny (model prog w) A (dictDisplay [(none, te), (some tk, tv)]) Q E s := by
  unfold dictDisplay
  simp only [List.forIn_cons, List.forIn_nil, List.isEmpty_nil, if_true, pure_bind, List.nil_append, List.length_singleton, bind_assoc, Nat.reduceBEq, Bool.false_eq_true, if_false, List.isEmpty_cons]
  refine wpAny_bind (wpAny_alloc ?_)
  refine wpAny_bind (wpAny_holding (wpAny_mono h (fun m s1 h1 => ?_) fun _ _ e => e))
  obtain ⟨o, kvs, rfl, hne, hoS, dn, dk, hz, h1⟩ := h1
  refine wpAny_bind (wpAny_onRaise (wpAny_tryCatch (wpAny_onRaise (wpAny_holding (merge_map hne hoS flat dn dk (by rw [List.length_nil, sizeLine_eq]; omega) fun h2 m2 k2 sb2 => ?_)))))
  refine wpAny_bind (wpAny_holding (wpAny_subDict (knd := kd) (by show 1 ≤ 15; omega) (wpAny_mono (h1 h2 m2 sb2) (fun vs s3 q3 => ?_) fun _ _ e => e)))
  obtain ⟨prs, xs, hv1, hx1, hc, e0, e1, hn2, hS2, fin⟩ := q3
  refine ⟨prs, hc, e0, fun h4 m4 sb4 => ?_⟩
  have hl1 := merged_length_le ([] : List (K × Value)) kvs
  have hl2 := merged_length_le ([] : List (K × Value)) prs
  rw [List.length_nil] at hl1 hl2
  refine wpAny_bind (wpAny_onRaise (wpAny_holding (merge_map (more := merged [] prs) hn2 hS2 flat (e1.sameBut sb4 hn2) m4 (by rw [sizeLine_eq]; omega) fun h5 m5 k5 sb5 => ?_)))
  refine wpAny_pure ?_
  exact fin h4 h5 m4 sb4 m5 k5 sb5
theorem mix_flat {prog : Program} {w : World} (k : Key) (v : Value) (h : (mixKind prog w).is k v = true) (b : Addr) : v ≠ .ref b := by
  rintro rfl
  rcases keyIs_shape h with ⟨i, t, _, e⟩ | ⟨x, t, _, e⟩ <;> cases e
/-- {**e, k: v}: p the new dict, q the one that holds k: v on its way -/
def tDStar (te tk tv : TE) : TE := fun σ H Q => ∀ p, H p = none → te σ (upd H p (.dK [])) fun x H1 => ∃ (o : Addr) (kvs : List (Key × V)), x = .ref o ∧ Rd H1 o (.dK kvs) ∧ p ≠ o ∧ H1 p = some (.dK []) ∧ kvs.length ≤ 100000 ∧
  ∀ q, upd H1 p (.dK (mergeK [] kvs)) q = none → tk σ (upd (upd H1 p (.dK (mergeK [] kvs))) q (.dK [])) fun y H2 => tv σ H2 fun z H3 => ∃ k ws, y = kV k ∧ H3 q = some (.dK []) ∧ H3 p = some (.dK ws) ∧ ws.length ≤ 100000 ∧ p ≠ q ∧
    Q (.ref p) (upd (upd H3 q (.dK [(k, z)])) p (.dK (putK ws k z)))
theorem pe_dstar {X : Cx} {e k v : Expr} {te tk tv : TE} {pos : Pos} (he : PE X e te) (hk : PE X k tk) (hv : PE X v tv) : PE X (.Dict [none, some k] [e, v] pos) (tDStar te tk tv) := by
  refine ⟨fun pins s σ H Q I hq => ?_⟩
  have hn := I.hok.fresh (Nat.le_refl s.heap.objs.size)
  have I1 := I.laid (a := s.heap.objs.size) (o := .dK []) (h' := s.heap.push { cls := .type "dict", data := .dict #[] }) (t' := s.toks) (fun _ _ z => Heap.get?_push_of_some _ z) (Nat.le_refl _) (dk_empty s.heap I.big)
  rw [arm_eval_Dict]
  refine wpAny_bind (wpAny_standAt (star_display (kd := mixKind X.prog X.w) (fun k v h b => mix_flat k v h b) (te := do let x ← eval e X.env; standAt pos; pure x) (tk := eval k X.env) (tv := do let x ← eval v X.env; standAt pos; pure x) ?_))
  refine wpAny_bind (thn (he.run pins _ σ _ _ I1 (hq _ hn)) fun u s1 ⟨x, H1, I2, rx, o, kvs, ex, rd, hpo, h0, hz, q1⟩ => wpAny_bind (wpAny_standAt (wpAny_pure ?_)))
  subst ex
  obtain rfl : u = Value.ref o := rx
  obtain ⟨z1, hoS, vs, rel, dd⟩ := dk_rd I2.hok rd
  obtain ⟨z0, hpS, vs0, rel0, dd0⟩ := dk_of I2.hok h0
  cases rel0
  refine ⟨o, vs, rfl, hpo, hoS, dd0, dd, by rw [← rel.length]; exact hz, fun h2 m2 sb2 => ?_⟩
  have zl : (mergeK [] kvs).length ≤ sizeLine := by
    have := length_mergeK kvs []
    rw [List.length_nil] at this
    rw [sizeLine_eq]; omega
  have ex2 : ∃ c, h2.get? s.heap.objs.size = some c := let ⟨c, _, _, hc, _⟩ := m2; ⟨c, hc⟩
  have I3 := d_write (t' := s1.toks) I2 (by rw [h0]; exact True.intro) sb2 ex2 (dk_new zl hpS (rel.merge .nil) m2)
  have hn3 := I3.hok.fresh (Nat.le_refl h2.objs.size)
  have I4 := I3.laid (a := h2.objs.size) (o := .dK []) (h' := h2.push { cls := .type "dict", data := .dict #[] }) (t' := s1.toks) (fun _ _ z => Heap.get?_push_of_some _ z) (Nat.le_refl _) (dk_empty h2 I3.big)
  refine thn ((pps_cons (pos := pos) hk hv pps_nil).run pins _ σ _ (fun ps H3 => match ps with
    | [(y, z)] => ∃ k ws, y = kV k ∧ H3 h2.objs.size = some (.dK []) ∧ H3 s.heap.objs.size = some (.dK ws) ∧ ws.length ≤ 100000 ∧ s.heap.objs.size ≠ h2.objs.size ∧
      Q (.ref s.heap.objs.size) (upd (upd H3 h2.objs.size (.dK [(k, z)])) s.heap.objs.size (.dK (putK ws k z)))
    | _ => False) I4 (q1 _ hn3)) fun ws s3 ⟨ps, H3, I5, rv, q5⟩ => ?_
  have one : ∃ y z, ps = [(y, z)] := by
    split at q5
    · exact ⟨_, _, rfl⟩
    · exact q5.elim
  obtain ⟨y, z, rfl⟩ := one
  obtain ⟨kk, wk, rfl, hq3, hp3, lwk, npq, fin⟩ := q5
  obtain ⟨prs, c, rk⟩ := carries_of (P := X.prog) (w := X.w) (kvs := [(kk, z)]) rv
  obtain ⟨y0, hqS, w0, r0, dq⟩ := dk_of I5.hok hq3
  cases r0
  obtain ⟨y1, _, w1, r1, dp⟩ := dk_of I5.hok hp3
  have lp : prs.length ≤ 1 := by rw [← rk.length]; exact Nat.le_refl 1
  have lw : w1.length ≤ 100000 := by rw [← r1.length]; exact lwk
  refine ⟨prs, w1, lp, lw, c, dq, dp, npq, hqS, fun h4 h5 m4 sb4 m5 k5 sb5 => ?_⟩
  have ex4 : ∃ c, h4.get? h2.objs.size = some c := let ⟨c, _, _, hc, _⟩ := m4; ⟨c, hc⟩
  have ex5 : ∃ c, h5.get? s.heap.objs.size = some c := let ⟨c, _, _, hc, _⟩ := m5; ⟨c, hc⟩
  have I6 := d_write (t' := s3.toks) I5 (by rw [hq3]; exact True.intro) sb4 ex4 (dk_new (kvs := mergeK [] [(kk, z)]) (by rw [sizeLine_eq]; have := length_mergeK [(kk, z)] []; simp at this; omega) hqS (rk.merge .nil) m4)
  have eo : upd H3 h2.objs.size (.dK (mergeK [] [(kk, z)])) s.heap.objs.size = some (.dK wk) := by rw [upd_ne npq]; exact hp3
  have I7 := d_write (t' := s3.toks + ws.length) I6 (by rw [eo]; exact True.intro) sb5 ex5 (dk_new (kvs := mergeK wk (mergeK [] [(kk, z)])) (by
    have h1 := length_mergeK (mergeK [] [(kk, z)]) wk
    have h2 := length_mergeK [(kk, z)] []
    rw [List.length_nil] at h2
    rw [List.length_singleton] at h2
    rw [sizeLine_eq]
    omega) hpS ((rk.merge .nil).merge r1) m5)
  exact ⟨.ref s.heap.objs.size, _, I7, rfl, fin⟩
end
end DLdict

set_option maxHeartbeats 4000000
namespace DLdict
open PySem L2
/-! ### d.copy() -/
def rCopy : V → List V → Hp → VK → Prop := fun x xs H Q => ∃ (a : Addr) (kvs : List (Key × V)), x = .ref a ∧ xs = [] ∧ H a = some (.dK kvs) ∧ ∀ p, H p = none → Q (.ref p) (upd H p (.dK kvs))
theorem mt_copy {X : Cx} : MtR X "dict.copy" rCopy := by
  intro pins s σ H x xs v us Q I rx rs ⟨a, kvs, ex, es, ha, q⟩
  subst ex; subst es
  cases rs
  obtain rfl : v = Value.ref a := rx
  obtain ⟨z, hS, vs, rel, dd⟩ := dk_of I.hok ha
  refine call_meetsIn PySem.F.slot_dict_copy dd.typeIs PySem.F.entry_dict_copy (PySem.F.args_dict_copy_1 _) (meets_dict_copy (mixKind X.prog X.w) a hS) ⟨vs, dd, by rw [← rel.length]; exact z, fun h' n1 n2 k => ?_⟩
  have hn := I.hok.fresh (Nat.le_refl s.heap.objs.size)
  have hp : (s.heap.objs.size == sysModules) = false := beq_eq_false_iff_ne.mpr (Ne.symm (Nat.ne_of_lt I.big))
  exact ⟨.ref s.heap.objs.size, _, I.laid (a := s.heap.objs.size) (o := .dK kvs) (t' := s.toks) k (Nat.le_refl _) (dk_new z hp rel n1), rfl, q _ hn⟩
end DLdict
namespace DL
open PySem PySem.Spec L2
/-! ### dicts whose keys are ints or texts -/
def keyD : D → Option Key
  | .int i => some (.inl i)
  | .str x => some (.inr x)
  | _ => none
theorem keyD_ok {K : PySem.W.Frag} {H : Hp} {v : V} {d : D} {k : Key} (r : Rp K H v d) (h : keyD d = some k) : v = kV k := by
  cases d with
  | int i => cases h; exact r.toInt
  | str x => cases h; exact r.toStr
  | _ => cases h
def valD (kvs : List (Key × D)) (k : Key) : Option D := (kvs.find? fun q => decide (q.1 = k)).map (·.2)
def putKD (kvs : List (Key × D)) (k : Key) (d : D) : List (Key × D) := if (kvs.any fun q => decide (q.1 = k)) = true then kvs.map (fun q => if q.1 = k then (q.1, d) else q) else kvs ++ [(k, d)]
def mergeKD (kvs more : List (Key × D)) : List (Key × D) := more.foldl (fun acc q => putKD acc q.1 q.2) kvs
section
variable {K : PySem.W.Frag} {H : Hp}
theorem KD.length : ∀ {vs : List (Key × V)} {ds : List (Key × D)}, KD K H vs ds → vs.length = ds.length
  | [], [], _ => rfl
  | _ :: _, _ :: _, h => by simp [KD.length h.2.2]
  | [], _ :: _, h => h.elim
  | _ :: _, [], h => h.elim
theorem KD.any {k : Key} : ∀ {vs : List (Key × V)} {ds : List (Key × D)}, KD K H vs ds → (vs.any fun q => decide (q.1 = k)) = ds.any fun q => decide (q.1 = k)
  | [], [], _ => rfl
  | p :: _, q :: _, h => by rw [List.any_cons, List.any_cons, KD.any h.2.2, h.1]
  | [], _ :: _, h => h.elim
  | _ :: _, [], h => h.elim
theorem KD.get {k : Key} : ∀ {vs : List (Key × V)} {ds : List (Key × D)}, KD K H vs ds → ∀ d, valD ds k = some d → ∃ v, valV vs k = some v ∧ Rp K H v d
  | [], [], _, d, e => by cases e
  | p :: ps, q :: qs, h, d, e => by
    by_cases c : q.1 = k
    · have e' : some q.2 = some d := by simpa [valD, List.find?_cons, c] using e
      cases e'
      exact ⟨p.2, valV_pos (h.1.trans c), h.2.1⟩
    · have e' : valD qs k = some d := by simpa [valD, List.find?_cons, c] using e
      obtain ⟨v, e1, r⟩ := KD.get h.2.2 d e'
      exact ⟨v, by rw [valV_neg (fun z => c (h.1.symm.trans z))]; exact e1, r⟩
  | [], _ :: _, h, _, _ => h.elim
  | _ :: _, [], h, _, _ => h.elim
theorem KD.got {k : Key} : ∀ {vs : List (Key × V)} {ds : List (Key × D)}, KD K H vs ds → (valV vs k).isSome = (valD ds k).isSome
  | [], [], _ => rfl
  | p :: ps, q :: qs, h => by
    by_cases c : q.1 = k
    · have e' : valD (q :: qs) k = some q.2 := by simp [valD, List.find?_cons, c]
      rw [valV_pos (h.1.trans c), e']
      rfl
    · have e' : valD (q :: qs) k = valD qs k := by simp [valD, List.find?_cons, c]
      rw [valV_neg (fun z => c (h.1.symm.trans z)), e']
      exact KD.got h.2.2
  | [], _ :: _, h => h.elim
  | _ :: _, [], h => h.elim
theorem KD.over {k : Key} {v : V} {d : D} (r : Rp K H v d) : ∀ {vs : List (Key × V)} {ds : List (Key × D)}, KD K H vs ds → KD K H (vs.map fun q => if q.1 = k then (q.1, v) else q) (ds.map fun q => if q.1 = k then (q.1, d) else q)
  | [], [], _ => True.intro
  | p :: _, q :: _, h => by
    rw [List.map_cons, List.map_cons]
    by_cases c : q.1 = k
    · rw [if_pos c, if_pos (h.1.trans c)]
      exact ⟨h.1, r, KD.over r h.2.2⟩
    · rw [if_neg c, if_neg (fun z => c (h.1.symm.trans z))]
      exact ⟨h.1, h.2.1, KD.over r h.2.2⟩
  | [], _ :: _, h => h.elim
  | _ :: _, [], h => h.elim
theorem KD.snoc {k : Key} {v : V} {d : D} (r : Rp K H v d) : ∀ {vs : List (Key × V)} {ds : List (Key × D)}, KD K H vs ds → KD K H (vs ++ [(k, v)]) (ds ++ [(k, d)])
  | [], [], _ => ⟨rfl, r, True.intro⟩
  | p :: _, q :: _, h => ⟨h.1, h.2.1, KD.snoc r h.2.2⟩
  | [], _ :: _, h => h.elim
  | _ :: _, [], h => h.elim
theorem KD.put {k : Key} {v : V} {d : D} (r : Rp K H v d) {vs : List (Key × V)} {ds : List (Key × D)} (h : KD K H vs ds) : KD K H (putK vs k v) (putKD ds k d) := by
  unfold putK putKD
  rw [h.any]
  split
  · exact h.over r
  · exact h.snoc r
theorem KD.merge : ∀ {more : List (Key × V)} {moreD : List (Key × D)} {vs : List (Key × V)} {ds : List (Key × D)}, KD K H more moreD → KD K H vs ds → KD K H (mergeK vs more) (mergeKD ds moreD)
  | [], [], _, _, _, h => h
  | p :: ps, q :: qs, vs, ds, m, h => by
    have e : KD K H (putK vs p.1 p.2) (putKD ds q.1 q.2) := by
      rw [m.1]
      exact h.put m.2.1
    exact KD.merge (more := ps) (moreD := qs) m.2.2 e
  | [], _ :: _, _, _, m, _ => m.elim
  | _ :: _, [], _, _, m, _ => m.elim
/-- a dict is new, or written anew -/
theorem KC.dict {M : Mp} {Qd : DK} {Q : VK} {vs : List (Key × V)} {ds : List (Key × D)} {p : Addr} (k : KC K H Qd Q) (hr : HR K H M) (l : KD K H vs ds) (hp : H p = none) (q : ∀ p, M p = none → Qd (.ref p) (put M p (.dk ds))) : Q (.ref p) (upd H p (.dK vs)) :=
  k _ _ _ _ (q p (hr.free hp)) (.new hp) (.ref p) (hr.made (noTup_none hp) ⟨vs, upd_same, l.mono (.new hp)⟩)
theorem HR.dictAt {M : Mp} {a : Addr} {vs vs' : List (Key × V)} {ds' : List (Key × D)} (hr : HR K H M) (hv : H a = some (.dK vs)) (l : KD K H vs' ds') : TExt K H (upd H a (.dK vs')) ∧ HR K (upd H a (.dK vs')) (DL.put M a (.dk ds')) := by
  have e : TExt K H (upd H a (.dK vs')) := .upd (noTup_dK hv)
  exact ⟨e, hr.made (noTup_dK hv) ⟨vs', upd_same, l.mono e⟩⟩
end
section
variable {X : Cx} {W : DW} {pos p : Pos} {o e i k v f : Expr} {td ty te tk tv tx : DE}
def dDNew : DE := fun _ M Q _ => ∀ p, M p = none → Q (.ref p) (put M p (.dk []))
theorem pd_dnew : PD X W (.Dict [] [] pos) dDNew := ⟨PEimp pe_dnewK fun σ H Q ⟨τ, M, Qd, Ed, hs, hr, q, we, kk⟩ p hp => kk.dict hr (vs := []) (ds := []) True.intro hp q⟩
/-- the dict at d -/
def dictOf (d : D) (M : Mp) : Option (List (Key × D)) := match d with
  | .ref a => match M a with
    | some (.dk kvs) => some kvs
    | _ => none
  | _ => none
theorem dictOf_ok {K : PySem.W.Frag} {H : Hp} {M : Mp} {x : V} {d : D} {kvs : List (Key × D)} (r : Rp K H x d) (hr : HR K H M) (h : dictOf d M = some kvs) : ∃ a vs, x = .ref a ∧ d = .ref a ∧ M a = some (.dk kvs) ∧ H a = some (.dK vs) ∧ KD K H vs kvs := by
  cases d with
  | ref a =>
    have h' : (match M a with | some (.dk kvs) => some kvs | _ => none) = some kvs := h
    cases e : M a with
    | none => rw [e] at h'; cases h'
    | some ob =>
      rw [e] at h'
      cases ob with
      | dk xs => cases h'; obtain ⟨vs, q, l⟩ := hr.dk e; exact ⟨a, vs, r.toRef, rfl, e, q, l⟩
      | _ => cases h'
  | _ => cases h
/-- a dict that is read -/
def dictRd (d : D) (M : Mp) : Option (List (Key × D)) := match d with
  | .ref a => match M a with
    | some (.dk kvs) => some kvs
    | some (.rdk kvs) => some kvs
    | _ => none
  | _ => none
theorem dictRd_ok {K : PySem.W.Frag} {H : Hp} {M : Mp} {x : V} {d : D} {kvs : List (Key × D)} (r : Rp K H x d) (hr : HR K H M) (h : dictRd d M = some kvs) : ∃ a vs, x = .ref a ∧ d = .ref a ∧ Rd H a (.dK vs) ∧ KD K H vs kvs := by
  cases d with
  | ref a =>
    have h' : (match M a with | some (.dk kvs) => some kvs | some (.rdk kvs) => some kvs | _ => none) = some kvs := h
    cases e : M a with
    | none => rw [e] at h'; cases h'
    | some ob =>
      rw [e] at h'
      cases ob with
      | dk xs => cases h'; obtain ⟨vs, q, l⟩ := hr.dk e; exact ⟨a, vs, r.toRef, rfl, .inl q, l⟩
      | rdk xs => cases h'; obtain ⟨o, vs, q, l⟩ : ∃ o vs, H a = some (.frz o (.dK vs)) ∧ KD K H vs kvs := hr a _ e; exact ⟨a, vs, r.toRef, rfl, .inr ⟨o, q⟩, l⟩
      | _ => cases h'
  | _ => cases h
def dDGet (td ty : DE) : DE := fun τ M Q E => td τ M (fun x M1 => ty τ M1 (fun y M2 => match dictRd x M2, keyD y with
  | some kvs, some k => match valD kvs k with
    | some v => Q v M2
    | none => False
  | _, _ => False) E) E
theorem pd_dget (hu : X.A.units + 1 < cLine) (ho : PD X W o td) (hi : PD X W i ty) (hs : NoSl i) : PD X W (.Subscript o i pos) (dDGet td ty) :=
  ⟨PEimp (pe_dget hu ho.run hi.run hs) fun σ H Q ⟨τ, M, Qd, Ed, hs, hr, q, we, kk⟩ => ⟨τ, M, _, Ed, hs, hr, q, we, fun x M1 xv H1 q1 e1 r1 h1 => ⟨τ, M1, _, Ed, hs.mono e1, h1, q1, we, fun y M2 yv H2 q2 e2 r2 h2 => by
    dsimp only at q2
    split at q2
    · rename_i kvs k ed ek
      split at q2
      · rename_i w ew
        obtain ⟨a, vs, rfl, rfl, hv, l⟩ := dictRd_ok (r1.mono e2) h2 ed
        obtain ⟨u, hu, ru⟩ := l.get _ ew
        exact ⟨a, u, rfl, .inl ⟨vs, k, hv, keyD_ok r2 ek, hu.symm⟩, kk _ M2 _ H2 q2 (e1.trans e2) ru h2⟩
      · exact q2.elim
    · exact q2.elim⟩⟩⟩
/-- y in d, y not in d -/
def dDIn (n : Bool) (ty td : DE) : DE := fun τ M Q E => ty τ M (fun y M1 => td τ M1 (fun x M2 => match dictRd x M2, keyD y with
  | some kvs, some k => Q (.bl (n != (valD kvs k).isSome)) M2
  | _, _ => False) E) E
theorem dDIn_read {K : PySem.W.Frag} {n : Bool} {σ : L2.St} {H : Hp} {Q : VK} (h : liftE K W (dDIn n ty td) σ H Q) : liftE K W ty σ H fun y H1 => liftE K W td σ H1 fun x H2 => ∃ (a : Addr) (ob : Option V), x = .ref a ∧ DGet H2 a y ob ∧ Q (.bl (n != ob.isSome)) H2 := by
  obtain ⟨τ, M, Qd, Ed, hs, hr, q, we, kk⟩ := h
  refine ⟨τ, M, _, Ed, hs, hr, q, we, fun y M1 yv H1 q1 e1 r1 h1 => ⟨τ, M1, _, Ed, hs.mono e1, h1, q1, we, fun x M2 xv H2 q2 e2 r2 h2 => ?_⟩⟩
  dsimp only at q2
  split at q2
  · rename_i kvs k ed ek
    obtain ⟨a, vs, rfl, rfl, hv, l⟩ := dictRd_ok r2 h2 ed
    refine ⟨a, _, rfl, .inl ⟨vs, k, hv, keyD_ok (r1.mono e2) ek, rfl⟩, ?_⟩
    rw [l.got]
    exact kk _ M2 _ H2 q2 (e1.trans e2) (.bl _) h2
  · exact q2.elim
theorem pd_din (hu : X.A.units + 1 < cLine) (hi : PD X W i ty) (ho : PD X W o td) (hm : behindInMarks .In o = false := by with_unfolding_all rfl) : PD X W (.Compare i [.In] [o] pos) (dDIn false ty td) :=
  ⟨PEimp (pe_cmp (pc_din hu hi.run ho.run) hm) fun σ H Q h => by
    have := dDIn_read h
    simpa [tDIn] using this⟩
theorem pd_dnotin (hu : X.A.units + 1 < cLine) (hi : PD X W i ty) (ho : PD X W o td) (hm : behindInMarks .NotIn o = false := by with_unfolding_all rfl) : PD X W (.Compare i [.NotIn] [o] pos) (dDIn true ty td) :=
  ⟨PEimp (pe_cmp (pc_dnotin hu hi.run ho.run) hm) fun σ H Q h => by
    have := dDIn_read h
    simpa [tDNotIn] using this⟩
/-- {**e, k: v} -/
def dDStar (te tk tv : DE) : DE := fun τ M Q E => ∀ p, M p = none → te τ (put M p (.dk [])) (fun d M1 => match dictRd d M1 with
  | some kvs => d ≠ .ref p ∧ M1 p = some (.dk []) ∧ kvs.length ≤ 100000 ∧ ∀ q, put M1 p (.dk (mergeKD [] kvs)) q = none → tk τ (put (put M1 p (.dk (mergeKD [] kvs))) q (.dk [])) (fun y M2 => tv τ M2 (fun z M3 => match keyD y with
    | some k => M3 q = some (.dk []) ∧ M3 p = some (.dk (mergeKD [] kvs)) ∧ Q (.ref p) (put (put M3 q (.dk [(k, z)])) p (.dk (putKD (mergeKD [] kvs) k z)))
    | none => False) E) E
  | none => False) E
theorem pd_dstar (he : PD X W e te) (hk : PD X W k tk) (hv : PD X W v tv) : PD X W (.Dict [none, some k] [e, v] pos) (dDStar te tk tv) := by
  refine ⟨PEimp (DLdict.pe_dstar he.run hk.run hv.run) fun σ H Q ⟨τ, M, Qd, Ed, hs, hr, q, we, kk⟩ p hp => ?_⟩
  have e0 : TExt X.K H (upd H p (.dK [])) := .new hp
  have hr0 : HR X.K (upd H p (.dK [])) (put M p (.dk [])) := hr.made (noTup_none hp) ⟨[], upd_same, True.intro⟩
  refine ⟨τ, _, _, Ed, hs.mono e0, hr0, q p (hr.free hp), we, fun d M1 xv H1 q1 e1 r1 h1 => ?_⟩
  dsimp only at q1
  split at q1
  · rename_i kvs ed
    obtain ⟨a, vs, rfl, rfl, hv1, l⟩ := dictRd_ok r1 h1 ed
    obtain ⟨hne, hp1, hz, q1⟩ := q1
    obtain ⟨w0, hw0, l0⟩ := h1.dk hp1
    have : w0 = [] := List.length_eq_zero_iff.mp l0.length
    subst this
    have lm : KD X.K H1 (mergeK [] vs) (mergeKD [] kvs) := KD.merge l True.intro
    obtain ⟨e2, h2⟩ := HR.dictAt h1 hw0 lm
    refine ⟨a, vs, rfl, hv1, fun z => hne (by rw [z]), hw0, by rw [l.length]; exact hz, fun q hq => ?_⟩
    have npq : p ≠ q := by
      rintro rfl
      rw [upd_same] at hq
      cases hq
    have e3 : TExt X.K (upd H1 p (.dK (mergeK [] vs))) (upd (upd H1 p (.dK (mergeK [] vs))) q (.dK [])) := .new hq
    have h3 : HR X.K (upd (upd H1 p (.dK (mergeK [] vs))) q (.dK [])) (put (put M1 p (.dk (mergeKD [] kvs))) q (.dk [])) := h2.made (noTup_none hq) ⟨[], upd_same, True.intro⟩
    have e03 := ((e0.trans e1).trans e2).trans e3
    refine ⟨τ, _, _, Ed, hs.mono e03, h3, q1 q (h2.free hq), we, fun y M2 yv H4 q4 e4 r4 h4 => ⟨τ, M2, _, Ed, hs.mono (e03.trans e4), h4, q4, we, fun z M3 zv H5 q5 e5 r5 h5 => ?_⟩⟩
    dsimp only at q5
    split at q5
    · rename_i kx ek
      obtain ⟨c1, c2, q5⟩ := q5
      obtain ⟨w1, hw1, l1⟩ := h5.dk c1
      have : w1 = [] := List.length_eq_zero_iff.mp l1.length
      subst this
      obtain ⟨w2, hw2, l2⟩ := h5.dk c2
      have e05 := (e03.trans e4).trans e5
      have lw : w2.length ≤ 100000 := by
        have h6 := l2.length
        have h7 := lm.length
        have h8 := length_mergeK vs []
        have h9 := l.length
        rw [List.length_nil] at h8
        omega
      refine ⟨kx, w2, keyD_ok (r4.mono e5) ek, hw1, hw2, lw, npq, ?_⟩
      have l5 : KD X.K H5 [(kx, zv)] [(kx, z)] := ⟨rfl, r5, True.intro⟩
      obtain ⟨e6, h6⟩ := HR.dictAt h5 hw1 l5
      have hp6 : upd H5 q (.dK [(kx, zv)]) p = some (.dK w2) := by rw [upd_ne npq]; exact hw2
      obtain ⟨e7, h7⟩ := HR.dictAt h6 hp6 ((l2.mono e6).put (k := kx) (r5.mono e6))
      exact kk _ _ _ _ q5 ((e05.trans e6).trans e7) (.ref p) h7
    · exact q5.elim
  · exact q1.elim
end
end DL

set_option maxHeartbeats 4000000
namespace DL
open PySem PySem.Spec L2
/-! ### a dict that is walked stays as it is: it is read only meanwhile -/
section
variable {K : PySem.W.Frag} {H H' : Hp}
mutual
theorem Rp.monoT (e : ∀ a xs, SqT K H a xs → SqT K H' a xs) : ∀ {v : V} {d : D}, Rp K H v d → Rp K H' v d
  | _, _, .non => .non
  | _, _, .bl b => .bl b
  | _, _, .int b => .int b
  | _, _, .str b => .str b
  | _, _, .ref b => .ref b
  | _, _, .ty b => .ty b
  | _, _, .tup h l => .tup (e _ _ h) (RpL.monoT e l)
theorem RpL.monoT (e : ∀ a xs, SqT K H a xs → SqT K H' a xs) : ∀ {v : List V} {d : List D}, RpL K H v d → RpL K H' v d
  | _, _, .nil => .nil
  | _, _, .cons h l => .cons (Rp.monoT e h) (RpL.monoT e l)
end
theorem KD.monoT (e : ∀ a xs, SqT K H a xs → SqT K H' a xs) : ∀ {ps : List (Key × V)} {qs : List (Key × D)}, KD K H ps qs → KD K H' ps qs
  | [], [], h => h
  | p :: ps, q :: qs, h => ⟨h.1, h.2.1.monoT e, KD.monoT e h.2.2⟩
  | [], _ :: _, h => h.elim
  | _ :: _, [], h => h.elim
theorem FD.monoT (e : ∀ a xs, SqT K H a xs → SqT K H' a xs) : ∀ {ps : List (Str × V)} {qs : List (Str × D)}, FD K H ps qs → FD K H' ps qs
  | [], [], h => h
  | p :: ps, q :: qs, h => ⟨h.1, h.2.1.monoT e, FD.monoT e h.2.2⟩
  | [], _ :: _, h => h.elim
  | _ :: _, [], h => h.elim
theorem TExt.unlock {a : Addr} {o : Obj} {u : HO} (hu : H a = some u) (nf : NoTup (some u)) (e : TExt K (L2.upd H a (.frz o u)) H') : TExt K H (L2.upd H' a u) := by
  refine ⟨fun p xs h => ?_, fun p o' w h => ?_⟩
  · rcases h with (h | ⟨q, h⟩) | h
    · have n : p ≠ a := by rintro rfl; rw [hu] at h; cases h; exact nf
      have h1 : SqT K (L2.upd H a (.frz o u)) p xs := .inl (.inl (by rw [upd_ne n]; exact h))
      rcases e.tup _ _ h1 with (h2 | ⟨q2, h2⟩) | h2
      · exact .inl (.inl (by rw [upd_ne n]; exact h2))
      · exact .inl (.inr ⟨q2, by rw [upd_ne n]; exact h2⟩)
      · exact .inr h2
    · have n : p ≠ a := by rintro rfl; rw [hu] at h; cases h; exact nf
      have h1 : SqT K (L2.upd H a (.frz o u)) p xs := .inl (.inr ⟨q, by rw [upd_ne n]; exact h⟩)
      rcases e.tup _ _ h1 with (h2 | ⟨q2, h2⟩) | h2
      · exact .inl (.inl (by rw [upd_ne n]; exact h2))
      · exact .inl (.inr ⟨q2, by rw [upd_ne n]; exact h2⟩)
      · exact .inr h2
    · exact .inr h
  · have n : p ≠ a := by rintro rfl; rw [hu] at h; cases h; exact nf
    have h1 : L2.upd H a (.frz o u) p = some (.frz o' w) := by rw [upd_ne n]; exact h
    have h2 := e.frz _ _ _ h1
    rw [upd_ne n]; exact h2
end
section
variable {X : Cx} {W : DW}
def dLockN (a : Addr) (kvs : List (Key × D)) (Dn : DN) : DN where
  nx := fun τ M => M a = some (.rdk kvs) ∧ Dn.nx τ (put M a (.dk kvs))
  rt := fun d M => M a = some (.rdk kvs) ∧ Dn.rt d (put M a (.dk kvs))
  bk := fun τ M => M a = some (.rdk kvs) ∧ Dn.bk τ (put M a (.dk kvs))
  ct := fun τ M => M a = some (.rdk kvs) ∧ Dn.ct τ (put M a (.dk kvs))
  ex := Dn.ex
def dLock (t : DS) : DS := fun Dn τ M => ∃ a kvs, M a = some (.dk kvs) ∧ t (dLockN a kvs Dn) τ (put M a (.rdk kvs))
def dLockE (t : DE) : DE := fun τ M Q E => ∃ a kvs, M a = some (.dk kvs) ∧ t τ (put M a (.rdk kvs)) (fun d M1 => M1 a = some (.rdk kvs) ∧ Q d (put M1 a (.dk kvs))) E
/-- the lock itself -/
theorem HR.lock {K : PySem.W.Frag} {H : Hp} {M : Mp} {a : Addr} {o : Obj} {vs : List (Key × V)} {kvs : List (Key × D)} (hr : HR K H M) (hv : H a = some (.dK vs)) (l : KD K H vs kvs) : TExt K H (upd H a (.frz o (.dK vs))) ∧ HR K (upd H a (.frz o (.dK vs))) (DL.put M a (.rdk kvs)) := by
  have e : TExt K H (upd H a (.frz o (.dK vs))) := .upd (noTup_dK hv)
  exact ⟨e, hr.made (noTup_dK hv) ⟨o, vs, upd_same, l.mono e⟩⟩
theorem sqT_unlock {K : PySem.W.Frag} {H : Hp} {a : Addr} {o : Obj} {vs : List (Key × V)} (hf : H a = some (.frz o (.dK vs))) (p : Addr) (xs : List V) (h : SqT K H p xs) : SqT K (L2.upd H a (.dK vs)) p xs := by
  have n : p ≠ a ∨ ∃ ob its m, K.lookup p = some ob ∧ ob.cls = .type "tuple" ∧ ob.data = .seq its m ∧ its.size ≤ sizeLine ∧ Vals xs its.toList := by
    rcases h with (h | ⟨q, h⟩) | ⟨ob, its, m, r⟩
    · exact .inl (by rintro rfl; rw [hf] at h; cases h)
    · exact .inl (by rintro rfl; rw [hf] at h; cases h)
    · exact .inr ⟨ob, its, m, r⟩
  rcases n with n | r
  · rcases h with (h | ⟨q, h⟩) | h
    · exact .inl (.inl (by rw [upd_ne n]; exact h))
    · exact .inl (.inr ⟨q, by rw [upd_ne n]; exact h⟩)
    · exact .inr h
  · exact .inr r
/-- .. and its end -/
theorem HR.unlock {K : PySem.W.Frag} {H : Hp} {M : Mp} {a : Addr} {o : Obj} {vs : List (Key × V)} {kvs : List (Key × D)} (hr : HR K H M) (hf : H a = some (.frz o (.dK vs))) (hM : M a = some (.rdk kvs)) :
    HR K (upd H a (.dK vs)) (DL.put M a (.dk kvs)) := by
  obtain ⟨o1, vs1, h1, l⟩ : ∃ o vs, H a = some (.frz o (.dK vs)) ∧ KD K H vs kvs := hr a _ hM
  rw [hf] at h1
  cases h1
  have tt := sqT_unlock (K := K) hf
  intro b ob hb
  by_cases c : b = a
  · subst c
    rw [put_same] at hb
    cases hb
    exact ⟨vs, upd_same, KD.monoT tt l⟩
  · rw [put_ne c] at hb
    have h0 := hr b ob hb
    cases ob with
    | lst ds => obtain ⟨xs, q, r⟩ := h0; exact ⟨xs, (upd_ne c).trans q, RpL.monoT tt r⟩
    | rol ds => obtain ⟨o, xs, q, r⟩ := h0; exact ⟨o, xs, (upd_ne c).trans q, RpL.monoT tt r⟩
    | dk ds => obtain ⟨xs, q, r⟩ := h0; exact ⟨xs, (upd_ne c).trans q, KD.monoT tt r⟩
    | ins C ds => obtain ⟨dx, xs, q, r⟩ := h0; exact ⟨dx, xs, (upd_ne c).trans q, FD.monoT tt r⟩
    | xd ds => obtain ⟨xs, q, r⟩ := h0; exact ⟨xs, (upd_ne c).trans q, FD.monoT tt r⟩
    | rdk ds => obtain ⟨o, xs, q, r⟩ := h0; exact ⟨o, xs, (upd_ne c).trans q, KD.monoT tt r⟩
    | xt ds => obtain ⟨o, xs, q, u, r⟩ := h0; exact ⟨o, xs, (upd_ne c).trans q, u, RpL.monoT tt r⟩
theorem RS.unlock {K : PySem.W.Frag} {H0 H' : Hp} {σ : L2.St} {τ : Sl} {a : Addr} {vs : List (Key × V)} (h : RS K H0 H' σ τ) (tt : ∀ p xs, SqT K H' p xs → SqT K (upd H' a (.dK vs)) p xs) (e : TExt K H0 (upd H' a (.dK vs))) : RS K H0 (upd H' a (.dK vs)) σ τ :=
  ⟨e, h.len, fun i d q => by
    obtain ⟨v, h1, r⟩ := h.at_ i d q
    exact ⟨v, h1, Rp.monoT tt r⟩⟩
theorem psd_lock {st : Stmt} {t : DS} (h : PSD X W st t) : PSD X W st (dLock t) := ⟨PSimp (ps_lock h.run) fun De σ H ⟨τ, M, Dd, hs, hr, ⟨a, kvs, ha, q⟩, we, nc⟩ => by
  obtain ⟨vs, hv, l⟩ := hr.dk ha
  refine ⟨a, .dK vs, hv, True.intro, fun od => ?_⟩
  obtain ⟨e1, h1⟩ := HR.lock (o := od) hr hv l
  have nf : NoTup (some (HO.dK vs)) := True.intro
  have at1 : ∀ {H' : Hp}, TExt X.K (upd H a (.frz od (.dK vs))) H' → H' a = some (.frz od (.dK vs)) := fun e => e.frz _ _ _ upd_same
  refine ⟨τ, _, dLockN a kvs Dd, hs.mono e1, h1, q, we, ?_, ?_, ?_, ?_⟩
  · intro τ' M' σ' H' q' e rs hr'
    exact ⟨at1 e, nc.nx τ' _ σ' _ q'.2 (TExt.unlock hv nf e) (rs.unlock (sqT_unlock (at1 e)) (hs.ext.trans (TExt.unlock hv nf e))) (hr'.unlock (at1 e) q'.1)⟩
  · intro d M' v H' q' e rv hr'
    exact ⟨at1 e, nc.rt d _ v _ q'.2 (TExt.unlock hv nf e) (rv.monoT (sqT_unlock (at1 e))) (hr'.unlock (at1 e) q'.1)⟩
  · intro τ' M' σ' H' q' e rs hr'
    exact ⟨at1 e, nc.bk τ' _ σ' _ q'.2 (TExt.unlock hv nf e) (rs.unlock (sqT_unlock (at1 e)) (hs.ext.trans (TExt.unlock hv nf e))) (hr'.unlock (at1 e) q'.1)⟩
  · intro τ' M' σ' H' q' e rs hr'
    exact ⟨at1 e, nc.ct τ' _ σ' _ q'.2 (TExt.unlock hv nf e) (rs.unlock (sqT_unlock (at1 e)) (hs.ext.trans (TExt.unlock hv nf e))) (hr'.unlock (at1 e) q'.1)⟩⟩
theorem pd_lock {e : Expr} {t : DE} (h : PD X W e t) : PD X W e (dLockE t) := ⟨PEimp (pe_lock h.run) fun σ H Q ⟨τ, M, Qd, Ed, hs, hr, ⟨a, kvs, ha, q⟩, we, k⟩ => by
  obtain ⟨vs, hv, l⟩ := hr.dk ha
  refine ⟨a, .dK vs, hv, True.intro, fun od => ?_⟩
  obtain ⟨e1, h1⟩ := HR.lock (o := od) hr hv l
  have nf : NoTup (some (HO.dK vs)) := True.intro
  have at1 : ∀ {H' : Hp}, TExt X.K (upd H a (.frz od (.dK vs))) H' → H' a = some (.frz od (.dK vs)) := fun e => e.frz _ _ _ upd_same
  refine ⟨τ, _, _, Ed, hs.mono e1, h1, q, we, fun d M' v H' q' e rv hr' => ?_⟩
  exact ⟨at1 e, k d _ v _ q'.2 (TExt.unlock hv nf e) (rv.monoT (sqT_unlock (at1 e))) (hr'.unlock (at1 e) q'.1)⟩⟩
def ofKey : Key → D
  | .inl i => .int i
  | .inr x => .str x
theorem ofKey_rp {K : PySem.W.Frag} {H : Hp} (k : Key) : Rp K H (kV k) (ofKey k) := by
  cases k with
  | inl i => exact .int i
  | inr x => exact .str x
/-- the keys of a dict that is locked -/
def dKeys (te : DE) : DI := fun τ M Q E => te τ M (fun d M1 => match d with
  | .ref a => match M1 a with
    | some (.rdk kvs) => kvs.length ≤ sizeLine ∧ Q (kvs.map fun q => ofKey q.1) (fun M => M a = some (.rdk kvs)) M1
    | _ => False
  | _ => False) E
theorem KD.keyAt {K : PySem.W.Frag} {H : Hp} : ∀ {vs : List (Key × V)} {ds : List (Key × D)} {i : Nat}, KD K H vs ds → (ds.map fun q => ofKey q.1)[i]? = (vs.map fun q => ofKey q.1)[i]?
  | [], [], _, _ => rfl
  | p :: _, q :: _, 0, h => by simp [h.1]
  | p :: _, q :: _, i + 1, h => by
    have := KD.keyAt (i := i) h.2.2
    simpa using this
  | [], _ :: _, _, h => h.elim
  | _ :: _, [], _, h => h.elim
theorem itOk_keys {K : PySem.W.Frag} {H : Hp} {a : Addr} {o : Obj} {vs : List (Key × V)} {kvs : List (Key × D)} (hf : H a = some (.frz o (.dK vs))) (l : KD K H vs kvs) (z : kvs.length ≤ sizeLine) : ItOk K H (Itk a o vs) (kvs.map fun q => ofKey q.1) fun M => M a = some (.rdk kvs) where
  small := by simpa using z
  go := fun i H1 M e _ _ hi => ⟨e.frz _ _ _ hf, by rw [l.length]; simpa using hi⟩
  stop := fun i H1 M e _ _ hi => ⟨e.frz _ _ _ hf, by rw [l.length]; simpa using hi⟩
  yld := fun i H1 M x H2 e _ _ y => by
    obtain ⟨rfl, k, v, ek, rfl⟩ := y
    refine ⟨.refl, fun _ h => h, fun d hd => ?_⟩
    rw [l.keyAt, List.getElem?_map, ek] at hd
    cases hd
    exact ofKey_rp k
theorem pid_keys {tg e : Expr} {te : DE} (he : PD X W e te) : PID X W tg e (dKeys te) := ⟨PIimp (pi_keys he.run) fun σ H R ⟨τ, M, Qd, Ed, hs, hr, q, we, k⟩ => ⟨τ, M, _, Ed, hs, hr, q, we, fun d M1 v H1 q1 e1 r1 h1 => by
  dsimp only at q1
  split at q1
  · rename_i a
    split at q1
    · rename_i kvs ea
      obtain ⟨o, vs, hf, l⟩ : ∃ o vs, H1 a = some (.frz o (.dK vs)) ∧ KD X.K H1 vs kvs := h1 a _ ea
      exact ⟨a, o, r1.toRef, .inl ⟨vs, hf, k _ _ _ M1 H1 q1.2 e1 h1 (itOk_keys hf l q1.1)⟩⟩
    · exact q1.elim
  · exact q1.elim⟩⟩
end
end DL

set_option maxHeartbeats 4000000
namespace DL
open PySem PySem.Spec L2
section
variable {X : Cx} {W : DW} {pos p : Pos}
/-! ### d.copy(), d.get(k, x), d[k] = v, len, list, sorted of a dict -/
def copyM : DM := fun d ds M Q => match dictOf d M, ds with
  | some kvs, [] => ∀ p, M p = none → Q (.ref p) (put M p (.dk kvs))
  | _, _ => False
theorem mt_copyM : MtR X "dict.copy" (liftM X.K copyM) := MtRimp DLdict.mt_copy fun x xs H Q ⟨d, ds, M, Qd, q, rx, rs, hr, k⟩ => by
  unfold copyM at q
  split at q
  · rename_i kvs ed
    obtain ⟨a, vs, rfl, rfl, _, hv, l⟩ := dictOf_ok rx hr ed
    exact ⟨a, vs, rfl, rs.nil_of, hv, fun p hp => k.dict hr l hp q⟩
  · exact q.elim
def dDGet2 (td ty tx : DE) : DE := fun τ M Q E => td τ M (fun x M1 => (dictRd x M1).isSome = true ∧ ty τ M1 (fun y M2 => tx τ M2 (fun z M3 => match dictRd x M3, keyD y with
  | some kvs, some k => Q ((valD kvs k).getD z) M3
  | _, _ => False) E) E) E
theorem isD_rd {K : PySem.W.Frag} {H : Hp} {M : Mp} {v : V} {d : D} (r : Rp K H v d) (hr : HR K H M) (h : (dictRd d M).isSome = true) : ∃ a, v = .ref a ∧ IsD H a := by
  obtain ⟨kvs, e⟩ := Option.isSome_iff_exists.mp h
  obtain ⟨a, vs, rfl, _, hv, _⟩ := dictRd_ok r hr e
  exact ⟨a, rfl, .inl ⟨vs, hv⟩⟩
theorem pd_dget2 {o e f : Expr} {td ty tx : DE} {apos cpos : Pos} (hu : X.A.units + 1 < cLine) (ho : PD X W o td) (he : PD X W e ty) (hf : PD X W f tx) (m : M2 X o "get" apos e f cpos) : PD X W (.Call (.Attribute o "get" apos) [e, f] [] cpos) (dDGet2 td ty tx) :=
  ⟨PEimp (pe_dget2 hu ho.run he.run hf.run m) fun σ H Q ⟨τ, M, Qd, Ed, hs, hr, q, we, kk⟩ => ⟨τ, M, _, Ed, hs, hr, q, we, fun x M1 xv H1 q1 e1 r1 h1 => by
    obtain ⟨a, rfl, hd⟩ := isD_rd r1 h1 q1.1
    refine ⟨a, rfl, hd, τ, M1, _, Ed, hs.mono e1, h1, q1.2, we, fun y M2 yv H2 q2 e2 r2 h2 => ⟨τ, M2, _, Ed, hs.mono (e1.trans e2), h2, q2, we, fun z M3 zv H3 q3 e3 r3 h3 => ?_⟩⟩
    dsimp only at q3
    split at q3
    · rename_i kvs k ed ek
      obtain ⟨a', vs, ea, _, hv, l⟩ := dictRd_ok (r1.mono (e2.trans e3)) h3 ed
      cases ea
      refine ⟨valV vs k, .inl ⟨vs, k, hv, keyD_ok (r2.mono e3) ek, rfl⟩, ?_⟩
      have e03 := (e1.trans e2).trans e3
      cases c : valD kvs k with
      | none =>
        rw [c] at q3
        have : valV vs k = none := by
          have := l.got (k := k)
          rw [c] at this
          simpa using this
        rw [this]
        exact kk _ M3 _ H3 q3 e03 r3 h3
      | some w =>
        rw [c] at q3
        obtain ⟨u, hu, ru⟩ := l.get _ c
        rw [hu]
        exact kk _ M3 _ H3 q3 e03 ru h3
    · exact q3.elim⟩⟩
/-- d[k] = v -/
def dGSubD (to ti : DE) : DGt := fun v τ M Q => to τ M (fun o M1 => ti τ M1 (fun i M2 => match o with
  | .ref a => match M2 a, keyD i with
    | some (.dk kvs), some k => kvs.length < sizeLine ∧ Q τ (put M2 a (.dk (putKD kvs k v)))
    | _, _ => False
  | _ => False) fun _ _ => False) fun _ _ => False
theorem pgd_subD {o i : Expr} {to ti : DE} (hu : X.A.units + 1 < cLine) (ho : PD X W o to) (hi : PD X W i ti)
    (ha : ∀ v, assign (.Subscript o i pos) X.env v = (do
      let ov ← holding [v] (eval o X.env)
      let iv ← holding [v, ov] (eval i X.env)
      standAt pos
      holding [v, ov, iv] (setItem ov iv v)
      release [v, ov, iv] []) := by intro _; rfl) : PGD X W.h0 (.Subscript o i pos) (dGSubD to ti) :=
  ⟨PGimp (pg_sub ho.run hi.run (set_dict hu) ha) fun v σ H Q ⟨d, τ, M, Qd, r, hs, hr, q, k⟩ => ⟨τ, M, _, _, hs, hr, q, fun _ _ z => z.elim, fun od M1 ov H1 q1 e1 r1 h1 =>
    ⟨τ, M1, _, _, hs.mono e1, h1, q1, fun _ _ z => z.elim, fun id M2 iv H2 q2 e2 r2 h2 => by
      dsimp only at q2
      split at q2
      · rename_i a
        split at q2
        · rename_i kvs kx ea ek
          obtain ⟨vs, hv, l⟩ := h2.dk ea
          have l2 := l.put (k := kx) (r.mono (e1.trans e2))
          obtain ⟨e3, h3⟩ := HR.dictAt h2 hv l2
          refine ⟨a, _, (r1.mono e2).toRef, .inl ⟨vs, kx, hv, keyD_ok r2 ek, by rw [l.length]; exact q2.1, rfl⟩, ?_⟩
          exact k τ _ σ _ q2.2 (e1.trans (e2.trans e3)) (hs.mono (e1.trans (e2.trans e3))) h3
        · exact q2.elim
      · exact q2.elim⟩⟩⟩
def lenDict : DG := fun ds M Q => match ds with
  | [d] => match dictOf d M with
    | some kvs => Q (.int ((kvs.length : Nat) : Int)) M
    | none => False
  | _ => False
theorem call_lenDict : CallR X (.builtin "len") (liftC X.K lenDict) := CallRimp call_lenD fun xs H Q ⟨ds, M, Qd, q, r, hr, k⟩ => by
  unfold lenDict at q
  split at q
  · obtain ⟨v, rfl, rv⟩ := r.one
    split at q
    · rename_i kvs ed
      obtain ⟨a, vs, rfl, rfl, _, hv, l⟩ := dictOf_ok rv hr ed
      refine ⟨a, vs, rfl, hv, ?_⟩
      rw [l.length]
      exact k _ M _ H q .refl (.int _) hr
    · exact q.elim
  · exact q.elim
theorem KD.keys {K : PySem.W.Frag} {H : Hp} : ∀ {vs : List (Key × V)} {ds : List (Key × D)}, KD K H vs ds → RpL K H (vs.map fun q => kV q.1) (ds.map fun q => ofKey q.1)
  | [], [], _ => .nil
  | p :: _, q :: _, h => .cons (by show Rp K H (kV p.1) (ofKey q.1); rw [h.1]; exact ofKey_rp _) (KD.keys h.2.2)
  | [], _ :: _, h => h.elim
  | _ :: _, [], h => h.elim
theorem KD.keysEq {K : PySem.W.Frag} {H : Hp} : ∀ {vs : List (Key × V)} {ds : List (Key × D)}, KD K H vs ds → vs.map (·.1) = ds.map (·.1)
  | [], [], _ => rfl
  | p :: _, q :: _, h => by rw [List.map_cons, List.map_cons, h.1, KD.keysEq h.2.2]
  | [], _ :: _, h => h.elim
  | _ :: _, [], h => h.elim
def lstDict : DG := fun ds M Q => match ds with
  | [d] => match dictRd d M with
    | some kvs => ∀ p, M p = none → Q (.ref p) (put M p (.lst (kvs.map fun q => ofKey q.1)))
    | none => False
  | _ => False
theorem call_lstDict (hc : X.calm = true) : CallR X (.type "list") (liftC X.K lstDict) := CallRimp (call_listD hc) fun xs H Q ⟨ds, M, Qd, q, r, hr, k⟩ => by
  unfold lstDict at q
  split at q
  · obtain ⟨v, rfl, rv⟩ := r.one
    split at q
    · rename_i kvs ed
      obtain ⟨a, vs, rfl, rfl, hv, l⟩ := dictRd_ok rv hr ed
      exact ⟨a, vs, rfl, hv, fun p hp => k.lst hr l.keys hp q⟩
    · exact q.elim
  · exact q.elim
/-- sorted(d), keys that are texts -/
def sortDictS : DG := fun ds M Q => match ds with
  | [d] => match dictRd d M with
    | some kvs => ∃ ks : List Str, kvs.map (·.1) = ks.map Sum.inr ∧ ks.length < 64 ∧ ∀ (ys : List Str) (p : Addr), ys.Perm ks → PyProof.Rows.sortedS ys = true → M p = none → Q (.ref p) (put M p (.lst (ys.map D.str)))
    | none => False
  | _ => False
theorem call_sortDictS (hc : X.calm = true) : CallR X (.builtin "sorted") (liftC X.K sortDictS) := CallRimp (call_sortedD hc) fun xs H Q ⟨ds, M, Qd, q, r, hr, k⟩ => by
  unfold sortDictS at q
  split at q
  · obtain ⟨v, rfl, rv⟩ := r.one
    split at q
    · rename_i kvs ed
      obtain ⟨a, vs, rfl, rfl, hv, l⟩ := dictRd_ok rv hr ed
      obtain ⟨ks, h1, h2, q⟩ := q
      exact ⟨a, vs, ks, rfl, hv, l.keysEq.trans h1, h2, fun ys p hy hs hp => k.lst hr (RpL.ofStrs (ns := ys)) hp fun p hp => q ys p hy hs hp⟩
    · exact q.elim
  · exact q.elim
/-- sorted(xs), a list of ints -/
def sortInts : DG := fun ds M Q => match ds with
  | [.ref a] => match (seqOf M a).bind intsOf with
    | some ns => ∀ (ns' : List Int) (p : Addr), ns'.Perm ns → ns'.Pairwise (· ≤ ·) → M p = none → Q (.ref p) (put M p (.lst (ns'.map D.int)))
    | none => False
  | _ => False
theorem call_sortInts : CallR X (.builtin "sorted") (liftC X.K sortInts) := CallRimp cr_sortedI fun xs H Q ⟨ds, M, Qd, q, r, hr, k⟩ => by
  unfold sortInts at q
  split at q
  · obtain ⟨v, rfl, rv⟩ := r.one
    split at q
    · rename_i ns e
      obtain ⟨zs, e1, e2⟩ := Option.bind_eq_some_iff.mp e
      obtain ⟨vs, s, l⟩ := seqOf_ok hr e1
      rw [intsOf_ok e2] at l
      rw [l.ints] at s
      exact ⟨_, ns, by rw [rv.toRef], s, fun ns' p hp hs hn => k.lst hr (RpL.ofInts (ns := ns')) hn fun p hp' => q ns' p hp hs hp'⟩
    · exact q.elim
  · exact q.elim
/-! ### texts -/
def strG : DG := fun ds M Q => match ds with
  | [.int i] => i.natAbs.log2 < 1920 ∧ Q (.str (toString i)) M
  | _ => False
theorem call_strG : CallR X (.type "str") (liftC X.K strG) := CallRimp call_str_int fun xs H Q ⟨ds, M, Qd, q, r, hr, k⟩ => by
  unfold strG at q
  split at q
  · obtain ⟨v, rfl, rv⟩ := r.one
    rw [rv.toInt]
    exact ⟨_, rfl, q.1, k _ M _ H q.2 .refl (.str _) hr⟩
  · exact q.elim
def strsOf : List D → Option (List Str)
  | [] => some []
  | .str i :: ds => (strsOf ds).map (i :: ·)
  | _ :: _ => none
theorem strsOf_map : ∀ ns : List Str, strsOf (ns.map D.str) = some ns
  | [] => rfl
  | n :: ns => by simp [strsOf, strsOf_map ns]
theorem strsOf_ok : ∀ {ds : List D} {ns : List Str}, strsOf ds = some ns → ds = ns.map D.str
  | [], ns, h => by cases h; rfl
  | d :: ds, ns, h => by
    cases d with
    | str b =>
      have h' : (strsOf ds).map (b :: ·) = some ns := h
      cases e : strsOf ds with
      | none => rw [e] at h'; cases h'
      | some cs => rw [e] at h'; cases h'; rw [strsOf_ok e]; rfl
    | _ => cases h
def joinM : DM := fun d ds M Q => match d, ds with
  | .str a, [y] => match (seqD y M).bind strsOf with
    | some ys => (ys.map (·.length)).sum + ys.length * a.length ≤ 16777216 ∧ Q (.str (Txt.join a ys)) M
    | none => False
  | _, _ => False
theorem mt_joinM : MtR X "str.join" (liftM X.K joinM) := MtRimp mt_join fun x xs H Q ⟨d, ds, M, Qd, q, rx, rs, hr, k⟩ => by
  unfold joinM at q
  split at q
  · rename_i a y
    obtain ⟨v, rfl, rv⟩ := rs.one
    split at q
    · rename_i ys e
      obtain ⟨zs, e1, e2⟩ := Option.bind_eq_some_iff.mp e
      obtain ⟨l, vs, rfl, s, r⟩ := seqD_ok rv hr e1
      rw [strsOf_ok e2] at r
      rw [r.strs] at s
      exact ⟨a, l, ys, rx.toStr, rfl, s, q.1, k _ M _ H q.2 .refl (.str _) hr⟩
    · exact q.elim
  · exact q.elim
/-- a sign in a text -/
def inSign (n : Bool) : DO := fun x y M Q => match x, y with
  | .str a, .str z => ∃ c : Nat, a = ⟨#[c]⟩ ∧ Q (.bl (n != decide (c ∈ z.cps.toList))) M
  | _, _ => False
theorem op_inSign : OpR X (compareOp .In) (liftO X.K (inSign false)) := OpRimp op_in_sign fun x y H Q ⟨dx, dy, M, Qd, q, a, b, c, k⟩ => by
  unfold inSign at q
  split at q
  · obtain ⟨ch, rfl, q⟩ := q
    exact ⟨ch, _, a.toStr, b.toStr, k _ M _ H (by simpa using q) .refl (.bl _) c⟩
  · exact q.elim
theorem op_notInSign : OpR X (compareOp .NotIn) (liftO X.K (inSign true)) := OpRimp op_notIn_sign fun x y H Q ⟨dx, dy, M, Qd, q, a, b, c, k⟩ => by
  unfold inSign at q
  split at q
  · obtain ⟨ch, rfl, q⟩ := q
    exact ⟨ch, _, a.toStr, b.toStr, k _ M _ H (by simpa using q) .refl (.bl _) c⟩
  · exact q.elim
/-! ### a dict of the module's own: is it there -/
/-- the dict at a of the module, with these keys -/
def inKD (K : PySem.W.Frag) (a : Addr) (n : Bool) : DO := fun x y M Q => match x, y with
  | .str z, .ref b => b = a ∧ ∃ r, PySem.W.nsIn K a z = some r ∧ Q (.bl (n != r.isSome)) M
  | _, _ => False
theorem op_inKD {a : Addr} {es : Array DictEntry} {m : Nat} (Dk : KDict X.K X.w a es m) : OpR X (compareOp .In) (liftO X.K (inKD X.K a false)) := OpRimp (op_in_kd Dk) fun x y H Q ⟨dx, dy, M, Qd, q, ra, rb, c, k⟩ => by
  unfold inKD at q
  split at q
  · obtain ⟨rfl, r, e, q⟩ := q
    exact ⟨_, r, ra.toStr, rb.toRef, e, k _ M _ H (by simpa using q) .refl (.bl _) c⟩
  · exact q.elim
end
end DL

set_option maxHeartbeats 4000000
namespace DL
open PySem PySem.Spec L2
theorem bt_sorted : bootBuiltins "sorted" = some (.builtin "sorted") := by decide +kernel
theorem bt_sum : bootBuiltins "sum" = some (.builtin "sum") := by decide +kernel
theorem u200 {k : Nat} {A : Around} (r : Room k A) : A.units + 200 < cLine := by have := r.un; omega
theorem u1 {k : Nat} {A : Around} (r : Room k A) : A.units + 1 < cLine := by have := r.un; omega
section
variable {X : Cx} {W : DW} {pos : Pos}
theorem ptd_din {o i : Expr} {ty td : DE} (hu : X.A.units + 1 < cLine) (hi : PD X W i ty) (ho : PD X W o td) (hm : behindInMarks .In o = false := by with_unfolding_all rfl) : PTD X W (.Compare i [.In] [o] pos) (dB (dDIn false ty td)) :=
  ⟨PTimp (pt_cmp (pc_din hu hi.run ho.run) hm) fun σ H Q h => by
    have := dDIn_read (Q := fun x H1 => ∃ k, x = .bl k ∧ Q k H1) (dB_lift h)
    simpa [tB, tDIn] using this⟩
theorem ptd_dnotin {o i : Expr} {ty td : DE} (hu : X.A.units + 1 < cLine) (hi : PD X W i ty) (ho : PD X W o td) (hm : behindInMarks .NotIn o = false := by with_unfolding_all rfl) : PTD X W (.Compare i [.NotIn] [o] pos) (dB (dDIn true ty td)) :=
  ⟨PTimp (pt_cmp (pc_dnotin hu hi.run ho.run) hm) fun σ H Q h => by
    have := dDIn_read (Q := fun x H1 => ∃ k, x = .bl k ∧ Q k H1) (dB_lift h)
    simpa [tB, tDNotIn] using this⟩
/-! ### {k: v, ..} -/
def dPairs : List (DE × DE) → Sl → Mp → (List (D × D) → Mp → Prop) → EK → Prop
  | [], _, M, Q, _ => Q [] M
  | (tk, tv) :: r, τ, M, Q, E => tk τ M (fun x M1 => tv τ M1 (fun y M2 => dPairs r τ M2 (fun ps M3 => Q ((x, y) :: ps) M3) E) E) E
def RpP (K : PySem.W.Frag) (H : Hp) : List (V × V) → List (D × D) → Prop
  | [], [] => True
  | p :: ps, q :: qs => Rp K H p.1 q.1 ∧ Rp K H p.2 q.2 ∧ RpP K H ps qs
  | _, _ => False
theorem dPairs_lift {τ : Sl} {σ : L2.St} {Ed : EK} (we : ∀ x M', Ed x M' → W.w x τ M') : ∀ (trs : List (DE × DE)) {H : Hp} {M : Mp} {Qd : List (D × D) → Mp → Prop} {Q : List (V × V) → Hp → Prop}, RS X.K W.h0 H σ τ → HR X.K H M → dPairs trs τ M Qd Ed →
    (∀ ds M' vs H', Qd ds M' → TExt X.K H H' → RpP X.K H' vs ds → HR X.K H' M' → Q vs H') → tPairs (trs.map fun p => (liftE X.K W p.1, liftE X.K W p.2)) σ H Q
  | [], H, M, Qd, Q, hs, hr, q, k => k [] M [] H q .refl True.intro hr
  | (tk, tv) :: r, H, M, Qd, Q, hs, hr, q, k => ⟨τ, M, _, Ed, hs, hr, q, we, fun x M1 xv H1 q1 e1 r1 h1 => ⟨τ, M1, _, Ed, hs.mono e1, h1, q1, we, fun y M2 yv H2 q2 e2 r2 h2 =>
      dPairs_lift we r (hs.mono (e1.trans e2)) h2 q2 fun ds M3 vs H3 q3 e3 r3 h3 => k _ M3 _ H3 q3 ((e1.trans e2).trans e3) ⟨r1.mono (e2.trans e3), r2.mono e3, r3⟩ h3⟩⟩
def keysD : List (D × D) → Option (List (Key × D))
  | [] => some []
  | (x, y) :: r => match keyD x, keysD r with
    | some k, some l => some ((k, y) :: l)
    | _, _ => none
theorem keysD_ok {K : PySem.W.Frag} {H : Hp} : ∀ {vs : List (V × V)} {ds : List (D × D)} {l : List (Key × D)}, RpP K H vs ds → keysD ds = some l → ∃ ws : List (Key × V), vs = ws.map (fun q => (kV q.1, q.2)) ∧ KD K H ws l
  | [], [], l, _, h => by cases h; exact ⟨[], rfl, True.intro⟩
  | p :: ps, (x, y) :: qs, l, r, h => by
    unfold keysD at h
    split at h
    · rename_i k l' ek el
      cases h
      obtain ⟨ws, e, kd⟩ := keysD_ok r.2.2 el
      refine ⟨(k, p.2) :: ws, ?_, rfl, r.2.1, kd⟩
      rw [List.map_cons, ← e, ← keyD_ok r.1 ek]
    · cases h
  | [], _ :: _, _, r, _ => r.elim
  | _ :: _, [], _, r, _ => r.elim
def dDisp (trs : List (DE × DE)) : DE := fun τ M Q E => ∀ p, M p = none → dPairs trs τ (put M p (.dk [])) (fun ps M2 => M2 p = some (.dk []) ∧ match keysD ps with
  | some l => l.length ≤ 15 ∧ Q (.ref p) (put M2 p (.dk (mergeKD [] l)))
  | none => False) E
structure PPD (X : Cx) (W : DW) (pos : Pos) (keys : List (Option Expr)) (values : List Expr) (trs : List (DE × DE)) : Prop where
  run : PPs X pos keys values (trs.map fun p => (liftE X.K W p.1, liftE X.K W p.2))
theorem ppd_nil : PPD X W pos [] [] [] := ⟨pps_nil⟩
theorem ppd_cons {k v : Expr} {ks : List (Option Expr)} {vs : List Expr} {tk tv : DE} {trs : List (DE × DE)} (hk : PD X W k tk) (hv : PD X W v tv) (hr : PPD X W pos ks vs trs) : PPD X W pos (some k :: ks) (v :: vs) ((tk, tv) :: trs) := ⟨pps_cons hk.run hv.run hr.run⟩
theorem pd_disp {keys : List (Option Expr)} {values : List Expr} {trs : List (DE × DE)} (h : PPD X W pos keys values trs) (hall : keys.all (·.isSome) = true := by rfl) (hl : keys.length = values.length := by rfl) (h0 : keys ≠ [] := by simp) (h15 : keys.length ≤ 15 := by decide) :
    PD X W (.Dict keys values pos) (dDisp trs) := ⟨PEimp (pe_disp h.run hall hl h0 h15) fun σ H Q ⟨τ, M, Qd, Ed, hs, hr, q, we, kk⟩ p hp => by
  have e0 : TExt X.K H (upd H p (.dK [])) := .new hp
  have h0 : HR X.K (upd H p (.dK [])) (put M p (.dk [])) := hr.made (noTup_none hp) ⟨[], upd_same, True.intro⟩
  refine dPairs_lift we trs (hs.mono e0) h0 (q p (hr.free hp)) fun ds M2 vs H2 q2 e2 r2 h2 => ?_
  obtain ⟨c1, q2⟩ := q2
  split at q2
  · rename_i l el
    obtain ⟨w0, hw0, l0⟩ := h2.dk c1
    have : w0 = [] := List.length_eq_zero_iff.mp l0.length
    subst this
    obtain ⟨ws, ev, kd⟩ := keysD_ok r2 el
    refine ⟨hw0, ws, ev, by rw [kd.length]; exact q2.1, ?_⟩
    have lm : KD X.K H2 (mergeK [] ws) (mergeKD [] l) := KD.merge kd True.intro
    obtain ⟨e3, h3⟩ := HR.dictAt h2 hw0 lm
    exact kk _ _ _ _ q2.2 ((e0.trans e2).trans e3) (.ref p) h3
  · exact q2.elim⟩
end
end DL

set_option maxHeartbeats 4000000
namespace DL
open PySem PySem.Spec L2
/-! ### what stands in a dict -/
theorem valD_cons {q : Key × D} {l : List (Key × D)} {k : Key} : valD (q :: l) k = if q.1 = k then some q.2 else valD l k := by
  by_cases c : q.1 = k <;> simp [valD, List.find?_cons, c]
theorem valD_nil {k : Key} : valD [] k = none := rfl
theorem valD_snoc {k j : Key} {d : D} : ∀ {l : List (Key × D)}, (l.any fun q => decide (q.1 = k)) = false → valD (l ++ [(k, d)]) j = if k = j then some d else valD l j
  | [], _ => by rw [List.nil_append, valD_cons]
  | q :: l, h => by
    rw [List.any_cons, Bool.or_eq_false_iff] at h
    have hq : ¬ q.1 = k := of_decide_eq_false h.1
    rw [List.cons_append, valD_cons, valD_cons, valD_snoc h.2]
    by_cases c : q.1 = j
    · rw [if_pos c, if_pos c]
      split
      · rename_i e; exact absurd (c.trans e.symm) hq
      · rfl
    · rw [if_neg c, if_neg c]
theorem over_no {k : Key} {d : D} : ∀ {l : List (Key × D)}, (l.any fun q => decide (q.1 = k)) = false → (l.map fun q => if q.1 = k then (q.1, d) else q) = l
  | [], _ => rfl
  | q :: l, h => by
    rw [List.any_cons, Bool.or_eq_false_iff] at h
    rw [List.map_cons, if_neg (of_decide_eq_false h.1), over_no h.2]
theorem valD_over {k j : Key} {d : D} : ∀ {l : List (Key × D)}, (l.any fun q => decide (q.1 = k)) = true → valD (l.map fun q => if q.1 = k then (q.1, d) else q) j = if k = j then some d else valD l j
  | [], h => by cases h
  | q :: l, h => by
    rw [List.map_cons, valD_cons, valD_cons]
    by_cases c : q.1 = k
    · rw [if_pos c]
      by_cases e : q.1 = j
      · rw [if_pos e, if_pos (c.symm.trans e)]
      · rw [if_neg e, if_neg e, if_neg (fun z => e (c.trans z))]
        by_cases a : (l.any fun q => decide (q.1 = k)) = true
        · rw [valD_over a, if_neg (fun z => e (c.trans z))]
        · rw [over_no (Bool.eq_false_iff.mpr a)]
    · rw [if_neg c]
      have a : (l.any fun q => decide (q.1 = k)) = true := by
        rw [List.any_cons, Bool.or_eq_true] at h
        exact h.resolve_left (by simpa using c)
      rw [valD_over a]
      by_cases e : q.1 = j
      · rw [if_pos e]
        split
        · rename_i z; exact absurd (e.trans z.symm) c
        · rfl
      · rw [if_neg e, if_neg e]
theorem valD_put {l : List (Key × D)} {k j : Key} {d : D} : valD (putKD l k d) j = if k = j then some d else valD l j := by
  unfold putKD
  split
  · rename_i h; exact valD_over h
  · rename_i h; exact valD_snoc (Bool.eq_false_iff.mpr h)
def keysOk (l : List (Key × D)) : Prop := (l.map (·.1)).Nodup
theorem keysOk_nil : keysOk [] := List.nodup_nil
theorem keysOk_put {l : List (Key × D)} {k : Key} {d : D} (h : keysOk l) : keysOk (putKD l k d) := by
  unfold keysOk putKD at *
  split
  · have : (l.map fun q => if q.1 = k then (q.1, d) else q).map (·.1) = l.map (·.1) := by
      rw [List.map_map]
      refine List.map_congr_left fun q _ => ?_
      show (if q.1 = k then (q.1, d) else q).1 = q.1
      split <;> rfl
    rw [this]; exact h
  · rename_i c
    rw [List.map_append, List.nodup_append]
    refine ⟨h, by simp, fun x hx y hy e => ?_⟩
    simp at hy
    subst hy
    obtain ⟨q, hq, rfl⟩ := List.mem_map.mp hx
    exact c (List.any_eq_true.mpr ⟨q, hq, by simpa using e⟩)
theorem mergeKD_app : ∀ {more acc : List (Key × D)}, keysOk (acc ++ more) → mergeKD acc more = acc ++ more
  | [], acc, _ => by simp [mergeKD]
  | q :: more, acc, h => by
    have hno : (acc.any fun p => decide (p.1 = q.1)) = false := by
      rw [Bool.eq_false_iff]
      intro z
      obtain ⟨p, hp, e⟩ := List.any_eq_true.mp z
      unfold keysOk at h
      rw [List.map_append, List.nodup_append] at h
      exact h.2.2 p.1 (List.mem_map.mpr ⟨p, hp, rfl⟩) q.1 (by simp) (of_decide_eq_true e)
    have e1 : mergeKD acc (q :: more) = mergeKD (putKD acc q.1 q.2) more := rfl
    have e2 : putKD acc q.1 q.2 = acc ++ [q] := by unfold putKD; rw [hno]; simp
    rw [e1, e2, mergeKD_app (by simpa [keysOk] using h)]
    simp
theorem mergeKD_nil {l : List (Key × D)} (h : keysOk l) : mergeKD [] l = l := by
  rw [mergeKD_app (by simpa using h)]
  rfl
theorem putKD_length {l : List (Key × D)} {k : Key} {d : D} : (putKD l k d).length ≤ l.length + 1 := by
  unfold putKD
  split <;> simp
end DL

set_option maxHeartbeats 4000000
namespace DL
open PySem PySem.Spec L2
/-! ### the draws' state, as every law has it -/
/-- everything but S stays -/
def Ext (S : Addr → Prop) (M M' : Mp) : Prop := ∀ a o, ¬ S a → M a = some o → M' a = some o
abbrev Is (s : Addr) : Addr → Prop := fun a => a = s
/-- the draws' state at s, the script's ints at l -/
def PSt (M : Mp) (s l : Addr) (ns : List Int) : Prop := s ≠ l ∧ M l = some (.lst (ns.map D.int)) ∧ ∃ seed pos rest : Int, M s = some (.lst [.int seed, .ref l, .int pos, .int rest]) ∧ 0 ≤ seed ∧ seed < 2147483647 ∧ 0 ≤ pos ∧ pos ≤ ns.length ∧ 0 ≤ rest
def spPick : DSp := fun ds M Q _ => ∃ (s l : Addr) (ns : List Int) (limit : Int), ds = [.ref s, .int limit] ∧ PSt M s l ns ∧ 0 < limit ∧ limit.natAbs.log2 < 9000 ∧
  ∀ (r : Int) (o : MO), 0 ≤ r → r < limit → PSt (put M s o) s l ns → Q (.int r) (put M s o)
def spStart1 : DSp := fun ds M Q _ => ∃ (a : Addr) (ns : List Int), ds = [.ref a] ∧ M a = some (.rol (ns.map D.int)) ∧ ns.length ≤ 100000 ∧ ∀ s l M', PSt M' s l ns → Sub M M' → Q (.ref s) M'
def spStart2 (K : PySem.W.Frag) : DSp := fun ds M Q _ => ∃ (a : Addr) (ns : List Int), ds = [.ref a] ∧ KL K a ns ∧ ns.length ≤ 100000 ∧ ∀ s l M', PSt M' s l ns → Sub M M' → Q (.ref s) M'
def spStart (K : PySem.W.Frag) : DSp := fun ds M Q _ => ∃ (a : Addr) (ns : List Int), ds = [.ref a] ∧ (M a = some (.rol (ns.map D.int)) ∨ KL K a ns) ∧ ns.length ≤ 100000 ∧ ∀ s l M', PSt M' s l ns → Sub M M' → Q (.ref s) M'
def okS : Nat → D → Prop
  | n, .tup xs => ∃ m, n = m + 1 ∧ xs.length ≤ 100000 ∧ ∀ x, x ∈ xs → okS m x
  | _, .ref _ => False
  | _, .ty _ => False
  | _, d => ok d = true
def spSame : Nat → DSp
  | 0 => fun _ _ _ _ => False
  | n + 1 => fun ds M Q _ => ∃ d, ds = [d, d] ∧ okS n d ∧ Q (.bl true) M
/-- .. and whatever flags -/
def spSameB : Nat → DSp
  | 0 => fun _ _ _ _ => False
  | n + 1 => fun ds M Q _ => ∃ d, ds = [d, d] ∧ okS n d ∧ Q (.bl true) M
section
variable {S S' : Addr → Prop} {M0 M M' M1 M2 : Mp} {s l p q : Addr} {ns : List Int} {Q : DK} {E : EK} {o u : MO}
theorem seq_split {t u : DS} {Dn : DN} {τ : Sl} {M : Mp} (R : Sl → Mp → Prop) (h2 : ∀ τ M, R τ M → u Dn τ M) (h1 : ∀ nx : Sl → Mp → Prop, (∀ τ M, R τ M → nx τ M) → t { Dn with nx := nx } τ M) : dSeq t u Dn τ M := h1 _ h2
theorem Ext.refl : Ext S M M := fun _ _ _ h => h
theorem Ext.trans (a : Ext S M M1) (b : Ext S M1 M2) : Ext S M M2 := fun p o n h => b p o n (a p o n h)
theorem Ext.wide (a : Ext S M M1) (h : ∀ x, S x → S' x) : Ext S' M M1 := fun p o n => a p o fun z => n (h p z)
theorem Ext.one (a : Ext (Is s) M M1) (h : S s) : Ext S M M1 := a.wide fun x e => by rw [e]; exact h
theorem Ext.lay (hp : M p = none) : Ext S M (DL.put M p o) := fun a u n h => by
  rw [put_ne]
  · exact h
  · rintro rfl; rw [h] at hp; cases hp
theorem Ext.set (hp : S p) : Ext S M (DL.put M p o) := fun a u n h => by
  rw [put_ne]
  · exact h
  · rintro rfl; exact n hp
theorem Ext.sub (h : Sub M M') : Ext S M M' := fun a o _ e => h a o e
theorem PSt.mk {seed pos rest : Int} (n : s ≠ l) (h : M l = some (.lst (ns.map D.int))) (h1 : 0 ≤ seed) (h2 : seed < 2147483647) (h3 : 0 ≤ pos) (h4 : pos ≤ ns.length) (h5 : 0 ≤ rest) : PSt (DL.put M s (.lst [.int seed, .ref l, .int pos, .int rest])) s l ns :=
  ⟨n, (put_ne (Ne.symm n)).trans h, seed, pos, rest, put_same, h1, h2, h3, h4, h5⟩
theorem PSt.s_some (h : PSt M s l ns) (hp : M p = none) : p ≠ s ∧ p ≠ l := by
  obtain ⟨_, hl, _, _, _, hs, _⟩ := h
  refine ⟨fun e => ?_, fun e => ?_⟩
  · subst e; rw [hs] at hp; cases hp
  · subst e; rw [hl] at hp; cases hp
theorem PSt.put (h : PSt M s l ns) (n1 : p ≠ s) (n2 : p ≠ l) : PSt (DL.put M p o) s l ns := by
  obtain ⟨n, hl, a, b, c, hs, r⟩ := h
  exact ⟨n, (put_ne (Ne.symm n2)).trans hl, a, b, c, (put_ne (Ne.symm n1)).trans hs, r⟩
theorem PSt.new (h : PSt M s l ns) (hp : M p = none) : PSt (DL.put M p o) s l ns := h.put (h.s_some hp).1 (h.s_some hp).2
/-- from M0 on the draws' state was kept, everything but S stayed -/
structure LS (S : Addr → Prop) (M0 M : Mp) (s l : Addr) (ns : List Int) : Prop where
  P : PSt M s l ns
  X : Ext S M0 M
  S : S s
theorem LS.zero (P : PSt M s l ns) (h : S s) : LS S M M s l ns := ⟨P, .refl, h⟩
theorem LS.new (J : LS S M0 M s l ns) (hp : M p = none) : LS S M0 (DL.put M p o) s l ns := ⟨J.P.new hp, J.X.trans (.lay hp), J.S⟩
theorem LS.at_ (J : LS S M0 M s l ns) (h : M0 p = some o) (n : ¬ S p) : M p = some o := J.X _ _ n h
/-- a thing of one's own -/
structure Own (S : Addr → Prop) (M0 M : Mp) (s l p : Addr) (o : MO) : Prop where
  a : M p = some o
  z : M0 p = none ∨ S p
  ns : p ≠ s
  nl : p ≠ l
theorem LS.zeroA (J : LS S M0 M s l ns) (hp : M p = none) : M0 p = none ∨ S p := by
  by_cases h : S p
  · exact .inr h
  · refine .inl ?_
    cases e : M0 p with
    | none => rfl
    | some o => rw [J.X p o h e] at hp; cases hp
theorem Own.new (J : LS S M0 M s l ns) (hp : M p = none) : Own S M0 (DL.put M p o) s l p o := ⟨put_same, J.zeroA hp, (J.P.s_some hp).1, (J.P.s_some hp).2⟩
theorem LS.set (J : LS S M0 M s l ns) (h : Own S M0 M s l p u) : LS S M0 (DL.put M p o) s l ns := ⟨J.P.put h.ns h.nl, fun a v n e => by
  have := J.X a v n e
  rw [put_ne]
  · exact this
  · rintro rfl
    rcases h.z with z | z
    · rw [z] at e; cases e
    · exact n z, J.S⟩
theorem Own.set (h : Own S M0 M s l p u) : Own S M0 (DL.put M p o) s l p o := ⟨put_same, h.z, h.ns, h.nl⟩
theorem Own.ext (h : Own S M0 M s l p o) (e : Ext (Is s) M M') : Own S M0 M' s l p o := ⟨e _ _ h.ns h.a, h.z, h.ns, h.nl⟩
theorem Own.extS (h : Own S M0 M s l p o) {S2 : Addr → Prop} (n : ¬ S2 p) (e : Ext S2 M M') : Own S M0 M' s l p o := ⟨e _ _ n h.a, h.z, h.ns, h.nl⟩
theorem Own.put (h : Own S M0 M s l p o) (n : q ≠ p) : Own S M0 (DL.put M q u) s l p o := ⟨(put_ne (Ne.symm n)).trans h.a, h.z, h.ns, h.nl⟩
theorem Own.ne (h : Own S M0 M s l p o) (hq : M q = none) : q ≠ p := by rintro rfl; rw [h.a] at hq; cases hq
theorem Own.lay (h : Own S M0 M s l p o) (hq : M q = none) : Own S M0 (DL.put M q u) s l p o := h.put (h.ne hq)
theorem LS.pick (J : LS S M0 M s l ns) {limit : Int} (h0 : 0 < limit) (hl : limit.natAbs.log2 < 9000) (k : ∀ (r : Int) (M' : Mp), 0 ≤ r → r < limit → LS S M0 M' s l ns → Ext (Is s) M M' → Q (.int r) M') : spPick [.ref s, .int limit] M Q E :=
  ⟨s, l, ns, limit, rfl, J.P, h0, hl, fun r o h1 h2 h3 => by
    have e : Ext (Is s) M (DL.put M s o) := .set rfl
    exact k r _ h1 h2 ⟨h3, J.X.trans (e.one J.S), J.S⟩ e⟩
theorem log_small {i : Int} (h : i.natAbs < 2 ^ 40) : i.natAbs.log2 < 9000 := by
  by_cases e : i.natAbs = 0
  · rw [e]; decide
  · have := (Nat.log2_lt e).mpr h
    omega
theorem atI_in {xs : List D} {i : Int} (h0 : 0 ≤ i) (h1 : i < xs.length) : ∃ d, atI xs i = some d ∧ d ∈ xs ∧ xs[i.toNat]? = some d := by
  have h2 : i.toNat < xs.length := by omega
  refine ⟨xs[i.toNat], ?_, List.getElem_mem h2, by simp [h2]⟩
  unfold atI
  rw [ixN_in h0 h1]
  simp [h2]
/-- one out of a list -/
theorem LS.pickAt (J : LS S M0 M s l ns) {a : Addr} {vs : List D} (ha : M a = some (.lst vs)) (hn : a ≠ s) {n : Int} (e : n = vs.length) (h0 : 0 < vs.length) (h1 : vs.length < 1000000)
    (k : ∀ (v : D) (M' : Mp), v ∈ vs → LS S M0 M' s l ns → Ext (Is s) M M' → Q v M') : spPick [.ref s, .int n] M (fun y M2 => ixG (.ref a) y M2 Q) E := by
  subst e
  refine J.pick (by omega) (log_small (by omega)) fun r M' r0 r1 J' e => ?_
  have ha' := e _ _ hn ha
  obtain ⟨d, e1, e2, _⟩ := atI_in r0 r1
  have : ixG (.ref a) (.int r) M' Q = Q d M' := by
    unfold ixG
    simp only [seqOf, ha', Option.bind_some, e1]
  rw [this]
  exact k d M' e2 J' e
/-- one out of a written list -/
theorem LS.choose (J : LS S M0 M s l ns) {vs : List D} {n : Int} (hn : n = vs.length) (h0 : 0 < vs.length) (h1 : vs.length < 1000000) (k : ∀ (v : D) (M' : Mp), v ∈ vs → LS S M0 M' s l ns → Ext (Is s) M M' → Q v M') :
    ∀ p, M p = none → spPick [.ref s, .int n] (DL.put M p (.lst vs)) (fun y M2 => ixG (.ref p) y M2 Q) E := fun p hp =>
  (J.new hp).pickAt put_same (J.P.s_some hp).1 hn h0 h1 fun v M' hv J' e => k v M' hv J' (Ext.trans (.lay hp) e)
/-- one sign of a text -/
theorem LS.pickS (J : LS S M0 M s l ns) {z : Str} {n : Int} (h0 : 0 < n) (h1 : n ≤ z.length) (h2 : z.length < 1000000)
    (k : ∀ (c : Nat) (M' : Mp), c ∈ z.cps.toList → LS S M0 M' s l ns → Ext (Is s) M M' → Q (.str ⟨#[c]⟩) M') : spPick [.ref s, .int n] M (fun y M2 => ixG (.str z) y M2 Q) E := by
  refine J.pick (by omega) (log_small (by omega)) fun r M' r0 r1 J' e => ?_
  have hz : z.length = z.cps.toList.length := by simp [Str.length]
  have r2 : r.toNat < z.cps.toList.length := by omega
  have e1 : atI z.cps.toList r = some (z.cps.toList[r.toNat]) := by
    unfold atI
    rw [ixN_in r0 (by omega)]
    exact List.getElem?_eq_getElem r2
  have : ixG (.str z) (.int r) M' Q = (z.length ≤ sizeLine ∧ Q (.str ⟨#[z.cps.toList[r.toNat]]⟩) M') := by
    unfold ixG
    simp only [e1]
  rw [this]
  exact ⟨by rw [sizeLine_eq]; omega, k _ M' (List.getElem_mem r2) J' e⟩
end
end DL

set_option maxHeartbeats 4000000
namespace DL
open PySem PySem.Spec L2
/-- texts that are written -/
theorem ofS_inj {a b : String} : Str.ofString a = Str.ofString b ↔ a = b := by
  constructor
  · intro h
    rw [Str.ofString_eq_toList, Str.ofString_eq_toList] at h
    have h1 : (a.toList.map Char.toNat).toArray = (b.toList.map Char.toNat).toArray := congrArg Str.cps h
    have h2 : a.toList.map Char.toNat = b.toList.map Char.toNat := by simpa using h1
    have h3 : a.toList = b.toList := (List.map_inj_right (fun x y e => Char.ext (UInt32.toNat_inj.mp e))).mp h2
    exact String.toList_inj.mp h3
  · rintro rfl; rfl
/-! ### texts and tuples in readings -/
section
variable {M : Mp} {Q : DK} {a b : Str} {d e f : D} {ds : List D} {n : Bool} {p : Addr}
theorem eqD_str : eqD (.str a) (.str b) M Q = Q (.bl (decide (a = b))) M := by unfold eqD eqG; simp
theorem neD_str : neD (.str a) (.str b) M Q = Q (.bl (!decide (a = b))) M := by unfold neD eqG; simp
theorem ixG_nat {xs : List D} {k : Nat} (h : xs[k]? = some d) : ixG (.tup xs) (.int ((k : Nat) : Int)) M Q = Q d M := by
  unfold ixG
  simp only [atI_nat h]
theorem ixG_t0 : ixG (.tup (d :: ds)) (.int 0) M Q = Q d M := ixG_nat (k := 0) rfl
theorem ixG_t1 : ixG (.tup (d :: e :: ds)) (.int 1) M Q = Q e M := ixG_nat (k := 1) rfl
theorem ixG_t2 : ixG (.tup (d :: e :: f :: ds)) (.int 2) M Q = Q f M := ixG_nat (k := 2) rfl
theorem ixG_last : ixG (.tup (ds ++ [d])) (.int (-1)) M Q = Q d M := by
  have : atI (ds ++ [d]) (-1) = some d := by
    unfold atI ixN
    have e0 : (ds ++ [d]).length = ds.length + 1 := by simp
    rw [e0, if_neg (by omega), if_pos (by omega)]
    have e : (((ds.length + 1 : Nat) : Int) + (-1)).toNat = ds.length := by omega
    have e' : ((-1 : Int) + ((ds.length + 1 : Nat) : Int)).toNat = ds.length := by omega
    first
      | (rw [e]; simp)
      | (rw [e']; simp)
  simp [ixG, this]
theorem any_strs {hs : List Str} {x : Str} : ((hs.map D.str).any fun d => eqb d (.str x)) = decide (x ∈ hs) := by
  induction hs with
  | nil => simp
  | cons h hs ih =>
    simp only [List.map_cons, List.any_cons, ih, eqb, List.mem_cons]
    by_cases c : x = h
    · subst c; simp
    · have : (h == x) = false := by
        rw [Bool.eq_false_iff]
        intro z
        exact c (eq_of_beq z).symm
      simp [this, c]
theorem flat_strs {hs : List Str} : (hs.map D.str).all flatD = true := by
  induction hs with
  | nil => rfl
  | cons h hs ih => simp [flatD]
theorem inG_strs {hs : List Str} {x : Str} {a : Addr} (h : M a = some (.lst (hs.map D.str))) : inG n (.str x) (.ref a) M Q = Q (.bl (n != decide (x ∈ hs))) M := by
  unfold inG
  simp only [seqD, seqOf, h, flat_strs, any_strs, flatD, true_and]
theorem inG_lit {hs : List Str} {x : Str} (hd : ds = hs.map D.str) : inG n (.str x) (.ref p) (put M p (.lst ds)) Q = Q (.bl (n != decide (x ∈ hs))) (put M p (.lst ds)) := inG_strs (by rw [put_same, hd])
theorem isiG_str {K : PySem.W.Frag} : isiG K [.str a, .ty "str"] M Q = Q (.bl true) M := by simp [isiG, tyName, isB]
theorem lenG_tup : lenG [.tup ds] M Q = Q (.int (ds.length : Nat)) M := by simp [lenG, lenD]
theorem lenG_at {a : Addr} {xs : List D} (h : M a = some (.lst xs)) : lenG [.ref a] M Q = Q (.int (xs.length : Nat)) M := by simp [lenG, lenD, h]
theorem cut_from {xs : List D} {i : Nat} (h : i ≤ xs.length) : cutD xs (some (i : Int)) none = xs.drop i := by
  unfold cutD HT.sIx
  dsimp only
  rw [if_neg (by omega), Int.toNat_natCast, Nat.min_eq_left h, List.take_of_length_le (by rw [List.length_drop]; omega)]
theorem cut_to {xs : List D} {i : Nat} : cutD xs none (some (i : Int)) = xs.take i := by
  unfold cutD HT.sIx
  dsimp only
  rw [if_neg (by omega), Int.toNat_natCast]
  simp only [Nat.sub_zero, List.drop_zero]
  rw [List.take_eq_take_iff]
  omega
theorem cut_in {xs : List D} {i j : Nat} (h : i ≤ xs.length) : cutD xs (some (i : Int)) (some (j : Int)) = (xs.take j).drop i := by
  unfold cutD HT.sIx
  dsimp only
  rw [if_neg (by omega), if_neg (by omega), Int.toNat_natCast, Int.toNat_natCast, Nat.min_eq_left h, List.drop_take, List.take_eq_take_iff, List.length_drop]
  omega
/-- xs[2:-1] -/
theorem cut_2m {x y z : D} : cutD (x :: y :: (ds ++ [z])) (some 2) (some (-1)) = ds := by
  have e0 : (x :: y :: (ds ++ [z])).length = ds.length + 3 := by simp
  unfold cutD HT.sIx
  dsimp only
  rw [e0, if_pos (show (-1 : Int) < 0 by omega), if_neg (show ¬ (2 : Int) < 0 by omega)]
  have e1 : min (Int.toNat 2) (ds.length + 3) = 2 := by have : Int.toNat 2 = 2 := rfl; omega
  rw [e1]
  show List.take _ (ds ++ [z]) = ds
  have : ∀ k, k = ds.length → List.take k (ds ++ [z]) = ds := by rintro k rfl; simp
  exact this _ (by omega)
theorem isi_int {K : PySem.W.Frag} {M : Mp} {Q : DK} {i : Int} : isiG K [.int i, .ty "int"] M Q = Q (.bl true) M := by simp [isiG, tyName, isB]
theorem isi_int_s {K : PySem.W.Frag} {M : Mp} {Q : DK} {i : Int} : isiG K [.int i, .ty "str"] M Q = Q (.bl false) M := by simp [isiG, tyName, isB]
theorem isi_int_t {K : PySem.W.Frag} {M : Mp} {Q : DK} {i : Int} : isiG K [.int i, .ty "tuple"] M Q = Q (.bl false) M := by simp [isiG, tyName, isB]
theorem isi_tup {K : PySem.W.Frag} {M : Mp} {Q : DK} {i : List D} : isiG K [.tup i, .ty "tuple"] M Q = Q (.bl true) M := by simp [isiG, tyName, isB]
theorem isi_tup_s {K : PySem.W.Frag} {M : Mp} {Q : DK} {i : List D} : isiG K [.tup i, .ty "str"] M Q = Q (.bl false) M := by simp [isiG, tyName, isB]
theorem isi_tup_i {K : PySem.W.Frag} {M : Mp} {Q : DK} {i : List D} : isiG K [.tup i, .ty "int"] M Q = Q (.bl false) M := by simp [isiG, tyName, isB]
theorem isi_str_i {K : PySem.W.Frag} {M : Mp} {Q : DK} {i : Str} : isiG K [.str i, .ty "int"] M Q = Q (.bl false) M := by simp [isiG, tyName, isB]
theorem isi_str_t {K : PySem.W.Frag} {M : Mp} {Q : DK} {i : Str} : isiG K [.str i, .ty "tuple"] M Q = Q (.bl false) M := by simp [isiG, tyName, isB]
end
end DL

set_option maxHeartbeats 4000000
namespace DL
open PySem PySem.Spec L2
theorem LS.pickAtW {S : Addr → Prop} {M0 M : Mp} {s l : Addr} {ns : List Int} {Q : DK} {E : EK} (J : LS S M0 M s l ns) {a : Addr} {vs : List D} (ha : M a = some (.lst vs)) (hn : a ≠ s) {n : Int} (e : n = vs.length) (h0 : 0 < vs.length) (h1 : vs.length ≤ 16777216)
    (k : ∀ (v : D) (M' : Mp), v ∈ vs → LS S M0 M' s l ns → Ext (Is s) M M' → Q v M') : spPick [.ref s, .int n] M (fun y M2 => ixG (.ref a) y M2 Q) E := by
  subst e
  refine J.pick (by omega) (log_small (by omega)) fun r M' r0 r1 J' e => ?_
  have ha' := e _ _ hn ha
  obtain ⟨d, e1, e2, _⟩ := atI_in r0 r1
  have : ixG (.ref a) (.int r) M' Q = Q d M' := by
    unfold ixG
    simp only [seqOf, ha', Option.bind_some, e1]
  rw [this]
  exact k d M' e2 J' e
theorem LS.chooseP {S : Addr → Prop} {M0 M : Mp} {s l : Addr} {ns : List Int} (J : LS S M0 M s l ns) {vs : List D} {n : Int} {Q : Addr → DK} {E : Addr → EK} (hn : n = vs.length) (h0 : 0 < vs.length) (h1 : vs.length < 1000000) (k : ∀ (p : Addr) (v : D) (M' : Mp), v ∈ vs → LS S M0 M' s l ns → Ext (Is s) M M' → Q p v M') :
    ∀ p, M p = none → spPick [.ref s, .int n] (DL.put M p (.lst vs)) (fun y M2 => ixG (.ref p) y M2 (Q p)) (E p) := fun p hp =>
  (J.new hp).pickAt put_same (J.P.s_some hp).1 hn h0 h1 fun v M' hv J' e => k p v M' hv J' (Ext.trans (.lay hp) e)
/-! ### a comprehension whose items are drawn -/
theorem dCL_draws {α : Type} (f : α → D) (G : α → Prop) {g : D → Sl → Sl} {te : DE} {kp : Mp → Prop} {p : Addr} {τ : Sl} {F : Mp → Prop} {its : List D} {S : Addr → Prop} {M0 M : Mp} {s l : Addr} {ns : List Int}
    (J : LS S M0 M s l ns) (hp : Own S M0 M s l p (.lst [])) (hl : its.length ≤ 1000000) (hk : ∀ M', LS S M0 M' s l ns → Ext (fun a => a = s ∨ a = p) M M' → kp M')
    (step : ∀ (i : Nat) (d : D) (M' : Mp) (k : D → Mp → Prop), its[i]? = some d → LS S M0 M' s l ns → Ext (fun a => a = s ∨ a = p) M M' → (∀ a M2, G a → LS S M0 M2 s l ns → Ext (Is s) M' M2 → k (f a) M2) → te (g d τ) M' k noE)
    (done : ∀ (xs : List α) (M' : Mp), xs.length = its.length → (∀ a, a ∈ xs → G a) → LS S M0 M' s l ns → Ext (fun a => a = s ∨ a = p) M M' → Own S M0 M' s l p (.lst (xs.map f)) → F M') :
    dCL g dYes te kp p τ F its M := by
  refine dCL_inv (fun j M' => LS S M0 M' s l ns ∧ Ext (fun a => a = s ∨ a = p) M M' ∧ ∃ xs : List α, xs.length = j ∧ (∀ a, a ∈ xs → G a) ∧ Own S M0 M' s l p (.lst (xs.map f))) ?_ ?_ ?_ ⟨J, .refl, [], rfl, (fun _ h => nomatch h), hp⟩
  · exact fun i M' _ h => hk M' h.1 h.2.1
  · rintro i d M' nxt hd ⟨J', e', xs, hx, hG, hO⟩ hnx
    simp only [dYes, if_true]
    refine step i d M' _ hd J' e' fun a M2 ga J2 e2 => ?_
    have hO2 := hO.ext e2
    have hi := (List.getElem?_eq_some_iff.mp hd).1
    simp only [hO2.a, List.length_map]
    refine ⟨by rw [sizeLine_eq]; omega, hnx _ ⟨J2.set hO2, (e'.trans (e2.wide fun x z => .inl z)).trans (.set (.inr rfl)), xs ++ [a], by simp [hx], fun b hb => ?_, ?_⟩⟩
    · rcases List.mem_append.mp hb with h | h
      · exact hG b h
      · rw [List.mem_singleton.mp h]; exact ga
    · rw [List.map_append]
      exact hO2.set
  · rintro M' ⟨J', e', xs, hx, hG, hO⟩
    exact done xs M' hx hG J' e' hO
/-- a read-only walk: nothing is laid or drawn in the items -/
theorem dCL_pure {α : Type} (f : α → D) {g : D → Sl → Sl} {tt : DT} {te : DE} {kp : Mp → Prop} {p : Addr} {τ : Sl} {F : Mp → Prop} {its : List D} {M : Mp}
    (as : List (Option α)) (ha : as.length = its.length) (hl : its.length ≤ 16000000) (hk : ∀ xs, kp (put M p (.lst xs)))
    (step : ∀ (i : Nat) (d : D) (a : Option α) (xs : List D) (k : D → Mp → Prop) (k2 : Mp → Prop), its[i]? = some d → as[i]? = some a → (∀ x, a = some x → k (f x) (put M p (.lst xs))) → (a = none → k2 (put M p (.lst xs))) →
      tt (g d τ) (put M p (.lst xs)) (fun b M1 => if b = true then te (g d τ) M1 k noE else k2 M1) noE)
    (done : F (put M p (.lst ((as.filterMap id).map f)))) :
    dCL g tt te kp p τ F its (put M p (.lst [])) := by
  refine dCL_inv (fun j M' => M' = put M p (.lst (((as.take j).filterMap id).map f))) ?_ ?_ ?_ (by simp)
  · rintro i M' _ rfl; exact hk _
  · rintro i d M' nxt hd rfl hnx
    have hi := (List.getElem?_eq_some_iff.mp hd).1
    have hi2 : i < as.length := by omega
    refine step i d as[i] _ _ nxt hd (List.getElem?_eq_getElem hi2) (fun x hx => ?_) fun hx => ?_
    · simp only [put_same]
      refine ⟨?_, hnx _ ?_⟩
      · rw [sizeLine_eq, List.length_map]
        have h1 := List.length_filterMap_le id (as.take i)
        rw [List.length_take] at h1
        omega
      · rw [put_put, List.take_succ, List.getElem?_eq_getElem hi2, hx]
        simp
    · refine hnx _ ?_
      rw [List.take_succ, List.getElem?_eq_getElem hi2, hx]
      simp
  · rintro M' rfl
    rw [← ha, List.take_length]
    exact done
/-- a test whose answer is known -/
theorem ifS_of {c : DT} {t u : DS} {Dn : DN} {τ : Sl} {M : Mp} (b : Bool) (h : ∀ Q E, Q b M → c τ M Q E) (k : if b = true then t Dn τ M else u Dn τ M) : dIfS c t u Dn τ M := h _ _ k
theorem ifS_p {c : DT} {t u : DS} {Dn : DN} {τ : Sl} {M : Mp} (p : Prop) [Decidable p] (h : ∀ (Q : Bool → Mp → Prop) (E : EK), (p → Q true M) → (¬ p → Q false M) → c τ M Q E) (yes : p → t Dn τ M) (no : ¬ p → u Dn τ M) : dIfS c t u Dn τ M :=
  h (fun b M1 => if b = true then t Dn τ M1 else u Dn τ M1) _ (fun z => by show (if true = true then _ else _); rw [if_pos rfl]; exact yes z) fun z => by show (if false = true then _ else _); rw [if_neg Bool.false_ne_true]; exact no z
theorem lock_undo {M : Mp} {a p : Addr} {o u v : MO} (ha : M a = some o) (hp : put M a u p = none) : put (put (put M a u) p v) a o = put M p v := by
  have n : a ≠ p := by rintro rfl; rw [put_same] at hp; cases hp
  funext b
  by_cases c : b = a
  · subst c; rw [put_same, put_ne n, ha]
  · rw [put_ne c]
    by_cases c2 : b = p
    · subst c2; rw [put_same, put_same]
    · rw [put_ne c2, put_ne c2, put_ne c]
/-- a list out of the keys of a dict -/
theorem lock_comp {α : Type} (f : α → D) {i x j : Nat} {tt : DT} {te : DE} {τ : Sl} {M : Mp} {Dn : DN} {a : Addr} {kvs : List (Key × D)} (e : slot τ i = some (.ref a)) (ha : M a = some (.dk kvs)) (hl : kvs.length ≤ 1000000)
    (as : List (Option α)) (las : as.length = kvs.length)
    (step : ∀ (n : Nat) (q : Key × D) (o : Option α) (M' : Mp) (k : D → Mp → Prop) (k2 : Mp → Prop), kvs[n]? = some q → as[n]? = some o → M' a = some (.rdk kvs) → (∀ y, o = some y → k (f y) M') → (o = none → k2 M') →
      tt ((wipeD τ [x]).set x (some (ofKey q.1))) M' (fun b M1 => if b = true then te ((wipeD τ [x]).set x (some (ofKey q.1))) M1 k noE else k2 M1) noE)
    (nx : ∀ p, M p = none → Dn.nx (τ.set j (some (.ref p))) (put M p (.lst ((as.filterMap id).map f)))) :
    dLock (dAsg (dLc (dKeys (dVar i)) (fun d τ => τ.set x (some d)) tt te [x]) (dName j)) Dn τ M := by
  refine ⟨a, kvs, ha, ?_⟩
  simp only [dAsg, dLc, dKeys, dVar, e, put_same, dName, dLockN]
  refine ⟨by rw [sizeLine_eq]; omega, fun p hp => ?_⟩
  have n : a ≠ p := by rintro rfl; rw [put_same] at hp; cases hp
  refine dCL_pure f as (by rw [las, List.length_map]) (by rw [List.length_map]; omega) (fun xs => by rw [put_ne n, put_same]) (fun m d o xs k k2 hd ho h1 h2 => ?_) ?_
  · rw [List.getElem?_map] at hd
    cases hq : kvs[m]? with
    | none => rw [hq] at hd; cases hd
    | some q =>
      rw [hq] at hd
      cases hd
      exact step m q o _ k k2 hq ho (by rw [put_ne n, put_same]) h1 h2
  · refine ⟨by rw [put_ne n, put_same], ?_⟩
    rw [lock_undo ha hp]
    refine nx p ?_
    rw [put_ne (Ne.symm n)] at hp
    exact hp
theorem putKD_mem {l : List (Key × D)} {k : Key} {d : D} {q : Key × D} (h : q ∈ putKD l k d) : q = (k, d) ∨ q ∈ l := by
  unfold putKD at h
  split at h
  · obtain ⟨r, hr, rfl⟩ := List.mem_map.mp h
    split
    · rename_i c; left; rw [c]
    · exact .inr hr
  · rcases List.mem_append.mp h with h | h
    · exact .inr h
    · exact .inl (List.mem_singleton.mp h)
theorem putKD_ne {l : List (Key × D)} {k : Key} {d : D} : putKD l k d ≠ [] := by
  unfold putKD
  split
  · rename_i h
    cases l with
    | nil => simp at h
    | cons a r => simp
  · simp
theorem valD_mem {l : List (Key × D)} {q : Key × D} (h : q ∈ l) : ∃ v, valD l q.1 = some v ∧ (q.1, v) ∈ l := by
  induction l with
  | nil => cases h
  | cons r l ih =>
    rw [valD_cons]
    by_cases c : r.1 = q.1
    · exact ⟨r.2, by rw [if_pos c], by rw [← c]; exact List.mem_cons_self⟩
    · rw [if_neg c]
      rcases List.mem_cons.mp h with rfl | h
      · exact absurd rfl c
      · obtain ⟨v, h1, h2⟩ := ih h
        exact ⟨v, h1, List.mem_cons_of_mem _ h2⟩
end DL

set_option maxHeartbeats 4000000
namespace DL
open PySem PySem.Spec L2
/-! ### words of small letters -/
def low (x : Str) : Prop := ∀ c, c ∈ x.cps.toList → 97 ≤ c ∧ c ≤ 122
theorem app_cps {a b : Str} : (a ++ b).cps = a.cps ++ b.cps := rfl
theorem low_app {a b : Str} (ha : low a) (hb : low b) : low (a ++ b) := fun c hc => by
  rw [app_cps, Array.toList_append, List.mem_append] at hc
  exact hc.elim (ha c) (hb c)
theorem low_one {c : Nat} (h : 97 ≤ c ∧ c ≤ 122) : low ⟨#[c]⟩ := fun d hd => by
  have : d = c := by simpa using hd
  subst this; exact h
theorem low_nil : low "" := fun c hc => by
  have : ("" : Str).cps.toList = [] := by decide
  rw [this] at hc; cases hc
theorem low_joinS : ∀ {xs : List Str}, (∀ x, x ∈ xs → low x) → low (Str.join "" xs)
  | [], _ => low_nil
  | [x], h => h x List.mem_cons_self
  | x :: y :: r, h => low_app (low_app (h x List.mem_cons_self) low_nil) (low_joinS fun z hz => h z (List.mem_cons_of_mem _ hz))
theorem low_join {xs : List Str} (h : ∀ x, x ∈ xs → low x) : low (Txt.join "" xs) := by
  show low (Builtin.Str.glued (PySem.Str.ofString "") xs)
  rw [StrLaws.glued_eq_join]
  exact low_joinS h
theorem low_ok {x : Str} (h : low x) : ok (.str x) = true := by
  rw [ok, Array.all_eq_true]
  intro i hi
  have := h x.cps[i] (by simp)
  simp
  omega
theorem low_letters : low "abcdefghijklmnopqrstuvwxyz" := by unfold low; decide +kernel
theorem letters_len : ("abcdefghijklmnopqrstuvwxyz" : Str).cps.toList.length = 26 := by decide +kernel
theorem ixG_letter {i : Int} {M : Mp} {Q : DK} (h0 : 0 ≤ i) (h1 : i < 26) (k : ∀ x, low x → x.length = 1 → Q (.str x) M) : ixG (.str "abcdefghijklmnopqrstuvwxyz") (.int i) M Q := by
  have hl := letters_len
  have h2 : i.toNat < ("abcdefghijklmnopqrstuvwxyz" : Str).cps.toList.length := by omega
  have e1 : atI ("abcdefghijklmnopqrstuvwxyz" : Str).cps.toList i = some (("abcdefghijklmnopqrstuvwxyz" : Str).cps.toList[i.toNat]) := by
    unfold atI
    rw [ixN_in h0 (by omega)]
    exact List.getElem?_eq_getElem h2
  unfold ixG
  simp only [e1]
  refine ⟨?_, k _ (low_one (low_letters _ (List.getElem_mem h2))) rfl⟩
  have : ("abcdefghijklmnopqrstuvwxyz" : Str).length = 26 := by decide +kernel
  rw [this, sizeLine_eq]; omega
theorem LS.letter {S : Addr → Prop} {M0 M : Mp} {s l : Addr} {ns : List Int} {Q : DK} {E : EK} {n : Int} (J : LS S M0 M s l ns) (h0 : 0 < n) (h1 : n ≤ 26) (k : ∀ (x : Str) (M' : Mp), low x → x.length = 1 → LS S M0 M' s l ns → Ext (Is s) M M' → Q (.str x) M') :
    spPick [.ref s, .int n] M (fun y M2 => ixG (.str "abcdefghijklmnopqrstuvwxyz") y M2 Q) E :=
  J.pick h0 (log_small (by omega)) fun r M' r0 r1 J' e => ixG_letter r0 (by omega) fun x hx hl => k x M' hx hl J' e
end DL

set_option maxHeartbeats 4000000
namespace DL
open PySem PySem.Spec L2
open PyProof.Rows (envOfC)
/-! ### exceptions with attributes of their own -/
section
variable {X : Cx} {W : DW} {pos p p2 np pos' : Pos}
/-- isinstance(e, C) of the exception that the suite holds, attributes or not -/
def isxF (K : PySem.W.Frag) (y : DX) (a : Addr) : DG := fun ds M Q => match ds with
  | [.ref a', c] => a' = a ∧ (∀ dd, y.d = some dd → ∃ fs, M dd = some (.xd fs)) ∧ ∃ D b cv, y.cls = .ref D ∧ ExcC K D ∧ ((∃ C, c = .ref C ∧ cv = .ref C) ∨ ∃ n, c = .ty n ∧ cv = .type n) ∧ PySem.W.kitOne K (.ref D) cv = some b ∧ Q (.bl b) M
  | _ => False
theorem call_isxF {y : DX} {a : Addr} {oe : Obj} {pn : List (Addr × Obj)} (hz : Zc y.cls y.d oe) (hf : ∃ vs, oe.data = .fields vs) : CallR (X.suite a ((a, oe) :: pn)) (.builtin "isinstance") (liftC X.K (isxF X.K y a)) := by
  intro pins s σ H xs us Q I rs ⟨ds, M, Qd, q, r, hr, k⟩
  unfold isxF at q
  split at q
  · rename_i a' c
    obtain ⟨rfl, hd, D, b, cv, ec, C, hc, kk, q⟩ := q
    obtain ⟨v, v', rfl, rv, rv'⟩ := r.two
    obtain ⟨u1, u2, rfl, r1, r2⟩ := vals2 rs
    rw [rv.toRef] at r1
    cases (show u1 = Value.ref a' from r1)
    have e2 : u2 = cv := by
      rcases hc with ⟨C', rfl, rfl⟩ | ⟨n, rfl, rfl⟩
      · rw [rv'.toRef] at r2; exact r2
      · rw [rv'.toTy] at r2; exact r2
    subst e2
    obtain ⟨hget, _⟩ := I.pin (a', oe) (List.mem_append.mpr (.inl List.mem_cons_self))
    obtain ⟨vs, hv⟩ := hf
    have J : ∃ od, PySem.W.InstAt s.heap a' oe D od := by
      cases ed : y.d with
      | none => exact ⟨none, hget, by rw [hz.1]; exact ec, by unfold PySem.W.notCls; rw [hv] <;> rfl, by rw [hz.2, ed]; trivial⟩
      | some dd =>
        obtain ⟨fs, hm⟩ := hd dd ed
        obtain ⟨ws, hw, _⟩ : ∃ ws, H dd = some (.xd ws) ∧ FD X.K H ws fs := hr dd _ hm
        have ho : ObjOk X.prog X.w H s.heap dd (.xd ws) := I.hok dd _ hw
        obtain ⟨mA, hns, _⟩ := ho
        obtain ⟨od, hod, _⟩ := lookIn_ns hns
        exact ⟨some od, hget, by rw [hz.1]; exact ec, by unfold PySem.W.notCls; rw [hv] <;> rfl, by rw [hz.2, ed]; exact hod⟩
    obtain ⟨od, J⟩ := J
    have hcl : (PySem.W.clsIn X.K D).isSome = true := by
      obtain ⟨cd, hcd, _⟩ := PySem.W.any_some C.hd
      rw [hcd]; rfl
    exact PySem.W.kia_one (PySem.W.kitx_exc hcl C.hg C.hk C.hs C.ha C.hn C.ht C.hm) I.kIn J kk (fun z => nomatch z) fun tk => ⟨.bl b, H, I.kept (t' := tk) fun _ _ z => z, rfl, k _ M _ H q .refl (.bl _) hr⟩
  · exact q.elim
/-- e.f of the exception that the suite holds -/
def dXf (K : PySem.W.Frag) (y : DX) (a : Addr) (te : DE) (f : Str) : DE := fun τ M Q E => te τ M (fun x M1 => x = .ref a ∧ ∃ C dd fs v, y.cls = .ref C ∧ XfC K C ∧ PySem.W.findIn K (.ref C) f = some none ∧ y.d = some dd ∧ M1 dd = some (.xd fs) ∧ fs.lookup f = some v ∧ Q v M1) E
theorem pd_xf {y : DX} {a : Addr} {oe : Obj} {pn : List (Addr × Obj)} {e : Expr} {te : DE} {n : Str} (hz : Zc y.cls y.d oe) (hf : ∃ vs, oe.data = .fields vs) (he : PD (X.suite a ((a, oe) :: pn)) W e te) (hb : attributeBase e n X.env (eval e X.env) = eval e X.env := by rfl) :
    PD (X.suite a ((a, oe) :: pn)) W (.Attribute e n pos) (dXf X.K y a te n) := by
  by_cases hC : ∃ C, y.cls = .ref C ∧ XfC X.K C ∧ PySem.W.findIn X.K (.ref C) n = some none
  · obtain ⟨C, ec, T, hno⟩ := hC
    have R := pe_xf (cls := y.cls) (d := y.d) (pos := pos) T hno hz hf he.run hb
    refine ⟨PEimp R fun σ H Q ⟨τ, M, Qd, Ed, hs, hr, q, we, k⟩ => ⟨τ, M, _, Ed, hs, hr, q, we, fun x M1 v H1 q1 e1 r1 h1 => ?_⟩⟩
    obtain ⟨rfl, C', dd, fs, d, ec', _, _, ed, hm, hl, q1⟩ := q1
    obtain ⟨ws, hw, fd⟩ : ∃ ws, H1 dd = some (.xd ws) ∧ FD X.K H1 ws fs := h1 dd _ hm
    obtain ⟨u, hu, ru⟩ := fd.look hl
    exact ⟨r1.toRef, ec, dd, ws, u, ed, hw, hu, k _ M1 _ H1 q1 e1 ru h1⟩
  · refine ⟨⟨fun pins s σ H Q I ⟨τ, M, Qd, Ed, hs, hr, q, we, k⟩ => ?_⟩⟩
    refine attr_of hb (thn (he.run.run pins s σ H (fun _ _ => False) I ⟨τ, M, _, Ed, hs, hr, q, we, fun x M1 v H1 q1 _ _ _ => ?_⟩) fun u s1 ⟨_, _, _, _, z⟩ => z.elim)
    obtain ⟨_, C', _, _, _, ec', hx, hn, _⟩ := q1
    exact hC ⟨C', ec', hx, hn⟩
end
/-! ### raise C(e, ..), C with an __init__ of its own -/
/-- what such an __init__ keeps: attributes fs -/
def spOI (C : Addr) (fs : List Str) : Sp := fun vs H Q _ => ∃ (a : Addr) (ys : List V), vs = .ref a :: ys ∧ ys.length = fs.length ∧ H a = some (exo a C none) ∧ ∀ dx, H dx = none → dx ≠ a → Q .non (upd (upd H dx (exd dx (fs.zip ys).reverse)) a (exo a C (some dx)))
section
variable {P : Program} {w : World} {K : PySem.W.Frag} {mg : Str → Option Value} {base : Heap}
theorem okI1 {qual f : Str} {st : Stmt} {fI : Addr} {fd : FuncData} {N : List Str} {C : Addr} {k : Nat} (F : L2.Fun K "__init__" qual st fI fd) (S : FnScope N N (defScope st)) (hN : N.length = 2) (T : OexC K C) (no : PySem.W.findIn K (.ref C) f = some none)
    (hbody : ∀ (cdv : Value) (A : Around) (outer : List Env) (s : Shared) (H : Hp) (E : XK), PSs (cxOf (L2.CX P w) P w K mg base N qual (defScope st) fI cdv A outer s H E) (defBody st) (tOst K f (tVar 0) (tVar 1))) :
    FnOk P w K mg base (L2.CX P w) (k + 1) fI fd N (spOI C [f]) := by
  refine F.okX S (fun vs H Q E ⟨a, ys, e, hl, _⟩ => by rw [e, List.length_cons, hl, hN]; rfl) fun cdv A outer s H vs Q E hr ⟨a, ys, e, hl, ha, k⟩ => ⟨_, hbody cdv A outer s H E, ?_⟩
  subst e
  obtain ⟨y, rfl⟩ : ∃ y, ys = [y] := by
    cases ys with
    | nil => cases hl
    | cons y r =>
      cases r with
      | nil => exact ⟨y, rfl⟩
      | cons _ _ => simp at hl
  have e0 : L2.start N [.ref a, y] = [some (.ref a), some y] := by
    unfold L2.start
    rw [hN]
    rfl
  rw [e0]
  exact ⟨y, rfl, .ref a, rfl, a, C, rfl, T, no, .inl ⟨ha, fun dx hd ne => k dx hd ne⟩⟩
/-- the exception class x at C with attributes fs -/
structure RaiD (P : Program) (w : World) (K : PySem.W.Frag) (mg : Str → Option Value) (base : Heap) (k : Nat) (x : Str) (C : Addr) (fs : List Str) : Prop where
  ex : ∃ (fI : Addr) (fd : FuncData) (ps : List Str), OexC K C ∧ PySem.W.findIn K (.ref C) "__init__" = some (some (.ref fI)) ∧ PySem.W.typeIn K (.ref fI) = some (.type "function") ∧ FnOk P w K mg base (L2.CX P w) k fI fd ps (spOI C fs) ∧ Binds K fd ps [] ∧ mg x = some (.ref C)
end
def dRaiseI (C : Addr) (fs : List Str) (ta : DA) : DS := fun Dn τ M => ta τ M (fun ds M1 => ds.length = fs.length ∧ ∀ dd, M1 dd = none → Dn.ex ⟨.ref C, some dd, (fs.zip ds).reverse⟩ τ M1) (exOf Dn τ)
theorem FD.app {K : PySem.W.Frag} {H : Hp} : ∀ {vs : List (Str × V)} {fs : List (Str × D)} {us : List (Str × V)} {gs : List (Str × D)}, FD K H vs fs → FD K H us gs → FD K H (vs ++ us) (fs ++ gs)
  | [], [], _, _, _, g => g
  | _ :: _, _ :: _, _, _, h, g => ⟨h.1, h.2.1, FD.app h.2.2 g⟩
  | [], _ :: _, _, _, h, _ => h.elim
  | _ :: _, [], _, _, h, _ => h.elim
theorem FD.rev {K : PySem.W.Frag} {H : Hp} : ∀ {vs : List (Str × V)} {fs : List (Str × D)}, FD K H vs fs → FD K H vs.reverse fs.reverse
  | [], [], _ => True.intro
  | p :: ps, q :: qs, h => by
    rw [List.reverse_cons, List.reverse_cons]
    exact FD.app (FD.rev h.2.2) ⟨h.1, h.2.1, True.intro⟩
  | [], _ :: _, h => h.elim
  | _ :: _, [], h => h.elim
theorem FD.zip {K : PySem.W.Frag} {H : Hp} : ∀ {fs : List Str} {vs : List V} {ds : List D}, RpL K H vs ds → FD K H (fs.zip vs) (fs.zip ds)
  | [], _, _, _ => by simp [FD]
  | _ :: _, _, _, .nil => by simp [FD]
  | f :: fs, _, _, .cons r l => ⟨rfl, r, FD.zip l⟩
section
variable {X : Cx} {W : DW} {pos p pos' : Pos} {e : Expr} {es : List Expr} {ta : DA} {x : Str} {C : Addr} {fs : List Str} {k : Nat}
theorem psd_raiseI (R : RaiD X.prog X.w X.K X.mg X.base k x C fs) (hk : fs.length ≤ 1000) (hr : Room (k + 1) X.A) (hc : X.calm = true) (tk : Takes X (liftW X.K W)) (hg : Gl X x) (ha : PAD X W (e :: es) ta)
    (hdb : (x == ("__debug__" : Str)) = false := by decide) (he : starEach (e :: es) X.env = (false, eval e X.env) :: starEach es X.env := by rfl) (hpl : (backTo pos' (starEach es X.env)).any (·.1) = false := by rfl) :
    PSD X W (.Raise (some (.Call (.Name x p) (e :: es) [] pos')) none pos) (dRaiseI C fs ta) := by
  obtain ⟨fI, fd, ps, T, iC, tI, F, hb, hm⟩ := R.ex
  have no : Passes (L2.CX X.prog X.w) X (fun _ _ _ => False) := fun _ _ _ _ _ _ _ c => by
    obtain ⟨_, _, _, _, _, _, _, _, _, _, _, _, z⟩ := c
    exact z.elim
  refine ⟨PSimp (ps_raise hc tk (pmk_oex (dvs := []) T iC tI F hr hb .nil no hg hm ha.run hdb he hpl)) fun De σ H ⟨τ, M, Dd, hs, hr, q, we, nc⟩ => ?_⟩
  refine ⟨τ, M, _, exOf Dd τ, hs, hr, q, (fun x M1 h => we x τ M1 h), fun ds M1 vs H1 q1 e1 r1 h1 => ⟨by rw [r1.length, q1.1]; exact hk, fun a ha => ?_⟩⟩
  refine ⟨a, vs, by rw [List.append_nil], by rw [r1.length, q1.1], upd_same, fun dx hd ne => ?_⟩
  have hd1 : H1 dx = none := by rw [upd_ne ne] at hd; exact hd
  refine ⟨rfl, dx, (fs.zip vs).reverse, upd_same, (upd_ne ne).trans upd_same, hd1, ?_⟩
  have eH : upd (del (upd (upd (upd H1 a (exo a C none)) dx (exd dx (fs.zip vs).reverse)) a (exo a C (some dx))) a) dx (.xd (fs.zip vs).reverse) = upd H1 dx (.xd (fs.zip vs).reverse) := by
    funext b
    by_cases c : b = dx
    · subst c; rw [upd_same, upd_same]
    · rw [upd_ne c, upd_ne c]
      by_cases c2 : b = a
      · subst c2; rw [del_same, ha]
      · rw [del_ne c2, upd_ne c2, upd_ne c, upd_ne c2]
  rw [eH]
  have t1 : TExt X.K H1 (upd H1 dx (.xd (fs.zip vs).reverse)) := .new hd1
  exact ⟨_, τ, M1, (hs.mono e1).mono t1, h1.fresh hd1, ⟨rfl, rfl, fun d2 e2 => by cases e2; exact ⟨_, upd_same, (FD.zip (r1.mono t1)).rev⟩⟩, we _ _ _ (q1.2 dx (h1.free hd1))⟩
end
end DL

set_option maxHeartbeats 4000000
namespace DL
open PySem PySem.Spec L2
open PyProof.Rows
/-! ### try with several clauses, named or not -/
structure Clause where
  c : Value
  i : Option Nat
  ts : Addr → Value → Option Addr → TS
def endAt (i : Option Nat) (De : Ends) : Ends := match i with
  | none => De
  | some j => ⟨fun σ H => De.nx (σ.set j none) H, De.rt, fun σ H => De.bk (σ.set j none) H, fun σ H => De.ct (σ.set j none) H⟩
def slotAt (i : Option Nat) (a : Addr) (σ : L2.St) : L2.St := match i with
  | none => σ
  | some j => σ.set j (some (.ref a))
def wAll (K : PySem.W.Frag) (Wo : WX) (De : Ends) : List Clause → WX
  | [] => Wo
  | k :: r => fun cls d σ H => ∃ b, PySem.W.exmOne K cls k.c = some b ∧ (b = true → ∀ a, H a = none → k.ts a cls d (endAt k.i De) (slotAt k.i a σ) H) ∧ (b = false → wAll K Wo De r cls d σ H)
def nameOk (X : Cx) (nm : Option Str) (i : Option Nat) : Prop := match nm, i with
  | none, none => True
  | some n, some j => X.N.Nodup ∧ X.N[j]? = some n ∧ X.env.kindOf n = some .local
  | _, _ => False
inductive HsOk (X : Cx) : List ExceptHandler → List Clause → Prop
  | nil : HsOk X [] []
  | cons {x : Str} {nm : Option Str} {k : Clause} {b0 : Stmt} {su : List Stmt} {p1 p2 : Pos} {hs : List ExceptHandler} {l : List Clause} (hc : Names X x k.c) (hn : nameOk X nm k.i)
      (body : ∀ (a : Addr) (oe : Obj) (cls : Value) (d : Option Addr) (pn : List (Addr × Obj)), Zc cls d oe → (∃ vs, oe.data = .fields vs) → PSs (X.suite a ((a, oe) :: pn)) (b0 :: su) (k.ts a cls d)) (r : HsOk X hs l) :
      HsOk X (.ExceptHandler (some (.Name x p1)) nm (b0 :: su) p2 :: hs) (k :: l)
section
variable {X : Cx} {body : List Stmt} {h0 : ExceptHandler} {hs : List ExceptHandler} {l : List Clause} {pos : Pos} {tb : WX → TS} {Wo : WX}
theorem ps_try_all (e1 : X.stack = X.env :: X.outer) (e2 : X.env.frame = some X.env.locals) (tk : Takes X Wo)
    (hb : ∀ (W' : WX) (pn : List (Addr × Obj)) (xe : Value → Shared → Prop), Takes (X.tr pn xe) W' → PassesOwn (model X.prog X.w) X.A X.env xe → PSs (X.tr pn xe) body (tb W')) (hh : HsOk X (h0 :: hs) l) :
    PS X (.Try body (h0 :: hs) [] [] pos) (fun De σ H => tb (wAll X.K Wo De l) De σ H) := by
  constructor
  intro pins s σ H De I q
  have okX := I.ok
  have frX : X.A.frames = some (X.env :: X.outer) := okX.frames.trans (by rw [e1])
  -- a caught exception runs through the clauses
  have caughtAt : ∀ (u : Value) (t : Shared), XE (X.tr (X.pn ++ pins) (fun _ _ => True)) (wAll X.K Wo De l) u t → wpAny (model X.prog X.w) X.A (noteFrame u X.env) (fun _ t1 => wpAny (model X.prog X.w) X.A (setFlight u none) (fun _ t2 => wpAny (model X.prog X.w) X.A (handleBy u X.env (h0 :: hs)) (SP X pins De) X.xe t2) X.xe t1) X.xe t := by
    rintro u t ⟨a, B, sI, pins', σ', H', cls, d, rfl, J0, nb, up, sky, na, os, ag, w⟩
    have J : Inv X pins σ' H' sI := J0.ofTry okX
    have sky1 : Sky B (X.env :: X.outer) a (Zc cls d) X.env.locals t.heap := e1 ▸ sky
    refine Sky.land Zc.steady frX e2 sky1 fun g fg ug => ?_
    have Jg : Inv X pins σ' H' { t with heap := g } := J.landed nb fg.1 (up.trans ug) os ag
    obtain ⟨og, vg, hg, zg, dg⟩ := fg.there
    have away : a ∉ frs (X.env :: X.outer) := fun hm => by
      obtain ⟨_, o', e', no⟩ := fg.2.2.1.mem hm
      cases hg.symm.trans e'
      exact no _ dg
    have aL : a ≠ X.env.locals := fun z => away (by rw [z]; exact List.mem_filterMap.mpr ⟨X.env, List.mem_cons_self, e2⟩)
    have aF : a ∉ X.fs := fun hm => by
      obtain ⟨v, hv, qv⟩ := List.mem_filterMap.mp hm
      exact away (List.mem_filterMap.mpr ⟨v, List.mem_cons_of_mem _ hv, qv⟩)
    have Sg := Jg.suite hg dg na aL aF
    have go : ∀ {hs' : List ExceptHandler} {l' : List Clause}, HsOk X hs' l' → wAll X.K Wo De l' cls d σ' H' → wpAny (model X.prog X.w) X.A (handleBy (.ref a) X.env hs') (SP X pins De) X.xe { t with heap := g } := by
      intro hs' l' ok
      induction ok with
      | nil =>
        intro wn
        apply wpAny_handleBy_nil
        obtain ⟨_, _, _, oe, vs, T, oT, _, h1, _, h2, h3, _⟩ := id fg
        have out : wpAny (model X.prog X.w) X.A (setFlight (.ref a) X.env.frame) (fun _ t4 => wpAny (model X.prog X.w) X.A (throw (.ref a) : Sem Flow) (SP X pins De) X.xe t4) X.xe { t with heap := g } := by
          rw [e2]
          exact HandSPX.setFlight_upZ fg fun g4 sk4 u4 => wpAny_throw (tk _ _ ⟨a, B, sI, pins, σ', H', cls, d, rfl, J, nb, (up.trans ug).trans u4, .inr (.inr (by rw [e1]; exact sk4)), na, os, ag, wn⟩)
        unfold PySem.passOn
        apply wpAny_bind
        apply wpAny_field h1 h2 h3
        have nT : ¬ ((Value.ref T == Value.none) = true) := by simp
        rw [if_neg nT]
        first | exact wpAny_bind out | exact wpAny_bind (wpAny_pure (wpAny_bind out))
      | @cons x nm k b0 su p1 p2 hs2 l2 hc hn bd r ih =>
        rintro ⟨b, ex, yes, no⟩
        refine wpAny_handleBy_cons (codeAny_handlers_test ?_) (fun z => nomatch z)
        have isT : PySem.W.Looks (model X.prog X.w) g (typeOf (.ref a)) cls := fun _ _ _ _ kk qq => wpAny_typeOf_ref (kk _ _ hg) (by rw [zg.1]; exact qq)
        have asked := PySem.W.exm_one (M := model X.prog X.w) Jg.kIn isT ex
        have name : ∀ {Q E : Value → Shared → Prop}, Q k.c { t with heap := g } → wpAny (model X.prog X.w) (X.A.mark (some (.ref a))) (eval (.Name x p1) X.env) Q E { t with heap := g } := by
          intro Q E qk
          rcases hc with ⟨c1, c2, c3 | ⟨c3, c4, c5⟩⟩
          · exact ld_glob (X := X.suite a ((a, og) :: (X.pn ++ pins))) Sg c1 c3 qk c2
          · exact ld_blt (X := X.suite a ((a, og) :: (X.pn ++ pins))) Sg c1 c3 c4 qk c5 c2
        refine name (asked.here ?_)
        cases b with
        | false => exact ih (no rfl)
        | true =>
          have ran : ∀ (g4 : Heap), HandSPX.FlyingZ B (X.env :: X.outer) a (Zc cls d) g4 → t.heap.UpToSlots g4 → True := fun _ _ _ => trivial
          cases nm with
          | none =>
            cases ki : k.i with
            | some j => rw [ki] at hn; exact hn.elim
            | none =>
              refine codeAny_handlers_suite (HandSPX.lands_againZ fg fun g4 f4 u4 => ?_)
              have J4 : Inv X pins σ' H' { t with heap := g4 } := J.landed nb f4.1 ((up.trans ug).trans u4) os ag
              obtain ⟨o4, v4, h4, z4, d4⟩ := f4.there
              have y := yes rfl a na
              rw [ki] at y
              refine wpAny_mono ((bd a o4 cls d (X.pn ++ pins) z4 ⟨_, d4⟩).run [] _ _ H' _ (J4.suite h4 d4 na aL aF) y) (fun f t6 hf => ?_) fun _ _ z => z.elim
              cases f <;> first
                | (obtain ⟨σ6, H6, S6, q6⟩ := hf; exact ⟨σ6, H6, S6.unsuite okX, q6⟩)
                | (obtain ⟨v6, σ6, H6, S6, r6, q6⟩ := hf; exact ⟨v6, σ6, H6, S6.unsuite okX, r6, q6⟩)
          | some n =>
            cases ki : k.i with
            | none => rw [ki] at hn; exact hn.elim
            | some j =>
              rw [ki] at hn
              obtain ⟨nd, at1, lc⟩ := hn
              refine codeAny_handlers_suite_as (HandSPX.lands_againZ fg fun g4 f4 u4 => ?_)
              have J4 : Inv X pins σ' H' { t with heap := g4 } := J.landed nb f4.1 ((up.trans ug).trans u4) os ag
              obtain ⟨o4, v4, h4, z4, d4⟩ := f4.there
              have y := yes rfl a na
              rw [ki] at y
              refine store_ok (X := X.suite a ((a, o4) :: (X.pn ++ pins))) (v := .ref a) (J4.suite h4 d4 na aL aF) nd at1 (.inl lc) rfl (fun t5 S5 => ?_) (.inr lc)
              refine wpAny_mono ((bd a o4 cls d (X.pn ++ pins) z4 ⟨_, d4⟩).run [] t5 _ H' _ S5 y) (fun f t6 hf => ?_) fun _ _ z => z.elim
              cases f <;> first
                | (obtain ⟨σ6, H6, S6, q6⟩ := hf; exact gone_ok (S6.unsuite okX) nd at1 lc fun t7 J7 => ⟨_, _, J7, q6⟩)
                | (obtain ⟨v6, σ6, H6, S6, r6, q6⟩ := hf; exact gone_ok (S6.unsuite okX) nd at1 lc fun t7 J7 => ⟨_, _, _, J7, r6, q6⟩)
    exact go hh w
  have ran := (hb (wAll X.K Wo De l) (X.pn ++ pins) (fun u t => wpAny (model X.prog X.w) X.A (noteFrame u X.env) (fun _ t1 => wpAny (model X.prog X.w) X.A (setFlight u none) (fun _ t2 => wpAny (model X.prog X.w) X.A (handleBy u X.env (h0 :: hs)) (SP X pins De) X.xe t2) X.xe t1) X.xe t)
    (fun u t ⟨a, B, sI, pins', σ', H', cls, d, e, J0, r⟩ => caughtAt u t ⟨a, B, sI, [], σ', H', cls, d, e, (J0.ofTry okX).toTry _, r⟩) PassesOwn.looking).run [] s σ H De (I.toTry _) q
  refine wpAny_Try_except (wpAny_mono ran (fun f t hf => ?_) fun _ _ z => z)
  cases f <;> first
    | (obtain ⟨σ', H', J', q'⟩ := hf; exact ⟨σ', H', J'.ofTry okX, q'⟩)
    | (obtain ⟨v, σ', H', J', r', q'⟩ := hf; exact ⟨v, σ', H', J'.ofTry okX, r', q'⟩)
    | (obtain ⟨σ', H', J', q'⟩ := hf; exact wpAny_execs_nil ⟨σ', H', J'.ofTry okX, q'⟩)
end
/-! .. over plain data -/
structure DCl where
  c : Value
  i : Option Nat
  ts : DX → Addr → DS
def endD (i : Option Nat) (Dn : DN) : DN := match i with
  | none => { nx := Dn.nx, rt := Dn.rt, bk := Dn.bk, ct := Dn.ct }
  | some j => { nx := fun τ M => Dn.nx (τ.set j none) M, rt := Dn.rt, bk := fun τ M => Dn.bk (τ.set j none) M, ct := fun τ M => Dn.ct (τ.set j none) M }
def slotD (i : Option Nat) (a : Addr) (τ : Sl) : Sl := match i with
  | none => τ
  | some j => τ.set j (some (.ref a))
def hAll (K : PySem.W.Frag) (Dn : DN) : List DCl → DX → Sl → Mp → Prop
  | [] => Dn.ex
  | k :: r => fun x τ M => ∃ b, PySem.W.exmOne K x.cls k.c = some b ∧ (b = true → ∀ a, M a = none → k.ts x a (endD k.i Dn) (slotD k.i a τ) (caught x M)) ∧ (b = false → hAll K Dn r x τ M)
def dTryAll (K : PySem.W.Frag) (cs : List DCl) (t : DS) : DS := fun Dn τ M => t { Dn with ex := hAll K Dn cs } τ M
inductive HsD (X : Cx) (W : DW) : List ExceptHandler → List DCl → Prop
  | nil : HsD X W [] []
  | cons {x : Str} {nm : Option Str} {k : DCl} {b0 : Stmt} {su : List Stmt} {p1 p2 : Pos} {hs : List ExceptHandler} {l : List DCl} (hc : Names X x k.c) (hn : nameOk X nm k.i)
      (body : ∀ (y : DX) (a : Addr) (oe : Obj) (pn : List (Addr × Obj)), Zc y.cls y.d oe → (∃ vs, oe.data = .fields vs) → PSsD (X.suite a ((a, oe) :: pn)) (Wn W.h0) (b0 :: su) (k.ts y a)) (r : HsD X W hs l) :
      HsD X W (.ExceptHandler (some (.Name x p1)) nm (b0 :: su) p2 :: hs) (k :: l)
section
variable {X : Cx} {W : DW} {body : List Stmt} {h0 : ExceptHandler} {hs : List ExceptHandler} {l : List DCl} {pos : Pos} {t : DS}
def upCl (K : PySem.W.Frag) (H0 : Hp) (k : DCl) : Clause := ⟨k.c, k.i, fun a cls d De σ H => ∃ y, cls = y.cls ∧ d = y.d ∧ liftS K (Wn H0) (k.ts y a) De σ H⟩
theorem hsOk_of : ∀ {hs : List ExceptHandler} {l : List DCl}, HsD X W hs l → HsOk X hs (l.map (upCl X.K W.h0))
  | _, _, .nil => .nil
  | _, _, .cons hc hn bd r => .cons (k := upCl X.K W.h0 _) hc hn (fun a oe cls d pn hz hd => ⟨fun pins s σ H De I ⟨y, e1, e2, h⟩ => by
      subst e1; subst e2
      exact (bd y a oe pn hz hd).run.run pins s σ H De I h⟩) (hsOk_of r)
theorem RS.slotAt {K : PySem.W.Frag} {H0 H : Hp} {σ : L2.St} {τ : Sl} (h : RS K H0 H σ τ) (i : Option Nat) (a : Addr) : RS K H0 H (DL.slotAt i a σ) (slotD i a τ) := by
  cases i with
  | none => exact h
  | some j => exact h.set (.ref a)
theorem NC.endAt {K : PySem.W.Frag} {H0 H : Hp} {Dd : DN} {De : Ends} (nc : NC K H0 H Dd De) (i : Option Nat) : NC K H0 H (endD i Dd) (DL.endAt i De) := by
  cases i with
  | none => exact ⟨nc.nx, nc.rt, nc.bk, nc.ct⟩
  | some j => exact ⟨fun τ M σ H' q e rs hr => nc.nx _ M _ H' q e (rs.setN j) hr, nc.rt, fun τ M σ H' q e rs hr => nc.bk _ M _ H' q e (rs.setN j) hr, fun τ M σ H' q e rs hr => nc.ct _ M _ H' q e (rs.setN j) hr⟩
theorem endD_ex {i : Option Nat} {Dn : DN} {x : DX} {τ : Sl} {M : Mp} : (endD i Dn).ex x τ M → False := by cases i <;> exact fun z => z
theorem wAll_of {Dd : DN} {De : Ends} {H : Hp} (we : ∀ x τ M, Dd.ex x τ M → W.w x τ M) (e0 : TExt X.K W.h0 H) (nc : NC X.K W.h0 H Dd De) : ∀ (l : List DCl) {cls : Value} {d : Option Addr} {σ' : L2.St} {H' : Hp} {y : DX} {τ' : Sl} {M' : Mp},
    RS X.K H H' σ' τ' → HR X.K H' M' → XR X.K H' cls d y → hAll X.K Dd l y τ' M' → wAll X.K (liftW X.K W) De (l.map (upCl X.K W.h0)) cls d σ' H'
  | [], _, _, _, _, y, τ', M', rs, hr, xr, h => ⟨y, τ', M', rs.base (e0.trans rs.ext), hr, xr, we y τ' M' h⟩
  | k :: r, _, _, _, H', y, τ', M', rs, hr, xr, ⟨b, hb, hy, hn⟩ => by
    refine ⟨b, by rw [xr.1]; exact hb, fun eb a ha => ⟨y, xr.1, xr.2.1, slotD k.i a τ', caught y M', endD k.i Dd, ?_, caught_ok hr xr, hy eb a (hr.free ha), fun _ _ _ z => (endD_ex z).elim, ?_⟩, fun eb => wAll_of we e0 nc r rs hr xr (hn eb)⟩
    · exact RS.slotAt (rs.base (e0.trans rs.ext)) k.i a
    · exact NC.endAt (nc.mono rs.ext) k.i
theorem psd_try_all (e1 : X.stack = X.env :: X.outer) (e2 : X.env.frame = some X.env.locals) (tk : Takes X (liftW X.K W))
    (hb : ∀ (W' : DW) (pn : List (Addr × Obj)) (xe : Value → Shared → Prop), Takes (X.tr pn xe) (liftW X.K W') → PassesOwn (model X.prog X.w) X.A X.env xe → PSsD (X.tr pn xe) W' body t) (hh : HsD X W (h0 :: hs) l) :
    PSD X W (.Try body (h0 :: hs) [] [] pos) (dTryAll X.K l t) := by
  refine ⟨PSimp (ps_try_all (tb := fun Wx De σ H => ∃ W' : DW, (∀ cls d σ H, liftW X.K W' cls d σ H → Wx cls d σ H) ∧ liftS X.K W' t De σ H) e1 e2 tk (fun Wx pn xe htk hpo => ⟨fun pins s σ H De I ⟨W', hw, h⟩ => (hb W' pn xe (htk.imp hw) hpo).run.run pins s σ H De I h⟩) (hsOk_of hh)) fun De σ H ⟨τ, M, Dd, rs, hr, q, we, nc⟩ => ?_⟩
  refine ⟨⟨H, fun y τ' M' => hAll X.K Dd l y τ' M'⟩, ?_, τ, M, { Dd with ex := hAll X.K Dd l }, rs.base .refl, hr, q, fun y τ' M' h => h, (nc.base rs.ext).nx, (nc.base rs.ext).rt, (nc.base rs.ext).bk, (nc.base rs.ext).ct⟩
  rintro cls d σ' H' ⟨y, τ', M', rs', hr', xr, h⟩
  exact wAll_of we rs.ext nc l rs' hr' xr h
end
/-! ### zip, class constants, index -/
def pairsD : List D → List D → List D
  | x :: xs, y :: ys => .tup [x, y] :: pairsD xs ys
  | _, _ => []
theorem pairsD_len : ∀ {xs ys : List D}, (pairsD xs ys).length = min xs.length ys.length
  | [], _ => by simp [pairsD]
  | _ :: _, [] => by simp [pairsD]
  | x :: xs, y :: ys => by simp [pairsD, pairsD_len (xs := xs) (ys := ys), Nat.add_min_add_right]
theorem pairsD_at : ∀ {xs ys : List D} {i : Nat} {d : D}, (pairsD xs ys)[i]? = some d → ∃ x y, xs[i]? = some x ∧ ys[i]? = some y ∧ d = .tup [x, y]
  | [], _, _, _, h => by simp [pairsD] at h
  | _ :: _, [], _, _, h => by simp [pairsD] at h
  | x :: xs, y :: ys, 0, d, h => by simp [pairsD] at h; exact ⟨x, y, rfl, rfl, h.symm⟩
  | x :: xs, y :: ys, i + 1, d, h => by
    obtain ⟨a, b, h1, h2, h3⟩ := pairsD_at (xs := xs) (ys := ys) (i := i) (d := d) (by simpa [pairsD] using h)
    exact ⟨a, b, by simpa using h1, by simpa using h2, h3⟩
/-- zip of two tuples, of two lists -/
def dZip (ta : DA) : DI := fun τ M Q E => ta τ M (fun ds M1 => match ds with
  | [.tup xs, .tup ys] => xs.length ≤ sizeLine ∧ Q (pairsD xs ys) (fun _ => True) M1
  | [.ref a, .ref b] => match seqOf M1 a, seqOf M1 b with
    | some xs, some ys => xs.length ≤ sizeLine ∧ Q (pairsD xs ys) (fun M => seqOf M a = some xs ∧ seqOf M b = some ys) M1
    | _, _ => False
  | _ => False) E
theorem itOk_zipT {K : PySem.W.Frag} {H : Hp} {a b : Addr} {vs us : List V} {ds es : List D} (s1 : SqT K H a vs) (l1 : RpL K H vs ds) (s2 : SqT K H b us) (l2 : RpL K H us es) (z : ds.length ≤ sizeLine) : ItOk K H (RZ.ItzT K a b) (pairsD ds es) fun _ => True where
  small := by rw [pairsD_len]; omega
  go := fun i H1 M e _ _ hi => by
    rw [pairsD_len] at hi
    exact ⟨vs, us, vs[i]'(by rw [l1.length]; omega), us[i]'(by rw [l2.length]; omega), e.tup _ _ s1, e.tup _ _ s2, by simp, by simp⟩
  stop := fun i H1 M e _ _ hi => by
    rw [pairsD_len] at hi
    exact ⟨vs, us, e.tup _ _ s1, e.tup _ _ s2, by rw [l1.length, l2.length]; omega⟩
  yld := fun i H1 M v H2 e _ _ y => by
    obtain ⟨p, x, y', rfl, hp, rfl, hx, hy⟩ := y
    have h1 := hx vs (e.tup _ _ s1)
    have h2 := hy us (e.tup _ _ s2)
    refine ⟨.new hp, fun M' h => h.fresh hp, fun d hd => ?_⟩
    obtain ⟨da, db, q1, q2, rfl⟩ := pairsD_at hd
    obtain ⟨va, ea, ra⟩ := (l1.mono e).get q1
    obtain ⟨vb, eb, rb⟩ := (l2.mono e).get q2
    cases h1.symm.trans ea
    cases h2.symm.trans eb
    exact .tup (.of upd_same) (.cons (ra.mono (.new hp)) (.cons (rb.mono (.new hp)) .nil))
theorem itOk_zipL {K : PySem.W.Frag} {H : Hp} {a b : Addr} {ds es : List D} (z : ds.length ≤ sizeLine) : ItOk K H (Itz K a b) (pairsD ds es) fun M => seqOf M a = some ds ∧ seqOf M b = some es where
  small := by rw [pairsD_len]; omega
  go := fun i H1 M e hr hk hi => by
    rw [pairsD_len] at hi
    obtain ⟨vs, s1, l1⟩ := seqOf_ok hr hk.1
    obtain ⟨us, s2, l2⟩ := seqOf_ok hr hk.2
    exact ⟨vs, us, vs[i]'(by rw [l1.length]; omega), us[i]'(by rw [l2.length]; omega), s1, s2, by simp, by simp⟩
  stop := fun i H1 M e hr hk hi => by
    rw [pairsD_len] at hi
    obtain ⟨vs, s1, l1⟩ := seqOf_ok hr hk.1
    obtain ⟨us, s2, l2⟩ := seqOf_ok hr hk.2
    exact ⟨vs, us, s1, s2, by rw [l1.length, l2.length]; omega⟩
  yld := fun i H1 M v H2 e hr hk y => by
    obtain ⟨p, x, y', rfl, hp, rfl, hx, hy⟩ := y
    obtain ⟨vs, s1, l1⟩ := seqOf_ok hr hk.1
    obtain ⟨us, s2, l2⟩ := seqOf_ok hr hk.2
    have h1 := hx vs s1
    have h2 := hy us s2
    refine ⟨.new hp, fun M' h => h.fresh hp, fun d hd => ?_⟩
    obtain ⟨da, db, q1, q2, rfl⟩ := pairsD_at hd
    obtain ⟨va, ea, ra⟩ := l1.get q1
    obtain ⟨vb, eb, rb⟩ := l2.get q2
    cases h1.symm.trans ea
    cases h2.symm.trans eb
    exact .tup (.of upd_same) (.cons (ra.mono (.new hp)) (.cons (rb.mono (.new hp)) .nil))
section
variable {X : Cx} {W : DW} {p pos tpos : Pos} {e e2 : Expr} {elts : List Expr} {kk : Nat} {ta : DA}
theorem pid_zip (hg : Gl X "zip") (hm : X.mg "zip" = none) (ha : PAD X W [e, e2] ta) (hs : starEach [e, e2] X.env = (false, eval e X.env) :: starEach [e2] X.env := by rfl) (hpl : (backTo pos (starEach [e2] X.env)).any (·.1) = false := by rfl) :
    PID X W (.Tuple elts kk tpos) (.Call (.Name "zip" p) [e, e2] [] pos) (dZip ta) := ⟨PIimp (RZ.pi_zipA hg hm ha.run hs hpl) fun σ H R ⟨τ, M, Qd, Ed, rs, hr, q, we, k⟩ => ⟨τ, M, _, Ed, rs, hr, q, we, fun ds M1 vs H1 q1 e1 r1 h1 => by
  split at q1
  · rename_i xs ys
    obtain ⟨v, v', rfl, rv, rv'⟩ := r1.two
    obtain ⟨a, us, rfl, s1, l1⟩ := rv.toTup
    obtain ⟨b, ws, rfl, s2, l2⟩ := rv'.toTup
    exact ⟨a, b, us, ws, rfl, .inr ⟨s1, s2, k _ _ _ M1 H1 q1.2 e1 h1 (itOk_zipT s1 l1 s2 l2 q1.1)⟩⟩
  · rename_i a b
    split at q1
    · rename_i xs ys ea eb
      obtain ⟨v, v', rfl, rv, rv'⟩ := r1.two
      obtain ⟨us, s1, l1⟩ := seqOf_ok h1 ea
      obtain ⟨ws, s2, l2⟩ := seqOf_ok h1 eb
      exact ⟨a, b, us, ws, by rw [rv.toRef, rv'.toRef], .inl ⟨s1, s2, k _ _ _ M1 H1 q1.2 e1 h1 (itOk_zipL q1.1)⟩⟩
    · exact q1.elim
  · exact q1.elim⟩⟩
/-- C.f, a constant of a class -/
def CstK (K : PySem.W.Frag) (C : Addr) (f : Str) (d : D) : Prop := ∃ mc v u, ClX.CRead K C mc ∧ ClX.CVal K C mc f v u ∧ ∀ H, Rp K H v d
theorem CstK.int {K : PySem.W.Frag} {C : Addr} {f : Str} {i : Int} {t : Tok} (h1 : PySem.W.readsIn K C (.type "type") = true) (h2 : PySem.W.specialIn K (.ref C) "__getattribute__" = some (some (.builtin "type.__getattribute__"))) (h3 : PySem.W.findCls K (.ref C) (.type "type") f = some (.val (.int i t))) : CstK K C f (.int i) :=
  ⟨_, .int i, _, ⟨h1, h2⟩, ⟨h3, ⟨t, rfl⟩⟩, fun _ => .int i⟩
theorem pd_cst {C : Addr} {f : Str} {d : D} (h : CstK X.K C f d) (he : PD X W e (dC (.ref C))) (hb : attributeBase e f X.env (eval e X.env) = eval e X.env := by rfl) : PD X W (.Attribute e f pos) (dC d) :=
  ⟨PEimp (ClX.pe_cval he.run hb) fun σ H Q ⟨τ, M, Qd, Ed, rs, hr, q, we, k⟩ => ⟨τ, M, (fun x M1 => x = .ref C ∧ Qd d M1), Ed, rs, hr, ⟨rfl, q⟩, we, fun x M1 v H1 q1 e1 r1 h1 => by
    obtain ⟨rfl, q1⟩ := q1
    obtain ⟨mc, v', u, c1, c2, c3⟩ := h
    exact ⟨C, mc, v', u, r1.toRef, c1, c2, k _ M1 _ H1 q1 e1 (c3 H1) h1⟩⟩⟩
/-- xs.index(y), y is there -/
def indexM : DM := fun d ds M Q => match seqOf' d M, ds with
  | some xs, [y] => flatD y = true ∧ xs.all flatD = true ∧ ∃ j z, xs[j]? = some z ∧ eqb z y = true ∧ (∀ m z', m < j → xs[m]? = some z' → eqb z' y = false) ∧ Q (.int ((j : Nat) : Int)) M
  | _, _ => False
where seqOf' : D → Mp → Option (List D)
  | .ref a, M => seqOf M a
  | _, _ => none
theorem mt_indexM : MtR X "list.index" (liftM X.K indexM) := MtRimp mt_index fun x xs H Q ⟨d, ds, M, Qd, q, rx, rs, hr, k⟩ => by
  unfold indexM at q
  split at q
  · rename_i ys y es
    cases d with
    | ref a =>
      obtain ⟨fy, fys, j, z, hz, ez, hno, q⟩ := q
      obtain ⟨vs, s, l⟩ := seqOf_ok hr es
      obtain ⟨v, rfl, rv⟩ := rs.one
      obtain ⟨u, hu, ru⟩ := l.get hz
      have fz : flatD z = true := List.all_eq_true.mp fys z (List.mem_of_getElem? hz)
      refine ⟨a, vs, v, j, u, rx.toRef, rfl, s, flatD_ok rv fy, flatL_ok l fys, hu, by rw [eqV_flat ru rv fz fy]; exact ez, fun m z' hm h' => ?_, k _ M _ H q .refl (.int _) hr⟩
      have hlt : m < ys.length := by
        have := (List.getElem?_eq_some_iff.mp h').1
        rw [l.length] at this; exact this
      obtain ⟨w, hw, rw'⟩ := l.get (List.getElem?_eq_getElem hlt)
      cases h'.symm.trans hw
      have fw : flatD ys[m] = true := List.all_eq_true.mp fys _ (List.getElem_mem hlt)
      rw [eqV_flat rw' rv fw fy]
      exact hno m _ hm (List.getElem?_eq_getElem hlt)
    | _ => cases es
  · exact q.elim
/-! list(range(..)), tuple(range(..)) -/
def rgD (a b : Int) : List D := (List.range (b - a).toNat).map fun i => D.int (a + (i : Nat))
theorem rgD_rp {K : PySem.W.Frag} {H : Hp} {a b : Int} : RpL K H (rgV a b) (rgD a b) := by
  unfold rgV rgD
  generalize List.range (b - a).toNat = l
  induction l with
  | nil => exact .nil
  | cons x l ih => exact .cons (.int _) ih
def rgP (i j : Int) : Prop := -(2 ^ 62) ≤ i ∧ i < 2 ^ 62 ∧ -(2 ^ 62) ≤ j ∧ j < 2 ^ 62 ∧ (j - i).toNat ≤ 2 ^ 24
def rgEnds (ds : List D) (Q : Int → Int → Prop) : Prop := match ds with
  | [.int j] => rgP 0 j ∧ Q 0 j
  | [.int i, .int j] => rgP i j ∧ Q i j
  | _ => False
def dLstRg (ta : DA) : DE := fun τ M Q E => ta τ M (fun ds M1 => rgEnds ds fun i j => ∀ p, M1 p = none → Q (.ref p) (put M1 p (.lst (rgD i j)))) E
def dTupRg (ta : DA) : DE := fun τ M Q E => ta τ M (fun ds M1 => rgEnds ds fun i j => Q (.tup (rgD i j)) M1) E
variable {a b : Expr} {tx ty : DE} {p1 p2 : Pos}
theorem pd_lstRg1 (hc : X.calm = true) (hg : Gl X "list") (hm : X.mg "list" = none) (hg2 : Gl X "range") (hm2 : X.mg "range" = none) (ha : PD X W a tx) (n2 : starEach [a] X.env = (false, eval a X.env) :: starEach [] X.env := by rfl)
    (n1 : starEach [.Call (.Name "range" p2) [a] [] p1] X.env = (false, eval (.Call (.Name "range" p2) [a] [] p1) X.env) :: starEach [] X.env := by rfl) : PD X W (.Call (.Name "list" p) [.Call (.Name "range" p2) [a] [] p1] [] pos) (dLstRg (dCons tx dNil)) :=
  ⟨PEimp (pe_listRg hc hg hm (prg_1 hg2 hm2 ha.run n2) n1) fun σ H Q ⟨τ, M, Qd, Ed, rs, hr, q, we, k⟩ => by
    refine ⟨τ, M, _, Ed, rs, hr, q, we, fun d M1 v H1 q1 e1 r1 h1 => ?_⟩
    dsimp only [dNil, rgEnds] at q1
    split at q1
    · rename_i j heq
      simp only [List.cons.injEq, and_true] at heq
      subst heq
      exact ⟨j, r1.toInt, q1.1, fun p hp => (k.mono e1).lst h1 rgD_rp hp q1.2⟩
    · rename_i heq; simp at heq
    · exact q1.elim⟩
theorem pd_tupRg1 (hc : X.calm = true) (hg : Gl X "tuple") (hm : X.mg "tuple" = none) (hg2 : Gl X "range") (hm2 : X.mg "range" = none) (ha : PD X W a tx) (n2 : starEach [a] X.env = (false, eval a X.env) :: starEach [] X.env := by rfl)
    (n1 : starEach [.Call (.Name "range" p2) [a] [] p1] X.env = (false, eval (.Call (.Name "range" p2) [a] [] p1) X.env) :: starEach [] X.env := by rfl) : PD X W (.Call (.Name "tuple" p) [.Call (.Name "range" p2) [a] [] p1] [] pos) (dTupRg (dCons tx dNil)) :=
  ⟨PEimp (pe_tupRg hc hg hm (prg_1 hg2 hm2 ha.run n2) n1) fun σ H Q ⟨τ, M, Qd, Ed, rs, hr, q, we, k⟩ => by
    refine ⟨τ, M, _, Ed, rs, hr, q, we, fun d M1 v H1 q1 e1 r1 h1 => ?_⟩
    dsimp only [dNil, rgEnds] at q1
    split at q1
    · rename_i j heq
      simp only [List.cons.injEq, and_true] at heq
      subst heq
      exact ⟨j, r1.toInt, q1.1, fun p hp => (k.mono e1).tup h1 rgD_rp hp q1.2⟩
    · rename_i heq; simp at heq
    · exact q1.elim⟩
end
theorem hsd_cons {X : Cx} {W : DW} {x : Str} {nm : Option Str} {c : Value} {i : Option Nat} (ts : DX → Addr → DS) {b0 : Stmt} {su : List Stmt} {p1 p2 : Pos} {hs : List ExceptHandler} {l : List DCl} (hc : Names X x c) (hn : nameOk X nm i)
      (body : ∀ (y : DX) (a : Addr) (oe : Obj) (pn : List (Addr × Obj)), Zc y.cls y.d oe → (∃ vs, oe.data = .fields vs) → PSsD (X.suite a ((a, oe) :: pn)) (Wn W.h0) (b0 :: su) (ts y a)) (r : HsD X W hs l) :
      HsD X W (.ExceptHandler (some (.Name x p1)) nm (b0 :: su) p2 :: hs) (⟨c, i, ts⟩ :: l) := .cons (k := ⟨c, i, ts⟩) hc hn body r
end DL

set_option maxHeartbeats 4000000
namespace DL
open PySem PySem.Spec L2
section
variable {X : Cx}
/-! ### x in (a, b): items of any depth -/
def inT (n : Bool) : DO := fun x y M Q => match y with
  | .tup ys => ok x = true ∧ okL ys = true ∧ min (depL ys) (dep x) ≤ 198 ∧ Q (.bl (n != ys.any fun d => eqb d x)) M
  | _ => False
theorem okL_mem : ∀ {ys : List D}, okL ys = true → ∀ y, y ∈ ys → ok y = true
  | y :: ys, h, z, hz => by
    have h' : ok y = true ∧ okL ys = true := by simpa [okL] using h
    rcases List.mem_cons.mp hz with rfl | hz
    · exact h'.1
    · exact okL_mem h'.2 z hz
theorem toPL_any {x : D} (hx : ok x = true) : ∀ {ys : List D}, okL ys = true → ((toPL ys).any fun z => PyData.eqv z (toP x)) = ys.any fun d => eqb d x
  | [], _ => by simp [toPL]
  | y :: ys, h => by
    have h' : ok y = true ∧ okL ys = true := by simpa [okL] using h
    rw [toPL, List.any_cons, List.any_cons, toPL_any hx h'.2, eqv_toP _ _ h'.1 hx]
theorem op_inT (hu : X.A.units + 200 < cLine) : OpR X (compareOp .In) (liftO X.K (inT false)) := by
  intro pins s σ H x y v u Q I rx ry ⟨dx, dy, M, Qd, q, a, b, c, k⟩
  unfold inT at q
  split at q
  · rename_i ys
    obtain ⟨o1, o2, dm, q⟩ := q
    obtain ⟨as, r1⟩ := Dp.reads I _ x v (dp_of a o1) rx
    have hb := dp_of b (show ok (.tup ys) = true by simpa [ok] using o2)
    rw [toP] at hb
    obtain ⟨bs, r2⟩ := Dp.reads I _ y u hb ry
    refine SeqAt.in_tuple_reads r2 r1 (layL_toP _ o2) (lay_toP _ o1) (by rw [depL_toP, dep_toP]; omega) ?_
    rw [toPL_any o1 o2]
    exact ⟨.bl _, H, I, rfl, k _ M _ H (by simpa using q) .refl (.bl _) c⟩
  · exact q.elim
theorem op_notInT (hu : X.A.units + 200 < cLine) : OpR X (compareOp .NotIn) (liftO X.K (inT true)) := by
  intro pins s σ H x y v u Q I rx ry ⟨dx, dy, M, Qd, q, a, b, c, k⟩
  unfold inT at q
  split at q
  · rename_i ys
    obtain ⟨o1, o2, dm, q⟩ := q
    obtain ⟨as, r1⟩ := Dp.reads I _ x v (dp_of a o1) rx
    have hb := dp_of b (show ok (.tup ys) = true by simpa [ok] using o2)
    rw [toP] at hb
    obtain ⟨bs, r2⟩ := Dp.reads I _ y u hb ry
    refine SeqAt.notIn_tuple_reads r2 r1 (layL_toP _ o2) (lay_toP _ o1) (by rw [depL_toP, dep_toP]; omega) ?_
    rw [toPL_any o1 o2]
    exact ⟨.bl _, H, I, rfl, k _ M _ H (by simpa using q) .refl (.bl _) c⟩
  · exact q.elim
end
end DL

namespace DL
open PySem PySem.Spec L2
/-! ### comprehensions: a target of several names, two clauses -/
/-- what a target does: gd, for the data that are good -/
structure TgOk (K : PySem.W.Frag) (vs : List Nat) (g : TG) (gd : D → Sl → Sl) (good : D → Prop) : Prop where
  run : ∀ (H0 H : Hp) (x : V) (d : D) (σ : L2.St) (τ : Sl) (Q : L2.St → Hp → Prop), Rp K H x d → good d → RS K H0 H (wipe σ vs) τ → (∀ σ', RS K H0 H σ' (gd d τ) → wipe σ' vs = wipe σ vs → Q σ' H) → g x (wipe σ vs) H Q
theorem tg_name {K : PySem.W.Frag} {vs : List Nat} {i : Nat} (hi : i ∈ vs) : TgOk K vs (gName i) (fun d τ => τ.set i (some d)) (fun _ => True) :=
  ⟨fun _ _ _ _ _ _ _ r _ hs k => k _ (hs.set r) (wipe_set hi)⟩
def two (i j : Nat) : D → Sl → Sl := fun d τ => match d with
  | .tup [a, b] => (τ.set i (some a)).set j (some b)
  | _ => τ
def isTwo (d : D) : Prop := ∃ a b, d = .tup [a, b]
theorem wipe_two {σ : L2.St} {vs : List Nat} {i j : Nat} {x y : Option V} (h : i ∈ vs) (h2 : j ∈ vs) : wipe (((wipe σ vs).set i x).set j y) vs = wipe σ vs := by
  apply wipe_same
  · simp [wipe_length]
  · intro k hk
    have n1 : i ≠ k := fun e => hk (e ▸ h)
    have n2 : j ≠ k := fun e => hk (e ▸ h2)
    rw [List.getElem?_set_ne n2, List.getElem?_set_ne n1, wipe_out' hk]
theorem tg_two {K : PySem.W.Frag} {vs : List Nat} {i j : Nat} (hi : i ∈ vs) (hj : j ∈ vs) : TgOk K vs (gTup K 2 (gCons (gName i) (gCons (gName j) gNil))) (two i j) isTwo := by
  refine ⟨fun H0 H x d σ τ Q r g hs k => ?_⟩
  obtain ⟨a, b, rfl⟩ := g
  obtain ⟨p, va, rfl, sa, la⟩ := r.toTup
  obtain ⟨v1, v2, rfl, r1, r2⟩ := la.two
  exact ⟨p, [v1, v2], rfl, sa, rfl, v1, [v2], rfl, v2, [], rfl, rfl, k _ ((hs.set r1).set r2) (wipe_two hi hj)⟩
def dLcG (good : D → Prop) (ti : DI) (g : D → Sl → Sl) (tt : DT) (te : DE) (vs : List Nat) : DE := fun τ M Q E => ti τ M (fun its kp M1 => (∀ d, d ∈ its → good d) ∧ ∀ p, M1 p = none → dCL g tt te kp p (wipeD τ vs) (fun M2 => Q (.ref p) M2) its (put M1 p (.lst []))) E
theorem lc_readG {ti : DI} {tt : DT} {te : DE} {g : TG} {gd : D → Sl → Sl} {good : D → Prop} {vs : List Nat} {K : PySem.W.Frag} (hg : TgOk K vs g gd good) {σ : L2.St} {H : Hp} {Q : VK} {W : DW} (h : liftE K W (dLcG good ti gd tt te vs) σ H Q) :
    tLc (liftI K W ti) g (liftT K W0 tt) (liftE K W0 te) vs σ H Q := by
  obtain ⟨τ, M, Qd, Ed, hs, hr, q, we, k⟩ := h
  refine ⟨τ, M, _, Ed, hs, hr, q, we, fun its kp J M1 H1 q1 e1 h1 ok D hD => ?_⟩
  obtain ⟨gd1, q1⟩ := q1
  have q2 := q1 D (h1.free hD)
  have e2 : TExt K H1 (upd H1 D (.lst [])) := .new hD
  refine ⟨fun i m H' => m = its.length - i ∧ i ≤ its.length ∧ TExt K (upd H1 D (.lst [])) H' ∧ ∃ M', HR K H' M' ∧ dCL gd tt te kp D (wipeD τ vs) (fun M2 => Qd (.ref D) M2) (its.drop i) M', ⟨_, rfl, Nat.zero_le _, .refl, _, h1.made (o := .lst []) (noTup_none hD) ⟨[], upd_same, .nil⟩, by simpa using q2⟩, ?_⟩
  rintro j m H2 ⟨rfl, hj, e3, M2, hr2, q3⟩
  by_cases hlt : j < its.length
  · rw [List.drop_eq_getElem_cons hlt] at q3
    obtain ⟨hk, q3⟩ := q3
    refine .inr ⟨ok.go j H2 M2 (e2.trans e3) hr2 hk hlt, fun H' => TExt K (upd H1 D (.lst [])) H' ∧ ∃ M', HR K H' M' ∧ dCL gd tt te kp D (wipeD τ vs) (fun M2 => Qd (.ref D) M2) (its.drop (j + 1)) M', fun H' h => ⟨its.length - (j + 1), by omega, rfl, hlt, h.1, h.2⟩, fun x H3 y => ?_⟩
    obtain ⟨e4, k4, r4⟩ := ok.yld j H2 M2 x H3 (e2.trans e3) hr2 hk y
    have rx := r4 its[j] (by simp [hlt])
    have hs3 : RS K W0.h0 H3 (wipe σ vs) (wipeD τ vs) := (hs.mono (e1.trans (e2.trans (e3.trans e4)))).wipe vs .none
    refine hg.run _ _ _ _ _ _ _ rx (gd1 _ (List.getElem_mem hlt)) hs3 fun σ' hs4 hw => ⟨hw, _, M2, _, _, hs4, k4 _ hr2, q3, fun _ _ z => z.elim, fun b M4 H4 q4 e5 h4 => ?_⟩
    cases b with
    | false => exact ⟨e3.trans (e4.trans e5), M4, h4, by simpa using q4⟩
    | true =>
      simp only [if_true] at q4 ⊢
      refine ⟨_, M4, _, _, hs4.mono e5, h4, q4, fun _ _ z => z.elim, fun y M5 v H5 q5 e6 r5 h5 => ?_⟩
      dsimp only at q5
      split at q5
      · rename_i acc ea
        obtain ⟨us, hu, l⟩ := h5.lst ea
        have e7 : TExt K H5 (upd H5 D (.lst (us ++ [v]))) := .upd (noTup_lst hu)
        refine ⟨us, hu, by rw [l.length]; exact q5.1, e3.trans (e4.trans (e5.trans (e6.trans e7))), _, h5.made (o := .lst (acc ++ [y])) (noTup_lst hu) ⟨_, upd_same, (l.append (.cons r5 .nil)).mono e7⟩, q5.2⟩
      · exact q5.elim
  · have ei : j = its.length := by omega
    subst ei
    rw [List.drop_length] at q3
    exact .inl ⟨ok.stop _ H2 M2 (e2.trans e3) hr2 q3.1 (Nat.le_refl _), k _ M2 _ H2 q3.2 (e1.trans (e2.trans e3)) (.ref D) hr2⟩
section
variable {X : Cx} {W : DW} {pos p : Pos} {tg elt iter : Expr} {ifs : List Expr} {scope : Scope} {own : List (Str × Nat)} {ti : DI} {tt : DT} {te : DE} {i : Nat} {g : TG} {gd : D → Sl → Sl} {good : D → Prop}
theorem pd_lcG (hc : X.calm = true) (hN : X.N.Nodup) (hi : PID X W tg iter ti) (ok : BlkOk X.N X.env.scope scope own) (hg0 : TgOk X.K (own.map (·.2)) g gd good)
    (hg : ∀ (s : Shared) (H : Hp) (C : Addr) (cl : List (Str × Addr)) (fp : List Addr), PG (X.blk s H scope (compEnvC scope cl C X.env) fp) tg g)
    (ht : ∀ (s : Shared) (H : Hp) (C : Addr) (cl : List (Str × Addr)) (fp : List Addr), PTsD (X.blk s H scope (compEnvC scope cl C X.env) fp) W0 ifs tt)
    (he : ∀ (s : Shared) (H : Hp) (C : Addr) (cl : List (Str × Addr)) (fp : List Addr), PD (X.blk s H scope (compEnvC scope cl C X.env) fp) W0 elt te) (hs : ∀ x, foldedSetIterable iter X.env x = pure x := by intro _; rfl) :
    PD X W (.ListComp elt [⟨tg, iter, ifs, 0⟩] scope pos) (dLcG good ti gd tt te (own.map (·.2))) :=
  ⟨PEimp (pe_lc hc hN hi.run ok hg (fun s H C cl fp => (ht s H C cl fp).run) (fun s H C cl fp => (he s H C cl fp).run) hs) fun σ H Q h => lc_readG hg0 h⟩
theorem psd_setLcG {j : Nat} {y : Str} {py spos : Pos} (hc : X.calm = true) (hN : X.N.Nodup) (hy : X.N[j]? = some y) (hyl : X.env.scope.names.lookup y = some .local)
    (hsw : swapsWith (.ListComp elt [⟨tg, iter, ifs, 0⟩] scope pos) (some (.Name y py)) spos.line X.env = pure true) (hi : PID X W tg iter ti) (ok : BlkOk X.N X.env.scope scope own) (hg0 : TgOk X.K (own.map (·.2)) g gd good)
    (hg : ∀ (s : Shared) (H : Hp) (C : Addr) (cl : List (Str × Addr)) (fp : List Addr), PG (X.blk s H scope (compEnvC scope cl C X.env) fp) tg g)
    (ht : ∀ (s : Shared) (H : Hp) (C : Addr) (cl : List (Str × Addr)) (fp : List Addr), PTsD (X.blk s H scope (compEnvC scope cl C X.env) fp) W0 ifs tt)
    (he : ∀ (s : Shared) (H : Hp) (C : Addr) (cl : List (Str × Addr)) (fp : List Addr), PD (X.blk s H scope (compEnvC scope cl C X.env) fp) W0 elt te) (hs : ∀ x, foldedSetIterable iter X.env x = pure x := by intro _; rfl) :
    PSD X W (.Assign [.Name y py] (.ListComp elt [⟨tg, iter, ifs, 0⟩] scope pos) spos) (dAsg (dLcG good ti gd tt te (own.map (·.2))) (dName j)) :=
  ⟨PSimp (ps_setLc hc hN hy hyl hsw hi.run ok hg (fun s H C cl fp => (ht s H C cl fp).run) (fun s H C cl fp => (he s H C cl fp).run) hs) fun De σ H ⟨τ, M, Dd, h1, hr, q, we, nc⟩ =>
    lc_readG hg0 ⟨τ, M, _, _, h1, hr, q, fun x M' hx => we _ _ _ hx, fun d M1 v H1 q1 e1 r1 h2 => nc.nx _ M1 _ H1 q1 e1 ((h1.mono e1).set r1) h2⟩⟩
end
/-- .. two clauses -/
def dCL2 (g : D → Sl → Sl) (tt : DT) (ti1 : DI) (g1 : D → Sl → Sl) (tt1 : DT) (te : DE) (vs1 : List Nat) (kp : Mp → Prop) (p : Addr) (τ : Sl) (F : Mp → Prop) : List D → Mp → Prop
  | [], M => kp M ∧ F M
  | d :: ds, M => kp M ∧ tt (g d τ) M (fun b M1 => if b = true then ti1 (g d τ) M1 (fun its1 kp1 M2 => dCL g1 tt1 te kp1 p (wipeD (g d τ) vs1) (dCL2 g tt ti1 g1 tt1 te vs1 kp p τ F ds) its1 M2) noE
      else dCL2 g tt ti1 g1 tt1 te vs1 kp p τ F ds M1) noE
def dLc2 (ti : DI) (g : D → Sl → Sl) (tt : DT) (ti1 : DI) (g1 : D → Sl → Sl) (tt1 : DT) (te : DE) (vs vs1 : List Nat) : DE := fun τ M Q E => ti τ M (fun its kp M1 => ∀ p, M1 p = none → dCL2 g tt ti1 g1 tt1 te vs1 kp p (wipeD τ vs) (fun M2 => Q (.ref p) M2) its (put M1 p (.lst []))) E
theorem lc_read2 {ti ti1 : DI} {tt tt1 : DT} {te : DE} {i j : Nat} {vs vs1 : List Nat} {K : PySem.W.Frag} (hi : i ∈ vs) (hj : j ∈ vs1) {σ : L2.St} {H : Hp} {Q : VK} {W : DW}
    (h : liftE K W (dLc2 ti (fun d τ => τ.set i (some d)) tt ti1 (fun d τ => τ.set j (some d)) tt1 te vs vs1) σ H Q) :
    tLc2 (liftI K W ti) (gName i) (liftT K W0 tt) (liftI K W0 ti1) (gName j) (liftT K W0 tt1) (liftE K W0 te) vs vs1 σ H Q := by
  obtain ⟨τ, M, Qd, Ed, hs, hr, q, we, k⟩ := h
  refine ⟨τ, M, _, Ed, hs, hr, q, we, fun its kp J M1 H1 q1 e1 h1 ok D hD => ?_⟩
  have q2 := q1 D (h1.free hD)
  have e2 : TExt K H1 (upd H1 D (.lst [])) := .new hD
  generalize hC : dCL2 (fun d τ => τ.set i (some d)) tt ti1 (fun d τ => τ.set j (some d)) tt1 te vs1 kp D (wipeD τ vs) (fun M2 => Qd (.ref D) M2) = C at q2
  have hCc : ∀ d ds M, C (d :: ds) M → kp M ∧ tt ((wipeD τ vs).set i (some d)) M (fun b M1 => if b = true then ti1 ((wipeD τ vs).set i (some d)) M1 (fun its1 kp1 M2 => dCL (fun d τ => τ.set j (some d)) tt1 te kp1 D (wipeD ((wipeD τ vs).set i (some d)) vs1) (C ds) its1 M2) noE else C ds M1) noE := by
    intro d ds M h; subst hC; exact h
  have hCn : ∀ M, C [] M → kp M ∧ Qd (.ref D) M := by intro M h; subst hC; exact h
  refine ⟨fun i m H' => m = its.length - i ∧ i ≤ its.length ∧ TExt K (upd H1 D (.lst [])) H' ∧ ∃ M', HR K H' M' ∧ C (its.drop i) M', ⟨_, rfl, Nat.zero_le _, .refl, _, h1.made (o := .lst []) (noTup_none hD) ⟨[], upd_same, .nil⟩, by simpa using q2⟩, ?_⟩
  rintro n m H2 ⟨rfl, hn, e3, M2, hr2, q3⟩
  by_cases hlt : n < its.length
  · rw [List.drop_eq_getElem_cons hlt] at q3
    obtain ⟨hk, q3⟩ := hCc _ _ _ q3
    refine .inr ⟨ok.go n H2 M2 (e2.trans e3) hr2 hk hlt, fun H' => TExt K (upd H1 D (.lst [])) H' ∧ ∃ M', HR K H' M' ∧ C (its.drop (n + 1)) M', fun H' h => ⟨its.length - (n + 1), by omega, rfl, hlt, h.1, h.2⟩, fun x H3 y => ?_⟩
    obtain ⟨e4, k4, r4⟩ := ok.yld n H2 M2 x H3 (e2.trans e3) hr2 hk y
    have rx := r4 its[n] (by simp [hlt])
    have hs3 : RS K W0.h0 H3 ((wipe σ vs).set i (some x)) ((wipeD τ vs).set i (some its[n])) := ((hs.mono (e1.trans (e2.trans (e3.trans e4)))).wipe vs .none).set rx
    refine ⟨wipe_set hi, _, M2, _, _, hs3, k4 _ hr2, q3, fun _ _ z => z.elim, fun b M4 H4 q4 e5 h4 => ?_⟩
    cases b with
    | false => exact ⟨e3.trans (e4.trans e5), M4, h4, by simpa using q4⟩
    | true =>
      simp only [if_true] at q4 ⊢
      refine ⟨_, M4, _, _, hs3.mono e5, h4, q4, fun _ _ z => z.elim, fun its1 kp1 J1 M5 H5 q5 e6 h5 ok1 => ?_⟩
      refine ⟨fun l m H' => m = its1.length - l ∧ l ≤ its1.length ∧ TExt K H5 H' ∧ ∃ M', HR K H' M' ∧ dCL (fun d τ => τ.set j (some d)) tt1 te kp1 D (wipeD ((wipeD τ vs).set i (some its[n])) vs1) (C (its.drop (n + 1))) (its1.drop l) M', ⟨_, rfl, Nat.zero_le _, .refl, _, h5, by simpa using q5⟩, ?_⟩
      rintro l m H6 ⟨rfl, hl, e7, M6, hr6, q6⟩
      by_cases hlt1 : l < its1.length
      · rw [List.drop_eq_getElem_cons hlt1] at q6
        obtain ⟨hk1, q6⟩ := q6
        refine .inr ⟨ok1.go l H6 M6 e7 hr6 hk1 hlt1, fun H' => TExt K H5 H' ∧ ∃ M', HR K H' M' ∧ dCL (fun d τ => τ.set j (some d)) tt1 te kp1 D (wipeD ((wipeD τ vs).set i (some its[n])) vs1) (C (its.drop (n + 1))) (its1.drop (l + 1)) M', fun H' h => ⟨its1.length - (l + 1), by omega, rfl, hlt1, h.1, h.2⟩, fun x1 H7 y1 => ?_⟩
        obtain ⟨e8, k8, r8⟩ := ok1.yld l H6 M6 x1 H7 e7 hr6 hk1 y1
        have rx1 := r8 its1[l] (by simp [hlt1])
        have hs7 : RS K W0.h0 H7 ((wipe ((wipe σ vs).set i (some x)) vs1).set j (some x1)) ((wipeD ((wipeD τ vs).set i (some its[n])) vs1).set j (some its1[l])) := ((hs3.mono (e5.trans (e6.trans (e7.trans e8)))).wipe vs1 .none).set rx1
        refine ⟨wipe_set hj, _, M6, _, _, hs7, k8 _ hr6, q6, fun _ _ z => z.elim, fun b M8 H8 q8 e9 h8 => ?_⟩
        cases b with
        | false => exact ⟨e7.trans (e8.trans e9), M8, h8, by simpa using q8⟩
        | true =>
          simp only [if_true] at q8 ⊢
          refine ⟨_, M8, _, _, hs7.mono e9, h8, q8, fun _ _ z => z.elim, fun y M9 v H9 q9 e10 r9 h9 => ?_⟩
          dsimp only at q9
          split at q9
          · rename_i acc ea
            obtain ⟨us, hu, l⟩ := h9.lst ea
            have e11 : TExt K H9 (upd H9 D (.lst (us ++ [v]))) := .upd (noTup_lst hu)
            exact ⟨us, hu, by rw [l.length]; exact q9.1, e7.trans (e8.trans (e9.trans (e10.trans e11))), _, h9.made (o := .lst (acc ++ [y])) (noTup_lst hu) ⟨_, upd_same, (l.append (.cons r9 .nil)).mono e11⟩, q9.2⟩
          · exact q9.elim
      · have ei : l = its1.length := by omega
        subst ei
        rw [List.drop_length] at q6
        exact .inl ⟨ok1.stop _ H6 M6 e7 hr6 q6.1 (Nat.le_refl _), e3.trans (e4.trans (e5.trans (e6.trans e7))), M6, hr6, q6.2⟩
  · have ei : n = its.length := by omega
    subst ei
    rw [List.drop_length] at q3
    obtain ⟨c1, c2⟩ := hCn _ q3
    exact .inl ⟨ok.stop _ H2 M2 (e2.trans e3) hr2 c1 (Nat.le_refl _), k _ M2 _ H2 c2 (e1.trans (e2.trans e3)) (.ref D) hr2⟩
section
variable {X : Cx} {W : DW} {pos p : Pos} {tg elt iter tg1 iter1 : Expr} {ifs ifs1 : List Expr} {scope : Scope} {own : List (Str × Nat)} {ti ti1 : DI} {tt tt1 : DT} {te : DE} {i j : Nat} {vs1 : List Nat}
theorem pd_lc2 (hc : X.calm = true) (hN : X.N.Nodup) (hi : PID X W tg iter ti) (ok : BlkOk X.N X.env.scope scope own) (hv1 : ∀ i ∈ vs1, i ∈ own.map (·.2)) (hv : i ∈ own.map (·.2)) (hw : j ∈ vs1)
    (hg : ∀ (s : Shared) (H : Hp) (C : Addr) (cl : List (Str × Addr)) (fp : List Addr), PG (X.blk s H scope (compEnvC scope cl C X.env) fp) tg (gName i))
    (ht : ∀ (s : Shared) (H : Hp) (C : Addr) (cl : List (Str × Addr)) (fp : List Addr), PTsD (X.blk s H scope (compEnvC scope cl C X.env) fp) W0 ifs tt)
    (hi1 : ∀ (s : Shared) (H : Hp) (C : Addr) (cl : List (Str × Addr)) (fp : List Addr), PID (X.blk s H scope (compEnvC scope cl C X.env) fp) W0 tg1 iter1 ti1)
    (hg1 : ∀ (s : Shared) (H : Hp) (C : Addr) (cl : List (Str × Addr)) (fp : List Addr), PG (X.blk s H scope (compEnvC scope cl C X.env) fp) tg1 (gName j))
    (ht1 : ∀ (s : Shared) (H : Hp) (C : Addr) (cl : List (Str × Addr)) (fp : List Addr), PTsD (X.blk s H scope (compEnvC scope cl C X.env) fp) W0 ifs1 tt1)
    (he : ∀ (s : Shared) (H : Hp) (C : Addr) (cl : List (Str × Addr)) (fp : List Addr), PD (X.blk s H scope (compEnvC scope cl C X.env) fp) W0 elt te) (hs : ∀ x, foldedSetIterable iter X.env x = pure x := by intro _; rfl) (hs1 : ∀ env x, foldedSetIterable iter1 env x = pure x := by intro _ _; rfl) :
    PD X W (.ListComp elt [⟨tg, iter, ifs, 0⟩, ⟨tg1, iter1, ifs1, 0⟩] scope pos) (dLc2 ti (fun d τ => τ.set i (some d)) tt ti1 (fun d τ => τ.set j (some d)) tt1 te (own.map (·.2)) vs1) :=
  ⟨PEimp (pe_lc2 hc hN hi.run ok hv1 hg (fun s H C cl fp => (ht s H C cl fp).run) (fun s H C cl fp => (hi1 s H C cl fp).run) hg1 (fun s H C cl fp => (ht1 s H C cl fp).run) (fun s H C cl fp => (he s H C cl fp).run) hs hs1) fun σ H Q h => lc_read2 hv hw h⟩
end
end DL

set_option maxHeartbeats 1000000
namespace DL
open PySem PySem.Spec L2
/-! ### min(xs, key=len), xs a list of tuples -/
theorem argBest_first (num : Nat → Int) : ∀ k, ∀ j, j < argBest (fun i j => decide (num i < num j)) k → num (argBest (fun i j => decide (num i < num j)) k) < num j
  | 0, j, hj => by simp [argBest] at hj
  | k + 1, j, hj => by
    have h := (argBest_lt num k).2
    have hk := (argBest_lt num k).1
    have ih := argBest_first num k
    simp only [argBest] at hj ⊢
    by_cases c : num (k + 1) < num (argBest (fun i j => decide (num i < num j)) k)
    · simp only [c, decide_true, if_true] at hj ⊢
      exact Int.lt_of_lt_of_le c (h j (by omega))
    · simp only [c, decide_false, Bool.false_eq_true, if_false] at hj ⊢
      exact ih j hj
section
variable {prog : Program} {w : World} {A : Around} {E : Value → Shared → Prop} {s : Shared}
theorem minLen_raw {l : Addr} {Q : Value → Shared → Prop} {its : List Value} {nm : Nat → Int} (hh : A.handled = none) (hl : s.heap.IsList l its.toArray)
    (ht : ∀ i v, its[i]? = some v → ∃ t vs, v = .ref t ∧ PyProof.Rows.IsTup s.heap t vs ∧ (vs.size : Int) = nm i ∧ (vs.size : Int) < 2 ^ 63) (hne : 0 < its.length)
    (h : ∀ v h' tk, its[argBest (fun i j => decide (nm i < nm j)) (its.length - 1)]? = some v → (∀ b o, s.heap.get? b = some o → h'.get? b = some o) → Q v { s with heap := h', toks := tk }) :
    wpAny (model prog w) A (call (.builtin "min") [.ref l] [(Str.ofString "key", .builtin "len")]) Q E s := by
  have hlt : l < s.heap.objs.size := by obtain ⟨_, e, _⟩ := hl; exact Heap.lt_size e
  have hlI : l ≠ s.heap.objs.size := Nat.ne_of_lt hlt
  have W := (Walks.list (prog := prog) (w := w) (A := A.in1) hh s.heap.objs.size l hlI its.toArray).toS
  refine call_min_walkKB (wpAny_pyIter_list hl ⟨_, _, _, _, _, _, _, fun s' => (∀ b o, s.heap.get? b = some o → s'.heap.get? b = some o) ∧ s'.gens = s.gens ∧ s'.drawn = s.drawn ∧ s'.os = s.os, fun i k _ => ∃ t, k = .int (nm i) t, fun i j => decide (nm i < nm j), rfl, W, ⟨⟨_, Heap.get?_push_size _ rfl, rfl, rfl⟩, hl.push _⟩, fun b hb => ?_, by simpa using hne, ⟨?_, ?_, ?_, ?_⟩, ⟨fun b o e => Heap.get?_push_of_some _ e, rfl, rfl, rfl⟩, fun v s' hP hJ => ?_⟩)
  · show b < (s.heap.push _).objs.size
    rw [Heap.size_push]
    rcases List.mem_cons.mp hb with rfl | hb
    · exact Nat.lt_succ_self _
    · rcases List.mem_cons.mp hb with rfl | hb
      · exact Nat.lt_succ_of_lt hlt
      · cases hb
  · rintro s1 s2 ⟨j1, j2, j3, j4⟩ m
    refine ⟨fun b o e => m.heap b o ?_ (j1 b o e), m.gens.trans j2, m.drawn.trans j3, m.os.trans j4⟩
    have hb := Heap.lt_size e
    intro hm
    rcases List.mem_cons.mp hm with hm | hm
    · have h2 : b = (s.heap.push { cls := .type "list_iterator", data := .fields #[.ref l, .int 0 0] }).objs.size := hm
      rw [Heap.size_push] at h2
      have hb2 : b < s.heap.objs.size := hb
      exact absurd hb2 (by rw [h2]; exact Nat.not_lt.mpr (Nat.le_succ _))
    · rcases List.mem_cons.mp hm with rfl | hm
      · exact absurd hb (Nat.lt_irrefl _)
      · cases hm
  · exact fun i k s1 s2 v _ => v
  · rintro i v s1 o Q1 E1 hi hP ⟨j1, j2, j3, j4⟩ st hS k
    obtain ⟨t, vs, rfl, tp, e, z⟩ := ht i v (by simpa using hP)
    have tp' : PyProof.Rows.IsTup s1.heap t vs := by
      obtain ⟨o, a, b⟩ := tp
      exact ⟨o, j1 _ _ a, b⟩
    refine PyProof.Rows.len_tuple tp' z (k _ _ ⟨j1, j2, j3, j4⟩ st hS ⟨_, by rw [e]⟩ fun _ _ x => x)
  · rintro i j ki kj s1 Q1 E1 _ ⟨t, rfl⟩ ⟨u, rfl⟩ q
    exact CmpOf.ints_lt (prog := prog) (w := w) (A := A.in1) (P := fun i v => ∃ t, v = .int (nm i) t) nm (fun i v h => h) i j _ _ _ _ _ ⟨t, rfl⟩ ⟨u, rfl⟩ q
  · obtain ⟨j1, j2, j3, j4⟩ := hJ
    have e : s' = { s with heap := s'.heap, toks := s'.toks } := by
      cases s'; cases s; simp only at j2 j3 j4; subst j2; subst j3; subst j4; rfl
    rw [e]
    refine h v _ _ ?_ j1
    have : its.toArray.size = its.length := List.size_toArray ..
    rw [← this]
    simpa using hP
end
def lenT : D → Nat
  | .tup xs => xs.length
  | _ => 0
section
variable {X : Cx} {W : DW} {pos p p2 kp : Pos} {e : Expr}
def rMinLen (K : PySem.W.Frag) : List V → Hp → VK → Prop := fun vs H1 Q => ∃ (a : Addr) (xs : List V) (nm : Nat → Int), vs = [.ref a] ∧ SqL K H1 a xs ∧ 0 < xs.length ∧ (∀ i v, xs[i]? = some v → ∃ t ys, v = .ref t ∧ SqT K H1 t ys ∧ (ys.length : Int) = nm i) ∧
      ∀ v, xs[argBest (fun i j => decide (nm i < nm j)) (xs.length - 1)]? = some v → Q v H1
theorem pe_minLen {te : TE} (hc : X.calm = true) (hg : Gl X "min") (hm : X.mg "min" = none) (hgl : Gl X "len") (hml : X.mg "len" = none) (he : PE X e te) (hst : starEach [e] X.env = [(false, eval e X.env)] := by rfl) :
    PE X (.Call (.Name "min" p) [e] [⟨some "key", .Name "len" p2, kp⟩] pos) (fun σ H Q => te σ H fun x H1 => rMinLen X.K [x] H1 Q) := by
  refine ⟨fun pins s σ H Q I h => ?_⟩
  refine wpAny_Call_Name_kw (ld_blt I hg hm (u := .builtin "min") bt_min ?_)
  refine PyProof.Rows.callWith_kw (thn ((pa_cons he pa_nil hst).run pos pins s σ H (fun vs H1 => rMinLen X.K vs H1 Q) I h) fun us s1 ⟨vs, H1, I1, r1, q1⟩ => ?_) (by rw [hst]; rfl) (by rw [hst]; rfl) rfl rfl
  show wpAny _ _ (evalAll [(do let v ← eval (.Name "len" p2) X.env; standAt pos; pure v)]) _ _ s1
  refine wpAny_evalAll_cons (wpAny_bind (ld_blt I1 hgl hml (u := .builtin "len") bt_len (wpAny_bind (wpAny_standAt (wpAny_pure (wpAny_evalAll_nil ?_))))))
  show wpAny _ _ (call (.builtin "min") us [(Str.ofString "key", .builtin "len")]) _ _ s1
  obtain ⟨a, xs, nm, rfl, hs, hne, ht, k⟩ := q1
  obtain rfl := Vals.ref1 r1
  obtain ⟨its, rv, hl, hz⟩ := I1.list hs
  have hlen := rv.length
  have back : ∀ {i : Nat} {v : Value}, its[i]? = some v → ∃ x, xs[i]? = some x ∧ RelV x v := fun {i v} hv => by
    have hi : i < its.length := (List.getElem?_eq_some_iff.mp hv).1
    obtain ⟨u, hu, r⟩ := rv.get (List.getElem?_eq_getElem (show i < xs.length by omega))
    rw [hv] at hu; cases hu
    exact ⟨_, List.getElem?_eq_getElem (by omega), r⟩
  refine minLen_raw (nm := nm) (I1.ok.hd hc) hl.isList (fun i v hv => ?_) (by omega) fun v h' tk hv hk => ?_
  · obtain ⟨x, hx, r⟩ := back hv
    obtain ⟨t, ys, rfl, hq, e⟩ := ht i x hx
    cases r
    obtain ⟨it2, r2, tp, z2⟩ := I1.tuple hq
    have l2 := r2.length
    refine ⟨t, it2.toArray, rfl, tp, by rw [List.size_toArray, ← l2]; exact e, ?_⟩
    have := sizeLine_eq
    rw [List.size_toArray]
    omega
  · rw [← hlen] at hv
    obtain ⟨x, hx, r⟩ := back hv
    exact ⟨x, H1, I1.kept hk, r, k x hx⟩
def dMinLen (te : DE) : DE := fun τ M Q E => te τ M (fun d M1 => match d with
  | .ref a => match seqOf M1 a with
    | some ds => ds ≠ [] ∧ (∀ x, x ∈ ds → ∃ ys, x = .tup ys) ∧ ∀ (i : Nat) (x : D), ds[i]? = some x → (∀ (j : Nat) (y : D), ds[j]? = some y → lenT x ≤ lenT y) → (∀ (j : Nat) (y : D), j < i → ds[j]? = some y → lenT x < lenT y) → Q x M1
    | none => False
  | _ => False) E
theorem pd_minLen {te : DE} (hc : X.calm = true) (hg : Gl X "min") (hm : X.mg "min" = none) (hgl : Gl X "len") (hml : X.mg "len" = none) (he : PD X W e te) (hst : starEach [e] X.env = [(false, eval e X.env)] := by rfl) :
    PD X W (.Call (.Name "min" p) [e] [⟨some "key", .Name "len" p2, kp⟩] pos) (dMinLen te) := by
  refine ⟨PEimp (pe_minLen hc hg hm hgl hml he.run hst) fun σ H Q ⟨τ, M, Qd, Ed, hs, hr, q, we, k⟩ => ⟨τ, M, _, _, hs, hr, q, we, fun d M1 v H1 q1 e1 r h1 => ?_⟩⟩
  dsimp only at q1
  split at q1
  · rename_i a
    split at q1
    · rename_i ds es
      obtain ⟨vs, sl, rl⟩ := seqOf_ok h1 es
      obtain ⟨q1, q2, q3⟩ := q1
      have hl := rl.length
      have hp : 0 < ds.length := List.length_pos_iff.mpr q1
      refine ⟨a, vs, fun i => ((lenT (ds.getD i .non) : Nat) : Int), by rw [r.toRef], sl, by omega, fun i v hv => ?_, fun v hv => ?_⟩
      · have hi : i < ds.length := by have := (List.getElem?_eq_some_iff.mp hv).1; omega
        obtain ⟨x, hx, rx⟩ := rl.get (List.getElem?_eq_getElem hi)
        rw [hv] at hx; cases hx
        obtain ⟨ys, e⟩ := q2 _ (List.getElem_mem hi)
        rw [e] at rx
        obtain ⟨t, us, rfl, s2, l2⟩ := rx.toTup
        refine ⟨t, us, rfl, s2, ?_⟩
        show ((us.length : Nat) : Int) = ((lenT (ds.getD i .non) : Nat) : Int)
        rw [List.getD_eq_getElem?_getD, List.getElem?_eq_getElem hi, Option.getD_some, e, l2.length]
        rfl
      · generalize hb : argBest (fun i j => decide (((lenT (ds.getD i .non) : Nat) : Int) < ((lenT (ds.getD j .non) : Nat) : Int))) (vs.length - 1) = b at hv
        have b1 := argBest_lt (fun i => ((lenT (ds.getD i .non) : Nat) : Int)) (vs.length - 1)
        have b2 := argBest_first (fun i => ((lenT (ds.getD i .non) : Nat) : Int)) (vs.length - 1)
        rw [hb] at b1 b2
        have hi : b < ds.length := by omega
        obtain ⟨x, hx, rx⟩ := rl.get (List.getElem?_eq_getElem hi)
        rw [hv] at hx; cases hx
        have gd : ∀ {j : Nat} {y : D}, ds[j]? = some y → ds.getD j .non = y := fun {j y} h => by rw [List.getD_eq_getElem?_getD, h, Option.getD_some]
        have hx := List.getElem?_eq_getElem hi
        refine k _ _ _ _ (q3 b ds[b] hx (fun j y hy => ?_) fun j y hj hy => ?_) e1 rx h1
        · have hj : j < ds.length := (List.getElem?_eq_some_iff.mp hy).1
          have := b1.2 j (by omega)
          rw [gd hy, gd hx] at this
          omega
        · have := b2 j hj
          rw [gd hy, gd hx] at this
          omega
    · exact q1.elim
  · exact q1.elim
end
section
variable {X : Cx}
/-- & -/
theorem op_andD : OpR X (binaryOp .BitAnd) (liftO X.K (oI0 fun i j => .int (Builtin.bitAnd i j))) := oI0_of op_and fun _ _ _ => .int _
end
end DL

set_option maxHeartbeats 4000000
/-! an exception out of a list comprehension -/
namespace DLX
open PySem PySem.Spec L2 HandSPX Builtin Builtin.ObjectAttr
section
variable {M : Model} {A : Around} {E : Value → Shared → Prop} {s : Shared} {Z : Obj → Prop} {base : Heap} {env : Env} {outer l : List Env} {L C e : Addr}
/-- noted at another place than this frame -/
theorem note_any {fl : Value} {Q : Unit → Shared → Prop} (hZ : Steady Z) (hfr : A.frames = some (env :: outer)) (hf : env.frame = some L) (hkb : base.StaysIn s.heap) (hen : base.get? e = none) (hl : s.heap.FunFrames base (env :: outer)) (ht : TracedZ s.heap base e Z fl)
    (hne : (fl == rawInt L) = false) (hQ : ∀ h', HeldZ base (env :: outer) e Z L h' → s.heap.UpToSlots h' → Q () { s with heap := h' }) : wpAny M A (noteFrame (.ref e) env) Q E s := by
  obtain ⟨oe, vs, T, oT, ts, he, hz, hd, h1, hnT, hTe, hT, hdT, h3⟩ := ht
  unfold noteFrame
  simp only [hf]
  refine wpAny_bind (wpAny_field he hd h1 ?_)
  rw [if_pos (show (Value.ref T != Value.none) = true from by simp)]
  refine wpAny_bind (wpAny_field hT hdT h3 ?_)
  rw [if_neg (by rw [hne]; decide)]
  refine wpAny_bind (wpAny_setField hT hdT (Array.getElem?_eq_some_iff.mp h3).1 ?_)
  have other : ∀ b, b ≠ T → (s.heap.update T (Obj.mapFields (·.setIfInBounds 3 Value.none))).get? b = s.heap.get? b := fun b hb => Heap.get?_update_other _ _ (Ne.symm hb)
  have noRecord : ∀ b o, s.heap.get? b = some o → (∀ vs, o.data ≠ .fields vs) → b ≠ T := fun b o hb hnf q => by
    rw [q, hT] at hb; injection hb with hb; subst hb; exact hnf ts hdT
  refine wpAny_entryZ hZ hfr (hl.of_keeps fun b o hb hnf => ⟨o, (other b (noRecord b o hb hnf)).trans hb, rfl⟩) hf ((other e (Ne.symm hTe)).trans he)
    (fun b o hbo => (other b fun q => by rw [q, hnT] at hbo; cases hbo).trans (hkb b o hbo)) hen hd (Array.getElem?_eq_some_iff.mp h1).1 hz fun h' hN => ?_
  obtain ⟨x1, x2, x3, x4⟩ := hN
  exact hQ h' ⟨x1, hen, x2, x3⟩ fun b o hb hnf => x4 b o ((other b (noRecord b o hb hnf)).trans hb) hnf
theorem sky_note {B : Heap} {a : Addr} {Q : Unit → Shared → Prop} (hZ : Steady Z) (hfr : A.frames = some (env :: outer)) (hf : env.frame = some L) (hC : C ≠ L)
    (x : Sky B (env :: outer) a Z C s.heap) (hQ : ∀ h', HeldZ B (env :: outer) a Z L h' → s.heap.UpToSlots h' → Q () { s with heap := h' }) : wpAny M A (noteFrame (.ref a) env) Q E s := by
  rcases x with ⟨hB, hn, hl, oe, vs, he, hz, hd, h1⟩ | fl | hh
  · exact look_newZ hZ hfr hl hf he hB hn hd h1 hz hQ
  · exact looks_onZ hZ hfr hf fl hQ
  · obtain ⟨h1, h2, h3, h4⟩ := hh
    refine note_any hZ hfr hf h1 h2 h3 h4 ?_ hQ
    simp only [rawInt, beq_eq_false_iff_ne, ne_eq, Value.int.injEq, and_true]
    exact fun z => hC (Int.ofNat.inj z)
theorem note_env {x : Value} {ce : Env} (h : ce.frame = env.frame) : noteFrame x ce = noteFrame x env := by
  unfold noteFrame frameOf
  rw [h]
/-- passed on, over the frame that holds it -/
theorem pass_held {B : Heap} {a : Addr} {ce : Env} (hf : ce.frame = some L) (hh : HeldZ B l a Z L s.heap) (hQ : ∀ h', HeldZ B l a Z L h' → s.heap.UpToSlots h' → E (.ref a) { s with heap := h' }) :
    wpAny M A (passOn "comprehension.variables-let-go" (.ref a) ce : Sem Value) (fun _ _ => False) E s := by
  have hh' := hh
  obtain ⟨_, _, _, oe, vs, T, oT, ts, he, hz, hd, h1, hnT, hTe, hT, hdT, h3⟩ := hh'
  unfold passOn
  refine wpAny_bind (wpAny_field he hd h1 ?_)
  rw [if_neg (by simp)]
  rw [hf]
  exact wpAny_bind (setFlight_onZ hh fun h' hh2 up => wpAny_throw (hQ h' hh2 up))
end
/-- a smaller ground, another heap at a place of the block -/
theorem held_less {B B' h h' : Heap} {l : List Env} {a C L : Addr} {Z : Obj → Prop} (hh : HeldZ B l a Z L h) (b1 : ∀ b o, B'.get? b = some o → B.get? b = some o ∧ b ≠ C) (hC : ∃ o, B.get? C = some o) (same : ∀ b, b ≠ C → h'.get? b = h.get? b) (nC : C ∉ l.filterMap (·.frame)) :
    HeldZ B' l a Z L h' := by
  obtain ⟨h1, h2, h3, oe, vs, T, oT, ts, he, hz, hd, hv, hnT, hTe, hT, hdT, ht⟩ := hh
  obtain ⟨oC, eC⟩ := hC
  have n' : ∀ b, B.get? b = none → B'.get? b = none := fun b hb => by
    cases q : B'.get? b with
    | none => rfl
    | some o => rw [(b1 b o q).1] at hb; cases hb
  have aC : a ≠ C := by rintro rfl; rw [h2] at eC; cases eC
  have tC : T ≠ C := by rintro rfl; rw [hnT] at eC; cases eC
  refine ⟨fun b o q => ?_, n' _ h2, ?_, oe, vs, T, oT, ts, (same a aC).trans he, hz, hd, hv, n' _ hnT, hTe, (same T tC).trans hT, hdT, ht⟩
  · obtain ⟨q1, q2⟩ := b1 b o q
    exact (same b q2).trans (h1 b o q1)
  · clear he hd hv hnT hTe hT hdT ht hz h1 h2
    induction l with
    | nil => trivial
    | cons env rest ih =>
      obtain ⟨k1, ⟨L', o, k2, k3, k4, k5⟩, k6⟩ := h3
      have nL : L' ≠ C := fun z => nC (by rw [List.filterMap_cons_some (b := L') k2, z]; exact List.mem_cons_self)
      refine ⟨k1, ⟨L', o, k2, n' _ k3, (same L' nL).trans k4, k5⟩, ih (fun hm => nC ?_) k6⟩
      rw [List.filterMap_cons_some (b := L') k2]
      exact List.mem_cons_of_mem _ hm
section
variable {X : Cx} {pins : List (Addr × Obj)} {σ : St} {H3 : Hp} {s3 s' : Shared} {W W' : WX} {scope : Scope} {ce : Env} {fp : List Addr} {u : Value}
/-- what a block's exception is to the def around it -/
theorem blk_error (I3 : Inv X pins σ H3 s3) (hs : X.stack = X.env :: X.outer) (hf : X.env.frame = some X.env.locals) (tk : Takes X W) (hW : ∀ cls d σ' H', W' cls d σ' H' → W cls d σ H') (cL : ce.locals = s3.heap.objs.size) (cF : ce.frame = X.env.frame)
    (f3 : ∀ b ∈ fp, FpOk X pins H3 b ∧ b < s3.heap.objs.size) (x : XE (X.blk s3 H3 scope ce fp) W' u s') :
    notedBy (model X.prog X.w) X.A ce (fun e s'' => ∃ m, s''.heap.Ns ce.locals m ∧ ∀ h', Heap.SameBut ce.locals s''.heap h' → wpAny (model X.prog X.w) X.A (passOn "comprehension.variables-let-go" e ce : Sem Value) (fun _ _ => False) X.xe { s'' with heap := h' }) u s' := by
  obtain ⟨a, B, sI, pins', σ', H', cls, d, rfl, J, nb, up, sky, na, os, ag, w⟩ := x
  have hfr : X.A.frames = some (X.env :: X.outer) := by rw [I3.ok.frames, hs]
  have cLn : ce.locals ≠ X.env.locals := by
    have := I3.lt
    rw [cL]; exact Nat.ne_of_gt this
  have nC : ce.locals ∉ frs X.stack := fun hm => by
    have fl := J.ok.funs
    obtain ⟨_, o, ho, _⟩ := fl.mem (b := ce.locals) hm
    have := Heap.lt_size ho
    rw [cL] at this
    exact Nat.lt_irrefl _ this
  obtain ⟨m, hns, _⟩ := J.loc
  have hns : sI.heap.Ns ce.locals m := hns
  obtain ⟨oC, eC⟩ : ∃ o, sI.heap.get? ce.locals = some o := by
    obtain ⟨o, _, _, ho, _⟩ := hns
    exact ⟨o, ho⟩
  have BC := nb _ _ eC nC
  show wpAny (model X.prog X.w) X.A (noteFrame (.ref a) ce) _ _ _
  rw [note_env cF]
  have sky' : Sky B (X.env :: X.outer) a (Zc cls d) ce.locals s'.heap := by rw [← hs]; exact sky
  refine sky_note Zc.steady hfr hf cLn sky' fun h1 hh1 up1 => ?_
  refine ⟨m, (up.trans up1).ns hns, fun h2 sb => ?_⟩
  -- without the block's names
  obtain ⟨B', g1, g2⟩ := restrict B fun b => decide (b ≠ ce.locals)
  obtain ⟨G, g3, g4⟩ := restrict sI.heap fun b => decide (b ≠ ce.locals)
  have less : ∀ {b o}, B'.get? b = some o → B.get? b = some o ∧ b ≠ ce.locals := fun {b o} q => by
    by_cases z : b = ce.locals
    · rw [g2 b (by simp [z])] at q; cases q
    · rw [g1 b (by simp [z])] at q; exact ⟨q, z⟩
  have lessG : ∀ {b o}, G.get? b = some o → sI.heap.get? b = some o ∧ b ≠ ce.locals := fun {b o} q => by
    by_cases z : b = ce.locals
    · rw [g4 b (by simp [z])] at q; cases q
    · rw [g3 b (by simp [z])] at q; exact ⟨q, z⟩
  have Gof : ∀ {b o}, b ≠ ce.locals → sI.heap.get? b = some o → G.get? b = some o := fun {b o} z q => by rw [g3 b (by simp [z])]; exact q
  have n3 : ∀ {b o}, s3.heap.get? b = some o → b ≠ ce.locals := fun {b o} q z => by
    have := Heap.lt_size q
    rw [z, cL] at this
    exact Nat.lt_irrefl _ this
  have Hc : H' ce.locals = none := J.free
  have hokG : HOk X.prog X.w H' G := fun b o q => (J.hok b o q).stay (fun c v hc r => Gof (fun z => by
    rw [z] at hc
    rcases hc with hc | hc
    · rw [← hc, Hc] at q; cases q
    · rw [Hc] at hc; cases hc) r) (fun _ r => r) fun _ _ r => r
  have ub : Un (frs X.stack) fp H3 H' s3.heap G := by
    have b0 : Un (frs X.stack) fp H3 H' s3.heap sI.heap := J.base
    refine ⟨fun b o e n h1 h2 => Gof (n3 e) (b0.keep b o e n h1 h2), fun b o e n h1 h2 => ?_, b0.free, fun b o e h => ?_, b0.tups, b0.frzs, b0.tbls⟩
    · obtain ⟨sl, q⟩ := b0.slot b o e n h1 h2
      exact ⟨sl, Gof (n3 e) q⟩
    · obtain ⟨o', q⟩ := b0.there b o e h
      exact ⟨o', Gof (n3 e) q⟩
  have IG : Inv X pins σ H' { sI with heap := G } := I3.call' (s' := { sI with heap := G }) (ch := fp) J.os ub hokG J.bare fun b hb => ⟨(f3 b hb).1.2.2.2.1, (f3 b hb).1.2.1, (f3 b hb).1.2.2.2.2.1, (f3 b hb).1.2.2.2.2.2⟩
  have hh2 : HeldZ B' (X.env :: X.outer) a (Zc cls d) X.env.locals h2 := held_less hh1 (fun b o q => less q) ⟨_, BC⟩ sb.2 (by rw [← hs]; exact nC)
  refine pass_held (s := { s' with heap := h2 }) (cF.trans hf) hh2 fun h3 hh3 up3 => tk _ _ ?_
  refine ⟨a, B', { sI with heap := G }, pins, σ, H', cls, d, rfl, IG, fun b o q hb => ?_, fun b o q hnf => ?_, .inr (.inr (by rw [hs]; exact hh3)), na, os, ag, hW _ _ _ _ w⟩
  · obtain ⟨q1, q2⟩ := lessG q
    rw [g1 b (by simp [q2])]
    exact nb b o q1 hb
  · obtain ⟨q1, q2⟩ := lessG q
    obtain ⟨sl, e1⟩ := (up.trans up1) b o q1 hnf
    have e2 : h2.get? b = some { o with slots := sl } := (sb.2 b q2).trans e1
    obtain ⟨sl2, e3⟩ := up3 b _ e2 hnf
    exact ⟨sl2, e3⟩
end
section
variable {M : Model} {A : Around} {E : Value → Shared → Prop} {s : Shared} {env : Env}
def compPostE (M : Model) (A : Around) (E : Value → Shared → Prop) (use : Option (Value → Sem Unit)) (Q : Value → Shared → Prop) (acc : Value) (ce : Env) (r : Result) (s' : Shared) : Prop :=
  match r with
  | .ok f => compPost M A E use Q acc ce.locals (.ok f) s'
  | .error x => ∃ m, s'.heap.Ns ce.locals m ∧ ∀ h', Heap.SameBut ce.locals s'.heap h' → wpAny M A (passOn "comprehension.variables-let-go" x ce : Sem Value) (fun _ _ => False) E { s' with heap := h' }
theorem comprehension_freeE {e : Expr} {scope : Scope} {pos : Pos} {newAcc first : Sem Value} {g : Comprehension} {gs : List Comprehension} {cl : List (Str × Addr)} {use : Option (Value → Sem Unit)}
    {Q : Value → Shared → Prop}
    (hcl : clausesOf e = g :: gs) (hs : ∀ x, foldedSetIterable g.iter env x = pure x) (hclos : closureFor scope env = pure cl)
    (hkind : scope.kind = .function) (hnames : ∀ x ∈ scope.names, x.2 = .local → scope.names.lookup x.1 = some .local)
    (h : wpAny M A first (fun x s₁ => wpAny M A (pyIter x) (fun it s₂ => wpAny M A newAcc (fun acc s₃ =>
      wpAny M A (newFunctionEnv scope env.globals cl [] env.qual none .none (some env)) (fun cenv s₄ =>
        codeAny M A (.compStart e 0 it acc { cenv with scope := relabel scope env }) (compPostE M A E use Q acc { cenv with scope := relabel scope env }) s₄) E s₃) E s₂) E s₁) E s) :
    wpAny M A (comprehension e scope env pos newAcc false first use) Q E s := by
  unfold comprehension
  rw [hclos, hcl]
  refine wpAny_bind (wpAny_mono h (fun x s₁ h₁ => wpAny_bind (wpAny_standAt (wpAny_bind (wpAny_of_eq (hs x) (wpAny_bind (wpAny_holding (wpAny_mono h₁ (fun it s₂ h₂ =>
    wpAny_standIf (wpAny_bind (wpAny_mono h₂ (fun acc s₃ h₃ => wpAny_bind (wpAny_pure (wpAny_bind (wpAny_mono h₃ (fun cenv s₄ h₄ => ?_) fun _ _ h' => h')))) fun _ _ h' => h')))
      fun _ _ h' => h'))))))) fun _ _ h' => h')
  dsimp only
  have hv : ∀ x ∈ (scope.names.filter fun x => (x.2 == .local || x.2 == .cell) && x.1 != (".0" : Str)).reverse, x.2 = .local →
      Env.kindOf { cenv with scope := relabel scope env } x.1 = some .local := fun x hx hl => lookup_relabel_local (hnames x (List.mem_filter.mp (List.mem_reverse.mp hx)).1 hl)
  have hv' : ∀ x ∈ (scope.names.filter fun x => (x.2 == .local || x.2 == .cell) && x.1 != (".0" : Str)).reverse.drop 1 ++ (scope.names.filter fun x => (x.2 == .local || x.2 == .cell) && x.1 != (".0" : Str)).reverse.take 1,
      x.2 = .local → Env.kindOf { cenv with scope := relabel scope env } x.1 = some .local := fun x hx hl => by
    rcases List.mem_append.mp hx with h1 | h1
    · exact hv x (List.mem_of_mem_drop h1) hl
    · exact hv x (List.mem_of_mem_take h1) hl
  refine wpAny_holding (wpAny_bind (wpAny_attempt (wpAny_holding (wpAny_run (codeAny_mono h₄ fun r s' hr => ?_)))))
  cases r with
  | ok f =>
    cases use with
    | none =>
      obtain ⟨m, hn, hr⟩ := hr
      exact wpAny_bind (wpAny_holding (wpAny_comp_letGo (cenv := { cenv with scope := relabel scope env }) hkind _ s' m hv hn fun h' m' _ hs' => wpAny_pure (hr h' hs')))
    | some u =>
      refine wpAny_bind (wpAny_rule (wpAny_bind (wpAny_holding (wpAny_mono hr (fun _ s'' hr' => ?_) fun _ _ h' => h'))))
      obtain ⟨m, hn, hr'⟩ := hr'
      exact wpAny_bind (wpAny_comp_letGo (cenv := { cenv with scope := relabel scope env }) hkind _ s'' m hv' hn fun h' m' _ hs' => wpAny_pure (hr' h' hs'))
  | error x =>
    obtain ⟨m, hn, hr⟩ := hr
    exact wpAny_bind (wpAny_holding (wpAny_comp_letGo (cenv := { cenv with scope := relabel scope env }) hkind _ s' m hv hn fun h' m' _ hs' => wpAny_mono (hr h' hs') (fun _ _ f => f.elim) fun _ _ y => y))
end
/-- the context of a block that lets exceptions out -/
abbrev blkE (X : Cx) (s : Shared) (H : Hp) (scope : Scope) (cenv : Env) (fp : List Addr) (xe : Value → Shared → Prop) : Cx := { X.blk s H scope cenv fp with xe := xe }
section
variable {X : Cx} {pins : List (Addr × Obj)} {σ : St} {H H0 : Hp} {s s0 : Shared} {scope : Scope} {ce : Env} {fp : List Addr} {xe : Value → Shared → Prop} {W : WX}
theorem toE (I : Inv (X.blk s0 H0 scope ce fp) pins σ H s) : Inv (blkE X s0 H0 scope ce fp xe) pins σ H s :=
  ⟨⟨I.ok.mod, I.ok.kind, I.ok.glob, I.ok.blt, I.ok.above, I.ok.inj, I.ok.has, I.ok.cab, I.ok.hd, I.ok.frames, I.ok.stk, I.ok.exf, I.ok.bs, I.ok.bsz, I.ok.noex, I.ok.exfs, I.ok.funs, I.ok.frf⟩, I.os, I.bare, I.base, I.loc, I.cell, I.free, I.freeC, I.pin, I.hok, I.len⟩
theorem ofE (I : Inv (blkE X s0 H0 scope ce fp xe) pins σ H s) : Inv (X.blk s0 H0 scope ce fp) pins σ H s :=
  ⟨⟨I.ok.mod, I.ok.kind, I.ok.glob, I.ok.blt, I.ok.above, I.ok.inj, I.ok.has, I.ok.cab, I.ok.hd, I.ok.frames, I.ok.stk, I.ok.exf, I.ok.bs, I.ok.bsz, I.ok.noex, I.ok.exfs, I.ok.funs, I.ok.frf⟩, I.os, I.bare, I.base, I.loc, I.cell, I.free, I.freeC, I.pin, I.hok, I.len⟩
theorem takes_blk : Takes (blkE X s0 H0 scope ce fp (XE (X.blk s0 H0 scope ce fp) W)) W := fun u s' ⟨a, B, sI, pins, σ, H, cls, d, e, I, nb, up, sky, na, os, ag, w⟩ =>
  ⟨a, B, sI, pins, σ, H, cls, d, e, ofE I, nb, up, sky, na, os, ag, w⟩
end

/-- a list comprehension whose tests and items may raise; Wc: what is wanted of an exception by the def's slots at the start -/
theorem lc_coreE {X : Cx} {pins : List (Addr × Obj)} {s : Shared} {σ : St} {H : Hp} {Q : VK} {elt tg iter : Expr} {ifs : List Expr} {scope : Scope} {own : List (Str × Nat)} {pos pos' : Pos} {wi : TI} {g : TG} {tt : TT} {te : TE} {use : Option (Value → Sem Unit)} {Qf : Value → Shared → Prop} {W W' : WX}
    (hc : X.calm = true) (hs0 : X.stack = X.env :: X.outer) (hf : X.env.frame = some X.env.locals) (tk : Takes X W) (hW : ∀ cls d σ' H', W' cls d σ' H' → W cls d σ H') (hN : X.N.Nodup) (I : Inv X pins σ H s) (hi : PI X tg iter wi) (ok : BlkOk X.N X.env.scope scope own)
    (hg : ∀ (s : Shared) (H : Hp) (C : Addr) (cl : List (Str × Addr)) (fp : List Addr) (xe : Value → Shared → Prop), PG (blkE X s H scope (compEnvC scope cl C X.env) fp xe) tg g)
    (ht : ∀ (s : Shared) (H : Hp) (C : Addr) (cl : List (Str × Addr)) (fp : List Addr) (xe : Value → Shared → Prop), Takes (blkE X s H scope (compEnvC scope cl C X.env) fp xe) W' → PTs (blkE X s H scope (compEnvC scope cl C X.env) fp xe) ifs tt)
    (he : ∀ (s : Shared) (H : Hp) (C : Addr) (cl : List (Str × Addr)) (fp : List Addr) (xe : Value → Shared → Prop), Takes (blkE X s H scope (compEnvC scope cl C X.env) fp xe) W' → PE (blkE X s H scope (compEnvC scope cl C X.env) fp xe) elt te) (hs : ∀ x, foldedSetIterable iter X.env x = pure x)
    (h : tLc wi g tt te (own.map (·.2)) σ H Q)
    (hRR : ∀ D C s' m H', Inv X pins σ H' s' → Q (.ref D) H' → s'.heap.Ns C m → FpOk X pins H' C → compPost (model X.prog X.w) X.A X.xe use Qf (.ref D) C (.ok .next) s') :
    wpAny (model X.prog X.w) X.A (comprehension (.ListComp elt [⟨tg, iter, ifs, 0⟩] scope pos) scope X.env pos' (newList []) false (eval iter X.env) use) Qf X.xe s := by
  have hfree : ∀ y ∈ scope.names, y.2 = .free → ∃ c, X.env.cells.lookup y.1 = some c := fun y hy e => by
    rcases ok.free y hy e with k | k
    · exact I.ok.has _ (.inl k)
    · exact I.ok.has _ (.inr k)
  refine comprehension_freeE (use := use) rfl hs (closure_ok hfree) ok.kind (fun y hy e => by rw [ok.uniq y hy, e])
    (thn (hi.run pins s σ H _ I h) fun xv s1 hx => thn hx fun itv s2 h2 => ?_)
  obtain ⟨it, fp, tn, J, H2, e, I2, T, st2, f2, q⟩ := h2
  subst e
  refine wpAny_newObj_type (newEnv_comp ?_) (by show 0 ≤ sizeLine; decide)
  generalize hD : s2.heap.objs.size = D
  have hDn : H2 D = none := I2.hok.fresh (Nat.le_of_eq hD)
  obtain ⟨Wt, ⟨m0, w0⟩, turn⟩ := q D hDn
  generalize hs3 : ({ s2 with heap := s2.heap.push { cls := .type "list", data := .seq ([] : List Value).toArray } } : Shared) = s3
  have I3 : Inv X pins σ (upd H2 D (.lst [])) s3 := by
    rw [← hs3]
    refine I2.laid (t' := s2.toks) (fun b o e => Heap.get?_push_of_some _ e) (Nat.le_of_eq hD) ⟨Nat.zero_le _, [], 0, .nil, ?_⟩
    rw [← hD]
    exact Heap.get?_push_size _ rfl
  have h3 : s3.heap = s2.heap.push { cls := .type "list", data := .seq ([] : List Value).toArray } := by rw [← hs3]
  have sz : ∀ b ∈ fp, b < s2.heap.objs.size := fun b hb => by
    obtain ⟨o, e, _⟩ := T.obj _ _ st2 b hb
    exact Heap.lt_size e
  have f3 : ∀ b ∈ fp, FpOk X pins (upd H2 D (.lst [])) b ∧ b < s3.heap.objs.size := fun b hb => by
    have hlt := sz b hb
    refine ⟨⟨?_, (f2 b hb).2⟩, by rw [h3, Heap.size_push]; exact Nat.lt_succ_of_lt hlt⟩
    rw [upd_ne (by rw [← hD]; exact Nat.ne_of_lt hlt)]
    exact (f2 b hb).1
  have st3 : tn 0 s3.heap := T.keep _ _ _ st2 fun b _ o e => by rw [h3]; exact Heap.get?_push_of_some _ e
  have I4 := block_start I3 ok hN f3
  have tkB := takes_blk (X := X) (s0 := s3) (H0 := upd H2 D (.lst [])) (scope := scope) (ce := compEnvC scope (cellsFrom (s3.heap.objs.size + 1) scope.names (cloFrom X.env.cells scope.names [])) s3.heap.objs.size X.env) (fp := fp) (W := W')
  have pg := hg s3 (upd H2 D (.lst [])) s3.heap.objs.size (cellsFrom (s3.heap.objs.size + 1) scope.names (cloFrom X.env.cells scope.names [])) fp (XE (X.blk s3 (upd H2 D (.lst [])) scope (compEnvC scope (cellsFrom (s3.heap.objs.size + 1) scope.names (cloFrom X.env.cells scope.names [])) s3.heap.objs.size X.env) fp) W')
  have pt := ht s3 (upd H2 D (.lst [])) s3.heap.objs.size (cellsFrom (s3.heap.objs.size + 1) scope.names (cloFrom X.env.cells scope.names [])) fp _ tkB
  have pe := he s3 (upd H2 D (.lst [])) s3.heap.objs.size (cellsFrom (s3.heap.objs.size + 1) scope.names (cloFrom X.env.cells scope.names [])) fp _ tkB
  clear tkB
  show codeAny _ _ (.compStart (.ListComp elt [⟨tg, iter, ifs, 0⟩] scope pos) 0 (.ref it) (.ref D) (compEnvC scope (cellsFrom (s3.heap.objs.size + 1) scope.names (cloFrom X.env.cells scope.names [])) s3.heap.objs.size X.env)) (compPostE (model X.prog X.w) X.A X.xe use Qf (.ref D) (compEnvC scope (cellsFrom (s3.heap.objs.size + 1) scope.names (cloFrom X.env.cells scope.names [])) s3.heap.objs.size X.env)) { s3 with heap := pushCells (s3.heap.push { cls := .type "dict", data := .dict #[] }) scope.names }
  have nfp : ∀ b ∈ fp, (upd H2 D (.lst [])) b = none := fun b hb => (f3 b hb).1.1
  have cL : (compEnvC scope (cellsFrom (s3.heap.objs.size + 1) scope.names (cloFrom X.env.cells scope.names [])) s3.heap.objs.size X.env).locals = s3.heap.objs.size := rfl
  have cF : (compEnvC scope (cellsFrom (s3.heap.objs.size + 1) scope.names (cloFrom X.env.cells scope.names [])) s3.heap.objs.size X.env).frame = X.env.frame := rfl
  generalize hce : compEnvC scope (cellsFrom (s3.heap.objs.size + 1) scope.names (cloFrom X.env.cells scope.names [])) s3.heap.objs.size X.env = ce at I4 pg pt pe cL cF ⊢
  generalize hH3 : upd H2 D (.lst []) = H3 at I3 I4 pg pt pe w0 nfp f3
  generalize hs4 : ({ s3 with heap := pushCells (s3.heap.push { cls := .type "dict", data := .dict #[] }) scope.names } : Shared) = s4 at I4 ⊢
  have st4 : tn 0 s4.heap := T.keep _ _ _ st3 fun b _ o e => by rw [← hs4]; exact pushCells_keeps _ _ _ _ (Heap.get?_push_of_some _ e)
  have err : ∀ u s', XE (X.blk s3 H3 scope ce fp) W' u s' → notedBy (model X.prog X.w) X.A ce (fun e s' => compPostE (model X.prog X.w) X.A X.xe use Qf (.ref D) ce (.error e) s') u s' := fun u s' x => blk_error I3 hs0 hf tk hW cL cF f3 x
  have mo : ∀ {α : Type} {t : Sem α} {Q1 Q2 : α → Shared → Prop} {s : Shared}, wpAny (model X.prog X.w) X.A t Q1 (XE (X.blk s3 H3 scope ce fp) W') s → (∀ a s, Q1 a s → Q2 a s) → wpAny (model X.prog X.w) X.A t Q2 (notedBy (model X.prog X.w) X.A ce (fun e s' => compPostE (model X.prog X.w) X.A X.xe use Qf (.ref D) ce (.error e) s')) s := fun a b => wpAny_mono a b err
  have stat : ∀ {σ' : St} {H' : Hp} {s' : Shared}, Inv (X.blk s3 H3 scope ce fp) [] σ' H' s' → (∀ b ∈ fp, H' b = none) → ∀ b ∈ fp, FpOk (X.blk s3 H3 scope ce fp) [] H' b := fun {σ' H' s'} I' hn b hb =>
    ⟨hn b hb, (I'.ok.exf b hb).1, I'.ok.exfs b hb, .inl hb, fun x c e => (I'.ok.exf b hb).2 x c e, fun p hp => absurd (show p ∈ ([] : List (Addr × Obj)) ++ [] from hp) (by simp)⟩
  have loop : codeAny (model X.prog X.w) X.A (.compLoop (.ListComp elt [⟨tg, iter, ifs, 0⟩] scope pos) 0 (.ref it) (.ref D) ce) (compPostE (model X.prog X.w) X.A X.xe use Qf (.ref D) ce) s4 := by
    refine compLoop_any (fun n s' => ∃ i H', Inv (X.blk s3 H3 scope ce fp) [] (wipe σ (own.map (·.2))) H' s' ∧ tn i s'.heap ∧ (∀ b ∈ fp, H' b = none) ∧ Wt i n H') ?_ m0 ⟨0, H3, I4, st4, nfp, w0⟩
    rintro n s5 ⟨i, H5, I5, st5, n5, w5⟩
    rcases turn i n H5 w5 with ⟨stop, qq⟩ | ⟨go, Nx, hNx, step⟩
    · have td := T.done (X.blk s3 H3 scope ce fp) rfl rfl rfl hc i [] s5 _ H5 (fun _ _ => False) I5 (stat I5 n5) st5 stop
      refine thnF td fun r s6 ⟨hr, I6⟩ => ?_
      subst hr
      have I7 : Inv X pins σ H5 s6 := I3.call' (ch := fp) I6.os I6.base I6.hok I6.bare fun b hb => ⟨(f3 b hb).1.2.2.2.1, (f3 b hb).1.2.1, (f3 b hb).1.2.2.2.2.1, (f3 b hb).1.2.2.2.2.2⟩
      have nC : H5 s3.heap.objs.size = none := by
        have z : H5 ce.locals = none := I6.free
        rw [cL] at z
        exact z
      obtain ⟨m, hn, _⟩ := I6.loc
      have hn : s6.heap.Ns ce.locals m := hn
      rw [cL] at hn
      show compPost _ _ _ _ _ _ ce.locals _ _
      rw [cL]
      exact hRR D s3.heap.objs.size s6 m H5 I7 qq hn (I3.fpOk (Nat.le_refl _) nC)
    · have ti := T.item (X.blk s3 H3 scope ce fp) rfl rfl rfl hc i [] s5 _ H5 (fun _ _ => False) I5 (stat I5 n5) st5 go
      refine thnF ti fun r s6 ⟨u, hr, h6⟩ => ?_
      subst hr
      refine thnF h6 fun _ s7 ⟨x, H7, I7, r7, y7, st7, n7⟩ => ?_
      have I7' := toE (xe := XE (X.blk s3 H3 scope ce fp) W') (I7.pinned (stat I7 n7) (T.obj _ _ st7))
      refine mo (pg.run _ s7 _ H7 x u _ I7' r7 (step x H7 y7)) fun _ s8 ⟨σ8, H8, I8, hw8, q8⟩ => ?_
      refine mo (pt.run _ s8 σ8 H8 _ I8 q8) fun b s9 ⟨H9, I9, q9⟩ => ?_
      have fin : ∀ {s' : Shared} {H' : Hp}, Inv (X.blk s3 H3 scope ce fp) ([] ++ pinsAt fp s7.heap) σ8 H' s' → Nx H' → ∃ m, m < n ∧ ∃ i H', Inv (X.blk s3 H3 scope ce fp) [] (wipe σ (own.map (·.2))) H' s' ∧ tn i s'.heap ∧ (∀ b ∈ fp, H' b = none) ∧ Wt i m H' := fun {s' H'} I' nx => by
        obtain ⟨m', hm, w'⟩ := hNx H' nx
        have pin' : ∀ b ∈ fp, ∀ o, s7.heap.get? b = some o → s'.heap.get? b = some o ∧ H' b = none := fun b hb o e =>
          let z := I'.pin (b, o) (List.mem_append_right _ (List.mem_append_right _ (mem_pinsAt hb e)))
          ⟨z.1, z.2.1⟩
        have hl : (wipe σ (own.map (·.2))).length = σ8.length := by rw [← hw8, wipe_length]
        refine ⟨m', hm, i + 1, H', (I'.unpinned (pins := [])).weak hl (fun j v e => ?_), T.keep _ _ _ st7 fun b hb o e => (pin' b hb o e).1, fun b hb => ?_, w'⟩
        · rw [← hw8] at e
          exact (wipe_some e).1
        · obtain ⟨o, e, _⟩ := T.obj _ _ st7 b hb
          exact (pin' b hb o e).2
      cases b with
      | false =>
        simp only [Bool.false_eq_true, if_false] at q9 ⊢
        exact fin (ofE I9) q9
      | true =>
        simp only [if_true] at q9 ⊢
        refine mo (pe.run _ s9 σ8 H9 _ I9 q9) fun z s10 ⟨yv, H10, I10, r10, acc, hD10, hz10, nx⟩ => ?_
        exact app_ok (X := X.blk s3 H3 scope ce fp) (ofE I10) hD10 hz10 r10 fun s11 I11 => fin I11 nx
  exact codeAny_compStart_list loop (T.self X.A 0 _ _ _ st4 loop)
end DLX

set_option maxHeartbeats 4000000
namespace DL
open PySem PySem.Spec L2
/-! a comprehension whose items may raise, in data -/
def dCLE (g : D → Sl → Sl) (tt : DT) (te : DE) (kp : Mp → Prop) (p : Addr) (τ : Sl) (F : Mp → Prop) (E : EK) : List D → Mp → Prop
  | [], M => kp M ∧ F M
  | d :: ds, M => kp M ∧ tt (g d τ) M (fun b M1 => if b = true then te (g d τ) M1 (fun y M2 => match M2 p with
      | some (.lst acc) => acc.length < sizeLine ∧ dCLE g tt te kp p τ F E ds (put M2 p (.lst (acc ++ [y])))
      | _ => False) E else dCLE g tt te kp p τ F E ds M1) E
def dLcE (ti : DI) (g : D → Sl → Sl) (tt : DT) (te : DE) (vs : List Nat) : DE := fun τ M Q E => ti τ M (fun its kp M1 => ∀ p, M1 p = none → dCLE g tt te kp p (wipeD τ vs) (fun M2 => Q (.ref p) M2) E its (put M1 p (.lst []))) E
/-- what is wanted of an exception in the block: the slots are the def's at the start -/
def WB (W : DW) (H : Hp) (τ : Sl) : DW := ⟨H, fun x _ M' => W.w x τ M'⟩
theorem lc_readE {K : PySem.W.Frag} {W : DW} {ti : DI} {tt : DT} {te : DE} {i : Nat} {vs : List Nat} (hi : i ∈ vs) {σ : St} {H : Hp} {Q : VK} {τ : Sl} {M : Mp} {Qd : DK} {Ed : EK} (hs : RS K W.h0 H σ τ) (hr : HR K H M) (q : dLcE ti (fun d τ => τ.set i (some d)) tt te vs τ M Qd Ed) (we : ∀ x M', Ed x M' → W.w x τ M') (k : KC K H Qd Q) :
    tLc (liftI K W ti) (gName i) (liftT K (WB W H τ) tt) (liftE K (WB W H τ) te) vs σ H Q := by
  refine ⟨τ, M, _, Ed, hs, hr, q, we, fun its kp J M1 H1 q1 e1 h1 ok D hD => ?_⟩
  have q2 := q1 D (h1.free hD)
  have e2 : TExt K H1 (upd H1 D (.lst [])) := .new hD
  refine ⟨fun i m H' => m = its.length - i ∧ i ≤ its.length ∧ TExt K (upd H1 D (.lst [])) H' ∧ ∃ M', HR K H' M' ∧ dCLE (fun d τ => τ.set _ (some d)) tt te kp D (wipeD τ vs) (fun M2 => Qd (.ref D) M2) Ed (its.drop i) M', ⟨_, rfl, Nat.zero_le _, .refl, _, h1.made (o := .lst []) (noTup_none hD) ⟨[], upd_same, .nil⟩, by simpa using q2⟩, ?_⟩
  rintro j m H2 ⟨rfl, hj, e3, M2, hr2, q3⟩
  by_cases hlt : j < its.length
  · rw [List.drop_eq_getElem_cons hlt] at q3
    obtain ⟨hk, q3⟩ := q3
    refine .inr ⟨ok.go j H2 M2 (e2.trans e3) hr2 hk hlt, fun H' => TExt K (upd H1 D (.lst [])) H' ∧ ∃ M', HR K H' M' ∧ dCLE (fun d τ => τ.set _ (some d)) tt te kp D (wipeD τ vs) (fun M2 => Qd (.ref D) M2) Ed (its.drop (j + 1)) M', fun H' h => ⟨its.length - (j + 1), by omega, rfl, hlt, h.1, h.2⟩, fun x H3 y => ?_⟩
    obtain ⟨e4, k4, r4⟩ := ok.yld j H2 M2 x H3 (e2.trans e3) hr2 hk y
    have rx := r4 its[j] (by simp [hlt])
    have eH := e1.trans (e2.trans (e3.trans e4))
    have hs3 : RS K (WB W H τ).h0 H3 ((wipe σ vs).set i (some x)) ((wipeD τ vs).set i (some its[j])) := ((hs.mono eH).wipe vs eH).set rx
    refine ⟨wipe_set hi, _, M2, _, _, hs3, k4 _ hr2, q3, we, fun b M4 H4 q4 e5 h4 => ?_⟩
    cases b with
    | false => exact ⟨e3.trans (e4.trans e5), M4, h4, by simpa using q4⟩
    | true =>
      simp only [if_true] at q4 ⊢
      refine ⟨_, M4, _, _, hs3.mono e5, h4, q4, we, fun y M5 v H5 q5 e6 r5 h5 => ?_⟩
      dsimp only at q5
      split at q5
      · rename_i acc ea
        obtain ⟨us, hu, l⟩ := h5.lst ea
        have e7 : TExt K H5 (upd H5 D (.lst (us ++ [v]))) := .upd (noTup_lst hu)
        refine ⟨us, hu, by rw [l.length]; exact q5.1, e3.trans (e4.trans (e5.trans (e6.trans e7))), _, h5.made (o := .lst (acc ++ [y])) (noTup_lst hu) ⟨_, upd_same, (l.append (.cons r5 .nil)).mono e7⟩, q5.2⟩
      · exact q5.elim
  · have ei : j = its.length := by omega
    subst ei
    rw [List.drop_length] at q3
    exact .inl ⟨ok.stop _ H2 M2 (e2.trans e3) hr2 q3.1 (Nat.le_refl _), k _ M2 _ H2 q3.2 (e1.trans (e2.trans e3)) (.ref D) hr2⟩
theorem wb_out {K : PySem.W.Frag} {W : DW} {H : Hp} {σ : St} {τ : Sl} (hs : RS K W.h0 H σ τ) : ∀ cls d σ' H', liftW K (WB W H τ) cls d σ' H' → liftW K W cls d σ H' := fun cls d σ' H' ⟨x, τ', M, h1, h2, h3, h4⟩ => ⟨x, τ, M, hs.mono h1.ext, h2, h3, h4⟩
section
variable {X : Cx} {W : DW} {elt iter tg : Expr} {ifs : List Expr} {scope : Scope} {own : List (Str × Nat)} {pos : Pos} {ti : DI} {tt : DT} {te : DE} {i : Nat}
theorem pd_lcE (hc : X.calm = true) (hs0 : X.stack = X.env :: X.outer) (hf : X.env.frame = some X.env.locals) (tk : Takes X (liftW X.K W)) (hN : X.N.Nodup) (hi : PID X W tg iter ti) (ok : BlkOk X.N X.env.scope scope own) (hv : i ∈ own.map (·.2))
    (hg : ∀ (s : Shared) (H : Hp) (C : Addr) (cl : List (Str × Addr)) (fp : List Addr) (xe : Value → Shared → Prop), PG (DLX.blkE X s H scope (compEnvC scope cl C X.env) fp xe) tg (gName i))
    (ht : ∀ (s : Shared) (H : Hp) (C : Addr) (cl : List (Str × Addr)) (fp : List Addr) (xe : Value → Shared → Prop) (W' : DW), Takes (DLX.blkE X s H scope (compEnvC scope cl C X.env) fp xe) (liftW X.K W') → PTsD (DLX.blkE X s H scope (compEnvC scope cl C X.env) fp xe) W' ifs tt)
    (he : ∀ (s : Shared) (H : Hp) (C : Addr) (cl : List (Str × Addr)) (fp : List Addr) (xe : Value → Shared → Prop) (W' : DW), Takes (DLX.blkE X s H scope (compEnvC scope cl C X.env) fp xe) (liftW X.K W') → PD (DLX.blkE X s H scope (compEnvC scope cl C X.env) fp xe) W' elt te) (hs : ∀ x, foldedSetIterable iter X.env x = pure x := by intro _; rfl) :
    PD X W (.ListComp elt [⟨tg, iter, ifs, 0⟩] scope pos) (dLcE ti (fun d τ => τ.set i (some d)) tt te (own.map (·.2))) := by
  refine ⟨⟨fun pins s σ H Q I h => ?_⟩⟩
  obtain ⟨τ, M, Qd, Ed, hrs, hr, q, we, k⟩ := h
  rw [eval_ListComp]
  refine DLX.lc_coreE hc hs0 hf tk (wb_out hrs) hN I hi.run ok hg (fun s H' C cl fp xe t => (ht s H' C cl fp xe _ t).run) (fun s H' C cl fp xe t => (he s H' C cl fp xe _ t).run) hs (lc_readE hv hrs hr q we k) fun D C s' m H' I' q hn f => ⟨m, hn, fun h'' sb => ?_⟩
  obtain ⟨f0, f1, f2, f3, f4, f5⟩ := f
  exact ⟨.ref D, H', I'.turned (t' := s'.toks) (fun b o hb e => (sb.2 b hb).trans e) f0 f1 f3 f4 f5, rfl, q⟩
theorem psd_setLcE {j : Nat} {y : Str} {py spos : Pos} (hc : X.calm = true) (hs0 : X.stack = X.env :: X.outer) (hf : X.env.frame = some X.env.locals) (tk : Takes X (liftW X.K W)) (hN : X.N.Nodup) (hy : X.N[j]? = some y) (hyl : X.env.scope.names.lookup y = some .local)
    (hsw : swapsWith (.ListComp elt [⟨tg, iter, ifs, 0⟩] scope pos) (some (.Name y py)) spos.line X.env = pure true) (hi : PID X W tg iter ti) (ok : BlkOk X.N X.env.scope scope own) (hv : i ∈ own.map (·.2))
    (hg : ∀ (s : Shared) (H : Hp) (C : Addr) (cl : List (Str × Addr)) (fp : List Addr) (xe : Value → Shared → Prop), PG (DLX.blkE X s H scope (compEnvC scope cl C X.env) fp xe) tg (gName i))
    (ht : ∀ (s : Shared) (H : Hp) (C : Addr) (cl : List (Str × Addr)) (fp : List Addr) (xe : Value → Shared → Prop) (W' : DW), Takes (DLX.blkE X s H scope (compEnvC scope cl C X.env) fp xe) (liftW X.K W') → PTsD (DLX.blkE X s H scope (compEnvC scope cl C X.env) fp xe) W' ifs tt)
    (he : ∀ (s : Shared) (H : Hp) (C : Addr) (cl : List (Str × Addr)) (fp : List Addr) (xe : Value → Shared → Prop) (W' : DW), Takes (DLX.blkE X s H scope (compEnvC scope cl C X.env) fp xe) (liftW X.K W') → PD (DLX.blkE X s H scope (compEnvC scope cl C X.env) fp xe) W' elt te) (hs : ∀ x, foldedSetIterable iter X.env x = pure x := by intro _; rfl) :
    PSD X W (.Assign [.Name y py] (.ListComp elt [⟨tg, iter, ifs, 0⟩] scope pos) spos) (dAsg (dLcE ti (fun d τ => τ.set i (some d)) tt te (own.map (·.2))) (dName j)) := by
  refine ⟨⟨fun pins s σ H D I h => ?_⟩⟩
  obtain ⟨τ, M, Dd, hrs, hr, q, we, nc⟩ := h
  rw [exec_Assign_Name_used _ _ _ _ hsw]
  refine wpAny_bind (wpAny_standAt (wpAny_bind ?_))
  show wpAny _ X.A (do let _ ← comprehension (.ListComp elt [⟨tg, iter, ifs, 0⟩] scope pos) scope X.env (firstIterPos [⟨tg, iter, ifs, 0⟩] pos) (newList []) false (eval iter X.env) (some (assign (.Name y py) X.env))) _ _ s
  have k : KC X.K H (fun d M1 => dName j d τ M1 Dd.nx) (fun x H1 => gName j x σ H1 D.nx) := fun d M1 v H1 q1 e1 r1 h1 => nc.nx _ M1 _ H1 q1 e1 ((hrs.mono e1).set r1) h1
  refine wpAny_bind (thn (DLX.lc_coreE (Qf := fun _ s' => SP X pins D .next s') hc hs0 hf tk (wb_out hrs) hN I hi.run ok hg (fun s H' C cl fp xe t => (ht s H' C cl fp xe _ t).run) (fun s H' C cl fp xe t => (he s H' C cl fp xe _ t).run) hs (lc_readE hv hrs hr q (fun x M' h => we x τ M' h) k) fun L C s' m H' I' q hn f => ?_) fun _ s' hq => wpAny_pure (wpAny_pure hq))
  show wpAny _ _ (assign (.Name y py) X.env (.ref L)) _ _ _
  refine wpAny_assign_Name (store_ok2 (v := V.ref L) I' hN hy (.inl hyl) rfl (fun s2 I2 ⟨a, sb, ha⟩ => ?_) (.inr hyl))
  obtain ⟨f0, f1, f2, f3, f4, f5⟩ := f
  have haC : C ≠ a := by
    rcases ha with z | z
    · rw [z]; exact f1
    · exact fun e => f4 y a z e.symm
  refine ⟨m, hn.sameBut sb haC, fun h3 sb3 => ?_⟩
  exact ⟨_, H', I2.turned (t' := s2.toks) (fun b o hb e => (sb3.2 b hb).trans e) f0 f1 f3 f4 f5, q⟩
end
/-- by an invariant -/
theorem dCLE_inv {g : D → Sl → Sl} {tt : DT} {te : DE} {kp : Mp → Prop} {p : Addr} {τ : Sl} {F : Mp → Prop} {E : EK} {its : List D} (I : Nat → Mp → Prop) (hk : ∀ i M, i ≤ its.length → I i M → kp M)
    (hs : ∀ (i : Nat) (d : D) (M : Mp) (nxt : Mp → Prop), its[i]? = some d → I i M → (∀ M', I (i + 1) M' → nxt M') → tt (g d τ) M (fun b M1 => if b = true then te (g d τ) M1 (fun y M2 => match M2 p with
      | some (.lst acc) => acc.length < sizeLine ∧ nxt (put M2 p (.lst (acc ++ [y])))
      | _ => False) E else nxt M1) E)
    (hd : ∀ M, I its.length M → F M) {M : Mp} (h0 : I 0 M) : dCLE g tt te kp p τ F E its M := by
  have go : ∀ (n i : Nat), its.length - i = n → i ≤ its.length → ∀ M, I i M → dCLE g tt te kp p τ F E (its.drop i) M := by
    intro n
    induction n with
    | zero =>
      intro i h1 h2 M hI
      have : i = its.length := by omega
      subst this
      rw [List.drop_length]
      exact ⟨hk _ M (Nat.le_refl _) hI, hd M hI⟩
    | succ n ih =>
      intro i h1 h2 M hI
      have hlt : i < its.length := by omega
      rw [List.drop_eq_getElem_cons hlt]
      exact ⟨hk i M h2 hI, hs i _ M _ (List.getElem?_eq_getElem hlt) hI fun M' h => ih (i + 1) (by omega) hlt M' h⟩
  have := go its.length 0 (by omega) (Nat.zero_le _) M h0
  rwa [List.drop_zero] at this
end DL

set_option maxHeartbeats 4000000
namespace DL
open PySem PySem.Spec L2
/-! C.m(..) where m is a staticmethod -/
structure StaD (P : Program) (w : World) (K : PySem.W.Frag) (mg : Str → Option Value) (base : Heap) (k : Nat) (C : Addr) (m : Str) (ps : List Str) (dds : List D) (sp : DSp) : Prop where
  ex : ∃ (f : Addr) (fd : FuncData) (dvs : List V) (ds : List Value) (mc : Value) (p : Addr) (rest : List Value), FnOk P w K mg base (L2.CX P w) k f fd ps (liftSp K sp) ∧ ClX.CRead K C mc ∧ PySem.W.findCls K (.ref C) mc m = some (.get (.builtin "staticmethod.__get__") (.ref p) .none (.ref C)) ∧
    PySem.W.recIn K p "staticmethod" = some (.ref f :: rest) ∧ PySem.W.keepIn K (.ref f) = true ∧ Binds K fd ps ds ∧ Vals dvs ds ∧ ∀ H, RpL K H dvs dds
def dStat (C : Addr) (sp : DSp) (dds : List D) (to : DE) (t : DA) : DE := fun τ M Q E => to τ M (fun o M1 => o = .ref C ∧ t τ M1 (fun ds M2 => sp (ds ++ dds) M2 Q E) E) E
section
variable {X : Cx} {W : DW} {k : Nat} {C : Addr} {m : Str} {ps : List Str} {dds : List D} {sp : DSp} {o e : Expr} {es : List Expr} {pos apos : Pos} {to : DE} {t : DA}
theorem pe_stat {f p : Addr} {fd : FuncData} {dvs : List V} {ds0 rest : List Value} {mc : Value} {sp' : Sp} {E : St → XK} {ta : TE} {tt : TA} {pl : Sem Bool} (ho : PE X o ta) (F : FnOk X.prog X.w X.K X.mg X.base (L2.CX X.prog X.w) k f fd ps sp') (r : ClX.CRead X.K C mc) (at_ : PySem.W.findCls X.K (.ref C) mc m = some (.get (.builtin "staticmethod.__get__") (.ref p) .none (.ref C)))
    (hp : PySem.W.recIn X.K p "staticmethod" = some (.ref f :: rest)) (kp : PySem.W.keepIn X.K (.ref f) = true) (hr : Room k X.A) (hb : Binds X.K fd ps ds0) (hd : Vals dvs ds0) (hx : ∀ σ, PassesAt (L2.CX X.prog X.w) X σ (E σ)) (ha : PA X (e :: es) tt)
    (hst : starEach (e :: es) X.env = (false, eval e X.env) :: starEach es X.env) (hpl : (backTo pos (starEach es X.env)).any (·.1) = false)
    (ht : eval (.Call (.Attribute o m apos) (e :: es) [] pos) X.env = (do
      let ov ← eval o X.env
      standAt apos.atName
      let (f, first) ← holding [ov] (getMethod ov m pl)
      callWith pos f first (backTo pos (starEach (e :: es) X.env)) (backToKw pos (keywordEach [] X.env)))) :
    PE X (.Call (.Attribute o m apos) (e :: es) [] pos) (fun σ H Q => ta σ H fun x H1 => x = .ref C ∧ tt σ H1 fun vs H2 => sp' (vs ++ dvs) H2 Q (E σ)) := by
  refine ⟨fun pins s σ H Q I h => ?_⟩
  refine PySem.W.methodCall_KW (pl := pl) (thn (ho.run pins s σ H _ I h) fun u s1 ⟨x, H1, I1, rx, ex, q⟩ => ?_) ht
  subst ex
  obtain rfl : u = Value.ref C := rx
  refine PySem.W.method_cls I1.kIn r.ga ?_
  refine PySem.W.cls_bind I1.kIn r.rd at_ ?_
  refine wpAny_call (PySem.W.sm_get (s := { s1 with toks := s1.toks + 1 }) I1.kIn hp (PySem.W.handed_on rfl ?_))
  have I2 := I1.tok (s1.toks + 1)
  refine PySem.W.callWith_K (first := []) (h₀ := X.base) I.ok.mod.kin kp (thn (ha.run pos pins _ σ H1 _ I2 q) fun us s3 ⟨vs, H2, I3, rv, q2⟩ => ⟨I3.kIn, ?_⟩) hst hpl
  exact run_fnSD (us := us) (vs := vs) F hr hb hd (hx σ) I3 rv q2
theorem pd_stat {pl : Sem Bool} (F : StaD X.prog X.w X.K X.mg X.base k C m ps dds sp) (hr : Room k X.A) (tk : Takes X (liftW X.K W)) (ho : PD X W o to) (ha : PAD X W (e :: es) t)
    (hst : starEach (e :: es) X.env = (false, eval e X.env) :: starEach es X.env := by rfl) (hpl : (backTo pos (starEach es X.env)).any (·.1) = false := by rfl)
    (ht : eval (.Call (.Attribute o m apos) (e :: es) [] pos) X.env = (do
      let ov ← eval o X.env
      standAt apos.atName
      let (f, first) ← holding [ov] (getMethod ov m pl)
      callWith pos f first (backTo pos (starEach (e :: es) X.env)) (backToKw pos (keywordEach [] X.env))) := by rfl) : PD X W (.Call (.Attribute o m apos) (e :: es) [] pos) (dStat C sp dds to t) := by
  obtain ⟨f, fd, dvs, ds0, mc, p, rest, F, r, at_, hp, kp, hb, hd, hdd⟩ := F.ex
  refine ⟨PEimp (pe_stat (E := WE (liftW X.K W)) ho.run F r at_ hp kp hr hb hd (fun σ => passAt tk σ) ha.run hst hpl ht) fun σ H Q ⟨τ, M, Qd, Ed, hs, hr, q, we, k⟩ => ⟨τ, M, _, Ed, hs, hr, q, we, fun d M1 v H1 q1 e1 r1 h1 => ?_⟩⟩
  obtain ⟨rfl, q1⟩ := q1
  refine ⟨r1.toRef, τ, M1, _, Ed, hs.mono e1, h1, q1, we, fun ds M2 us H2 q2 e2 r2 h2 => ?_⟩
  exact spIn (dvs := dvs) (hs.mono (e1.trans e2)) q2 (r2.append (hdd H2)) h2 we (k.mono (e1.trans e2))
end
end DL

set_option maxHeartbeats 4000000
namespace DL
open PySem PySem.Spec L2
section
variable {X : Cx}
/-- int(text) -/
def intTG : DG := fun ds M Q => match ds with
  | [.str z] => ∃ i : Int, PySem.intText? z = some i ∧ z.length ≤ 640 ∧ Q (.int i) M
  | _ => False
theorem call_intTG : CallR X (.type "int") (liftC X.K intTG) := CallRimp call_int_str fun xs H Q ⟨ds, M, Qd, q, r, hr, k⟩ => by
  unfold intTG at q
  split at q
  · obtain ⟨i, h1, h2, q⟩ := q
    obtain ⟨v, rfl, rv⟩ := r.one
    rw [rv.toStr]
    exact ⟨_, i, rfl, h1, h2, k _ M _ H q .refl (.int _) hr⟩
  · exact q.elim
/-- str(a number or a text) -/
def strTG : DG := fun ds M Q => match ds with
  | [.int i] => i.natAbs.log2 < 1920 ∧ Q (.str (toString i)) M
  | [.str z] => Q (.str z) M
  | _ => False
theorem call_strTG : CallR X (.type "str") (liftC X.K strTG) := CallRimp (CallR.or call_str_int SkE.call_str_str) fun xs H Q ⟨ds, M, Qd, q, r, hr, k⟩ => by
  unfold strTG at q
  split at q
  · obtain ⟨v, rfl, rv⟩ := r.one
    rw [rv.toInt]
    exact .inl ⟨_, rfl, q.1, k _ M _ H q.2 .refl (.str _) hr⟩
  · obtain ⟨v, rfl, rv⟩ := r.one
    rw [rv.toStr]
    exact .inr ⟨_, rfl, k _ M _ H q .refl (.str _) hr⟩
  · exact q.elim
end
end DL

set_option maxHeartbeats 4000000
/-! set(list of ints), sorted(set(..)) -/
namespace DLset
open PySem PySem.Spec PyProof.Rows L2
abbrev fset (w : World) : Obj := { cls := .type "set", dict := none, data := .set #[] 0 (.fresh 0 0 (!w.params.followText "set-order")) }
section
variable {P : Program} {w : World} {A : Around} {E : Value → Shared → Prop} {s : Shared}
set_option maxHeartbeats 6400000 in
theorem set_listI {l : Addr} {xs : Array Value} (ns : List Int) {Q : Value → Shared → Prop} (hh : A.handled = none) (hl : s.heap.IsList l xs) (hx : IntsAre xs.toList ns) (hb : ns.length + 1 < scanBound)
    (h : ∀ (h1 : Heap) (tk c : Nat), SetR w h1 s.heap.objs.size (fun j => decide (j ∈ ns)) c → c ≤ ns.length → (∀ b o, s.heap.get? b = some o → h1.get? b = some o) → Q (.ref s.heap.objs.size) { s with heap := h1, toks := tk }) :
    wpAny (model P w) A (call (.type "set") [.ref l]) Q E s := by
  have lx : xs.size = ns.length := by rw [← IntsAre.length hx, Array.length_toList]
  obtain ⟨c0, t0, mro0⟩ := F.called_set.mro
  have made0 := F.called_set.made; have sub0 := F.called_set.sub
  refine wpAny_call (codeAny_of_tree (show wpAny _ _ (callAny (.type "set") _) _ _ _ from ?_))
  refine wpAny_pure ⟨Code.quiet_builtin _ (by decide +kernel), codeAny_builtin F.entry_type_call ?_⟩
  rw [Around.under_plain (weight_type_call_type "set" [.ref l] []) rfl]
  have n1 := F.called_set.notType; have n2 := F.called_set.canCreate
  have n3 := F.typeCall_set_1 (.ref l)
  repeat (any_goals (first | assumption | wp_step))
  refine codeAny_mono (code_set_led1 (.ref l) (E := E) (Q₁ := fun ob z => ob = .ref s.heap.objs.size ∧ z = { s with heap := s.heap.push (fset w) }) ⟨rfl, rfl⟩) fun r z hr => ?_
  cases r with
  | error e => exact hr
  | ok fl =>
    cases fl with
    | ret ob =>
      obtain ⟨rfl, rfl⟩ := hr
      have gS : (s.heap.push (fset w)).get? s.heap.objs.size = some (fset w) := Heap.get?_push_size _ rfl
      have gT : Shared.TypeIs { s with heap := s.heap.push (fset w) } (.ref s.heap.objs.size) "set" := ⟨_, gS, rfl⟩
      have n4 := F.called_set.init.lookup
      have n5 := F.called_set.init.bind (.ref s.heap.objs.size)
      repeat (any_goals (first | assumption | wp_step))
      refine codeAny_mono (codeAny_call_builtin (R := wants (fun r y => r = .none ∧ ∃ h1 tk c, y = { s with heap := h1, toks := tk } ∧ SetR w h1 s.heap.objs.size (fun j => decide (j ∈ ns)) c ∧ c ≤ ns.length ∧
          (∀ b o, s.heap.get? b = some o → h1.get? b = some o)) E) F.called_set.init.plain F.entry_set_init (check_set_init_1 gT ?_)) fun r2 y hr2 => ?_
      · obtain ⟨ol, gl, cl, nl, dl⟩ := hl
        obtain ⟨oc, od, oa, os⟩ := ol
        simp only at cl dl
        subst cl; subst dl
        have gl' : (s.heap.push (fset w)).get? l = some { cls := .type "list", dict := od, data := .seq xs nl, slots := os } := Heap.get?_push_of_some _ gl
        have m1 := F.sub_list_set; have m2 := F.sub_list_frozenset
        have m3 : (Value.type "list" == Value.type "dict") = false := by decide
        have L1 : (s.heap.push (fset w)).IsList l xs := ⟨_, gl', rfl, nl, rfl⟩
        unfold Builtin.«set.__init__» noKeywords Builtin.Frozenset.updateFrom
        generalize hPI : pyIter = PI
        wp_walk
        subst hPI
        refine wpAny_pyIter_list L1 (wpAny_bind (wpAny_runValue ?_))
        have l0 : l < s.heap.objs.size := Heap.lt_size gl
        have A3 : A.in1.in1.in1.handled = none := by simp [hh]
        have nI : l ≠ (s.heap.push (fset w)).objs.size := Heap.size_push s.heap (fset w) ▸ Nat.ne_of_lt (Nat.lt_succ_of_lt l0)
        have nS : s.heap.objs.size ∉ [(s.heap.push (fset w)).objs.size, l] := fun z => by
          rw [Heap.size_push] at z
          rcases List.mem_cons.mp z with z | z
          · exact Nat.ne_of_lt (Nat.lt_succ_self _) z
          · exact Nat.ne_of_gt l0 (List.mem_singleton.mp z)
        have vals : ∀ (i : Nat) (v : Value), xs[i]? = some v → ∃ k t, ns[i]? = some k ∧ v = .int k t := fun i v hv => by
          have hi : i < ns.length := by rw [← lx]; exact (Array.getElem?_eq_some_iff.mp hv).1
          obtain ⟨t, e⟩ := IntsAre.int_at hx i v (by rw [Array.getElem?_toList]; exact hv)
          have e2 : ns[i]? = some ns[i] := List.getElem?_eq_getElem hi
          refine ⟨ns[i], t, e2, ?_⟩
          rw [e, List.getD_eq_getElem?_getD, e2]
          rfl
        refine set_update_ints ((Walks.list A3 _ l nI xs).toS) s.heap.objs.size nS ns lx hb vals (xs.size - 0) 0 _ (by omega) (Nat.zero_le _) ⟨⟨_, Heap.get?_push_size _ rfl, rfl, rfl⟩, L1.push _⟩ ?hS0 ?hR
        case hS0 => exact ⟨0, Nat.le_refl 0, setR_new_at (Heap.get?_push_of_some _ gS)⟩
        case hR =>
          intro z c hm hc hz
          obtain ⟨h1, g2, d2, tk, o2⟩ := z
          have q1 : g2 = s.gens := hm.gens
          have q2 : d2 = s.drawn := hm.drawn
          have q3 : o2 = s.os := hm.os
          subst q1; subst q2; subst q3
          show wpAny _ _ _ _ _ _
          refine wpAny_pure (show wpAny _ _ (ret Value.none) _ _ _ from ?_)
          rw [lx] at hc
          refine wpAny_pure ⟨rfl, h1, tk, c, rfl, hz, hc, fun b o e => ?_⟩
          have b0 : b < s.heap.objs.size := Heap.lt_size e
          refine hm.heap b o (fun z => ?_) (Heap.get?_push_of_some _ (Heap.get?_push_of_some _ e))
          rw [Heap.size_push] at z
          rcases List.mem_cons.mp z with z | z
          · exact Nat.ne_of_lt b0 z
          · exact Nat.ne_of_lt (Nat.lt_succ_of_lt b0) (List.mem_singleton.mp z)
      · cases r2 with
        | error e => exact hr2
        | ok fl2 =>
          cases fl2 with
          | ret r =>
            obtain ⟨rfl, h1, tk, c, rfl, hz, hc, hk⟩ := hr2
            repeat (any_goals (first | assumption | wp_step))
            exact h _ _ _ hz hc hk
          | _ => exact hr2.elim
    | _ => exact hr.elim
end
section
variable {X : Cx}
/-- set(xs) of ints, xs a list or a tuple -/
def rSetI (K : PySem.W.Frag) (w : World) : List V → Hp → VK → Prop := fun vs H Q => ∃ (a : Addr) (ns : List Int), vs = [V.ref a] ∧ (SqL K H a (ns.map V.int) ∨ SqT K H a (ns.map V.int)) ∧ ns.length ≤ 4000 ∧
  ∀ (p : Addr) (us : List Int), us.Nodup → (∀ k, k ∈ us ↔ k ∈ ns) → H p = none → Q (.ref p) (upd H p (SetO w p (fun j => decide (j ∈ ns)) us.length))
theorem cr_setI (hc : X.calm = true) : CallR X (.type "set") (rSetI X.K X.w) := by
  intro pins s σ H vs us Q I r ⟨a, ns, e, hs, hl, q⟩
  subst e
  rw [Vals.ref1 r]
  have hd := I.ok.hd hc
  have fin : ∀ (h1 : Heap) (tk c : Nat), SetR X.w h1 s.heap.objs.size (fun j => decide (j ∈ ns)) c → c ≤ ns.length → (∀ b o, s.heap.get? b = some o → h1.get? b = some o) → EP X pins σ Q (.ref s.heap.objs.size) { s with heap := h1, toks := tk } := fun h1 tk c R1 hcn kk => by
    have R2 := R1
    obtain ⟨o, es, ep, t, ho, _, _, _, nd, hm, _, _, hn, _⟩ := R2
    have hus := q s.heap.objs.size (es.toList.map keyOf) nd (fun k => by rw [← hm k, decide_eq_true_eq]) (I.hok.fresh (Nat.le_refl _))
    rw [List.length_map, Array.length_toList, hn] at hus
    exact ⟨.ref _, upd H s.heap.objs.size (SetO X.w s.heap.objs.size (fun j => decide (j ∈ ns)) c), I.laid (t' := tk) kk (Nat.le_refl _) (setO_new R1), rfl, hus⟩
  rcases hs with hs | hs
  · obtain ⟨its, rv, pl, hz⟩ := I.list hs
    exact set_listI ns hd pl.isList (by simpa using ints_of_vals rv) (by unfold scanBound; omega) fin
  · obtain ⟨its, rv, pl, hz⟩ := I.tuple hs
    exact call_set_tupI ns hd pl (by simpa using ints_of_vals rv) (by unfold scanBound; omega) fin
end
end DLset
namespace DLset
open PySem L2
theorem ext_tup (l : Addr) (xs : Array Value) (n : Nat) (b : Addr) (ys : Array Value) (m : Nat) (dd : Option Addr) (sl : Array (Option Value)) (g0 : ¬(!xs.isEmpty && Builtin.List.listTooLong (xs.size + ys.size)) = true) (g1 : xs.size ≤ sizeLine) (g2 : xs.size + ys.size ≤ sizeLine + 1) :
    Meets (Builtin.«list.extend» ⟨[.ref l, .ref b], []⟩) (fun _ R s => s.heap.get? l = some { cls := .type "list", dict := none, data := .seq xs n, slots := #[] } ∧ s.heap.get? b = some { cls := .type "tuple", dict := dd, data := .seq ys m, slots := sl } ∧
      R (.ok (.ret Value.none)) { s with heap := s.heap.update l (Obj.mapSeq fun x => x ++ ys), toks := s.toks }) :=
  .of_wp fun prog w A R s h => by
    obtain ⟨hp, g, d, tk, os⟩ := s
    obtain ⟨hl, hb, h⟩ := h
    have f1 := AutoSeq1.idx_int; have f2 := AutoSeq1.sub_tuple_tuple; have f3 := AutoSeq1.sub_list_list
    have f4 := AutoSeq1.sub_tuple_list; have f5 := AutoSeq1.sub_list_tuple
    have hz : (xs ++ ys).size ≤ sizeLine + 1 := by rw [Array.size_append]; exact g2
    wp_walk using (wpAny_updateSeq hl rfl (hz := g1) (_hz' := hz)), AutoSeq1.wpAny_loadPart' hl, AutoSeq1.wpAny_loadPart' hb
    exact ⟨_, rfl, h⟩
def rExtT (K : PySem.W.Frag) : V → List V → Hp → VK → Prop := fun x vs H Q => ∃ l b xs zs, x = .ref l ∧ vs = [.ref b] ∧ H l = some (.lst xs) ∧ SqT K H b zs ∧ xs.length + zs.length ≤ sizeLine ∧ Q .non (upd H l (.lst (xs ++ zs)))
theorem mt_extT {X : Cx} : MtM X "list.extend" (rExtT X.K) := by
  intro pins s σ H x vs v us Q I rx rv ⟨l, b, xs, zs, e1, e2, hH, hB, hz, q⟩
  subst e1; subst e2
  cases rx
  obtain ⟨u, rfl, ru⟩ := rv.one
  cases ru
  obtain ⟨z, its, n, r, hl, e⟩ := I.lstM hH
  obtain ⟨ys, r2, ⟨⟨cl, dd, da, sl⟩, eb, c2, m, d2⟩, z2⟩ := I.tuple hB
  simp only at c2 d2
  subst c2; subst d2
  have l2 := r2.length
  have hsz : its.toArray.size + ys.toArray.size ≤ sizeLine := by rw [List.size_toArray, List.size_toArray]; omega
  have long : ¬ (!its.toArray.isEmpty && Builtin.List.listTooLong (its.toArray.size + ys.toArray.size)) = true := by
    rw [notLongL hsz, Bool.and_false]
    exact Bool.false_ne_true
  refine call_meets F.slot_list_extend ⟨_, e, rfl⟩ F.entry_list_extend (F.args_list_extend_2 _ _) (ext_tup l its.toArray n b ys.toArray m dd sl long (by rw [List.size_toArray]; omega) (by omega)) ⟨e, eb, ?_⟩
  refine ⟨.non, _, I.lset (its' := its ++ ys) hH e (by simp) (r.append r2) ?_, rfl, q⟩
  rw [List.length_append]; omega
end DLset
namespace DL
open PySem PySem.Spec L2 DLset
/-- xs.extend(t), t a tuple -/
def extTM : DM := fun d ds M Q => match d, ds with
  | .ref a, [.tup ys] => match M a with
    | some (.lst xs) => xs.length + ys.length ≤ sizeLine ∧ Q .non (put M a (.lst (xs ++ ys)))
    | _ => False
  | _, _ => False
theorem mt_extTM {X : Cx} : MtR X "list.extend" (liftM X.K extTM) := MtRimp mt_extT fun x xs H Q ⟨d, ds, M, Qd, q, rx, rs, hr, k⟩ => by
  unfold extTM at q
  split at q
  · rename_i a ys
    obtain ⟨v, rfl, rv⟩ := rs.one
    split at q
    · rename_i xs e1
      obtain ⟨vs, hv, l⟩ := hr.lst e1
      obtain ⟨b, us, rfl, s, l2⟩ := rv.toTup
      exact ⟨a, b, vs, us, rx.toRef, rfl, hv, s, by rw [l.length, l2.length]; exact q.1, k.wrote hr hv (l.append l2) .non q.2⟩
    · exact q.elim
  · exact q.elim
/-! ### ints in ascending order, each once -/
def sins (x : Int) : List Int → List Int
  | [] => [x]
  | y :: ys => if x < y then x :: y :: ys else if x = y then y :: ys else y :: sins x ys
def sset : List Int → List Int
  | [] => []
  | x :: xs => sins x (sset xs)
theorem mem_sins {x z : Int} : ∀ {ys : List Int}, z ∈ sins x ys ↔ z = x ∨ z ∈ ys
  | [] => by simp [sins]
  | y :: ys => by
    unfold sins
    split
    · simp
    · split
      · rename_i h; subst h; simp
      · rw [List.mem_cons, mem_sins (ys := ys), List.mem_cons]
        constructor
        · rintro (h | h | h)
          · exact .inr (.inl h)
          · exact .inl h
          · exact .inr (.inr h)
        · rintro (h | h | h)
          · exact .inr (.inl h)
          · exact .inl h
          · exact .inr (.inr h)
theorem asc_sins {x : Int} : ∀ {ys : List Int}, ys.Pairwise (· < ·) → (sins x ys).Pairwise (· < ·)
  | [], _ => by simp [sins]
  | y :: ys, h => by
    obtain ⟨h1, h2⟩ := List.pairwise_cons.mp h
    unfold sins
    split
    · rename_i c
      refine List.pairwise_cons.mpr ⟨fun z hz => ?_, h⟩
      rcases List.mem_cons.mp hz with rfl | hz
      · exact c
      · have := h1 z hz; omega
    · split
      · exact h
      · refine List.pairwise_cons.mpr ⟨fun z hz => ?_, asc_sins h2⟩
        rcases mem_sins.mp hz with rfl | hz
        · omega
        · exact h1 z hz
theorem mem_sset {z : Int} : ∀ {xs : List Int}, z ∈ sset xs ↔ z ∈ xs
  | [] => by simp [sset]
  | x :: xs => by rw [sset, mem_sins, mem_sset (xs := xs), List.mem_cons]
theorem asc_sset : ∀ xs : List Int, (sset xs).Pairwise (· < ·)
  | [] => by simp [sset]
  | x :: xs => asc_sins (asc_sset xs)
theorem asc_unique : ∀ {xs ys : List Int}, xs.Pairwise (· < ·) → ys.Pairwise (· < ·) → (∀ k, k ∈ xs ↔ k ∈ ys) → xs = ys
  | [], [], _, _, _ => rfl
  | [], y :: ys, _, _, h => by have := (h y).mpr (by simp); simp at this
  | x :: xs, [], _, _, h => by have := (h x).mp (by simp); simp at this
  | x :: xs, y :: ys, h1, h2, h => by
    obtain ⟨a1, a2⟩ := List.pairwise_cons.mp h1
    obtain ⟨b1, b2⟩ := List.pairwise_cons.mp h2
    have e : x = y := by
      rcases List.mem_cons.mp ((h x).mp (by simp)) with e | e
      · exact e
      · rcases List.mem_cons.mp ((h y).mpr (by simp)) with e2 | e2
        · exact e2.symm
        · have := b1 x e; have := a1 y e2; omega
    subst e
    rw [asc_unique a2 b2 fun k => ?_]
    constructor
    · intro hk
      rcases List.mem_cons.mp ((h k).mp (List.mem_cons_of_mem _ hk)) with e | e
      · have := a1 k hk; omega
      · exact e
    · intro hk
      rcases List.mem_cons.mp ((h k).mpr (List.mem_cons_of_mem _ hk)) with e | e
      · have := b1 k hk; omega
      · exact e
theorem sset_of {xs ys : List Int} (h1 : ys.Pairwise (· < ·)) (h : ∀ k, k ∈ ys ↔ k ∈ xs) : sset xs = ys := asc_unique (asc_sset xs) h1 fun k => by rw [mem_sset, h]
theorem sset_asc {xs : List Int} (h : xs.Pairwise (· < ·)) : sset xs = xs := sset_of h fun _ => Iff.rfl
theorem sset_congr {xs ys : List Int} (h : ∀ k, k ∈ xs ↔ k ∈ ys) : sset xs = sset ys := sset_of (asc_sset ys) fun k => by rw [mem_sset, h]
theorem nodup_len {xs ys : List Int} (h1 : xs.Nodup) (h2 : ys.Nodup) (h : ∀ k, k ∈ xs ↔ k ∈ ys) : xs.length = ys.length :=
  Nat.le_antisymm (h1.length_le_of_subset fun k hk => (h k).mp hk) (h2.length_le_of_subset fun k hk => (h k).mpr hk)
theorem nodup_asc {xs : List Int} (h : xs.Pairwise (· < ·)) : xs.Nodup := h.imp fun {a b} c => by omega
/-- sorted(set(xs)) of ints, fewer than 64 of them -/
def dSortSet (te : DE) : DE := fun τ M Q E => te τ M (fun d M1 => ∃ (xs : List D) (ns : List Int), seqD d M1 = some xs ∧ xs = ns.map D.int ∧ ns.length ≤ 4000 ∧ (sset ns).length < 64 ∧ ∀ p, M1 p = none → Q (.ref p) (put M1 p (.lst ((sset ns).map D.int)))) E
theorem bt_set : bootBuiltins "set" = some (.type "set") := by decide +kernel
theorem pd_sortSet {X : Cx} {W : DW} {e : Expr} {te : DE} {p1 p2 c1 c2 : Pos} (hc : X.calm = true) (g1 : Gl X "sorted") (m1 : X.mg "sorted" = none) (g2 : Gl X "set") (m2 : X.mg "set" = none) (he : PD X W e te)
    (hs : starEach [e] X.env = (false, eval e X.env) :: starEach [] X.env := by rfl) (ht : starEach [.Call (.Name "set" p2) [e] [] c2] X.env = (false, eval (.Call (.Name "set" p2) [e] [] c2) X.env) :: starEach [] X.env := by rfl) :
    PD X W (.Call (.Name "sorted" p1) [.Call (.Name "set" p2) [e] [] c2] [] c1) (dSortSet te) := by
  have i1 := pe_callTy (pos := c2) (p := p2) (cr_setI hc) g2 m2 bt_set (pa_cons he.run pa_nil hs) (he := hs)
  have i2 := pe_callB (pos := c1) (p := p1) (cr_sortedSet hc) g1 m1 bt_sorted (pa_cons i1 pa_nil ht) (he := ht)
  refine ⟨PEimp i2 fun σ H Q ⟨τ, M, Qd, Ed, hs, hr, q, we, k⟩ => ⟨τ, M, _, Ed, hs, hr, q, we, fun d M1 v H1 q1 e1 r1 h1 => ?_⟩⟩
  obtain ⟨xs, ns, ei, rfl, hl, h64, q2⟩ := q1
  have hd : ∃ a, v = .ref a ∧ (SqL X.K H1 a (ns.map V.int) ∨ SqT X.K H1 a (ns.map V.int)) := by
    unfold seqD at ei
    split at ei
    · cases ei
      obtain ⟨a, vs, rfl, s, l⟩ := r1.toTup
      exact ⟨a, rfl, .inr (by rw [← l.ints]; exact s)⟩
    · obtain ⟨vs, s, l⟩ := seqOf_ok h1 ei
      exact ⟨_, r1.toRef, .inl (by rw [← l.ints]; exact s)⟩
    · cases ei
  obtain ⟨a, rfl, hs2⟩ := hd
  refine ⟨a, ns, rfl, hs2, hl, fun p us nd hm hp => ?_⟩
  refine ⟨p, _, _, rfl, upd_same, ?_, fun ns' p' asc hm' hl' hp' => ?_⟩
  · rw [nodup_len nd (nodup_asc (asc_sset ns)) fun k => by rw [hm, mem_sset]]; exact h64
  · have en : sset ns = ns' := sset_of asc fun k => by rw [hm' k, decide_eq_true_eq]
    have hne : p' ≠ p := by rintro rfl; rw [upd_same] at hp'; cases hp'
    have hp1 : H1 p' = none := by rw [upd_ne hne] at hp'; exact hp'
    have z := (k.mono e1)
    have h2 : HR X.K (upd H1 p (SetO X.w p (fun j => decide (j ∈ ns)) us.length)) M1 := h1.fresh hp
    refine (z.mono (.new hp)).lst h2 (RpL.ofInts (ns := ns')) hp' fun p3 hp3 => ?_
    have := q2 p3 hp3
    rw [en] at this
    exact this
end DL

set_option maxHeartbeats 4000000
/-! max(xs) of a list or a tuple of ints, == of dicts of ints, xs[i] op= e, {k: v for x in xs} -/
namespace DLmax
open PySem PySem.Spec PyProof.Rows L2
section
variable {prog : Program} {w : World} {A : Around} {E : Value → Shared → Prop} {s : Shared} {l : Addr} {xs : Array (Int × Tok)} {its : List Value} {ns : List Int}
theorem max_tupI {Q : Value → Shared → Prop} (hh : A.handled = none) (hl : s.heap.IsTuple l its.toArray) (hi : IntsAre its ns) (hne : 0 < ns.length)
    (h : ∀ h' tk m t', (∀ b o, s.heap.get? b = some o → h'.get? b = some o) → m ∈ ns → (∀ a, a ∈ ns → a ≤ m) → Q (.int m t') { s with heap := h', toks := tk }) : wpAny (model prog w) A (call (.builtin "max") [.ref l]) Q E s := by
  obtain ⟨zs, e⟩ := hi.allInts.items
  have hn : numsOf (intItems zs).toList = ns := by rw [← e]; exact hi.numsOf
  rw [nums_intItems] at hn
  subst hn
  rw [e] at hl
  have hz : 0 < zs.size := by simpa using hne
  have hlt : l < s.heap.objs.size := by obtain ⟨_, g, _⟩ := id hl; exact Heap.lt_size g
  refine call_max_walk (wpAny_pyIter_tuple hl ?_)
  refine ⟨_, _, _, _, _, _, _, rfl, Walks.tuple (A := A.in1) hh _ l (Nat.ne_of_lt hlt) (intItems zs), ⟨⟨_, Heap.get?_push_size _ rfl, rfl, rfl⟩, hl.push _⟩, ?_, by simpa [intItems] using hz, CmpOf.ints_gt (numAt zs) (fun _ _ => intItems_at), fun v h' tk hP hk => ?_⟩
  · intro b hb
    show b < (s.heap.push _).objs.size
    rw [Heap.size_push]
    rcases List.mem_cons.mp hb with rfl | hb
    · exact Nat.lt_succ_self _
    · rw [List.mem_singleton.mp hb]; exact Nat.lt_succ_of_lt hlt
  · have hv : (intItems zs)[argBest (fun i j => decide (numAt zs i > numAt zs j)) (zs.size - 1)]? = some v := by simpa [intItems] using hP
    obtain ⟨t, rfl⟩ := intItems_at hv
    obtain ⟨h1, h2⟩ := argBest_gt (numAt zs) (zs.size - 1)
    refine h h' tk _ t (fun b o g => ?_) ?_ fun a ha => ?_
    · have b0 : b < s.heap.objs.size := Heap.lt_size g
      exact hk b o (fun z => Nat.ne_of_lt b0 (List.mem_singleton.mp z)) (Heap.get?_push_of_some _ g)
    · rw [numAt_eq]; exact PySem.getD_mem (by rw [List.length_map, Array.length_toList]; omega)
    · obtain ⟨j, hj, rfl⟩ := mem_getD ha
      rw [List.length_map, Array.length_toList] at hj
      rw [← numAt_eq]; exact h2 j (by omega)
end
section
variable {X : Cx}
def rMaxT (K : PySem.W.Frag) : List V → Hp → VK → Prop := fun vs H Q => ∃ (a : Addr) (ns : List Int), vs = [V.ref a] ∧ SqT K H a (ns.map V.int) ∧ 0 < ns.length ∧ ∀ m, m ∈ ns → (∀ y, y ∈ ns → y ≤ m) → Q (.int m) H
theorem cr_maxT (hc : X.calm = true) : CallR X (.builtin "max") (rMaxT X.K) := by
  intro pins s σ H vs us Q I r ⟨a, ns, e, hs, hne, q⟩
  subst e
  obtain ⟨its, rv, pl, hz⟩ := I.tuple hs
  rw [Vals.ref1 r]
  exact max_tupI (I.ok.hd hc) (show s.heap.IsTuple a its.toArray from pl) rv.ints hne fun h' tk m t' hk h1 h2 => ⟨.int _, H, I.kept hk, ⟨_, rfl⟩, q m h1 h2⟩
/-! == of two dicts whose values are ints -/
def intV : V → Option Int
  | .int i => some i
  | _ => none
def sameIV (x y : Option V) : Bool := match x, y with
  | some (.int i), some (.int j) => i == j
  | _, _ => false
theorem hits_ints {κ : Type} [DecidableEq κ] {A : Around} {s : Shared} {kvs : List (κ × V)} {vb : List (κ × Value)} (rb : KV kvs vb) (ib : ∀ k x, valV kvs k = some x → ∃ i, x = .int i) {ks : List (κ × V)} {va : List (κ × Value)} (ra : KV ks va) :
    (∀ p ∈ ks, ∃ i, p.2 = .int i) → PySem.W.KeqHits A s vb va (ks.all fun p => sameIV (some p.2) (valV kvs p.1)) := by
  unfold KV at ra
  induction ra with
  | nil => intro _; exact .nil
  | @cons p q ps qs h t ih =>
    intro hp
    obtain ⟨h1, h2⟩ := h
    obtain ⟨i, ei⟩ := hp p List.mem_cons_self
    obtain ⟨k, v⟩ := q
    have h1' : p.1 = k := h1
    have h2' : RelV p.2 v := h2
    have rr := rb.val p.1
    rw [List.all_cons]
    cases ev : valV kvs p.1 with
    | none =>
      rw [ev] at rr
      have en : valueAt vb k = none := by
        rw [h1'] at rr
        cases eo : valueAt vb k with
        | none => rfl
        | some z => rw [eo] at rr; exact rr.elim
      have : sameIV (some p.2) none = false := by rw [ei]; rfl
      rw [this, Bool.false_and]
      exact .miss en
    | some x =>
      obtain ⟨j, ej⟩ := ib _ _ ev
      rw [ev] at rr
      obtain ⟨y, hy, ry⟩ := rr.some_of
      rw [h1'] at hy
      have : sameIV (some p.2) (some x) = (i == j) := by rw [ei, ej]; rfl
      rw [this]
      refine .hit hy ?_ (ih fun p hp' => hp p (List.mem_cons_of_mem _ hp'))
      rw [ei] at h2'
      rw [ej] at ry
      obtain ⟨t1, rfl⟩ := h2'
      obtain ⟨t2, rfl⟩ := ry
      exact SeqAt.EqAt.int_int i t1 j t2
def rEqDI (n : Bool) : R2 := fun x y H Q => ∃ a b ks ls, x = .ref a ∧ y = .ref b ∧ H a = some (.dK ks) ∧ H b = some (.dK ls) ∧ (∀ p ∈ ks, ∃ i, p.2 = .int i) ∧ (∀ k z, valV ls k = some z → ∃ i, z = .int i) ∧
  Q (.bl (n != (ks.length == ls.length && ks.all fun p => sameIV (some p.2) (valV ls p.1)))) H
theorem op_eqDI (hu : X.A.units < cLine) : OpR X (compareOp .Eq) (rEqDI false) := by
  intro pins s σ H x y v u Q I rx ry ⟨a, b, ks, ls, e1, e2, ea, eb, ia, ib, q⟩
  subst e1; subst e2
  obtain rfl : v = Value.ref a := rx
  obtain rfl : u = Value.ref b := ry
  obtain ⟨_, ya, va, ra, da⟩ := (show ObjOk X.prog X.w H s.heap a (.dK ks) from I.hok a _ ea)
  obtain ⟨_, yb, vb, rb, db⟩ := (show ObjOk X.prog X.w H s.heap b (.dK ls) from I.hok b _ eb)
  refine PySem.W.keq_eq (knd := mixKind X.prog X.w) ya yb da db hu (fun _ => hits_ints rb ib ra ia) (fin_bl I q ?_)
  simp [ra.length, rb.length]
theorem op_neDI (hu : X.A.units < cLine) : OpR X (compareOp .NotEq) (rEqDI true) := by
  intro pins s σ H x y v u Q I rx ry ⟨a, b, ks, ls, e1, e2, ea, eb, ia, ib, q⟩
  subst e1; subst e2
  obtain rfl : v = Value.ref a := rx
  obtain rfl : u = Value.ref b := ry
  obtain ⟨_, ya, va, ra, da⟩ := (show ObjOk X.prog X.w H s.heap a (.dK ks) from I.hok a _ ea)
  obtain ⟨_, yb, vb, rb, db⟩ := (show ObjOk X.prog X.w H s.heap b (.dK ls) from I.hok b _ eb)
  refine PySem.W.keq_ne (knd := mixKind X.prog X.w) ya yb da db hu (fun _ => hits_ints rb ib ra ia) (fin_bl I q ?_)
  simp [ra.length, rb.length]
end
end DLmax
namespace DL
open PySem PySem.Spec L2 DLmax
section
variable {X : Cx} {W : DW}
def maxSeqG : DG := fun ds M Q => match ds with
  | [d] => ∃ (xs : List D) (ns : List Int), seqD d M = some xs ∧ xs = ns.map D.int ∧ 0 < ns.length ∧ ∀ m, m ∈ ns → (∀ y, y ∈ ns → y ≤ m) → Q (.int m) M
  | _ => False
theorem CallR.or {f : Value} {r r' : List V → Hp → VK → Prop} (h : CallR X f r) (h' : CallR X f r') : CallR X f (fun vs H Q => r vs H Q ∨ r' vs H Q) := fun pins s σ H xs us Q I rs q => q.elim (h pins s σ H xs us Q I rs) (h' pins s σ H xs us Q I rs)
theorem call_maxSeqG (hc : X.calm = true) : CallR X (.builtin "max") (liftC X.K maxSeqG) := CallRimp (CallR.or (cr_max hc) (cr_maxT hc)) fun xs H Q ⟨ds, M, Qd, q, r, hr, k⟩ => by
  unfold maxSeqG at q
  split at q
  · rename_i d
    obtain ⟨v, rfl, rv⟩ := r.one
    obtain ⟨xs, ns, e, rfl, hl, q⟩ := q
    obtain ⟨a, vs, rfl, s, l⟩ := seqD_ok rv hr e
    rw [l.ints] at s
    rcases s with s | s
    · exact .inl ⟨a, ns, rfl, s, hl, fun m h1 h2 => k _ M _ H (q m h1 h2) .refl (.int _) hr⟩
    · exact .inr ⟨a, ns, rfl, s, hl, fun m h1 h2 => k _ M _ H (q m h1 h2) .refl (.int _) hr⟩
  · exact q.elim
/-- == of dicts of ints -/
def isIntD : D → Bool
  | .int _ => true
  | _ => false
def sameID (x : D) (y : Option D) : Bool := match x, y with
  | .int i, some (.int j) => i == j
  | _, _ => false
def eqKD (ks ls : List (Key × D)) : Bool := ks.length == ls.length && ks.all fun p => sameID p.2 (valD ls p.1)
def eqDictG (n : Bool) : DO := fun x y M Q => match x, y with
  | .ref a, .ref b => match M a, M b with
    | some (.dk ks), some (.dk ls) => (ks.all fun p => isIntD p.2) = true ∧ (ls.all fun p => isIntD p.2) = true ∧ Q (.bl (n != eqKD ks ls)) M
    | _, _ => False
  | _, _ => False
theorem valD_in {l : List (Key × D)} {k : Key} {v : D} (h : valD l k = some v) : ∃ q, q ∈ l ∧ q.2 = v := by
  unfold valD at h
  cases e : l.find? fun q => decide (q.1 = k) with
  | none => rw [e] at h; cases h
  | some q => rw [e] at h; cases h; exact ⟨q, List.mem_of_find?_eq_some e, rfl⟩
theorem KD.ints {K : PySem.W.Frag} {H : Hp} : ∀ {ks : List (Key × V)} {qs : List (Key × D)}, KD K H ks qs → (qs.all fun p => isIntD p.2) = true → ∀ p ∈ ks, ∃ i, p.2 = .int i
  | [], [], _, _, p, h => nomatch h
  | q :: ks, r :: qs, ⟨e, rp, l⟩, ha, p, h => by
    rw [List.all_cons, Bool.and_eq_true] at ha
    rcases List.mem_cons.mp h with rfl | h
    · cases er : r.2 with
      | int i => rw [er] at rp; exact ⟨i, rp.toInt⟩
      | _ => rw [er] at ha; cases ha.1
    · exact KD.ints l ha.2 p h
  | [], _ :: _, h, _, _, _ => h.elim
  | _ :: _, [], h, _, _, _ => h.elim
theorem KD.valOf {K : PySem.W.Frag} {H : Hp} {k : Key} : ∀ {ks : List (Key × V)} {qs : List (Key × D)}, KD K H ks qs → (valV ks k = none ∧ valD qs k = none) ∨ ∃ x d, valV ks k = some x ∧ valD qs k = some d ∧ Rp K H x d
  | [], [], _ => .inl ⟨rfl, rfl⟩
  | q :: ks, r :: qs, ⟨e, rp, l⟩ => by
    rw [valD_cons]
    obtain ⟨qk, qv⟩ := q
    have e' : qk = r.1 := e
    by_cases c : r.1 = k
    · rw [if_pos c]
      refine .inr ⟨qv, r.2, ?_, rfl, rp⟩
      subst c; subst e'
      simp [valV]
    · rw [if_neg c]
      have : valV ((qk, qv) :: ks) k = valV ks k := valV_neg (by rw [e']; exact c)
      rw [this]
      exact KD.valOf l
  | [], _ :: _, h => h.elim
  | _ :: _, [], h => h.elim
theorem sameIV_D {K : PySem.W.Frag} {H : Hp} {ls : List (Key × V)} {qs : List (Key × D)} (l : KD K H ls qs) : ∀ {ks : List (Key × V)} {ps : List (Key × D)}, KD K H ks ps → (ps.all fun p => isIntD p.2) = true →
    (qs.all fun p => isIntD p.2) = true → (ks.all fun p => sameIV (some p.2) (valV ls p.1)) = ps.all fun p => sameID p.2 (valD qs p.1)
  | [], [], _, _, _ => rfl
  | q :: ks, r :: ps, ⟨e, rp, t⟩, ha, hb => by
    rw [List.all_cons, Bool.and_eq_true] at ha
    rw [List.all_cons, List.all_cons, sameIV_D l t ha.2 hb]
    congr 1
    obtain ⟨rk, rd⟩ := r
    obtain ⟨qk, qv⟩ := q
    have e' : qk = rk := e
    subst e'
    cases rd with
    | int i =>
      have eq : qv = .int i := Rp.toInt rp
      subst eq
      rcases KD.valOf (k := qk) l with ⟨h1, h2⟩ | ⟨x, d, h1, h2, h3⟩
      · simp only [h1, h2, sameIV, sameID]
      · obtain ⟨q, hq, rfl⟩ := valD_in h2
        have := List.all_eq_true.mp hb q hq
        cases eq2 : q.2 with
        | int j => rw [eq2] at h3; rw [h3.toInt] at h1; simp only [h1, h2, eq2, sameIV, sameID]
        | _ => rw [eq2] at this; cases this
    | _ => cases ha.1
  | [], _ :: _, h, _, _ => h.elim
  | _ :: _, [], h, _, _ => h.elim
theorem KD.len {K : PySem.W.Frag} {H : Hp} : ∀ {ks : List (Key × V)} {qs : List (Key × D)}, KD K H ks qs → ks.length = qs.length
  | [], [], _ => rfl
  | _ :: _, _ :: _, ⟨_, _, l⟩ => by simp [KD.len l]
  | [], _ :: _, h => h.elim
  | _ :: _, [], h => h.elim
theorem eqDict_of {f : Value → Value → Sem Value} {n : Bool} (h : OpR X f (rEqDI n)) : OpR X f (liftO X.K (eqDictG n)) := OpRimp h fun x y H Q ⟨dx, dy, M, Qd, q, a, b, c, k⟩ => by
  unfold eqDictG at q
  split at q
  · rename_i pa pb
    split at q
    · rename_i ks ls e1 e2
      obtain ⟨va, ha, la⟩ := c.dk e1
      obtain ⟨vb, hb, lb⟩ := c.dk e2
      have ra := a.toRef
      have rb := b.toRef
      subst ra; subst rb
      refine ⟨pa, pb, va, vb, rfl, rfl, ha, hb, la.ints q.1, fun kk z hz => ?_, ?_⟩
      · rcases KD.valOf (k := kk) lb with ⟨h1, _⟩ | ⟨x, d, h1, h2, h3⟩
        · rw [h1] at hz; cases hz
        · rw [h1] at hz; cases hz
          obtain ⟨q', hq', rfl⟩ := valD_in h2
          have := List.all_eq_true.mp q.2.1 q' hq'
          cases eq2 : q'.2 with
          | int j => rw [eq2] at h3; exact ⟨j, h3.toInt⟩
          | _ => rw [eq2] at this; cases this
      · have e := sameIV_D lb la q.1 q.2.1
        rw [e, la.len, lb.len]
        exact k _ M _ H q.2.2 .refl (.bl _) c
    · exact q.elim
  · exact q.elim
theorem op_eqDict (hu : X.A.units < cLine) : OpR X (compareOp .Eq) (liftO X.K (eqDictG false)) := eqDict_of (op_eqDI hu)
theorem op_neDict (hu : X.A.units < cLine) : OpR X (compareOp .NotEq) (liftO X.K (eqDictG true)) := eqDict_of (op_neDI hu)
theorem u0 {k : Nat} {A : Around} (r : Room k A) : A.units < cLine := by have := r.un; omega
/-- xs[i] op= e, xs a list, i from 0 on -/
def rGetL (K : PySem.W.Frag) : V → V → Hp → VK → Prop := fun o i H Q => ∃ p xs k x, o = .ref p ∧ i = .int k ∧ H p = some (.lst xs) ∧ 0 ≤ k ∧ xs[k.toNat]? = some x ∧ Q x H
theorem get_list : PGet X (rGetL X.K) := by
  intro pins s σ H o i ov iv Q I ro ri ⟨p, xs, k, x, e1, e2, hp, h0, hx, q⟩
  subst e1; subst e2
  cases ro
  obtain ⟨t, rfl⟩ := ri
  obtain ⟨its, rv, pl, hz⟩ := I.list (SqL.of hp)
  obtain ⟨w, ew, rw'⟩ := rv.get hx
  have hk : k.toNat < xs.length := (List.getElem?_eq_some_iff.mp hx).1
  have hn := line63
  exact wpAny_getItem_list pl.isList h0 (by omega) (by simpa using ew) ⟨x, H, I, rw', q⟩
/-- what is stored behind xs[i] op= e -/
def dAugS (to ti te : DE) (g : DO) : DS := fun Dn τ M => to τ M (fun o M1 => ti τ M1 (fun i M2 => match o, i with
  | .ref a, .int k => match M2 a with
    | some (.lst xs) => 0 ≤ k ∧ match xs[k.toNat]? with
      | some x => te τ M2 (fun y M3 => g x y M3 (fun z M4 => match M4 a with
        | some (.lst ys) => match ixN ys.length k with
          | some j => Dn.nx τ (put M4 a (.lst (ys.set j z)))
          | none => False
        | _ => False)) (exOf Dn τ)
      | none => False
    | _ => False
  | _, _ => False) (exOf Dn τ)) (exOf Dn τ)
theorem psd_augS {o i e : Expr} {to ti te : DE} {op : Operator} {g : DO} {pos tpos : Pos} (ho : PD X W o to) (hi : PD X W i ti) (he : PD X W e te) (hp : OpR X (inplaceOp op) (liftO X.K g))
    (ha : ∀ ov iv new, augStore i ov iv new = (do holding [new, ov, iv] (setItem ov iv new); release [new, ov, iv] []; pure .next) := by intros; rfl) :
    PSD X W (.AugAssign (.Subscript o i tpos) op e pos) (dAugS to ti te g) :=
  ⟨PSimp (ps_augS ho.run hi.run get_list he.run (tip := liftO X.K g) hp set_list ha) fun De σ H ⟨τ, M, Dd, hs, hr, q, we, nc⟩ => ⟨τ, M, _, _, hs, hr, q, fun x M' h => we x τ M' h, fun od M1 ov H1 q1 e1 r1 h1 =>
    ⟨τ, M1, _, _, hs.mono e1, h1, q1, fun x M' h => we x τ M' h, fun idd M2 iv H2 q2 e2 r2 h2 => by
      dsimp only at q2
      split at q2
      · rename_i a k
        split at q2
        · rename_i xs ea
          obtain ⟨h0, q2⟩ := q2
          split at q2
          · rename_i x ex
            obtain ⟨vs, hv, l⟩ := h2.lst ea
            obtain ⟨v, ev, rv⟩ := l.get ex
            refine ⟨a, vs, k, v, (r1.mono e2).toRef, r2.toInt, hv, h0, ev, ?_⟩
            refine ⟨τ, M2, _, _, hs.mono (e1.trans e2), h2, q2, fun x M' h => we x τ M' h, fun y M3 u H3 q3 e3 r3 h3 => ?_⟩
            refine ⟨x, y, M3, _, q3, rv.mono e3, r3, h3, fun z M4 w H4 q4 e4 r4 h4 => ?_⟩
            dsimp only at q4
            split at q4
            · rename_i ys eb
              split at q4
              · rename_i j ej
                obtain ⟨us, hu, lu⟩ := h4.lst eb
                have e5 : TExt X.K H4 (upd H4 a (.lst (us.set j w))) := .upd (noTup_lst hu)
                refine ⟨a, us, k, j, (r1.mono e2).toRef, r2.toInt, hu, by rw [lu.length]; exact ej, ?_⟩
                have eT := e1.trans (e2.trans (e3.trans (e4.trans e5)))
                exact nc.nx τ _ _ _ q4 eT (hs.mono eT) (h4.made (noTup_lst hu) ⟨_, upd_same, (lu.set r4 j).mono e5⟩)
              · exact q4.elim
            · exact q4.elim
          · exact q2.elim
        · exact q2.elim
      · exact q2.elim⟩⟩⟩
end
end DL

set_option maxHeartbeats 4000000
/-! {k: v for x in xs if ..} -/
namespace DL
open PySem PySem.Spec L2
def dDL (g : D → Sl → Sl) (tt : DT) (tk tv : DE) (kp : Mp → Prop) (p : Addr) (τ : Sl) (F : Mp → Prop) : List D → Mp → Prop
  | [], M => kp M ∧ F M
  | d :: ds, M => kp M ∧ tt (g d τ) M (fun b M1 => if b = true then tk (g d τ) M1 (fun y M2 => tv (g d τ) M2 (fun z M3 => match keyD y, M3 p with
      | some k, some (.dk acc) => acc.length < sizeLine ∧ dDL g tt tk tv kp p τ F ds (put M3 p (.dk (putKD acc k z)))
      | _, _ => False) noE) noE else dDL g tt tk tv kp p τ F ds M1) noE
def dDc (ti : DI) (g : D → Sl → Sl) (tt : DT) (tk tv : DE) (vs : List Nat) : DE := fun τ M Q E => ti τ M (fun its kp M1 => ∀ p, M1 p = none → dDL g tt tk tv kp p (wipeD τ vs) (fun M2 => Q (.ref p) M2) its (put M1 p (.dk []))) E
theorem dc_read {ti : DI} {tt : DT} {tk tv : DE} {i : Nat} {vs : List Nat} {K : PySem.W.Frag} (hi : i ∈ vs) {σ : St} {H : Hp} {Q : VK} {W : DW} (h : liftE K W (dDc ti (fun d τ => τ.set i (some d)) tt tk tv vs) σ H Q) :
    tDc (liftI K W ti) (gName i) (liftT K W0 tt) (liftE K W0 tk) (liftE K W0 tv) vs σ H Q := by
  obtain ⟨τ, M, Qd, Ed, hs, hr, q, we, k⟩ := h
  refine ⟨τ, M, _, Ed, hs, hr, q, we, fun its kp J M1 H1 q1 e1 h1 ok D hD => ?_⟩
  have q2 := q1 D (h1.free hD)
  have e2 : TExt K H1 (upd H1 D (.dK [])) := .new hD
  refine ⟨fun i m H' => m = its.length - i ∧ i ≤ its.length ∧ TExt K (upd H1 D (.dK [])) H' ∧ ∃ M', HR K H' M' ∧ dDL (fun d τ => τ.set _ (some d)) tt tk tv kp D (wipeD τ vs) (fun M2 => Qd (.ref D) M2) (its.drop i) M', ⟨_, rfl, Nat.zero_le _, .refl, _, h1.made (o := .dk []) (noTup_none hD) ⟨[], upd_same, trivial⟩, by simpa using q2⟩, ?_⟩
  rintro j m H2 ⟨rfl, hj, e3, M2, hr2, q3⟩
  by_cases hlt : j < its.length
  · rw [List.drop_eq_getElem_cons hlt] at q3
    obtain ⟨hk, q3⟩ := q3
    refine .inr ⟨ok.go j H2 M2 (e2.trans e3) hr2 hk hlt, fun H' => TExt K (upd H1 D (.dK [])) H' ∧ ∃ M', HR K H' M' ∧ dDL (fun d τ => τ.set _ (some d)) tt tk tv kp D (wipeD τ vs) (fun M2 => Qd (.ref D) M2) (its.drop (j + 1)) M', fun H' h => ⟨its.length - (j + 1), by omega, rfl, hlt, h.1, h.2⟩, fun x H3 y => ?_⟩
    obtain ⟨e4, k4, r4⟩ := ok.yld j H2 M2 x H3 (e2.trans e3) hr2 hk y
    have rx := r4 its[j] (by simp [hlt])
    have hs3 : RS K W0.h0 H3 ((wipe σ vs).set i (some x)) ((wipeD τ vs).set i (some its[j])) := ((hs.mono (e1.trans (e2.trans (e3.trans e4)))).wipe vs .none).set rx
    refine ⟨wipe_set hi, _, M2, _, _, hs3, k4 _ hr2, q3, fun _ _ z => z.elim, fun b M4 H4 q4 e5 h4 => ?_⟩
    cases b with
    | false => exact ⟨e3.trans (e4.trans e5), M4, h4, by simpa using q4⟩
    | true =>
      simp only [if_true] at q4 ⊢
      refine ⟨_, M4, _, _, hs3.mono e5, h4, q4, fun _ _ z => z.elim, fun y M5 v H5 q5 e6 r5 h5 => ?_⟩
      refine ⟨_, M5, _, _, hs3.mono (e5.trans e6), h5, q5, fun _ _ z => z.elim, fun z M6 u H6 q6 e7 r6 h6 => ?_⟩
      dsimp only at q6
      split at q6
      · rename_i kk acc ek ea
        obtain ⟨us, hu, l⟩ := h6.dk ea
        have e8 : TExt K H6 (upd H6 D (.dK (putK us kk u))) := .upd (noTup_dK hu)
        refine ⟨us, kk, keyD_ok r5 ek, hu, by rw [l.length]; exact q6.1, e3.trans (e4.trans (e5.trans (e6.trans (e7.trans e8)))), _, h6.made (o := .dk (putKD acc kk z)) (noTup_dK hu) ⟨_, upd_same, (KD.put r6 l).mono e8⟩, q6.2⟩
      · exact q6.elim
  · have ei : j = its.length := by omega
    subst ei
    rw [List.drop_length] at q3
    exact .inl ⟨ok.stop _ H2 M2 (e2.trans e3) hr2 q3.1 (Nat.le_refl _), k _ M2 _ H2 q3.2 (e1.trans (e2.trans e3)) (.ref D) hr2⟩
section
variable {X : Cx} {W : DW} {tg kx vx iter : Expr} {ifs : List Expr} {scope : Scope} {own : List (Str × Nat)} {ti : DI} {tt : DT} {tk tv : DE} {i : Nat} {pos : Pos}
theorem pd_dc (hc : X.calm = true) (hN : X.N.Nodup) (hi : PID X W tg iter ti) (ok : BlkOk X.N X.env.scope scope own) (hv : i ∈ own.map (·.2))
    (hg : ∀ (s : Shared) (H : Hp) (C : Addr) (cl : List (Str × Addr)) (fp : List Addr), PG (X.blk s H scope (compEnvC scope cl C X.env) fp) tg (gName i))
    (ht : ∀ (s : Shared) (H : Hp) (C : Addr) (cl : List (Str × Addr)) (fp : List Addr), PTsD (X.blk s H scope (compEnvC scope cl C X.env) fp) W0 ifs tt)
    (hk : ∀ (s : Shared) (H : Hp) (C : Addr) (cl : List (Str × Addr)) (fp : List Addr), PD (X.blk s H scope (compEnvC scope cl C X.env) fp) W0 kx tk)
    (he : ∀ (s : Shared) (H : Hp) (C : Addr) (cl : List (Str × Addr)) (fp : List Addr), PD (X.blk s H scope (compEnvC scope cl C X.env) fp) W0 vx tv) (hs : ∀ x, foldedSetIterable iter X.env x = pure x := by intro _; rfl) :
    PD X W (.DictComp kx vx [⟨tg, iter, ifs, 0⟩] scope pos) (dDc ti (fun d τ => τ.set i (some d)) tt tk tv (own.map (·.2))) :=
  ⟨PEimp (pe_dc hc hN hi.run ok hg (fun s H C cl fp => (ht s H C cl fp).run) (fun s H C cl fp => (hk s H C cl fp).run) (fun s H C cl fp => (he s H C cl fp).run) hs) fun σ H Q h => dc_read hv h⟩
end
/-! name = {k: v for x in xs} on one line -/
section
variable {X : Cx}
theorem sw_trueD {kx vx : Expr} {gs : List Comprehension} {scope : Scope} {pos py : Pos} {y : Str} {l : Nat} {env : Env} (hk : env.scope.kind = .function) (hy : env.scope.names.lookup y = some .local) (hl : (py.line == pos.line) = true)
    (ha : (scope.names.any fun (n, k) => n == y && (k == .local || k == .cell)) = false) : swapsWith (.DictComp kx vx gs scope pos) (some (.Name y py)) l env = pure true := by
  have k1 : env.kindOf y = some .local := hy
  have k2 : env.blockKind = .function := by unfold Env.blockKind; rw [hk]; rfl
  unfold swapsWith
  simp only [k1, k2, ha, Expr.pos, hl]
  rfl
theorem ps_setDc {i : Nat} {y : Str} {py : Pos} {kx vx tg iter : Expr} {ifs : List Expr} {scope : Scope} {own : List (Str × Nat)} {pos spos : Pos} {wi : TI} {g : TG} {tt : TT} {tk tv : TE} (hc : X.calm = true) (hN : X.N.Nodup) (hy : X.N[i]? = some y) (hyl : X.env.scope.names.lookup y = some .local)
    (hsw : swapsWith (.DictComp kx vx [⟨tg, iter, ifs, 0⟩] scope pos) (some (.Name y py)) spos.line X.env = pure true) (hi : PI X tg iter wi) (ok : BlkOk X.N X.env.scope scope own)
    (hg : ∀ (s : Shared) (H : Hp) (C : Addr) (cl : List (Str × Addr)) (fp : List Addr), PG (X.blk s H scope (compEnvC scope cl C X.env) fp) tg g)
    (ht : ∀ (s : Shared) (H : Hp) (C : Addr) (cl : List (Str × Addr)) (fp : List Addr), PTs (X.blk s H scope (compEnvC scope cl C X.env) fp) ifs tt)
    (hk : ∀ (s : Shared) (H : Hp) (C : Addr) (cl : List (Str × Addr)) (fp : List Addr), PE (X.blk s H scope (compEnvC scope cl C X.env) fp) kx tk)
    (he : ∀ (s : Shared) (H : Hp) (C : Addr) (cl : List (Str × Addr)) (fp : List Addr), PE (X.blk s H scope (compEnvC scope cl C X.env) fp) vx tv) (hs : ∀ x, foldedSetIterable iter X.env x = pure x := by intro _; rfl) :
    PS X (.Assign [.Name y py] (.DictComp kx vx [⟨tg, iter, ifs, 0⟩] scope pos) spos) (tAsg (tDc wi g tt tk tv (own.map (·.2))) (gName i)) := by
  refine ⟨fun pins s σ H De I hq => ?_⟩
  rw [exec_Assign_Name_used _ _ _ _ hsw]
  refine wpAny_bind (wpAny_standAt (wpAny_bind ?_))
  show wpAny _ X.A (do let _ ← comprehension (.DictComp kx vx [⟨tg, iter, ifs, 0⟩] scope pos) scope X.env (firstIterPos [⟨tg, iter, ifs, 0⟩] pos) newDict false (eval iter X.env) (some (assign (.Name y py) X.env))) _ _ s
  have hq : tDc wi g tt tk tv (own.map (·.2)) σ H (fun x H1 => gName i x σ H1 De.nx) := hq
  refine wpAny_bind (thn (dc_core (Qf := fun _ z => SP X pins De .next z) hc hN I hi ok hg ht hk he hs hq fun L C z m H1 I1 q hn f => ?_) fun _ z hz => wpAny_pure (wpAny_pure hz))
  show wpAny _ _ (assign (.Name y py) X.env (.ref L)) _ _ _
  refine wpAny_assign_Name (store_ok2 (v := V.ref L) I1 hN hy (.inl hyl) rfl (fun z2 I2 ⟨a, sb, ha⟩ => ?_) (.inr hyl))
  obtain ⟨f0, f1, f2, f3, f4, f5⟩ := f
  have ne : C ≠ a := ha.elim (fun z => by rw [z]; exact f1) fun z e => f4 y a z e.symm
  exact ⟨m, hn.sameBut sb ne, fun h3 sb3 => ⟨_, H1, I2.turned (t' := z2.toks) (fun b o hb e => (sb3.2 b hb).trans e) f0 f1 f3 f4 f5, q⟩⟩
theorem psd_setDc {W : DW} {tg kx vx iter : Expr} {ifs : List Expr} {scope : Scope} {own : List (Str × Nat)} {ti : DI} {tt : DT} {tk tv : DE} {i j : Nat} {pos : Pos} {y : Str} {py spos : Pos} (hc : X.calm = true) (hN : X.N.Nodup) (hy : X.N[j]? = some y) (hyl : X.env.scope.names.lookup y = some .local)
    (hsw : swapsWith (.DictComp kx vx [⟨tg, iter, ifs, 0⟩] scope pos) (some (.Name y py)) spos.line X.env = pure true) (hi : PID X W tg iter ti) (ok : BlkOk X.N X.env.scope scope own) (hv : i ∈ own.map (·.2))
    (hg : ∀ (s : Shared) (H : Hp) (C : Addr) (cl : List (Str × Addr)) (fp : List Addr), PG (X.blk s H scope (compEnvC scope cl C X.env) fp) tg (gName i))
    (ht : ∀ (s : Shared) (H : Hp) (C : Addr) (cl : List (Str × Addr)) (fp : List Addr), PTsD (X.blk s H scope (compEnvC scope cl C X.env) fp) W0 ifs tt)
    (hk : ∀ (s : Shared) (H : Hp) (C : Addr) (cl : List (Str × Addr)) (fp : List Addr), PD (X.blk s H scope (compEnvC scope cl C X.env) fp) W0 kx tk)
    (he : ∀ (s : Shared) (H : Hp) (C : Addr) (cl : List (Str × Addr)) (fp : List Addr), PD (X.blk s H scope (compEnvC scope cl C X.env) fp) W0 vx tv) (hs : ∀ x, foldedSetIterable iter X.env x = pure x := by intro _; rfl) :
    PSD X W (.Assign [.Name y py] (.DictComp kx vx [⟨tg, iter, ifs, 0⟩] scope pos) spos) (dAsg (dDc ti (fun d τ => τ.set i (some d)) tt tk tv (own.map (·.2))) (dName j)) :=
  ⟨PSimp (ps_setDc hc hN hy hyl hsw hi.run ok hg (fun s H C cl fp => (ht s H C cl fp).run) (fun s H C cl fp => (hk s H C cl fp).run) (fun s H C cl fp => (he s H C cl fp).run) hs) fun De σ H ⟨τ, M, Dd, hs, hr, q, we, nc⟩ =>
    dc_read hv ⟨τ, M, _, _, hs, hr, q, fun x M' h => we x τ M' h, fun d M1 v H1 q1 e1 r1 h1 => nc.nx _ M1 _ H1 q1 e1 ((hs.mono e1).set r1) h1⟩⟩
end
theorem dDL_inv {g : D → Sl → Sl} {tt : DT} {tk tv : DE} {kp : Mp → Prop} {p : Addr} {τ : Sl} {F : Mp → Prop} {its : List D} {M : Mp} (I : Nat → Mp → Prop) (hk : ∀ i M, i ≤ its.length → I i M → kp M)
    (step : ∀ (i : Nat) (d : D) (M : Mp) (nxt : Mp → Prop), its[i]? = some d → I i M → (∀ M', I (i + 1) M' → nxt M') → tt (g d τ) M (fun b M1 => if b = true then tk (g d τ) M1 (fun y M2 => tv (g d τ) M2 (fun z M3 => match keyD y, M3 p with
      | some k, some (.dk acc) => acc.length < sizeLine ∧ nxt (put M3 p (.dk (putKD acc k z)))
      | _, _ => False) noE) noE else nxt M1) noE)
    (done : ∀ M, I its.length M → F M) (h0 : I 0 M) : dDL g tt tk tv kp p τ F its M := by
  have key : ∀ (n i : Nat) (M : Mp), its.length - i = n → i ≤ its.length → I i M → dDL g tt tk tv kp p τ F (its.drop i) M := by
    intro n
    induction n with
    | zero =>
      intro i M hn hi hI
      have : i = its.length := by omega
      subst this
      rw [List.drop_length]
      exact ⟨hk _ M (Nat.le_refl _) hI, done M hI⟩
    | succ n ih =>
      intro i M hn hi hI
      have hlt : i < its.length := by omega
      rw [List.drop_eq_getElem_cons hlt]
      refine ⟨hk _ M hi hI, ?_⟩
      exact step i its[i] M _ (List.getElem?_eq_getElem hlt) hI fun M' h' => ih (i + 1) M' (by omega) (by omega) h'
  simpa using key _ 0 M rfl (Nat.zero_le _) h0
end DL

set_option maxHeartbeats 4000000
/-! what readings meet again and again -/
namespace DL
open PySem PySem.Spec L2
section
variable {M M0 : Mp} {p a : Addr} {xs ys : List D} {y : D} {Q : DK}
theorem app_at (h : M p = some (.lst xs)) : appendM (.ref p) [y] M Q = (xs.length < sizeLine ∧ Q .non (put M p (.lst (xs ++ [y])))) := by unfold appendM; simp only [h]
theorem metL (h : M p = some (.lst xs)) : metT "list" (.ref p) M = True := by simp [metT, h]
theorem metDk {kvs : List (Key × D)} (h : M p = some (.dk kvs)) : metT "dict" (.ref p) M = True := by simp [metT, h]
theorem extT_at (h : M p = some (.lst xs)) : extTM (.ref p) [.tup ys] M Q = (xs.length + ys.length ≤ sizeLine ∧ Q .non (put M p (.lst (xs ++ ys)))) := by unfold extTM; simp only [h]
theorem extL_at (h : M p = some (.lst xs)) (h2 : M a = some (.lst ys)) : extendM (.ref p) [.ref a] M Q = (xs.length + ys.length ≤ sizeLine ∧ Q .non (put M p (.lst (xs ++ ys)))) := by unfold extendM; simp only [h, h2]
theorem sub_new (s : Sub M0 M) (h : M0 p = none) {o : MO} : Sub M0 (put M p o) := s.put2 h
theorem ne_none {o : MO} (h : M a = some o) (hp : M p = none) : a ≠ p := by rintro rfl; rw [h] at hp; cases hp
theorem tup_at (h : M a = some (.lst xs)) : tupG [.ref a] M Q = Q (.tup xs) M := by unfold tupG; simp only [seqOf, h]
theorem lst_at (h : M a = some (.lst xs)) : lstG [.ref a] M Q = ∀ p, M p = none → Q (.ref p) (put M p (.lst xs)) := by unfold lstG; simp only [seqOf, h]
theorem cut_2 {d e : D} {ds : List D} : cutD (d :: e :: ds) (some 2) none = ds := by
  have := cut_from (xs := d :: e :: ds) (i := 2) (by simp)
  simpa using this
theorem cut_1 {d : D} {ds : List D} : cutD (d :: ds) (some 1) none = ds := by
  have := cut_from (xs := d :: ds) (i := 1) (by simp)
  simpa using this
theorem ix_at {i : Nat} (h : M a = some (.lst xs)) (e : xs[i]? = some y) : ixG (.ref a) (.int ((i : Nat) : Int)) M Q = Q y M := by
  unfold ixG
  simp only [seqOf, h, Option.bind_some, atI_nat e]
theorem ix_at0 {x : D} (h : M a = some (.lst (x :: xs))) : ixG (.ref a) (.int 0) M Q = Q x M := ix_at (i := 0) h rfl
theorem ix_at1 {x z : D} (h : M a = some (.lst (x :: z :: xs))) : ixG (.ref a) (.int 1) M Q = Q z M := ix_at (i := 1) h rfl
theorem addD_tup : addD (.tup xs) (.tup ys) M Q = (xs.length + ys.length ≤ sizeLine ∧ Q (.tup (xs ++ ys)) M) := rfl
theorem addD_lst {b : Addr} (h : M a = some (.lst xs)) (h2 : M b = some (.lst ys)) : addD (.ref a) (.ref b) M Q = (xs.length + ys.length ≤ sizeLine ∧ ∀ p, M p = none → Q (.ref p) (put M p (.lst (xs ++ ys)))) := by unfold addD; simp only [h, h2]
theorem int_inj {i : Int} {ns : List Int} : (D.int i ∈ ns.map D.int) ↔ i ∈ ns := by
  rw [List.mem_map]
  constructor
  · rintro ⟨j, hj, e⟩; cases e; exact hj
  · intro h; exact ⟨i, h, rfl⟩
theorem flat_int {vs : List Int} : (vs.map D.int).all flatD = true := by
  rw [List.all_eq_true]
  intro d h
  obtain ⟨v, _, rfl⟩ := List.mem_map.mp h
  rfl
theorem any_int {vs : List Int} {x : Int} : ((vs.map D.int).any fun d => eqb d (.int x)) = decide (x ∈ vs) := by
  induction vs with
  | nil => rfl
  | cons v vs ih =>
    rw [List.map_cons, List.any_cons, ih]
    simp only [eqb, List.mem_cons]
    by_cases c : v = x
    · subst c; simp
    · have : ¬ x = v := fun z => c z.symm
      simp [c, this]
theorem in_ints {n : Bool} {x : Int} {vs : List Int} (h : M a = some (.lst (vs.map D.int))) : inG n (.int x) (.ref a) M Q = Q (.bl (n != decide (x ∈ vs))) M := by
  unfold inG
  simp only [seqD, seqOf, h, flat_int, any_int, flatD, true_and]
/-- a comprehension of pure items -/
theorem dCL_each {α : Type} {G : D → Sl → Sl} {te : DE} {kp : Mp → Prop} {p : Addr} {τ : Sl} {F : Mp → Prop} {its : List D} {M : Mp} {xs : List α} (g f : α → D) (hi : its = xs.map g) (hl : xs.length ≤ 16000000) (hk : ∀ ys, kp (put M p (.lst ys)))
    (step : ∀ a, a ∈ xs → ∀ (ys : List D) (k : D → Mp → Prop), k (f a) (put M p (.lst ys)) → te (G (g a) τ) (put M p (.lst ys)) k noE) (done : F (put M p (.lst (xs.map f)))) : dCL G dYes te kp p τ F its (put M p (.lst [])) := by
  subst hi
  refine dCL_pure f (xs.map some) (by simp) (by simpa using hl) hk ?_ ?_
  · intro i d a ys k k2 h1 h2 q1 q2
    rw [List.getElem?_map] at h1 h2
    cases e : xs[i]? with
    | none => rw [e] at h1; cases h1
    | some x =>
      rw [e] at h1 h2
      simp at h1 h2
      subst h1; subst h2
      unfold dYes
      simp only [if_true]
      exact step x (List.mem_of_getElem? e) ys k (q1 x rfl)
  · rw [List.filterMap_map]
    have : (id ∘ some : α → Option α) = some := rfl
    rw [this, List.filterMap_some]
    exact done
theorem filterMap_if {α : Type} {c : α → Bool} : ∀ {xs : List α}, (xs.map fun x => if c x = true then some x else none).filterMap id = xs.filter c
  | [] => rfl
  | x :: xs => by
    rw [List.map_cons, List.filterMap_cons, filterMap_if]
    by_cases h : c x = true
    · rw [List.filter_cons_of_pos h]; simp [h]
    · rw [List.filter_cons_of_neg h]; simp [h]
/-- .. of items that are chosen -/
theorem dCL_some {α : Type} {G : D → Sl → Sl} {tt : DT} {te : DE} {kp : Mp → Prop} {p : Addr} {τ : Sl} {F : Mp → Prop} {its : List D} {M : Mp} {xs : List α} (g f : α → D) (c : α → Bool) (hi : its = xs.map g) (hl : xs.length ≤ 16000000) (hk : ∀ ys, kp (put M p (.lst ys)))
    (step : ∀ a, a ∈ xs → ∀ (ys : List D) (k : D → Mp → Prop) (k2 : Mp → Prop), (c a = true → k (f a) (put M p (.lst ys))) → (c a = false → k2 (put M p (.lst ys))) → tt (G (g a) τ) (put M p (.lst ys)) (fun b M1 => if b = true then te (G (g a) τ) M1 k noE else k2 M1) noE)
    (done : F (put M p (.lst ((xs.filter c).map f)))) : dCL G tt te kp p τ F its (put M p (.lst [])) := by
  subst hi
  refine dCL_pure f (xs.map fun x => if c x = true then some x else none) (by simp) (by simpa using hl) hk ?_ ?_
  · intro i d a ys k k2 h1 h2 q1 q2
    rw [List.getElem?_map] at h1 h2
    cases e : xs[i]? with
    | none => rw [e] at h1; cases h1
    | some x =>
      rw [e] at h1 h2
      simp only [Option.map_some, Option.some.injEq] at h1 h2
      subst h1
      refine step x (List.mem_of_getElem? e) ys k k2 (fun h => q1 x ?_) fun h => q2 ?_
      · rw [← h2, if_pos h]
      · rw [← h2, if_neg (by rw [h]; exact Bool.false_ne_true)]
  · rw [filterMap_if]
    exact done
end
/-- x in xs, xs a list of items of any depth -/
def inLD (n : Bool) : DO := fun x y M Q => match y with
  | .ref a => match seqOf M a with
    | some ys => ok x = true ∧ okL ys = true ∧ min (depL ys) (dep x) ≤ 198 ∧ Q (.bl (n != ys.any fun d => eqb d x)) M
    | none => False
  | _ => False
section
variable {X : Cx}
theorem op_inLD (hu : X.A.units + 200 < cLine) : OpR X (compareOp .In) (liftO X.K (inLD false)) := by
  intro pins s σ H x y v u Q I rx ry ⟨dx, dy, M, Qd, q, a, b, c, k⟩
  unfold inLD at q
  split at q
  · rename_i r
    split at q
    · rename_i ys e
      obtain ⟨o1, o2, dm, q⟩ := q
      obtain ⟨as, r1⟩ := Dp.reads I _ x v (dp_of a o1) rx
      obtain ⟨vs, hs, l⟩ := seqOf_ok c e
      have ry' := b.toRef; subst ry'
      obtain ⟨bs, r2⟩ := Dp.reads I _ _ u (Dp.lst hs (dpL_of l o2)) ry
      refine SeqAt.in_list_reads r2 r1 (layL_toP _ o2) (lay_toP _ o1) (by rw [depL_toP, dep_toP]; omega) ?_
      rw [toPL_any o1 o2]
      exact ⟨.bl _, H, I, rfl, k _ M _ H (by simpa using q) .refl (.bl _) c⟩
    · exact q.elim
  · exact q.elim
theorem op_notInLD (hu : X.A.units + 200 < cLine) : OpR X (compareOp .NotIn) (liftO X.K (inLD true)) := by
  intro pins s σ H x y v u Q I rx ry ⟨dx, dy, M, Qd, q, a, b, c, k⟩
  unfold inLD at q
  split at q
  · rename_i r
    split at q
    · rename_i ys e
      obtain ⟨o1, o2, dm, q⟩ := q
      obtain ⟨as, r1⟩ := Dp.reads I _ x v (dp_of a o1) rx
      obtain ⟨vs, hs, l⟩ := seqOf_ok c e
      have ry' := b.toRef; subst ry'
      obtain ⟨bs, r2⟩ := Dp.reads I _ _ u (Dp.lst hs (dpL_of l o2)) ry
      refine SeqAt.notIn_list_reads r2 r1 (layL_toP _ o2) (lay_toP _ o1) (by rw [depL_toP, dep_toP]; omega) ?_
      rw [toPL_any o1 o2]
      exact ⟨.bl _, H, I, rfl, k _ M _ H (by simpa using q) .refl (.bl _) c⟩
    · exact q.elim
  · exact q.elim
/-- xs.index(y), items of any depth, y is there -/
def indexLD : DM := fun d ds M Q => match d, ds with
  | .ref a, [y] => ∃ xs, seqOf M a = some xs ∧ ok y = true ∧ okL xs = true ∧ dep y ≤ 64 ∧ depL xs ≤ 63 ∧ ∃ j z, xs[j]? = some z ∧ eqb z y = true ∧ (∀ m z', m < j → xs[m]? = some z' → eqb z' y = false) ∧ Q (.int ((j : Nat) : Int)) M
  | _, _ => False
theorem toPL_at : ∀ {xs : List D} {j : Nat}, (toPL xs)[j]? = (xs[j]?).map toP
  | [], j => by simp [toPL]
  | x :: xs, 0 => by simp [toPL]
  | x :: xs, j + 1 => by rw [toPL, List.getElem?_cons_succ, List.getElem?_cons_succ, toPL_at]
theorem mt_indexLD (hu : X.A.units + 65 < cLine) : MtR X "list.index" (liftM X.K indexLD) := MtRimp (mt_indexD hu) fun x xs H Q ⟨d, ds, M, Qd, q, rx, rs, hr, k⟩ => by
  unfold indexLD at q
  split at q
  · rename_i a y
    obtain ⟨ys, es, o1, o2, d1, d2, j, z, hz, ez, hno, q⟩ := q
    obtain ⟨vs, s, l⟩ := seqOf_ok hr es
    obtain ⟨v, rfl, rv⟩ := rs.one
    have okz : ∀ {m : Nat} {u : D}, ys[m]? = some u → ok u = true := fun h => okL_mem o2 _ (List.mem_of_getElem? h)
    refine ⟨a, v, _, _, j, toP z, rx.toRef, rfl, .lst s (dpL_of l o2), dp_of rv o1, ?_, ?_, by rw [toPL_at, hz]; rfl, ?_, fun m z' hm h' => ?_, k _ M _ H q .refl (.int _) hr⟩
    · unfold SeqAt.shaped
      simp only [PyData.canLay0, PyData.depth, depL_toP, layL_toP _ o2, Bool.true_and, decide_eq_true_eq]
      omega
    · unfold SeqAt.shaped
      simp only [lay_toP _ o1, dep_toP, Bool.true_and, decide_eq_true_eq]
      omega
    · rw [eqv_toP _ _ (okz hz) o1]; exact ez
    · rw [toPL_at] at h'
      cases e : ys[m]? with
      | none => rw [e] at h'; cases h'
      | some u =>
        rw [e] at h'
        simp only [Option.map_some, Option.some.injEq] at h'
        subst h'
        rw [eqv_toP _ _ (okz e) o1]
        exact hno m u hm e
  · exact q.elim
end
theorem u65 {k : Nat} {A : Around} (r : Room k A) : A.units + 65 < cLine := by have := r.un; omega
end DL

set_option maxHeartbeats 4000000
/-! t.index(y), items of any depth, y is there -/
namespace DL
open PySem PySem.Spec L2 PySem.SeqAt
/-- the tuple at a is known to be one -/
def xtOf (d : D) (M : Mp) : Option (List D) := match d with
  | .ref a => match M a with
    | some (.xt xs) => some xs
    | _ => none
  | _ => none
theorem xtOf_ok {K : PySem.W.Frag} {H : Hp} {M : Mp} {v : V} {d : D} {ds : List D} (r : Rp K H v d) (hr : HR K H M) (h : xtOf d M = some ds) : ∃ a o vs, v = .ref a ∧ H a = some (.frz o (.tup vs)) ∧ o.dict = none ∧ RpL K H vs ds := by
  cases d with
  | ref a =>
    have h' : (match M a with | some (.xt xs) => some xs | _ => none) = some ds := h
    cases e : M a with
    | none => rw [e] at h'; cases h'
    | some ob =>
      rw [e] at h'
      cases ob with
      | xt xs => cases h'; obtain ⟨o, vs, q, u, l⟩ : ∃ o vs, H a = some (.frz o (.tup vs)) ∧ o.dict = none ∧ RpL K H vs ds := hr a _ e; exact ⟨a, o, vs, r.toRef, q, u, l⟩
      | _ => cases h'
  | _ => cases h
def indexTD : DM := fun d ds M Q => match xtOf d M, ds with
  | some xs, [y] => ok y = true ∧ okL xs = true ∧ dep y ≤ 64 ∧ depL xs ≤ 63 ∧ ∃ j z, xs[j]? = some z ∧ eqb z y = true ∧ (∀ m z', m < j → xs[m]? = some z' → eqb z' y = false) ∧ Q (.int ((j : Nat) : Int)) M
  | _, _ => False
theorem mt_indexTD {X : Cx} (hu : X.A.units + 65 < cLine) : MtR X "tuple.index" (liftM X.K indexTD) := by
  intro pins s σ H x xs v us Q I rx rxs ⟨d, ds, M, Qd, q, rd, rs, hr, k⟩
  unfold indexTD at q
  split at q
  · rename_i ys y exs
    obtain ⟨o1, o2, d1, d2, j, z, hz, ez, hno, q⟩ := q
    obtain ⟨a, ob, vs, rfl, hfr, hdn, l⟩ := xtOf_ok rd hr exs
    have sq : SqT X.K H a vs := .inl (.inr ⟨ob, hfr⟩)
    obtain ⟨yv, rfl, ry⟩ := rs.one
    cases rx
    obtain ⟨u, rfl, ru⟩ := rxs.one
    have okz : ∀ {m : Nat} {w : D}, ys[m]? = some w → ok w = true := fun h => okL_mem o2 _ (List.mem_of_getElem? h)
    have hd := dp_of ry o1
    obtain ⟨bs, r1⟩ := Dp.reads I _ yv u hd ru
    have hxs : PyData.canLayAll0 (toPL ys) = true := layL_toP _ o2
    obtain ⟨its, rv, ⟨⟨cls, dd, data, sls⟩, ho, hc, n, hdt⟩, hlen⟩ := I.tuple sq
    simp only at hc hdt
    subst hc; subst hdt
    obtain ⟨as, h4⟩ := Dp.readsAll I (toPL ys) vs its (dpL_of l o2) rv
    have lp : (toPL ys).length = ys.length := by
      have : ∀ ys : List D, (toPL ys).length = ys.length := fun ys => by
        induction ys with
        | nil => simp [toPL]
        | cons a b ih => simp [toPL, ih]
      exact this ys
    have hn : its.length = (toPL ys).length := ReadsAll.length _ its as h4
    have hmap : its.map (readOf s.heap) = toPL ys := readsAll_map _ its as hxs h4
    have hj : j < ys.length := (List.getElem?_eq_some_iff.mp hz).1
    have hj2 : j < its.toArray.size := by rw [List.size_toArray]; omega
    have at1 : ∀ (m : Nat) (hm : m < its.toArray.size) (w : D), ys[m]? = some w → readOf s.heap its.toArray[m] = toP w := by
      intro m hm w hw
      have hml : m < its.length := by simpa using hm
      have e0 : (toPL ys)[m]? = some (toP w) := by rw [toPL_at, hw]; rfl
      rw [← hmap, List.getElem?_map, List.getElem?_eq_getElem hml] at e0
      simpa using e0
    have room : X.A.units + 1 + min (PyData.depthAll (toPL ys)) (toP y).depth < cLine := by
      rw [depL_toP, dep_toP]; omega
    refine call_meets PySem.F.slot_tuple_index ⟨_, ho, rfl⟩ PySem.F.entry_tuple_index (PySem.F.args_tuple_index_2 _ _)
      (TI.tuple_indexAt a its.toArray n dd sls u (fun w => PyData.eqv (readOf s.heap w) (toP y)) j hj2 ?_ ?_) ⟨ho, items_eqAt (vs := its.toArray) (show ReadsAll s.heap its.toArray.toList (toPL ys) as from h4) r1 hxs (lay_toP _ o1) room, ?_⟩
    · show PyData.eqv (readOf s.heap its.toArray[j]) (toP y) = true
      rw [at1 j hj2 z hz, eqv_toP _ _ (okz hz) o1]; exact ez
    · intro m hm hmj
      have hm2 : m < ys.length := by omega
      show PyData.eqv (readOf s.heap its.toArray[m]) (toP y) = false
      have e1 := List.getElem?_eq_getElem hm2
      rw [at1 m hm _ e1, eqv_toP _ _ (okz e1) o1]
      exact hno m _ hmj e1
    · exact ⟨.int (j : Nat), H, I.tok _, ⟨_, rfl⟩, k _ M _ H q .refl (.int _) hr⟩
  · exact q.elim
/-- tuple(xs) of a list: known to be a tuple -/
def rTupX (K : PySem.W.Frag) : List V → Hp → VK → Prop := fun xs H Q => ∃ p ys, xs = [.ref p] ∧ SqL K H p ys ∧ ∀ (l : Addr) (o : Obj), H l = none → o.dict = none → Q (.ref l) (upd H l (.frz o (.tup ys)))
theorem cr_tupX {X : Cx} : CallR X (.type "tuple") (rTupX X.K) := by
  intro pins s σ H xs us Q I r ⟨p, ys, e, hq, q⟩
  subst e
  obtain ⟨u, rfl, rx⟩ := vals1 r
  cases rx
  obtain ⟨its, r', pl, hz⟩ := I.list hq
  have hlen := r'.length
  refine call_tuple_list pl.isList (fun h1 kp => ?_) (by rw [List.size_toArray]; omega)
  have I1 : Inv X pins σ H { s with heap := h1 } := I.kept (t' := s.toks) kp
  have I2 : Inv X pins σ (upd H h1.objs.size (.frz { cls := .type "tuple", data := .seq its.toArray } (.tup ys))) { s with heap := h1.push { cls := .type "tuple", data := .seq its.toArray } } :=
    I1.laid (t' := s.toks) (fun b o e => Heap.get?_push_of_some _ e) (Nat.le_refl _) (show ObjOk X.prog X.w _ _ _ (.frz _ (.tup ys)) from ⟨Heap.get?_push_size _ rfl, hz, its, r', PyProof.Rows.IsTup.new _ _⟩)
  exact ⟨.ref h1.objs.size, _, I2, rfl, q _ _ (I1.hok.fresh (Nat.le_refl _)) rfl⟩
def tupXG : DG := fun ds M Q => match ds with
  | [.ref a] => match seqOf M a with
    | some xs => Q (.tup xs) M ∨ ∀ p, M p = none → Q (.ref p) (put M p (.xt xs))
    | none => False
  | _ => False
theorem call_tupXG {X : Cx} : CallR X (.type "tuple") (liftC X.K tupXG) := CallRimp cr_tupX fun xs H Q ⟨ds, M, Qd, q, r, hr, k⟩ => by
  unfold tupXG at q
  split at q
  · obtain ⟨v, rfl, rv⟩ := r.one
    rw [rv.toRef]
    split at q
    · rename_i ys e
      obtain ⟨vs, s, l⟩ := seqOf_ok hr e
      refine ⟨_, vs, rfl, s, fun p o hp ho => ?_⟩
      have e2 : TExt X.K H (upd H p (.frz o (.tup vs))) := .new hp
      rcases q with q | q
      · exact k _ M _ _ q e2 (.tup (.inl (.inr ⟨o, upd_same⟩)) (l.mono e2)) (hr.fresh hp)
      · exact k _ _ _ _ (q p (hr.free hp)) e2 (.ref p) (hr.made (o := .xt ys) (noTup_none hp) ⟨o, vs, upd_same, ho, l.mono e2⟩)
    · exact q.elim
  · exact q.elim
/-- for x in t, t known to be a tuple -/
def dIterX (te : DE) : DI := fun τ M Q E => te τ M (fun d M1 => match xtOf d M1 with
  | some its => Q its (fun _ => True) M1
  | none => False) E
section
variable {X : Cx} {W : DW} {tg e o : Expr} {es : List Expr} {te to : DE} {t : DA} {apos cpos : Pos}
theorem pid_xt (he : PD X W e te) : PID X W tg e (dIterX te) := ⟨⟨fun pins s σ H R I ⟨τ, M, Qd, Ed, hs, hr, q, we, k⟩ => by
  refine thn (he.run.run pins s σ H (fun v H1 => ∃ d M1, Rp X.K H1 v d ∧ HR X.K H1 M1 ∧ TExt X.K H H1 ∧ match xtOf d M1 with
    | some its => Qd its (fun _ => True) M1
    | none => False) I ⟨τ, M, _, Ed, hs, hr, q, we, fun d M1 v H1 q1 e1 r1 h1 => ⟨d, M1, r1, h1, e1, q1⟩⟩) fun u s1 ⟨v, H1, I1, ru, d, M1, rd, h1, e1, q1⟩ => ?_
  split at q1
  · rename_i its eit
    obtain ⟨a, ob, vs, rfl, hf, hn, l⟩ := xtOf_ok rd h1 eit
    cases ru
    have sq : SqT X.K H1 a vs := .inl (.inr ⟨ob, hf⟩)
    obtain ⟨_, _, _, z⟩ := I1.tuple sq
    exact iter_tup I1 sq (k its (fun _ => True) _ M1 H1 q1 e1 h1 (itOk_tup sq l z))
  · exact q1.elim⟩⟩
/-- t.index(y), t known to be a tuple -/
def dBX (g : DM) (to : DE) (t : DA) : DE := fun τ M Q E => to τ M (fun d M1 => (∃ xs, xtOf d M1 = some xs) ∧ t τ M1 (fun ds M2 => g d ds M2 Q) E) E
def tTIx (K : PySem.W.Frag) (r : V → List V → Hp → VK → Prop) (to : TE) (t : TA) : TE := fun σ H Q => to σ H fun x H1 => (∃ a o vs, x = V.ref a ∧ H1 a = some (.frz o (.tup vs)) ∧ o.dict = none) ∧ t σ H1 fun xs H2 => r x xs H2 Q
theorem pe_tindex {r : V → List V → Hp → VK → Prop} {to : TE} {t : TA} (hr : MtR X "tuple.index" r) (ho : PE X o to) (ha : PA X (e :: es) t)
    (hb : attributeBase o "index" X.env (eval o X.env) = eval o X.env)
    (hw : ((backTo cpos (starEach (e :: es) X.env)).all (fun x => !x.1) && (backToKw cpos (keywordEach [] X.env)).all (fun x => x.1.isSome)
      && decide ((e :: es).length + ([] : List Keyword).length + (if ([] : List Keyword).isEmpty then 0 else 1) < 30)) = true)
    (hl : (apos.endLine == cpos.line) = true) (hs : starEach (e :: es) X.env = (false, eval e X.env) :: starEach es X.env) (hp : (backTo cpos (starEach es X.env)).any (·.1) = false) :
    PE X (.Call (.Attribute o "index" apos) (e :: es) [] cpos) (tTIx X.K r to t) := by
  refine ⟨fun pins s σ H Q I h => wpAny_Call_method_late hb hw hl rfl (thn (ho.run pins s σ H _ I h) fun v s1 ⟨x, H1, I1, r1, ty, q1⟩ => ?_)⟩
  obtain ⟨a, ob, vs, rfl, hf, hn⟩ := ty
  cases r1
  obtain ⟨hg, hz, its, rv, g2⟩ := (show s1.heap.get? a = some ob ∧ ObjOk X.prog X.w H1 s1.heap a (.tup vs) from I1.hok a _ hf)
  obtain ⟨ob', hg', hc, _⟩ := g2
  rw [hg] at hg'; cases hg'
  refine ⟨"tuple", "tuple.index", F.plainAttrs_tuple, F.slot_tuple_index, F.type_tuple_index, ⟨ob, hg, hc⟩, fun b hb => by cases hb; exact ⟨ob, hg, hn⟩, ?_⟩
  have hA := ha.run cpos pins s1 σ H1 _ I1 q1
  rw [hs] at hA ⊢
  refine Calls.callWith_builtin (by show (false || (backTo cpos (starEach es X.env)).any (·.1)) = false; rw [hp]; rfl) (Calls.evalArgs_plain ?_)
  exact thn hA fun us s2 ⟨ws, H2, I2, r2, q2⟩ => hr pins s2 σ H2 (.ref a) ws (.ref a) us Q I2 rfl r2 q2
theorem pd_tindex {g : DM} (hm : MtR X "tuple.index" (liftM X.K g)) (ho : PD X W o to) (ha : PAD X W (e :: es) t)
    (hb : attributeBase o "index" X.env (eval o X.env) = eval o X.env := by rfl)
    (hw : ((backTo cpos (starEach (e :: es) X.env)).all (fun x => !x.1) && (backToKw cpos (keywordEach [] X.env)).all (fun x => x.1.isSome)
      && decide ((e :: es).length + ([] : List Keyword).length + (if ([] : List Keyword).isEmpty then 0 else 1) < 30)) = true := by rfl)
    (hl : (apos.endLine == cpos.line) = true := by rfl) (hs : starEach (e :: es) X.env = (false, eval e X.env) :: starEach es X.env := by rfl) (hp : (backTo cpos (starEach es X.env)).any (·.1) = false := by rfl) :
    PD X W (.Call (.Attribute o "index" apos) (e :: es) [] cpos) (dBX g to t) :=
  ⟨PEimp (pe_tindex hm ho.run ha.run hb hw hl hs hp) fun σ H Q ⟨τ, M, Qd, Ed, hs, hr, q, we, k⟩ => ⟨τ, M, _, Ed, hs, hr, q, we, fun d M1 v H1 q1 e1 r1 h1 => by
    obtain ⟨⟨xs, ex⟩, q1⟩ := q1
    obtain ⟨a, ob, vs, rfl, hf, hn, l⟩ := xtOf_ok r1 h1 ex
    exact ⟨⟨a, ob, vs, rfl, hf, hn⟩, τ, M1, _, Ed, hs.mono e1, h1, q1, we, fun ds M2 us H2 q2 e2 r2 h2 => ⟨d, ds, M2, Qd, q2, r1.mono e2, r2, h2, k.mono (e1.trans e2)⟩⟩⟩⟩
end
theorem LS.got {S : Addr → Prop} {M0 M M' : Mp} {s l : Addr} {ns : List Int} (J : LS S M0 M s l ns) (P : PSt M' s l ns) (e : Ext (Is s) M M') : LS S M0 M' s l ns := ⟨P, J.X.trans (e.one J.S), J.S⟩
theorem Own.got {S : Addr → Prop} {M0 M M' : Mp} {s l p : Addr} {ns : List Int} {o : MO} (J : LS S M0 M s l ns) (hp : M p = none) (h : M' p = some o) : Own S M0 M' s l p o := ⟨h, J.zeroA hp, (J.P.s_some hp).1, (J.P.s_some hp).2⟩
theorem Own.new0 {M0 M : Mp} {s l p : Addr} {o : MO} (O : Own (Is s) M0 M s l p o) : M0 p = none := O.z.resolve_right O.ns
theorem er_map {α β : Type} (f : α → β) : ∀ (l : List α) (j : Nat), (l.map f).eraseIdx j = (l.eraseIdx j).map f
  | [], j => by simp
  | a :: l, 0 => by simp
  | a :: l, j + 1 => by simp [er_map f l j]
theorem perm_pop {α : Type} : ∀ {P : List α} {j : Nat} {x : α}, P[j]? = some x → (x :: P.eraseIdx j).Perm P
  | [], j, x, h => by simp at h
  | a :: P, 0, x, h => by simp at h; subst h; simp
  | a :: P, j + 1, x, h => by
    rw [List.eraseIdx_cons_succ]
    exact (List.Perm.swap _ _ _).trans (List.Perm.cons a (perm_pop (by simpa using h)))
end DL

set_option maxHeartbeats 4000000
/-! sum(xs) of a list or a tuple of ints -/
namespace DLmax
open PySem PySem.Spec PyProof.Rows L2
section
variable {prog : Program} {w : World} {A : Around} {E : Value → Shared → Prop} {s : Shared} {l : Addr} {its : List Value} {ns : List Int}
theorem sum_tupI {Q : Value → Shared → Prop} (hh : A.handled = none) (hl : s.heap.IsTuple l its.toArray) (hi : IntsAre its ns)
    (h : ∀ h' tk t', (∀ b o, s.heap.get? b = some o → h'.get? b = some o) → Q (.int ns.sum t') { s with heap := h', toks := tk }) : wpAny (model prog w) A (call (.builtin "sum") [.ref l]) Q E s := by
  obtain ⟨zs, e⟩ := hi.allInts.items
  have hn : numsOf (intItems zs).toList = ns := by rw [← e]; exact hi.numsOf
  rw [nums_intItems] at hn
  rw [e] at hl
  have hlt : l < s.heap.objs.size := by obtain ⟨_, g, _⟩ := id hl; exact Heap.lt_size g
  refine call_sum_walkG (wpAny_pyIter_tuple hl ?_)
  refine ⟨_, _, _, _, _, _, numAt zs, rfl, Walks.tuple (A := A.in1) hh _ l (Nat.ne_of_lt hlt) (intItems zs), ⟨⟨_, Heap.get?_push_size _ rfl, rfl, rfl⟩, hl.push _⟩, ?_, (fun _ _ => intItems_at), fun h' tk t' hk => ?_⟩
  · intro b hb
    show b < (s.heap.push _).objs.size
    rw [Heap.size_push]
    rcases List.mem_cons.mp hb with rfl | hb
    · exact Nat.lt_succ_self _
    · rw [List.mem_singleton.mp hb]; exact Nat.lt_succ_of_lt hlt
  · have := h h' tk t' fun b o g => hk b o (fun z => Nat.ne_of_lt (Heap.lt_size g) (List.mem_singleton.mp z)) (Heap.get?_push_of_some _ g)
    have e2 : preSum (numAt zs) (intItems zs).size = ns.sum := by
      rw [preSum_eq, List.take_of_length_le (by simp [intItems]), hn]
    rw [e2]
    exact this
end
def rSumT (K : PySem.W.Frag) : List V → Hp → VK → Prop := fun vs H Q => ∃ (a : Addr) (ns : List Int), vs = [V.ref a] ∧ SqT K H a (ns.map V.int) ∧ Q (.int ns.sum) H
theorem cr_sumT {X : Cx} (hc : X.calm = true) : CallR X (.builtin "sum") (rSumT X.K) := by
  intro pins s σ H vs us Q I r ⟨a, ns, e, hs, q⟩
  subst e
  obtain ⟨its, rv, pl, hz⟩ := I.tuple hs
  rw [Vals.ref1 r]
  exact sum_tupI (I.ok.hd hc) (show s.heap.IsTuple a its.toArray from pl) rv.ints fun h' tk t' hk => ⟨.int _, H, I.kept hk, ⟨_, rfl⟩, q⟩
end DLmax
namespace DL
open PySem PySem.Spec L2 DLmax
def sumSeqG : DG := fun ds M Q => match ds with
  | [d] => ∃ (xs : List D) (ns : List Int), seqD d M = some xs ∧ xs = ns.map D.int ∧ Q (.int ns.sum) M
  | _ => False
theorem call_sumSeqG {X : Cx} (hc : X.calm = true) : CallR X (.builtin "sum") (liftC X.K sumSeqG) := CallRimp (CallR.or (cr_sum hc) (cr_sumT hc)) fun xs H Q ⟨ds, M, Qd, q, r, hr, k⟩ => by
  unfold sumSeqG at q
  split at q
  · rename_i d
    obtain ⟨v, rfl, rv⟩ := r.one
    obtain ⟨xs, ns, e, rfl, q⟩ := q
    obtain ⟨a, vs, rfl, s, l⟩ := seqD_ok rv hr e
    rw [l.ints] at s
    rcases s with s | s
    · exact .inl ⟨a, ns, rfl, s, k _ M _ H q .refl (.int _) hr⟩
    · exact .inr ⟨a, ns, rfl, s, k _ M _ H q .refl (.int _) hr⟩
  · exact q.elim
theorem ix_last {M : Mp} {a : Addr} {xs : List D} {y : D} {Q : DK} (h : M a = some (.lst (xs ++ [y]))) : ixG (.ref a) (.int (-1)) M Q = Q y M := by
  have e : atI (xs ++ [y]) (-1) = some y := by
    unfold atI ixN
    have e0 : (xs ++ [y]).length = xs.length + 1 := by simp
    rw [e0, if_neg (by omega), if_pos (by omega)]
    have e1 : (((xs.length + 1 : Nat) : Int) + (-1)).toNat = xs.length := by omega
    have e2 : ((-1 : Int) + ((xs.length + 1 : Nat) : Int)).toNat = xs.length := by omega
    first
      | (rw [e1]; simp)
      | (rw [e2]; simp)
  unfold ixG
  simp only [seqOf, h, Option.bind_some, e]
end DL

set_option maxHeartbeats 4000000
namespace DQ
open PySem PySem.Spec L2 DL
/-! ### plain values: no flags, no addresses -/
mutual
def pvD : D → Bool
  | .non => true
  | .int _ => true
  | .str x => x.cps.all (· < 0x110000)
  | .tup xs => decide (xs.length ≤ 1000) && pvDL xs
  | .bl _ => false
  | .ref _ => false
  | .ty _ => false
def pvDL : List D → Bool
  | [] => true
  | d :: ds => pvD d && pvDL ds
end
theorem pvT {xs : List D} (h : pvD (.tup xs) = true) : xs.length ≤ 1000 ∧ pvDL xs = true := by
  rw [pvD, Bool.and_eq_true] at h
  exact ⟨of_decide_eq_true h.1, h.2⟩
theorem pvT_of {xs : List D} (h : xs.length ≤ 1000) (h2 : pvDL xs = true) : pvD (.tup xs) = true := by
  rw [pvD, h2, decide_eq_true h]; rfl
mutual
theorem pv_ok : ∀ {d : D}, pvD d = true → ok d = true
  | .non, _ => rfl
  | .int _, _ => rfl
  | .str x, h => by simpa [pvD, ok] using h
  | .tup xs, h => by rw [ok]; exact pvL_ok (pvT h).2
  | .bl _, h => by cases h
  | .ref _, h => by cases h
  | .ty _, h => by cases h
theorem pvL_ok : ∀ {d : List D}, pvDL d = true → okL d = true
  | [], _ => rfl
  | d :: ds, h => by
    rw [pvDL, Bool.and_eq_true] at h
    rw [okL, pv_ok h.1, pvL_ok h.2]; rfl
end
mutual
theorem eqb_iff : ∀ {x y : D}, pvD x = true → pvD y = true → (eqb x y = true ↔ x = y)
  | .non, y, _, k => by cases y <;> simp_all [eqb, pvD]
  | .int _, y, _, k => by cases y <;> simp_all [eqb, pvD]
  | .str _, y, _, k => by cases y <;> simp_all [eqb, pvD]
  | .tup xs, y, h, k => by
    cases y with
    | tup ys =>
      rw [eqb, eqbL_iff (pvT h).2 (pvT k).2]
      constructor
      · rintro rfl; rfl
      · intro e; injection e
    | _ => simp_all [eqb, pvD]
  | .bl _, _, h, _ => by cases h
  | .ref _, _, h, _ => by cases h
  | .ty _, _, h, _ => by cases h
theorem eqbL_iff : ∀ {x y : List D}, pvDL x = true → pvDL y = true → (eqbL x y = true ↔ x = y)
  | [], y, _, k => by cases y <;> simp [eqbL]
  | x :: xs, y, h, k => by
    cases y with
    | nil => simp [eqbL]
    | cons y ys =>
      rw [pvDL, Bool.and_eq_true] at h k
      rw [eqbL, Bool.and_eq_true, eqb_iff h.1 k.1, eqbL_iff h.2 k.2]
      simp
end
theorem pvL_mem : ∀ {xs : List D}, pvDL xs = true ↔ ∀ x ∈ xs, pvD x = true
  | [] => by simp [pvDL]
  | x :: xs => by rw [pvDL, Bool.and_eq_true, pvL_mem (xs := xs)]; simp
theorem depL_le {n : Nat} : ∀ {xs : List D}, (∀ x ∈ xs, dep x ≤ n) → depL xs ≤ n
  | [], _ => by simp [depL]
  | x :: xs, h => by
    rw [depL]
    have h1 := h x (by simp)
    have h2 := depL_le (xs := xs) fun y hy => h y (List.mem_cons_of_mem _ hy)
    omega
theorem depL_mem {x : D} : ∀ {xs : List D}, x ∈ xs → dep x ≤ depL xs
  | y :: ys, h => by
    rw [depL]
    rcases List.mem_cons.mp h with rfl | h
    · omega
    · have := depL_mem h; omega
def okV (v : D) : Prop := pvD v = true ∧ dep v ≤ 60
/-! ### query terms -/
inductive QT where
  | tell (v : D)
  | look (p : Int) (bs : List QT)
instance : Inhabited QT := ⟨.tell .non⟩
mutual
def QT.toD : QT → D
  | .tell v => .tup [.str "tell", v]
  | .look p bs => .tup (.str "look" :: .int p :: toDs bs)
def toDs : List QT → List D
  | [] => []
  | t :: ts => t.toD :: toDs ts
end
theorem toDs_map : ∀ ts : List QT, toDs ts = ts.map QT.toD
  | [] => by simp [toDs]
  | t :: ts => by simp [toDs, toDs_map ts]
theorem str_ne : (Str.ofString "tell") ≠ Str.ofString "look" := by rw [Ne, ofS_inj]; decide
mutual
theorem toD_inj : ∀ {a b : QT}, a.toD = b.toD → a = b
  | .tell v, .tell u, h => by
    simp only [QT.toD, D.tup.injEq, List.cons.injEq, and_true, true_and] at h
    rw [h]
  | .tell v, .look p bs, h => by
    simp only [QT.toD, D.tup.injEq, List.cons.injEq] at h
    exact absurd (D.str.inj h.1) str_ne
  | .look p bs, .tell v, h => by
    simp only [QT.toD, D.tup.injEq, List.cons.injEq] at h
    exact absurd (D.str.inj h.1).symm str_ne
  | .look p bs, .look q cs, h => by
    simp only [QT.toD, D.tup.injEq, List.cons.injEq, true_and, D.int.injEq] at h
    rw [h.1, toDs_inj h.2]
theorem toDs_inj : ∀ {a b : List QT}, toDs a = toDs b → a = b
  | [], [], _ => rfl
  | [], b :: bs, h => by simp [toDs] at h
  | a :: as, [], h => by simp [toDs] at h
  | a :: as, b :: bs, h => by
    simp only [toDs, List.cons.injEq] at h
    rw [toD_inj h.1, toDs_inj h.2]
end
/-! ### widths -/
def wd (ws : List Nat) (p : Int) : Nat := ws.getD (p % (ws.length : Int)).toNat 1
def okW (ws : List Nat) : Prop := 1 ≤ ws.length ∧ ws.length ≤ 6 ∧ ∀ w ∈ ws, 1 ≤ w ∧ w ≤ 4
def wsD (ws : List Nat) : D := .tup (ws.map fun w => D.int ((w : Nat) : Int))
theorem wd_in {ws : List Nat} (h : okW ws) (p : Int) : ∃ i, (p % (ws.length : Int)) = ((i : Nat) : Int) ∧ i < ws.length ∧ ws[i]? = some (wd ws p) ∧ wd ws p ∈ ws := by
  have h1 := h.1
  have a := Int.emod_nonneg p (show (ws.length : Int) ≠ 0 by omega)
  have b := Int.emod_lt_of_pos p (show (0 : Int) < ws.length by omega)
  have hi : (p % (ws.length : Int)).toNat < ws.length := by omega
  have e : ws[(p % (ws.length : Int)).toNat]? = some (wd ws p) := by
    unfold wd
    rw [List.getD_eq_getElem?_getD, List.getElem?_eq_getElem hi]; rfl
  exact ⟨(p % (ws.length : Int)).toNat, by omega, hi, e, List.mem_of_getElem? e⟩
theorem wd_pos {ws : List Nat} (h : okW ws) (p : Int) : 1 ≤ wd ws p ∧ wd ws p ≤ 4 := by
  obtain ⟨_, _, _, _, m⟩ := wd_in h p
  exact h.2.2 _ m
/-! ### what is known, and what a term tells -/
abbrev Kn := Int → Nat
def upk (k : Kn) (p : Int) (o : Nat) : Kn := fun q => if q = p then o else k q
def k0 : Kn := fun _ => 0
def vk (ws : List Nat) (k : Kn) : Prop := ∀ p, k p < wd ws p
theorem upk_same {k : Kn} {p : Int} {o : Nat} : upk k p o p = o := by simp [upk]
theorem upk_ne {k : Kn} {p q : Int} {o : Nat} (h : q ≠ p) : upk k p o q = k q := by simp [upk, h]
theorem upk_upk {k : Kn} {p : Int} {o u : Nat} : upk (upk k p o) p u = upk k p u := by funext q; unfold upk; split <;> rfl
theorem upk_id {k : Kn} {p : Int} : upk k p (k p) = k := by funext q; unfold upk; split <;> simp_all
theorem upk_comm {k : Kn} {p q : Int} {o u : Nat} (h : p ≠ q) : upk (upk k p o) q u = upk (upk k q u) p o := by
  funext r
  unfold upk
  by_cases c : r = p <;> by_cases d : r = q <;> simp_all
theorem vk_k0 {ws : List Nat} (h : okW ws) : vk ws k0 := fun p => (wd_pos h p).1
theorem vk_upk {ws : List Nat} {k : Kn} {p : Int} {o : Nat} (h : vk ws k) (ho : o < wd ws p) : vk ws (upk k p o) := fun q => by
  by_cases c : q = p
  · subst c; rw [upk_same]; exact ho
  · rw [upk_ne c]; exact h q
mutual
def QT.ev : QT → Kn → D
  | .tell v, _ => v
  | .look p bs, k => evAt bs (k p) k
def evAt : List QT → Nat → Kn → D
  | [], _, _ => .non
  | t :: _, 0, k => t.ev k
  | _ :: ts, n + 1, k => evAt ts n k
end
theorem evAt_get {k : Kn} : ∀ {ts : List QT} {n : Nat} {t : QT}, ts[n]? = some t → evAt ts n k = t.ev k
  | t :: ts, 0, u, h => by simp at h; subst h; rw [evAt]
  | t :: ts, n + 1, u, h => by rw [evAt]; exact evAt_get (by simpa using h)
mutual
def QT.ht : QT → Nat
  | .tell _ => 0
  | .look _ bs => htL bs + 1
def htL : List QT → Nat
  | [] => 0
  | t :: ts => max t.ht (htL ts)
end
theorem htL_mem : ∀ {ts : List QT} {t : QT}, t ∈ ts → t.ht ≤ htL ts
  | t :: ts, u, h => by
    rw [htL]
    rcases List.mem_cons.mp h with rfl | h
    · omega
    · have := htL_mem h; omega
theorem htL_le {n : Nat} : ∀ {ts : List QT}, (∀ t ∈ ts, t.ht ≤ n) → htL ts ≤ n
  | [], _ => by simp [htL]
  | t :: ts, h => by
    rw [htL]
    have := h t (by simp)
    have := htL_le (ts := ts) fun u hu => h u (List.mem_cons_of_mem _ hu)
    omega
mutual
def QT.nk : QT → Nat
  | .tell _ => 0
  | .look _ bs => 1 + nkL bs
def nkL : List QT → Nat
  | [] => 0
  | t :: ts => t.nk + nkL ts
end
theorem nkL_sum : ∀ ts : List QT, nkL ts = (ts.map QT.nk).sum
  | [] => by simp [nkL]
  | t :: ts => by simp [nkL, nkL_sum ts]
mutual
/-- the places that are looked at -/
def QT.occ : QT → Int → Prop
  | .tell _, _ => False
  | .look p bs, q => q = p ∨ occL bs q
def occL : List QT → Int → Prop
  | [], _ => False
  | t :: ts, q => t.occ q ∨ occL ts q
end
theorem occL_mem : ∀ {ts : List QT} {q : Int}, occL ts q ↔ ∃ t ∈ ts, t.occ q
  | [], q => by simp [occL]
  | t :: ts, q => by rw [occL, occL_mem (ts := ts)]; simp
mutual
def QT.named : QT → List Int
  | .tell _ => []
  | .look p bs => sset (p :: namedL bs)
def namedL : List QT → List Int
  | [] => []
  | t :: ts => t.named ++ namedL ts
end
mutual
theorem mem_named : ∀ {t : QT} {q : Int}, q ∈ t.named ↔ t.occ q
  | .tell _, q => by simp [QT.named, QT.occ]
  | .look p bs, q => by rw [QT.named, mem_sset, List.mem_cons, mem_namedL, QT.occ]
theorem mem_namedL : ∀ {ts : List QT} {q : Int}, q ∈ namedL ts ↔ occL ts q
  | [], q => by simp [namedL, occL]
  | t :: ts, q => by rw [namedL, List.mem_append, mem_named, mem_namedL, occL]
end
theorem asc_named : ∀ t : QT, t.named.Pairwise (· < ·)
  | .tell _ => by simp [QT.named]
  | .look p bs => by rw [QT.named]; exact asc_sset _
theorem named_of {t : QT} {P : List Int} (h : P.Pairwise (· < ·)) (hm : ∀ q, q ∈ P ↔ t.occ q) : t.named = P := asc_unique (asc_named t) h fun q => by rw [mem_named, hm]
mutual
def QT.tells : QT → List D
  | .tell v => [v]
  | .look _ bs => tellsL bs
def tellsL : List QT → List D
  | [] => []
  | t :: ts => t.tells ++ tellsL ts
end
theorem tellsL_flat : ∀ ts : List QT, tellsL ts = ts.flatMap QT.tells
  | [] => by simp [tellsL]
  | t :: ts => by simp [tellsL, tellsL_flat ts]
mutual
def QT.wf (ws : List Nat) : QT → Prop
  | .tell v => okV v
  | .look p bs => 0 ≤ p ∧ p < 100 ∧ bs.length = wd ws p ∧ wfL ws bs
def wfL (ws : List Nat) : List QT → Prop
  | [] => True
  | t :: ts => t.wf ws ∧ wfL ws ts
end
theorem wfL_mem {ws : List Nat} : ∀ {ts : List QT}, wfL ws ts ↔ ∀ t ∈ ts, t.wf ws
  | [] => by simp [wfL]
  | t :: ts => by rw [wfL, wfL_mem (ts := ts)]; simp
mutual
theorem toD_pv {ws : List Nat} (W : okW ws) : ∀ {t : QT}, t.wf ws → pvD t.toD = true
  | .tell v, h => by
    have : pvD (.str "tell") = true := by decide +kernel
    rw [QT.toD]
    refine pvT_of (by simp) ?_
    rw [pvDL, pvDL, pvDL, (show okV v from by simpa [QT.wf] using h).1, this]; rfl
  | .look p bs, h => by
    have h' := (show 0 ≤ p ∧ p < 100 ∧ bs.length = wd ws p ∧ wfL ws bs from by simpa [QT.wf] using h).2.2
    have : pvD (.str "look") = true := by decide +kernel
    rw [QT.toD]
    refine pvT_of ?_ ?_
    · have := wd_pos W p
      rw [toDs_map]; simp only [List.length_cons, List.length_map]; omega
    · rw [pvDL, pvDL, toDs_pv W h'.2, pvD, this]; rfl
theorem toDs_pv {ws : List Nat} (W : okW ws) : ∀ {t : List QT}, wfL ws t → pvDL (toDs t) = true
  | [], _ => rfl
  | t :: ts, h => by
    rw [wfL] at h
    rw [toDs, pvDL, toD_pv W h.1, toDs_pv W h.2]; rfl
end
mutual
theorem toD_dep {ws : List Nat} : ∀ {t : QT}, t.wf ws → dep t.toD ≤ t.ht + 61
  | .tell v, h => by
    have := (show okV v from by simpa [QT.wf] using h).2
    rw [QT.toD, dep, QT.ht]
    simp only [depL, dep]
    omega
  | .look p bs, h => by
    have h' := (show 0 ≤ p ∧ p < 100 ∧ bs.length = wd ws p ∧ wfL ws bs from by simpa [QT.wf] using h).2.2.2
    have := toDs_dep h'
    rw [QT.toD, dep, QT.ht]
    simp only [depL, dep]
    omega
theorem toDs_dep {ws : List Nat} : ∀ {t : List QT}, wfL ws t → depL (toDs t) ≤ htL t + 61
  | [], _ => by simp [toDs, depL]
  | t :: ts, h => by
    rw [wfL] at h
    have h1 := toD_dep h.1
    have h2 := toDs_dep h.2
    rw [toDs, depL, htL]
    omega
end
mutual
/-- a term looks only at places that it names -/
theorem ev_cg : ∀ {t : QT} {k k' : Kn}, (∀ q, t.occ q → k q = k' q) → t.ev k = t.ev k'
  | .tell v, _, _, _ => by rw [QT.ev, QT.ev]
  | .look p bs, k, k', h => by
    rw [QT.ev, QT.ev, h p (by rw [QT.occ]; exact .inl rfl)]
    exact evAt_cg fun q hq => h q (by rw [QT.occ]; exact .inr hq)
theorem evAt_cg : ∀ {ts : List QT} {n : Nat} {k k' : Kn}, (∀ q, occL ts q → k q = k' q) → evAt ts n k = evAt ts n k'
  | [], _, _, _, _ => by rw [evAt, evAt]
  | t :: ts, 0, k, k', h => by rw [evAt, evAt]; exact ev_cg fun q hq => h q (by rw [occL]; exact .inl hq)
  | t :: ts, n + 1, k, k', h => by rw [evAt, evAt]; exact evAt_cg fun q hq => h q (by rw [occL]; exact .inr hq)
end
mutual
theorem ev_ok {ws : List Nat} {k : Kn} (hk : vk ws k) : ∀ {t : QT}, t.wf ws → okV (t.ev k)
  | .tell v, h => by rw [QT.ev]; simpa [QT.wf] using h
  | .look p bs, h => by
    have h' := (show 0 ≤ p ∧ p < 100 ∧ bs.length = wd ws p ∧ wfL ws bs from by simpa [QT.wf] using h).2.2
    rw [QT.ev]
    exact evAt_ok hk h'.2 (by rw [h'.1]; exact hk p)
theorem evAt_ok {ws : List Nat} {k : Kn} (hk : vk ws k) : ∀ {ts : List QT} {n : Nat}, wfL ws ts → n < ts.length → okV (evAt ts n k)
  | [], _, _, h => absurd h (by simp)
  | t :: ts, 0, h, _ => by rw [wfL] at h; rw [evAt]; exact ev_ok hk h.1
  | t :: ts, n + 1, h, hn => by rw [wfL] at h; rw [evAt]; exact evAt_ok hk h.2 (by simpa using hn)
end
end DQ

set_option maxHeartbeats 4000000
namespace DQ
open PySem PySem.Spec L2 DL
/-! ### settled terms -/
def fx (f : Kn → D) (p : Int) (o : Nat) : Kn → D := fun k => f (upk k p o)
open Classical in
noncomputable def look1 (p : Int) (bs : List QT) : QT := if ∀ b ∈ bs, b = bs.headD default then bs.headD default else .look p bs
noncomputable def sett (ws : List Nat) : List Int → (Kn → D) → QT
  | [], f => .tell (f k0)
  | p :: ps, f => look1 p ((List.range (wd ws p)).map fun o => sett ws ps (fx f p o))
noncomputable def bsOf (ws : List Nat) (p : Int) (ps : List Int) (f : Kn → D) : List QT := (List.range (wd ws p)).map fun o => sett ws ps (fx f p o)
theorem sett_cons {ws : List Nat} {p : Int} {ps : List Int} {f : Kn → D} : sett ws (p :: ps) f = look1 p (bsOf ws p ps f) := rfl
section
variable {ws : List Nat} (W : okW ws)
include W
theorem bsOf_len {p : Int} {ps : List Int} {f : Kn → D} : (bsOf ws p ps f).length = wd ws p := by simp [bsOf]
theorem bsOf_at {p : Int} {ps : List Int} {f : Kn → D} {o : Nat} (h : o < wd ws p) : (bsOf ws p ps f)[o]? = some (sett ws ps (fx f p o)) := by
  unfold bsOf; rw [List.getElem?_map, List.getElem?_range h]; rfl
theorem bsOf_head {p : Int} {ps : List Int} {f : Kn → D} : (bsOf ws p ps f).headD default = sett ws ps (fx f p 0) := by
  have := bsOf_at (p := p) (ps := ps) (f := f) W (wd_pos W p).1
  cases e : bsOf ws p ps f with
  | nil => rw [e] at this; simp at this
  | cons a l => rw [e] at this; simpa using this
theorem mem_bsOf {p : Int} {ps : List Int} {f : Kn → D} {t : QT} : t ∈ bsOf ws p ps f ↔ ∃ o, o < wd ws p ∧ t = sett ws ps (fx f p o) := by
  unfold bsOf
  rw [List.mem_map]
  constructor
  · rintro ⟨o, ho, rfl⟩; exact ⟨o, List.mem_range.mp ho, rfl⟩
  · rintro ⟨o, ho, rfl⟩; exact ⟨o, List.mem_range.mpr ho, rfl⟩
/-- all branches are one, or it is a look -/
theorem sett_split {p : Int} {ps : List Int} {f : Kn → D} :
    ((∀ o, o < wd ws p → sett ws ps (fx f p o) = sett ws ps (fx f p 0)) ∧ sett ws (p :: ps) f = sett ws ps (fx f p 0)) ∨
    ((∃ o, o < wd ws p ∧ sett ws ps (fx f p o) ≠ sett ws ps (fx f p 0)) ∧ sett ws (p :: ps) f = .look p (bsOf ws p ps f)) := by
  rw [sett_cons]
  unfold look1
  split
  · rename_i h
    refine .inl ⟨fun o ho => ?_, bsOf_head W⟩
    have := h _ ((mem_bsOf W).mpr ⟨o, ho, rfl⟩)
    rw [bsOf_head W] at this
    exact this
  · rename_i h
    refine .inr ⟨Classical.byContradiction fun hn => h fun b hb => ?_, rfl⟩
    obtain ⟨o, ho, rfl⟩ := (mem_bsOf W).mp hb
    rw [bsOf_head W]
    exact Classical.byContradiction fun hc => hn ⟨o, ho, hc⟩
theorem sett_cg : ∀ {P : List Int} {f g : Kn → D}, (∀ k, vk ws k → f k = g k) → sett ws P f = sett ws P g
  | [], f, g, h => by rw [sett, sett, h k0 (vk_k0 W)]
  | p :: ps, f, g, h => by
    rw [sett, sett]
    congr 1
    refine List.map_congr_left fun o ho => ?_
    have ho := List.mem_range.mp ho
    exact sett_cg fun k hk => h _ (vk_upk hk ho)
omit W in
/-- the places where it does not matter -/
def inds (ws : List Nat) (f : Kn → D) (p : Int) : Prop := ∀ k o, vk ws k → o < wd ws p → f (upk k p o) = f k
omit W in
def needs (ws : List Nat) (f : Kn → D) (p : Int) : Prop := ¬ inds ws f p
omit W in
def onlyOn (ws : List Nat) (f : Kn → D) (P : List Int) : Prop := ∀ k k', vk ws k → vk ws k' → (∀ p ∈ P, k p = k' p) → f k = f k'
omit W in
theorem onlyOn_wide {f : Kn → D} {P P' : List Int} (h : onlyOn ws f P) (s : ∀ p ∈ P, p ∈ P') : onlyOn ws f P' := fun k k' a b e => h k k' a b fun p hp => e p (s p hp)
omit W in
theorem onlyOn_fx {f : Kn → D} {p : Int} {ps : List Int} {o : Nat} (h : onlyOn ws f (p :: ps)) (ho : o < wd ws p) : onlyOn ws (fx f p o) ps := fun k k' a b e => by
  refine h _ _ (vk_upk a ho) (vk_upk b ho) fun q hq => ?_
  by_cases c : q = p
  · subst c; rw [upk_same, upk_same]
  · rw [upk_ne c, upk_ne c]
    exact e q ((List.mem_cons.mp hq).resolve_left c)
omit W in
theorem onlyOn_out {f : Kn → D} {P : List Int} {p : Int} (h : onlyOn ws f P) (hp : p ∉ P) : inds ws f p := fun k o hk ho => h _ _ (vk_upk hk ho) hk fun q hq => upk_ne (fun e => hp (e ▸ hq))
omit W in
theorem inds_fx {f : Kn → D} {p q : Int} {o : Nat} (h : inds ws f q) (ho : o < wd ws p) : inds ws (fx f p o) q := fun k u hk hu => by
  unfold fx
  by_cases c : q = p
  · subst c; rw [upk_upk]
  · rw [upk_comm c]; exact h _ _ (vk_upk hk ho) hu
theorem sett_skip {f : Kn → D} {p : Int} {ps : List Int} (h : inds ws f p) : sett ws (p :: ps) f = sett ws ps f := by
  have e : ∀ o, o < wd ws p → sett ws ps (fx f p o) = sett ws ps f := fun o ho => sett_cg W fun k hk => h k o hk ho
  have w0 := (wd_pos W p).1
  rcases sett_split W (p := p) (ps := ps) (f := f) with ⟨_, h2⟩ | ⟨⟨o, ho, hc⟩, _⟩
  · rw [h2]; exact e 0 w0
  · exact absurd ((e o ho).trans (e 0 w0).symm) hc
theorem sett_filter {S : Int → Bool} : ∀ {P : List Int} {f : Kn → D}, (∀ p ∈ P, S p = false → inds ws f p) → sett ws P f = sett ws (P.filter S) f
  | [], f, _ => rfl
  | p :: ps, f, h => by
    by_cases c : S p = true
    · rw [List.filter_cons_of_pos c, sett, sett]
      congr 1
      refine List.map_congr_left fun o ho => ?_
      exact sett_filter fun q hq hs => inds_fx (h q (List.mem_cons_of_mem _ hq) hs) (List.mem_range.mp ho)
    · rw [List.filter_cons_of_neg c, sett_skip W (h p (by simp) (by simpa using c))]
      exact sett_filter fun q hq hs => h q (List.mem_cons_of_mem _ hq) hs
open Classical in
theorem sett_needed {f : Kn → D} {P : List Int} : sett ws P f = sett ws (P.filter fun p => decide (needs ws f p)) f :=
  sett_filter W fun p _ hs => Classical.byContradiction fun hn => by simp [needs, hn] at hs
open Classical in
/-- one settled term for one function, whatever places are named -/
theorem sett_one {f : Kn → D} {P P' : List Int} (a : P.Pairwise (· < ·)) (b : P'.Pairwise (· < ·)) (h : onlyOn ws f P) (h' : onlyOn ws f P') : sett ws P f = sett ws P' f := by
  rw [sett_needed W (P := P), sett_needed W (P := P')]
  congr 1
  refine asc_unique (a.sublist List.filter_sublist) (b.sublist List.filter_sublist) fun k => ?_
  simp only [List.mem_filter, decide_eq_true_eq]
  constructor
  · rintro ⟨_, hn⟩; exact ⟨Classical.byContradiction fun hc => hn (onlyOn_out h' hc), hn⟩
  · rintro ⟨_, hn⟩; exact ⟨Classical.byContradiction fun hc => hn (onlyOn_out h hc), hn⟩
theorem sett_ev : ∀ {P : List Int} {f : Kn → D} {k : Kn}, onlyOn ws f P → vk ws k → (sett ws P f).ev k = f k
  | [], f, k, h, hk => by rw [sett, QT.ev]; exact h _ _ (vk_k0 W) hk fun _ z => nomatch z
  | p :: ps, f, k, h, hk => by
    have hb : ∀ o, o < wd ws p → (sett ws ps (fx f p o)).ev k = f (upk k p o) := fun o ho => sett_ev (onlyOn_fx h ho) hk
    rcases sett_split W (p := p) (ps := ps) (f := f) with ⟨h1, h2⟩ | ⟨_, h2⟩
    · rw [h2, ← h1 (k p) (hk p), hb _ (hk p), upk_id]
    · rw [h2, QT.ev, evAt_get (bsOf_at W (hk p)), hb _ (hk p), upk_id]
theorem sett_eq_iff {P : List Int} {f g : Kn → D} (hf : onlyOn ws f P) (hg : onlyOn ws g P) : sett ws P f = sett ws P g ↔ ∀ k, vk ws k → f k = g k :=
  ⟨fun e k hk => by rw [← sett_ev W hf hk, e, sett_ev W hg hk], fun h => sett_cg W h⟩
theorem alls_inds {f : Kn → D} {p : Int} {ps : List Int} (h : onlyOn ws f (p :: ps)) (h1 : ∀ o, o < wd ws p → sett ws ps (fx f p o) = sett ws ps (fx f p 0)) : inds ws f p := by
  have w0 := (wd_pos W p).1
  have e : ∀ k o, vk ws k → o < wd ws p → f (upk k p o) = f (upk k p 0) := fun k o hk ho => (sett_eq_iff W (onlyOn_fx h ho) (onlyOn_fx h w0)).mp (h1 o ho) k hk
  intro k o hk ho
  have := e k (k p) hk (hk p)
  rw [upk_id] at this
  rw [e k o hk ho, this]
theorem sett_occ : ∀ {P : List Int} {f : Kn → D} {q : Int}, onlyOn ws f P → P.Pairwise (· < ·) → ((sett ws P f).occ q ↔ q ∈ P ∧ needs ws f q)
  | [], f, q, _, _ => by rw [sett, QT.occ]; simp
  | p :: ps, f, q, h, a => by
    obtain ⟨a1, a2⟩ := List.pairwise_cons.mp a
    have w0 := (wd_pos W p).1
    rcases sett_split W (p := p) (ps := ps) (f := f) with ⟨h1, h2⟩ | ⟨⟨o1, ho1, hc⟩, h2⟩
    · have hi := alls_inds W h h1
      rw [h2, sett_cg W (f := fx f p 0) (g := f) fun k hk => hi k 0 hk w0]
      have hf : onlyOn ws f ps := fun k k' u v e => by
        have := onlyOn_fx h w0 k k' u v e
        rw [fx, fx, hi k 0 u w0, hi k' 0 v w0] at this
        exact this
      rw [sett_occ hf a2, List.mem_cons]
      constructor
      · rintro ⟨x, y⟩; exact ⟨.inr x, y⟩
      · rintro ⟨x | x, y⟩
        · subst x; exact absurd hi y
        · exact ⟨x, y⟩
    · have hp : needs ws f p := fun hi => hc (sett_cg W fun k hk => (hi k o1 hk ho1).trans (hi k 0 hk w0).symm)
      rw [h2, QT.occ, occL_mem, List.mem_cons]
      constructor
      · rintro (rfl | ⟨t, ht, hq⟩)
        · exact ⟨.inl rfl, hp⟩
        · obtain ⟨o, ho, rfl⟩ := (mem_bsOf W).mp ht
          obtain ⟨x, y⟩ := (sett_occ (onlyOn_fx h ho) a2).mp hq
          exact ⟨.inr x, fun hi => y (inds_fx hi ho)⟩
      · rintro ⟨rfl | x, y⟩
        · exact .inl rfl
        · by_cases c : q = p
          · exact .inl c
          refine .inr ?_
          refine Classical.byContradiction fun hn => y fun k o hk ho => ?_
          have hkp := hk p
          have hi : inds ws (fx f p (k p)) q := Classical.byContradiction fun z => hn ⟨_, (mem_bsOf W).mpr ⟨k p, hkp, rfl⟩, (sett_occ (onlyOn_fx h hkp) a2).mpr ⟨x, z⟩⟩
          have := hi k o hk ho
          unfold fx at this
          rw [upk_comm c, upk_id] at this
          exact this
open Classical in
theorem sett_named {P : List Int} {f : Kn → D} (h : onlyOn ws f P) (a : P.Pairwise (· < ·)) : (sett ws P f).named = P.filter fun p => decide (needs ws f p) :=
  named_of (a.sublist List.filter_sublist) fun q => by rw [sett_occ W h a]; simp
theorem sett_wf : ∀ {P : List Int} {f : Kn → D}, (∀ p ∈ P, 0 ≤ p ∧ p < 100) → (∀ k, vk ws k → okV (f k)) → (sett ws P f).wf ws
  | [], f, _, h => by rw [sett, QT.wf]; exact h _ (vk_k0 W)
  | p :: ps, f, hP, h => by
    have hb : ∀ o, o < wd ws p → (sett ws ps (fx f p o)).wf ws := fun o ho => sett_wf (fun q hq => hP q (List.mem_cons_of_mem _ hq)) fun k hk => h _ (vk_upk hk ho)
    rcases sett_split W (p := p) (ps := ps) (f := f) with ⟨_, h2⟩ | ⟨_, h2⟩
    · rw [h2]; exact hb 0 (wd_pos W p).1
    · rw [h2, QT.wf]
      refine ⟨(hP p (by simp)).1, (hP p (by simp)).2, bsOf_len W, wfL_mem.mpr fun t ht => ?_⟩
      obtain ⟨o, ho, rfl⟩ := (mem_bsOf W).mp ht
      exact hb o ho
theorem sett_ht : ∀ {P : List Int} {f : Kn → D}, (sett ws P f).ht ≤ P.length
  | [], f => by simp [sett, QT.ht]
  | p :: ps, f => by
    rcases sett_split W (p := p) (ps := ps) (f := f) with ⟨_, h2⟩ | ⟨_, h2⟩
    · rw [h2, List.length_cons]; have := sett_ht (P := ps) (f := fx f p 0); omega
    · rw [h2, QT.ht, List.length_cons]
      have : htL (bsOf ws p ps f) ≤ ps.length := htL_le fun t ht => by
        obtain ⟨o, ho, rfl⟩ := (mem_bsOf W).mp ht
        exact sett_ht
      omega
omit W in
def prodW (ws : List Nat) : List Int → Nat
  | [] => 1
  | p :: ps => wd ws p * prodW ws ps
theorem prodW_pos : ∀ P : List Int, 1 ≤ prodW ws P
  | [] => by simp [prodW]
  | p :: ps => by
    rw [prodW]
    have := (wd_pos W p).1
    have := prodW_pos ps
    exact Nat.le_trans (by omega) (Nat.mul_le_mul ‹1 ≤ wd ws p› ‹1 ≤ prodW ws ps›)
/-- a settled term has fewer looks than choices, as far as its places have two options -/
theorem sett_nk : ∀ {P : List Int} {f : Kn → D}, (∀ p ∈ P, 2 ≤ wd ws p) → (sett ws P f).nk + 1 ≤ prodW ws P
  | [], f, _ => by simp [sett, QT.nk, prodW]
  | p :: ps, f, h => by
    have hb : ∀ g, (sett ws ps g).nk + 1 ≤ prodW ws ps := fun g => sett_nk fun q hq => h q (List.mem_cons_of_mem _ hq)
    have w2 := h p (by simp)
    rw [prodW]
    rcases sett_split W (p := p) (ps := ps) (f := f) with ⟨_, h2⟩ | ⟨_, h2⟩
    · rw [h2]
      exact Nat.le_trans (hb _) (Nat.le_mul_of_pos_left _ (by omega))
    · rw [h2, QT.nk, nkL_sum]
      unfold bsOf
      rw [List.map_map]
      have key : ∀ n, ((List.range n).map (QT.nk ∘ fun o => sett ws ps (fx f p o))).sum + n ≤ n * prodW ws ps := by
        intro n
        induction n with
        | zero => simp
        | succ n ih =>
          rw [List.range_succ, List.map_append, List.sum_append, Nat.succ_mul]
          have := hb (fx f p n)
          simp
          omega
      have := key (wd ws p)
      omega
/-- looks at greater places only, branches not all equal -/
theorem sett_top {P : List Int} {f : Kn → D} {q : Int} (h : ∀ p ∈ P, q ≤ p) : ∀ p bs, sett ws P f = .look p bs → q ≤ p ∧ p ∈ P := by
  induction P generalizing f with
  | nil => intro p bs e; rw [sett] at e; cases e
  | cons a l ih =>
    intro p bs e
    rcases sett_split W (p := a) (ps := l) (f := f) with ⟨_, h2⟩ | ⟨_, h2⟩
    · rw [h2] at e
      obtain ⟨x, y⟩ := ih (fun p hp => h p (List.mem_cons_of_mem _ hp)) p bs e
      exact ⟨x, List.mem_cons_of_mem _ y⟩
    · rw [h2] at e
      cases e
      exact ⟨h a (by simp), by simp⟩
end
/-! ### the table of all choices -/
def table (ws : List Nat) : List Int → (Kn → D) → List D
  | [], f => [f k0]
  | p :: ps, f => (List.range (wd ws p)).flatMap fun o => table ws ps (fx f p o)
open Classical in
/-- the different ones, in order -/
noncomputable def ddA (acc : List D) : List D → List D
  | [] => acc
  | v :: vs => if v ∈ acc then ddA acc vs else ddA (acc ++ [v]) vs
noncomputable def dd (l : List D) : List D := ddA [] l
theorem ddA_app {acc a b : List D} : ddA acc (a ++ b) = ddA (ddA acc a) b := by
  induction a generalizing acc with
  | nil => simp [ddA]
  | cons v a ih => rw [List.cons_append, ddA, ddA]; split <;> exact ih
theorem ddA_sub {acc l : List D} (h : ∀ v ∈ l, v ∈ acc) : ddA acc l = acc := by
  induction l with
  | nil => rfl
  | cons v l ih => rw [ddA, if_pos (h v (by simp))]; exact ih fun u hu => h u (List.mem_cons_of_mem _ hu)
theorem mem_ddA {acc l : List D} {v : D} : v ∈ ddA acc l ↔ v ∈ acc ∨ v ∈ l := by
  induction l generalizing acc with
  | nil => simp [ddA]
  | cons u l ih =>
    rw [ddA]
    split
    · rename_i h
      rw [ih, List.mem_cons]
      constructor
      · rintro (x | x); exact .inl x; exact .inr (.inr x)
      · rintro (x | rfl | x); exact .inl x; exact .inl h; exact .inr x
    · rw [ih]; simp [or_assoc]
theorem mem_dd {l : List D} {v : D} : v ∈ dd l ↔ v ∈ l := by unfold dd; rw [mem_ddA]; simp
open Classical in
theorem ddA_filter {acc l : List D} : ddA acc l = acc ++ (dd l).filter fun v => decide (v ∉ acc) := by
  have main : ∀ (l acc base : List D), (∀ v, v ∈ base → v ∈ acc) → ddA acc l = acc ++ ((ddA base l).drop base.length).filter (fun v => decide (v ∉ acc)) ∧ (ddA base l).take base.length = base := by
    intro l
    induction l with
    | nil => intro acc base h; simp [ddA]
    | cons u l ih =>
      intro acc base h
      rw [ddA, ddA]
      by_cases c : u ∈ base
      · rw [if_pos c, if_pos (h u c)]; exact ih acc base h
      · rw [if_neg c]
        have h' : ∀ v, v ∈ base ++ [u] → v ∈ acc ++ [u] := fun v hv => by
          rcases List.mem_append.mp hv with x | x
          · exact List.mem_append_left _ (h v x)
          · exact List.mem_append_right _ x
        by_cases d : u ∈ acc
        · rw [if_pos d]
          have h2 : ∀ v, v ∈ base ++ [u] → v ∈ acc := fun v hv => by
            rcases List.mem_append.mp hv with x | x
            · exact h v x
            · rw [List.mem_singleton.mp x]; exact d
          obtain ⟨i1, i2⟩ := ih acc (base ++ [u]) h2
          rw [List.length_append, List.length_singleton] at i1 i2
          have e3 : (ddA (base ++ [u]) l).take base.length = base := by
            have := congrArg (List.take base.length) i2
            rw [List.take_take] at this
            simpa using this
          refine ⟨?_, e3⟩
          rw [i1]
          congr 1
          have : (ddA (base ++ [u]) l).drop base.length = u :: (ddA (base ++ [u]) l).drop (base.length + 1) := by
            have e4 : (ddA (base ++ [u]) l) = base ++ [u] ++ (ddA (base ++ [u]) l).drop (base.length + 1) := by
              conv => lhs; rw [← List.take_append_drop (base.length + 1) (ddA (base ++ [u]) l), i2]
            have : ∀ X : List D, X = base ++ [u] ++ X.drop (base.length + 1) → X.drop base.length = u :: X.drop (base.length + 1) := fun X hX => by
              conv => lhs; rw [hX]
              simp
            exact this _ e4
          rw [this, List.filter_cons_of_neg (by simp [d])]
        · rw [if_neg d]
          obtain ⟨i1, i2⟩ := ih (acc ++ [u]) (base ++ [u]) h'
          rw [List.length_append, List.length_singleton] at i1 i2
          have e3 : (ddA (base ++ [u]) l).take base.length = base := by
            have := congrArg (List.take base.length) i2
            rw [List.take_take] at this
            simpa using this
          refine ⟨?_, e3⟩
          have : (ddA (base ++ [u]) l).drop base.length = u :: (ddA (base ++ [u]) l).drop (base.length + 1) := by
            have e4 : (ddA (base ++ [u]) l) = base ++ [u] ++ (ddA (base ++ [u]) l).drop (base.length + 1) := by
              conv => lhs; rw [← List.take_append_drop (base.length + 1) (ddA (base ++ [u]) l), i2]
            have : ∀ X : List D, X = base ++ [u] ++ X.drop (base.length + 1) → X.drop base.length = u :: X.drop (base.length + 1) := fun X hX => by
              conv => lhs; rw [hX]
              simp
            exact this _ e4
          rw [i1, this, List.filter_cons_of_pos (by simp [d]), List.append_assoc]
          congr 1
          rw [List.singleton_append]
          congr 1
          -- u does not come again behind base ++ [u]
          have nd : ∀ (l : List D) (b : List D), b.Nodup → (ddA b l).Nodup := by
            intro l
            induction l with
            | nil => intro b hb; exact hb
            | cons x l ih => intro b hb; rw [ddA]; split
                             · exact ih b hb
                             · rename_i hx; exact ih _ (by rw [List.nodup_append]; exact ⟨hb, by simp, fun a ha z hz e => by rw [List.mem_singleton.mp hz] at e; exact hx (e ▸ ha)⟩)
          refine List.filter_congr fun v hv => ?_
          have hvu : v ≠ u := by
            rintro rfl
            have mem : ∀ (l b : List D) (x : D), x ∈ b → x ∉ (ddA b l).drop b.length := by
              intro l
              induction l with
              | nil => intro b x hx; simp [ddA]
              | cons y l ih =>
                intro b x hx
                rw [ddA]
                split
                · exact ih b x hx
                · rename_i hy
                  intro hm
                  have i2 : (ddA (b ++ [y]) l).take (b.length + 1) = b ++ [y] := by
                    have tk : ∀ (l b : List D), (ddA b l).take b.length = b := by
                      intro l
                      induction l with
                      | nil => intro b; simp [ddA]
                      | cons z l ih2 =>
                        intro b
                        rw [ddA]
                        split
                        · exact ih2 b
                        · have := ih2 (b ++ [z])
                          rw [List.length_append, List.length_singleton] at this
                          have := congrArg (List.take b.length) this
                          rw [List.take_take] at this
                          simpa using this
                    have := tk l (b ++ [y])
                    simpa using this
                  have e4 : ddA (b ++ [y]) l = b ++ [y] ++ (ddA (b ++ [y]) l).drop (b.length + 1) := by
                    conv => lhs; rw [← List.take_append_drop (b.length + 1) (ddA (b ++ [y]) l), i2]
                  have e5 : ∀ X : List D, X = b ++ [y] ++ X.drop (b.length + 1) → X.drop b.length = y :: X.drop (b.length + 1) := fun X hX => by
                    conv => lhs; rw [hX]
                    simp
                  rw [e5 _ e4] at hm
                  rcases List.mem_cons.mp hm with hm | hm
                  · exact hy (hm ▸ hx)
                  · have := ih (b ++ [y]) x (List.mem_append_left _ hx)
                    rw [List.length_append, List.length_singleton] at this
                    exact this hm
            have := mem l (base ++ [v]) v (by simp)
            rw [List.length_append, List.length_singleton] at this
            exact this hv
          simp [hvu]
  have := (main l acc [] (fun v hv => nomatch hv)).1
  simpa [dd] using this
theorem ddA_cg {acc a b : List D} (h : dd a = dd b) : ddA acc a = ddA acc b := by rw [ddA_filter, ddA_filter, h]
theorem dd_app_cg {a b a' b' : List D} (h : dd a = dd a') (h' : dd b = dd b') : dd (a ++ b) = dd (a' ++ b') := by
  unfold dd at *
  rw [ddA_app, ddA_app, h]
  exact ddA_cg h'
theorem dd_flat_cg {n : Nat} {f g : Nat → List D} (h : ∀ i, i < n → dd (f i) = dd (g i)) : dd ((List.range n).flatMap f) = dd ((List.range n).flatMap g) := by
  induction n with
  | zero => rfl
  | succ n ih =>
    rw [List.range_succ, List.flatMap_append, List.flatMap_append]
    exact dd_app_cg (ih fun i hi => h i (by omega)) (by simpa using h n (by omega))
/-- the same again and again -/
theorem dd_flat_same {n : Nat} {f : Nat → List D} {l : List D} (hn : 1 ≤ n) (h : ∀ i, i < n → dd (f i) = dd l) : dd ((List.range n).flatMap f) = dd l := by
  induction n with
  | zero => omega
  | succ n ih =>
    rw [List.range_succ, List.flatMap_append]
    by_cases c : n = 0
    · subst c; simpa using h 0 (by omega)
    · have e := ih (by omega) fun i hi => h i (by omega)
      have e2 : dd (f n) = dd l := h n (by omega)
      simp only [List.flatMap_cons, List.flatMap_nil, List.append_nil]
      rw [dd_app_cg e e2]
      unfold dd
      rw [ddA_app]
      refine ddA_sub fun v hv => ?_
      have : v ∈ dd l := mem_dd.mpr hv
      exact this
theorem tells_table {ws : List Nat} (W : okW ws) : ∀ {P : List Int} {f : Kn → D}, dd (sett ws P f).tells = dd (table ws P f)
  | [], f => by rw [sett, QT.tells, table]
  | p :: ps, f => by
    rw [table]
    rcases sett_split W (p := p) (ps := ps) (f := f) with ⟨h1, h2⟩ | ⟨_, h2⟩
    · rw [h2, tells_table W]
      refine (dd_flat_same (wd_pos W p).1 fun o ho => ?_).symm
      rw [← tells_table W, h1 o ho, tells_table W]
    · rw [h2, QT.tells, tellsL_flat]
      unfold bsOf
      rw [List.flatMap_map]
      exact dd_flat_cg fun o ho => tells_table W
end DQ

set_option maxHeartbeats 4000000
namespace DQ
open PySem PySem.Spec L2 DL
section
variable {ws : List Nat} (W : okW ws)
/-! ### choices as lists of digits -/
def chD (ws : List Nat) : List Int → List (List Nat)
  | [] => [[]]
  | p :: ps => (List.range (wd ws p)).flatMap fun o => (chD ws ps).map (o :: ·)
def kn : List Int → List Nat → Kn
  | p :: ps, o :: ds => upk (kn ps ds) p o
  | _, _ => k0
theorem table_chD : ∀ {P : List Int} {f : Kn → D}, table ws P f = (chD ws P).map fun ds => f (kn P ds)
  | [], f => by simp [table, chD, kn]
  | p :: ps, f => by
    rw [table, chD, List.map_flatMap]
    congr 1
    funext o
    rw [table_chD (P := ps), List.map_map]
    rfl
theorem chD_mem : ∀ {P : List Int} {ds : List Nat}, ds ∈ chD ws P → ds.length = P.length ∧ ∀ (i : Nat) (p : Int), P[i]? = some p → ∃ o, ds[i]? = some o ∧ o < wd ws p
  | [], ds, h => by
    rw [chD, List.mem_singleton] at h
    subst h
    exact ⟨rfl, fun i p hp => by simp at hp⟩
  | p :: ps, ds, h => by
    rw [chD, List.mem_flatMap] at h
    obtain ⟨o, ho, h⟩ := h
    obtain ⟨ds', h', rfl⟩ := List.mem_map.mp h
    obtain ⟨a, b⟩ := chD_mem h'
    refine ⟨by simp [a], fun i q hq => ?_⟩
    cases i with
    | zero => simp at hq; subst hq; exact ⟨o, rfl, List.mem_range.mp ho⟩
    | succ i => exact b i q (by simpa using hq)
theorem chD_len : ∀ {P : List Int}, (chD ws P).length = prodW ws P
  | [] => rfl
  | p :: ps => by
    rw [chD, prodW, List.length_flatMap]
    simp only [List.length_map, chD_len (P := ps)]
    have : ∀ (l : List Nat) (c : Nat), (l.map fun _ => c).sum = l.length * c := fun l c => by
      induction l with
      | nil => simp
      | cons a l ih => simp [ih, Nat.succ_mul]; omega
    rw [this, List.length_range]
theorem chD_snoc {p : Int} : ∀ {P : List Int}, chD ws (P ++ [p]) = (chD ws P).flatMap fun ds => (List.range (wd ws p)).map fun o => ds ++ [o]
  | [] => by
    simp only [List.nil_append, chD, List.map_cons, List.map_nil, List.flatMap_cons, List.flatMap_nil, List.append_nil]
    rw [← List.flatMap_singleton' ((List.range (wd ws p)).map fun o => [o]), List.flatMap_map]
  | q :: ps => by
    rw [List.cons_append, chD, chD, List.flatMap_assoc]
    congr 1
    funext o
    rw [chD_snoc (P := ps), List.map_flatMap, List.flatMap_map]
    congr 1
    funext ds
    rw [List.map_map]
    rfl
theorem kn_out : ∀ {P : List Int} {ds : List Nat} {q : Int}, q ∉ P → kn P ds q = 0
  | [], _, _, _ => rfl
  | p :: ps, [], _, _ => rfl
  | p :: ps, o :: ds, q, h => by
    rw [List.mem_cons, not_or] at h
    rw [kn, upk_ne h.1, kn_out h.2]
theorem kn_at : ∀ {P : List Int} {ds : List Nat} {i : Nat} {p : Int} {o : Nat}, P.Nodup → P[i]? = some p → ds[i]? = some o → kn P ds p = o
  | p :: ps, o :: ds, 0, q, u, _, h, h2 => by
    simp at h h2; subst h; subst h2
    rw [kn, upk_same]
  | p :: ps, o :: ds, i + 1, q, u, nd, h, h2 => by
    obtain ⟨n1, n2⟩ := List.nodup_cons.mp nd
    have hq : q ≠ p := by rintro rfl; exact n1 (List.mem_of_getElem? (by simpa using h))
    rw [kn, upk_ne hq]
    exact kn_at n2 (by simpa using h) (by simpa using h2)
  | [], _, _, _, _, _, h, _ => by simp at h
  | _ :: _, [], i, _, _, _, _, h => by simp at h
theorem kn_vk {P : List Int} {ds : List Nat} (W : okW ws) (h : ds ∈ chD ws P) : vk ws (kn P ds) := by
  induction P generalizing ds with
  | nil => exact vk_k0 W
  | cons p ps ih =>
    rw [chD, List.mem_flatMap] at h
    obtain ⟨o, ho, h⟩ := h
    obtain ⟨ds', h', rfl⟩ := List.mem_map.mp h
    exact vk_upk (ih h') (List.mem_range.mp ho)
/-- every way to choose is among the choices -/
theorem chD_all (W : okW ws) {k : Kn} (hk : vk ws k) : ∀ {P : List Int}, P.Nodup → ∃ ds, ds ∈ chD ws P ∧ ∀ p ∈ P, kn P ds p = k p
  | [], _ => ⟨[], by simp [chD], fun _ h => nomatch h⟩
  | p :: ps, nd => by
    obtain ⟨n1, n2⟩ := List.nodup_cons.mp nd
    obtain ⟨ds, h1, h2⟩ := chD_all W hk n2
    refine ⟨k p :: ds, ?_, fun q hq => ?_⟩
    · rw [chD, List.mem_flatMap]
      exact ⟨k p, List.mem_range.mpr (hk p), List.mem_map.mpr ⟨ds, h1, rfl⟩⟩
    · by_cases c : q = p
      · subst c; rw [kn, upk_same]
      · rw [kn, upk_ne c]; exact h2 q ((List.mem_cons.mp hq).resolve_left c)
theorem onlyOn_kn (W : okW ws) {P : List Int} {f g : Kn → D} (nd : P.Nodup) (hf : onlyOn ws f P) (hg : onlyOn ws g P) (h : ∀ ds ∈ chD ws P, f (kn P ds) = g (kn P ds)) : ∀ k, vk ws k → f k = g k := fun k hk => by
  obtain ⟨ds, h1, h2⟩ := chD_all W hk nd
  rw [hf k _ hk (kn_vk W h1) fun p hp => (h2 p hp).symm, h ds h1]
  exact hg _ k (kn_vk W h1) hk fun p hp => h2 p hp
theorem kn_set : ∀ {P : List Int} {ds : List Nat} {i : Nat} {p : Int} {o : Nat}, P.Nodup → ds.length = P.length → P[i]? = some p → kn P (ds.set i o) = upk (kn P ds) p o
  | p :: ps, a :: ds, 0, q, o, _, _, h => by
    simp at h; subst h
    rw [List.set_cons_zero, kn, kn, upk_upk]
  | p :: ps, a :: ds, i + 1, q, o, nd, hl, h => by
    obtain ⟨n1, n2⟩ := List.nodup_cons.mp nd
    have hq : q ≠ p := by rintro rfl; exact n1 (List.mem_of_getElem? (by simpa using h))
    rw [List.set_cons_succ, kn, kn, kn_set n2 (by simpa using hl) (by simpa using h), upk_comm hq]
  | [], _, _, _, _, _, _, h => by simp at h
  | _ :: _, [], _, _, _, _, hl, _ => by simp at hl
/-! ### the places of choices -/
theorem flat_at {n m : Nat} {α : Type} {g : Nat → List α} (hg : ∀ o, o < n → (g o).length = m) : ∀ {k : Nat}, k < n * m → ((List.range n).flatMap g)[k]? = (g (k / m))[k % m]? := by
  induction n with
  | zero => intro k h; omega
  | succ n ih =>
    intro k h
    have m0 : 0 < m := by
      rcases Nat.eq_zero_or_pos m with e | e
      · subst e; omega
      · exact e
    have hl : ((List.range n).flatMap g).length = n * m := by
      rw [List.length_flatMap]
      have : ((List.range n).map fun a => (g a).length) = (List.range n).map fun _ => m := List.map_congr_left fun o ho => hg o (by have := List.mem_range.mp ho; omega)
      rw [this]
      have key : ∀ (l : List Nat), (l.map fun _ => m).sum = l.length * m := fun l => by
        induction l with
        | nil => simp
        | cons a l ih => simp [ih, Nat.succ_mul]; omega
      rw [key, List.length_range]
    rw [List.range_succ, List.flatMap_append]
    by_cases c : k < n * m
    · rw [List.getElem?_append_left (by rw [hl]; exact c)]
      exact ih (fun o ho => hg o (by omega)) c
    · rw [List.getElem?_append_right (by rw [hl]; omega), hl]
      have hk : k < n * m + m := by rw [Nat.succ_mul] at h; exact h
      have e1 : k / m = n := by
        exact Nat.div_eq_of_lt_le (k := n) (by omega) (by rw [Nat.succ_mul]; exact hk)
      have e2 : k % m = k - n * m := by
        have := Nat.div_add_mod k m
        rw [e1] at this
        have e3 : m * n = n * m := Nat.mul_comm _ _
        omega
      rw [e1, e2]
      simp
theorem chD_cons_at {p : Int} {ps : List Int} {k : Nat} (h : k < prodW ws (p :: ps)) : (chD ws (p :: ps))[k]? = ((chD ws ps)[k % prodW ws ps]?).map (k / prodW ws ps :: ·) := by
  rw [chD, flat_at (m := prodW ws ps) (fun o ho => by rw [List.length_map, chD_len]) (by rw [prodW] at h; exact h), List.getElem?_map]
/-- one digit back to 0 -/
theorem chD_back (W : okW ws) : ∀ {P : List Int} {k j : Nat} {ds : List Nat} {d : Nat}, (chD ws P)[k]? = some ds → ds[j]? = some d → d * prodW ws (P.drop (j + 1)) ≤ k ∧ (chD ws P)[k - d * prodW ws (P.drop (j + 1))]? = some (ds.set j 0)
  | [], k, j, ds, d, h, h2 => by
    rw [chD] at h
    cases k with
    | zero => simp at h; subst h; simp at h2
    | succ k => simp at h
  | p :: ps, k, j, ds, d, h, h2 => by
    have hk : k < prodW ws (p :: ps) := by
      rw [← chD_len]
      exact (List.getElem?_eq_some_iff.mp h).1
    rw [chD_cons_at hk] at h
    have n0 := prodW_pos (ws := ws) W ps
    have dm := Nat.div_add_mod k (prodW ws ps)
    cases e : (chD ws ps)[k % prodW ws ps]? with
    | none => rw [e] at h; cases h
    | some es =>
      rw [e] at h
      simp only [Option.map_some, Option.some.injEq] at h
      subst h
      cases j with
      | zero =>
        simp at h2
        subst h2
        have e0 : ((p :: ps).drop (0 + 1)) = ps := rfl
        rw [e0, Nat.mul_comm]
        have hlt := Nat.mod_lt k n0
        have hle : prodW ws ps ≤ prodW ws (p :: ps) := by
          rw [prodW]; exact Nat.le_mul_of_pos_left _ (wd_pos W p).1
        refine ⟨by omega, ?_⟩
        have e1 : k - prodW ws ps * (k / prodW ws ps) = k % prodW ws ps := by omega
        rw [e1, chD_cons_at (by omega), Nat.mod_eq_of_lt hlt, Nat.div_eq_of_lt hlt, e]
        rfl
      | succ j =>
        have h2 : es[j]? = some d := by simpa using h2
        obtain ⟨a, b⟩ := chD_back W e h2
        have e0 : ((p :: ps).drop (j + 1 + 1)) = ps.drop (j + 1) := rfl
        rw [e0]
        have hlt := Nat.mod_lt k n0
        refine ⟨by omega, ?_⟩
        generalize d * prodW ws (ps.drop (j + 1)) = x at *
        have e1 : k - x = prodW ws ps * (k / prodW ws ps) + (k % prodW ws ps - x) := by omega
        have q1 : (k - x) / prodW ws ps = k / prodW ws ps := by
          rw [e1, Nat.mul_add_div n0, Nat.div_eq_of_lt (show k % prodW ws ps - x < prodW ws ps by omega), Nat.add_zero]
        have q2 : (k - x) % prodW ws ps = k % prodW ws ps - x := by
          rw [e1, Nat.mul_add_mod, Nat.mod_eq_of_lt (show k % prodW ws ps - x < prodW ws ps by omega)]
        rw [chD_cons_at (by omega), q1, q2, b]
        rfl
/-- the values with one digit back to 0 are the same: the place does not matter -/
theorem back_inds (W : okW ws) {P : List Int} {f : Kn → D} {p : Int} (nd : P.Nodup) (h : onlyOn ws f P) (hp : p ∈ P) : inds ws f p ↔ ∀ ds ∈ chD ws P, f (upk (kn P ds) p 0) = f (kn P ds) := by
  have w0 := (wd_pos W p).1
  constructor
  · intro hi ds hd; exact hi _ 0 (kn_vk W hd) w0
  · intro hb
    have e : ∀ k, vk ws k → f (upk k p 0) = f k := fun k hk => by
      obtain ⟨ds, h1, h2⟩ := chD_all W hk nd
      have v := kn_vk W h1
      rw [h k _ hk v fun q hq => (h2 q hq).symm, ← hb ds h1]
      refine h _ _ (vk_upk hk w0) (vk_upk v w0) fun q hq => ?_
      by_cases c : q = p
      · subst c; rw [upk_same, upk_same]
      · rw [upk_ne c, upk_ne c, h2 q hq]
    intro k o hk ho
    rw [← e (upk k p o) (vk_upk hk ho), upk_upk, e k hk]
/-! ### how many -/
theorem table_cg (W : okW ws) : ∀ {P : List Int} {f g : Kn → D}, (∀ k, vk ws k → f k = g k) → table ws P f = table ws P g
  | [], f, g, h => by rw [table, table, h k0 (vk_k0 W)]
  | p :: ps, f, g, h => by
    rw [table, table]
    have : ∀ (l : List Nat), (∀ o ∈ l, o < wd ws p) → (l.flatMap fun o => table ws ps (fx f p o)) = l.flatMap fun o => table ws ps (fx g p o) := fun l => by
      induction l with
      | nil => intro _; rfl
      | cons a l ih =>
        intro hl
        rw [List.flatMap_cons, List.flatMap_cons, ih fun o ho => hl o (List.mem_cons_of_mem _ ho), table_cg W (f := fx f p a) (g := fx g p a) fun k hk => h _ (vk_upk hk (hl a (by simp)))]
    exact this _ fun o ho => List.mem_range.mp ho
open Classical in
noncomputable def cnt (l : List D) (v : D) : Nat := (l.map fun u => if u = v then 1 else 0).sum
theorem cnt_app {a b : List D} {v : D} : cnt (a ++ b) v = cnt a v + cnt b v := by simp [cnt]
theorem cnt_flat {n : Nat} {g : Nat → List D} {v : D} : cnt ((List.range n).flatMap g) v = ((List.range n).map fun o => cnt (g o) v).sum := by
  induction n with
  | zero => rfl
  | succ n ih => rw [List.range_succ, List.flatMap_append, cnt_app, ih]; simp
theorem sum_const {n c : Nat} {g : Nat → Nat} (h : ∀ o, o < n → g o = c) : ((List.range n).map g).sum = n * c := by
  induction n with
  | zero => simp
  | succ n ih =>
    rw [List.range_succ, List.map_append, List.sum_append, ih fun o ho => h o (by omega), Nat.succ_mul]
    simp [h n (by omega)]
theorem cnt_skip (W : okW ws) {p : Int} {L : List Int} {f : Kn → D} {v : D} (h : inds ws f p) : cnt (table ws (p :: L) f) v = wd ws p * cnt (table ws L f) v := by
  rw [table, cnt_flat]
  refine sum_const fun o ho => ?_
  rw [table_cg W (f := fx f p o) (g := f) fun k hk => h k o hk ho]
theorem cnt_split (W : okW ws) {S : Int → Bool} {v : D} : ∀ {L : List Int} {f : Kn → D}, (∀ p ∈ L, S p = false → inds ws f p) → cnt (table ws L f) v = prodW ws (L.filter fun p => !S p) * cnt (table ws (L.filter S) f) v
  | [], f, _ => by simp [prodW]
  | p :: L, f, h => by
    by_cases c : S p = true
    · rw [List.filter_cons_of_neg (by simp [c]), List.filter_cons_of_pos c, table, table, cnt_flat, cnt_flat]
      have : ((List.range (wd ws p)).map fun o => cnt (table ws L (fx f p o)) v) = (List.range (wd ws p)).map fun o => prodW ws (L.filter fun p => !S p) * cnt (table ws (L.filter S) (fx f p o)) v :=
        List.map_congr_left fun o ho => cnt_split W fun q hq hs => inds_fx (h q (List.mem_cons_of_mem _ hq) hs) (List.mem_range.mp ho)
      rw [this]
      have key : ∀ (l : List Nat) (c : Nat) (g : Nat → Nat), (l.map fun o => c * g o).sum = c * (l.map g).sum := fun l c g => by
        induction l with
        | nil => simp
        | cons a l ih => simp [ih, Nat.mul_add]
      exact key _ _ _
    · rw [List.filter_cons_of_pos (by simpa using c), List.filter_cons_of_neg c, cnt_skip W (h p (by simp) (by simpa using c)), cnt_split W fun q hq hs => h q (List.mem_cons_of_mem _ hq) hs, prodW, Nat.mul_assoc]
theorem prodW_split {S : Int → Bool} : ∀ {L : List Int}, prodW ws L = prodW ws (L.filter fun p => !S p) * prodW ws (L.filter S)
  | [] => by simp [prodW]
  | p :: L => by
    rw [prodW, prodW_split (S := S) (L := L)]
    by_cases c : S p = true
    · rw [List.filter_cons_of_neg (by simp [c]), List.filter_cons_of_pos c, prodW, Nat.mul_left_comm]
    · rw [List.filter_cons_of_pos (by simpa using c), List.filter_cons_of_neg c, prodW, Nat.mul_assoc]
theorem prodW_app : ∀ {a b : List Int}, prodW ws (a ++ b) = prodW ws a * prodW ws b
  | [], b => by simp [prodW]
  | p :: a, b => by rw [List.cons_append, prodW, prodW, prodW_app, Nat.mul_assoc]
/-! ### heads -/
/-- the places from s on, n of them -/
def rng (s : Int) (n : Nat) : List Int := (List.range n).map fun i => s + ((i : Nat) : Int)
theorem rng_zero {s : Int} : rng s 0 = [] := rfl
theorem rng_succ {s : Int} {n : Nat} : rng s (n + 1) = s :: rng (s + 1) n := by
  unfold rng
  rw [List.range_succ_eq_map, List.map_cons, List.map_map]
  congr 1
  · simp
  · refine List.map_congr_left fun i _ => ?_
    show s + ((i + 1 : Nat) : Int) = s + 1 + ((i : Nat) : Int)
    omega
theorem rng_snoc {s : Int} {n : Nat} : rng s (n + 1) = rng s n ++ [s + ((n : Nat) : Int)] := by
  unfold rng; rw [List.range_succ, List.map_append]; rfl
theorem mem_rng {s q : Int} {n : Nat} : q ∈ rng s n ↔ s ≤ q ∧ q < s + n := by
  unfold rng
  rw [List.mem_map]
  constructor
  · rintro ⟨i, hi, rfl⟩
    have := List.mem_range.mp hi
    omega
  · rintro ⟨a, b⟩
    exact ⟨(q - s).toNat, List.mem_range.mpr (by omega), by omega⟩
theorem rng_split {s : Int} : ∀ {n m : Nat}, rng s (n + 1 + m) = rng s n ++ (s + ((n : Nat) : Int)) :: rng (s + ((n : Nat) : Int) + 1) m
  | n, 0 => by rw [rng_snoc]; rfl
  | n, m + 1 => by
    have : n + 1 + (m + 1) = (n + 1 + m) + 1 := by omega
    rw [this, rng_snoc, rng_split, rng_snoc, List.append_assoc, List.cons_append]
    congr 4
    omega
theorem asc_rng {s : Int} : ∀ {n : Nat}, (rng s n).Pairwise (· < ·)
  | 0 => List.Pairwise.nil
  | n + 1 => by
    rw [rng_succ]
    exact List.pairwise_cons.mpr ⟨fun q hq => by have := mem_rng.mp hq; omega, asc_rng⟩
def hbw (ws : List Nat) (s : Int) (e : Int) : Nat := prodW ws (rng s (e - s).toNat)
mutual
/-- the values told from left to right, with the number of heads of each -/
def QT.th (ws : List Nat) (r : Int) : QT → Int → List (D × Nat)
  | .tell v, s => [(v, hbw ws s r)]
  | .look p bs, s => (thL ws r bs (p + 1)).map fun q => (q.1, hbw ws s p * q.2)
def thL (ws : List Nat) (r : Int) : List QT → Int → List (D × Nat)
  | [], _ => []
  | t :: ts, s => t.th ws r s ++ thL ws r ts s
end
mutual
theorem th_tells {r : Int} : ∀ {t : QT} {s : Int}, (t.th ws r s).map (·.1) = t.tells
  | .tell v, s => by simp [QT.th, QT.tells]
  | .look p bs, s => by rw [QT.th, QT.tells, List.map_map, ← thL_tells (s := p + 1)]; rfl
theorem thL_tells {r : Int} : ∀ {t : List QT} {s : Int}, (thL ws r t s).map (·.1) = tellsL t
  | [], _ => by simp [thL, tellsL]
  | t :: ts, s => by rw [thL, tellsL, List.map_append, th_tells, thL_tells]
end
theorem thL_flat {r s : Int} : ∀ {ts : List QT}, thL ws r ts s = ts.flatMap fun t => t.th ws r s
  | [] => by simp [thL]
  | t :: ts => by rw [thL, List.flatMap_cons, thL_flat]
open Classical in
noncomputable def sumV (l : List (D × Nat)) (v : D) : Nat := (l.map fun q => if q.1 = v then q.2 else 0).sum
theorem sumV_app {a b : List (D × Nat)} {v : D} : sumV (a ++ b) v = sumV a v + sumV b v := by simp [sumV]
theorem sumV_mul {c : Nat} {v : D} : ∀ {l : List (D × Nat)}, sumV (l.map fun q => (q.1, c * q.2)) v = c * sumV l v
  | [] => by simp [sumV]
  | q :: l => by
    have e1 : ∀ (q : D × Nat) (l : List (D × Nat)), sumV (q :: l) v = sumV [q] v + sumV l v := fun q l => sumV_app (a := [q])
    rw [List.map_cons, e1, sumV_mul, e1 q l, Nat.mul_add]
    congr 1
    unfold sumV
    simp only [List.map_cons, List.map_nil, List.sum_cons, List.sum_nil, Nat.add_zero]
    split <;> simp
theorem sumV_flat {n : Nat} {g : Nat → List (D × Nat)} {v : D} : sumV ((List.range n).flatMap g) v = ((List.range n).map fun o => sumV (g o) v).sum := by
  induction n with
  | zero => rfl
  | succ n ih => rw [List.range_succ, List.flatMap_append, sumV_app, ih]; simp
theorem cnt_one {u v : D} : cnt [u] v = (open Classical in if u = v then 1 else 0) := by unfold cnt; simp
theorem heads_cnt (W : okW ws) {r : Int} {v : D} : ∀ {P : List Int} {f : Kn → D} {s : Int}, onlyOn ws f P → P.Pairwise (· < ·) → (∀ p ∈ P, s ≤ p ∧ p < r) → sumV ((sett ws P f).th ws r s) v = cnt (table ws (rng s (r - s).toNat) f) v
  | [], f, s, h, _, _ => by
    rw [sett, QT.th, cnt_split W (S := fun _ => false) fun p _ _ => onlyOn_out h (by simp)]
    have e1 : ((rng s (r - s).toNat).filter fun _ => false) = [] := by simp
    have e2 : ((rng s (r - s).toNat).filter fun _ => !false) = rng s (r - s).toNat := by simp
    rw [e1, e2, table, cnt_one]
    unfold sumV hbw
    simp only [List.map_cons, List.map_nil, List.sum_cons, List.sum_nil, Nat.add_zero]
    split <;> simp
  | p :: ps, f, s, h, a, hr => by
    obtain ⟨a1, a2⟩ := List.pairwise_cons.mp a
    have w0 := (wd_pos W p).1
    obtain ⟨r1, r2⟩ := hr p (by simp)
    have hr' : ∀ q ∈ ps, p + 1 ≤ q ∧ q < r := fun q hq => ⟨by have := a1 q hq; omega, (hr q (List.mem_cons_of_mem _ hq)).2⟩
    rcases sett_split W (p := p) (ps := ps) (f := f) with ⟨h1, h2⟩ | ⟨_, h2⟩
    · have hi := alls_inds W h h1
      rw [h2, heads_cnt W (onlyOn_fx h w0) a2 fun q hq => ⟨by have := hr' q hq; omega, (hr' q hq).2⟩, table_cg W (f := fx f p 0) (g := f) fun k hk => hi k 0 hk w0]
    · rw [h2, QT.th, sumV_mul, thL_flat]
      unfold bsOf
      rw [List.flatMap_map, sumV_flat]
      have : ((List.range (wd ws p)).map fun o => sumV ((sett ws ps (fx f p o)).th ws r (p + 1)) v) = (List.range (wd ws p)).map fun o => cnt (table ws (rng (p + 1) (r - (p + 1)).toNat) (fx f p o)) v :=
        List.map_congr_left fun o ho => heads_cnt W (onlyOn_fx h (List.mem_range.mp ho)) a2 hr'
      rw [this, ← cnt_flat, ← table]
      have en : (r - s).toNat = (p - s).toNat + 1 + (r - (p + 1)).toNat := by omega
      have ep : s + (((p - s).toNat : Nat) : Int) = p := by omega
      rw [en, rng_split, ep]
      unfold hbw
      have pre : ∀ (L : List Int) (M : List Int), (∀ q ∈ L, inds ws f q) → cnt (table ws (L ++ M) f) v = prodW ws L * cnt (table ws M f) v := fun L M => by
        induction L with
        | nil => intro _; simp [prodW]
        | cons q L ih =>
          intro hq
          rw [List.cons_append, cnt_skip W (hq q (by simp)), ih fun z hz => hq z (List.mem_cons_of_mem _ hz), prodW, Nat.mul_assoc]
      rw [pre]
      intro q hq
      have := mem_rng.mp hq
      refine onlyOn_out h fun hm => ?_
      rcases List.mem_cons.mp hm with e | e
      · omega
      · have := hr' q e; omega
/-- the choices with 0 at all places but some are those of these places -/
theorem cnt_zero (W : okW ws) {S : Int → Bool} {v : D} : ∀ {P : List Int} {f : Kn → D}, P.Nodup → (∀ p ∈ P, S p = false → inds ws f p) →
    cnt (((chD ws P).filter fun ds => P.all fun p => S p || kn P ds p == 0).map fun ds => f (kn P ds)) v = cnt (table ws (P.filter S) f) v
  | [], f, _, _ => by simp [chD, kn, table]
  | p :: ps, f, nd, h => by
    obtain ⟨n1, n2⟩ := List.nodup_cons.mp nd
    have w0 := (wd_pos W p).1
    have step : ∀ o, o < wd ws p → (((chD ws ps).map (o :: ·)).filter fun ds => (p :: ps).all fun q => S q || kn (p :: ps) ds q == 0).map (fun ds => f (kn (p :: ps) ds)) =
        if S p = true ∨ o = 0 then ((chD ws ps).filter fun ds => ps.all fun q => S q || kn ps ds q == 0).map (fun ds => (fx f p o) (kn ps ds)) else [] := by
      intro o ho
      rw [List.filter_map, List.map_map]
      have e : ∀ ds, ((fun ds => (p :: ps).all fun q => S q || kn (p :: ps) ds q == 0) ∘ fun x => o :: x) ds = ((S p || o == 0) && ps.all fun q => S q || kn ps ds q == 0) := fun ds => by
        show ((p :: ps).all fun q => S q || kn (p :: ps) (o :: ds) q == 0) = _
        rw [List.all_cons, kn, upk_same]
        congr 1
        rw [Bool.eq_iff_iff, List.all_eq_true, List.all_eq_true]
        constructor
        · intro g q hq
          have := g q hq
          rw [upk_ne (fun (e : q = p) => n1 (e ▸ hq))] at this
          exact this
        · intro g q hq
          rw [upk_ne (fun (e : q = p) => n1 (e ▸ hq))]
          exact g q hq
      rw [List.filter_congr fun ds _ => e ds]
      split
      · rename_i c
        have : (S p || o == 0) = true := by simpa using c
        simp only [this, Bool.true_and]
        rfl
      · rename_i c
        have : (S p || o == 0) = false := by simpa using c
        simp only [this, Bool.false_and]
        simp
    have flat : (((chD ws (p :: ps)).filter fun ds => (p :: ps).all fun q => S q || kn (p :: ps) ds q == 0).map fun ds => f (kn (p :: ps) ds)) =
        (List.range (wd ws p)).flatMap fun o => if S p = true ∨ o = 0 then ((chD ws ps).filter fun ds => ps.all fun q => S q || kn ps ds q == 0).map (fun ds => (fx f p o) (kn ps ds)) else [] := by
      rw [chD, List.filter_flatMap, List.map_flatMap]
      have : ∀ l : List Nat, (∀ o ∈ l, o < wd ws p) → (l.flatMap fun o => (((chD ws ps).map (o :: ·)).filter fun ds => (p :: ps).all fun q => S q || kn (p :: ps) ds q == 0).map (fun ds => f (kn (p :: ps) ds))) =
          l.flatMap fun o => if S p = true ∨ o = 0 then ((chD ws ps).filter fun ds => ps.all fun q => S q || kn ps ds q == 0).map (fun ds => (fx f p o) (kn ps ds)) else [] := fun l => by
        induction l with
        | nil => intro _; rfl
        | cons a l ih =>
          intro hl
          rw [List.flatMap_cons, List.flatMap_cons, ih fun o ho => hl o (List.mem_cons_of_mem _ ho), step a (hl a (by simp))]
      exact this _ fun o ho => List.mem_range.mp ho
    rw [flat, cnt_flat]
    by_cases c : S p = true
    · rw [List.filter_cons_of_pos c, table, cnt_flat]
      congr 1
      refine List.map_congr_left fun o ho => ?_
      rw [if_pos (.inl c)]
      exact cnt_zero W n2 fun q hq hs => inds_fx (h q (List.mem_cons_of_mem _ hq) hs) (List.mem_range.mp ho)
    · rw [List.filter_cons_of_neg c]
      have hi := h p (by simp) (by simpa using c)
      obtain ⟨n, hn⟩ : ∃ n, wd ws p = n + 1 := ⟨wd ws p - 1, by omega⟩
      rw [hn, List.range_succ_eq_map, List.map_cons, List.sum_cons, List.map_map]
      have z : ((List.range n).map ((fun o => cnt (if S p = true ∨ o = 0 then ((chD ws ps).filter fun ds => ps.all fun q => S q || kn ps ds q == 0).map (fun ds => (fx f p o) (kn ps ds)) else []) v) ∘ Nat.succ)).sum = 0 := by
        have := sum_const (n := n) (c := 0) (g := (fun o => cnt (if S p = true ∨ o = 0 then ((chD ws ps).filter fun ds => ps.all fun q => S q || kn ps ds q == 0).map (fun ds => (fx f p o) (kn ps ds)) else []) v) ∘ Nat.succ) fun o ho => by
          show cnt (if S p = true ∨ o + 1 = 0 then _ else []) v = 0
          rw [if_neg (by simp [c])]; rfl
        rw [this]; simp
      rw [z, Nat.add_zero, if_pos (.inr rfl)]
      rw [cnt_zero W n2 fun q hq hs => inds_fx (h q (List.mem_cons_of_mem _ hq) hs) w0, table_cg W (f := fx f p 0) (g := f) fun k hk => hi k 0 hk w0]
end
end DQ

set_option maxHeartbeats 4000000
namespace DQ
open PySem PySem.Spec L2 DL
/-! ### what the program's defs of queries promise -/
def Fresh (Q : DK) (M : Mp) (ds : List D) : Prop := ∀ p, M p = none → Q (.ref p) (put M p (.lst ds))
def Drawn (M : Mp) (s l : Addr) (ns : List Int) (k : Mp → Prop) : Prop := ∀ M', PSt M' s l ns → Ext (Is s) M M' → k M'
/-- a new list, drawn -/
def DrawnL (M : Mp) (s l : Addr) (ns : List Int) (k : List D → Prop) (Q : DK) : Prop := ∀ p vs M', k vs → M p = none → M' p = some (.lst vs) → PSt M' s l ns → Ext (Is s) M M' → Q (.ref p) M'
def psD (P : List Int) : D := .tup (P.map D.int)
def qF (t : QT) (ws : List Nat) : List (Str × D) := [("term", t.toD), ("widths", wsD ws)]
def QueryAt (C : Addr) (M : Mp) (a : Addr) (t : QT) (ws : List Nat) : Prop := M a = some (.ins C (qF t ws))
theorem qF_term {t : QT} {ws : List Nat} : (qF t ws).lookup ("term" : Str) = some (t.toD : D) := rfl
theorem qF_widths {t : QT} {ws : List Nat} : (qF t ws).lookup ("widths" : Str) = some (wsD ws : D) := rfl
structure goodQ (ws : List Nat) (t : QT) : Prop where
  W : okW ws
  wf : t.wf ws
  ht : t.ht ≤ 20
  nk : t.nk ≤ 300
  pr : prodW ws t.named ≤ 256
  le : t.named.length < 64
def knows (kvs : List (Key × D)) (t : QT) (k : Kn) : Prop := ∀ q, t.occ q → valD kvs (.inl q) = some (.int ((k q : Nat) : Int))
def over (P : List Int) (k k' : Kn) : Kn := fun q => if q ∈ P then k q else k' q
noncomputable def setQ (ws : List Nat) (t : QT) : QT := sett ws t.named t.ev
def lastP (P : List Int) : Int := match P.getLast? with
  | some p => p + 1
  | none => 0
def sp_is_below : DSp := fun ds M Q _ => ∃ i n : Int, ds = [.int i, .int n] ∧ Q (.bl (decide (0 ≤ i ∧ i < n))) M
def sp_place_width : DSp := fun ds M Q _ => ∃ (ws : List Nat) (p : Int), ds = [wsD ws, .int p] ∧ okW ws ∧ Q (.int ((wd ws p : Nat) : Int)) M
def sp_check_widths : DSp := fun ds M Q _ => ∃ ws : List Nat, ds = [wsD ws] ∧ okW ws ∧ Q .non M
def sp_check_query (n : Nat) : DSp := fun ds M Q _ => ∃ (t : QT) (ws : List Nat) (path : List D), ds = [t.toD, wsD ws, .tup path] ∧ okW ws ∧ t.wf ws ∧ t.ht < n ∧ path.length + t.ht ≤ 20 ∧ Q .non M
def sp_count_looks (n : Nat) : DSp := fun ds M Q _ => ∃ (t : QT) (ws : List Nat), ds = [t.toD] ∧ okW ws ∧ t.wf ws ∧ t.ht < n ∧ Q (.int ((t.nk : Nat) : Int)) M
def sp_named_places (n : Nat) : DSp := fun ds M Q _ => ∃ (t : QT) (ws : List Nat), ds = [t.toD] ∧ okW ws ∧ t.wf ws ∧ t.ht < n ∧ t.named.length < 64 ∧ Q (psD t.named) M
def sp_is_large : DSp := fun ds M Q _ => ∃ (P : List Int) (ws : List Nat), ds = [psD P, wsD ws] ∧ okW ws ∧ P.length ≤ 130 ∧ Q (.bl (decide (256 < prodW ws P))) M
def sp_Query_init (C : Addr) : DSp := fun ds M Q _ => ∃ (x : Addr) (t : QT) (ws : List Nat), ds = [.ref x, t.toD, wsD ws] ∧ M x = some (.ins C []) ∧ goodQ ws t ∧ ∀ M', QueryAt C M' x t ws → Ext (Is x) M M' → Q .non M'
def sp_told_by : DSp := fun ds M Q _ => ∃ (t : QT) (ws : List Nat) (a : Addr) (kvs : List (Key × D)) (k : Kn), ds = [t.toD, .ref a] ∧ M a = some (.dk kvs) ∧ t.wf ws ∧ t.ht ≤ 100 ∧ knows kvs t k ∧ vk ws k ∧ Q (t.ev k) M
def sp_settled_term (n : Nat) : DSp := fun ds M Q _ => ∃ (t : QT) (P : List Int) (ws : List Nat) (a : Addr) (kvs : List (Key × D)) (k : Kn), ds = [t.toD, psD P, wsD ws, .ref a] ∧ M a = some (.dk kvs) ∧ okW ws ∧ t.wf ws ∧ t.ht ≤ 100 ∧ knows kvs t k ∧ vk ws k ∧ P.Nodup ∧ (∀ p ∈ P, t.occ p) ∧ P.length < n ∧ P.length ≤ 100 ∧ kvs.length + P.length ≤ 1000 ∧ keysOk kvs ∧
  Q (sett ws P fun k' => t.ev (over P k' k)).toD M
def sp_settle_query (C : Addr) : DSp := fun ds M Q _ => ∃ (a : Addr) (t : QT) (ws : List Nat), ds = [.ref a] ∧ QueryAt C M a t ws ∧ goodQ ws t ∧ ∀ x M', M x = none → QueryAt C M' x (setQ ws t) ws → Sub M M' → Q (.ref x) M'
def sp_needed_places (C : Addr) : DSp := fun ds M Q _ => ∃ (a : Addr) (t : QT) (ws : List Nat), ds = [.ref a] ∧ QueryAt C M a t ws ∧ goodQ ws t ∧ Q (psD (setQ ws t).named) M
def sp_query_reach (C : Addr) : DSp := fun ds M Q _ => ∃ (a : Addr) (t : QT) (ws : List Nat), ds = [.ref a] ∧ QueryAt C M a t ws ∧ goodQ ws t ∧ Q (.int (lastP (setQ ws t).named)) M
def sp_tells_of (n : Nat) : DSp := fun ds M Q _ => ∃ (t : QT) (ws : List Nat), ds = [t.toD] ∧ okW ws ∧ t.wf ws ∧ t.ht < n ∧ t.nk ≤ 1000 ∧ Fresh Q M t.tells
def sp_told_values (C : Addr) : DSp := fun ds M Q _ => ∃ (a : Addr) (t : QT) (ws : List Nat), ds = [.ref a] ∧ QueryAt C M a t ws ∧ goodQ ws t ∧ (Q (.tup (dd (setQ ws t).tells)) M ∨ ∀ p M', M p = none → M' p = some (.xt (dd (setQ ws t).tells)) → Sub M M' → Q (.ref p) M')
def sp_heads_between : DSp := fun ds M Q _ => ∃ (ws : List Nat) (s e : Int), ds = [wsD ws, .int s, .int e] ∧ okW ws ∧ 0 ≤ s ∧ s ≤ 200 ∧ 0 ≤ e ∧ e ≤ 200 ∧ Q (.int ((hbw ws s e : Nat) : Int)) M
def sp_heads_by_tell (n : Nat) : DSp := fun ds M Q _ => ∃ (t : QT) (ws : List Nat) (s r : Int), ds = [t.toD, wsD ws, .int s, .int r] ∧ okW ws ∧ t.wf ws ∧ t.ht < n ∧ t.nk ≤ 1000 ∧ 0 ≤ s ∧ s ≤ 101 ∧ 0 ≤ r ∧ r ≤ 101 ∧ t.ht ≤ 21 ∧ Fresh Q M ((t.th ws r s).map fun q => D.int ((q.2 : Nat) : Int))
noncomputable def countsD (ws : List Nat) (t : QT) : List D := (dd (setQ ws t).tells).map fun v => D.int ((sumV ((setQ ws t).th ws (lastP (setQ ws t).named) 0) v : Nat) : Int)
def sp_count_heads (C : Addr) : DSp := fun ds M Q _ => ∃ (a : Addr) (t : QT) (ws : List Nat), ds = [.ref a] ∧ QueryAt C M a t ws ∧ goodQ ws t ∧ Q (.tup (countsD ws t)) M
/-! ### what the laws' own defs promise -/
def sp_law_start1 : DSp := spStart1
def sp_law_start2 (K : PySem.W.Frag) : DSp := spStart2 K
def sp_law_start (K : PySem.W.Frag) : DSp := spStart K
def sp_law_pick : DSp := spPick
def sp_law_same : Nat → DSp := spSame
def sp_law_width : DSp := fun ds M Q _ => ∃ (ws : List Nat) (p : Int), ds = [wsD ws, .int p] ∧ okW ws ∧ Q (.int ((wd ws p : Nat) : Int)) M
def sp_law_widths : DSp := fun ds M Q _ => ∃ (s l : Addr) (ns : List Int), ds = [.ref s] ∧ PSt M s l ns ∧ ∀ ws, okW ws → Drawn M s l ns (Q (wsD ws))
def okPool (vs : List D) : Prop := 1 ≤ vs.length ∧ vs.length ≤ 4 ∧ ∀ v ∈ vs, okV v ∧ dep v ≤ 50
def QT.low (t : QT) : Prop := ∀ v ∈ t.tells, dep v ≤ 50
theorem low_tell {v : D} (h : dep v ≤ 50) : (QT.tell v).low := fun u hu => by rw [QT.tells, List.mem_singleton] at hu; rw [hu]; exact h
theorem low_look {p : Int} {ts : List QT} (h : ∀ t ∈ ts, t.low) : (QT.look p ts).low := fun u hu => by
  rw [QT.tells, tellsL_flat, List.mem_flatMap] at hu
  obtain ⟨t, ht, hu⟩ := hu
  exact h t ht u hu
def sp_law_pool : DSp := fun ds M Q _ => ∃ (s l : Addr) (ns : List Int), ds = [.ref s] ∧ PSt M s l ns ∧ DrawnL M s l ns okPool Q
def sp_law_shuffled : DSp := fun ds M Q _ => ∃ (s l : Addr) (ns : List Int) (a : Addr) (P : List Int), ds = [.ref s, .ref a] ∧ PSt M s l ns ∧ a ≠ s ∧ M a = some (.lst (P.map D.int)) ∧ P.length ≤ 1000 ∧ ∀ P' : List Int, P'.Perm P → DrawnL M s l ns (fun vs => vs = P'.map D.int) Q
def geo (w : Nat) : Nat → Nat
  | 0 => 0
  | n + 1 => 1 + w * geo w n
def sp_law_asked (n : Nat) : DSp := fun ds M Q _ => ∃ (s l : Addr) (ns : List Int) (ws : List Nat) (a : Addr) (P : List Int) (lv : Nat) (b : Addr) (vs : List D) (w : Nat), ds = [.ref s, wsD ws, .ref a, .int ((lv : Nat) : Int), .ref b] ∧ PSt M s l ns ∧ okW ws ∧ a ≠ s ∧ M a = some (.lst (P.map D.int)) ∧ 1 ≤ P.length ∧ P.length ≤ 1000 ∧ (∀ p ∈ P, 0 ≤ p ∧ p < 100) ∧
  b ≠ s ∧ M b = some (.lst vs) ∧ okPool vs ∧ (∀ x ∈ ws, x ≤ w) ∧ lv < n ∧ ∀ t : QT, t.wf ws ∧ t.low → t.ht ≤ lv → (∀ q, t.occ q → q ∈ P) → t.nk ≤ geo w lv → Drawn M s l ns (Q t.toD)
/-- looks of a full tree -/
def fullN (ws : List Nat) : List Int → Nat
  | [] => 0
  | p :: ps => 1 + wd ws p * fullN ws ps
def sp_law_full (n : Nat) : DSp := fun ds M Q _ => ∃ (s l : Addr) (ns : List Int) (ws : List Nat) (a : Addr) (L : List Int) (m : Addr) (mk : List Int) (b : Addr) (vs : List D) (tot : Nat), ds = [.ref s, wsD ws, .ref a, .ref m, .ref b, .int ((tot : Nat) : Int)] ∧ PSt M s l ns ∧ okW ws ∧ a ≠ s ∧ M a = some (.lst (L.map D.int)) ∧ L.length < n ∧ L.length ≤ 100 ∧ (∀ p ∈ L, 0 ≤ p ∧ p < 100) ∧
  m ≠ s ∧ M m = some (.lst (mk.map D.int)) ∧ b ≠ s ∧ M b = some (.lst vs) ∧ okPool vs ∧ (tot + 4) * 2 ^ (L.length * 2) < 2 ^ 250 ∧ ∀ t : QT, t.wf ws ∧ t.low → t.ht ≤ L.length → (∀ q, t.occ q → q ∈ L) → t.nk ≤ fullN ws L → Drawn M s l ns (Q t.toD)
/-- the dict of a choice -/
def kvsOf : List Int → List Nat → List (Key × D)
  | p :: ps, o :: ds => (.inl p, .int ((o : Nat) : Int)) :: kvsOf ps ds
  | _, _ => []
def ChAt (M : Mp) (a : Addr) (ws : List Nat) (P : List Int) : Prop := ∃ rs : List Addr, M a = some (.lst (rs.map D.ref)) ∧ rs.length = (chD ws P).length ∧ ∀ (i : Nat) (r : Addr) (ds : List Nat), rs[i]? = some r → (chD ws P)[i]? = some ds → M r = some (.dk (kvsOf P ds))
def sp_law_choices : DSp := fun ds M Q _ => ∃ (ws : List Nat) (a : Addr) (P : List Int), ds = [wsD ws, .ref a] ∧ okW ws ∧ M a = some (.lst (P.map D.int)) ∧ P.Nodup ∧ P.length ≤ 100 ∧ prodW ws P ≤ 1000 ∧ ∀ p M', M p = none → Sub M M' → ChAt M' p ws P → Q (.ref p) M'
def sp_law_end : DSp := fun ds M Q _ => ∃ (t : QT) (ws : List Nat) (a : Addr) (kvs : List (Key × D)) (k : Kn), ds = [t.toD, .ref a] ∧ M a = some (.dk kvs) ∧ t.wf ws ∧ t.ht ≤ 23 ∧ knows kvs t k ∧ vk ws k ∧ Q (t.ev k) M
/-- the term told again: looks in another order -/
def rt (ws : List Nat) (t : QT) (ch : Option (List (Key × D))) : List Int → List (Key × D) → Kn → QT
  | [], kvs, k => .tell (match ch with
    | some c => if eqKD c kvs = true then .tup [.str "other", t.ev k] else t.ev k
    | none => t.ev k)
  | p :: ps, kvs, k => .look p ((List.range (wd ws p)).map fun o => match valD kvs (.inl p) with
    | some v => if sameID v (some (.int ((o : Nat) : Int))) = true then rt ws t ch ps (putKD kvs (.inl p) (.int ((o : Nat) : Int))) (upk k p o) else .tell (.tup [.str "never", .int ((o : Nat) : Int)])
    | none => rt ws t ch ps (putKD kvs (.inl p) (.int ((o : Nat) : Int))) (upk k p o))
end DQ

set_option maxHeartbeats 4000000
namespace DQ
open PySem PySem.Spec L2 DL
mutual
theorem occ_range {ws : List Nat} : ∀ {t : QT} {q : Int}, t.wf ws → t.occ q → 0 ≤ q ∧ q < 100
  | .tell _, _, _, h => by rw [QT.occ] at h; exact h.elim
  | .look p bs, q, w, h => by
    rw [QT.wf] at w
    rw [QT.occ] at h
    rcases h with rfl | h
    · exact ⟨w.1, w.2.1⟩
    · exact occL_range w.2.2.2 h
theorem occL_range {ws : List Nat} : ∀ {t : List QT} {q : Int}, wfL ws t → occL t q → 0 ≤ q ∧ q < 100
  | [], _, _, h => by rw [occL] at h; exact h.elim
  | t :: ts, q, w, h => by
    rw [wfL] at w
    rw [occL] at h
    rcases h with h | h
    · exact occ_range w.1 h
    · exact occL_range w.2 h
end
theorem named_range {ws : List Nat} {t : QT} (w : t.wf ws) : ∀ p ∈ t.named, 0 ≤ p ∧ p < 100 := fun p hp => occ_range w (mem_named.mp hp)
theorem named_nodup (t : QT) : t.named.Nodup := nodup_asc (asc_named t)
theorem named_le {t : QT} {P : List Int} (h : ∀ q, t.occ q → q ∈ P) : t.named.length ≤ P.length := (named_nodup t).length_le_of_subset fun q hq => h q (mem_named.mp hq)
theorem namedL_le {n : Nat} : ∀ {ts : List QT}, (∀ t ∈ ts, t.named.length ≤ n) → (namedL ts).length ≤ ts.length * n
  | [], _ => by simp [namedL]
  | t :: ts, h => by
    rw [namedL, List.length_append, List.length_cons, Nat.succ_mul]
    have := h t (by simp)
    have := namedL_le (ts := ts) fun u hu => h u (List.mem_cons_of_mem _ hu)
    omega
theorem onlyOn_ev {ws : List Nat} {t : QT} {P : List Int} (h : ∀ q, t.occ q → q ∈ P) : onlyOn ws t.ev P := fun k k' _ _ e => ev_cg fun q hq => e q (h q hq)
theorem onlyOn_named {ws : List Nat} (t : QT) : onlyOn ws t.ev t.named := onlyOn_ev fun q hq => mem_named.mpr hq
section
variable {ws : List Nat} (W : okW ws)
include W
theorem prodW_filter (S : Int → Bool) (P : List Int) : prodW ws (P.filter S) ≤ prodW ws P := by
  rw [prodW_split (S := S) (L := P)]
  exact Nat.le_mul_of_pos_left _ (prodW_pos W _)
theorem prodW_two : ∀ {P : List Int}, (∀ p ∈ P, 2 ≤ wd ws p) → 2 ^ P.length ≤ prodW ws P
  | [], _ => by simp [prodW]
  | p :: ps, h => by
    rw [prodW, List.length_cons, Nat.pow_succ, Nat.mul_comm]
    exact Nat.mul_le_mul (h p (by simp)) (prodW_two fun q hq => h q (List.mem_cons_of_mem _ hq))
theorem prodW_four : ∀ P : List Int, prodW ws P ≤ 4 ^ P.length
  | [] => by simp [prodW]
  | p :: ps => by
    rw [prodW, List.length_cons, Nat.pow_succ, Nat.mul_comm (4 ^ _)]
    exact Nat.mul_le_mul (wd_pos W p).2 (prodW_four ps)
def wide (ws : List Nat) (P : List Int) : List Int := P.filter fun p => decide (1 < wd ws p)
omit W in
theorem mem_wide {P : List Int} {p : Int} : p ∈ wide ws P ↔ p ∈ P ∧ 1 < wd ws p := by simp [wide]
theorem wide_two {P : List Int} : ∀ p ∈ wide ws P, 2 ≤ wd ws p := fun p hp => (mem_wide.mp hp).2
theorem narrow_inds {f : Kn → D} {p : Int} (h : ¬ 1 < wd ws p) : inds ws f p := fun k o hk ho => by
  have h1 := hk p
  have : o = k p := by omega
  rw [this, upk_id]
theorem sett_wide {P : List Int} {f : Kn → D} : sett ws P f = sett ws (wide ws P) f := sett_filter W fun p _ hs => narrow_inds W (by simpa using hs)
theorem setQ_wide (t : QT) : setQ ws t = sett ws (wide ws t.named) t.ev := sett_wide W
theorem setQ_over (t : QT) : sett ws (wide ws t.named) (fun k' => t.ev (over (wide ws t.named) k' k0)) = setQ ws t := by
  rw [setQ_wide W]
  refine sett_cg W fun k hk => ev_cg fun q hq => ?_
  unfold over
  split
  · rfl
  · rename_i h
    have : ¬ 1 < wd ws q := fun c => h (mem_wide.mpr ⟨mem_named.mpr hq, c⟩)
    have := hk q
    show k0 q = k q
    unfold k0; omega
theorem setQ_ev {t : QT} {k : Kn} (hk : vk ws k) : (setQ ws t).ev k = t.ev k := sett_ev W (onlyOn_named t) hk
theorem setQ_good {t : QT} (g : goodQ ws t) : goodQ ws (setQ ws t) := by
  have h1 := prodW_filter W (fun p => decide (1 < wd ws p)) t.named
  have h2 := prodW_two W (P := wide ws t.named) (wide_two W)
  have h3 : prodW ws (wide ws t.named) ≤ 256 := Nat.le_trans h1 g.pr
  have h4 : (wide ws t.named).length ≤ 8 := by
    by_cases c : (wide ws t.named).length ≤ 8
    · exact c
    · have : 2 ^ 9 ≤ 2 ^ (wide ws t.named).length := Nat.pow_le_pow_right (by omega) (by omega)
      omega
  refine ⟨W, sett_wf W (named_range g.wf) fun k hk => ev_ok hk g.wf, ?_, ?_, ?_, ?_⟩
  · rw [setQ_wide W]; have := sett_ht W (P := wide ws t.named) (f := t.ev); omega
  · rw [setQ_wide W]; have := sett_nk W (P := wide ws t.named) (f := t.ev) (wide_two W); omega
  · unfold setQ; rw [sett_named W (onlyOn_named t) (asc_named t)]; exact Nat.le_trans (prodW_filter W _ _) g.pr
  · unfold setQ; rw [sett_named W (onlyOn_named t) (asc_named t)]; exact Nat.lt_of_le_of_lt (List.length_filter_le _ _) g.le
theorem setQ_set (t : QT) : setQ ws (setQ ws t) = setQ ws t := by
  have h1 : setQ ws (setQ ws t) = sett ws (setQ ws t).named t.ev := sett_cg W fun k hk => setQ_ev W hk
  rw [h1]
  have h2 : onlyOn ws t.ev (setQ ws t).named := fun k k' a b e => by rw [← setQ_ev W a, ← setQ_ev W b]; exact onlyOn_named (ws := ws) _ k k' a b e
  exact sett_one W (asc_named _) (asc_named _) h2 (onlyOn_named t)
end
mutual
theorem tells_len {ws : List Nat} (W : okW ws) : ∀ {t : QT}, t.wf ws → t.tells.length ≤ 3 * t.nk + 1
  | .tell v, _ => by simp [QT.tells]
  | .look p bs, w => by
    rw [QT.wf] at w
    have h1 := tellsL_len W w.2.2.2
    have h2 := (wd_pos W p).2
    rw [QT.tells, QT.nk]
    omega
theorem tellsL_len {ws : List Nat} (W : okW ws) : ∀ {ts : List QT}, wfL ws ts → (tellsL ts).length ≤ 3 * nkL ts + ts.length
  | [], _ => by simp [tellsL]
  | t :: ts, w => by
    rw [wfL] at w
    have h1 := tells_len W w.1
    have h2 := tellsL_len W w.2
    rw [tellsL, nkL, List.length_append, List.length_cons]
    omega
end
mutual
theorem tells_ok {ws : List Nat} : ∀ {t : QT}, t.wf ws → ∀ v ∈ t.tells, okV v
  | .tell v, w, u, h => by
    rw [QT.tells, List.mem_singleton] at h
    subst h
    simpa [QT.wf] using w
  | .look p bs, w, u, h => by
    rw [QT.wf] at w
    rw [QT.tells] at h
    exact tellsL_ok w.2.2.2 u h
theorem tellsL_ok {ws : List Nat} : ∀ {ts : List QT}, wfL ws ts → ∀ v ∈ tellsL ts, okV v
  | [], _, u, h => by rw [tellsL] at h; cases h
  | t :: ts, w, u, h => by
    rw [wfL] at w
    rw [tellsL, List.mem_append] at h
    rcases h with h | h
    · exact tells_ok w.1 u h
    · exact tellsL_ok w.2 u h
end
/-! ### the dict of zeros -/
def kz (P : List Int) : List (Key × D) := P.map fun p => (.inl p, .int 0)
theorem kz_val {P : List Int} {q : Int} (h : q ∈ P) : valD (kz P) (.inl q) = some (.int 0) := by
  induction P with
  | nil => cases h
  | cons p ps ih =>
    unfold kz
    rw [List.map_cons, valD_cons]
    by_cases c : p = q
    · subst c; simp
    · rw [if_neg (by simpa using c)]
      exact ih ((List.mem_cons.mp h).resolve_left (fun e => c e.symm))
theorem kz_ok {P : List Int} (h : P.Nodup) : keysOk (kz P) := by
  unfold keysOk kz
  rw [List.map_map]
  exact List.pairwise_map.mpr (h.imp fun hne e => hne (Sum.inl.inj e))
theorem kz_put {P : List Int} {p : Int} (h : p ∉ P) : putKD (kz P) (.inl p) (.int 0) = kz (P ++ [p]) := by
  have : ((kz P).any fun q => decide (q.1 = Sum.inl p)) = false := by
    rw [Bool.eq_false_iff]
    intro z
    obtain ⟨q, hq, e⟩ := List.any_eq_true.mp z
    obtain ⟨r, hr, rfl⟩ := List.mem_map.mp hq
    have e' : (Sum.inl r : Key) = Sum.inl p := of_decide_eq_true e
    cases e'
    exact h hr
  unfold putKD
  rw [this]
  simp [kz]
theorem knows_kz {t : QT} {P : List Int} (h : ∀ q, t.occ q → q ∈ P) : knows (kz P) t k0 := fun q hq => kz_val (h q hq)
theorem over_nil {k k' : Kn} : over [] k' k = k := by funext q; simp [over]
theorem over_fx {t : QT} {p : Int} {ps : List Int} {k : Kn} {o : Nat} (h : p ∉ ps) : (fun k' => t.ev (over ps k' (upk k p o))) = fx (fun k' => t.ev (over (p :: ps) k' k)) p o := by
  funext k'
  show t.ev _ = t.ev _
  congr 1
  funext q
  unfold over
  by_cases c : q = p
  · subst c
    rw [if_neg h, if_pos (by simp), upk_same, upk_same]
  · rw [upk_ne c, upk_ne c]
    simp [List.mem_cons, c]
theorem knows_put {kvs : List (Key × D)} {t : QT} {k : Kn} {p : Int} {o : Nat} (h : knows kvs t k) : knows (putKD kvs (.inl p) (.int ((o : Nat) : Int))) t (upk k p o) := fun q hq => by
  rw [valD_put]
  by_cases c : p = q
  · subst c; rw [if_pos rfl, upk_same]
  · rw [if_neg (by simpa using c), upk_ne (fun e => c e.symm)]
    exact h q hq
/-! ### comparing terms -/
theorem eqD_pv {x y : D} {M : Mp} {Q : DK} {n : Bool} (hx : pvD x = true) (hy : pvD y = true) (hd : min (dep x) (dep y) ≤ 200) (ht : ∃ xs, x = .tup xs) : eqG n x y M Q = Q (.bl (n != (open Classical in decide (x = y)))) M := by
  obtain ⟨xs, rfl⟩ := ht
  have e : eqb (.tup xs) y = (open Classical in decide (D.tup xs = y)) := by
    rw [Bool.eq_iff_iff, eqb_iff hx hy]; simp
  unfold eqG
  simp only [eqOk, pv_ok hx, pv_ok hy, hd, and_self, true_and, e]
theorem toD_tup (t : QT) : ∃ xs, t.toD = .tup xs := by cases t <;> simp [QT.toD]
theorem eq_toD {ws : List Nat} (W : okW ws) {t u : QT} {M : Mp} {Q : DK} {n : Bool} (ht : t.wf ws) (hu : u.wf ws) (h : t.ht ≤ 100 ∨ u.ht ≤ 100) : eqG n t.toD u.toD M Q = Q (.bl (n != (open Classical in decide (t = u)))) M := by
  have h1 := toD_dep ht
  have h2 := toD_dep hu
  rw [eqD_pv (toD_pv W ht) (toD_pv W hu) (by omega) (toD_tup t)]
  have : (open Classical in decide (t.toD = u.toD)) = (open Classical in decide (t = u)) := by
    rw [Bool.eq_iff_iff]
    simp only [decide_eq_true_eq]
    exact ⟨toD_inj, fun e => by rw [e]⟩
  rw [this]
theorem okS_of : ∀ (n : Nat) {d : D}, pvD d = true → dep d < n → okS n d
  | n, .non, h, _ => by unfold okS; exact pv_ok h
  | n, .int _, h, _ => by unfold okS; exact pv_ok h
  | n, .str _, h, _ => by unfold okS; exact pv_ok h
  | n, .bl _, h, _ => by cases h
  | n, .ref _, h, _ => by cases h
  | n, .ty _, h, _ => by cases h
  | 0, .tup xs, h, hd => absurd hd (by omega)
  | n + 1, .tup xs, h, hd => by
    rw [okS]
    rw [dep] at hd
    have h2 := pvT h
    refine ⟨n, rfl, by omega, fun x hx => ?_⟩
    have := depL_mem hx
    exact okS_of n (pvL_mem.mp h2.2 x hx) (by omega)
theorem okS_toD {ws : List Nat} (W : okW ws) {t : QT} {n : Nat} (h : t.wf ws) (hn : t.ht + 61 < n) : okS n t.toD := okS_of n (toD_pv W h) (by have := toD_dep h; omega)
theorem okS_tup {xs : List D} {n : Nat} (hl : xs.length ≤ 100000) (h : ∀ x ∈ xs, okS n x) : okS (n + 1) (.tup xs) := by
  rw [okS]; exact ⟨n, rfl, hl, h⟩
theorem okS_vals {vs : List D} {n : Nat} (hl : vs.length ≤ 100000) (h : ∀ v ∈ vs, okV v) (hn : 61 < n) : okS n (.tup vs) := by
  obtain ⟨m, rfl⟩ : ∃ m, n = m + 1 := ⟨n - 1, by omega⟩
  exact okS_tup hl fun v hv => okS_of m (h v hv).1 (by have := (h v hv).2; omega)
theorem okS_int {n : Nat} {i : Int} : okS n (.int i) := by unfold okS; rfl
end DQ

set_option maxHeartbeats 4000000
namespace K58
open PySem PySem.Spec L2 DL DQ
/-! ### the text by places -/
def top (i : Nat) : Stmt := PySem.Challenge.pw_proofchoosers_k58_needed_places_and_head.main.body.getD i (.Pass ⟨0, 0, 0, 0⟩)
/-- the addresses of the classes -/
structure Adr where
  (ProofsError InvalidText InvalidTerm InvalidQuery OutOfRange TooLarge Query : Addr)
/-- what the written part says of the names -/
structure Txt (w : World) (K : PySem.W.Frag) (mg : Str → Option Value) (A : Adr) : Prop where
  n_all : mg "all" = none
  n_bool : mg "bool" = none
  n_int : mg "int" = none
  n_isinstance : mg "isinstance" = none
  n_len : mg "len" = none
  n_list : mg "list" = none
  n_max : mg "max" = none
  n_range : mg "range" = none
  n_set : mg "set" = none
  n_sorted : mg "sorted" = none
  n_str : mg "str" = none
  n_sum : mg "sum" = none
  n_tuple : mg "tuple" = none
  n_zip : mg "zip" = none
  m_ProofsError : mg "ProofsError" = some (.ref A.ProofsError)
  m_InvalidText : mg "InvalidText" = some (.ref A.InvalidText)
  m_InvalidTerm : mg "InvalidTerm" = some (.ref A.InvalidTerm)
  m_InvalidQuery : mg "InvalidQuery" = some (.ref A.InvalidQuery)
  m_OutOfRange : mg "OutOfRange" = some (.ref A.OutOfRange)
  m_TooLarge : mg "TooLarge" = some (.ref A.TooLarge)
  x_OutOfRange : ExcK K mg "OutOfRange" A.OutOfRange
  x_TooLarge : ExcK K mg "TooLarge" A.TooLarge
  m_Query : mg "Query" = some (.ref A.Query)
  i_Query : InsK K A.Query
  d_Query_term : FldK K A.Query "term"
  d_Query_widths : FldK K A.Query "widths"
  c_DIGITS : ∃ t : Tok, mg "DIGITS" = some (.str "0123456789" t)
  c_LETTERS : ∃ t : Tok, mg "LETTERS" = some (.str "abcdefghijklmnopqrstuvwxyz" t)
  c_MOST_DEPTH : ∃ t : Tok, mg "MOST_DEPTH" = some (.int 200 t)
  c_MOST_DIGITS : ∃ t : Tok, mg "MOST_DIGITS" = some (.int 9 t)
  c_MOST_LETTERS : ∃ t : Tok, mg "MOST_LETTERS" = some (.int 12 t)
  c_MOST_NUMBER : ∃ t : Tok, mg "MOST_NUMBER" = some (.int 999999999 t)
  c_MOST_WIDTH : ∃ t : Tok, mg "MOST_WIDTH" = some (.int 4 t)
  c_MOST_WIDTHS : ∃ t : Tok, mg "MOST_WIDTHS" = some (.int 6 t)
  c_PLACES : ∃ t : Tok, mg "PLACES" = some (.int 100 t)
  cst_Query_MOST_CHOICES : CstK K A.Query "MOST_CHOICES" (.int 256)
  cst_Query_MOST_LEVELS : CstK K A.Query "MOST_LEVELS" (.int 20)
  cst_Query_MOST_LOOKS : CstK K A.Query "MOST_LOOKS" (.int 300)
abbrev s_is_word : Stmt := top 14
abbrev N_is_word : List Str := ["item", "sign"]
abbrev P_is_word : List Str := ["item"]
theorem sc_is_word : FnScope N_is_word P_is_word (defScope s_is_word) := C8.fnScope_by (by decide +kernel)
abbrev s_is_number : Stmt := top 15
abbrev N_is_number : List Str := ["item"]
abbrev P_is_number : List Str := ["item"]
theorem sc_is_number : FnScope N_is_number P_is_number (defScope s_is_number) := C8.fnScope_by (by decide +kernel)
abbrev s_write_part : Stmt := top 16
abbrev N_write_part : List Str := ["term", "path", "texts", "k"]
abbrev P_write_part : List Str := ["term", "path"]
theorem sc_write_part : FnScope N_write_part P_write_part (defScope s_write_part) := C8.fnScope_by (by decide +kernel)
abbrev s_write_term : Stmt := top 17
abbrev N_write_term : List Str := ["term"]
abbrev P_write_term : List Str := ["term"]
theorem sc_write_term : FnScope N_write_term P_write_term (defScope s_write_term) := C8.fnScope_by (by decide +kernel)
abbrev s_atom_end : Stmt := top 18
abbrev N_atom_end : List Str := ["text", "start", "signs", "most", "end"]
abbrev P_atom_end : List Str := ["text", "start"]
theorem sc_atom_end : FnScope N_atom_end P_atom_end (defScope s_atom_end) := C8.fnScope_by (by decide +kernel)
abbrev s_atom : Stmt := top 19
abbrev N_atom : List Str := ["text"]
abbrev P_atom : List Str := ["text"]
theorem sc_atom : FnScope N_atom P_atom (defScope s_atom) := C8.fnScope_by (by decide +kernel)
abbrev s_whole : Stmt := top 20
abbrev N_whole : List Str := ["item", "text", "at"]
abbrev P_whole : List Str := ["item", "text", "at"]
theorem sc_whole : FnScope N_whole P_whole (defScope s_whole) := C8.fnScope_by (by decide +kernel)
abbrev s_read_term : Stmt := top 21
abbrev N_read_term : List Str := ["text", "lists", "at", "end", "item"]
abbrev P_read_term : List Str := ["text"]
theorem sc_read_term : FnScope N_read_term P_read_term (defScope s_read_term) := C8.fnScope_by (by decide +kernel)
abbrev s_is_below : Stmt := top 26
abbrev N_is_below : List Str := ["item", "limit"]
abbrev P_is_below : List Str := ["item", "limit"]
theorem sc_is_below : FnScope N_is_below P_is_below (defScope s_is_below) := C8.fnScope_by (by decide +kernel)
abbrev s_place_width : Stmt := top 27
abbrev N_place_width : List Str := ["widths", "place"]
abbrev P_place_width : List Str := ["widths", "place"]
theorem sc_place_width : FnScope N_place_width P_place_width (defScope s_place_width) := C8.fnScope_by (by decide +kernel)
abbrev s_check_widths : Stmt := top 28
abbrev N_check_widths : List Str := ["widths", "width"]
abbrev P_check_widths : List Str := ["widths"]
theorem sc_check_widths : FnScope N_check_widths P_check_widths (defScope s_check_widths) := C8.fnScope_by (by decide +kernel)
abbrev s_check_query : Stmt := top 29
abbrev N_check_query : List Str := ["term", "widths", "path", "k"]
abbrev P_check_query : List Str := ["term", "widths", "path"]
theorem sc_check_query : FnScope N_check_query P_check_query (defScope s_check_query) := C8.fnScope_by (by decide +kernel)
abbrev s_count_looks : Stmt := top 30
abbrev N_count_looks : List Str := ["term", "branch"]
abbrev P_count_looks : List Str := ["term"]
theorem sc_count_looks : FnScope N_count_looks P_count_looks (defScope s_count_looks) := C8.fnScope_by (by decide +kernel)
abbrev s_named_places : Stmt := top 31
abbrev N_named_places : List Str := ["term", "places", "branch"]
abbrev P_named_places : List Str := ["term"]
theorem sc_named_places : FnScope N_named_places P_named_places (defScope s_named_places) := C8.fnScope_by (by decide +kernel)
abbrev s_is_large : Stmt := top 32
abbrev N_is_large : List Str := ["places", "widths", "many", "place"]
abbrev P_is_large : List Str := ["places", "widths"]
theorem sc_is_large : FnScope N_is_large P_is_large (defScope s_is_large) := C8.fnScope_by (by decide +kernel)
abbrev s_Query_init : Stmt := inClass (top 33) 3
abbrev N_Query_init : List Str := ["self", "term", "widths"]
abbrev P_Query_init : List Str := ["self", "term", "widths"]
theorem sc_Query_init : FnScope N_Query_init P_Query_init (defScope s_Query_init) := C8.fnScope_by (by decide +kernel)
abbrev s_Query_call : Stmt := inClass (top 33) 4
abbrev N_Query_call : List Str := ["self", "row"]
abbrev P_Query_call : List Str := ["self", "row"]
theorem sc_Query_call : FnScope N_Query_call P_Query_call (defScope s_Query_call) := C8.fnScope_by (by decide +kernel)
abbrev s_Query_text : Stmt := inClass (top 33) 5
abbrev N_Query_text : List Str := ["self"]
abbrev P_Query_text : List Str := ["self"]
theorem sc_Query_text : FnScope N_Query_text P_Query_text (defScope s_Query_text) := C8.fnScope_by (by decide +kernel)
abbrev s_Query_read : Stmt := inClass (top 33) 6
abbrev N_Query_read : List Str := ["text", "term"]
abbrev P_Query_read : List Str := ["text"]
theorem sc_Query_read : FnScope N_Query_read P_Query_read (defScope s_Query_read) := C8.fnScope_by (by decide +kernel)
abbrev s_follow : Stmt := top 34
abbrev N_follow : List Str := ["query", "row", "places", "term", "place", "entry"]
abbrev P_follow : List Str := ["query", "row"]
theorem sc_follow : FnScope N_follow P_follow (defScope s_follow) := C8.fnScope_by (by decide +kernel)
abbrev s_told_by : Stmt := top 36
abbrev N_told_by : List Str := ["term", "known"]
abbrev P_told_by : List Str := ["term", "known"]
theorem sc_told_by : FnScope N_told_by P_told_by (defScope s_told_by) := C8.fnScope_by (by decide +kernel)
abbrev s_settled_term : Stmt := top 37
abbrev N_settled_term : List Str := ["term", "places", "widths", "known", "branches", "option", "branch"]
abbrev P_settled_term : List Str := ["term", "places", "widths", "known"]
theorem sc_settled_term : FnScope N_settled_term P_settled_term (defScope s_settled_term) := C8.fnScope_by (by decide +kernel)
abbrev s_settle_query : Stmt := top 38
abbrev N_settle_query : List Str := ["query", "named", "known", "places", "place"]
abbrev P_settle_query : List Str := ["query"]
theorem sc_settle_query : FnScope N_settle_query P_settle_query (defScope s_settle_query) := C8.fnScope_by (by decide +kernel)
abbrev s_needed_places : Stmt := top 39
abbrev N_needed_places : List Str := ["query"]
abbrev P_needed_places : List Str := ["query"]
theorem sc_needed_places : FnScope N_needed_places P_needed_places (defScope s_needed_places) := C8.fnScope_by (by decide +kernel)
abbrev s_query_reach : Stmt := top 40
abbrev N_query_reach : List Str := ["query", "places"]
abbrev P_query_reach : List Str := ["query"]
theorem sc_query_reach : FnScope N_query_reach P_query_reach (defScope s_query_reach) := C8.fnScope_by (by decide +kernel)
abbrev s_tells_of : Stmt := top 41
abbrev N_tells_of : List Str := ["term", "values", "branch"]
abbrev P_tells_of : List Str := ["term"]
theorem sc_tells_of : FnScope N_tells_of P_tells_of (defScope s_tells_of) := C8.fnScope_by (by decide +kernel)
abbrev s_told_values : Stmt := top 42
abbrev N_told_values : List Str := ["query", "found", "value"]
abbrev P_told_values : List Str := ["query"]
theorem sc_told_values : FnScope N_told_values P_told_values (defScope s_told_values) := C8.fnScope_by (by decide +kernel)
abbrev s_heads_between : Stmt := top 43
abbrev N_heads_between : List Str := ["widths", "start", "end", "many", "place"]
abbrev P_heads_between : List Str := ["widths", "start", "end"]
theorem sc_heads_between : FnScope N_heads_between P_heads_between (defScope s_heads_between) := C8.fnScope_by (by decide +kernel)
abbrev s_heads_by_tell : Stmt := top 44
abbrev N_heads_by_tell : List Str := ["term", "widths", "start", "reach", "free", "counts", "branch", "many"]
abbrev P_heads_by_tell : List Str := ["term", "widths", "start", "reach"]
theorem sc_heads_by_tell : FnScope N_heads_by_tell P_heads_by_tell (defScope s_heads_by_tell) := C8.fnScope_by (by decide +kernel)
abbrev s_count_heads : Stmt := top 45
abbrev N_count_heads : List Str := ["query", "settled", "values", "counts", "heads", "value", "many", "_"]
abbrev P_count_heads : List Str := ["query"]
theorem sc_count_heads : FnScope N_count_heads P_count_heads (defScope s_count_heads) := C8.fnScope_by (by decide +kernel)
abbrev s_law_start : Stmt := top 47
abbrev N_law_start : List Str := ["script", "seed", "k"]
abbrev P_law_start : List Str := ["script"]
theorem sc_law_start : FnScope N_law_start P_law_start (defScope s_law_start) := C8.fnScope_by (by decide +kernel)
abbrev s_law_pick : Stmt := top 48
abbrev N_law_pick : List Str := ["state", "limit", "rest", "cell", "mixed"]
abbrev P_law_pick : List Str := ["state", "limit"]
theorem sc_law_pick : FnScope N_law_pick P_law_pick (defScope s_law_pick) := C8.fnScope_by (by decide +kernel)
abbrev s_law_same : Stmt := top 49
abbrev N_law_same : List Str := ["actual", "due", "p"]
abbrev P_law_same : List Str := ["actual", "due"]
theorem sc_law_same : FnScope N_law_same P_law_same (defScope s_law_same) := C8.fnScope_by (by decide +kernel)
abbrev s_law_width : Stmt := top 50
abbrev N_law_width : List Str := ["widths", "place"]
abbrev P_law_width : List Str := ["widths", "place"]
theorem sc_law_width : FnScope N_law_width P_law_width (defScope s_law_width) := C8.fnScope_by (by decide +kernel)
abbrev s_law_widths : Stmt := top 51
abbrev N_law_widths : List Str := ["state", "top", "many", "k"]
abbrev P_law_widths : List Str := ["state"]
theorem sc_law_widths : FnScope N_law_widths P_law_widths (defScope s_law_widths) := C8.fnScope_by (by decide +kernel)
abbrev s_law_pool : Stmt := top 52
abbrev N_law_pool : List Str := ["state", "pool", "k", "number", "things"]
abbrev P_law_pool : List Str := ["state"]
theorem sc_law_pool : FnScope N_law_pool P_law_pool (defScope s_law_pool) := C8.fnScope_by (by decide +kernel)
abbrev s_law_shuffled : Stmt := top 53
abbrev N_law_shuffled : List Str := ["state", "spots", "rest", "k"]
abbrev P_law_shuffled : List Str := ["state", "spots"]
theorem sc_law_shuffled : FnScope N_law_shuffled P_law_shuffled (defScope s_law_shuffled) := C8.fnScope_by (by decide +kernel)
abbrev s_law_asked : Stmt := top 54
abbrev N_law_asked : List Str := ["state", "widths", "spots", "levels", "pool", "place", "options", "x"]
abbrev P_law_asked : List Str := ["state", "widths", "spots", "levels", "pool"]
theorem sc_law_asked : FnScope N_law_asked P_law_asked (defScope s_law_asked) := C8.fnScope_by (by decide +kernel)
abbrev s_law_full : Stmt := top 55
abbrev N_law_full : List Str := ["state", "widths", "order", "marked", "pool", "total", "place", "branches", "x", "more"]
abbrev P_law_full : List Str := ["state", "widths", "order", "marked", "pool", "total"]
theorem sc_law_full : FnScope N_law_full P_law_full (defScope s_law_full) := C8.fnScope_by (by decide +kernel)
abbrev s_law_choices : Stmt := top 56
abbrev N_law_choices : List Str := ["widths", "spots", "found", "place", "longer", "one", "x", "more"]
abbrev P_law_choices : List Str := ["widths", "spots"]
theorem sc_law_choices : FnScope N_law_choices P_law_choices (defScope s_law_choices) := C8.fnScope_by (by decide +kernel)
abbrev s_law_end : Stmt := top 57
abbrev N_law_end : List Str := ["term", "known", "k"]
abbrev P_law_end : List Str := ["term", "known"]
theorem sc_law_end : FnScope N_law_end P_law_end (defScope s_law_end) := C8.fnScope_by (by decide +kernel)
abbrev s_law_retold : Stmt := top 58
abbrev N_law_retold : List Str := ["widths", "term", "order", "known", "changed", "value", "place", "branches", "x", "more"]
abbrev P_law_retold : List Str := ["widths", "term", "order", "known", "changed"]
theorem sc_law_retold : FnScope N_law_retold P_law_retold (defScope s_law_retold) := C8.fnScope_by (by decide +kernel)
abbrev s_law_places : Stmt := top 59
abbrev N_law_places : List Str := ["state", "widths", "count", "limit", "spots", "many", "ones", "k", "place", "width"]
abbrev P_law_places : List Str := ["state", "widths", "count", "limit"]
theorem sc_law_places : FnScope N_law_places P_law_places (defScope s_law_places) := C8.fnScope_by (by decide +kernel)
abbrev s_law_term : Stmt := top 60
abbrev N_law_term : List Str := ["state", "widths", "spots", "pool", "levels", "marked", "place"]
abbrev P_law_term : List Str := ["state", "widths", "spots", "pool"]
theorem sc_law_term : FnScope N_law_term P_law_term (defScope s_law_term) := C8.fnScope_by (by decide +kernel)
abbrev s_law_different : Stmt := top 61
abbrev N_law_different : List Str := ["told", "values", "value"]
abbrev P_law_different : List Str := ["told"]
theorem sc_law_different : FnScope N_law_different P_law_different (defScope s_law_different) := C8.fnScope_by (by decide +kernel)
abbrev s_law_many : Stmt := top 62
abbrev N_law_many : List Str := ["widths", "places", "many", "place"]
abbrev P_law_many : List Str := ["widths", "places"]
theorem sc_law_many : FnScope N_law_many P_law_many (defScope s_law_many) := C8.fnScope_by (by decide +kernel)
abbrev s_law_strides : Stmt := top 63
abbrev N_law_strides : List Str := ["widths", "spots", "strides", "many", "k"]
abbrev P_law_strides : List Str := ["widths", "spots"]
theorem sc_law_strides : FnScope N_law_strides P_law_strides (defScope s_law_strides) := C8.fnScope_by (by decide +kernel)
abbrev s_law_needed : Stmt := top 64
abbrev N_law_needed : List Str := ["widths", "spots", "choices", "told", "strides", "needed", "j", "moved", "k"]
abbrev P_law_needed : List Str := ["widths", "spots", "choices", "told"]
theorem sc_law_needed : FnScope N_law_needed P_law_needed (defScope s_law_needed) := C8.fnScope_by (by decide +kernel)
abbrev s_law_heads : Stmt := top 65
abbrev N_law_heads : List Str := ["widths", "needed", "spots", "choices", "told", "values", "reach", "free", "needless", "counts", "k", "at", "place", "value"]
abbrev P_law_heads : List Str := ["widths", "needed", "spots", "choices", "told"]
theorem sc_law_heads : FnScope N_law_heads P_law_heads (defScope s_law_heads) := C8.fnScope_by (by decide +kernel)
abbrev s_law_counted : Stmt := top 66
abbrev N_law_counted : List Str := ["query", "widths", "spots", "choices", "told", "needed", "reach", "counts"]
abbrev P_law_counted : List Str := ["query", "widths", "spots", "choices", "told"]
theorem sc_law_counted : FnScope N_law_counted P_law_counted (defScope s_law_counted) := C8.fnScope_by (by decide +kernel)
abbrev s_law : Stmt := top 67
abbrev N_law : List Str := ["script", "state", "widths", "limit", "spots", "pool", "term", "order", "choices", "told", "query", "retold", "again", "place", "plain", "one", "flat", "known"]
abbrev P_law : List Str := ["script"]
theorem sc_law : FnScope N_law P_law (defScope s_law) := C8.fnScope_by (by decide +kernel)
end K58

set_option maxHeartbeats 4000000
namespace K58
open PySem PySem.Spec L2 DL DQ
def chOk (ch : Option (List (Key × D))) (X : D) (M : Mp) : Prop := match ch with
  | some c => ∃ r, X = .ref r ∧ M r = some (.dk c) ∧ (c.all fun p => isIntD p.2) = true
  | none => X = .non
def sp_law_retold (n : Nat) : DSp := fun ds M Q _ => ∃ (ws : List Nat) (t : QT) (a : Addr) (L : List Int) (b : Addr) (kvs : List (Key × D)) (k : Kn) (X : D) (ch : Option (List (Key × D))), ds = [wsD ws, t.toD, .ref a, .ref b, X] ∧ okW ws ∧ t.wf ws ∧ t.ht ≤ 23 ∧ M a = some (.lst (L.map D.int)) ∧ L.length < n ∧ L.length ≤ 100 ∧ M b = some (.dk kvs) ∧
  (∀ q, t.occ q → q ∉ L → valD kvs (.inl q) = some (.int ((k q : Nat) : Int))) ∧ (∀ q v, valD kvs (.inl q) = some v → v = .int ((k q : Nat) : Int)) ∧ vk ws k ∧ kvs.length + L.length ≤ 1000 ∧ (kvs.all fun p => isIntD p.2) = true ∧
  chOk ch X M ∧ Q (rt ws t ch L kvs k).toD M
def ones (ws : List Nat) (P : List Int) : Nat := (P.filter fun p => wd ws p == 1).length
def okP (ws : List Nat) (lim : Nat) (P : List Int) : Prop := 1 ≤ P.length ∧ P.length ≤ 12 ∧ P.Nodup ∧ (∀ p ∈ P, 0 ≤ p ∧ p < 100) ∧ prodW ws P * (1 + ones ws P) ≤ lim
def sp_law_places : DSp := fun ds M Q _ => ∃ (s l : Addr) (ns : List Int) (ws : List Nat) (c lim : Nat), ds = [.ref s, wsD ws, .int ((c : Nat) : Int), .int ((lim : Nat) : Int)] ∧ PSt M s l ns ∧ okW ws ∧ 1 ≤ c ∧ c ≤ 12 ∧ 4 ≤ lim ∧ lim ≤ 256 ∧ ∀ P, okP ws lim P → DrawnL M s l ns (fun vs => vs = P.map D.int) Q
def sp_law_term : DSp := fun ds M Q _ => ∃ (s l : Addr) (ns : List Int) (ws : List Nat) (a : Addr) (P : List Int) (b : Addr) (vs : List D), ds = [.ref s, wsD ws, .ref a, .ref b] ∧ PSt M s l ns ∧ okW ws ∧ a ≠ s ∧ M a = some (.lst (P.map D.int)) ∧ okP ws 256 P ∧ b ≠ s ∧ M b = some (.lst vs) ∧ okPool vs ∧
  ∀ t : QT, goodQ ws t ∧ t.low → (∀ q, t.occ q → q ∈ P) → t.ht ≤ 12 → Drawn M s l ns (Q t.toD)
def sp_law_different : DSp := fun ds M Q _ => ∃ (a : Addr) (vs : List D), ds = [.ref a] ∧ M a = some (.lst vs) ∧ vs.length ≤ 1000 ∧ (∀ v ∈ vs, okV v) ∧ Fresh Q M (dd vs)
def sp_law_many : DSp := fun ds M Q _ => ∃ (ws : List Nat) (a : Addr) (P : List Int), ds = [wsD ws, .ref a] ∧ okW ws ∧ M a = some (.lst (P.map D.int)) ∧ P.length ≤ 130 ∧ Q (.int ((prodW ws P : Nat) : Int)) M
def stridesOf (ws : List Nat) (P : List Int) : List D := (List.range P.length).map fun j => D.int ((prodW ws (P.drop (j + 1)) : Nat) : Int)
def sp_law_strides : DSp := fun ds M Q _ => ∃ (ws : List Nat) (a : Addr) (P : List Int), ds = [wsD ws, .ref a] ∧ okW ws ∧ M a = some (.lst (P.map D.int)) ∧ P.length ≤ 100 ∧ Fresh Q M (stridesOf ws P)
/-- the law's table of a function f that looks at the places P alone -/
structure TabAt (M : Mp) (ws : List Nat) (P : List Int) (f : Kn → D) (p c d : Addr) : Prop where
  W : okW ws
  a : P.Pairwise (· < ·)
  r : ∀ q ∈ P, 0 ≤ q ∧ q < 100
  n : P.length ≤ 12
  o : onlyOn ws f P
  v : ∀ k, vk ws k → okV (f k)
  pr : prodW ws P ≤ 256
  sp : M p = some (.lst (P.map D.int))
  ch : ChAt M c ws P
  td : M d = some (.lst (table ws P f))
open Classical in
noncomputable def need (ws : List Nat) (P : List Int) (f : Kn → D) : List Int := P.filter fun p => decide (needs ws f p)
def sp_law_needed : DSp := fun ds M Q _ => ∃ (ws : List Nat) (p c d : Addr) (P : List Int) (f : Kn → D), ds = [wsD ws, .ref p, .ref c, .ref d] ∧ TabAt M ws P f p c d ∧ Fresh Q M ((need ws P f).map D.int)
noncomputable def lawCounts (ws : List Nat) (P : List Int) (f : Kn → D) : List D := (dd (table ws P f)).map fun v => D.int ((cnt (table ws (rng 0 (lastP (need ws P f)).toNat) f) v : Nat) : Int)
def sp_law_heads : DSp := fun ds M Q _ => ∃ (ws : List Nat) (n p c d : Addr) (P : List Int) (f : Kn → D), ds = [wsD ws, .ref n, .ref p, .ref c, .ref d] ∧ TabAt M ws P f p c d ∧ M n = some (.lst ((need ws P f).map D.int)) ∧
  Fresh Q M [.int (lastP (need ws P f)), .tup (lawCounts ws P f)]
def sp_law_counted (C : Addr) : DSp := fun ds M Q _ => ∃ (q : Addr) (t : QT) (ws : List Nat) (p c d : Addr) (P : List Int), ds = [.ref q, wsD ws, .ref p, .ref c, .ref d] ∧ QueryAt C M q t ws ∧ goodQ ws t ∧ TabAt M ws P t.ev p c d ∧ Q (.bl true) M
def sp_law (K : PySem.W.Frag) : DSp := spScript K
end K58

set_option maxHeartbeats 4000000
namespace K58
open PySem PySem.Spec L2 DL DQ
section
variable {P : Program} {w : World} {K : PySem.W.Frag} {mg : Str → Option Value} {base : Heap} {A : Adr}
def t_is_below (K : PySem.W.Frag) (A : Adr) : DS :=
  (dRet (dAndV (dCB (isiG K) (dCons (dVar 0) (dCons (dC (.ty "int")) dNil))) (dChain (oI0 fun i j => .bl (decide (i ≤ j))) (oI0 fun i j => .bl (decide (i < j))) (dC (.int 0)) (dVar 0) (dVar 1))))
theorem ok_is_below {f : Addr} {fd : FuncData} (T : Txt w K mg A)  (F : L2.Fun K "is_below" "is_below" s_is_below f fd) (sp : DSp) (len : ∀ ds M Q E, sp ds M Q E → ds.length = P_is_below.length) (h : ∀ ds M Q E, sp ds M Q E → t_is_below K A (ends Q E) (dstart N_is_below ds) M) :
    FnOk P w K mg base (L2.CX P w) (0 + 1) f fd P_is_below (liftSp K sp) :=
  okD F sc_is_below len fun cdv Ar outer s H E hr tk => ⟨t_is_below K _, (pssd_one (psd_ret (pd_and (pd_callB call_isiG rfl T.n_isinstance bt_isinstance (pad_cons (pdv 0) (pad_cons (pd_ty rfl T.n_int bt_int) pad_nil))) (pd_one (pd_chain op_leD op_ltD pd_int (pdv 0) (pdv 1)))))), h⟩
def t_place_width (K : PySem.W.Frag) (A : Adr) : DS :=
  (dRet (dOp ixG (dVar 0) (dOp (oI (fun _ j => 0 < j) fun i j => .int (i % j)) (dVar 1) (dCB lenG (dCons (dVar 0) dNil)))))
theorem ok_place_width {f : Addr} {fd : FuncData} (T : Txt w K mg A)  (F : L2.Fun K "place_width" "place_width" s_place_width f fd) (sp : DSp) (len : ∀ ds M Q E, sp ds M Q E → ds.length = P_place_width.length) (h : ∀ ds M Q E, sp ds M Q E → t_place_width K A (ends Q E) (dstart N_place_width ds) M) :
    FnOk P w K mg base (L2.CX P w) (0 + 1) f fd P_place_width (liftSp K sp) :=
  okD F sc_place_width len fun cdv Ar outer s H E hr tk => ⟨t_place_width K _, (pssd_one (psd_ret (pd_ix ix_G (pdv 0) (pd_op op_modD (pdv 1) (pd_callB call_lenG rfl T.n_len bt_len (pad_cons (pdv 0) pad_nil))) (fun _ _ => rfl)))), h⟩
def t_check_widths (K : PySem.W.Frag) (A : Adr) : DS :=
  (dSeq (dIfS (dOr (dNot (dTru (dCB (isiG K) (dCons (dVar 0) (dCons (dC (.ty "tuple")) dNil))))) (dNot (dB (dChain (oI0 fun i j => .bl (decide (i ≤ j))) (oI0 fun i j => .bl (decide (i ≤ j))) (dC (.int 1)) (dCB lenG (dCons (dVar 0) dNil)) (dC (.int 6)))))) (dRaise A.OutOfRange) dNext)
    (dFor (dIter (dVar 0)) (dName 1) (dIfS (dOr (dNot (dTru (dCB (isiG K) (dCons (dVar 1) (dCons (dC (.ty "int")) dNil))))) (dNot (dB (dChain (oI0 fun i j => .bl (decide (i ≤ j))) (oI0 fun i j => .bl (decide (i ≤ j))) (dC (.int 1)) (dVar 1) (dC (.int 4)))))) (dRaise A.OutOfRange) dNext)))
theorem ok_check_widths {f : Addr} {fd : FuncData} (T : Txt w K mg A)  (F : L2.Fun K "check_widths" "check_widths" s_check_widths f fd) (sp : DSp) (len : ∀ ds M Q E, sp ds M Q E → ds.length = P_check_widths.length) (h : ∀ ds M Q E, sp ds M Q E → t_check_widths K A (ends Q E) (dstart N_check_widths ds) M) :
    FnOk P w K mg base (L2.CX P w) (0 + 1) f fd P_check_widths (liftSp K sp) :=
  okD F sc_check_widths len fun cdv Ar outer s H E hr tk => ⟨t_check_widths K _, (pssd_cons (psd_if (PWD.pt (pwd_or (ptd_not (ptd_tru (pd_callB call_isiG rfl T.n_isinstance bt_isinstance (pad_cons (pdv 0) (pad_cons (pd_ty rfl T.n_tuple bt_tuple) pad_nil))))) (pwd_or1 (ptd_not (ptd_chain op_leD op_leD pd_int (pd_callB call_lenG rfl T.n_len bt_len (pad_cons (pdv 0) pad_nil)) (pd_gint rfl T.c_MOST_WIDTHS.choose_spec)))))) (pssd_one (psd_raise T.x_OutOfRange rfl tk rfl)) pssd_nil)
    (pssd_one (psd_for (passes_of rfl) rfl (pid_any (pdv 0)) (pgd_name (pg_name (i := 1) sc_check_widths.nd rfl (Or.inl rfl))) (pssd_one (psd_if (PWD.pt (pwd_or (ptd_not (ptd_tru (pd_callB call_isiG rfl T.n_isinstance bt_isinstance (pad_cons (pdv 1) (pad_cons (pd_ty rfl T.n_int bt_int) pad_nil))))) (pwd_or1 (ptd_not (ptd_chain op_leD op_leD pd_int (pdv 1) (pd_gint rfl T.c_MOST_WIDTH.choose_spec)))))) (pssd_one (psd_raise T.x_OutOfRange rfl tk rfl)) pssd_nil))))), h⟩
def t_check_query (K : PySem.W.Frag) (A : Adr) (n : Nat) : DS :=
  (dSeq (dIfS (dOr (dNot (dTru (dCB (isiG K) (dCons (dVar 0) (dCons (dC (.ty "tuple")) dNil))))) (dOr (dB (dOp eqD (dCB lenG (dCons (dVar 0) dNil)) (dC (.int 0)))) (dB (dOp (inG true) (dOp ixG (dVar 0) (dC (.int 0))) (dTup (dCons (dC (.str "tell")) (dCons (dC (.str "look")) dNil))))))) dNever dNext)
    (dSeq (dIfS (dB (dOp eqD (dOp ixG (dVar 0) (dC (.int 0))) (dC (.str "tell")))) (dSeq (dIfS (dB (dOp neD (dCB lenG (dCons (dVar 0) dNil)) (dC (.int 2)))) dNever dNext)
    dRetN) dNext)
    (dSeq (dIfS (dOr (dB (dOp (oI0 fun i j => .bl (decide (i < j))) (dCB lenG (dCons (dVar 0) dNil)) (dC (.int 3)))) (dB (dOp (oI0 fun i j => .bl (decide (j ≤ i))) (dCB lenG (dCons (dVar 2) dNil)) (dC (.int 20))))) dNever dNext)
    (dSeq (dIfS (dNot (dTru (dCall sp_is_below [] (dCons (dOp ixG (dVar 0) (dC (.int 1))) (dCons (dC (.int 100)) dNil))))) dNever dNext)
    (dSeq (dIfS (dB (dOp neD (dCB lenG (dCons (dVar 0) dNil)) (dOp addD (dC (.int 2)) (dCall sp_place_width [] (dCons (dVar 1) (dCons (dOp ixG (dVar 0) (dC (.int 1))) dNil)))))) dNever dNext)
    (dFor (dRng2 (dCons (dC (.int 2)) (dCons (dCB lenG (dCons (dVar 0) dNil)) dNil))) (dName 3) (dDrop (dCall (sp_check_query n) [] (dCons (dOp ixG (dVar 0) (dVar 3)) (dCons (dVar 1) (dCons (dOp addD (dVar 2) (dTup (dCons (dVar 3) dNil))) dNil)))))))))))
theorem ok_check_query {f : Addr} {fd : FuncData} {n : Nat} (T : Txt w K mg A) (G_check_query : FnD P w K mg base (1 + n) "check_query" P_check_query [] (sp_check_query n)) (G_is_below : FnD P w K mg base 1 "is_below" P_is_below [] sp_is_below) (G_place_width : FnD P w K mg base 1 "place_width" P_place_width [] sp_place_width) (F : L2.Fun K "check_query" "check_query" s_check_query f fd) (sp : DSp) (len : ∀ ds M Q E, sp ds M Q E → ds.length = P_check_query.length) (h : ∀ ds M Q E, sp ds M Q E → t_check_query K A n (ends Q E) (dstart N_check_query ds) M) :
    FnOk P w K mg base (L2.CX P w) (1 + n + 1) f fd P_check_query (liftSp K sp) :=
  okD F sc_check_query len fun cdv Ar outer s H E hr tk => ⟨t_check_query K _ n, (pssd_cons (psd_if (PWD.pt (pwd_or (ptd_not (ptd_tru (pd_callB call_isiG rfl T.n_isinstance bt_isinstance (pad_cons (pdv 0) (pad_cons (pd_ty rfl T.n_tuple bt_tuple) pad_nil))))) (pwd_or (pt_cmpD (op_eqG (u200 hr)) (pd_callB call_lenG rfl T.n_len bt_len (pad_cons (pdv 0) pad_nil)) pd_int (nomark _)) (pwd_or1 (pt_cmpD op_notInG (pd_ix ix_G (pdv 0) pd_int (fun _ _ => rfl)) (pd_tup (pad_cons pd_str (pad_cons pd_str pad_nil))) (by with_unfolding_all rfl)))))) (pssd_one psd_never) pssd_nil)
    (pssd_cons (psd_if (pt_cmpD (op_eqG (u200 hr)) (pd_ix ix_G (pdv 0) pd_int (fun _ _ => rfl)) pd_str (nomark _)) (pssd_cons (psd_if (pt_cmpD (op_neG (u200 hr)) (pd_callB call_lenG rfl T.n_len bt_len (pad_cons (pdv 0) pad_nil)) pd_int (nomark _)) (pssd_one psd_never) pssd_nil)
    (pssd_one psd_retN)) pssd_nil)
    (pssd_cons (psd_if (PWD.pt (pwd_or (pt_cmpD op_ltD (pd_callB call_lenG rfl T.n_len bt_len (pad_cons (pdv 0) pad_nil)) pd_int (nomark _)) (pwd_or1 (pt_cmpD op_geD (pd_callB call_lenG rfl T.n_len bt_len (pad_cons (pdv 2) pad_nil)) (pd_cst T.cst_Query_MOST_LEVELS (pd_cls rfl T.m_Query)) (nomark _))))) (pssd_one psd_never) pssd_nil)
    (pssd_cons (psd_if (ptd_not (ptd_tru (pd_call G_is_below (hr.mono (by omega)) tk rfl (pad_cons (pd_ix ix_G (pdv 0) pd_int (fun _ _ => rfl)) (pad_cons (pd_gint rfl T.c_PLACES.choose_spec) pad_nil))))) (pssd_one psd_never) pssd_nil)
    (pssd_cons (psd_if (pt_cmpD (op_neG (u200 hr)) (pd_callB call_lenG rfl T.n_len bt_len (pad_cons (pdv 0) pad_nil)) (pd_op op_addD pd_int (pd_call G_place_width (hr.mono (by omega)) tk rfl (pad_cons (pdv 1) (pad_cons (pd_ix ix_G (pdv 0) pd_int (fun _ _ => rfl)) pad_nil)))) (nomark _)) (pssd_one psd_never) pssd_nil)
    (pssd_one (psd_for (passes_of rfl) rfl (pid_rng2 rfl T.n_range (pad_cons pd_int (pad_cons (pd_callB call_lenG rfl T.n_len bt_len (pad_cons (pdv 0) pad_nil)) pad_nil))) (pgd_name (pg_name (i := 3) sc_check_query.nd rfl (Or.inl rfl))) (pssd_one (psd_expr (pd_call G_check_query (hr.mono (by omega)) tk rfl (pad_cons (pd_ix ix_G (pdv 0) (pdv 3) (fun _ _ => rfl)) (pad_cons (pdv 1) (pad_cons (pd_op op_addD (pdv 2) (pd_tup (pad_cons (pdv 3) pad_nil))) pad_nil))))))))))))), h⟩
def t_count_looks (K : PySem.W.Frag) (A : Adr) (n : Nat) : DS :=
  (dSeq (dIfS (dB (dOp eqD (dOp ixG (dVar 0) (dC (.int 0))) (dC (.str "tell")))) (dRet (dC (.int 0))) dNext)
    (dRet (dOp addD (dC (.int 1)) (dCB sumG (dCons (dLc (dIter (dSl (dVar 0) (dPart (dC (.int 2))) dNoP)) (fun d τ => τ.set 1 (some d)) dYes (dCall (sp_count_looks n) [] (dCons (dVar 1) dNil)) [1]) dNil)))))
theorem ok_count_looks {f : Addr} {fd : FuncData} {n : Nat} (T : Txt w K mg A) (G_count_looks : FnD P w K mg base (0 + n) "count_looks" P_count_looks [] (sp_count_looks n)) (F : L2.Fun K "count_looks" "count_looks" s_count_looks f fd) (sp : DSp) (len : ∀ ds M Q E, sp ds M Q E → ds.length = P_count_looks.length) (h : ∀ ds M Q E, sp ds M Q E → t_count_looks K A n (ends Q E) (dstart N_count_looks ds) M) :
    FnOk P w K mg base (L2.CX P w) (0 + n + 1) f fd P_count_looks (liftSp K sp) :=
  okD F sc_count_looks len fun cdv Ar outer s H E hr tk => ⟨t_count_looks K _ n, (pssd_cons (psd_if (pt_cmpD (op_eqG (u200 hr)) (pd_ix ix_G (pdv 0) pd_int (fun _ _ => rfl)) pd_str (nomark _)) (pssd_one (psd_ret pd_int)) pssd_nil)
    (pssd_one (psd_ret (pd_op op_addD pd_int (pd_callB (call_sumG rfl) rfl T.n_sum bt_sum (pad_cons (pd_lc (own := [("branch", 1)]) (i := 1) rfl sc_count_looks.nd (pid_any (pd_slice (pdv 0) (pod_some pd_int) pod_none)) (blkOk_by (N := N_count_looks) (sc := defScope s_count_looks) (by decide +kernel)) (by decide) (fun _ _ _ _ _ => pg_name (i := 1) sc_count_looks.nd rfl (Or.inl rfl)) (fun _ _ _ _ _ => ptsd_nil) (fun _ _ _ _ _ => (pd_call G_count_looks (hr.mono (by omega)) tk0 rfl (pad_cons (pdv 1) pad_nil)))) pad_nil)))))), h⟩
def t_named_places (K : PySem.W.Frag) (A : Adr) (n : Nat) : DS :=
  (dSeq (dIfS (dB (dOp eqD (dOp ixG (dVar 0) (dC (.int 0))) (dC (.str "tell")))) (dRet (dTup dNil)) dNext)
    (dSeq (dAsg (dLst (dCons (dOp ixG (dVar 0) (dC (.int 1))) dNil)) (dName 1))
    (dSeq (dFor (dIter (dSl (dVar 0) (dPart (dC (.int 2))) dNoP)) (dName 2) (dDrop (dBM "list" extTM (dVar 1) (dCons (dCall (sp_named_places n) [] (dCons (dVar 2) dNil)) dNil))))
    (dRet (dCB tupG (dCons (dSortSet (dVar 1)) dNil))))))
theorem ok_named_places {f : Addr} {fd : FuncData} {n : Nat} (T : Txt w K mg A) (G_named_places : FnD P w K mg base (0 + n) "named_places" P_named_places [] (sp_named_places n)) (F : L2.Fun K "named_places" "named_places" s_named_places f fd) (sp : DSp) (len : ∀ ds M Q E, sp ds M Q E → ds.length = P_named_places.length) (h : ∀ ds M Q E, sp ds M Q E → t_named_places K A n (ends Q E) (dstart N_named_places ds) M) :
    FnOk P w K mg base (L2.CX P w) (0 + n + 1) f fd P_named_places (liftSp K sp) :=
  okD F sc_named_places len fun cdv Ar outer s H E hr tk => ⟨t_named_places K _ n, (pssd_cons (psd_if (pt_cmpD (op_eqG (u200 hr)) (pd_ix ix_G (pdv 0) pd_int (fun _ _ => rfl)) pd_str (nomark _)) (pssd_one (psd_ret (pd_tup pad_nil))) pssd_nil)
    (pssd_cons (psd_set (i := 1) sc_named_places.nd rfl (Or.inl rfl) (pd_lst (pad_cons (pd_ix ix_G (pdv 0) pd_int (fun _ _ => rfl)) pad_nil)))
    (pssd_cons (psd_for (passes_of rfl) rfl (pid_any (pd_slice (pdv 0) (pod_some pd_int) pod_none)) (pgd_name (pg_name (i := 2) sc_named_places.nd rfl (Or.inl rfl))) (pssd_one (psd_expr (pd_bm PySem.F.plainAttrs_list PySem.F.slot_list_extend PySem.F.type_list_extend mt_extTM (pdv 1) (pad_cons (pd_call G_named_places (hr.mono (by omega)) tk rfl (pad_cons (pdv 2) pad_nil)) pad_nil)))))
    (pssd_one (psd_ret (pd_callT call_tupG rfl T.n_tuple bt_tuple (pad_cons (pd_sortSet rfl rfl T.n_sorted rfl T.n_set (pdv 1)) pad_nil))))))), h⟩
def t_is_large (K : PySem.W.Frag) (A : Adr) : DS :=
  (dSeq (dAsg (dC (.int 1)) (dName 2))
    (dSeq (dFor (dIter (dVar 0)) (dName 3) (dAsg (dOp mulD (dVar 2) (dCall sp_place_width [] (dCons (dVar 1) (dCons (dVar 3) dNil)))) (dName 2)))
    (dRet (dOp (oI0 fun i j => .bl (decide (j < i))) (dVar 2) (dC (.int 256))))))
theorem ok_is_large {f : Addr} {fd : FuncData} (T : Txt w K mg A) (G_place_width : FnD P w K mg base 1 "place_width" P_place_width [] sp_place_width) (F : L2.Fun K "is_large" "is_large" s_is_large f fd) (sp : DSp) (len : ∀ ds M Q E, sp ds M Q E → ds.length = P_is_large.length) (h : ∀ ds M Q E, sp ds M Q E → t_is_large K A (ends Q E) (dstart N_is_large ds) M) :
    FnOk P w K mg base (L2.CX P w) (1 + 1) f fd P_is_large (liftSp K sp) :=
  okD F sc_is_large len fun cdv Ar outer s H E hr tk => ⟨t_is_large K _, (pssd_cons (psd_set (i := 2) sc_is_large.nd rfl (Or.inl rfl) pd_int)
    (pssd_cons (psd_for (passes_of rfl) rfl (pid_any (pdv 0)) (pgd_name (pg_name (i := 3) sc_is_large.nd rfl (Or.inl rfl))) (pssd_one (psd_set (i := 2) sc_is_large.nd rfl (Or.inl rfl) (pd_op op_mulD (pdv 2) (pd_call G_place_width (hr.mono (by omega)) tk rfl (pad_cons (pdv 1) (pad_cons (pdv 3) pad_nil)))))))
    (pssd_one (psd_ret (pd_cmp op_gtD (pdv 2) (pd_cst T.cst_Query_MOST_CHOICES (pd_cls rfl T.m_Query)) (nomark _)))))), h⟩
def t_Query_init (K : PySem.W.Frag) (A : Adr) : DS :=
  (dSeq (dDrop (dCall sp_check_widths [] (dCons (dVar 2) dNil)))
    (dSeq (dDrop (dCall (sp_check_query 22) [] (dCons (dVar 1) (dCons (dVar 2) (dCons (dTup dNil) dNil)))))
    (dSeq (dIfS (dOr (dB (dOp (oI0 fun i j => .bl (decide (j < i))) (dCall (sp_count_looks 22) [] (dCons (dVar 1) dNil)) (dC (.int 300)))) (dTru (dCall sp_is_large [] (dCons (dCall (sp_named_places 22) [] (dCons (dVar 1) dNil)) (dCons (dVar 2) dNil))))) (dRaise A.TooLarge) dNext)
    (dSeq (dFldS K (dVar 0) (dVar 1) "term")
    (dFldS K (dVar 0) (dVar 2) "widths")))))
theorem ok_Query_init {f : Addr} {fd : FuncData} (T : Txt w K mg A) (G_check_query : FnD P w K mg base 23 "check_query" P_check_query [] (sp_check_query 22)) (G_check_widths : FnD P w K mg base 1 "check_widths" P_check_widths [] sp_check_widths) (G_count_looks : FnD P w K mg base 22 "count_looks" P_count_looks [] (sp_count_looks 22)) (G_is_large : FnD P w K mg base 2 "is_large" P_is_large [] sp_is_large) (G_named_places : FnD P w K mg base 22 "named_places" P_named_places [] (sp_named_places 22)) (F : L2.Fun K "__init__" "Query.__init__" s_Query_init f fd) (sp : DSp) (len : ∀ ds M Q E, sp ds M Q E → ds.length = P_Query_init.length) (h : ∀ ds M Q E, sp ds M Q E → t_Query_init K A (ends Q E) (dstart N_Query_init ds) M) :
    FnOk P w K mg base (L2.CX P w) (23 + 1) f fd P_Query_init (liftSp K sp) :=
  okD F sc_Query_init len fun cdv Ar outer s H E hr tk => ⟨t_Query_init K _, (pssd_cons (psd_expr (pd_call G_check_widths (hr.mono (by omega)) tk rfl (pad_cons (pdv 2) pad_nil)))
    (pssd_cons (psd_expr (pd_call G_check_query (hr.mono (by omega)) tk rfl (pad_cons (pdv 1) (pad_cons (pdv 2) (pad_cons (pd_tup pad_nil) pad_nil)))))
    (pssd_cons (psd_if (PWD.pt (pwd_or (pt_cmpD op_gtD (pd_call G_count_looks (hr.mono (by omega)) tk rfl (pad_cons (pdv 1) pad_nil)) (pd_cst T.cst_Query_MOST_LOOKS (pd_cls rfl T.m_Query)) (nomark _)) (pwd_or1 (ptd_tru (pd_call G_is_large (hr.mono (by omega)) tk rfl (pad_cons (pd_call G_named_places (hr.mono (by omega)) tk rfl (pad_cons (pdv 1) pad_nil)) (pad_cons (pdv 2) pad_nil))))))) (pssd_one (psd_raise T.x_TooLarge rfl tk rfl)) pssd_nil)
    (pssd_cons (psd_fld (pdv 0) (pdv 1))
    (pssd_one (psd_fld (pdv 0) (pdv 2))))))), h⟩
def t_told_by (K : PySem.W.Frag) (A : Adr) : DS :=
  (dSeq (dWhile (dB (dOp eqD (dOp ixG (dVar 0) (dC (.int 0))) (dC (.str "look")))) (dAsg (dOp ixG (dVar 0) (dOp addD (dC (.int 2)) (dDGet (dVar 1) (dOp ixG (dVar 0) (dC (.int 1)))))) (dName 0)))
    (dRet (dOp ixG (dVar 0) (dC (.int 1)))))
theorem ok_told_by {f : Addr} {fd : FuncData} (T : Txt w K mg A)  (F : L2.Fun K "told_by" "told_by" s_told_by f fd) (sp : DSp) (len : ∀ ds M Q E, sp ds M Q E → ds.length = P_told_by.length) (h : ∀ ds M Q E, sp ds M Q E → t_told_by K A (ends Q E) (dstart N_told_by ds) M) :
    FnOk P w K mg base (L2.CX P w) (0 + 1) f fd P_told_by (liftSp K sp) :=
  okD F sc_told_by len fun cdv Ar outer s H E hr tk => ⟨t_told_by K _, (pssd_cons (psd_while (passes_of rfl) (pt_cmpD (op_eqG (u200 hr)) (pd_ix ix_G (pdv 0) pd_int (fun _ _ => rfl)) pd_str (nomark _)) (pssd_one (psd_set (i := 0) sc_told_by.nd rfl (Or.inl rfl) (pd_ix ix_G (pdv 0) (pd_op op_addD pd_int (pd_dget (u1 hr) (pdv 1) (pd_ix ix_G (pdv 0) pd_int (fun _ _ => rfl)) (fun _ _ => rfl))) (fun _ _ => rfl)))))
    (pssd_one (psd_ret (pd_ix ix_G (pdv 0) pd_int (fun _ _ => rfl))))), h⟩
def t_settled_term (K : PySem.W.Frag) (A : Adr) (n : Nat) : DS :=
  (dSeq (dIfS (dB (dOp eqD (dCB lenG (dCons (dVar 1) dNil)) (dC (.int 0)))) (dRet (dTup (dCons (dC (.str "tell")) (dCons (dCall sp_told_by [] (dCons (dVar 0) (dCons (dVar 3) dNil))) dNil)))) dNext)
    (dSeq (dAsg (dLst dNil) (dName 4))
    (dSeq (dFor (dRng1 (dCons (dCall sp_place_width [] (dCons (dVar 2) (dCons (dOp ixG (dVar 1) (dC (.int 0))) dNil))) dNil)) (dName 5) (dDrop (dBM "list" appendM (dVar 4) (dCons (dCall (sp_settled_term n) [] (dCons (dVar 0) (dCons (dSl (dVar 1) (dPart (dC (.int 1))) dNoP) (dCons (dVar 2) (dCons (dDStar (dVar 3) (dOp ixG (dVar 1) (dC (.int 0))) (dVar 5)) dNil))))) dNil))))
    (dSeq (dIfS (dTru (dCB (allG fun bs => bs.all id) (dCons (dLc (dIter (dVar 4)) (fun d τ => τ.set 6 (some d)) dYes (dOp eqD (dVar 6) (dOp ixG (dVar 4) (dC (.int 0)))) [6]) dNil))) (dRet (dOp ixG (dVar 4) (dC (.int 0)))) dNext)
    (dRet (dOp addD (dTup (dCons (dC (.str "look")) (dCons (dOp ixG (dVar 1) (dC (.int 0))) dNil))) (dCB tupG (dCons (dVar 4) dNil))))))))
theorem ok_settled_term {f : Addr} {fd : FuncData} {n : Nat} (T : Txt w K mg A) (G_place_width : FnD P w K mg base 1 "place_width" P_place_width [] sp_place_width) (G_settled_term : FnD P w K mg base (1 + n) "settled_term" P_settled_term [] (sp_settled_term n)) (G_told_by : FnD P w K mg base 1 "told_by" P_told_by [] sp_told_by) (F : L2.Fun K "settled_term" "settled_term" s_settled_term f fd) (sp : DSp) (len : ∀ ds M Q E, sp ds M Q E → ds.length = P_settled_term.length) (h : ∀ ds M Q E, sp ds M Q E → t_settled_term K A n (ends Q E) (dstart N_settled_term ds) M) :
    FnOk P w K mg base (L2.CX P w) (1 + n + 1) f fd P_settled_term (liftSp K sp) :=
  okD F sc_settled_term len fun cdv Ar outer s H E hr tk => ⟨t_settled_term K _ n, (pssd_cons (psd_if (pt_cmpD (op_eqG (u200 hr)) (pd_callB call_lenG rfl T.n_len bt_len (pad_cons (pdv 1) pad_nil)) pd_int (nomark _)) (pssd_one (psd_ret (pd_tup (pad_cons pd_str (pad_cons (pd_call G_told_by (hr.mono (by omega)) tk rfl (pad_cons (pdv 0) (pad_cons (pdv 3) pad_nil))) pad_nil))))) pssd_nil)
    (pssd_cons (psd_set (i := 4) sc_settled_term.nd rfl (Or.inr rfl) (pd_lst pad_nil))
    (pssd_cons (psd_for (passes_of rfl) rfl (pid_rng1 rfl T.n_range (pad_cons (pd_call G_place_width (hr.mono (by omega)) tk rfl (pad_cons (pdv 2) (pad_cons (pd_ix ix_G (pdv 1) pd_int (fun _ _ => rfl)) pad_nil))) pad_nil)) (pgd_name (pg_name (i := 5) sc_settled_term.nd rfl (Or.inl rfl))) (pssd_one (psd_expr (pd_bm PySem.F.plainAttrs_list PySem.F.slot_list_append PySem.F.type_list_append mt_appendM (pdv 4) (pad_cons (pd_call G_settled_term (hr.mono (by omega)) tk rfl (pad_cons (pdv 0) (pad_cons (pd_slice (pdv 1) (pod_some pd_int) pod_none) (pad_cons (pdv 2) (pad_cons (pd_dstar (pdv 3) (pd_ix ix_G (pdv 1) pd_int (fun _ _ => rfl)) (pdv 5)) pad_nil))))) pad_nil)))))
    (pssd_cons (psd_if (ptd_tru (pd_callB (call_allG rfl) rfl T.n_all bt_all (pad_cons (pd_lc (own := [("branch", 6)]) (i := 6) rfl sc_settled_term.nd (pid_any (pdv 4)) (blkOk_by (N := N_settled_term) (sc := defScope s_settled_term) (by decide +kernel)) (by decide) (fun _ _ _ _ _ => pg_name (i := 6) sc_settled_term.nd rfl (Or.inl rfl)) (fun _ _ _ _ _ => ptsd_nil) (fun _ _ _ _ _ => (pd_cmp (op_eqG (u200 hr)) (pdv 6) (pd_ix ix_G (pdv 4) pd_int (fun _ _ => rfl)) (nomark _)))) pad_nil))) (pssd_one (psd_ret (pd_ix ix_G (pdv 4) pd_int (fun _ _ => rfl)))) pssd_nil)
    (pssd_one (psd_ret (pd_op op_addD (pd_tup (pad_cons pd_str (pad_cons (pd_ix ix_G (pdv 1) pd_int (fun _ _ => rfl)) pad_nil))) (pd_callT call_tupG rfl T.n_tuple bt_tuple (pad_cons (pdv 4) pad_nil))))))))), h⟩
def t_settle_query (K : PySem.W.Frag) (A : Adr) : DS :=
  (dSeq (dAsg (dCall (sp_named_places 22) [] (dCons (dFld K (dVar 0) "term") dNil)) (dName 1))
    (dSeq (dAsg (dDc (dIter (dVar 1)) (fun d τ => τ.set 4 (some d)) dYes (dVar 4) (dC (.int 0)) [4]) (dName 2))
    (dSeq (dAsg (dCB tupG (dCons (dLc (dIter (dVar 1)) (fun d τ => τ.set 4 (some d)) (dB (dOp (oI0 fun i j => .bl (decide (j < i))) (dCall sp_place_width [] (dCons (dFld K (dVar 0) "widths") (dCons (dVar 4) dNil))) (dC (.int 1)))) (dVar 4) [4]) dNil)) (dName 3))
    (dRet (dMake A.Query (sp_Query_init A.Query) [] (dCons (dCall (sp_settled_term 12) [] (dCons (dFld K (dVar 0) "term") (dCons (dVar 3) (dCons (dFld K (dVar 0) "widths") (dCons (dVar 2) dNil))))) (dCons (dFld K (dVar 0) "widths") dNil)))))))
theorem ok_settle_query {f : Addr} {fd : FuncData} (T : Txt w K mg A) (G_Query_init : MakD P w K mg base 24 "Query" A.Query P_Query_init [] (sp_Query_init A.Query)) (G_named_places : FnD P w K mg base 22 "named_places" P_named_places [] (sp_named_places 22)) (G_place_width : FnD P w K mg base 1 "place_width" P_place_width [] sp_place_width) (G_settled_term : FnD P w K mg base 13 "settled_term" P_settled_term [] (sp_settled_term 12)) (F : L2.Fun K "settle_query" "settle_query" s_settle_query f fd) (sp : DSp) (len : ∀ ds M Q E, sp ds M Q E → ds.length = P_settle_query.length) (h : ∀ ds M Q E, sp ds M Q E → t_settle_query K A (ends Q E) (dstart N_settle_query ds) M) :
    FnOk P w K mg base (L2.CX P w) (25 + 1) f fd P_settle_query (liftSp K sp) :=
  okD F sc_settle_query len fun cdv Ar outer s H E hr tk => ⟨t_settle_query K _, (pssd_cons (psd_set (i := 1) sc_settle_query.nd rfl (Or.inl rfl) (pd_call G_named_places (hr.mono (by omega)) tk rfl (pad_cons (pd_fld (pdv 0)) pad_nil)))
    (pssd_cons (psd_setDc (own := [("place", 4)]) (i := 4) (j := 2) rfl sc_settle_query.nd rfl rfl (sw_trueD rfl rfl rfl (by decide +kernel)) (pid_any (pdv 1)) (blkOk_by (N := N_settle_query) (sc := defScope s_settle_query) (by decide +kernel)) (by decide) (fun _ _ _ _ _ => (pg_name (i := 4) sc_settle_query.nd rfl (Or.inl rfl))) (fun _ _ _ _ _ => ptsd_nil) (fun _ _ _ _ _ => (pdv 4)) (fun _ _ _ _ _ => pd_int))
    (pssd_cons (psd_set (i := 3) sc_settle_query.nd rfl (Or.inl rfl) (pd_callT call_tupG rfl T.n_tuple bt_tuple (pad_cons (pd_lc (own := [("place", 4)]) (i := 4) rfl sc_settle_query.nd (pid_any (pdv 1)) (blkOk_by (N := N_settle_query) (sc := defScope s_settle_query) (by decide +kernel)) (by decide) (fun _ _ _ _ _ => pg_name (i := 4) sc_settle_query.nd rfl (Or.inl rfl)) (fun _ _ _ _ _ => (ptsd_one (pt_cmpD op_gtD (pd_call G_place_width (hr.mono (by omega)) tk0 rfl (pad_cons (pd_fld (pdv 0)) (pad_cons (pdv 4) pad_nil))) pd_int (nomark _)))) (fun _ _ _ _ _ => (pdv 4))) pad_nil)))
    (pssd_one (psd_ret (pd_make G_Query_init (hr.mono (by omega)) tk rfl (pad_cons (pd_call G_settled_term (hr.mono (by omega)) tk rfl (pad_cons (pd_fld (pdv 0)) (pad_cons (pdv 3) (pad_cons (pd_fld (pdv 0)) (pad_cons (pdv 2) pad_nil))))) (pad_cons (pd_fld (pdv 0)) pad_nil)))))))), h⟩
def t_needed_places (K : PySem.W.Frag) (A : Adr) : DS :=
  (dRet (dCall (sp_named_places 22) [] (dCons (dFld K (dCall (sp_settle_query A.Query) [] (dCons (dVar 0) dNil)) "term") dNil)))
theorem ok_needed_places {f : Addr} {fd : FuncData} (T : Txt w K mg A) (G_named_places : FnD P w K mg base 22 "named_places" P_named_places [] (sp_named_places 22)) (G_settle_query : FnD P w K mg base 26 "settle_query" P_settle_query [] (sp_settle_query A.Query)) (F : L2.Fun K "needed_places" "needed_places" s_needed_places f fd) (sp : DSp) (len : ∀ ds M Q E, sp ds M Q E → ds.length = P_needed_places.length) (h : ∀ ds M Q E, sp ds M Q E → t_needed_places K A (ends Q E) (dstart N_needed_places ds) M) :
    FnOk P w K mg base (L2.CX P w) (26 + 1) f fd P_needed_places (liftSp K sp) :=
  okD F sc_needed_places len fun cdv Ar outer s H E hr tk => ⟨t_needed_places K _, (pssd_one (psd_ret (pd_call G_named_places (hr.mono (by omega)) tk rfl (pad_cons (pd_fld (pd_call G_settle_query (hr.mono (by omega)) tk rfl (pad_cons (pdv 0) pad_nil))) pad_nil)))), h⟩
def t_query_reach (K : PySem.W.Frag) (A : Adr) : DS :=
  (dSeq (dAsg (dCall (sp_needed_places A.Query) [] (dCons (dVar 0) dNil)) (dName 1))
    (dSeq (dIfS (dB (dOp eqD (dCB lenG (dCons (dVar 1) dNil)) (dC (.int 0)))) (dRet (dC (.int 0))) dNext)
    (dRet (dOp addD (dOp ixG (dVar 1) (dNeg (dC (.int 1)))) (dC (.int 1))))))
theorem ok_query_reach {f : Addr} {fd : FuncData} (T : Txt w K mg A) (G_needed_places : FnD P w K mg base 27 "needed_places" P_needed_places [] (sp_needed_places A.Query)) (F : L2.Fun K "query_reach" "query_reach" s_query_reach f fd) (sp : DSp) (len : ∀ ds M Q E, sp ds M Q E → ds.length = P_query_reach.length) (h : ∀ ds M Q E, sp ds M Q E → t_query_reach K A (ends Q E) (dstart N_query_reach ds) M) :
    FnOk P w K mg base (L2.CX P w) (27 + 1) f fd P_query_reach (liftSp K sp) :=
  okD F sc_query_reach len fun cdv Ar outer s H E hr tk => ⟨t_query_reach K _, (pssd_cons (psd_set (i := 1) sc_query_reach.nd rfl (Or.inl rfl) (pd_call G_needed_places (hr.mono (by omega)) tk rfl (pad_cons (pdv 0) pad_nil)))
    (pssd_cons (psd_if (pt_cmpD (op_eqG (u200 hr)) (pd_callB call_lenG rfl T.n_len bt_len (pad_cons (pdv 1) pad_nil)) pd_int (nomark _)) (pssd_one (psd_ret pd_int)) pssd_nil)
    (pssd_one (psd_ret (pd_op op_addD (pd_ix ix_G (pdv 1) (pd_neg pd_int) (fun _ _ => rfl)) pd_int))))), h⟩
def t_tells_of (K : PySem.W.Frag) (A : Adr) (n : Nat) : DS :=
  (dSeq (dIfS (dB (dOp eqD (dOp ixG (dVar 0) (dC (.int 0))) (dC (.str "tell")))) (dRet (dLst (dCons (dOp ixG (dVar 0) (dC (.int 1))) dNil))) dNext)
    (dSeq (dAsg (dLst dNil) (dName 1))
    (dSeq (dFor (dIter (dSl (dVar 0) (dPart (dC (.int 2))) dNoP)) (dName 2) (dDrop (dBM "list" extendM (dVar 1) (dCons (dCall (sp_tells_of n) [] (dCons (dVar 2) dNil)) dNil))))
    (dRet (dVar 1)))))
theorem ok_tells_of {f : Addr} {fd : FuncData} {n : Nat} (T : Txt w K mg A) (G_tells_of : FnD P w K mg base (0 + n) "tells_of" P_tells_of [] (sp_tells_of n)) (F : L2.Fun K "tells_of" "tells_of" s_tells_of f fd) (sp : DSp) (len : ∀ ds M Q E, sp ds M Q E → ds.length = P_tells_of.length) (h : ∀ ds M Q E, sp ds M Q E → t_tells_of K A n (ends Q E) (dstart N_tells_of ds) M) :
    FnOk P w K mg base (L2.CX P w) (0 + n + 1) f fd P_tells_of (liftSp K sp) :=
  okD F sc_tells_of len fun cdv Ar outer s H E hr tk => ⟨t_tells_of K _ n, (pssd_cons (psd_if (pt_cmpD (op_eqG (u200 hr)) (pd_ix ix_G (pdv 0) pd_int (fun _ _ => rfl)) pd_str (nomark _)) (pssd_one (psd_ret (pd_lst (pad_cons (pd_ix ix_G (pdv 0) pd_int (fun _ _ => rfl)) pad_nil)))) pssd_nil)
    (pssd_cons (psd_set (i := 1) sc_tells_of.nd rfl (Or.inl rfl) (pd_lst pad_nil))
    (pssd_cons (psd_for (passes_of rfl) rfl (pid_any (pd_slice (pdv 0) (pod_some pd_int) pod_none)) (pgd_name (pg_name (i := 2) sc_tells_of.nd rfl (Or.inl rfl))) (pssd_one (psd_expr (pd_bm PySem.F.plainAttrs_list PySem.F.slot_list_extend PySem.F.type_list_extend mt_extendM (pdv 1) (pad_cons (pd_call G_tells_of (hr.mono (by omega)) tk rfl (pad_cons (pdv 2) pad_nil)) pad_nil)))))
    (pssd_one (psd_ret (pdv 1)))))), h⟩
def t_told_values (K : PySem.W.Frag) (A : Adr) : DS :=
  (dSeq (dAsg (dLst dNil) (dName 1))
    (dSeq (dFor (dIter (dCall (sp_tells_of 22) [] (dCons (dFld K (dCall (sp_settle_query A.Query) [] (dCons (dVar 0) dNil)) "term") dNil))) (dName 2) (dIfS (dB (dOp (inLD true) (dVar 2) (dVar 1))) (dDrop (dBM "list" appendM (dVar 1) (dCons (dVar 2) dNil))) dNext))
    (dRet (dCB tupXG (dCons (dVar 1) dNil)))))
theorem ok_told_values {f : Addr} {fd : FuncData} (T : Txt w K mg A) (G_settle_query : FnD P w K mg base 26 "settle_query" P_settle_query [] (sp_settle_query A.Query)) (G_tells_of : FnD P w K mg base 22 "tells_of" P_tells_of [] (sp_tells_of 22)) (F : L2.Fun K "told_values" "told_values" s_told_values f fd) (sp : DSp) (len : ∀ ds M Q E, sp ds M Q E → ds.length = P_told_values.length) (h : ∀ ds M Q E, sp ds M Q E → t_told_values K A (ends Q E) (dstart N_told_values ds) M) :
    FnOk P w K mg base (L2.CX P w) (26 + 1) f fd P_told_values (liftSp K sp) :=
  okD F sc_told_values len fun cdv Ar outer s H E hr tk => ⟨t_told_values K _, (pssd_cons (psd_set (i := 1) sc_told_values.nd rfl (Or.inl rfl) (pd_lst pad_nil))
    (pssd_cons (psd_for (passes_of rfl) rfl (pid_any (pd_call G_tells_of (hr.mono (by omega)) tk rfl (pad_cons (pd_fld (pd_call G_settle_query (hr.mono (by omega)) tk rfl (pad_cons (pdv 0) pad_nil))) pad_nil))) (pgd_name (pg_name (i := 2) sc_told_values.nd rfl (Or.inl rfl))) (pssd_one (psd_if (pt_cmpD (op_notInLD (u200 hr)) (pdv 2) (pdv 1) (by with_unfolding_all rfl)) (pssd_one (psd_expr (pd_bm PySem.F.plainAttrs_list PySem.F.slot_list_append PySem.F.type_list_append mt_appendM (pdv 1) (pad_cons (pdv 2) pad_nil)))) pssd_nil)))
    (pssd_one (psd_ret (pd_callT call_tupXG rfl T.n_tuple bt_tuple (pad_cons (pdv 1) pad_nil)))))), h⟩
def t_heads_between (K : PySem.W.Frag) (A : Adr) : DS :=
  (dSeq (dAsg (dC (.int 1)) (dName 3))
    (dSeq (dFor (dRng2 (dCons (dVar 1) (dCons (dVar 2) dNil))) (dName 4) (dAsg (dOp mulD (dVar 3) (dCall sp_place_width [] (dCons (dVar 0) (dCons (dVar 4) dNil)))) (dName 3)))
    (dRet (dVar 3))))
theorem ok_heads_between {f : Addr} {fd : FuncData} (T : Txt w K mg A) (G_place_width : FnD P w K mg base 1 "place_width" P_place_width [] sp_place_width) (F : L2.Fun K "heads_between" "heads_between" s_heads_between f fd) (sp : DSp) (len : ∀ ds M Q E, sp ds M Q E → ds.length = P_heads_between.length) (h : ∀ ds M Q E, sp ds M Q E → t_heads_between K A (ends Q E) (dstart N_heads_between ds) M) :
    FnOk P w K mg base (L2.CX P w) (1 + 1) f fd P_heads_between (liftSp K sp) :=
  okD F sc_heads_between len fun cdv Ar outer s H E hr tk => ⟨t_heads_between K _, (pssd_cons (psd_set (i := 3) sc_heads_between.nd rfl (Or.inl rfl) pd_int)
    (pssd_cons (psd_for (passes_of rfl) rfl (pid_rng2 rfl T.n_range (pad_cons (pdv 1) (pad_cons (pdv 2) pad_nil))) (pgd_name (pg_name (i := 4) sc_heads_between.nd rfl (Or.inl rfl))) (pssd_one (psd_set (i := 3) sc_heads_between.nd rfl (Or.inl rfl) (pd_op op_mulD (pdv 3) (pd_call G_place_width (hr.mono (by omega)) tk rfl (pad_cons (pdv 0) (pad_cons (pdv 4) pad_nil)))))))
    (pssd_one (psd_ret (pdv 3))))), h⟩
def t_heads_by_tell (K : PySem.W.Frag) (A : Adr) (n : Nat) : DS :=
  (dSeq (dIfS (dB (dOp eqD (dOp ixG (dVar 0) (dC (.int 0))) (dC (.str "tell")))) (dRet (dLst (dCons (dCall sp_heads_between [] (dCons (dVar 1) (dCons (dVar 2) (dCons (dVar 3) dNil)))) dNil))) dNext)
    (dSeq (dAsg (dCall sp_heads_between [] (dCons (dVar 1) (dCons (dVar 2) (dCons (dOp ixG (dVar 0) (dC (.int 1))) dNil)))) (dName 4))
    (dSeq (dAsg (dLst dNil) (dName 5))
    (dSeq (dFor (dIter (dSl (dVar 0) (dPart (dC (.int 2))) dNoP)) (dName 6) (dDrop (dBM "list" extendM (dVar 5) (dCons (dLc (dIter (dCall (sp_heads_by_tell n) [] (dCons (dVar 6) (dCons (dVar 1) (dCons (dOp addD (dOp ixG (dVar 0) (dC (.int 1))) (dC (.int 1))) (dCons (dVar 3) dNil)))))) (fun d τ => τ.set 7 (some d)) dYes (dOp mulD (dVar 4) (dVar 7)) [7]) dNil))))
    (dRet (dVar 5))))))
theorem ok_heads_by_tell {f : Addr} {fd : FuncData} {n : Nat} (T : Txt w K mg A) (G_heads_between : FnD P w K mg base 2 "heads_between" P_heads_between [] sp_heads_between) (G_heads_by_tell : FnD P w K mg base (2 + n) "heads_by_tell" P_heads_by_tell [] (sp_heads_by_tell n)) (F : L2.Fun K "heads_by_tell" "heads_by_tell" s_heads_by_tell f fd) (sp : DSp) (len : ∀ ds M Q E, sp ds M Q E → ds.length = P_heads_by_tell.length) (h : ∀ ds M Q E, sp ds M Q E → t_heads_by_tell K A n (ends Q E) (dstart N_heads_by_tell ds) M) :
    FnOk P w K mg base (L2.CX P w) (2 + n + 1) f fd P_heads_by_tell (liftSp K sp) :=
  okD F sc_heads_by_tell len fun cdv Ar outer s H E hr tk => ⟨t_heads_by_tell K _ n, (pssd_cons (psd_if (pt_cmpD (op_eqG (u200 hr)) (pd_ix ix_G (pdv 0) pd_int (fun _ _ => rfl)) pd_str (nomark _)) (pssd_one (psd_ret (pd_lst (pad_cons (pd_call G_heads_between (hr.mono (by omega)) tk rfl (pad_cons (pdv 1) (pad_cons (pdv 2) (pad_cons (pdv 3) pad_nil)))) pad_nil)))) pssd_nil)
    (pssd_cons (psd_set (i := 4) sc_heads_by_tell.nd rfl (Or.inr rfl) (pd_call G_heads_between (hr.mono (by omega)) tk rfl (pad_cons (pdv 1) (pad_cons (pdv 2) (pad_cons (pd_ix ix_G (pdv 0) pd_int (fun _ _ => rfl)) pad_nil)))))
    (pssd_cons (psd_set (i := 5) sc_heads_by_tell.nd rfl (Or.inl rfl) (pd_lst pad_nil))
    (pssd_cons (psd_for (passes_of rfl) rfl (pid_any (pd_slice (pdv 0) (pod_some pd_int) pod_none)) (pgd_name (pg_name (i := 6) sc_heads_by_tell.nd rfl (Or.inl rfl))) (pssd_one (psd_expr (pd_bm PySem.F.plainAttrs_list PySem.F.slot_list_extend PySem.F.type_list_extend mt_extendM (pdv 5) (pad_cons (pd_lc (own := [("many", 7)]) (i := 7) rfl sc_heads_by_tell.nd (pid_any (pd_call G_heads_by_tell (hr.mono (by omega)) tk rfl (pad_cons (pdv 6) (pad_cons (pdv 1) (pad_cons (pd_op op_addD (pd_ix ix_G (pdv 0) pd_int (fun _ _ => rfl)) pd_int) (pad_cons (pdv 3) pad_nil)))))) (blkOk_by (N := N_heads_by_tell) (sc := defScope s_heads_by_tell) (by decide +kernel)) (by decide) (fun _ _ _ _ _ => pg_name (i := 7) sc_heads_by_tell.nd rfl (Or.inl rfl)) (fun _ _ _ _ _ => ptsd_nil) (fun _ _ _ _ _ => (pd_op op_mulD (pdv 4) (pdv 7)))) pad_nil)))))
    (pssd_one (psd_ret (pdv 5))))))), h⟩
def t_count_heads (K : PySem.W.Frag) (A : Adr) : DS :=
  (dSeq (dAsg (dCall (sp_settle_query A.Query) [] (dCons (dVar 0) dNil)) (dName 1))
    (dSeq (dAsg (dCall (sp_told_values A.Query) [] (dCons (dVar 1) dNil)) (dName 2))
    (dSeq (dAsg (dLc (dIterX (dVar 2)) (fun d τ => τ.set 7 (some d)) dYes (dC (.int 0)) [7]) (dName 3))
    (dSeq (dAsg (dCall (sp_heads_by_tell 22) [] (dCons (dFld K (dVar 1) "term") (dCons (dFld K (dVar 0) "widths") (dCons (dC (.int 0)) (dCons (dCall (sp_query_reach A.Query) [] (dCons (dVar 1) dNil)) dNil))))) (dName 4))
    (dSeq (dFor (dZip (dCons (dCall (sp_tells_of 22) [] (dCons (dFld K (dVar 1) "term") dNil)) (dCons (dVar 4) dNil))) (dGTup 2 (dGCons (dName 5) (dGCons (dName 6) dGNil))) (dAugS (dVar 3) (dBX indexTD (dVar 2) (dCons (dVar 5) dNil)) (dVar 6) (oI0 fun i j => .int (i + j))))
    (dRet (dCB tupG (dCons (dVar 3) dNil))))))))
theorem ok_count_heads {f : Addr} {fd : FuncData} (T : Txt w K mg A) (G_heads_by_tell : FnD P w K mg base 24 "heads_by_tell" P_heads_by_tell [] (sp_heads_by_tell 22)) (G_query_reach : FnD P w K mg base 28 "query_reach" P_query_reach [] (sp_query_reach A.Query)) (G_settle_query : FnD P w K mg base 26 "settle_query" P_settle_query [] (sp_settle_query A.Query)) (G_tells_of : FnD P w K mg base 22 "tells_of" P_tells_of [] (sp_tells_of 22)) (G_told_values : FnD P w K mg base 27 "told_values" P_told_values [] (sp_told_values A.Query)) (F : L2.Fun K "count_heads" "count_heads" s_count_heads f fd) (sp : DSp) (len : ∀ ds M Q E, sp ds M Q E → ds.length = P_count_heads.length) (h : ∀ ds M Q E, sp ds M Q E → t_count_heads K A (ends Q E) (dstart N_count_heads ds) M) :
    FnOk P w K mg base (L2.CX P w) (28 + 1) f fd P_count_heads (liftSp K sp) :=
  okD F sc_count_heads len fun cdv Ar outer s H E hr tk => ⟨t_count_heads K _, (pssd_cons (psd_set (i := 1) sc_count_heads.nd rfl (Or.inl rfl) (pd_call G_settle_query (hr.mono (by omega)) tk rfl (pad_cons (pdv 0) pad_nil)))
    (pssd_cons (psd_set (i := 2) sc_count_heads.nd rfl (Or.inl rfl) (pd_call G_told_values (hr.mono (by omega)) tk rfl (pad_cons (pdv 1) pad_nil)))
    (pssd_cons (psd_setLc (own := [("_", 7)]) (i := 7) (j := 3) rfl sc_count_heads.nd rfl rfl (sw_true rfl rfl rfl (by decide +kernel)) (pid_xt (pdv 2)) (blkOk_by (N := N_count_heads) (sc := defScope s_count_heads) (by decide +kernel)) (by decide) (fun _ _ _ _ _ => pg_name (i := 7) sc_count_heads.nd rfl (Or.inl rfl)) (fun _ _ _ _ _ => ptsd_nil) (fun _ _ _ _ _ => pd_int))
    (pssd_cons (psd_set (i := 4) sc_count_heads.nd rfl (Or.inl rfl) (pd_call G_heads_by_tell (hr.mono (by omega)) tk rfl (pad_cons (pd_fld (pdv 1)) (pad_cons (pd_fld (pdv 0)) (pad_cons pd_int (pad_cons (pd_call G_query_reach (hr.mono (by omega)) tk rfl (pad_cons (pdv 1) pad_nil)) pad_nil))))))
    (pssd_cons (psd_for (passes_of rfl) rfl (pid_zip rfl T.n_zip (pad_cons (pd_call G_tells_of (hr.mono (by omega)) tk rfl (pad_cons (pd_fld (pdv 1)) pad_nil)) (pad_cons (pdv 4) pad_nil))) (pgd_tup rfl (pgsd_cons (pgd_name (pg_name (i := 5) sc_count_heads.nd rfl (Or.inl rfl))) (pgsd_cons (pgd_name (pg_name (i := 6) sc_count_heads.nd rfl (Or.inl rfl))) pgsd_nil))) (pssd_one (psd_augS (pdv 3) (pd_tindex (mt_indexTD (u65 hr)) (pdv 2) (pad_cons (pdv 5) pad_nil)) (pdv 6) iop_addI)))
    (pssd_one (psd_ret (pd_callT call_tupG rfl T.n_tuple bt_tuple (pad_cons (pdv 3) pad_nil))))))))), h⟩
def t_law_start (K : PySem.W.Frag) (A : Adr) : DS :=
  (dSeq (dAsg (dC (.int 7)) (dName 1))
    (dSeq (dFor (dRng1 (dCons (dCB lenG (dCons (dVar 0) dNil)) dNil)) (dName 2) (dAsg (dOp (oI (fun _ j => 0 < j) fun i j => .int (i % j)) (dOp addD (dOp addD (dOp addD (dOp mulD (dVar 1) (dC (.int 48271))) (dOp (oI (fun _ j => 0 < j) fun i j => .int (i % j)) (dCB intG (dCons (dOp ixG (dVar 0) (dVar 2)) dNil)) (dC (.int 2147483647)))) (dVar 2)) (dC (.int 1))) (dC (.int 2147483647))) (dName 1)))
    (dRet (dLst (dCons (dVar 1) (dCons (dCB lstG (dCons (dVar 0) dNil)) (dCons (dC (.int 0)) (dCons (dC (.int 0)) dNil))))))))
theorem ok_law_start {f : Addr} {fd : FuncData} (T : Txt w K mg A)  (F : L2.Fun K "_law_start" "_law_start" s_law_start f fd) (sp : DSp) (len : ∀ ds M Q E, sp ds M Q E → ds.length = P_law_start.length) (h : ∀ ds M Q E, sp ds M Q E → t_law_start K A (ends Q E) (dstart N_law_start ds) M) :
    FnOk P w K mg base (L2.CX P w) (0 + 1) f fd P_law_start (liftSp K sp) :=
  okD F sc_law_start len fun cdv Ar outer s H E hr tk => ⟨t_law_start K _, (pssd_cons (psd_set (i := 1) sc_law_start.nd rfl (Or.inl rfl) pd_int)
    (pssd_cons (psd_for (passes_of rfl) rfl (pid_rng1 rfl T.n_range (pad_cons (pd_callB call_lenG rfl T.n_len bt_len (pad_cons (pdv 0) pad_nil)) pad_nil)) (pgd_name (pg_name (i := 2) sc_law_start.nd rfl (Or.inl rfl))) (pssd_one (psd_set (i := 1) sc_law_start.nd rfl (Or.inl rfl) (pd_op op_modD (pd_op op_addD (pd_op op_addD (pd_op op_addD (pd_op op_mulD (pdv 1) pd_int) (pd_op op_modD (pd_callT call_intG rfl T.n_int bt_int (pad_cons (pd_ix ix_G (pdv 0) (pdv 2) (fun _ _ => rfl)) pad_nil)) pd_int)) (pdv 2)) pd_int) pd_int))))
    (pssd_one (psd_ret (pd_lst (pad_cons (pdv 1) (pad_cons (pd_callT call_lstG rfl T.n_list bt_list (pad_cons (pdv 0) pad_nil)) (pad_cons pd_int (pad_cons pd_int pad_nil))))))))), h⟩
def t_law_startK (K : PySem.W.Frag) (A : Adr) : DS :=
  (dSeq (dAsg (dC (.int 7)) (dName 1))
    (dSeq (dFor (dRng1 (dCons (dCB (lenK K) (dCons (dVar 0) dNil)) dNil)) (dName 2) (dAsg (dOp (oI (fun _ j => 0 < j) fun i j => .int (i % j)) (dOp addD (dOp addD (dOp addD (dOp mulD (dVar 1) (dC (.int 48271))) (dOp (oI (fun _ j => 0 < j) fun i j => .int (i % j)) (dCB intG (dCons (dOp (ixK K) (dVar 0) (dVar 2)) dNil)) (dC (.int 2147483647)))) (dVar 2)) (dC (.int 1))) (dC (.int 2147483647))) (dName 1)))
    (dRet (dLst (dCons (dVar 1) (dCons (dCB (lstK K) (dCons (dVar 0) dNil)) (dCons (dC (.int 0)) (dCons (dC (.int 0)) dNil))))))))
theorem ok_law_startK {f : Addr} {fd : FuncData} (T : Txt w K mg A)  (F : L2.Fun K "_law_start" "_law_start" s_law_start f fd) (sp : DSp) (len : ∀ ds M Q E, sp ds M Q E → ds.length = P_law_start.length) (h : ∀ ds M Q E, sp ds M Q E → t_law_startK K A (ends Q E) (dstart N_law_start ds) M) :
    FnOk P w K mg base (L2.CX P w) (0 + 1) f fd P_law_start (liftSp K sp) :=
  okD F sc_law_start len fun cdv Ar outer s H E hr tk => ⟨t_law_startK K _, (pssd_cons (psd_set (i := 1) sc_law_start.nd rfl (Or.inl rfl) pd_int)
    (pssd_cons (psd_for (passes_of rfl) rfl (pid_rng1 rfl T.n_range (pad_cons (pd_callB call_lenK rfl T.n_len bt_len (pad_cons (pdv 0) pad_nil)) pad_nil)) (pgd_name (pg_name (i := 2) sc_law_start.nd rfl (Or.inl rfl))) (pssd_one (psd_set (i := 1) sc_law_start.nd rfl (Or.inl rfl) (pd_op op_modD (pd_op op_addD (pd_op op_addD (pd_op op_addD (pd_op op_mulD (pdv 1) pd_int) (pd_op op_modD (pd_callT call_intG rfl T.n_int bt_int (pad_cons (pd_ix ix_K (pdv 0) (pdv 2) (fun _ _ => rfl)) pad_nil)) pd_int)) (pdv 2)) pd_int) pd_int))))
    (pssd_one (psd_ret (pd_lst (pad_cons (pdv 1) (pad_cons (pd_callT call_lstK rfl T.n_list bt_list (pad_cons (pdv 0) pad_nil)) (pad_cons pd_int (pad_cons pd_int pad_nil))))))))), h⟩
def t_law_pick (K : PySem.W.Frag) (A : Adr) : DS :=
  (dSeq (dIfS (dB (dOp (oI0 fun i j => .bl (decide (j ≤ i))) (dOp ixG (dVar 0) (dC (.int 3))) (dVar 1))) (dSeq (dAsg (dCB intG (dCons (dOp ixG (dVar 0) (dC (.int 3))) dNil)) (dName 2))
    (dSeq (dAsg (dOp (oI CDivW fun i j => .int (i / j)) (dVar 2) (dVar 1)) (dGSub (dVar 0) (dC (.int 3))))
    (dRet (dOp (oI (fun _ j => 0 < j) fun i j => .int (i % j)) (dVar 2) (dVar 1))))) dNext)
    (dSeq (dAsg (dC (.int 11)) (dName 3))
    (dSeq (dIfS (dB (dOp (oI0 fun i j => .bl (decide (i < j))) (dOp ixG (dVar 0) (dC (.int 2))) (dCB lenG (dCons (dOp ixG (dVar 0) (dC (.int 1))) dNil)))) (dSeq (dAsg (dCB intG (dCons (dOp ixG (dOp ixG (dVar 0) (dC (.int 1))) (dOp ixG (dVar 0) (dC (.int 2)))) dNil)) (dName 3))
    (dSeq (dAsg (dOp addD (dOp ixG (dVar 0) (dC (.int 2))) (dC (.int 1))) (dGSub (dVar 0) (dC (.int 2))))
    (dSeq (dIfS (dB (dOp (oI0 fun i j => .bl (decide (i < j))) (dVar 3) (dC (.int 0)))) (dAsg (dOp (oI0 fun i j => .int (i - j)) (dC (.int 1)) (dVar 3)) (dName 3)) dNext)
    (dIfS (dB (dOp (oI0 fun i j => .bl (decide (j ≤ i))) (dVar 3) (dOp (oI CPow fun i j => .int (i ^ j.toNat)) (dC (.int 10)) (dC (.int 18))))) (dSeq (dAsg (dOp (oI CDivW fun i j => .int (i / j)) (dVar 3) (dVar 1)) (dGSub (dVar 0) (dC (.int 3))))
    (dRet (dOp (oI (fun _ j => 0 < j) fun i j => .int (i % j)) (dVar 3) (dVar 1)))) dNext)))) dNext)
    (dSeq (dAsg (dOp (oI (fun _ j => 0 < j) fun i j => .int (i % j)) (dOp mulD (dOp addD (dOp addD (dCB intG (dCons (dOp ixG (dVar 0) (dC (.int 0))) dNil)) (dOp (oI (fun _ j => 0 < j) fun i j => .int (i % j)) (dVar 3) (dC (.int 2147483647)))) (dC (.int 1))) (dC (.int 48271))) (dC (.int 2147483647))) (dName 4))
    (dSeq (dAsg (dOp (oI (fun _ j => 0 < j) fun i j => .int (i % j)) (dOp addD (dOp mulD (dVar 4) (dC (.int 69621))) (dC (.int 12345))) (dC (.int 2147483647))) (dGSub (dVar 0) (dC (.int 0))))
    (dRet (dOp (oI (fun _ j => 0 < j) fun i j => .int (i % j)) (dOp (oI CDivW fun i j => .int (i / j)) (dCB intG (dCons (dOp ixG (dVar 0) (dC (.int 0))) dNil)) (dC (.int 7))) (dVar 1))))))))
theorem ok_law_pick {f : Addr} {fd : FuncData} (T : Txt w K mg A)  (F : L2.Fun K "_law_pick" "_law_pick" s_law_pick f fd) (sp : DSp) (len : ∀ ds M Q E, sp ds M Q E → ds.length = P_law_pick.length) (h : ∀ ds M Q E, sp ds M Q E → t_law_pick K A (ends Q E) (dstart N_law_pick ds) M) :
    FnOk P w K mg base (L2.CX P w) (0 + 1) f fd P_law_pick (liftSp K sp) :=
  okD F sc_law_pick len fun cdv Ar outer s H E hr tk => ⟨t_law_pick K _, (pssd_cons (psd_if (pt_cmpD op_geD (pd_ix ix_G (pdv 0) pd_int (fun _ _ => rfl)) (pdv 1) (nomark _)) (pssd_cons (psd_set (i := 2) sc_law_pick.nd rfl (Or.inl rfl) (pd_callT call_intG rfl T.n_int bt_int (pad_cons (pd_ix ix_G (pdv 0) pd_int (fun _ _ => rfl)) pad_nil)))
    (pssd_cons (psd_asg (pd_op op_fdivD (pdv 2) (pdv 1)) (pgd_sub (pdv 0) pd_int))
    (pssd_one (psd_ret (pd_op op_modD (pdv 2) (pdv 1)))))) pssd_nil)
    (pssd_cons (psd_set (i := 3) sc_law_pick.nd rfl (Or.inl rfl) pd_int)
    (pssd_cons (psd_if (pt_cmpD op_ltD (pd_ix ix_G (pdv 0) pd_int (fun _ _ => rfl)) (pd_callB call_lenG rfl T.n_len bt_len (pad_cons (pd_ix ix_G (pdv 0) pd_int (fun _ _ => rfl)) pad_nil)) (nomark _)) (pssd_cons (psd_set (i := 3) sc_law_pick.nd rfl (Or.inl rfl) (pd_callT call_intG rfl T.n_int bt_int (pad_cons (pd_ix ix_G (pd_ix ix_G (pdv 0) pd_int (fun _ _ => rfl)) (pd_ix ix_G (pdv 0) pd_int (fun _ _ => rfl)) (fun _ _ => rfl)) pad_nil)))
    (pssd_cons (psd_asg (pd_op op_addD (pd_ix ix_G (pdv 0) pd_int (fun _ _ => rfl)) pd_int) (pgd_sub (pdv 0) pd_int))
    (pssd_cons (psd_if (pt_cmpD op_ltD (pdv 3) pd_int (nomark _)) (pssd_one (psd_set (i := 3) sc_law_pick.nd rfl (Or.inl rfl) (pd_op op_subD pd_int (pdv 3)))) pssd_nil)
    (pssd_one (psd_if (pt_cmpD op_geD (pdv 3) (pd_op op_powD pd_int pd_int) (nomark _)) (pssd_cons (psd_asg (pd_op op_fdivD (pdv 3) (pdv 1)) (pgd_sub (pdv 0) pd_int))
    (pssd_one (psd_ret (pd_op op_modD (pdv 3) (pdv 1))))) pssd_nil))))) pssd_nil)
    (pssd_cons (psd_set (i := 4) sc_law_pick.nd rfl (Or.inl rfl) (pd_op op_modD (pd_op op_mulD (pd_op op_addD (pd_op op_addD (pd_callT call_intG rfl T.n_int bt_int (pad_cons (pd_ix ix_G (pdv 0) pd_int (fun _ _ => rfl)) pad_nil)) (pd_op op_modD (pdv 3) pd_int)) pd_int) pd_int) pd_int))
    (pssd_cons (psd_asg (pd_op op_modD (pd_op op_addD (pd_op op_mulD (pdv 4) pd_int) pd_int) pd_int) (pgd_sub (pdv 0) pd_int))
    (pssd_one (psd_ret (pd_op op_modD (pd_op op_fdivD (pd_callT call_intG rfl T.n_int bt_int (pad_cons (pd_ix ix_G (pdv 0) pd_int (fun _ _ => rfl)) pad_nil)) pd_int) (pdv 1))))))))), h⟩
def t_law_same (K : PySem.W.Frag) (A : Adr) (n : Nat) : DS :=
  (dSeq (dIfS (dTru (dCB (isiG K) (dCons (dVar 1) (dCons (dC (.ty "tuple")) dNil)))) (dSeq (dIfS (dOr (dNot (dTru (dCB (isiG K) (dCons (dVar 0) (dCons (dC (.ty "tuple")) dNil))))) (dB (dOp neD (dCB lenG (dCons (dVar 0) dNil)) (dCB lenG (dCons (dVar 1) dNil))))) (dRet (dC (.bl false))) dNext)
    (dRet (dCB (allG fun bs => bs.all id) (dCons (dLc (dRng1 (dCons (dCB lenG (dCons (dVar 1) dNil)) dNil)) (fun d τ => τ.set 2 (some d)) dYes (dCall (sp_law_same n) [] (dCons (dOp ixG (dVar 0) (dVar 2)) (dCons (dOp ixG (dVar 1) (dVar 2)) dNil))) [2]) dNil)))) dNext)
    (dSeq (dIfS (dB (dOp (isG false) (dVar 1) (dC .non))) (dRet (dOp (isG false) (dVar 0) (dC .non))) dNext)
    (dSeq (dIfS (dTru (dCB (isiG K) (dCons (dVar 1) (dCons (dC (.ty "str")) dNil)))) (dRet (dAndV (dCB (isiG K) (dCons (dVar 0) (dCons (dC (.ty "str")) dNil))) (dOp eqD (dVar 0) (dVar 1)))) dNext)
    (dSeq (dIfS (dTru (dCB (isiG K) (dCons (dVar 1) (dCons (dC (.ty "bool")) dNil)))) (dRet (dAndV (dCB (isiG K) (dCons (dVar 0) (dCons (dC (.ty "bool")) dNil))) (dOp eqD (dVar 0) (dVar 1)))) dNext)
    (dRet (dAndV (dCB (isiG K) (dCons (dVar 0) (dCons (dC (.ty "int")) dNil))) (dAndV (dNotV (dCB (isiG K) (dCons (dVar 0) (dCons (dC (.ty "bool")) dNil)))) (dOp eqD (dVar 0) (dVar 1)))))))))
theorem ok_law_same {f : Addr} {fd : FuncData} {n : Nat} (T : Txt w K mg A) (G_law_same : FnD P w K mg base (0 + n) "_law_same" P_law_same [] (sp_law_same n)) (F : L2.Fun K "_law_same" "_law_same" s_law_same f fd) (sp : DSp) (len : ∀ ds M Q E, sp ds M Q E → ds.length = P_law_same.length) (h : ∀ ds M Q E, sp ds M Q E → t_law_same K A n (ends Q E) (dstart N_law_same ds) M) :
    FnOk P w K mg base (L2.CX P w) (0 + n + 1) f fd P_law_same (liftSp K sp) :=
  okD F sc_law_same len fun cdv Ar outer s H E hr tk => ⟨t_law_same K _ n, (pssd_cons (psd_if (ptd_tru (pd_callB call_isiG rfl T.n_isinstance bt_isinstance (pad_cons (pdv 1) (pad_cons (pd_ty rfl T.n_tuple bt_tuple) pad_nil)))) (pssd_cons (psd_if (PWD.pt (pwd_or (ptd_not (ptd_tru (pd_callB call_isiG rfl T.n_isinstance bt_isinstance (pad_cons (pdv 0) (pad_cons (pd_ty rfl T.n_tuple bt_tuple) pad_nil))))) (pwd_or1 (pt_cmpD (op_neG (u200 hr)) (pd_callB call_lenG rfl T.n_len bt_len (pad_cons (pdv 0) pad_nil)) (pd_callB call_lenG rfl T.n_len bt_len (pad_cons (pdv 1) pad_nil)) (nomark _))))) (pssd_one (psd_ret pd_bl)) pssd_nil)
    (pssd_one (psd_ret (pd_callB (call_allG rfl) rfl T.n_all bt_all (pad_cons (pd_lc (own := [("p", 2)]) (i := 2) rfl sc_law_same.nd (pid_rng1 rfl T.n_range (pad_cons (pd_callB call_lenG rfl T.n_len bt_len (pad_cons (pdv 1) pad_nil)) pad_nil)) (blkOk_by (N := N_law_same) (sc := defScope s_law_same) (by decide +kernel)) (by decide) (fun _ _ _ _ _ => pg_name (i := 2) sc_law_same.nd rfl (Or.inl rfl)) (fun _ _ _ _ _ => ptsd_nil) (fun _ _ _ _ _ => (pd_call G_law_same (hr.mono (by omega)) tk0 rfl (pad_cons (pd_ix ix_G (pdv 0) (pdv 2) (fun _ _ => rfl)) (pad_cons (pd_ix ix_G (pdv 1) (pdv 2) (fun _ _ => rfl)) pad_nil))))) pad_nil))))) pssd_nil)
    (pssd_cons (psd_if (pt_cmpD op_isG (pdv 1) pd_non (nomark _)) (pssd_one (psd_ret (pd_cmp op_isG (pdv 0) pd_non (nomark _)))) pssd_nil)
    (pssd_cons (psd_if (ptd_tru (pd_callB call_isiG rfl T.n_isinstance bt_isinstance (pad_cons (pdv 1) (pad_cons (pd_ty rfl T.n_str bt_str) pad_nil)))) (pssd_one (psd_ret (pd_and (pd_callB call_isiG rfl T.n_isinstance bt_isinstance (pad_cons (pdv 0) (pad_cons (pd_ty rfl T.n_str bt_str) pad_nil))) (pd_one (pd_cmp (op_eqG (u200 hr)) (pdv 0) (pdv 1) (nomark _)))))) pssd_nil)
    (pssd_cons (psd_if (ptd_tru (pd_callB call_isiG rfl T.n_isinstance bt_isinstance (pad_cons (pdv 1) (pad_cons (pd_ty rfl T.n_bool bt_bool) pad_nil)))) (pssd_one (psd_ret (pd_and (pd_callB call_isiG rfl T.n_isinstance bt_isinstance (pad_cons (pdv 0) (pad_cons (pd_ty rfl T.n_bool bt_bool) pad_nil))) (pd_one (pd_cmp (op_eqG (u200 hr)) (pdv 0) (pdv 1) (nomark _)))))) pssd_nil)
    (pssd_one (psd_ret (pd_and (pd_callB call_isiG rfl T.n_isinstance bt_isinstance (pad_cons (pdv 0) (pad_cons (pd_ty rfl T.n_int bt_int) pad_nil))) (pd_and (pd_not (pd_callB call_isiG rfl T.n_isinstance bt_isinstance (pad_cons (pdv 0) (pad_cons (pd_ty rfl T.n_bool bt_bool) pad_nil)))) (pd_one (pd_cmp (op_eqG (u200 hr)) (pdv 0) (pdv 1) (nomark _))))))))))), h⟩
def t_law_width (K : PySem.W.Frag) (A : Adr) : DS :=
  (dRet (dOp ixG (dVar 0) (dOp (oI (fun _ j => 0 < j) fun i j => .int (i % j)) (dCB intG (dCons (dVar 1) dNil)) (dCB lenG (dCons (dVar 0) dNil)))))
theorem ok_law_width {f : Addr} {fd : FuncData} (T : Txt w K mg A)  (F : L2.Fun K "_law_width" "_law_width" s_law_width f fd) (sp : DSp) (len : ∀ ds M Q E, sp ds M Q E → ds.length = P_law_width.length) (h : ∀ ds M Q E, sp ds M Q E → t_law_width K A (ends Q E) (dstart N_law_width ds) M) :
    FnOk P w K mg base (L2.CX P w) (0 + 1) f fd P_law_width (liftSp K sp) :=
  okD F sc_law_width len fun cdv Ar outer s H E hr tk => ⟨t_law_width K _, (pssd_one (psd_ret (pd_ix ix_G (pdv 0) (pd_op op_modD (pd_callT call_intG rfl T.n_int bt_int (pad_cons (pdv 1) pad_nil)) (pd_callB call_lenG rfl T.n_len bt_len (pad_cons (pdv 0) pad_nil))) (fun _ _ => rfl)))), h⟩
def t_law_widths (K : PySem.W.Frag) (A : Adr) : DS :=
  (dSeq (dAsg (dOp addD (dC (.int 2)) (dCall sp_law_pick [] (dCons (dVar 0) (dCons (dC (.int 3)) dNil)))) (dName 1))
    (dSeq (dAsg (dOp addD (dC (.int 1)) (dCall sp_law_pick [] (dCons (dVar 0) (dCons (dOp ixG (dLst (dCons (dC (.int 2)) (dCons (dC (.int 3)) (dCons (dC (.int 6)) dNil)))) (dCall sp_law_pick [] (dCons (dVar 0) (dCons (dC (.int 3)) dNil)))) dNil)))) (dName 2))
    (dRet (dCB tupG (dCons (dLc (dRng1 (dCons (dVar 2) dNil)) (fun d τ => τ.set 3 (some d)) dYes (dOp addD (dC (.int 1)) (dCall sp_law_pick [] (dCons (dVar 0) (dCons (dVar 1) dNil)))) [3]) dNil)))))
theorem ok_law_widths {f : Addr} {fd : FuncData} (T : Txt w K mg A) (G_law_pick : FnD P w K mg base 1 "_law_pick" P_law_pick [] sp_law_pick) (F : L2.Fun K "_law_widths" "_law_widths" s_law_widths f fd) (sp : DSp) (len : ∀ ds M Q E, sp ds M Q E → ds.length = P_law_widths.length) (h : ∀ ds M Q E, sp ds M Q E → t_law_widths K A (ends Q E) (dstart N_law_widths ds) M) :
    FnOk P w K mg base (L2.CX P w) (1 + 1) f fd P_law_widths (liftSp K sp) :=
  okD F sc_law_widths len fun cdv Ar outer s H E hr tk => ⟨t_law_widths K _, (pssd_cons (psd_set (i := 1) sc_law_widths.nd rfl (Or.inr rfl) (pd_op op_addD pd_int (pd_call G_law_pick (hr.mono (by omega)) tk rfl (pad_cons (pdv 0) (pad_cons pd_int pad_nil)))))
    (pssd_cons (psd_set (i := 2) sc_law_widths.nd rfl (Or.inl rfl) (pd_op op_addD pd_int (pd_call G_law_pick (hr.mono (by omega)) tk rfl (pad_cons (pdv 0) (pad_cons (pd_ix ix_G (pd_lst (pad_cons pd_int (pad_cons pd_int (pad_cons pd_int pad_nil)))) (pd_call G_law_pick (hr.mono (by omega)) tk rfl (pad_cons (pdv 0) (pad_cons pd_int pad_nil))) (fun _ _ => rfl)) pad_nil)))))
    (pssd_one (psd_ret (pd_callT call_tupG rfl T.n_tuple bt_tuple (pad_cons (pd_lc (own := [("k", 3)]) (i := 3) rfl sc_law_widths.nd (pid_rng1 rfl T.n_range (pad_cons (pdv 2) pad_nil)) (blkOk_by (N := N_law_widths) (sc := defScope s_law_widths) (by decide +kernel)) (by decide) (fun _ _ _ _ _ => pg_name (i := 3) sc_law_widths.nd rfl (Or.inl rfl)) (fun _ _ _ _ _ => ptsd_nil) (fun _ _ _ _ _ => (pd_op op_addD pd_int (pd_call G_law_pick (hr.mono (by omega)) tk0 rfl (pad_cons (pdv 0) (pad_cons (pdv 1) pad_nil)))))) pad_nil)))))), h⟩
def t_law_pool (K : PySem.W.Frag) (A : Adr) : DS :=
  (dSeq (dAsg (dLst dNil) (dName 1))
    (dSeq (dFor (dRng1 (dCons (dOp addD (dC (.int 1)) (dCall sp_law_pick [] (dCons (dVar 0) (dCons (dC (.int 4)) dNil)))) dNil)) (dName 2) (dSeq (dAsg (dCall sp_law_pick [] (dCons (dVar 0) (dCons (dC (.int 3)) dNil))) (dName 3))
    (dSeq (dAsg (dLst (dCons (dVar 3) (dCons (dVar 3) (dCons (dTup (dCons (dC (.str "answer")) (dCons (dVar 3) dNil))) (dCons (dTup (dCons (dC (.str "stop")) (dCons (dC (.str "keep")) (dCons (dTup (dCons (dVar 3) dNil)) dNil)))) (dCons (dC (.str "none")) (dCons (dTup dNil) (dCons (dTup (dCons (dC (.str "tell")) (dCons (dVar 3) dNil))) dNil)))))))) (dName 4))
    (dDrop (dBM "list" appendM (dVar 1) (dCons (dOp ixG (dVar 4) (dCall sp_law_pick [] (dCons (dVar 0) (dCons (dC (.int 7)) dNil)))) dNil))))))
    (dRet (dVar 1))))
theorem ok_law_pool {f : Addr} {fd : FuncData} (T : Txt w K mg A) (G_law_pick : FnD P w K mg base 1 "_law_pick" P_law_pick [] sp_law_pick) (F : L2.Fun K "_law_pool" "_law_pool" s_law_pool f fd) (sp : DSp) (len : ∀ ds M Q E, sp ds M Q E → ds.length = P_law_pool.length) (h : ∀ ds M Q E, sp ds M Q E → t_law_pool K A (ends Q E) (dstart N_law_pool ds) M) :
    FnOk P w K mg base (L2.CX P w) (1 + 1) f fd P_law_pool (liftSp K sp) :=
  okD F sc_law_pool len fun cdv Ar outer s H E hr tk => ⟨t_law_pool K _, (pssd_cons (psd_set (i := 1) sc_law_pool.nd rfl (Or.inl rfl) (pd_lst pad_nil))
    (pssd_cons (psd_for (passes_of rfl) rfl (pid_rng1 rfl T.n_range (pad_cons (pd_op op_addD pd_int (pd_call G_law_pick (hr.mono (by omega)) tk rfl (pad_cons (pdv 0) (pad_cons pd_int pad_nil)))) pad_nil)) (pgd_name (pg_name (i := 2) sc_law_pool.nd rfl (Or.inl rfl))) (pssd_cons (psd_set (i := 3) sc_law_pool.nd rfl (Or.inl rfl) (pd_call G_law_pick (hr.mono (by omega)) tk rfl (pad_cons (pdv 0) (pad_cons pd_int pad_nil))))
    (pssd_cons (psd_set (i := 4) sc_law_pool.nd rfl (Or.inl rfl) (pd_lst (pad_cons (pdv 3) (pad_cons (pdv 3) (pad_cons (pd_tup (pad_cons pd_str (pad_cons (pdv 3) pad_nil))) (pad_cons (pd_tup (pad_cons pd_str (pad_cons pd_str (pad_cons (pd_tup (pad_cons (pdv 3) pad_nil)) pad_nil)))) (pad_cons pd_str (pad_cons (pd_tup pad_nil) (pad_cons (pd_tup (pad_cons pd_str (pad_cons (pdv 3) pad_nil))) pad_nil)))))))))
    (pssd_one (psd_expr (pd_bm PySem.F.plainAttrs_list PySem.F.slot_list_append PySem.F.type_list_append mt_appendM (pdv 1) (pad_cons (pd_ix ix_G (pdv 4) (pd_call G_law_pick (hr.mono (by omega)) tk rfl (pad_cons (pdv 0) (pad_cons pd_int pad_nil))) (fun _ _ => rfl)) pad_nil)))))))
    (pssd_one (psd_ret (pdv 1))))), h⟩
def t_law_shuffled (K : PySem.W.Frag) (A : Adr) : DS :=
  (dSeq (dAsg (dCB lstG (dCons (dVar 1) dNil)) (dName 2))
    (dRet (dLc (dRng1 (dCons (dCB lenG (dCons (dVar 1) dNil)) dNil)) (fun d τ => τ.set 3 (some d)) dYes (dBM "list" popM (dVar 2) (dCons (dCall sp_law_pick [] (dCons (dVar 0) (dCons (dCB lenG (dCons (dVar 2) dNil)) dNil))) dNil)) [3])))
theorem ok_law_shuffled {f : Addr} {fd : FuncData} (T : Txt w K mg A) (G_law_pick : FnD P w K mg base 1 "_law_pick" P_law_pick [] sp_law_pick) (F : L2.Fun K "_law_shuffled" "_law_shuffled" s_law_shuffled f fd) (sp : DSp) (len : ∀ ds M Q E, sp ds M Q E → ds.length = P_law_shuffled.length) (h : ∀ ds M Q E, sp ds M Q E → t_law_shuffled K A (ends Q E) (dstart N_law_shuffled ds) M) :
    FnOk P w K mg base (L2.CX P w) (1 + 1) f fd P_law_shuffled (liftSp K sp) :=
  okD F sc_law_shuffled len fun cdv Ar outer s H E hr tk => ⟨t_law_shuffled K _, (pssd_cons (psd_set (i := 2) sc_law_shuffled.nd rfl (Or.inr rfl) (pd_callT call_lstG rfl T.n_list bt_list (pad_cons (pdv 1) pad_nil)))
    (pssd_one (psd_ret (pd_lc (own := [("k", 3)]) (i := 3) rfl sc_law_shuffled.nd (pid_rng1 rfl T.n_range (pad_cons (pd_callB call_lenG rfl T.n_len bt_len (pad_cons (pdv 1) pad_nil)) pad_nil)) (blkOk_by (N := N_law_shuffled) (sc := defScope s_law_shuffled) (by decide +kernel)) (by decide) (fun _ _ _ _ _ => pg_name (i := 3) sc_law_shuffled.nd rfl (Or.inl rfl)) (fun _ _ _ _ _ => ptsd_nil) (fun _ _ _ _ _ => (pd_bm PySem.F.plainAttrs_list PySem.F.slot_list_pop PySem.F.type_list_pop mt_popM (pdv 2) (pad_cons (pd_call G_law_pick (hr.mono (by omega)) tk0 rfl (pad_cons (pdv 0) (pad_cons (pd_callB call_lenG rfl T.n_len bt_len (pad_cons (pdv 2) pad_nil)) pad_nil))) pad_nil))))))), h⟩
def t_law_asked (K : PySem.W.Frag) (A : Adr) (n : Nat) : DS :=
  (dSeq (dIfS (dOr (dB (dOp eqD (dVar 3) (dC (.int 0)))) (dB (dOp eqD (dCall sp_law_pick [] (dCons (dVar 0) (dCons (dC (.int 6)) dNil))) (dC (.int 0))))) (dRet (dTup (dCons (dC (.str "tell")) (dCons (dOp ixG (dVar 4) (dCall sp_law_pick [] (dCons (dVar 0) (dCons (dCB lenG (dCons (dVar 4) dNil)) dNil)))) dNil)))) dNext)
    (dSeq (dAsg (dOp ixG (dVar 2) (dCall sp_law_pick [] (dCons (dVar 0) (dCons (dCB lenG (dCons (dVar 2) dNil)) dNil)))) (dName 5))
    (dSeq (dAsg (dCall sp_law_width [] (dCons (dVar 1) (dCons (dVar 5) dNil))) (dName 6))
    (dRet (dOp addD (dTup (dCons (dC (.str "look")) (dCons (dVar 5) dNil))) (dCB tupG (dCons (dLc (dRng1 (dCons (dVar 6) dNil)) (fun d τ => τ.set 7 (some d)) dYes (dCall (sp_law_asked n) [] (dCons (dVar 0) (dCons (dVar 1) (dCons (dVar 2) (dCons (dOp (oI0 fun i j => .int (i - j)) (dVar 3) (dC (.int 1))) (dCons (dVar 4) dNil)))))) [7]) dNil)))))))
theorem ok_law_asked {f : Addr} {fd : FuncData} {n : Nat} (T : Txt w K mg A) (G_law_asked : FnD P w K mg base (1 + n) "_law_asked" P_law_asked [] (sp_law_asked n)) (G_law_pick : FnD P w K mg base 1 "_law_pick" P_law_pick [] sp_law_pick) (G_law_width : FnD P w K mg base 1 "_law_width" P_law_width [] sp_law_width) (F : L2.Fun K "_law_asked" "_law_asked" s_law_asked f fd) (sp : DSp) (len : ∀ ds M Q E, sp ds M Q E → ds.length = P_law_asked.length) (h : ∀ ds M Q E, sp ds M Q E → t_law_asked K A n (ends Q E) (dstart N_law_asked ds) M) :
    FnOk P w K mg base (L2.CX P w) (1 + n + 1) f fd P_law_asked (liftSp K sp) :=
  okD F sc_law_asked len fun cdv Ar outer s H E hr tk => ⟨t_law_asked K _ n, (pssd_cons (psd_if (PWD.pt (pwd_or (pt_cmpD (op_eqG (u200 hr)) (pdv 3) pd_int (nomark _)) (pwd_or1 (pt_cmpD (op_eqG (u200 hr)) (pd_call G_law_pick (hr.mono (by omega)) tk rfl (pad_cons (pdv 0) (pad_cons pd_int pad_nil))) pd_int (nomark _))))) (pssd_one (psd_ret (pd_tup (pad_cons pd_str (pad_cons (pd_ix ix_G (pdv 4) (pd_call G_law_pick (hr.mono (by omega)) tk rfl (pad_cons (pdv 0) (pad_cons (pd_callB call_lenG rfl T.n_len bt_len (pad_cons (pdv 4) pad_nil)) pad_nil))) (fun _ _ => rfl)) pad_nil))))) pssd_nil)
    (pssd_cons (psd_set (i := 5) sc_law_asked.nd rfl (Or.inl rfl) (pd_ix ix_G (pdv 2) (pd_call G_law_pick (hr.mono (by omega)) tk rfl (pad_cons (pdv 0) (pad_cons (pd_callB call_lenG rfl T.n_len bt_len (pad_cons (pdv 2) pad_nil)) pad_nil))) (fun _ _ => rfl)))
    (pssd_cons (psd_set (i := 6) sc_law_asked.nd rfl (Or.inl rfl) (pd_call G_law_width (hr.mono (by omega)) tk rfl (pad_cons (pdv 1) (pad_cons (pdv 5) pad_nil))))
    (pssd_one (psd_ret (pd_op op_addD (pd_tup (pad_cons pd_str (pad_cons (pdv 5) pad_nil))) (pd_callT call_tupG rfl T.n_tuple bt_tuple (pad_cons (pd_lc (own := [("x", 7)]) (i := 7) rfl sc_law_asked.nd (pid_rng1 rfl T.n_range (pad_cons (pdv 6) pad_nil)) (blkOk_by (N := N_law_asked) (sc := defScope s_law_asked) (by decide +kernel)) (by decide) (fun _ _ _ _ _ => pg_name (i := 7) sc_law_asked.nd rfl (Or.inl rfl)) (fun _ _ _ _ _ => ptsd_nil) (fun _ _ _ _ _ => (pd_call G_law_asked (hr.mono (by omega)) tk0 rfl (pad_cons (pdv 0) (pad_cons (pdv 1) (pad_cons (pdv 2) (pad_cons (pd_op op_subD (pdv 3) pd_int) (pad_cons (pdv 4) pad_nil)))))))) pad_nil)))))))), h⟩
def t_law_full (K : PySem.W.Frag) (A : Adr) (n : Nat) : DS :=
  (dSeq (dIfS (dB (dOp eqD (dCB lenG (dCons (dVar 2) dNil)) (dC (.int 0)))) (dSeq (dIfS (dB (dOp eqD (dCB lenG (dCons (dVar 3) dNil)) (dC (.int 0)))) (dRet (dTup (dCons (dC (.str "tell")) (dCons (dOp ixG (dVar 4) (dCall sp_law_pick [] (dCons (dVar 0) (dCons (dCB lenG (dCons (dVar 4) dNil)) dNil)))) dNil)))) dNext)
    (dRet (dTup (dCons (dC (.str "tell")) (dCons (dOp ixG (dVar 4) (dOp (oI (fun _ j => 0 < j) fun i j => .int (i % j)) (dCB intG (dCons (dVar 5) dNil)) (dCB lenG (dCons (dVar 4) dNil)))) dNil))))) dNext)
    (dSeq (dAsg (dOp ixG (dVar 2) (dC (.int 0))) (dName 6))
    (dSeq (dAsg (dLst dNil) (dName 7))
    (dSeq (dFor (dRng1 (dCons (dCall sp_law_width [] (dCons (dVar 1) (dCons (dVar 6) dNil))) dNil)) (dName 8) (dSeq (dAsg (dVar 5) (dName 9))
    (dSeq (dIfS (dB (dOp (inG false) (dVar 6) (dVar 3))) (dAsg (dOp addD (dOp mulD (dC (.int 2)) (dVar 5)) (dVar 8)) (dName 9)) dNext)
    (dDrop (dBM "list" appendM (dVar 7) (dCons (dCall (sp_law_full n) [] (dCons (dVar 0) (dCons (dVar 1) (dCons (dSl (dVar 2) (dPart (dC (.int 1))) dNoP) (dCons (dVar 3) (dCons (dVar 4) (dCons (dVar 9) dNil))))))) dNil))))))
    (dRet (dOp addD (dTup (dCons (dC (.str "look")) (dCons (dVar 6) dNil))) (dCB tupG (dCons (dVar 7) dNil))))))))
theorem ok_law_full {f : Addr} {fd : FuncData} {n : Nat} (T : Txt w K mg A) (G_law_full : FnD P w K mg base (1 + n) "_law_full" P_law_full [] (sp_law_full n)) (G_law_pick : FnD P w K mg base 1 "_law_pick" P_law_pick [] sp_law_pick) (G_law_width : FnD P w K mg base 1 "_law_width" P_law_width [] sp_law_width) (F : L2.Fun K "_law_full" "_law_full" s_law_full f fd) (sp : DSp) (len : ∀ ds M Q E, sp ds M Q E → ds.length = P_law_full.length) (h : ∀ ds M Q E, sp ds M Q E → t_law_full K A n (ends Q E) (dstart N_law_full ds) M) :
    FnOk P w K mg base (L2.CX P w) (1 + n + 1) f fd P_law_full (liftSp K sp) :=
  okD F sc_law_full len fun cdv Ar outer s H E hr tk => ⟨t_law_full K _ n, (pssd_cons (psd_if (pt_cmpD (op_eqG (u200 hr)) (pd_callB call_lenG rfl T.n_len bt_len (pad_cons (pdv 2) pad_nil)) pd_int (nomark _)) (pssd_cons (psd_if (pt_cmpD (op_eqG (u200 hr)) (pd_callB call_lenG rfl T.n_len bt_len (pad_cons (pdv 3) pad_nil)) pd_int (nomark _)) (pssd_one (psd_ret (pd_tup (pad_cons pd_str (pad_cons (pd_ix ix_G (pdv 4) (pd_call G_law_pick (hr.mono (by omega)) tk rfl (pad_cons (pdv 0) (pad_cons (pd_callB call_lenG rfl T.n_len bt_len (pad_cons (pdv 4) pad_nil)) pad_nil))) (fun _ _ => rfl)) pad_nil))))) pssd_nil)
    (pssd_one (psd_ret (pd_tup (pad_cons pd_str (pad_cons (pd_ix ix_G (pdv 4) (pd_op op_modD (pd_callT call_intG rfl T.n_int bt_int (pad_cons (pdv 5) pad_nil)) (pd_callB call_lenG rfl T.n_len bt_len (pad_cons (pdv 4) pad_nil))) (fun _ _ => rfl)) pad_nil)))))) pssd_nil)
    (pssd_cons (psd_set (i := 6) sc_law_full.nd rfl (Or.inl rfl) (pd_ix ix_G (pdv 2) pd_int (fun _ _ => rfl)))
    (pssd_cons (psd_set (i := 7) sc_law_full.nd rfl (Or.inl rfl) (pd_lst pad_nil))
    (pssd_cons (psd_for (passes_of rfl) rfl (pid_rng1 rfl T.n_range (pad_cons (pd_call G_law_width (hr.mono (by omega)) tk rfl (pad_cons (pdv 1) (pad_cons (pdv 6) pad_nil))) pad_nil)) (pgd_name (pg_name (i := 8) sc_law_full.nd rfl (Or.inl rfl))) (pssd_cons (psd_set (i := 9) sc_law_full.nd rfl (Or.inl rfl) (pdv 5))
    (pssd_cons (psd_if (pt_cmpD op_inG (pdv 6) (pdv 3) (by with_unfolding_all rfl)) (pssd_one (psd_set (i := 9) sc_law_full.nd rfl (Or.inl rfl) (pd_op op_addD (pd_op op_mulD pd_int (pdv 5)) (pdv 8)))) pssd_nil)
    (pssd_one (psd_expr (pd_bm PySem.F.plainAttrs_list PySem.F.slot_list_append PySem.F.type_list_append mt_appendM (pdv 7) (pad_cons (pd_call G_law_full (hr.mono (by omega)) tk rfl (pad_cons (pdv 0) (pad_cons (pdv 1) (pad_cons (pd_slice (pdv 2) (pod_some pd_int) pod_none) (pad_cons (pdv 3) (pad_cons (pdv 4) (pad_cons (pdv 9) pad_nil))))))) pad_nil)))))))
    (pssd_one (psd_ret (pd_op op_addD (pd_tup (pad_cons pd_str (pad_cons (pdv 6) pad_nil))) (pd_callT call_tupG rfl T.n_tuple bt_tuple (pad_cons (pdv 7) pad_nil))))))))), h⟩
def t_law_choices (K : PySem.W.Frag) (A : Adr) : DS :=
  (dSeq (dAsg (dLst (dCons dDNew dNil)) (dName 2))
    (dSeq (dFor (dIter (dVar 1)) (dName 3) (dSeq (dAsg (dLst dNil) (dName 4))
    (dSeq (dFor (dIter (dVar 2)) (dName 5) (dFor (dRng1 (dCons (dCall sp_law_width [] (dCons (dVar 0) (dCons (dVar 3) dNil))) dNil)) (dName 6) (dSeq (dAsg (dBM "dict" copyM (dVar 5) dNil) (dName 7))
    (dSeq (dAsg (dVar 6) (dGSubD (dVar 7) (dVar 3)))
    (dDrop (dBM "list" appendM (dVar 4) (dCons (dVar 7) dNil)))))))
    (dAsg (dVar 4) (dName 2)))))
    (dRet (dVar 2))))
theorem ok_law_choices {f : Addr} {fd : FuncData} (T : Txt w K mg A) (G_law_width : FnD P w K mg base 1 "_law_width" P_law_width [] sp_law_width) (F : L2.Fun K "_law_choices" "_law_choices" s_law_choices f fd) (sp : DSp) (len : ∀ ds M Q E, sp ds M Q E → ds.length = P_law_choices.length) (h : ∀ ds M Q E, sp ds M Q E → t_law_choices K A (ends Q E) (dstart N_law_choices ds) M) :
    FnOk P w K mg base (L2.CX P w) (1 + 1) f fd P_law_choices (liftSp K sp) :=
  okD F sc_law_choices len fun cdv Ar outer s H E hr tk => ⟨t_law_choices K _, (pssd_cons (psd_set (i := 2) sc_law_choices.nd rfl (Or.inl rfl) (pd_lst (pad_cons pd_dnew pad_nil)))
    (pssd_cons (psd_for (passes_of rfl) rfl (pid_any (pdv 1)) (pgd_name (pg_name (i := 3) sc_law_choices.nd rfl (Or.inl rfl))) (pssd_cons (psd_set (i := 4) sc_law_choices.nd rfl (Or.inl rfl) (pd_lst pad_nil))
    (pssd_cons (psd_for (passes_of rfl) rfl (pid_any (pdv 2)) (pgd_name (pg_name (i := 5) sc_law_choices.nd rfl (Or.inl rfl))) (pssd_one (psd_for (passes_of rfl) rfl (pid_rng1 rfl T.n_range (pad_cons (pd_call G_law_width (hr.mono (by omega)) tk rfl (pad_cons (pdv 0) (pad_cons (pdv 3) pad_nil))) pad_nil)) (pgd_name (pg_name (i := 6) sc_law_choices.nd rfl (Or.inl rfl))) (pssd_cons (psd_set (i := 7) sc_law_choices.nd rfl (Or.inl rfl) (pd_bm0 PySem.F.plainAttrs_dict PySem.F.slot_dict_copy PySem.F.type_dict_copy mt_copyM (pdv 5)))
    (pssd_cons (psd_asg (pdv 6) (pgd_subD (u1 hr) (pdv 7) (pdv 3)))
    (pssd_one (psd_expr (pd_bm PySem.F.plainAttrs_list PySem.F.slot_list_append PySem.F.type_list_append mt_appendM (pdv 4) (pad_cons (pdv 7) pad_nil)))))))))
    (pssd_one (psd_set (i := 2) sc_law_choices.nd rfl (Or.inl rfl) (pdv 4))))))
    (pssd_one (psd_ret (pdv 2))))), h⟩
def t_law_end (K : PySem.W.Frag) (A : Adr) : DS :=
  (dSeq (dFor (dRng1 (dCons (dC (.int 24)) dNil)) (dName 2) (dSeq (dIfS (dB (dOp eqD (dOp ixG (dVar 0) (dC (.int 0))) (dC (.str "tell")))) (dRet (dOp ixG (dVar 0) (dC (.int 1)))) dNext)
    (dAsg (dOp ixG (dVar 0) (dOp addD (dC (.int 2)) (dDGet (dVar 1) (dOp ixG (dVar 0) (dC (.int 1)))))) (dName 0))))
    (dRet (dC .non)))
theorem ok_law_end {f : Addr} {fd : FuncData} (T : Txt w K mg A)  (F : L2.Fun K "_law_end" "_law_end" s_law_end f fd) (sp : DSp) (len : ∀ ds M Q E, sp ds M Q E → ds.length = P_law_end.length) (h : ∀ ds M Q E, sp ds M Q E → t_law_end K A (ends Q E) (dstart N_law_end ds) M) :
    FnOk P w K mg base (L2.CX P w) (0 + 1) f fd P_law_end (liftSp K sp) :=
  okD F sc_law_end len fun cdv Ar outer s H E hr tk => ⟨t_law_end K _, (pssd_cons (psd_for (passes_of rfl) rfl (pid_rng1 rfl T.n_range (pad_cons pd_int pad_nil)) (pgd_name (pg_name (i := 2) sc_law_end.nd rfl (Or.inl rfl))) (pssd_cons (psd_if (pt_cmpD (op_eqG (u200 hr)) (pd_ix ix_G (pdv 0) pd_int (fun _ _ => rfl)) pd_str (nomark _)) (pssd_one (psd_ret (pd_ix ix_G (pdv 0) pd_int (fun _ _ => rfl)))) pssd_nil)
    (pssd_one (psd_set (i := 0) sc_law_end.nd rfl (Or.inl rfl) (pd_ix ix_G (pdv 0) (pd_op op_addD pd_int (pd_dget (u1 hr) (pdv 1) (pd_ix ix_G (pdv 0) pd_int (fun _ _ => rfl)) (fun _ _ => rfl))) (fun _ _ => rfl))))))
    (pssd_one (psd_ret pd_non))), h⟩
def t_law_retold (K : PySem.W.Frag) (A : Adr) (n : Nat) : DS :=
  (dSeq (dIfS (dB (dOp eqD (dCB lenG (dCons (dVar 2) dNil)) (dC (.int 0)))) (dSeq (dAsg (dCall sp_law_end [] (dCons (dVar 1) (dCons (dVar 3) dNil))) (dName 5))
    (dSeq (dIfS (dAnd (dB (dOp (isG true) (dVar 4) (dC .non))) (dB (dOp (eqDictG false) (dVar 4) (dVar 3)))) (dRet (dTup (dCons (dC (.str "tell")) (dCons (dTup (dCons (dC (.str "other")) (dCons (dVar 5) dNil))) dNil)))) dNext)
    (dRet (dTup (dCons (dC (.str "tell")) (dCons (dVar 5) dNil)))))) dNext)
    (dSeq (dAsg (dOp ixG (dVar 2) (dC (.int 0))) (dName 6))
    (dSeq (dAsg (dLst dNil) (dName 7))
    (dSeq (dFor (dRng1 (dCons (dCall sp_law_width [] (dCons (dVar 0) (dCons (dVar 6) dNil))) dNil)) (dName 8) (dIfS (dAnd (dB (dDIn false (dVar 6) (dVar 3))) (dB (dOp neD (dDGet (dVar 3) (dVar 6)) (dVar 8)))) (dDrop (dBM "list" appendM (dVar 7) (dCons (dTup (dCons (dC (.str "tell")) (dCons (dTup (dCons (dC (.str "never")) (dCons (dVar 8) dNil))) dNil))) dNil))) (dSeq (dAsg (dBM "dict" copyM (dVar 3) dNil) (dName 9))
    (dSeq (dAsg (dVar 8) (dGSubD (dVar 9) (dVar 6)))
    (dDrop (dBM "list" appendM (dVar 7) (dCons (dCall (sp_law_retold n) [] (dCons (dVar 0) (dCons (dVar 1) (dCons (dSl (dVar 2) (dPart (dC (.int 1))) dNoP) (dCons (dVar 9) (dCons (dVar 4) dNil)))))) dNil)))))))
    (dRet (dOp addD (dTup (dCons (dC (.str "look")) (dCons (dVar 6) dNil))) (dCB tupG (dCons (dVar 7) dNil))))))))
theorem ok_law_retold {f : Addr} {fd : FuncData} {n : Nat} (T : Txt w K mg A) (G_law_end : FnD P w K mg base 1 "_law_end" P_law_end [] sp_law_end) (G_law_retold : FnD P w K mg base (1 + n) "_law_retold" P_law_retold [] (sp_law_retold n)) (G_law_width : FnD P w K mg base 1 "_law_width" P_law_width [] sp_law_width) (F : L2.Fun K "_law_retold" "_law_retold" s_law_retold f fd) (sp : DSp) (len : ∀ ds M Q E, sp ds M Q E → ds.length = P_law_retold.length) (h : ∀ ds M Q E, sp ds M Q E → t_law_retold K A n (ends Q E) (dstart N_law_retold ds) M) :
    FnOk P w K mg base (L2.CX P w) (1 + n + 1) f fd P_law_retold (liftSp K sp) :=
  okD F sc_law_retold len fun cdv Ar outer s H E hr tk => ⟨t_law_retold K _ n, (pssd_cons (psd_if (pt_cmpD (op_eqG (u200 hr)) (pd_callB call_lenG rfl T.n_len bt_len (pad_cons (pdv 2) pad_nil)) pd_int (nomark _)) (pssd_cons (psd_set (i := 5) sc_law_retold.nd rfl (Or.inl rfl) (pd_call G_law_end (hr.mono (by omega)) tk rfl (pad_cons (pdv 1) (pad_cons (pdv 3) pad_nil))))
    (pssd_cons (psd_if (PWD.pt (pwd_and (pt_cmpD op_isNotG (pdv 4) pd_non (nomark _)) (pwd_and1 (pt_cmpD (op_eqDict (u0 hr)) (pdv 4) (pdv 3) (nomark _))))) (pssd_one (psd_ret (pd_tup (pad_cons pd_str (pad_cons (pd_tup (pad_cons pd_str (pad_cons (pdv 5) pad_nil))) pad_nil))))) pssd_nil)
    (pssd_one (psd_ret (pd_tup (pad_cons pd_str (pad_cons (pdv 5) pad_nil))))))) pssd_nil)
    (pssd_cons (psd_set (i := 6) sc_law_retold.nd rfl (Or.inl rfl) (pd_ix ix_G (pdv 2) pd_int (fun _ _ => rfl)))
    (pssd_cons (psd_set (i := 7) sc_law_retold.nd rfl (Or.inl rfl) (pd_lst pad_nil))
    (pssd_cons (psd_for (passes_of rfl) rfl (pid_rng1 rfl T.n_range (pad_cons (pd_call G_law_width (hr.mono (by omega)) tk rfl (pad_cons (pdv 0) (pad_cons (pdv 6) pad_nil))) pad_nil)) (pgd_name (pg_name (i := 8) sc_law_retold.nd rfl (Or.inl rfl))) (pssd_one (psd_if (PWD.pt (pwd_and (ptd_din (u1 hr) (pdv 6) (pdv 3)) (pwd_and1 (pt_cmpD (op_neG (u200 hr)) (pd_dget (u1 hr) (pdv 3) (pdv 6) (fun _ _ => rfl)) (pdv 8) (nomark _))))) (pssd_one (psd_expr (pd_bm PySem.F.plainAttrs_list PySem.F.slot_list_append PySem.F.type_list_append mt_appendM (pdv 7) (pad_cons (pd_tup (pad_cons pd_str (pad_cons (pd_tup (pad_cons pd_str (pad_cons (pdv 8) pad_nil))) pad_nil))) pad_nil)))) (pssd_cons (psd_set (i := 9) sc_law_retold.nd rfl (Or.inl rfl) (pd_bm0 PySem.F.plainAttrs_dict PySem.F.slot_dict_copy PySem.F.type_dict_copy mt_copyM (pdv 3)))
    (pssd_cons (psd_asg (pdv 8) (pgd_subD (u1 hr) (pdv 9) (pdv 6)))
    (pssd_one (psd_expr (pd_bm PySem.F.plainAttrs_list PySem.F.slot_list_append PySem.F.type_list_append mt_appendM (pdv 7) (pad_cons (pd_call G_law_retold (hr.mono (by omega)) tk rfl (pad_cons (pdv 0) (pad_cons (pdv 1) (pad_cons (pd_slice (pdv 2) (pod_some pd_int) pod_none) (pad_cons (pdv 9) (pad_cons (pdv 4) pad_nil)))))) pad_nil)))))))))
    (pssd_one (psd_ret (pd_op op_addD (pd_tup (pad_cons pd_str (pad_cons (pdv 6) pad_nil))) (pd_callT call_tupG rfl T.n_tuple bt_tuple (pad_cons (pdv 7) pad_nil))))))))), h⟩
def t_law_places (K : PySem.W.Frag) (A : Adr) : DS :=
  (dSeq (dAsg (dLst dNil) (dName 4))
    (dSeq (dAsg (dC (.int 1)) (dName 5))
    (dSeq (dAsg (dC (.int 1)) (dName 6))
    (dSeq (dFor (dRng1 (dCons (dVar 2) dNil)) (dName 7) (dSeq (dAsg (dCall sp_law_pick [] (dCons (dVar 0) (dCons (dOp ixG (dLst (dCons (dC (.int 3)) (dCons (dC (.int 8)) (dCons (dC (.int 100)) dNil)))) (dCall sp_law_pick [] (dCons (dVar 0) (dCons (dC (.int 3)) dNil)))) dNil))) (dName 8))
    (dSeq (dAsg (dCall sp_law_width [] (dCons (dVar 1) (dCons (dVar 8) dNil))) (dName 9))
    (dIfS (dAnd (dB (dOp (inG true) (dVar 8) (dVar 4))) (dB (dOp (oI0 fun i j => .bl (decide (i ≤ j))) (dOp mulD (dOp mulD (dVar 5) (dVar 9)) (dOp addD (dVar 6) (dCB intG (dCons (dOp eqD (dVar 9) (dC (.int 1))) dNil)))) (dVar 3)))) (dSeq (dDrop (dBM "list" appendM (dVar 4) (dCons (dVar 8) dNil)))
    (dSeq (dAsg (dOp mulD (dVar 5) (dVar 9)) (dName 5))
    (dAsg (dOp addD (dVar 6) (dCB intG (dCons (dOp eqD (dVar 9) (dC (.int 1))) dNil))) (dName 6)))) dNext))))
    (dRet (dVar 4))))))
theorem ok_law_places {f : Addr} {fd : FuncData} (T : Txt w K mg A) (G_law_pick : FnD P w K mg base 1 "_law_pick" P_law_pick [] sp_law_pick) (G_law_width : FnD P w K mg base 1 "_law_width" P_law_width [] sp_law_width) (F : L2.Fun K "_law_places" "_law_places" s_law_places f fd) (sp : DSp) (len : ∀ ds M Q E, sp ds M Q E → ds.length = P_law_places.length) (h : ∀ ds M Q E, sp ds M Q E → t_law_places K A (ends Q E) (dstart N_law_places ds) M) :
    FnOk P w K mg base (L2.CX P w) (1 + 1) f fd P_law_places (liftSp K sp) :=
  okD F sc_law_places len fun cdv Ar outer s H E hr tk => ⟨t_law_places K _, (pssd_cons (psd_set (i := 4) sc_law_places.nd rfl (Or.inl rfl) (pd_lst pad_nil))
    (pssd_cons (psd_set (i := 5) sc_law_places.nd rfl (Or.inl rfl) pd_int)
    (pssd_cons (psd_set (i := 6) sc_law_places.nd rfl (Or.inl rfl) pd_int)
    (pssd_cons (psd_for (passes_of rfl) rfl (pid_rng1 rfl T.n_range (pad_cons (pdv 2) pad_nil)) (pgd_name (pg_name (i := 7) sc_law_places.nd rfl (Or.inl rfl))) (pssd_cons (psd_set (i := 8) sc_law_places.nd rfl (Or.inl rfl) (pd_call G_law_pick (hr.mono (by omega)) tk rfl (pad_cons (pdv 0) (pad_cons (pd_ix ix_G (pd_lst (pad_cons pd_int (pad_cons pd_int (pad_cons pd_int pad_nil)))) (pd_call G_law_pick (hr.mono (by omega)) tk rfl (pad_cons (pdv 0) (pad_cons pd_int pad_nil))) (fun _ _ => rfl)) pad_nil))))
    (pssd_cons (psd_set (i := 9) sc_law_places.nd rfl (Or.inl rfl) (pd_call G_law_width (hr.mono (by omega)) tk rfl (pad_cons (pdv 1) (pad_cons (pdv 8) pad_nil))))
    (pssd_one (psd_if (PWD.pt (pwd_and (pt_cmpD op_notInG (pdv 8) (pdv 4) (by with_unfolding_all rfl)) (pwd_and1 (pt_cmpD op_leD (pd_op op_mulD (pd_op op_mulD (pdv 5) (pdv 9)) (pd_op op_addD (pdv 6) (pd_callT call_intG rfl T.n_int bt_int (pad_cons (pd_cmp (op_eqG (u200 hr)) (pdv 9) pd_int (nomark _)) pad_nil)))) (pdv 3) (nomark _))))) (pssd_cons (psd_expr (pd_bm PySem.F.plainAttrs_list PySem.F.slot_list_append PySem.F.type_list_append mt_appendM (pdv 4) (pad_cons (pdv 8) pad_nil)))
    (pssd_cons (psd_set (i := 5) sc_law_places.nd rfl (Or.inl rfl) (pd_op op_mulD (pdv 5) (pdv 9)))
    (pssd_one (psd_set (i := 6) sc_law_places.nd rfl (Or.inl rfl) (pd_op op_addD (pdv 6) (pd_callT call_intG rfl T.n_int bt_int (pad_cons (pd_cmp (op_eqG (u200 hr)) (pdv 9) pd_int (nomark _)) pad_nil))))))) pssd_nil)))))
    (pssd_one (psd_ret (pdv 4))))))), h⟩
def t_law_term (K : PySem.W.Frag) (A : Adr) : DS :=
  (dSeq (dIfS (dB (dOp eqD (dCall sp_law_pick [] (dCons (dVar 0) (dCons (dC (.int 2)) dNil))) (dC (.int 0)))) (dSeq (dAsg (dOp addD (dC (.int 1)) (dCall sp_law_pick [] (dCons (dVar 0) (dCons (dOp ixG (dLst (dCons (dC (.int 6)) (dCons (dC (.int 5)) (dCons (dC (.int 3)) (dCons (dC (.int 3)) dNil))))) (dOp (oI0 fun i j => .int (i - j)) (dCB maxSeqG (dCons (dVar 1) dNil)) (dC (.int 1)))) dNil)))) (dName 4))
    (dRet (dCall (sp_law_asked 8) [] (dCons (dVar 0) (dCons (dVar 1) (dCons (dVar 2) (dCons (dVar 4) (dCons (dVar 3) dNil)))))))) dNext)
    (dSeq (dAsg (dLc (dIter (dVar 2)) (fun d τ => τ.set 6 (some d)) (dB (dOp eqD (dCall sp_law_pick [] (dCons (dVar 0) (dCons (dC (.int 2)) dNil))) (dC (.int 0)))) (dVar 6) [6]) (dName 5))
    (dRet (dCall (sp_law_full 14) [] (dCons (dVar 0) (dCons (dVar 1) (dCons (dCall sp_law_shuffled [] (dCons (dVar 0) (dCons (dVar 2) dNil))) (dCons (dVar 5) (dCons (dVar 3) (dCons (dC (.int 0)) dNil))))))))))
theorem ok_law_term {f : Addr} {fd : FuncData} (T : Txt w K mg A) (G_law_asked : FnD P w K mg base 9 "_law_asked" P_law_asked [] (sp_law_asked 8)) (G_law_full : FnD P w K mg base 15 "_law_full" P_law_full [] (sp_law_full 14)) (G_law_pick : FnD P w K mg base 1 "_law_pick" P_law_pick [] sp_law_pick) (G_law_shuffled : FnD P w K mg base 2 "_law_shuffled" P_law_shuffled [] sp_law_shuffled) (F : L2.Fun K "_law_term" "_law_term" s_law_term f fd) (sp : DSp) (len : ∀ ds M Q E, sp ds M Q E → ds.length = P_law_term.length) (h : ∀ ds M Q E, sp ds M Q E → t_law_term K A (ends Q E) (dstart N_law_term ds) M) :
    FnOk P w K mg base (L2.CX P w) (15 + 1) f fd P_law_term (liftSp K sp) :=
  okD F sc_law_term len fun cdv Ar outer s H E hr tk => ⟨t_law_term K _, (pssd_cons (psd_if (pt_cmpD (op_eqG (u200 hr)) (pd_call G_law_pick (hr.mono (by omega)) tk rfl (pad_cons (pdv 0) (pad_cons pd_int pad_nil))) pd_int (nomark _)) (pssd_cons (psd_set (i := 4) sc_law_term.nd rfl (Or.inl rfl) (pd_op op_addD pd_int (pd_call G_law_pick (hr.mono (by omega)) tk rfl (pad_cons (pdv 0) (pad_cons (pd_ix ix_G (pd_lst (pad_cons pd_int (pad_cons pd_int (pad_cons pd_int (pad_cons pd_int pad_nil))))) (pd_op op_subD (pd_callB (call_maxSeqG rfl) rfl T.n_max bt_max (pad_cons (pdv 1) pad_nil)) pd_int) (fun _ _ => rfl)) pad_nil)))))
    (pssd_one (psd_ret (pd_call G_law_asked (hr.mono (by omega)) tk rfl (pad_cons (pdv 0) (pad_cons (pdv 1) (pad_cons (pdv 2) (pad_cons (pdv 4) (pad_cons (pdv 3) pad_nil))))))))) pssd_nil)
    (pssd_cons (psd_setLc (own := [("place", 6)]) (i := 6) (j := 5) rfl sc_law_term.nd rfl rfl (sw_true rfl rfl rfl (by decide +kernel)) (pid_any (pdv 2)) (blkOk_by (N := N_law_term) (sc := defScope s_law_term) (by decide +kernel)) (by decide) (fun _ _ _ _ _ => pg_name (i := 6) sc_law_term.nd rfl (Or.inl rfl)) (fun _ _ _ _ _ => (ptsd_one (pt_cmpD (op_eqG (u200 hr)) (pd_call G_law_pick (hr.mono (by omega)) tk0 rfl (pad_cons (pdv 0) (pad_cons pd_int pad_nil))) pd_int (nomark _)))) (fun _ _ _ _ _ => (pdv 6)))
    (pssd_one (psd_ret (pd_call G_law_full (hr.mono (by omega)) tk rfl (pad_cons (pdv 0) (pad_cons (pdv 1) (pad_cons (pd_call G_law_shuffled (hr.mono (by omega)) tk rfl (pad_cons (pdv 0) (pad_cons (pdv 2) pad_nil))) (pad_cons (pdv 5) (pad_cons (pdv 3) (pad_cons pd_int pad_nil))))))))))), h⟩
def t_law_different (K : PySem.W.Frag) (A : Adr) : DS :=
  (dSeq (dAsg (dLst dNil) (dName 1))
    (dSeq (dFor (dIter (dVar 0)) (dName 2) (dIfS (dB (dOp (inLD true) (dVar 2) (dVar 1))) (dDrop (dBM "list" appendM (dVar 1) (dCons (dVar 2) dNil))) dNext))
    (dRet (dVar 1))))
theorem ok_law_different {f : Addr} {fd : FuncData} (T : Txt w K mg A)  (F : L2.Fun K "_law_different" "_law_different" s_law_different f fd) (sp : DSp) (len : ∀ ds M Q E, sp ds M Q E → ds.length = P_law_different.length) (h : ∀ ds M Q E, sp ds M Q E → t_law_different K A (ends Q E) (dstart N_law_different ds) M) :
    FnOk P w K mg base (L2.CX P w) (0 + 1) f fd P_law_different (liftSp K sp) :=
  okD F sc_law_different len fun cdv Ar outer s H E hr tk => ⟨t_law_different K _, (pssd_cons (psd_set (i := 1) sc_law_different.nd rfl (Or.inl rfl) (pd_lst pad_nil))
    (pssd_cons (psd_for (passes_of rfl) rfl (pid_any (pdv 0)) (pgd_name (pg_name (i := 2) sc_law_different.nd rfl (Or.inl rfl))) (pssd_one (psd_if (pt_cmpD (op_notInLD (u200 hr)) (pdv 2) (pdv 1) (by with_unfolding_all rfl)) (pssd_one (psd_expr (pd_bm PySem.F.plainAttrs_list PySem.F.slot_list_append PySem.F.type_list_append mt_appendM (pdv 1) (pad_cons (pdv 2) pad_nil)))) pssd_nil)))
    (pssd_one (psd_ret (pdv 1))))), h⟩
def t_law_many (K : PySem.W.Frag) (A : Adr) : DS :=
  (dSeq (dAsg (dC (.int 1)) (dName 2))
    (dSeq (dFor (dIter (dVar 1)) (dName 3) (dAsg (dOp mulD (dVar 2) (dCall sp_law_width [] (dCons (dVar 0) (dCons (dVar 3) dNil)))) (dName 2)))
    (dRet (dVar 2))))
theorem ok_law_many {f : Addr} {fd : FuncData} (T : Txt w K mg A) (G_law_width : FnD P w K mg base 1 "_law_width" P_law_width [] sp_law_width) (F : L2.Fun K "_law_many" "_law_many" s_law_many f fd) (sp : DSp) (len : ∀ ds M Q E, sp ds M Q E → ds.length = P_law_many.length) (h : ∀ ds M Q E, sp ds M Q E → t_law_many K A (ends Q E) (dstart N_law_many ds) M) :
    FnOk P w K mg base (L2.CX P w) (1 + 1) f fd P_law_many (liftSp K sp) :=
  okD F sc_law_many len fun cdv Ar outer s H E hr tk => ⟨t_law_many K _, (pssd_cons (psd_set (i := 2) sc_law_many.nd rfl (Or.inl rfl) pd_int)
    (pssd_cons (psd_for (passes_of rfl) rfl (pid_any (pdv 1)) (pgd_name (pg_name (i := 3) sc_law_many.nd rfl (Or.inl rfl))) (pssd_one (psd_set (i := 2) sc_law_many.nd rfl (Or.inl rfl) (pd_op op_mulD (pdv 2) (pd_call G_law_width (hr.mono (by omega)) tk rfl (pad_cons (pdv 0) (pad_cons (pdv 3) pad_nil)))))))
    (pssd_one (psd_ret (pdv 2))))), h⟩
def t_law_strides (K : PySem.W.Frag) (A : Adr) : DS :=
  (dSeq (dAsg (dLst dNil) (dName 2))
    (dSeq (dAsg (dC (.int 1)) (dName 3))
    (dSeq (dFor (dRng1 (dCons (dCB lenG (dCons (dVar 1) dNil)) dNil)) (dName 4) (dSeq (dAsg (dOp addD (dLst (dCons (dVar 3) dNil)) (dVar 2)) (dName 2))
    (dAsg (dOp mulD (dVar 3) (dCall sp_law_width [] (dCons (dVar 0) (dCons (dOp ixG (dVar 1) (dOp (oI0 fun i j => .int (i - j)) (dOp (oI0 fun i j => .int (i - j)) (dCB lenG (dCons (dVar 1) dNil)) (dC (.int 1))) (dVar 4))) dNil)))) (dName 3))))
    (dRet (dVar 2)))))
theorem ok_law_strides {f : Addr} {fd : FuncData} (T : Txt w K mg A) (G_law_width : FnD P w K mg base 1 "_law_width" P_law_width [] sp_law_width) (F : L2.Fun K "_law_strides" "_law_strides" s_law_strides f fd) (sp : DSp) (len : ∀ ds M Q E, sp ds M Q E → ds.length = P_law_strides.length) (h : ∀ ds M Q E, sp ds M Q E → t_law_strides K A (ends Q E) (dstart N_law_strides ds) M) :
    FnOk P w K mg base (L2.CX P w) (1 + 1) f fd P_law_strides (liftSp K sp) :=
  okD F sc_law_strides len fun cdv Ar outer s H E hr tk => ⟨t_law_strides K _, (pssd_cons (psd_set (i := 2) sc_law_strides.nd rfl (Or.inl rfl) (pd_lst pad_nil))
    (pssd_cons (psd_set (i := 3) sc_law_strides.nd rfl (Or.inl rfl) pd_int)
    (pssd_cons (psd_for (passes_of rfl) rfl (pid_rng1 rfl T.n_range (pad_cons (pd_callB call_lenG rfl T.n_len bt_len (pad_cons (pdv 1) pad_nil)) pad_nil)) (pgd_name (pg_name (i := 4) sc_law_strides.nd rfl (Or.inl rfl))) (pssd_cons (psd_set (i := 2) sc_law_strides.nd rfl (Or.inl rfl) (pd_op op_addD (pd_lst (pad_cons (pdv 3) pad_nil)) (pdv 2)))
    (pssd_one (psd_set (i := 3) sc_law_strides.nd rfl (Or.inl rfl) (pd_op op_mulD (pdv 3) (pd_call G_law_width (hr.mono (by omega)) tk rfl (pad_cons (pdv 0) (pad_cons (pd_ix ix_G (pdv 1) (pd_op op_subD (pd_op op_subD (pd_callB call_lenG rfl T.n_len bt_len (pad_cons (pdv 1) pad_nil)) pd_int) (pdv 4)) (fun _ _ => rfl)) pad_nil))))))))
    (pssd_one (psd_ret (pdv 2)))))), h⟩
def t_law_needed (K : PySem.W.Frag) (A : Adr) : DS :=
  (dSeq (dAsg (dCall sp_law_strides [] (dCons (dVar 0) (dCons (dVar 1) dNil))) (dName 4))
    (dSeq (dAsg (dLst dNil) (dName 5))
    (dSeq (dFor (dRng1 (dCons (dCB lenG (dCons (dVar 1) dNil)) dNil)) (dName 6) (dSeq (dAsg (dLc (dRng1 (dCons (dCB lenG (dCons (dVar 2) dNil)) dNil)) (fun d τ => τ.set 8 (some d)) dYes (dOp ixG (dVar 3) (dOp (oI0 fun i j => .int (i - j)) (dVar 8) (dOp mulD (dDGet (dOp ixG (dVar 2) (dVar 8)) (dOp ixG (dVar 1) (dVar 6))) (dOp ixG (dVar 4) (dVar 6))))) [8]) (dName 7))
    (dIfS (dB (dOp neD (dVar 7) (dVar 3))) (dDrop (dBM "list" appendM (dVar 5) (dCons (dOp ixG (dVar 1) (dVar 6)) dNil))) dNext)))
    (dRet (dVar 5)))))
theorem ok_law_needed {f : Addr} {fd : FuncData} (T : Txt w K mg A) (G_law_strides : FnD P w K mg base 2 "_law_strides" P_law_strides [] sp_law_strides) (F : L2.Fun K "_law_needed" "_law_needed" s_law_needed f fd) (sp : DSp) (len : ∀ ds M Q E, sp ds M Q E → ds.length = P_law_needed.length) (h : ∀ ds M Q E, sp ds M Q E → t_law_needed K A (ends Q E) (dstart N_law_needed ds) M) :
    FnOk P w K mg base (L2.CX P w) (2 + 1) f fd P_law_needed (liftSp K sp) :=
  okD F sc_law_needed len fun cdv Ar outer s H E hr tk => ⟨t_law_needed K _, (pssd_cons (psd_set (i := 4) sc_law_needed.nd rfl (Or.inr rfl) (pd_call G_law_strides (hr.mono (by omega)) tk rfl (pad_cons (pdv 0) (pad_cons (pdv 1) pad_nil))))
    (pssd_cons (psd_set (i := 5) sc_law_needed.nd rfl (Or.inl rfl) (pd_lst pad_nil))
    (pssd_cons (psd_for (passes_of rfl) rfl (pid_rng1 rfl T.n_range (pad_cons (pd_callB call_lenG rfl T.n_len bt_len (pad_cons (pdv 1) pad_nil)) pad_nil)) (pgd_name (pg_name (i := 6) sc_law_needed.nd rfl (Or.inr rfl))) (pssd_cons (psd_setLc (own := [("k", 8)]) (i := 8) (j := 7) rfl sc_law_needed.nd rfl rfl (sw_true rfl rfl rfl (by decide +kernel)) (pid_rng1 rfl T.n_range (pad_cons (pd_callB call_lenG rfl T.n_len bt_len (pad_cons (pdv 2) pad_nil)) pad_nil)) (blkOk_by (N := N_law_needed) (sc := defScope s_law_needed) (by decide +kernel)) (by decide) (fun _ _ _ _ _ => pg_name (i := 8) sc_law_needed.nd rfl (Or.inl rfl)) (fun _ _ _ _ _ => ptsd_nil) (fun _ _ _ _ _ => (pd_ix ix_G (pdv 3) (pd_op op_subD (pdv 8) (pd_op op_mulD (pd_dget (u1 hr) (pd_ix ix_G (pdv 2) (pdv 8) (fun _ _ => rfl)) (pd_ix ix_G (pdv 1) (pdv 6) (fun _ _ => rfl)) (fun _ _ => rfl)) (pd_ix ix_G (pdv 4) (pdv 6) (fun _ _ => rfl)))) (fun _ _ => rfl))))
    (pssd_one (psd_if (pt_cmpD (op_neG (u200 hr)) (pdv 7) (pdv 3) (nomark _)) (pssd_one (psd_expr (pd_bm PySem.F.plainAttrs_list PySem.F.slot_list_append PySem.F.type_list_append mt_appendM (pdv 5) (pad_cons (pd_ix ix_G (pdv 1) (pdv 6) (fun _ _ => rfl)) pad_nil)))) pssd_nil))))
    (pssd_one (psd_ret (pdv 5)))))), h⟩
def t_law_heads (K : PySem.W.Frag) (A : Adr) : DS :=
  (dSeq (dAsg (dCall sp_law_different [] (dCons (dVar 4) dNil)) (dName 5))
    (dSeq (dAsg (dC (.int 0)) (dName 6))
    (dSeq (dIfS (dB (dOp (oI0 fun i j => .bl (decide (j < i))) (dCB lenG (dCons (dVar 1) dNil)) (dC (.int 0)))) (dAsg (dOp addD (dOp ixG (dVar 1) (dNeg (dC (.int 1)))) (dC (.int 1))) (dName 6)) dNext)
    (dSeq (dAsg (dCall sp_law_many [] (dCons (dVar 0) (dCons (dLc (dRng1 (dCons (dVar 6) dNil)) (fun d τ => τ.set 12 (some d)) (dB (dOp (inG true) (dVar 12) (dVar 1))) (dVar 12) [12]) dNil))) (dName 7))
    (dSeq (dAsg (dLc (dIter (dVar 2)) (fun d τ => τ.set 12 (some d)) (dB (dOp (inG true) (dVar 12) (dVar 1))) (dVar 12) [12]) (dName 8))
    (dSeq (dAsg (dLc (dIter (dVar 5)) (fun d τ => τ.set 13 (some d)) dYes (dC (.int 0)) [13]) (dName 9))
    (dSeq (dFor (dRng1 (dCons (dCB lenG (dCons (dVar 3) dNil)) dNil)) (dName 10) (dIfS (dTru (dCB (allG fun bs => bs.all id) (dCons (dLc (dIter (dVar 8)) (fun d τ => τ.set 12 (some d)) dYes (dOp eqD (dDGet (dOp ixG (dVar 3) (dVar 10)) (dVar 12)) (dC (.int 0))) [12]) dNil))) (dSeq (dAsg (dBM "list" indexLD (dVar 5) (dCons (dOp ixG (dVar 4) (dVar 10)) dNil)) (dName 11))
    (dAsg (dOp addD (dOp ixG (dVar 9) (dVar 11)) (dVar 7)) (dGSub (dVar 9) (dVar 11)))) dNext))
    (dRet (dLst (dCons (dVar 6) (dCons (dCB tupG (dCons (dVar 9) dNil)) dNil)))))))))))
theorem ok_law_heads {f : Addr} {fd : FuncData} (T : Txt w K mg A) (G_law_different : FnD P w K mg base 1 "_law_different" P_law_different [] sp_law_different) (G_law_many : FnD P w K mg base 2 "_law_many" P_law_many [] sp_law_many) (F : L2.Fun K "_law_heads" "_law_heads" s_law_heads f fd) (sp : DSp) (len : ∀ ds M Q E, sp ds M Q E → ds.length = P_law_heads.length) (h : ∀ ds M Q E, sp ds M Q E → t_law_heads K A (ends Q E) (dstart N_law_heads ds) M) :
    FnOk P w K mg base (L2.CX P w) (2 + 1) f fd P_law_heads (liftSp K sp) :=
  okD F sc_law_heads len fun cdv Ar outer s H E hr tk => ⟨t_law_heads K _, (pssd_cons (psd_set (i := 5) sc_law_heads.nd rfl (Or.inl rfl) (pd_call G_law_different (hr.mono (by omega)) tk rfl (pad_cons (pdv 4) pad_nil)))
    (pssd_cons (psd_set (i := 6) sc_law_heads.nd rfl (Or.inl rfl) pd_int)
    (pssd_cons (psd_if (pt_cmpD op_gtD (pd_callB call_lenG rfl T.n_len bt_len (pad_cons (pdv 1) pad_nil)) pd_int (nomark _)) (pssd_one (psd_set (i := 6) sc_law_heads.nd rfl (Or.inl rfl) (pd_op op_addD (pd_ix ix_G (pdv 1) (pd_neg pd_int) (fun _ _ => rfl)) pd_int))) pssd_nil)
    (pssd_cons (psd_set (i := 7) sc_law_heads.nd rfl (Or.inl rfl) (pd_call G_law_many (hr.mono (by omega)) tk rfl (pad_cons (pdv 0) (pad_cons (pd_lc (own := [("place", 12)]) (i := 12) rfl sc_law_heads.nd (pid_rng1 rfl T.n_range (pad_cons (pdv 6) pad_nil)) (blkOk_by (N := N_law_heads) (sc := defScope s_law_heads) (by decide +kernel)) (by decide) (fun _ _ _ _ _ => pg_name (i := 12) sc_law_heads.nd rfl (Or.inl rfl)) (fun _ _ _ _ _ => (ptsd_one (pt_cmpD op_notInG (pdv 12) (pdv 1) (by with_unfolding_all rfl)))) (fun _ _ _ _ _ => (pdv 12))) pad_nil))))
    (pssd_cons (psd_setLc (own := [("place", 12)]) (i := 12) (j := 8) rfl sc_law_heads.nd rfl rfl (sw_true rfl rfl rfl (by decide +kernel)) (pid_any (pdv 2)) (blkOk_by (N := N_law_heads) (sc := defScope s_law_heads) (by decide +kernel)) (by decide) (fun _ _ _ _ _ => pg_name (i := 12) sc_law_heads.nd rfl (Or.inl rfl)) (fun _ _ _ _ _ => (ptsd_one (pt_cmpD op_notInG (pdv 12) (pdv 1) (by with_unfolding_all rfl)))) (fun _ _ _ _ _ => (pdv 12)))
    (pssd_cons (psd_setLc (own := [("value", 13)]) (i := 13) (j := 9) rfl sc_law_heads.nd rfl rfl (sw_true rfl rfl rfl (by decide +kernel)) (pid_any (pdv 5)) (blkOk_by (N := N_law_heads) (sc := defScope s_law_heads) (by decide +kernel)) (by decide) (fun _ _ _ _ _ => pg_name (i := 13) sc_law_heads.nd rfl (Or.inl rfl)) (fun _ _ _ _ _ => ptsd_nil) (fun _ _ _ _ _ => pd_int))
    (pssd_cons (psd_for (passes_of rfl) rfl (pid_rng1 rfl T.n_range (pad_cons (pd_callB call_lenG rfl T.n_len bt_len (pad_cons (pdv 3) pad_nil)) pad_nil)) (pgd_name (pg_name (i := 10) sc_law_heads.nd rfl (Or.inr rfl))) (pssd_one (psd_if (ptd_tru (pd_callB (call_allG rfl) rfl T.n_all bt_all (pad_cons (pd_lc (own := [("place", 12)]) (i := 12) rfl sc_law_heads.nd (pid_any (pdv 8)) (blkOk_by (N := N_law_heads) (sc := defScope s_law_heads) (by decide +kernel)) (by decide) (fun _ _ _ _ _ => pg_name (i := 12) sc_law_heads.nd rfl (Or.inl rfl)) (fun _ _ _ _ _ => ptsd_nil) (fun _ _ _ _ _ => (pd_cmp (op_eqG (u200 hr)) (pd_dget (u1 hr) (pd_ix ix_G (pdv 3) (pdv 10) (fun _ _ => rfl)) (pdv 12) (fun _ _ => rfl)) pd_int (nomark _)))) pad_nil))) (pssd_cons (psd_set (i := 11) sc_law_heads.nd rfl (Or.inl rfl) (pd_bm PySem.F.plainAttrs_list PySem.F.slot_list_index PySem.F.type_list_index (mt_indexLD (u65 hr)) (pdv 5) (pad_cons (pd_ix ix_G (pdv 4) (pdv 10) (fun _ _ => rfl)) pad_nil)))
    (pssd_one (psd_asg (pd_op op_addD (pd_ix ix_G (pdv 9) (pdv 11) (fun _ _ => rfl)) (pdv 7)) (pgd_sub (pdv 9) (pdv 11))))) pssd_nil)))
    (pssd_one (psd_ret (pd_lst (pad_cons (pdv 6) (pad_cons (pd_callT call_tupG rfl T.n_tuple bt_tuple (pad_cons (pdv 9) pad_nil)) pad_nil)))))))))))), h⟩
def t_law_counted (K : PySem.W.Frag) (A : Adr) : DS :=
  (dSeq (dAsg (dCall sp_law_needed [] (dCons (dVar 1) (dCons (dVar 2) (dCons (dVar 3) (dCons (dVar 4) dNil))))) (dName 5))
    (dSeq (dAsg (dCall sp_law_heads [] (dCons (dVar 1) (dCons (dVar 5) (dCons (dVar 2) (dCons (dVar 3) (dCons (dVar 4) dNil)))))) (dGTup 2 (dGCons (dName 6) (dGCons (dName 7) dGNil))))
    (dSeq (dIfS (dOr (dNot (dTru (dCall (sp_law_same 100) [] (dCons (dCall (sp_needed_places A.Query) [] (dCons (dVar 0) dNil)) (dCons (dCB tupG (dCons (dVar 5) dNil)) dNil))))) (dNot (dTru (dCall (sp_law_same 100) [] (dCons (dCall (sp_query_reach A.Query) [] (dCons (dVar 0) dNil)) (dCons (dVar 6) dNil)))))) (dRet (dC (.bl false))) dNext)
    (dSeq (dIfS (dB (dOp neD (dCB sumSeqG (dCons (dVar 7) dNil)) (dCall sp_law_many [] (dCons (dVar 1) (dCons (dLstRg (dCons (dVar 6) dNil)) dNil))))) (dRet (dC (.bl false))) dNext)
    (dSeq (dIfS (dNot (dTru (dCall (sp_law_same 100) [] (dCons (dCall (sp_told_values A.Query) [] (dCons (dVar 0) dNil)) (dCons (dCB tupG (dCons (dCall sp_law_different [] (dCons (dVar 4) dNil)) dNil)) dNil))))) (dRet (dC (.bl false))) dNext)
    (dRet (dCall (sp_law_same 100) [] (dCons (dCall (sp_count_heads A.Query) [] (dCons (dVar 0) dNil)) (dCons (dVar 7) dNil)))))))))
theorem ok_law_counted {f : Addr} {fd : FuncData} (T : Txt w K mg A) (G_law_different : FnD P w K mg base 1 "_law_different" P_law_different [] sp_law_different) (G_law_heads : FnD P w K mg base 3 "_law_heads" P_law_heads [] sp_law_heads) (G_law_many : FnD P w K mg base 2 "_law_many" P_law_many [] sp_law_many) (G_law_needed : FnD P w K mg base 3 "_law_needed" P_law_needed [] sp_law_needed) (G_law_same : FnD P w K mg base 100 "_law_same" P_law_same [] (sp_law_same 100)) (G_count_heads : FnD P w K mg base 29 "count_heads" P_count_heads [] (sp_count_heads A.Query)) (G_needed_places : FnD P w K mg base 27 "needed_places" P_needed_places [] (sp_needed_places A.Query)) (G_query_reach : FnD P w K mg base 28 "query_reach" P_query_reach [] (sp_query_reach A.Query)) (G_told_values : FnD P w K mg base 27 "told_values" P_told_values [] (sp_told_values A.Query)) (F : L2.Fun K "_law_counted" "_law_counted" s_law_counted f fd) (sp : DSp) (len : ∀ ds M Q E, sp ds M Q E → ds.length = P_law_counted.length) (h : ∀ ds M Q E, sp ds M Q E → t_law_counted K A (ends Q E) (dstart N_law_counted ds) M) :
    FnOk P w K mg base (L2.CX P w) (100 + 1) f fd P_law_counted (liftSp K sp) :=
  okD F sc_law_counted len fun cdv Ar outer s H E hr tk => ⟨t_law_counted K _, (pssd_cons (psd_set (i := 5) sc_law_counted.nd rfl (Or.inl rfl) (pd_call G_law_needed (hr.mono (by omega)) tk rfl (pad_cons (pdv 1) (pad_cons (pdv 2) (pad_cons (pdv 3) (pad_cons (pdv 4) pad_nil))))))
    (pssd_cons (psd_asg (pd_call G_law_heads (hr.mono (by omega)) tk rfl (pad_cons (pdv 1) (pad_cons (pdv 5) (pad_cons (pdv 2) (pad_cons (pdv 3) (pad_cons (pdv 4) pad_nil)))))) (pgd_tup rfl (pgsd_cons (pgd_name (pg_name (i := 6) sc_law_counted.nd rfl (Or.inl rfl))) (pgsd_cons (pgd_name (pg_name (i := 7) sc_law_counted.nd rfl (Or.inl rfl))) pgsd_nil))))
    (pssd_cons (psd_if (PWD.pt (pwd_or (ptd_not (ptd_tru (pd_call G_law_same (hr.mono (by omega)) tk rfl (pad_cons (pd_call G_needed_places (hr.mono (by omega)) tk rfl (pad_cons (pdv 0) pad_nil)) (pad_cons (pd_callT call_tupG rfl T.n_tuple bt_tuple (pad_cons (pdv 5) pad_nil)) pad_nil))))) (pwd_or1 (ptd_not (ptd_tru (pd_call G_law_same (hr.mono (by omega)) tk rfl (pad_cons (pd_call G_query_reach (hr.mono (by omega)) tk rfl (pad_cons (pdv 0) pad_nil)) (pad_cons (pdv 6) pad_nil)))))))) (pssd_one (psd_ret pd_bl)) pssd_nil)
    (pssd_cons (psd_if (pt_cmpD (op_neG (u200 hr)) (pd_callB (call_sumSeqG rfl) rfl T.n_sum bt_sum (pad_cons (pdv 7) pad_nil)) (pd_call G_law_many (hr.mono (by omega)) tk rfl (pad_cons (pdv 1) (pad_cons (pd_lstRg1 rfl rfl T.n_list rfl T.n_range (pdv 6)) pad_nil))) (nomark _)) (pssd_one (psd_ret pd_bl)) pssd_nil)
    (pssd_cons (psd_if (ptd_not (ptd_tru (pd_call G_law_same (hr.mono (by omega)) tk rfl (pad_cons (pd_call G_told_values (hr.mono (by omega)) tk rfl (pad_cons (pdv 0) pad_nil)) (pad_cons (pd_callT call_tupG rfl T.n_tuple bt_tuple (pad_cons (pd_call G_law_different (hr.mono (by omega)) tk rfl (pad_cons (pdv 4) pad_nil)) pad_nil)) pad_nil))))) (pssd_one (psd_ret pd_bl)) pssd_nil)
    (pssd_one (psd_ret (pd_call G_law_same (hr.mono (by omega)) tk rfl (pad_cons (pd_call G_count_heads (hr.mono (by omega)) tk rfl (pad_cons (pdv 0) pad_nil)) (pad_cons (pdv 7) pad_nil)))))))))), h⟩
def t_law (K : PySem.W.Frag) (A : Adr) : DS :=
  (dSeq (dAsg (dCall (sp_law_start K) [] (dCons (dVar 0) dNil)) (dName 1))
    (dSeq (dAsg (dCall sp_law_widths [] (dCons (dVar 1) dNil)) (dName 2))
    (dSeq (dAsg (dOp ixG (dLst (dCons (dC (.int 24)) (dCons (dC (.int 24)) (dCons (dC (.int 24)) (dCons (dC (.int 24)) (dCons (dC (.int 64)) (dCons (dC (.int 64)) (dCons (dC (.int 64)) (dCons (dC (.int 256)) dNil))))))))) (dCall sp_law_pick [] (dCons (dVar 1) (dCons (dC (.int 8)) dNil)))) (dName 3))
    (dSeq (dAsg (dCall sp_law_places [] (dCons (dVar 1) (dCons (dVar 2) (dCons (dOp addD (dC (.int 1)) (dCall sp_law_pick [] (dCons (dVar 1) (dCons (dC (.int 12)) dNil)))) (dCons (dVar 3) dNil))))) (dName 4))
    (dSeq (dAsg (dCall sp_law_pool [] (dCons (dVar 1) dNil)) (dName 5))
    (dSeq (dAsg (dCall sp_law_term [] (dCons (dVar 1) (dCons (dVar 2) (dCons (dVar 4) (dCons (dVar 5) dNil))))) (dName 6))
    (dSeq (dAsg (dCall sp_law_shuffled [] (dCons (dVar 1) (dCons (dVar 4) dNil))) (dName 7))
    (dSeq (dAsg (dCB sortInts (dCons (dVar 4) dNil)) (dName 4))
    (dSeq (dAsg (dCall sp_law_choices [] (dCons (dVar 2) (dCons (dVar 4) dNil))) (dName 8))
    (dSeq (dAsg (dLc (dIter (dVar 8)) (fun d τ => τ.set 17 (some d)) dYes (dCall sp_law_end [] (dCons (dVar 6) (dCons (dVar 17) dNil))) [17]) (dName 9))
    (dSeq (dAsg (dMake A.Query (sp_Query_init A.Query) [] (dCons (dVar 6) (dCons (dVar 2) dNil))) (dName 10))
    (dSeq (dIfS (dNot (dTru (dCall (sp_law_counted A.Query) [] (dCons (dVar 10) (dCons (dVar 2) (dCons (dVar 4) (dCons (dVar 8) (dCons (dVar 9) dNil)))))))) (dRet (dC (.bl false))) dNext)
    (dSeq (dAsg (dCall (sp_law_retold 14) [] (dCons (dVar 2) (dCons (dVar 6) (dCons (dVar 7) (dCons dDNew (dCons (dOp ixG (dLst (dCons (dC .non) (dCons (dOp ixG (dVar 8) (dCall sp_law_pick [] (dCons (dVar 1) (dCons (dCB lenG (dCons (dVar 8) dNil)) dNil)))) dNil))) (dCall sp_law_pick [] (dCons (dVar 1) (dCons (dC (.int 2)) dNil)))) dNil)))))) (dName 11))
    (dSeq (dAsg (dMake A.Query (sp_Query_init A.Query) [] (dCons (dVar 11) (dCons (dVar 2) dNil))) (dName 12))
    (dSeq (dIfS (dNot (dTru (dCall (sp_law_counted A.Query) [] (dCons (dVar 12) (dCons (dVar 2) (dCons (dVar 4) (dCons (dVar 8) (dCons (dLc (dIter (dVar 8)) (fun d τ => τ.set 17 (some d)) dYes (dCall sp_law_end [] (dCons (dVar 11) (dCons (dVar 17) dNil))) [17]) dNil)))))))) (dRet (dC (.bl false))) dNext)
    (dSeq (dAsg (dCall sp_law_pick [] (dCons (dVar 1) (dCons (dC (.int 100)) dNil))) (dName 13))
    (dSeq (dAsg (dTup (dCons (dC (.str "tell")) (dCons (dOp ixG (dVar 5) (dC (.int 0))) dNil))) (dName 14))
    (dSeq (dAsg (dLst (dCons dDNew dNil)) (dName 15))
    (dSeq (dFor (dIter (dLst (dCons (dVar 14) (dCons (dOp addD (dTup (dCons (dC (.str "look")) (dCons (dVar 13) dNil))) (dOp mulD (dTup (dCons (dVar 14) dNil)) (dCall sp_law_width [] (dCons (dVar 2) (dCons (dVar 13) dNil))))) dNil)))) (dName 16) (dIfS (dNot (dTru (dCall (sp_law_counted A.Query) [] (dCons (dMake A.Query (sp_Query_init A.Query) [] (dCons (dVar 16) (dCons (dVar 2) dNil))) (dCons (dVar 2) (dCons (dLst dNil) (dCons (dVar 15) (dCons (dLst (dCons (dOp ixG (dVar 5) (dC (.int 0))) dNil)) dNil)))))))) (dRet (dC (.bl false))) dNext))
    (dSeq (dIfS (dNot (dTru (dCall (sp_law_counted A.Query) [] (dCons (dVar 10) (dCons (dVar 2) (dCons (dVar 4) (dCons (dVar 8) (dCons (dVar 9) dNil)))))))) (dRet (dC (.bl false))) dNext)
    (dRet (dCall (sp_law_same 100) [] (dCons (dTup (dCons (dFld K (dVar 10) "term") (dCons (dFld K (dVar 10) "widths") (dCons (dFld K (dVar 12) "term") (dCons (dFld K (dVar 12) "widths") dNil))))) (dCons (dTup (dCons (dVar 6) (dCons (dVar 2) (dCons (dVar 11) (dCons (dVar 2) dNil))))) dNil))))))))))))))))))))))))
theorem ok_law {f : Addr} {fd : FuncData} (T : Txt w K mg A) (G_Query_init : MakD P w K mg base 24 "Query" A.Query P_Query_init [] (sp_Query_init A.Query)) (G_law_choices : FnD P w K mg base 2 "_law_choices" P_law_choices [] sp_law_choices) (G_law_counted : FnD P w K mg base 101 "_law_counted" P_law_counted [] (sp_law_counted A.Query)) (G_law_end : FnD P w K mg base 1 "_law_end" P_law_end [] sp_law_end) (G_law_pick : FnD P w K mg base 1 "_law_pick" P_law_pick [] sp_law_pick) (G_law_places : FnD P w K mg base 2 "_law_places" P_law_places [] sp_law_places) (G_law_pool : FnD P w K mg base 2 "_law_pool" P_law_pool [] sp_law_pool) (G_law_retold : FnD P w K mg base 15 "_law_retold" P_law_retold [] (sp_law_retold 14)) (G_law_same : FnD P w K mg base 100 "_law_same" P_law_same [] (sp_law_same 100)) (G_law_shuffled : FnD P w K mg base 2 "_law_shuffled" P_law_shuffled [] sp_law_shuffled) (G_law_start : FnD P w K mg base 1 "_law_start" P_law_start [] (sp_law_start K)) (G_law_term : FnD P w K mg base 16 "_law_term" P_law_term [] sp_law_term) (G_law_width : FnD P w K mg base 1 "_law_width" P_law_width [] sp_law_width) (G_law_widths : FnD P w K mg base 2 "_law_widths" P_law_widths [] sp_law_widths) (F : L2.Fun K "law" "law" s_law f fd) (sp : DSp) (len : ∀ ds M Q E, sp ds M Q E → ds.length = P_law.length) (h : ∀ ds M Q E, sp ds M Q E → t_law K A (ends Q E) (dstart N_law ds) M) :
    FnOk P w K mg base (L2.CX P w) (101 + 1) f fd P_law (liftSp K sp) :=
  okD F sc_law len fun cdv Ar outer s H E hr tk => ⟨t_law K _, (pssd_cons (psd_set (i := 1) sc_law.nd rfl (Or.inl rfl) (pd_call G_law_start (hr.mono (by omega)) tk rfl (pad_cons (pdv 0) pad_nil)))
    (pssd_cons (psd_set (i := 2) sc_law.nd rfl (Or.inl rfl) (pd_call G_law_widths (hr.mono (by omega)) tk rfl (pad_cons (pdv 1) pad_nil)))
    (pssd_cons (psd_set (i := 3) sc_law.nd rfl (Or.inl rfl) (pd_ix ix_G (pd_lst (pad_cons pd_int (pad_cons pd_int (pad_cons pd_int (pad_cons pd_int (pad_cons pd_int (pad_cons pd_int (pad_cons pd_int (pad_cons pd_int pad_nil))))))))) (pd_call G_law_pick (hr.mono (by omega)) tk rfl (pad_cons (pdv 1) (pad_cons pd_int pad_nil))) (fun _ _ => rfl)))
    (pssd_cons (psd_set (i := 4) sc_law.nd rfl (Or.inl rfl) (pd_call G_law_places (hr.mono (by omega)) tk rfl (pad_cons (pdv 1) (pad_cons (pdv 2) (pad_cons (pd_op op_addD pd_int (pd_call G_law_pick (hr.mono (by omega)) tk rfl (pad_cons (pdv 1) (pad_cons pd_int pad_nil)))) (pad_cons (pdv 3) pad_nil))))))
    (pssd_cons (psd_set (i := 5) sc_law.nd rfl (Or.inl rfl) (pd_call G_law_pool (hr.mono (by omega)) tk rfl (pad_cons (pdv 1) pad_nil)))
    (pssd_cons (psd_set (i := 6) sc_law.nd rfl (Or.inr rfl) (pd_call G_law_term (hr.mono (by omega)) tk rfl (pad_cons (pdv 1) (pad_cons (pdv 2) (pad_cons (pdv 4) (pad_cons (pdv 5) pad_nil))))))
    (pssd_cons (psd_set (i := 7) sc_law.nd rfl (Or.inl rfl) (pd_call G_law_shuffled (hr.mono (by omega)) tk rfl (pad_cons (pdv 1) (pad_cons (pdv 4) pad_nil))))
    (pssd_cons (psd_set (i := 4) sc_law.nd rfl (Or.inl rfl) (pd_callB call_sortInts rfl T.n_sorted bt_sorted (pad_cons (pdv 4) pad_nil)))
    (pssd_cons (psd_set (i := 8) sc_law.nd rfl (Or.inl rfl) (pd_call G_law_choices (hr.mono (by omega)) tk rfl (pad_cons (pdv 2) (pad_cons (pdv 4) pad_nil))))
    (pssd_cons (psd_setLc (own := [("known", 17)]) (i := 17) (j := 9) rfl sc_law.nd rfl rfl (sw_true rfl rfl rfl (by decide +kernel)) (pid_any (pdv 8)) (blkOk_by (N := N_law) (sc := defScope s_law) (by decide +kernel)) (by decide) (fun _ _ _ _ _ => pg_name (i := 17) sc_law.nd rfl (Or.inl rfl)) (fun _ _ _ _ _ => ptsd_nil) (fun _ _ _ _ _ => (pd_call G_law_end (hr.mono (by omega)) tk0 rfl (pad_cons (pdv 6) (pad_cons (pdv 17) pad_nil)))))
    (pssd_cons (psd_set (i := 10) sc_law.nd rfl (Or.inl rfl) (pd_make G_Query_init (hr.mono (by omega)) tk rfl (pad_cons (pdv 6) (pad_cons (pdv 2) pad_nil))))
    (pssd_cons (psd_if (ptd_not (ptd_tru (pd_call G_law_counted (hr.mono (by omega)) tk rfl (pad_cons (pdv 10) (pad_cons (pdv 2) (pad_cons (pdv 4) (pad_cons (pdv 8) (pad_cons (pdv 9) pad_nil)))))))) (pssd_one (psd_ret pd_bl)) pssd_nil)
    (pssd_cons (psd_set (i := 11) sc_law.nd rfl (Or.inr rfl) (pd_call G_law_retold (hr.mono (by omega)) tk rfl (pad_cons (pdv 2) (pad_cons (pdv 6) (pad_cons (pdv 7) (pad_cons pd_dnew (pad_cons (pd_ix ix_G (pd_lst (pad_cons pd_non (pad_cons (pd_ix ix_G (pdv 8) (pd_call G_law_pick (hr.mono (by omega)) tk rfl (pad_cons (pdv 1) (pad_cons (pd_callB call_lenG rfl T.n_len bt_len (pad_cons (pdv 8) pad_nil)) pad_nil))) (fun _ _ => rfl)) pad_nil))) (pd_call G_law_pick (hr.mono (by omega)) tk rfl (pad_cons (pdv 1) (pad_cons pd_int pad_nil))) (fun _ _ => rfl)) pad_nil)))))))
    (pssd_cons (psd_set (i := 12) sc_law.nd rfl (Or.inl rfl) (pd_make G_Query_init (hr.mono (by omega)) tk rfl (pad_cons (pdv 11) (pad_cons (pdv 2) pad_nil))))
    (pssd_cons (psd_if (ptd_not (ptd_tru (pd_call G_law_counted (hr.mono (by omega)) tk rfl (pad_cons (pdv 12) (pad_cons (pdv 2) (pad_cons (pdv 4) (pad_cons (pdv 8) (pad_cons (pd_lc (own := [("known", 17)]) (i := 17) rfl sc_law.nd (pid_any (pdv 8)) (blkOk_by (N := N_law) (sc := defScope s_law) (by decide +kernel)) (by decide) (fun _ _ _ _ _ => pg_name (i := 17) sc_law.nd rfl (Or.inl rfl)) (fun _ _ _ _ _ => ptsd_nil) (fun _ _ _ _ _ => (pd_call G_law_end (hr.mono (by omega)) tk0 rfl (pad_cons (pdv 11) (pad_cons (pdv 17) pad_nil))))) pad_nil)))))))) (pssd_one (psd_ret pd_bl)) pssd_nil)
    (pssd_cons (psd_set (i := 13) sc_law.nd rfl (Or.inl rfl) (pd_call G_law_pick (hr.mono (by omega)) tk rfl (pad_cons (pdv 1) (pad_cons pd_int pad_nil))))
    (pssd_cons (psd_set (i := 14) sc_law.nd rfl (Or.inl rfl) (pd_tup (pad_cons pd_str (pad_cons (pd_ix ix_G (pdv 5) pd_int (fun _ _ => rfl)) pad_nil))))
    (pssd_cons (psd_set (i := 15) sc_law.nd rfl (Or.inl rfl) (pd_lst (pad_cons pd_dnew pad_nil)))
    (pssd_cons (psd_for (passes_of rfl) rfl (pid_any (pd_lst (pad_cons (pdv 14) (pad_cons (pd_op op_addD (pd_tup (pad_cons pd_str (pad_cons (pdv 13) pad_nil))) (pd_op op_mulD (pd_tup (pad_cons (pdv 14) pad_nil)) (pd_call G_law_width (hr.mono (by omega)) tk rfl (pad_cons (pdv 2) (pad_cons (pdv 13) pad_nil))))) pad_nil)))) (pgd_name (pg_name (i := 16) sc_law.nd rfl (Or.inl rfl))) (pssd_one (psd_if (ptd_not (ptd_tru (pd_call G_law_counted (hr.mono (by omega)) tk rfl (pad_cons (pd_make G_Query_init (hr.mono (by omega)) tk rfl (pad_cons (pdv 16) (pad_cons (pdv 2) pad_nil))) (pad_cons (pdv 2) (pad_cons (pd_lst pad_nil) (pad_cons (pdv 15) (pad_cons (pd_lst (pad_cons (pd_ix ix_G (pdv 5) pd_int (fun _ _ => rfl)) pad_nil)) pad_nil)))))))) (pssd_one (psd_ret pd_bl)) pssd_nil)))
    (pssd_cons (psd_if (ptd_not (ptd_tru (pd_call G_law_counted (hr.mono (by omega)) tk rfl (pad_cons (pdv 10) (pad_cons (pdv 2) (pad_cons (pdv 4) (pad_cons (pdv 8) (pad_cons (pdv 9) pad_nil)))))))) (pssd_one (psd_ret pd_bl)) pssd_nil)
    (pssd_one (psd_ret (pd_call G_law_same (hr.mono (by omega)) tk rfl (pad_cons (pd_tup (pad_cons (pd_fld (pdv 10)) (pad_cons (pd_fld (pdv 10)) (pad_cons (pd_fld (pdv 12)) (pad_cons (pd_fld (pdv 12)) pad_nil))))) (pad_cons (pd_tup (pad_cons (pdv 6) (pad_cons (pdv 2) (pad_cons (pdv 11) (pad_cons (pdv 2) pad_nil))))) pad_nil))))))))))))))))))))))))), h⟩
end
end K58

set_option maxHeartbeats 4000000
namespace K58
open PySem L2 DL DQ
local macro_rules | `(tactic| walk_at "dl") => `(tactic| simp only [dSeq, dIfS, dB, dTru, truD, dOp, dVar, dC, dAsg, dAug, dCB, dCons, dNil, dRet, dRetN, dName, dGSub, dNext, ends, exOf, dstart, slot, oI0, oI, dAnd, dOr, dNot, dAndV, dOrV, dNotV, dNeg, dSl, dNoP, dPart, dFld, dFldS, dRaise, dLst, dTup, dFor, dIter, dRng1, dRng2, dCall, dMake, dMeth, dIxO, dLc, dYes, dGTup, dGCons, dGNil, dDrop, dBreak, dBM, dDIn, dNever, dChain, dRngD, dZip, dRaiseI, dLstRg, dDGet, dDGet2, dDNew, dGSubD, dDStar, dSortSet, dAugS, dDc, dIterX, dBX,
  eqD_str, neD_str, eqD_int, neD_int, ixG_t0, ixG_t1, isiG_str, isi_int, isi_int_s, isi_int_t, isi_tup, isi_tup_s, isi_tup_i, isi_str_i, isi_str_t, lenG_tup, addD_int, mulD_int, intG, List.nil_append, bne_iff_ne, ofS_inj, Bool.false_bne, Bool.true_bne,
  List.map, List.length_cons, List.length_nil, List.cons_append, List.append_nil, List.replicate, List.set, List.getElem?_cons_zero, List.getElem?_cons_succ, Option.join_some, Option.bind_some, decide_eq_true_eq])
local macro_rules | `(tactic| walk_at "so") => `(tactic| first | omega | (simp; done) | (simp; omega))
variable {K : PySem.W.Frag} {A : Adr} {w : World} {mg : Str → Option Value}
theorem sl2 : sizeLine = 16777216 := sizeLine_eq
theorem len_wsD {ws : List Nat} : (ws.map fun w => D.int ((w : Nat) : Int)).length = ws.length := by simp
theorem ix_ws {ws : List Nat} (W : okW ws) {p : Int} {M : Mp} {Q : DK} : ixG (wsD ws) (.int (p % ((ws.length : Nat) : Int))) M Q = Q (.int ((wd ws p : Nat) : Int)) M := by
  obtain ⟨i, e1, _, e2, _⟩ := wd_in W p
  rw [e1]
  exact ixG_nat (by rw [List.getElem?_map, e2]; rfl)
theorem r_is_below : ∀ ds M Q E, sp_is_below ds M Q E → t_is_below K A (ends Q E) (dstart N_is_below ds) M := by
  rintro ds M Q E ⟨i, n, rfl, k⟩
  unfold t_is_below N_is_below
  walk_at "dl"
  by_cases h : 0 ≤ i
  · have k' := dropQ_of k (Sub.refl (M := M))
    simp only [h, decide_true, if_true, true_and] at k' ⊢
    exact k'
  · have k' := dropQ_of k (Sub.refl (M := M))
    simp only [h, decide_false, Bool.false_eq_true, if_false, false_and] at k' ⊢
    exact k'
theorem r_place_width : ∀ ds M Q E, sp_place_width ds M Q E → t_place_width K A (ends Q E) (dstart N_place_width ds) M := by
  rintro ds M Q E ⟨ws, p, rfl, W, k⟩
  have h1 := W.1
  unfold t_place_width N_place_width
  walk_at "dl"
  unfold wsD
  simp only [lenG_tup, len_wsD]
  refine ⟨by omega, ?_⟩
  have := ix_ws W (p := p) (M := M) (Q := dropQ Q)
  unfold wsD at this
  rw [this]
  exact dropQ_of k .refl
theorem r_check_widths : ∀ ds M Q E, sp_check_widths ds M Q E → t_check_widths K A (ends Q E) (dstart N_check_widths ds) M := by
  rintro ds M Q E ⟨ws, rfl, W, k⟩
  have h1 := W.1
  have h2 := W.2.1
  unfold t_check_widths N_check_widths
  unfold wsD
  walk_at "dl"
  have e1 : ((1 : Int) ≤ ((ws.length : Nat) : Int)) = True := by simp; omega
  have e2 : (((ws.length : Nat) : Int) ≤ 6) = True := by simp; omega
  simp only [dChain, len_wsD, oI0, e1, e2, decide_true, if_true, itemsOf, keepOf, Bool.not_true, Bool.false_eq_true, if_false]
  refine dLoop_inv (fun i τ M' => M' = M ∧ ∃ o, τ = [some (wsD ws), o]) (fun _ _ _ _ _ => trivial) ?_ ?_ ⟨rfl, none, rfl⟩
  · rintro i d τ M' nxt hd ⟨rfl, o, rfl⟩ hnx
    rw [List.getElem?_map] at hd
    cases e : ws[i]? with
    | none => rw [e] at hd; cases hd
    | some w =>
      rw [e] at hd
      simp only [Option.map_some, Option.some.injEq] at hd
      subst hd
      have hw := W.2.2 w (List.mem_of_getElem? e)
      have e1 : ((1 : Int) ≤ ((w : Nat) : Int)) = True := by simp; omega
      have e2 : (((w : Nat) : Int) ≤ 4) = True := by simp; omega
      walk_at "dl"
      simp only [dChain, oI0, e1, e2, decide_true, if_true, Bool.not_true, Bool.false_eq_true, if_false]
      exact hnx _ _ ⟨rfl, _, rfl⟩
  · rintro τ M' ⟨rfl, o, rfl⟩
    exact dropQ_of k .refl
end K58

set_option maxHeartbeats 4000000
namespace K58
open PySem L2 DL DQ
local macro_rules | `(tactic| walk_at "dl") => `(tactic| simp only [dSeq, dIfS, dB, dTru, truD, dOp, dVar, dC, dAsg, dAug, dCB, dCons, dNil, dRet, dRetN, dName, dGSub, dNext, ends, exOf, dstart, slot, oI0, oI, dAnd, dOr, dNot, dAndV, dOrV, dNotV, dNeg, dSl, dNoP, dPart, dFld, dFldS, dRaise, dLst, dTup, dFor, dIter, dRng1, dRng2, dCall, dMake, dMeth, dIxO, dLc, dYes, dGTup, dGCons, dGNil, dDrop, dBreak, dBM, dDIn, dNever, dChain, dRngD, dZip, dRaiseI, dLstRg, dDGet, dDGet2, dDNew, dGSubD, dDStar, dSortSet, dAugS, dDc, dIterX, dBX,
  eqD_str, neD_str, eqD_int, neD_int, ixG_t0, ixG_t1, isiG_str, isi_int, isi_int_s, isi_int_t, isi_tup, isi_tup_s, isi_tup_i, isi_str_i, isi_str_t, lenG_tup, addD_int, mulD_int, intG, List.nil_append, bne_iff_ne, ofS_inj, Bool.false_bne, Bool.true_bne,
  List.map, List.length_cons, List.length_nil, List.cons_append, List.append_nil, List.replicate, List.set, List.getElem?_cons_zero, List.getElem?_cons_succ, Option.join_some, Option.bind_some, decide_eq_true_eq])
local macro_rules | `(tactic| walk_at "so") => `(tactic| first | omega | (simp; done) | (simp; omega))
variable {K : PySem.W.Frag} {A : Adr} {w : World} {mg : Str → Option Value}
theorem in_two {n : Bool} {x a b : Str} {M : Mp} {Q : DK} : inG n (.str x) (.tup [.str a, .str b]) M Q = Q (.bl (n != (decide (a = x) || decide (b = x)))) M := by
  have e : ∀ a : Str, (a == x) = decide (a = x) := fun a => by
    by_cases h : a = x
    · subst h; simp
    · simp [h]
  unfold inG
  simp only [seqD, flatD, List.all_cons, List.all_nil, Bool.and_true, List.any_cons, List.any_nil, Bool.or_false, eqb, true_and, e]
theorem toDs_len : ∀ {ts : List QT}, (toDs ts).length = ts.length
  | [] => by simp [toDs]
  | t :: ts => by simp [toDs, toDs_len]
theorem toDs_at {ts : List QT} {i : Nat} {t : QT} (h : ts[i]? = some t) : (toDs ts)[i]? = some t.toD := by rw [toDs_map, List.getElem?_map, h]; rfl
theorem look_wf {ws : List Nat} {p : Int} {bs : List QT} (h : (QT.look p bs).wf ws) : 0 ≤ p ∧ p < 100 ∧ bs.length = wd ws p ∧ ∀ t ∈ bs, t.wf ws := by
  rw [QT.wf] at h
  exact ⟨h.1, h.2.1, h.2.2.1, wfL_mem.mp h.2.2.2⟩
theorem look_ht {p : Int} {bs : List QT} {n : Nat} (h : (QT.look p bs).ht ≤ n + 1) : ∀ t ∈ bs, t.ht ≤ n := fun t ht => by
  rw [QT.ht] at h
  have := htL_mem ht; omega
theorem r_check_query {n : Nat} : ∀ ds M Q E, sp_check_query (n + 1) ds M Q E → t_check_query K A n (ends Q E) (dstart N_check_query ds) M := by
  rintro ds M Q E ⟨t, ws, path, rfl, W, w, hn, hp, k⟩
  have sz := sl2
  unfold t_check_query N_check_query
  cases t with
  | tell v =>
    simp only [QT.toD]
    walk_at "dl"
    simp only [in_two, ofS_inj]
    simp [sz]
    exact dropQ_of k .refl
  | look p bs =>
    obtain ⟨p0, p1, hl, hw⟩ := look_wf w
    have w1 := wd_pos W p
    have hh : (QT.look p bs).ht = htL bs + 1 := by rw [QT.ht]
    rw [hh] at hn hp
    simp only [QT.toD]
    walk_at "dl"
    simp only [in_two, ofS_inj]
    have a1 : ¬ (((bs.length : Nat) : Int) + 1 + 1 < 3) := by omega
    have a2 : ¬ ((20 : Int) ≤ ((path.length : Nat) : Int)) := by omega
    simp [sz, toDs_len, a1, a2]
    refine ⟨by omega, p, 100, rfl, ?_⟩
    have a3 : (0 ≤ p ∧ p < 100) = True := by simp [p0, p1]
    simp only [a3, decide_true, if_true]
    refine ⟨trivial, ws, p, rfl, W, ?_⟩
    walk_at "dl"
    have a4 : (((bs.length : Nat) : Int) + 1 + 1 = 2 + ((wd ws p : Nat) : Int)) := by omega
    have a5 : (((bs.length : Nat) : Int) + 1 + 1 - 2).toNat = bs.length := by omega
    refine ⟨by simpa using a4, by omega, by omega, ?_⟩
    rw [a5]
    refine dLoop_inv (fun i τ M' => M' = M ∧ ∃ o, τ = [some (.tup (.str "look" :: .int p :: toDs bs)), some (wsD ws), some (.tup path), o]) (fun _ _ _ _ _ => trivial) ?_ ?_ ⟨rfl, none, rfl⟩
    · rintro i d τ M' nxt hd ⟨rfl, o, rfl⟩ hnx
      obtain ⟨hi, rfl⟩ := rng_at hd
      have hi' : i < bs.length := by simpa using hi
      have e := List.getElem?_eq_getElem hi'
      have hm := List.mem_of_getElem? e
      walk_at "dl"
      have ex : (D.str "look" :: D.int p :: toDs bs)[i + 2]? = some (bs[i]).toD := toDs_at e
      have ei : (2 + ((i : Nat) : Int)) = (((i + 2 : Nat)) : Int) := by omega
      rw [ei, ixG_nat ex]
      refine ⟨by omega, ?_⟩
      simp only [addD_tup]
      refine ⟨by simp; omega, bs[i], ws, path ++ [.int (((i + 2 : Nat)) : Int)], rfl, W, hw _ hm, ?_, ?_, ?_⟩
      · have := htL_mem hm; omega
      · have := htL_mem hm; simp; omega
      · exact hnx _ _ ⟨rfl, _, rfl⟩
    · rintro τ M' ⟨rfl, o, rfl⟩
      exact dropQ_of k .refl
theorem r_count_looks {n : Nat} : ∀ ds M Q E, sp_count_looks (n + 1) ds M Q E → t_count_looks K A n (ends Q E) (dstart N_count_looks ds) M := by
  rintro ds M Q E ⟨t, ws, rfl, W, w, hn, k⟩
  have sz := sl2
  unfold t_count_looks N_count_looks
  cases t with
  | tell v =>
    simp only [QT.toD]
    walk_at "dl"
    rw [QT.nk] at k
    simpa using dropQ_of k .refl
  | look p bs =>
    obtain ⟨p0, p1, hl, hw⟩ := look_wf w
    have w1 := wd_pos W p
    have hh : (QT.look p bs).ht = htL bs + 1 := by rw [QT.ht]
    rw [hh] at hn
    simp only [QT.toD]
    walk_at "dl"
    simp [slG, cut_2, itemsOf, keepOf]
    intro q hq
    refine dCL_each (xs := bs) QT.toD (fun t => D.int ((t.nk : Nat) : Int)) (toDs_map bs) (by omega) (fun _ => trivial) (fun t ht ys k' h => ?_) ?_
    · simp only [wipeD]
      walk_at "dl"
      have := htL_mem ht
      exact ⟨t, ws, rfl, W, hw t ht, by omega, h⟩
    · have e : (bs.map fun t => D.int ((t.nk : Nat) : Int)) = (bs.map fun t => ((t.nk : Nat) : Int)).map D.int := by rw [List.map_map]; rfl
      unfold sumG
      simp only [seqOf, put_same, Option.bind_some]
      rw [e, intsOf_map]
      simp only [addD_int]
      rw [QT.nk, nkL_sum] at k
      have es : ∀ l : List QT, (l.map fun t => ((t.nk : Nat) : Int)).sum = (((l.map QT.nk).sum : Nat) : Int) := fun l => by
        induction l with
        | nil => rfl
        | cons a l ih => simp [ih]
      rw [es]
      have e2 : (1 : Int) + (((bs.map QT.nk).sum : Nat) : Int) = ((1 + (bs.map QT.nk).sum : Nat) : Int) := by omega
      rw [e2]
      exact dropQ_of k (Sub.refl.put hq)
end K58

set_option maxHeartbeats 4000000
namespace K58
open PySem L2 DL DQ
local macro_rules | `(tactic| walk_at "dl") => `(tactic| simp only [dSeq, dIfS, dB, dTru, truD, dOp, dVar, dC, dAsg, dAug, dCB, dCons, dNil, dRet, dRetN, dName, dGSub, dNext, ends, exOf, dstart, slot, oI0, oI, dAnd, dOr, dNot, dAndV, dOrV, dNotV, dNeg, dSl, dNoP, dPart, dFld, dFldS, dRaise, dLst, dTup, dFor, dIter, dRng1, dRng2, dCall, dMake, dMeth, dIxO, dLc, dYes, dGTup, dGCons, dGNil, dDrop, dBreak, dBM, dDIn, dNever, dChain, dRngD, dZip, dRaiseI, dLstRg, dDGet, dDGet2, dDNew, dGSubD, dDStar, dSortSet, dAugS, dDc, dIterX, dBX,
  eqD_str, neD_str, eqD_int, neD_int, ixG_t0, ixG_t1, isiG_str, isi_int, isi_int_s, isi_int_t, isi_tup, isi_tup_s, isi_tup_i, isi_str_i, isi_str_t, lenG_tup, addD_int, mulD_int, intG, List.nil_append, bne_iff_ne, ofS_inj, Bool.false_bne, Bool.true_bne,
  List.map, List.length_cons, List.length_nil, List.cons_append, List.append_nil, List.replicate, List.set, List.getElem?_cons_zero, List.getElem?_cons_succ, Option.join_some, Option.bind_some, decide_eq_true_eq])
local macro_rules | `(tactic| walk_at "so") => `(tactic| first | omega | (simp; done) | (simp; omega))
variable {K : PySem.W.Frag} {A : Adr} {w : World} {mg : Str → Option Value}
theorem r_named_places {n : Nat} : ∀ ds M Q E, sp_named_places (n + 1) ds M Q E → t_named_places K A n (ends Q E) (dstart N_named_places ds) M := by
  rintro ds M Q E ⟨t, ws, rfl, W, w, hn, hle, k⟩
  have sz := sl2
  unfold t_named_places N_named_places
  cases t with
  | tell v =>
    simp only [QT.toD]
    walk_at "dl"
    rw [QT.named] at k
    simpa [psD] using dropQ_of k .refl
  | look p bs =>
    obtain ⟨p0, p1, hl, hw⟩ := look_wf w
    have w1 := wd_pos W p
    have hh : (QT.look p bs).ht = htL bs + 1 := by rw [QT.ht]
    rw [hh] at hn
    have hb : ∀ t ∈ bs, t.named.length < 64 := fun t ht => by
      have : t.named.length ≤ (QT.look p bs).named.length := named_le fun q hq => mem_named.mpr (by rw [QT.occ]; exact .inr (occL_mem.mpr ⟨t, ht, hq⟩))
      omega
    have hbl : ∀ i, (namedL (bs.take i)).length ≤ 4 * 63 := fun i => by
      have := namedL_le (n := 63) (ts := bs.take i) fun t ht => by have := hb t (List.mem_of_mem_take ht); omega
      have h2 : (bs.take i).length ≤ 4 := by rw [List.length_take]; omega
      omega
    simp only [QT.toD]
    walk_at "dl"
    simp [slG, cut_2, itemsOf, keepOf]
    refine ⟨by omega, fun q hq => ?_⟩
    refine dLoop_inv (fun i τ M' => Sub M M' ∧ M' q = some (.lst ((p :: namedL (bs.take i)).map D.int)) ∧ ∃ o, τ = [some (.tup (.str "look" :: .int p :: toDs bs)), some (.ref q), o]) (fun _ _ _ _ _ => trivial) ?_ ?_ ⟨Sub.refl.put hq, by rw [put_same]; rfl, none, rfl⟩
    · rintro i d τ M' nxt hd ⟨s, hL, o, rfl⟩ hnx
      rw [toDs_map, List.getElem?_map] at hd
      cases e : bs[i]? with
      | none => rw [e] at hd; cases hd
      | some u =>
        rw [e] at hd
        simp only [Option.map_some, Option.some.injEq] at hd
        subst hd
        have hm := List.mem_of_getElem? e
        walk_at "dl"
        refine ⟨by rw [metL hL]; trivial, u, ws, rfl, W, hw u hm, by have := htL_mem hm; omega, hb u hm, ?_⟩
        have h1 := hbl i
        have h2 := hb u hm
        unfold psD
        simp only [extT_at hL]
        refine ⟨by simp; omega, hnx _ _ ⟨sub_new s hq, ?_, _, rfl⟩⟩
        rw [put_same, List.take_add_one, e]
        have : ∀ (a : List QT) (b : QT), namedL (a ++ [b]) = namedL a ++ b.named := fun a b => by
          induction a with
          | nil => simp [namedL]
          | cons x a ih => rw [List.cons_append, namedL, namedL, ih, List.append_assoc]
        simp only [Option.toList_some, this, List.map_cons, List.map_append, List.cons_append]
    · rintro τ M' ⟨s, hL, o, rfl⟩
      rw [toDs_len, List.take_length] at hL
      walk_at "dl"
      have h1 := hbl bs.length
      rw [List.take_length] at h1
      have hset : sset (p :: namedL bs) = (QT.look p bs).named := by rw [QT.named]
      refine ⟨_, p :: namedL bs, by simp only [seqD, seqOf, hL], rfl, by simp; omega, by rw [hset]; exact hle, fun r hr => ?_⟩
      rw [tup_at put_same, hset]
      exact dropQ_of k (s.put hr)
theorem cast_mul {a b : Nat} : ((a : Nat) : Int) * ((b : Nat) : Int) = ((a * b : Nat) : Int) := by simp
theorem cmx {a b : Nat} (ha : a < 2 ^ 1000) (hb : b < 2 ^ 1000) : CMulX ((a : Nat) : Int) ((b : Nat) : Int) := mulx_ok (a := 1000) (b := 1000) (by simpa using ha) (by simpa using hb) (by decide)
theorem prodW_small {ws : List Nat} (W : okW ws) {P : List Int} (h : P.length ≤ 130) : prodW ws P < 2 ^ 1000 := by
  have h1 := prodW_four W P
  have h2 : 4 ^ P.length ≤ 4 ^ 130 := Nat.pow_le_pow_right (by omega) h
  have h3 : (4 : Nat) ^ 130 < 2 ^ 1000 := by decide
  omega
theorem four_small {n : Nat} (h : n ≤ 1000000) : n < 2 ^ 1000 := Nat.lt_of_le_of_lt h (by decide)
theorem r_is_large : ∀ ds M Q E, sp_is_large ds M Q E → t_is_large K A (ends Q E) (dstart N_is_large ds) M := by
  rintro ds M Q E ⟨P, ws, rfl, W, hl, k⟩
  have sz := sl2
  unfold t_is_large N_is_large
  unfold psD
  walk_at "dl"
  simp only [itemsOf, keepOf]
  refine dLoop_inv (fun i τ M' => M' = M ∧ ∃ o, τ = [some (psD P), some (wsD ws), some (.int ((prodW ws (P.take i) : Nat) : Int)), o]) (fun _ _ _ _ _ => trivial) ?_ ?_ ⟨rfl, none, by simp [prodW, psD]⟩
  · rintro i d τ M' nxt hd ⟨rfl, o, rfl⟩ hnx
    rw [List.getElem?_map] at hd
    cases e : P[i]? with
    | none => rw [e] at hd; cases hd
    | some p =>
      rw [e] at hd
      simp only [Option.map_some, Option.some.injEq] at hd
      subst hd
      have w1 := wd_pos W p
      walk_at "dl"
      refine ⟨ws, p, rfl, W, ?_⟩
      simp only [mulD_int]
      refine ⟨cmx (prodW_small W (by rw [List.length_take]; omega)) (four_small (by omega)), hnx _ _ ⟨rfl, some (.int p), ?_⟩⟩
      rw [cast_mul, List.take_add_one, e, Option.toList_some, prodW_app]
      simp [prodW]
  · rintro τ M' ⟨rfl, o, rfl⟩
    rw [List.length_map, List.take_length]
    walk_at "dl"
    have := dropQ_of k (Sub.refl (M := M'))
    have e : (256 : Int) < ((prodW ws P : Nat) : Int) ↔ 256 < prodW ws P := by omega
    simpa only [e] using this
theorem r_Query_init (T : Txt w K mg A) : ∀ ds M Q E, sp_Query_init A.Query ds M Q E → t_Query_init K A (ends Q E) (dstart N_Query_init ds) M := by
  rintro ds M Q E ⟨x, t, ws, rfl, hx, g, k⟩
  have sz := sl2
  unfold t_Query_init N_Query_init
  walk_at "dl"
  refine ⟨ws, rfl, g.W, by walk_at "so", t, ws, [], rfl, g.W, g.wf, by have := g.ht; omega, by have := g.ht; simpa using this, ?_⟩
  refine ⟨t, ws, rfl, g.W, g.wf, by have := g.ht; omega, ?_⟩
  have h1 : ¬ ((300 : Int) < ((t.nk : Nat) : Int)) := by have := g.nk; omega
  simp only [h1, decide_false, Bool.false_eq_true, if_false]
  refine ⟨t, ws, rfl, g.W, g.wf, by have := g.ht; omega, g.le, t.named, ws, rfl, g.W, by have := g.le; omega, ?_⟩
  have h2 : ¬ (256 < prodW ws t.named) := by have := g.pr; omega
  simp only [h2, decide_false, Bool.false_eq_true, if_false, hx, put_same, put_put]
  refine ⟨T.d_Query_term, by simp, T.d_Query_widths, by simp [putFD], ?_⟩
  exact dropQ_of (k _ (by unfold QueryAt qF; rw [put_same]; rfl) (.set rfl)) .refl
end K58

set_option maxHeartbeats 4000000
namespace K58
open PySem L2 DL DQ
local macro_rules | `(tactic| walk_at "dl") => `(tactic| simp only [dSeq, dIfS, dB, dTru, truD, dOp, dVar, dC, dAsg, dAug, dCB, dCons, dNil, dRet, dRetN, dName, dGSub, dNext, ends, exOf, dstart, slot, oI0, oI, dAnd, dOr, dNot, dAndV, dOrV, dNotV, dNeg, dSl, dNoP, dPart, dFld, dFldS, dRaise, dLst, dTup, dFor, dIter, dRng1, dRng2, dCall, dMake, dMeth, dIxO, dLc, dYes, dGTup, dGCons, dGNil, dDrop, dBreak, dBM, dDIn, dNever, dChain, dRngD, dZip, dRaiseI, dLstRg, dDGet, dDGet2, dDNew, dGSubD, dDStar, dSortSet, dAugS, dDc, dIterX, dBX,
  eqD_str, neD_str, eqD_int, neD_int, ixG_t0, ixG_t1, isiG_str, isi_int, isi_int_s, isi_int_t, isi_tup, isi_tup_s, isi_tup_i, isi_str_i, isi_str_t, lenG_tup, addD_int, mulD_int, intG, List.nil_append, bne_iff_ne, ofS_inj, Bool.false_bne, Bool.true_bne,
  List.map, List.length_cons, List.length_nil, List.cons_append, List.append_nil, List.replicate, List.set, List.getElem?_cons_zero, List.getElem?_cons_succ, Option.join_some, Option.bind_some, decide_eq_true_eq])
local macro_rules | `(tactic| walk_at "so") => `(tactic| first | omega | (simp; done) | (simp; omega))
variable {K : PySem.W.Frag} {A : Adr} {w : World} {mg : Str → Option Value}
theorem r_told_by : ∀ ds M Q E, sp_told_by ds M Q E → t_told_by K A (ends Q E) (dstart N_told_by ds) M := by
  rintro ds M Q E ⟨t, ws, a, kvs, kn, rfl, ha, w, hh, hk, hv, k⟩
  have sz := sl2
  unfold t_told_by N_told_by
  simp only [dSeq, dstart, List.map, List.length_cons, List.length_nil, List.replicate, List.cons_append, List.nil_append]
  refine dWh_inv (n := t.ht) (fun n τ M' => M' = M ∧ ∃ u : QT, τ = [some u.toD, some (.ref a)] ∧ u.wf ws ∧ u.ht ≤ n ∧ knows kvs u kn ∧ u.ev kn = t.ev kn) ?_ ⟨rfl, t, rfl, w, Nat.le_refl _, hk, rfl⟩
  rintro n τ M' nxt ⟨rfl, u, rfl, uw, un, uk, ue⟩ hnx
  cases u with
  | tell v =>
    rw [QT.ev] at ue
    simp only [QT.toD]
    walk_at "dl"
    rw [if_neg (by decide)]
    rw [← ue] at k
    exact dropQ_of k .refl
  | look p bs =>
    obtain ⟨p0, p1, hl, hw⟩ := look_wf uw
    have hh : (QT.look p bs).ht = htL bs + 1 := by rw [QT.ht]
    rw [hh] at un
    obtain ⟨m, rfl⟩ : ∃ m, n = m + 1 := ⟨n - 1, by omega⟩
    have hp := uk p (by rw [QT.occ]; exact .inl rfl)
    have hv2 := hv p
    rw [← hl] at hv2
    have e := List.getElem?_eq_getElem hv2
    have hm := List.mem_of_getElem? e
    simp only [QT.toD]
    walk_at "dl"
    simp only [dictRd, ha, keyD, hp, addD_int]
    have ei : (2 + ((kn p : Nat) : Int)) = (((kn p + 2 : Nat)) : Int) := by omega
    have ex : (D.str "look" :: D.int p :: toDs bs)[kn p + 2]? = some (bs[kn p]).toD := toDs_at e
    simp only [ei, ixG_nat ex]
    refine hnx m rfl _ _ ⟨rfl, bs[kn p], rfl, hw _ hm, ?_, fun q hq => uk q ?_, ?_⟩
    · have := htL_mem hm; omega
    · rw [QT.occ]; exact .inr (occL_mem.mpr ⟨_, hm, hq⟩)
    · rw [← ue, QT.ev, evAt_get e]
theorem bs_at {α : Type} {n : Nat} {f : Nat → α} (h : 1 ≤ n) : ((List.range n).map f)[0]? = some (f 0) := by rw [List.getElem?_map, List.getElem?_range (by omega)]; rfl
theorem r_settled_term {n : Nat} : ∀ ds M Q E, sp_settled_term (n + 1) ds M Q E → t_settled_term K A n (ends Q E) (dstart N_settled_term ds) M := by
  rintro ds M Q E ⟨t, P, ws, a, kvs, kn, rfl, ha, W, w, hh, hk, hv, nd, hP, hn, h100, hsz, ok, k⟩
  have sz := sl2
  unfold t_settled_term N_settled_term
  unfold psD
  cases P with
  | nil =>
    walk_at "dl"
    refine ⟨t, ws, a, kvs, kn, rfl, ha, w, hh, hk, hv, by omega, ?_⟩
    rw [sett, over_nil, QT.toD] at k
    exact dropQ_of k .refl
  | cons p ps =>
    obtain ⟨n1, n2⟩ := List.nodup_cons.mp nd
    have w1 := wd_pos W p
    have hoo : ∀ q, t.occ q → 0 ≤ q ∧ q < 100 := fun q hq => occ_range w hq
    let f : Kn → D := fun k' => t.ev (over (p :: ps) k' kn)
    have hf : ∀ k', vk ws k' → okV (f k') := fun k' hk' => ev_ok (k := over (p :: ps) k' kn) (fun q => by unfold over; split; exact hk' q; exact hv q) w
    have hb : ∀ o, o < wd ws p → (sett ws ps (fx f p o)).wf ws := fun o ho => sett_wf W (fun q hq => hoo q (hP q (List.mem_cons_of_mem _ hq))) fun k' hk' => hf _ (vk_upk hk' ho)
    have hbh : ∀ o, (sett ws ps (fx f p o)).ht ≤ 100 := fun o => by have := sett_ht W (P := ps) (f := fx f p o); simp at h100; omega
    let B : Nat → D := fun o => (sett ws ps (fx f p o)).toD
    simp only [dSeq, dIfS, dB, dOp, dCB, dCons, dNil, dVar, dstart, slot, List.map, List.length_cons, List.length_nil, List.replicate, List.cons_append, List.nil_append, List.getElem?_cons_zero, List.getElem?_cons_succ, Option.join_some, lenG_tup, dC, eqD_int]
    rw [if_neg (by rw [decide_eq_true_eq]; omega)]
    simp only [dNext]
    refine seq_split (fun τ M' => ∃ b, M b = none ∧ M' = put M b (.lst []) ∧ τ = [some t.toD, some (.tup (.int p :: ps.map D.int)), some (wsD ws), some (.ref a), some (.ref b), none, none]) ?_ ?_
    rotate_left
    · intro nx hnx
      walk_at "dl"
      exact ⟨by omega, fun b hb => hnx _ _ ⟨b, hb, rfl, rfl⟩⟩
    rintro τ M1 ⟨b, hbn, rfl, rfl⟩
    have ab : a ≠ b := ne_none ha hbn
    refine seq_split (fun τ M' => Sub M M' ∧ M' b = some (.lst ((List.range (wd ws p)).map B)) ∧ ∃ o5 o6, τ = [some t.toD, some (.tup (.int p :: ps.map D.int)), some (wsD ws), some (.ref a), some (.ref b), o5, o6]) ?_ ?_
    rotate_left
    · intro nx hnx
      walk_at "dl"
      refine ⟨ws, p, rfl, W, ?_⟩
      refine ⟨by omega, by omega, ?_⟩
      rw [Int.toNat_natCast]
      refine dLoop_inv (fun i τ M' => Sub M M' ∧ M' b = some (.lst ((List.range i).map B)) ∧ ∃ o5 o6, τ = [some t.toD, some (.tup (.int p :: ps.map D.int)), some (wsD ws), some (.ref a), some (.ref b), o5, o6]) (fun _ _ _ _ _ => trivial) ?_ ?_ ⟨Sub.refl.put hbn, put_same, none, none, rfl⟩
      · rintro i d τ M' nxt hd ⟨s, hL, o5, o6, rfl⟩ hnx'
        obtain ⟨hi, rfl⟩ := rng_at hd
        have ha' := s _ _ ha
        walk_at "dl"
        simp only [slG, cut_1]
        refine ⟨by rw [metL hL]; trivial, fun x hx => ?_⟩
        have ax : a ≠ x := ne_none ha' hx
        have bx : b ≠ x := ne_none hL hx
        simp only [dictRd, put_ne ax, ha', mergeKD_nil ok, put_same]
        refine ⟨by simpa using ax, trivial, by omega, fun y hy => ?_⟩
        have yx : x ≠ y := ne_none put_same hy
        have hy' : M' y = none := by
          have : y ≠ x := fun e => yx e.symm
          rw [put_ne this, put_ne this] at hy
          exact hy
        have yb : b ≠ y := ne_none hL hy'
        simp only [keyD, put_same, put_ne yx]
        refine ⟨trivial, trivial, ?_⟩
        have s2 : Sub M' (put (put (put (put (put M' x (.dk [])) x (.dk kvs)) y (.dk [])) y (.dk [(Sum.inl p, .int ((i : Nat) : Int))])) x (.dk (putKD kvs (.inl p) (.int ((i : Nat) : Int))))) := by
          intro z o hz
          have zx : z ≠ x := ne_none hz hx
          have zy : z ≠ y := ne_none hz hy'
          rw [put_ne zx, put_ne zy, put_ne zy, put_ne zx, put_ne zx]; exact hz
        generalize hM2 : put (put (put (put (put M' x (.dk [])) x (.dk kvs)) y (.dk [])) y (.dk [(Sum.inl p, .int ((i : Nat) : Int))])) x (.dk (putKD kvs (.inl p) (.int ((i : Nat) : Int)))) = M2 at s2
        have m2x : M2 x = some (.dk (putKD kvs (.inl p) (.int ((i : Nat) : Int)))) := by rw [← hM2]; exact put_same
        clear hM2
        have hL2 := s2 _ _ hL
        have plen := putKD_length (l := kvs) (k := Sum.inl p) (d := .int ((i : Nat) : Int))
        refine ⟨t, ps, ws, x, _, upk kn p i, rfl, m2x, W, w, hh, knows_put hk, vk_upk hv hi, n2, fun q hq => hP q (List.mem_cons_of_mem _ hq), by simp at hn; omega, by simp at h100; omega, by simp at hsz; omega, keysOk_put ok, ?_⟩
        rw [over_fx n1]
        simp only [app_at hL2]
        refine ⟨by simp; omega, hnx' _ _ ⟨sub_new (s.trans s2) hbn, ?_, _, _, rfl⟩⟩
        rw [put_same, List.range_succ, List.map_append]
        rfl
      · rintro τ M' ⟨s, hL, hτ⟩
        rw [len_rng] at hL
        exact hnx _ _ ⟨s, hL, hτ⟩
    rintro τ M2 ⟨s2, hL, o5, o6, rfl⟩
    have hL0 : ((List.range (wd ws p)).map B)[0]? = some (B 0) := bs_at w1.1
    walk_at "dl"
    simp only [itemsOf, keepOf, seqOf, hL]
    intro c hc
    have bc : b ≠ c := ne_none hL hc
    refine dCL_each (xs := List.range (wd ws p)) B (fun o => D.bl (open Classical in decide (sett ws ps (fx f p o) = sett ws ps (fx f p 0)))) rfl (by simp; omega) (fun ys => by rw [put_ne bc, hL]) (fun o ho ys k' h => ?_) ?_
    · have ho := List.mem_range.mp ho
      simp only [wipeD]
      walk_at "dl"
      have g1 : ∀ Q, ixG (.ref b) (.int 0) (put M2 c (.lst ys)) Q = Q (B 0) (put M2 c (.lst ys)) := fun Q => ix_at (i := 0) (by rw [put_ne bc]; exact hL) hL0
      simp only [g1]
      show eqG false (sett ws ps (fx f p o)).toD (sett ws ps (fx f p 0)).toD _ _
      rw [eq_toD W (hb o ho) (hb 0 w1.1) (.inl (hbh o))]
      simpa using h
    · have sc : Sub M2 (put M2 c (.lst ((List.range (wd ws p)).map fun o => D.bl (open Classical in decide (sett ws ps (fx f p o) = sett ws ps (fx f p 0)))))) := Sub.refl.put hc
      generalize hM3 : put M2 c (.lst ((List.range (wd ws p)).map fun o => D.bl (open Classical in decide (sett ws ps (fx f p o) = sett ws ps (fx f p 0))))) = M3 at sc
      have m3c : M3 c = some (.lst ((List.range (wd ws p)).map fun o => D.bl (open Classical in decide (sett ws ps (fx f p o) = sett ws ps (fx f p 0))))) := by rw [← hM3]; exact put_same
      clear hM3
      have m3b := sc _ _ hL
      unfold allG
      have eb : (List.range (wd ws p)).map (fun o => D.bl (open Classical in decide (sett ws ps (fx f p o) = sett ws ps (fx f p 0)))) = ((List.range (wd ws p)).map fun o => (open Classical in decide (sett ws ps (fx f p o) = sett ws ps (fx f p 0)))).map D.bl := by rw [List.map_map]; rfl
      simp only [seqOf, m3c, Option.bind_some, eb, blsOf_map]
      have g1 : ∀ Q, ixG (.ref b) (.int 0) M3 Q = Q (B 0) M3 := fun Q => ix_at (i := 0) m3b hL0
      rcases sett_split W (p := p) (ps := ps) (f := f) with ⟨e1, e2⟩ | ⟨⟨o, ho, e1⟩, e2⟩
      · have et : ((List.range (wd ws p)).map fun o => (open Classical in decide (sett ws ps (fx f p o) = sett ws ps (fx f p 0)))).all id = true := by
          rw [List.all_eq_true]
          intro z hz
          obtain ⟨o, ho, rfl⟩ := List.mem_map.mp hz
          simpa using e1 o (List.mem_range.mp ho)
        simp only [et, if_true, g1]
        rw [e2] at k
        exact dropQ_of k (s2.trans sc)
      · have et : ((List.range (wd ws p)).map fun o => (open Classical in decide (sett ws ps (fx f p o) = sett ws ps (fx f p 0)))).all id = false := by
          rw [Bool.eq_false_iff]
          intro z
          have := List.all_eq_true.mp z _ (List.mem_map.mpr ⟨o, List.mem_range.mpr ho, rfl⟩)
          exact e1 (by simpa using this)
        simp only [et, Bool.false_eq_true, if_false, ixG_t0, tup_at m3b, addD_tup]
        rw [e2, QT.toD, toDs_map] at k
        refine ⟨by omega, by simp; omega, ?_⟩
        have : (bsOf ws p ps f).map QT.toD = (List.range (wd ws p)).map B := by unfold bsOf; rw [List.map_map]; rfl
        rw [this] at k
        exact dropQ_of k (s2.trans sc)
end K58

set_option maxHeartbeats 4000000
namespace K58
open PySem L2 DL DQ
local macro_rules | `(tactic| walk_at "dl") => `(tactic| simp only [dSeq, dIfS, dB, dTru, truD, dOp, dVar, dC, dAsg, dAug, dCB, dCons, dNil, dRet, dRetN, dName, dGSub, dNext, ends, exOf, dstart, slot, oI0, oI, dAnd, dOr, dNot, dAndV, dOrV, dNotV, dNeg, dSl, dNoP, dPart, dFld, dFldS, dRaise, dLst, dTup, dFor, dIter, dRng1, dRng2, dCall, dMake, dMeth, dIxO, dLc, dYes, dGTup, dGCons, dGNil, dDrop, dBreak, dBM, dDIn, dNever, dChain, dRngD, dZip, dRaiseI, dLstRg, dDGet, dDGet2, dDNew, dGSubD, dDStar, dSortSet, dAugS, dDc, dIterX, dBX,
  eqD_str, neD_str, eqD_int, neD_int, ixG_t0, ixG_t1, isiG_str, isi_int, isi_int_s, isi_int_t, isi_tup, isi_tup_s, isi_tup_i, isi_str_i, isi_str_t, lenG_tup, addD_int, mulD_int, intG, List.nil_append, bne_iff_ne, ofS_inj, Bool.false_bne, Bool.true_bne,
  List.map, List.length_cons, List.length_nil, List.cons_append, List.append_nil, List.replicate, List.set, List.getElem?_cons_zero, List.getElem?_cons_succ, Option.join_some, Option.bind_some, decide_eq_true_eq])
local macro_rules | `(tactic| walk_at "so") => `(tactic| first | omega | (simp; done) | (simp; omega))
variable {K : PySem.W.Frag} {A : Adr} {w : World} {mg : Str → Option Value}
theorem r_settle_query (T : Txt w K mg A) : ∀ ds M Q E, sp_settle_query A.Query ds M Q E → t_settle_query K A (ends Q E) (dstart N_settle_query ds) M := by
  rintro ds M Q E ⟨a, t, ws, rfl, ha, g, k⟩
  have sz := sl2
  have W := g.W
  have hle := g.le
  have hht := g.ht
  have nd := named_nodup t
  unfold QueryAt at ha
  unfold t_settle_query N_settle_query
  simp only [dstart, List.map, List.length_cons, List.length_nil, List.replicate, List.cons_append, List.nil_append]
  refine seq_split (fun τ M' => M' = M ∧ τ = [some (.ref a), some (psD t.named), none, none, none]) ?_ ?_
  rotate_left
  · intro nx hnx
    walk_at "dl"
    simp only [ha, qF_term]
    exact ⟨T.d_Query_term, t, ws, rfl, W, g.wf, by omega, hle, hnx _ _ ⟨rfl, rfl⟩⟩
  rintro τ M1 ⟨rfl, rfl⟩
  refine seq_split (fun τ M' => ∃ d, M1 d = none ∧ M' = put M1 d (.dk (kz t.named)) ∧ τ = [some (.ref a), some (psD t.named), some (.ref d), none, none]) ?_ ?_
  rotate_left
  · intro nx hnx
    unfold psD
    walk_at "dl"
    simp only [itemsOf, keepOf, wipeD]
    intro d hd
    refine dDL_inv (fun i M' => M' = put M1 d (.dk (kz (t.named.take i)))) (fun _ _ _ _ => trivial) ?_ ?_ rfl
    · rintro i x M' nxt hx rfl hnx'
      rw [List.getElem?_map] at hx
      cases e : t.named[i]? with
      | none => rw [e] at hx; cases hx
      | some p =>
        rw [e] at hx
        simp only [Option.map_some, Option.some.injEq] at hx
        subst hx
        walk_at "dl"
        have hi := (List.getElem?_eq_some_iff.mp e).1
        simp only [if_true, keyD, put_same, put_put]
        have np : p ∉ t.named.take i := fun hm => by
          obtain ⟨j, hj, ej⟩ := List.mem_take_iff_getElem.mp hm
          have hi2 := (List.getElem?_eq_some_iff.mp e).2
          have hj2 : j < i := by omega
          exact List.pairwise_iff_getElem.mp nd j i (by omega) hi hj2 (by rw [ej, hi2])
        refine ⟨by unfold kz; simp; omega, hnx' _ ?_⟩
        rw [kz_put np, List.take_add_one, e]
        rfl
    · rintro M' rfl
      rw [List.length_map, List.take_length]
      exact hnx _ _ ⟨d, hd, rfl, rfl⟩
  rintro τ M2 ⟨d, hd, rfl, rfl⟩
  have ad : a ≠ d := ne_none ha hd
  have s2 : Sub M1 (put M1 d (.dk (kz t.named))) := Sub.refl.put hd
  generalize hM2 : put M1 d (.dk (kz t.named)) = M2 at s2
  have m2d : M2 d = some (.dk (kz t.named)) := by rw [← hM2]; exact put_same
  clear hM2
  have ha2 := s2 _ _ ha
  refine seq_split (fun τ M' => Sub M2 M' ∧ ∃ o, τ = [some (.ref a), some (psD t.named), some (.ref d), some (psD (wide ws t.named)), o]) ?_ ?_
  rotate_left
  · intro nx hnx
    unfold psD
    walk_at "dl"
    simp only [itemsOf, keepOf]
    intro q hq
    refine dCL_some (xs := t.named) D.int D.int (fun p => decide (1 < wd ws p)) rfl (by omega) (fun _ => trivial) (fun p hp ys k1 k2 h1 h2 => ?_) ?_
    · simp only [wipeD]
      have ha3 : (put M2 q (.lst ys)) a = some (.ins A.Query (qF t ws)) := by rw [put_ne (ne_none ha2 hq)]; exact ha2
      walk_at "dl"
      simp only [ha3, qF_widths]
      refine ⟨T.d_Query_widths, ws, p, rfl, W, ?_⟩
      have e : ((1 : Int) < ((wd ws p : Nat) : Int)) = (1 < wd ws p) := by rw [eq_iff_iff]; omega
      simp only [e]
      by_cases c : 1 < wd ws p
      · simp only [c, decide_true, if_true] at h1 ⊢
        exact h1 trivial
      · simp only [c, decide_false, Bool.false_eq_true, if_false] at h2 ⊢
        exact h2 trivial
    · rw [tup_at put_same]
      exact hnx _ _ ⟨Sub.refl.put hq, _, rfl⟩
  rintro τ M3 ⟨s3, o, rfl⟩
  have ha3 := s3 _ _ ha2
  have hd3 := s3 _ _ m2d
  walk_at "dl"
  simp only [ha3, qF_term, qF_widths]
  have hwl : (wide ws t.named).length ≤ t.named.length := List.length_filter_le _ _
  have hw2 := prodW_two W (P := wide ws t.named) (wide_two W)
  have hw3 : prodW ws (wide ws t.named) ≤ 256 := Nat.le_trans (prodW_filter W _ _) g.pr
  have hw8 : (wide ws t.named).length ≤ 8 := by
    by_cases c : (wide ws t.named).length ≤ 8
    · exact c
    · have : 2 ^ 9 ≤ 2 ^ (wide ws t.named).length := Nat.pow_le_pow_right (by omega) (by omega)
      omega
  refine ⟨T.d_Query_term, T.d_Query_widths, t, wide ws t.named, ws, d, kz t.named, k0, rfl, hd3, W, g.wf, by omega, knows_kz fun q hq => mem_named.mpr hq, vk_k0 W, nd.sublist List.filter_sublist, fun p hp => mem_named.mp (mem_wide.mp hp).1, by omega, by omega, by unfold kz; simp; omega, kz_ok nd, ?_⟩
  rw [setQ_over W]
  simp only [ha3, qF_widths]
  refine ⟨T.d_Query_widths, fun x hx => ⟨x, setQ ws t, ws, rfl, put_same, setQ_good W g, fun M' hq he => ⟨rfl, ?_⟩⟩⟩
  have sM : Sub M1 M' := by
    intro z u hz
    have hz3 := s3 _ _ (s2 _ _ hz)
    exact he _ _ (ne_none hz3 hx) (by rw [put_ne (ne_none hz3 hx)]; exact hz3)
  have hx1 : M1 x = none := (s2.trans s3).none hx
  exact dropQ_of (k x M' hx1 hq sM) .refl
theorem r_needed_places (T : Txt w K mg A) : ∀ ds M Q E, sp_needed_places A.Query ds M Q E → t_needed_places K A (ends Q E) (dstart N_needed_places ds) M := by
  rintro ds M Q E ⟨a, t, ws, rfl, ha, g, k⟩
  have gs := setQ_good g.W g
  unfold t_needed_places N_needed_places
  walk_at "dl"
  refine ⟨a, t, ws, rfl, ha, g, fun x M' hx hq s => ?_⟩
  unfold QueryAt at hq
  simp only [hq, qF_term]
  exact ⟨T.d_Query_term, setQ ws t, ws, rfl, g.W, gs.wf, by have := gs.ht; omega, gs.le, dropQ_of k s⟩
theorem lastP_at {P : List Int} {i : Nat} (h : P.length = i + 1) : ∃ p, P = P.dropLast ++ [p] ∧ lastP P = p + 1 := by
  have hne : P ≠ [] := by rintro rfl; simp at h
  refine ⟨P.getLast hne, (List.dropLast_concat_getLast hne).symm, ?_⟩
  unfold lastP
  rw [List.getLast?_eq_some_getLast hne]
theorem r_query_reach (T : Txt w K mg A) : ∀ ds M Q E, sp_query_reach A.Query ds M Q E → t_query_reach K A (ends Q E) (dstart N_query_reach ds) M := by
  rintro ds M Q E ⟨a, t, ws, rfl, ha, g, k⟩
  unfold t_query_reach N_query_reach
  walk_at "dl"
  refine ⟨a, t, ws, rfl, ha, g, ?_⟩
  unfold psD
  generalize hP : (setQ ws t).named = P at *
  cases e : P.length with
  | zero =>
    have : P = [] := List.eq_nil_of_length_eq_zero e
    subst this
    walk_at "dl"
    have : lastP [] = 0 := rfl
    rw [this] at k
    simpa using dropQ_of k .refl
  | succ i =>
    obtain ⟨p, e1, e2⟩ := lastP_at e
    walk_at "dl"
    have a1 : ¬ (((P.map D.int).length : Nat) : Int) = 0 := by rw [List.length_map, e]; omega
    simp only [a1, decide_false, Bool.false_eq_true, if_false]
    rw [e1, List.map_append]
    simp only [List.map_cons, List.map_nil, ixG_last, addD_int]
    rw [e2] at k
    exact dropQ_of k .refl
end K58

set_option maxHeartbeats 4000000
namespace K58
open PySem L2 DL DQ
local macro_rules | `(tactic| walk_at "dl") => `(tactic| simp only [dSeq, dIfS, dB, dTru, truD, dOp, dVar, dC, dAsg, dAug, dCB, dCons, dNil, dRet, dRetN, dName, dGSub, dNext, ends, exOf, dstart, slot, oI0, oI, dAnd, dOr, dNot, dAndV, dOrV, dNotV, dNeg, dSl, dNoP, dPart, dFld, dFldS, dRaise, dLst, dTup, dFor, dIter, dRng1, dRng2, dCall, dMake, dMeth, dIxO, dLc, dYes, dGTup, dGCons, dGNil, dDrop, dBreak, dBM, dDIn, dNever, dChain, dRngD, dZip, dRaiseI, dLstRg, dDGet, dDGet2, dDNew, dGSubD, dDStar, dSortSet, dAugS, dDc, dIterX, dBX,
  eqD_str, neD_str, eqD_int, neD_int, ixG_t0, ixG_t1, isiG_str, isi_int, isi_int_s, isi_int_t, isi_tup, isi_tup_s, isi_tup_i, isi_str_i, isi_str_t, lenG_tup, addD_int, mulD_int, intG, List.nil_append, bne_iff_ne, ofS_inj, Bool.false_bne, Bool.true_bne,
  List.map, List.length_cons, List.length_nil, List.cons_append, List.append_nil, List.replicate, List.set, List.getElem?_cons_zero, List.getElem?_cons_succ, Option.join_some, Option.bind_some, decide_eq_true_eq])
local macro_rules | `(tactic| walk_at "so") => `(tactic| first | omega | (simp; done) | (simp; omega))
variable {K : PySem.W.Frag} {A : Adr} {w : World} {mg : Str → Option Value}
theorem r_tells_of {n : Nat} : ∀ ds M Q E, sp_tells_of (n + 1) ds M Q E → t_tells_of K A n (ends Q E) (dstart N_tells_of ds) M := by
  rintro ds M Q E ⟨t, ws, rfl, W, w, hn, hnk, k⟩
  have sz := sl2
  unfold t_tells_of N_tells_of
  cases t with
  | tell v =>
    simp only [QT.toD]
    walk_at "dl"
    rw [QT.tells] at k
    simp
    exact ⟨by omega, fun p hp => dropQ_of (k p hp) .refl⟩
  | look p bs =>
    obtain ⟨p0, p1, hl, hw⟩ := look_wf w
    have w1 := wd_pos W p
    have hh : (QT.look p bs).ht = htL bs + 1 := by rw [QT.ht]
    rw [hh] at hn
    have hk2 : (QT.look p bs).nk = 1 + nkL bs := by rw [QT.nk]
    have hkb : ∀ t ∈ bs, t.nk ≤ 1000 := fun t ht => by
      have : ∀ l : List QT, t ∈ l → t.nk ≤ nkL l := fun l => by
        induction l with
        | nil => intro h; cases h
        | cons a l ih =>
          intro h
          rw [nkL]
          rcases List.mem_cons.mp h with rfl | h
          · omega
          · have := ih h; omega
      have := this bs ht
      omega
    have tl : ∀ i, (tellsL (bs.take i)).length ≤ 4 * 3001 := fun i => by
      have : ∀ l : List QT, (∀ t ∈ l, t.wf ws ∧ t.nk ≤ 1000) → (tellsL l).length ≤ l.length * 3001 := fun l => by
        induction l with
        | nil => intro _; simp [tellsL]
        | cons a l ih =>
          intro h
          rw [tellsL, List.length_append, List.length_cons, Nat.succ_mul]
          have h1 := ih fun t ht => h t (List.mem_cons_of_mem _ ht)
          have h2 := tells_len W (h a (by simp)).1
          have h3 := (h a (by simp)).2
          omega
      have := this (bs.take i) fun t ht => ⟨hw t (List.mem_of_mem_take ht), hkb t (List.mem_of_mem_take ht)⟩
      have h2 : (bs.take i).length ≤ 4 := by rw [List.length_take]; omega
      omega
    simp only [QT.toD]
    walk_at "dl"
    simp [slG, cut_2, itemsOf, keepOf]
    intro q hq
    refine dLoop_inv (fun i τ M' => Sub M M' ∧ M' q = some (.lst (tellsL (bs.take i))) ∧ ∃ o, τ = [some (.tup (.str "look" :: .int p :: toDs bs)), some (.ref q), o]) (fun _ _ _ _ _ => trivial) ?_ ?_ ⟨Sub.refl.put hq, by rw [put_same]; rfl, none, rfl⟩
    · rintro i d τ M' nxt hd ⟨s, hL, o, rfl⟩ hnx
      rw [toDs_map, List.getElem?_map] at hd
      cases e : bs[i]? with
      | none => rw [e] at hd; cases hd
      | some u =>
        rw [e] at hd
        simp only [Option.map_some, Option.some.injEq] at hd
        subst hd
        have hm := List.mem_of_getElem? e
        walk_at "dl"
        refine ⟨by rw [metL hL]; trivial, u, ws, rfl, W, hw u hm, by have := htL_mem hm; omega, hkb u hm, fun r hr => ?_⟩
        have qr := ne_none hL hr
        simp only [extL_at (show (put M' r (.lst u.tells)) q = _ from (put_ne qr).trans hL) (show (put M' r (.lst u.tells)) r = _ from put_same)]
        have h1 := tl i
        have h2 := tells_len W (hw u hm)
        have h3 := hkb u hm
        refine ⟨by omega, hnx _ _ ⟨sub_new (s.put hr) hq, ?_, _, rfl⟩⟩
        rw [put_same, List.take_add_one, e, Option.toList_some]
        have : ∀ (a : List QT) (b : QT), tellsL (a ++ [b]) = tellsL a ++ b.tells := fun a b => by
          induction a with
          | nil => simp [tellsL]
          | cons x a ih => rw [List.cons_append, tellsL, tellsL, ih, List.append_assoc]
        rw [this]
    · rintro τ M' ⟨s, hL, o, rfl⟩
      rw [toDs_len, List.take_length] at hL
      walk_at "dl"
      rw [QT.tells] at k
      refine ⟨put M q (.lst (tellsL bs)), ?_, k q hq⟩
      intro z u hz
      by_cases c : z = q
      · subst c; rw [put_same] at hz; rw [hL]; exact hz
      · rw [put_ne c] at hz; exact s _ _ hz
theorem any_pv {x : D} : ∀ {vs : List D}, (∀ v ∈ vs, pvD v = true) → pvD x = true → (vs.any fun d => eqb d x) = (open Classical in decide (x ∈ vs))
  | [], _, _ => by simp
  | v :: vs, h, hx => by
    rw [List.any_cons, any_pv (fun u hu => h u (List.mem_cons_of_mem _ hu)) hx, Bool.eq_iff_iff, Bool.or_eq_true, eqb_iff (h v (by simp)) hx]
    simp only [decide_eq_true_eq, List.mem_cons]
    exact ⟨fun z => z.elim (fun e => .inl e.symm) .inr, fun z => z.elim (fun e => .inl e.symm) .inr⟩
theorem not_in_pv {M : Mp} {a : Addr} {vs : List D} {x : D} {Q : DK} (h : M a = some (.lst vs)) (hv : ∀ v ∈ vs, okV v) (hx : okV x) : inLD true x (.ref a) M Q = Q (.bl (!(open Classical in decide (x ∈ vs)))) M := by
  have h1 : depL vs ≤ 60 := depL_le fun v m => (hv v m).2
  have h2 := hx.2
  unfold inLD
  simp only [seqOf, h, pv_ok hx.1, pvL_ok (pvL_mem.mpr fun v m => (hv v m).1), any_pv (fun v m => (hv v m).1) hx.1]
  have : min (depL vs) (dep x) ≤ 198 := by omega
  simp only [this, true_and, Bool.true_bne]
theorem ddA_ok {l acc : List D} (h : ∀ v ∈ l, okV v) (h2 : ∀ v ∈ acc, okV v) : ∀ v ∈ ddA acc l, okV v := fun v hv => by
  rcases mem_ddA.mp hv with m | m
  · exact h2 v m
  · exact h v m
theorem ddA_snoc {acc l : List D} {v : D} : ddA acc (l ++ [v]) = (open Classical in if v ∈ ddA acc l then ddA acc l else ddA acc l ++ [v]) := by
  rw [ddA_app]; rfl
theorem ddA_len {l : List D} : ∀ {acc : List D}, (ddA acc l).length ≤ acc.length + l.length := by
  induction l with
  | nil => intro acc; simp [ddA]
  | cons v l ih =>
    intro acc
    rw [ddA]
    split
    · have := ih (acc := acc); simp; omega
    · have := ih (acc := acc ++ [v]); simp at this ⊢; omega
theorem r_told_values (T : Txt w K mg A) : ∀ ds M Q E, sp_told_values A.Query ds M Q E → t_told_values K A (ends Q E) (dstart N_told_values ds) M := by
  rintro ds M Q E ⟨a, t, ws, rfl, ha, g, k⟩
  have sz := sl2
  have gs := setQ_good g.W g
  have tl := tells_len g.W gs.wf
  have hnk := gs.nk
  have hok := tells_ok gs.wf
  unfold t_told_values N_told_values
  walk_at "dl"
  refine ⟨by walk_at "so", fun p hp => ?_⟩
  have hap : a ≠ p := ne_none ha hp
  refine ⟨a, t, ws, rfl, by unfold QueryAt; rw [put_ne hap]; exact ha, g, fun x M1 hx hq s => ?_⟩
  unfold QueryAt at hq
  have hp1 := s _ _ (put_same (M := M) (a := p) (o := .lst []))
  simp only [hq, qF_term]
  refine ⟨T.d_Query_term, setQ ws t, ws, rfl, g.W, gs.wf, by have := gs.ht; omega, by omega, fun r hr => ?_⟩
  have pr := ne_none hp1 hr
  simp only [itemsOf, keepOf, seqOf, put_same]
  have s1 : Sub M (put M1 r (.lst (setQ ws t).tells)) := ((Sub.refl.put hp).trans s).put hr
  have hp2 : (put M1 r (.lst (setQ ws t).tells)) p = some (.lst []) := by rw [put_ne pr]; exact hp1
  have hr2 : (put M1 r (.lst (setQ ws t).tells)) r = some (.lst (setQ ws t).tells) := put_same
  generalize put M1 r (.lst (setQ ws t).tells) = M2 at *
  refine dLoop_inv (fun i τ M' => Sub M M' ∧ M' r = some (.lst (setQ ws t).tells) ∧ M' p = some (.lst (dd ((setQ ws t).tells.take i))) ∧ ∃ o, τ = [some (.ref a), some (.ref p), o]) (fun i τ M' _ h => by rw [h.2.1]) ?_ ?_ ⟨s1, hr2, by rw [hp2]; rfl, none, rfl⟩
  · rintro i v τ M' nxt hd ⟨s, hR, hP, o, rfl⟩ hnx
    have hv := hok v (List.mem_of_getElem? hd)
    have hi := (List.getElem?_eq_some_iff.mp hd).1
    have dl := ddA_len (acc := []) (l := (setQ ws t).tells.take i)
    rw [List.length_take] at dl
    simp only [List.length_nil] at dl
    walk_at "dl"
    simp only [not_in_pv hP (ddA_ok (fun v hv => hok v (List.mem_of_mem_take hv)) (fun _ h => nomatch h)) hv]
    have e : dd ((setQ ws t).tells.take (i + 1)) = (open Classical in if v ∈ dd ((setQ ws t).tells.take i) then dd ((setQ ws t).tells.take i) else dd ((setQ ws t).tells.take i) ++ [v]) := by
      rw [List.take_add_one, hd, Option.toList_some]; exact ddA_snoc
    by_cases c : v ∈ dd ((setQ ws t).tells.take i)
    · rw [if_pos c] at e
      simp only [c, decide_true, Bool.not_true, Bool.false_eq_true, if_false]
      exact hnx _ _ ⟨s, hR, by rw [e]; exact hP, _, rfl⟩
    · rw [if_neg c] at e
      have hpr : p ≠ r := pr
      simp only [c, decide_false, Bool.not_false, if_true, app_at hP]
      refine ⟨by rw [metL hP]; trivial, by unfold dd; omega, hnx _ _ ⟨sub_new s hp, by rw [put_ne (Ne.symm hpr)]; exact hR, by rw [put_same, e], _, rfl⟩⟩
  · rintro τ M' ⟨s, hR, hP, o, rfl⟩
    rw [List.take_length] at hP
    walk_at "dl"
    unfold tupXG
    simp only [seqOf, hP]
    rcases k with k | k
    · exact .inl (dropQ_of k s)
    · refine .inr fun u hu => dropQ_of (k u (put M u (.xt (dd (setQ ws t).tells))) (s.none hu) put_same (Sub.refl.put (s.none hu))) ?_
      exact Sub.both s
end K58

set_option maxHeartbeats 4000000
namespace K58
open PySem L2 DL DQ
local macro_rules | `(tactic| walk_at "dl") => `(tactic| simp only [dSeq, dIfS, dB, dTru, truD, dOp, dVar, dC, dAsg, dAug, dCB, dCons, dNil, dRet, dRetN, dName, dGSub, dNext, ends, exOf, dstart, slot, oI0, oI, dAnd, dOr, dNot, dAndV, dOrV, dNotV, dNeg, dSl, dNoP, dPart, dFld, dFldS, dRaise, dLst, dTup, dFor, dIter, dRng1, dRng2, dCall, dMake, dMeth, dIxO, dLc, dYes, dGTup, dGCons, dGNil, dDrop, dBreak, dBM, dDIn, dNever, dChain, dRngD, dZip, dRaiseI, dLstRg, dDGet, dDGet2, dDNew, dGSubD, dDStar, dSortSet, dAugS, dDc, dIterX, dBX,
  eqD_str, neD_str, eqD_int, neD_int, ixG_t0, ixG_t1, isiG_str, isi_int, isi_int_s, isi_int_t, isi_tup, isi_tup_s, isi_tup_i, isi_str_i, isi_str_t, lenG_tup, addD_int, mulD_int, intG, List.nil_append, bne_iff_ne, ofS_inj, Bool.false_bne, Bool.true_bne,
  List.map, List.length_cons, List.length_nil, List.cons_append, List.append_nil, List.replicate, List.set, List.getElem?_cons_zero, List.getElem?_cons_succ, Option.join_some, Option.bind_some, decide_eq_true_eq])
local macro_rules | `(tactic| walk_at "so") => `(tactic| first | omega | (simp; done) | (simp; omega))
variable {K : PySem.W.Frag} {A : Adr} {w : World} {mg : Str → Option Value}
theorem prodW_big {ws : List Nat} (W : okW ws) {P : List Int} (h : P.length ≤ 400) : prodW ws P < 2 ^ 1000 := by
  have h1 := prodW_four W P
  have h2 : 4 ^ P.length ≤ 4 ^ 400 := Nat.pow_le_pow_right (by omega) h
  have h3 : (4 : Nat) ^ 400 < 2 ^ 1000 := by decide
  omega
theorem rng_len {s : Int} {n : Nat} : (rng s n).length = n := by simp [rng]
theorem r_heads_between : ∀ ds M Q E, sp_heads_between ds M Q E → t_heads_between K A (ends Q E) (dstart N_heads_between ds) M := by
  rintro ds M Q E ⟨ws, s, e, rfl, W, s0, s1, e0, e1, k⟩
  have sz := sl2
  unfold t_heads_between N_heads_between
  walk_at "dl"
  refine ⟨by omega, by omega, ?_⟩
  refine dLoop_inv (fun i τ M' => M' = M ∧ ∃ o, τ = [some (wsD ws), some (.int s), some (.int e), some (.int ((prodW ws (rng s i) : Nat) : Int)), o]) (fun _ _ _ _ _ => trivial) ?_ ?_ ⟨rfl, none, by simp [rng, prodW]⟩
  · rintro i d τ M' nxt hd ⟨rfl, o, rfl⟩ hnx
    obtain ⟨hi, rfl⟩ := rng_at hd
    have w1 := wd_pos W (s + ((i : Nat) : Int))
    walk_at "dl"
    refine ⟨ws, _, rfl, W, ?_⟩
    simp only [mulD_int]
    refine ⟨cmx (prodW_big W (by rw [rng_len]; omega)) (four_small (by omega)), hnx _ _ ⟨rfl, some (.int (s + ((i : Nat) : Int))), ?_⟩⟩
    rw [cast_mul, rng_snoc, prodW_app]
    simp [prodW]
  · rintro τ M' ⟨rfl, o, rfl⟩
    rw [len_rng]
    walk_at "dl"
    exact dropQ_of k .refl
theorem hbw_le {ws : List Nat} (W : okW ws) {s e : Int} (h : e - s ≤ 101) : hbw ws s e ≤ 2 ^ 202 := by
  unfold hbw
  refine Nat.le_trans (prodW_four W _) ?_
  rw [rng_len]
  have : 4 ^ (e - s).toNat ≤ 4 ^ 101 := Nat.pow_le_pow_right (by omega) (by omega)
  exact Nat.le_trans this (by decide)
mutual
theorem th_le {ws : List Nat} (W : okW ws) {r : Int} (hr : r ≤ 101) : ∀ {t : QT} {s : Int}, 0 ≤ s → t.wf ws → ∀ q ∈ t.th ws r s, q.2 ≤ 2 ^ (202 * (t.ht + 1))
  | .tell v, s, s0, _, q, h => by
    rw [QT.th, List.mem_singleton] at h
    subst h
    rw [QT.ht]
    exact hbw_le W (by omega)
  | .look p bs, s, s0, w, q, h => by
    rw [QT.wf] at w
    rw [QT.th, List.mem_map] at h
    obtain ⟨u, hu, rfl⟩ := h
    have h1 := thL_le W hr (ts := bs) (s := p + 1) (by omega) w.2.2.2 u hu
    have h2 := hbw_le W (s := s) (e := p) (by omega)
    rw [QT.ht]
    have e : 202 * (htL bs + 1 + 1) = 202 + 202 * (htL bs + 1) := by omega
    rw [e, Nat.pow_add]
    exact Nat.mul_le_mul h2 h1
theorem thL_le {ws : List Nat} (W : okW ws) {r : Int} (hr : r ≤ 101) : ∀ {ts : List QT} {s : Int}, 0 ≤ s → wfL ws ts → ∀ q ∈ thL ws r ts s, q.2 ≤ 2 ^ (202 * (htL ts + 1))
  | [], s, _, _, q, h => by rw [thL] at h; cases h
  | t :: ts, s, s0, w, q, h => by
    rw [wfL] at w
    rw [thL, List.mem_append] at h
    rw [htL]
    rcases h with h | h
    · exact Nat.le_trans (th_le W hr s0 w.1 q h) (Nat.pow_le_pow_right (by omega) (by omega))
    · exact Nat.le_trans (thL_le W hr s0 w.2 q h) (Nat.pow_le_pow_right (by omega) (by omega))
end
theorem th_len {ws : List Nat} {t : QT} {r s : Int} : (t.th ws r s).length = t.tells.length := by rw [← th_tells (ws := ws) (r := r) (s := s), List.length_map]
theorem r_heads_by_tell {n : Nat} : ∀ ds M Q E, sp_heads_by_tell (n + 1) ds M Q E → t_heads_by_tell K A n (ends Q E) (dstart N_heads_by_tell ds) M := by
  rintro ds M Q E ⟨t, ws, s, r, rfl, W, w, hn, hnk, s0, s1, r0, r1, hn22, k⟩
  have sz := sl2
  unfold t_heads_by_tell N_heads_by_tell
  cases t with
  | tell v =>
    simp only [QT.toD]
    walk_at "dl"
    rw [QT.th] at k
    simp
    exact ⟨ws, s, r, rfl, W, s0, by omega, r0, by omega, by omega, fun p hp => dropQ_of (k p hp) .refl⟩
  | look p bs =>
    obtain ⟨p0, p1, hl, hw⟩ := look_wf w
    have w1 := wd_pos W p
    have hh : (QT.look p bs).ht = htL bs + 1 := by rw [QT.ht]
    rw [hh] at hn hn22
    have hk2 : (QT.look p bs).nk = 1 + nkL bs := by rw [QT.nk]
    have hkb : ∀ t ∈ bs, t.nk ≤ 1000 := fun t ht => by
      have : ∀ l : List QT, t ∈ l → t.nk ≤ nkL l := fun l => by
        induction l with
        | nil => intro h; cases h
        | cons a l ih =>
          intro h
          rw [nkL]
          rcases List.mem_cons.mp h with rfl | h
          · omega
          · have := ih h; omega
      have := this bs ht
      omega
    have tl : ∀ i, (thL ws r (bs.take i) (p + 1)).length ≤ 4 * 3001 := fun i => by
      have : ∀ l : List QT, (∀ t ∈ l, t.wf ws ∧ t.nk ≤ 1000) → (thL ws r l (p + 1)).length ≤ l.length * 3001 := fun l => by
        induction l with
        | nil => intro _; simp [thL]
        | cons a l ih =>
          intro h
          rw [thL, List.length_append, List.length_cons, Nat.succ_mul, th_len]
          have h1 := ih fun t ht => h t (List.mem_cons_of_mem _ ht)
          have h2 := tells_len W (h a (by simp)).1
          have h3 := (h a (by simp)).2
          omega
      have := this (bs.take i) fun t ht => ⟨hw t (List.mem_of_mem_take ht), hkb t (List.mem_of_mem_take ht)⟩
      have h2 : (bs.take i).length ≤ 4 := by rw [List.length_take]; omega
      omega
    let F : D × Nat → D := fun q => .int ((hbw ws s p * q.2 : Nat) : Int)
    simp only [QT.toD]
    walk_at "dl"
    simp [slG, cut_2, itemsOf, keepOf]
    refine ⟨ws, s, p, rfl, W, s0, by omega, p0, by omega, fun q hq => ?_⟩
    refine dLoop_inv (fun i τ M' => Sub M M' ∧ M' q = some (.lst ((thL ws r (bs.take i) (p + 1)).map F)) ∧ ∃ o o2, τ = [some (.tup (.str "look" :: .int p :: toDs bs)), some (wsD ws), some (.int s), some (.int r), some (.int ((hbw ws s p : Nat) : Int)), some (.ref q), o, o2]) (fun _ _ _ _ _ => trivial) ?_ ?_ ⟨Sub.refl.put hq, by rw [put_same]; rfl, none, none, rfl⟩
    · rintro i d τ M' nxt hd ⟨sM, hL, o, o2, rfl⟩ hnx
      rw [toDs_map, List.getElem?_map] at hd
      cases e : bs[i]? with
      | none => rw [e] at hd; cases hd
      | some u =>
        rw [e] at hd
        simp only [Option.map_some, Option.some.injEq] at hd
        subst hd
        have hm := List.mem_of_getElem? e
        have hht := htL_mem hm
        walk_at "dl"
        refine ⟨by rw [metL hL]; trivial, u, ws, p + 1, r, rfl, W, hw u hm, by omega, hkb u hm, by omega, by omega, r0, r1, by omega, fun x hx => ?_⟩
        have qx := ne_none hL hx
        simp only [itemsOf, keepOf, seqOf, put_same]
        have h2 := tells_len W (hw u hm)
        have h3 := hkb u hm
        have h4 : (u.th ws r (p + 1)).length ≤ 3001 := by rw [th_len]; omega
        have sx : Sub M' (put M' x (.lst ((u.th ws r (p + 1)).map fun q => D.int ((q.2 : Nat) : Int)))) := Sub.refl.put hx
        have hxx : (put M' x (.lst ((u.th ws r (p + 1)).map fun q => D.int ((q.2 : Nat) : Int)))) x = some (.lst ((u.th ws r (p + 1)).map fun q => D.int ((q.2 : Nat) : Int))) := put_same
        generalize put M' x (.lst ((u.th ws r (p + 1)).map fun q => D.int ((q.2 : Nat) : Int))) = M2 at *
        have hL2 := sx _ _ hL
        intro y hy
        have xy := ne_none hxx hy
        have qy := ne_none hL2 hy
        refine dCL_each (xs := u.th ws r (p + 1)) (fun q => D.int ((q.2 : Nat) : Int)) F rfl (by omega) (fun ys => by rw [put_ne xy, hxx]) (fun q hq ys k' h => ?_) ?_
        · simp only [wipeD]
          walk_at "dl"
          have b1 := th_le W r1 (s := p + 1) (by omega) (hw u hm) q hq
          have b2 := hbw_le W (s := s) (e := p) (by omega)
          have b3 : (2 : Nat) ^ (202 * (u.ht + 1)) ≤ 2 ^ 5000 := Nat.pow_le_pow_right (by omega) (by omega)
          have b4 : (2 : Nat) ^ 202 < 2 ^ 6000 := Nat.pow_lt_pow_right (by omega) (by omega)
          have b5 : (2 : Nat) ^ 5000 < 2 ^ 6000 := Nat.pow_lt_pow_right (by omega) (by omega)
          refine ⟨mulx_ok (a := 6000) (b := 6000) (by rw [Int.natAbs_natCast]; exact Nat.lt_of_le_of_lt b2 b4) (by rw [Int.natAbs_natCast]; exact Nat.lt_of_le_of_lt (Nat.le_trans b1 b3) b5) (by decide), ?_⟩
          rw [cast_mul]
          exact h
        · have g1 : (put M2 y (.lst ((u.th ws r (p + 1)).map F))) q = some (.lst ((thL ws r (bs.take i) (p + 1)).map F)) := by rw [put_ne qy]; exact hL2
          have g2 : (put M2 y (.lst ((u.th ws r (p + 1)).map F))) y = some (.lst ((u.th ws r (p + 1)).map F)) := put_same
          have h1 := tl i
          simp only [extL_at g1 g2]
          refine ⟨by simp; omega, hnx _ _ ⟨sub_new ((sM.trans sx).put hy) hq, ?_, _, _, rfl⟩⟩
          rw [put_same, List.take_add_one, e, Option.toList_some]
          have : ∀ (a : List QT) (b : QT), thL ws r (a ++ [b]) (p + 1) = thL ws r a (p + 1) ++ b.th ws r (p + 1) := fun a b => by
            induction a with
            | nil => simp [thL]
            | cons x a ih => rw [List.cons_append, thL, thL, ih, List.append_assoc]
          rw [this, List.map_append]
    · rintro τ M' ⟨sM, hL, o, o2, rfl⟩
      rw [toDs_len, List.take_length] at hL
      walk_at "dl"
      rw [QT.th, List.map_map] at k
      refine ⟨put M q (.lst ((thL ws r bs (p + 1)).map F)), ?_, k q hq⟩
      intro z u hz
      by_cases c : z = q
      · subst c; rw [put_same] at hz; rw [hL]; exact hz
      · rw [put_ne c] at hz; exact sM _ _ hz
end K58

set_option maxHeartbeats 4000000
namespace K58
open PySem L2 DL DQ
local macro_rules | `(tactic| walk_at "dl") => `(tactic| simp only [dSeq, dIfS, dB, dTru, truD, dOp, dVar, dC, dAsg, dAug, dCB, dCons, dNil, dRet, dRetN, dName, dGSub, dNext, ends, exOf, dstart, slot, oI0, oI, dAnd, dOr, dNot, dAndV, dOrV, dNotV, dNeg, dSl, dNoP, dPart, dFld, dFldS, dRaise, dLst, dTup, dFor, dIter, dRng1, dRng2, dCall, dMake, dMeth, dIxO, dLc, dYes, dGTup, dGCons, dGNil, dDrop, dBreak, dBM, dDIn, dNever, dChain, dRngD, dZip, dRaiseI, dLstRg, dDGet, dDGet2, dDNew, dGSubD, dDStar, dSortSet, dAugS, dDc, dIterX, dBX,
  eqD_str, neD_str, eqD_int, neD_int, ixG_t0, ixG_t1, isiG_str, isi_int, isi_int_s, isi_int_t, isi_tup, isi_tup_s, isi_tup_i, isi_str_i, isi_str_t, lenG_tup, addD_int, mulD_int, intG, List.nil_append, bne_iff_ne, ofS_inj, Bool.false_bne, Bool.true_bne,
  List.map, List.length_cons, List.length_nil, List.cons_append, List.append_nil, List.replicate, List.set, List.getElem?_cons_zero, List.getElem?_cons_succ, Option.join_some, Option.bind_some, decide_eq_true_eq])
local macro_rules | `(tactic| walk_at "so") => `(tactic| first | omega | (simp; done) | (simp; omega))
variable {K : PySem.W.Frag} {A : Adr} {w : World} {mg : Str → Option Value}
theorem ddA_nodup {l : List D} : ∀ {b : List D}, b.Nodup → (ddA b l).Nodup := by
  induction l with
  | nil => intro b h; exact h
  | cons x l ih =>
    intro b h
    rw [ddA]
    split
    · exact ih h
    · rename_i hx
      refine ih ?_
      rw [List.nodup_append]
      exact ⟨h, by simp, fun a ha z hz e => by rw [List.mem_singleton.mp hz] at e; exact hx (e ▸ ha)⟩
theorem dd_nodup (l : List D) : (dd l).Nodup := ddA_nodup List.nodup_nil
theorem dd_ok {l : List D} (h : ∀ v ∈ l, okV v) : ∀ v ∈ dd l, okV v := ddA_ok h fun _ h => nomatch h
/-- the place of a value among the different ones -/
theorem dd_place {l : List D} {v : D} (h : v ∈ l) (hok : ∀ v ∈ l, okV v) : ∃ j : Nat, (dd l)[j]? = some v ∧ ∀ (m : Nat) (z : D), m < j → (dd l)[m]? = some z → eqb z v = false := by
  obtain ⟨j, hj⟩ := List.getElem?_of_mem (mem_dd.mpr h)
  refine ⟨j, hj, fun m z hm hz => ?_⟩
  have hzk := dd_ok hok z (List.mem_of_getElem? hz)
  rw [Bool.eq_false_iff]
  intro e
  have e2 := (eqb_iff hzk.1 (hok v h).1).mp e
  subst e2
  have h1 := (List.getElem?_eq_some_iff.mp hz)
  have h2 := (List.getElem?_eq_some_iff.mp hj)
  exact List.pairwise_iff_getElem.mp (dd_nodup l) m j h1.1 h2.1 hm (by rw [h1.2, h2.2])
theorem sumV_snoc {l : List (D × Nat)} {u v : D} {h : Nat} : sumV (l ++ [(u, h)]) v = sumV l v + (open Classical in if u = v then h else 0) := by
  rw [sumV_app]
  congr 1
theorem counts_set {vs : List D} {th : List (D × Nat)} {u : D} {h j : Nat} (nd : vs.Nodup) (hj : vs[j]? = some u) :
    (vs.map fun v => D.int ((sumV th v : Nat) : Int)).set j (.int (((sumV th u : Nat) : Int) + ((h : Nat) : Int))) = vs.map fun v => D.int ((sumV (th ++ [(u, h)]) v : Nat) : Int) := by
  apply List.ext_getElem?
  intro m
  by_cases c : j = m
  · subst c
    have hl := (List.getElem?_eq_some_iff.mp hj).1
    rw [List.getElem?_set_self (by simpa using hl), List.getElem?_map, hj]
    simp only [Option.map_some, sumV_snoc, if_pos]
    congr 2
  · rw [List.getElem?_set_ne c, List.getElem?_map, List.getElem?_map]
    cases e : vs[m]? with
    | none => rfl
    | some v =>
      have : u ≠ v := by
        rintro rfl
        have h1 := List.getElem?_eq_some_iff.mp e
        have h2 := List.getElem?_eq_some_iff.mp hj
        rcases Nat.lt_or_gt_of_ne c with q | q
        · exact List.pairwise_iff_getElem.mp nd j m h2.1 h1.1 q (by rw [h1.2, h2.2])
        · exact List.pairwise_iff_getElem.mp nd m j h1.1 h2.1 q (by rw [h1.2, h2.2])
      simp only [Option.map_some, sumV_snoc, if_neg this, Nat.add_zero]
theorem lastP_range {P : List Int} (h : ∀ p ∈ P, 0 ≤ p ∧ p < 100) : 0 ≤ lastP P ∧ lastP P ≤ 100 := by
  unfold lastP
  cases e : P.getLast? with
  | none => simp
  | some p =>
    have := h p (List.mem_of_getLast? e)
    simp only
    omega
theorem pairs_at : ∀ {xs ys : List D} {i : Nat} {d : D}, (pairsD xs ys)[i]? = some d → ∃ x y, xs[i]? = some x ∧ ys[i]? = some y ∧ d = .tup [x, y]
  | [], ys, i, d, h => by simp [pairsD] at h
  | x :: xs, [], i, d, h => by simp [pairsD] at h
  | x :: xs, y :: ys, 0, d, h => by
    simp [pairsD] at h
    exact ⟨x, y, rfl, rfl, h.symm⟩
  | x :: xs, y :: ys, i + 1, d, h => by
    rw [pairsD, List.getElem?_cons_succ] at h
    simpa using pairs_at h
theorem r_count_heads (T : Txt w K mg A) : ∀ ds M Q E, sp_count_heads A.Query ds M Q E → t_count_heads K A (ends Q E) (dstart N_count_heads ds) M := by
  rintro ds M Q E ⟨a, t, ws, rfl, ha, g, k⟩
  have sz := sl2
  have W := g.W
  have gs := setQ_good W g
  have ess := setQ_set W t
  have tl := tells_len W gs.wf
  have hnk := gs.nk
  have hht := gs.ht
  have hok := tells_ok gs.wf
  have hlen : (dd (setQ ws t).tells).length ≤ (setQ ws t).tells.length := by have := ddA_len (acc := []) (l := (setQ ws t).tells); simpa [dd] using this
  unfold QueryAt at ha
  unfold countsD at k
  unfold t_count_heads N_count_heads
  simp only [dstart, List.map, List.length_cons, List.length_nil, List.replicate, List.cons_append, List.nil_append]
  refine seq_split (fun τ M' => ∃ x, QueryAt A.Query M' x (setQ ws t) ws ∧ Sub M M' ∧ τ = [some (.ref a), some (.ref x), none, none, none, none, none, none]) ?_ ?_
  rotate_left
  · intro nx hnx
    walk_at "dl"
    exact ⟨a, t, ws, rfl, ha, g, fun x M' hx hq s => hnx _ _ ⟨x, hq, s, rfl⟩⟩
  rintro τ M1 ⟨x, hq, s1, rfl⟩
  have hq' := hq
  unfold QueryAt at hq
  refine seq_split (fun τ M' => ∃ v, M' v = some (.xt (dd (setQ ws t).tells)) ∧ Sub M1 M' ∧ τ = [some (.ref a), some (.ref x), some (.ref v), none, none, none, none, none]) ?_ ?_
  rotate_left
  · intro nx hnx
    walk_at "dl"
    refine ⟨x, setQ ws t, ws, rfl, hq', gs, ?_⟩
    rw [ess]
    exact .inr fun v M' hv hv2 s => hnx _ _ ⟨v, hv2, s, rfl⟩
  rintro τ M2 ⟨v, hv, s2, rfl⟩
  refine seq_split (fun τ M' => ∃ c, M2 c = none ∧ M' = put M2 c (.lst ((dd (setQ ws t).tells).map fun v => D.int ((sumV [] v : Nat) : Int))) ∧ τ = [some (.ref a), some (.ref x), some (.ref v), some (.ref c), none, none, none, none]) ?_ ?_
  rotate_left
  · intro nx hnx
    walk_at "dl"
    simp only [xtOf, hv]
    intro c hc
    refine dCL_each (xs := dd (setQ ws t).tells) id (fun v => D.int ((sumV [] v : Nat) : Int)) (by simp) (by omega) (fun _ => trivial) (fun u hu ys k' h => ?_) (hnx _ _ ⟨c, hc, rfl, rfl⟩)
    walk_at "dl"
    exact h
  rintro τ M3 ⟨c, hc, rfl, rfl⟩
  have hvc : v ≠ c := ne_none hv hc
  have s3 : Sub M2 (put M2 c (.lst ((dd (setQ ws t).tells).map fun v => D.int ((sumV [] v : Nat) : Int)))) := Sub.refl.put hc
  have m3c : (put M2 c (.lst ((dd (setQ ws t).tells).map fun v => D.int ((sumV [] v : Nat) : Int)))) c = some (.lst ((dd (setQ ws t).tells).map fun v => D.int ((sumV [] v : Nat) : Int))) := put_same
  generalize put M2 c (.lst ((dd (setQ ws t).tells).map fun v => D.int ((sumV [] v : Nat) : Int))) = M3 at *
  have ha3 := s3 _ _ (s2 _ _ (s1 _ _ ha))
  have hq3 := s3 _ _ (s2 _ _ hq)
  have hv3 := s3 _ _ hv
  have hr := lastP_range (named_range gs.wf)
  let TH := (setQ ws t).th ws (lastP (setQ ws t).named) 0
  have thl : TH.length = (setQ ws t).tells.length := th_len
  refine seq_split (fun τ M' => ∃ e, M3 e = none ∧ M' = put M3 e (.lst (TH.map fun q => D.int ((q.2 : Nat) : Int))) ∧ τ = [some (.ref a), some (.ref x), some (.ref v), some (.ref c), some (.ref e), none, none, none]) ?_ ?_
  rotate_left
  · intro nx hnx
    walk_at "dl"
    simp only [hq3, qF_term, ha3, qF_widths]
    refine ⟨T.d_Query_term, T.d_Query_widths, x, setQ ws t, ws, rfl, s3 _ _ (s2 _ _ hq'), gs, ?_⟩
    rw [ess]
    exact ⟨setQ ws t, ws, 0, _, rfl, W, gs.wf, by omega, by omega, by omega, by omega, hr.1, by omega, by omega, fun e he => hnx _ _ ⟨e, he, rfl, rfl⟩⟩
  rintro τ M4 ⟨e, he, rfl, rfl⟩
  have hce : c ≠ e := ne_none m3c he
  have s4 : Sub M3 (put M3 e (.lst (TH.map fun q => D.int ((q.2 : Nat) : Int)))) := Sub.refl.put he
  have m4e : (put M3 e (.lst (TH.map fun q => D.int ((q.2 : Nat) : Int)))) e = some (.lst (TH.map fun q => D.int ((q.2 : Nat) : Int))) := put_same
  generalize put M3 e (.lst (TH.map fun q => D.int ((q.2 : Nat) : Int))) = M4 at *
  have m4c := s4 _ _ m3c
  have hq4 := s4 _ _ hq3
  have hv4 := s4 _ _ hv3
  refine seq_split (fun τ M' => Sub M M' ∧ M' c = some (.lst ((dd (setQ ws t).tells).map fun v => D.int ((sumV TH v : Nat) : Int))) ∧ ∃ o5 o6 o7, τ = [some (.ref a), some (.ref x), some (.ref v), some (.ref c), some (.ref e), o5, o6, o7]) ?_ ?_
  rotate_left
  · intro nx hnx
    walk_at "dl"
    simp only [hq4, qF_term]
    refine ⟨T.d_Query_term, setQ ws t, ws, rfl, W, gs.wf, by omega, by omega, fun f hf => ?_⟩
    have hcf : c ≠ f := ne_none m4c hf
    have hef : e ≠ f := ne_none m4e hf
    have hvf : v ≠ f := ne_none hv4 hf
    simp only [seqOf, put_same, put_ne hef, m4e]
    refine ⟨by omega, ?_⟩
    have cN : M2 c = none := hc
    refine dLoop_inv (fun i τ M' => Sub M M' ∧ M' f = some (.lst (setQ ws t).tells) ∧ M' e = some (.lst (TH.map fun q => D.int ((q.2 : Nat) : Int))) ∧ M' v = some (.xt (dd (setQ ws t).tells)) ∧ M' c = some (.lst ((dd (setQ ws t).tells).map fun v => D.int ((sumV (TH.take i) v : Nat) : Int))) ∧ ∃ o5 o6 o7, τ = [some (.ref a), some (.ref x), some (.ref v), some (.ref c), some (.ref e), o5, o6, o7]) (fun i τ M' _ h => by rw [h.2.1, h.2.2.1]; exact ⟨rfl, rfl⟩) ?_ ?_
      ⟨(((s1.trans s2).trans s3).trans s4).put hf, put_same, by rw [put_ne hef]; exact m4e, by rw [put_ne hvf]; exact hv4, by rw [put_ne hcf]; exact m4c, none, none, none, rfl⟩
    · rintro i d τ M' nxt hd ⟨s, hF, hE, hV, hC, o5, o6, o7, rfl⟩ hnx'
      obtain ⟨u, y, hu, hy, rfl⟩ := pairs_at hd
      rw [List.getElem?_map] at hy
      cases eq : TH[i]? with
      | none => rw [eq] at hy; cases hy
      | some q =>
        rw [eq] at hy
        simp only [Option.map_some, Option.some.injEq] at hy
        subst hy
        have hqu : q.1 = u := by
          have h1 : (TH.map (·.1))[i]? = some q.1 := by rw [List.getElem?_map, eq]; rfl
          have h2 : TH.map (·.1) = (setQ ws t).tells := th_tells
          rw [h2, hu] at h1
          exact (Option.some.inj h1).symm
        have huv := hok u (List.mem_of_getElem? hu)
        obtain ⟨j, hj, hfirst⟩ := dd_place (List.mem_of_getElem? hu) hok
        have hjl := (List.getElem?_eq_some_iff.mp hj).1
        have ho := dd_ok hok
        have hdl : depL (dd (setQ ws t).tells) ≤ 60 := depL_le fun v hv => (ho v hv).2
        walk_at "dl"
        simp only [xtOf, hV, indexTD]
        refine ⟨trivial, ⟨_, rfl⟩, pv_ok huv.1, pvL_ok (pvL_mem.mpr fun v hv => (ho v hv).1), by have := huv.2; omega, by omega, j, u, hj, (eqb_iff huv.1 huv.1).mpr rfl, hfirst, ?_⟩
        have hold : ((dd (setQ ws t).tells).map fun v => D.int ((sumV (TH.take i) v : Nat) : Int))[j]? = some (.int ((sumV (TH.take i) u : Nat) : Int)) := by rw [List.getElem?_map, hj]; rfl
        simp only [hC, Int.toNat_natCast, hold]
        refine ⟨by omega, ?_⟩
        have ix : ixN ((dd (setQ ws t).tells).map fun v => D.int ((sumV (TH.take i) v : Nat) : Int)).length ((j : Nat) : Int) = some j := by rw [ixN_in (by omega) (by simp; omega)]; simp
        simp only [ix]
        have nd := dd_nodup (setQ ws t).tells
        rw [counts_set nd hj]
        have ncf : f ≠ c := Ne.symm hcf
        have nce : e ≠ c := Ne.symm hce
        refine hnx' _ _ ⟨sub_new s ((s1.trans s2).none cN), by rw [put_ne ncf]; exact hF, by rw [put_ne nce]; exact hE, by rw [put_ne hvc]; exact hV, ?_, _, _, _, rfl⟩
        rw [put_same, List.take_add_one, eq, Option.toList_some, ← hqu]
    · rintro τ M' ⟨s, hF, hE, hV, hC, ho⟩
      refine hnx _ _ ⟨s, ?_, ho⟩
      rw [hC]
      have : (pairsD (setQ ws t).tells (TH.map fun q => D.int ((q.2 : Nat) : Int))).length = TH.length := by rw [pairsD_len, List.length_map]; omega
      rw [this, List.take_length]
  rintro τ M5 ⟨s5, hC, o5, o6, o7, rfl⟩
  walk_at "dl"
  rw [tup_at hC]
  exact dropQ_of k s5
end K58

set_option maxHeartbeats 4000000
namespace K58
open PySem L2 DL DQ
local macro_rules | `(tactic| walk_at "dl") => `(tactic| simp only [dSeq, dIfS, dB, dTru, truD, dOp, dVar, dC, dAsg, dAug, dCB, dCons, dNil, dRet, dRetN, dName, dGSub, dNext, ends, exOf, dstart, slot, oI0, oI, dAnd, dOr, dNot, dAndV, dOrV, dNotV, dNeg, dSl, dNoP, dPart, dFld, dFldS, dRaise, dLst, dTup, dFor, dIter, dRng1, dRng2, dCall, dMake, dMeth, dIxO, dLc, dYes, dGTup, dGCons, dGNil,
  lenG_T, addD_T, addD_int, mulD_int, lstG_T, mulD_T, eqD_T, eqD_int, neD_int, itemsOf_T, keepOf_T, tup_T, tup_T1, tupG_T, intG, List.nil_append, bne_iff_ne,
  List.map, List.length_cons, List.length_nil, List.cons_append, List.append_nil, List.replicate, List.set, List.getElem?_cons_zero, List.getElem?_cons_succ, Option.join_some, Option.bind_some, decide_eq_true_eq])
local macro_rules | `(tactic| walk_at "wp") => `(tactic| simp only [dSeq, dIfS, dB, dOp, dVar, dC, dAsg, dCB, dCons, dNil, dRet, dName, dGSub, dNext, ends, exOf, dstart, slot, oI0, oI, ixG, seqOf, atI, ixN, addD, mulD, intG, lenG, lenD, lstG, tupG, dLst, dTup, dFor, dRng1, dLoop,
  List.map, List.length_cons, List.length_nil, List.append, List.cons_append, List.nil_append, List.replicate, List.set, List.getElem?_cons_zero, List.getElem?_cons_succ, Option.join_some, Option.bind_some, decide_eq_true_eq])
variable {K : PySem.W.Frag} {A : Adr}
theorem cm1 {i : Int} (h : 0 ≤ i) (h2 : i < 4294967299) : CMulX i 48271 := mulx_ok (a := 33) (b := 16) (by omega) (by decide) (by decide)
theorem cm2 {i : Int} (h : 0 ≤ i) (h2 : i < 4294967299) : CMulX i 69621 := mulx_ok (a := 33) (b := 17) (by omega) (by decide) (by decide)
theorem r_law_pick : ∀ ds M Q E, sp_law_pick ds M Q E → t_law_pick K A (ends Q E) (dstart N_law_pick ds) M := by
  rintro ds M Q E ⟨s, l, ns, limit, rfl, ⟨hsl, hl, seed, pos, rest, hs, h1, h2, h3, h4, h5⟩, hlim, hlog, k⟩
  have hls : l ≠ s := Ne.symm hsl
  have fin : ∀ (M' : Mp) (i : Int) (seed pos rest : Int), M' = put M s (.lst [.int seed, .ref l, .int pos, .int rest]) → 0 ≤ seed → seed < 2147483647 → 0 ≤ pos → pos ≤ ns.length → 0 ≤ rest → dropQ Q (.int (i % limit)) M' := by
    rintro M' i seed pos rest rfl h1 h2 h3 h4 h5
    exact dropQ_of (k _ _ (Int.emod_nonneg _ (by omega)) (Int.emod_lt_of_pos _ hlim) (PSt.mk hsl hl h1 h2 h3 h4 h5)) .refl
  unfold t_law_pick N_law_pick
  walk_at "wp"
  have e10 : CPow 10 18 := by unfold CPow; decide
  have tail : ∀ (z : Int) (pos : Int), 0 ≤ pos → pos ≤ ns.length → CMulX (seed + z % 2147483647 + 1) 48271 ∧ CMulX ((seed + z % 2147483647 + 1) * 48271 % 2147483647) 69621 ∧ CDivW (((seed + z % 2147483647 + 1) * 48271 % 2147483647 * 69621 + 12345) % 2147483647) 7 ∧ 0 < limit ∧
      dropQ Q (.int (((seed + z % 2147483647 + 1) * 48271 % 2147483647 * 69621 + 12345) % 2147483647 / 7 % limit)) (put M s (.lst [.int (((seed + z % 2147483647 + 1) * 48271 % 2147483647 * 69621 + 12345) % 2147483647), .ref l, .int pos, .int rest])) := by
    intro z pos h3 h4
    refine ⟨cm1 (by omega) (by omega), cm2 (by omega) (by omega), ⟨by decide, by decide⟩, hlim, ?_⟩
    exact fin _ _ _ _ _ rfl (by omega) (by omega) h3 h4 h5
  by_cases c : limit ≤ rest
  · simp [hs, put_same, c]
    exact ⟨⟨hlim, hlog⟩, hlim, fin _ _ _ _ _ rfl h1 h2 h3 h4 (Int.ediv_nonneg h5 (by omega))⟩
  · by_cases c2 : pos < ns.length
    · have c3 : pos.toNat < ns.length := by omega
      simp [hs, hl, put_same, put_ne hls, put_put, c, c2, h3, List.getElem?_eq_getElem c3, e10]
      split
      · split
        · exact ⟨⟨hlim, hlog⟩, hlim, fin _ _ _ _ _ rfl h1 h2 (by omega) (by omega) (Int.ediv_nonneg (by omega) (by omega))⟩
        · exact tail _ _ (by omega) (by omega)
      · split
        · exact ⟨⟨hlim, hlog⟩, hlim, fin _ _ _ _ _ rfl h1 h2 (by omega) (by omega) (Int.ediv_nonneg (by omega) (by omega))⟩
        · exact tail _ _ (by omega) (by omega)
    · simp [hs, hl, put_same, put_ne hls, put_put, c, c2, e10]
      exact tail 11 _ (by omega) (by omega)
variable {mg : Str → Option Value}
theorem r_law_start : ∀ ds M Q E, sp_law_start1 ds M Q E → t_law_start K A (ends Q E) (dstart N_law_start ds) M := by
  rintro ds M Q E ⟨a, ns, rfl, hM, hl, k⟩
  have hs := seqOf_rol hM
  unfold t_law_start N_law_start
  walk_at "dl"
  rw [lenG_ref hs, List.length_map]
  simp only
  refine ⟨by omega, by omega, ?_⟩
  refine dLoop_inv (fun i τ M' => M' = M ∧ ∃ (seed : Int) (o : Option D), τ = [some (.ref a), some (.int seed), o] ∧ 0 ≤ seed ∧ seed < 2147483647) (fun _ _ _ _ _ => trivial) ?_ ?_ ⟨rfl, 7, _, rfl, by omega, by omega⟩
  · rintro i d τ M nxt hd ⟨rfl, seed, o, rfl, h1, h2⟩ hnx
    obtain ⟨hi, rfl⟩ := rng_at hd
    walk_at "dl"
    refine ⟨cm1 h1 (by omega), ?_⟩
    rw [ixG_ref hs (by omega) (by omega)]
    walk_at "dl"
    refine ⟨by omega, by omega, hnx _ _ ⟨rfl, _, _, rfl, by omega, by omega⟩⟩
  · rintro τ M ⟨rfl, seed, o, rfl, h1, h2⟩
    walk_at "dl"
    simp only [lstG, hs]
    intro l hl0
    refine ⟨by rw [sizeLine_eq]; omega, fun s hs0 => ?_⟩
    have nsl : s ≠ l := by rintro rfl; rw [put_same] at hs0; cases hs0
    refine dropQ_of (k s l _ ?_ ((sub_put hl0).put hs0)) .refl
    exact PSt.mk nsl put_same h1 h2 (by omega) (by omega) (by omega)
theorem r_law_startK : ∀ ds M Q E, sp_law_start2 K ds M Q E → t_law_startK K A (ends Q E) (dstart N_law_start ds) M := by
  rintro ds M Q E ⟨a, ns, rfl, hM, hl, k⟩
  unfold t_law_startK N_law_start
  walk_at "dl"
  refine ⟨ns, hM, by omega, by omega, ?_⟩
  refine dLoop_inv (fun i τ M' => M' = M ∧ ∃ (seed : Int) (o : Option D), τ = [some (.ref a), some (.int seed), o] ∧ 0 ≤ seed ∧ seed < 2147483647) (fun _ _ _ _ _ => trivial) ?_ ?_ ⟨rfl, 7, _, rfl, by omega, by omega⟩
  · rintro i d τ M nxt hd ⟨rfl, seed, o, rfl, h1, h2⟩ hnx
    obtain ⟨hi, rfl⟩ := rng_at hd
    walk_at "dl"
    refine ⟨cm1 h1 (by omega), ?_⟩
    refine ⟨ns, hM, by omega, by omega, ?_⟩
    walk_at "dl"
    refine ⟨by omega, by omega, hnx _ _ ⟨rfl, _, _, rfl, by omega, by omega⟩⟩
  · rintro τ M ⟨rfl, seed, o, rfl, h1, h2⟩
    walk_at "dl"
    refine ⟨ns, hM, fun l hl0 => ?_⟩
    refine ⟨by rw [sizeLine_eq]; omega, fun s hs0 => ?_⟩
    have nsl : s ≠ l := by rintro rfl; rw [put_same] at hs0; cases hs0
    refine dropQ_of (k s l _ ?_ ((sub_put hl0).put hs0)) .refl
    exact PSt.mk nsl put_same h1 h2 (by omega) (by omega) (by omega)
theorem okS_T {n : Nat} {xs : List Int} (h : xs.length ≤ 100000) : okS (n + 1) (T xs) := by
  unfold T
  rw [okS]
  refine ⟨n, rfl, by simpa using h, fun x hx => ?_⟩
  obtain ⟨i, _, rfl⟩ := List.mem_map.mp hx
  simp [okS, ok]
theorem r_law_same {n : Nat} : ∀ ds M Q E, sp_law_same (n + 1) ds M Q E → t_law_same K A n (ends Q E) (dstart N_law_same ds) M := by
  rintro ds M Q E ⟨d, rfl, hd, k⟩
  unfold t_law_same N_law_same
  have t1 : isB "tuple" "tuple" = true := by decide
  cases d with
  | tup xs =>
    rw [okS] at hd
    obtain ⟨m, rfl, hl, hx⟩ := hd
    walk_at "dl"
    simp only [isiG, tyName, t1, List.mem_cons, true_or, or_true, true_and, if_true, lenG, lenD, neD_int, Bool.not_true, Bool.false_eq_true, if_false, decide_true]
    refine ⟨by omega, by omega, fun p hp => ?_⟩
    refine dCL_inv (fun j M' => M' = put M p (.lst (((List.range j).map fun _ => true).map D.bl))) (fun _ _ _ _ => trivial) ?_ ?_ rfl
    · rintro j d M' nxt hd rfl hnx
      obtain ⟨hj, rfl⟩ := rng_at hd
      simp only [wipeD]
      walk_at "dl"
      have e1 : atI xs (j : Int) = some (xs[j]'(by omega)) := atI_nat (List.getElem?_eq_getElem _)
      simp only [ixG, e1, if_true]
      refine ⟨_, rfl, hx _ (List.getElem_mem _), ?_⟩
      simp only [put_same]
      refine ⟨by rw [List.length_map, List.length_map, List.length_range, sizeLine_eq]; omega, hnx _ ?_⟩
      rw [put_put, List.range_succ, List.map_append, List.map_append]
      rfl
    · rintro M' rfl
      unfold allG
      simp only [seqOf, put_same, Option.bind_some, blsOf_range]
      have e : ((List.range ((List.range xs.length).map fun i => D.int (i : Nat)).length).map fun _ => true).all id = true := by simp
      simp only [Int.toNat_natCast]
      rw [e]
      exact dropQ_of k (sub_put hp)
  | non =>
    walk_at "dl"
    simp [isiG, tyName, isB, isG, isNone]
    exact dropQ_of k .refl
  | bl b =>
    walk_at "dl"
    simp [isiG, tyName, isB, isG, isNone, eqD, eqG, eqOk, ok, dep, eqb]
    exact dropQ_of k .refl
  | int b =>
    walk_at "dl"
    simp [isiG, tyName, isB, isG, isNone]
    exact dropQ_of k .refl
  | str b =>
    walk_at "dl"
    simp [isiG, tyName, isB, isG, isNone, eqD, eqG]
    exact dropQ_of k .refl
  | ref b => simp [okS] at hd
  | ty b => simp [okS] at hd
end K58


set_option maxHeartbeats 4000000
namespace K58
open PySem L2 DL DQ
local macro_rules | `(tactic| walk_at "dl") => `(tactic| simp only [dSeq, dIfS, dB, dTru, truD, dOp, dVar, dC, dAsg, dAug, dCB, dCons, dNil, dRet, dRetN, dName, dGSub, dNext, ends, exOf, dstart, slot, oI0, oI, dAnd, dOr, dNot, dAndV, dOrV, dNotV, dNeg, dSl, dNoP, dPart, dFld, dFldS, dRaise, dLst, dTup, dFor, dIter, dRng1, dRng2, dCall, dMake, dMeth, dIxO, dLc, dYes, dGTup, dGCons, dGNil, dDrop, dBreak, dBM, dDIn, dNever, dChain, dRngD, dZip, dRaiseI, dLstRg, dDGet, dDGet2, dDNew, dGSubD, dDStar, dSortSet, dAugS, dDc, dIterX, dBX,
  eqD_str, neD_str, eqD_int, neD_int, ixG_t0, ixG_t1, isiG_str, isi_int, isi_int_s, isi_int_t, isi_tup, isi_tup_s, isi_tup_i, isi_str_i, isi_str_t, lenG_tup, addD_int, mulD_int, intG, List.nil_append, bne_iff_ne, ofS_inj, Bool.false_bne, Bool.true_bne,
  List.map, List.length_cons, List.length_nil, List.cons_append, List.append_nil, List.replicate, List.set, List.getElem?_cons_zero, List.getElem?_cons_succ, Option.join_some, Option.bind_some, decide_eq_true_eq])
local macro_rules | `(tactic| walk_at "so") => `(tactic| first | omega | (simp; done) | (simp; omega))
variable {K : PySem.W.Frag} {A : Adr} {w : World} {mg : Str → Option Value}
theorem r_law_width : ∀ ds M Q E, sp_law_width ds M Q E → t_law_width K A (ends Q E) (dstart N_law_width ds) M := by
  rintro ds M Q E ⟨ws, p, rfl, W, k⟩
  have h1 := W.1
  unfold t_law_width N_law_width
  walk_at "dl"
  unfold wsD
  simp only [lenG_tup, len_wsD]
  refine ⟨by omega, ?_⟩
  have := ix_ws W (p := p) (M := M) (Q := dropQ Q)
  unfold wsD at this
  rw [this]
  exact dropQ_of k .refl
theorem r_law_widths : ∀ ds M Q E, sp_law_widths ds M Q E → t_law_widths K A (ends Q E) (dstart N_law_widths ds) M := by
  rintro ds M Q E ⟨s, l, ns, rfl, P, k⟩
  have sz := sl2
  have J := LS.zero (S := Is s) P rfl
  unfold t_law_widths N_law_widths
  simp only [dstart, List.map, List.length_cons, List.length_nil, List.replicate, List.cons_append, List.nil_append]
  refine seq_split (fun τ M' => LS (Is s) M M' s l ns ∧ ∃ top : Int, 2 ≤ top ∧ top ≤ 4 ∧ τ = [some (.ref s), some (.int top), none, none]) ?_ ?_
  rotate_left
  · intro nx hnx
    walk_at "dl"
    exact J.pick (by decide) (by decide) fun r M' r0 r1 J' e => hnx _ _ ⟨J', 2 + r, by omega, by omega, rfl⟩
  rintro τ M1 ⟨J1, top, t0, t1, rfl⟩
  refine seq_split (fun τ M' => LS (Is s) M M' s l ns ∧ ∃ m : Nat, 1 ≤ m ∧ m ≤ 6 ∧ τ = [some (.ref s), some (.int top), some (.int ((m : Nat) : Int)), none]) ?_ ?_
  rotate_left
  · intro nx hnx
    walk_at "dl"
    refine ⟨by omega, ?_⟩
    refine J1.chooseP (vs := [.int 2, .int 3, .int 6]) rfl (by decide) (by decide) fun q v M2 hv J2 e2 => ?_
    simp only [List.mem_cons, List.not_mem_nil, or_false] at hv
    have fin : ∀ L : Int, 2 ≤ L → L ≤ 6 → spPick [.ref s, .int L] M2 (fun y M3 => addD (.int 1) y M3 fun d M4 => nx [some (.ref s), some (.int top), some d, none] M4) (exOf { nx := nx, rt := dropQ Q, bk := fun x M => dropQ Q .non M, ct := nx, ex := fun x x_1 M => dropE E x M } [some (.ref s), some (.int top), none, none]) := fun L l0 l1 => by
      refine J2.pick (by omega) (log_small (by omega)) fun r M3 r0 r1 J3 e3 => ?_
      simp only [addD_int]
      exact hnx _ _ ⟨J3, (1 + r).toNat, by omega, by omega, by rw [Int.toNat_of_nonneg (by omega)]⟩
    rcases hv with rfl | rfl | rfl
    · exact fin 2 (by omega) (by omega)
    · exact fin 3 (by omega) (by omega)
    · exact fin 6 (by omega) (by omega)
  rintro τ M2 ⟨J2, m, m0, m1, rfl⟩
  walk_at "dl"
  refine ⟨by omega, by omega, fun p hp => ?_⟩
  refine dCL_draws (fun w : Nat => D.int ((w : Nat) : Int)) (fun w => 1 ≤ w ∧ w ≤ 4) (J2.new hp) (.new J2 hp) (by simp; omega) (fun _ _ _ => trivial) (fun i d M' k' hd J' e' hk => ?_) fun xs M' hx hG J' e' O' => ?_
  · obtain ⟨hi, rfl⟩ := rng_at hd
    simp only [wipeD]
    walk_at "dl"
    refine J'.pick (by omega) (log_small (by omega)) fun r M3 r0 r1 J3 e3 => ?_
    have : (1 : Int) + r = (((1 + r).toNat : Nat) : Int) := by rw [Int.toNat_of_nonneg (by omega)]
    simp only [addD_int]
    rw [this]
    exact hk _ _ ⟨by omega, by omega⟩ J3 e3
  · rw [tup_at O'.a]
    rw [len_rng] at hx
    have W : okW xs := ⟨by omega, by omega, hG⟩
    exact dropQ_of (k xs W M' J'.P J'.X) .refl
end K58

set_option maxHeartbeats 4000000
namespace K58
open PySem L2 DL DQ
local macro_rules | `(tactic| walk_at "dl") => `(tactic| simp only [dSeq, dIfS, dB, dTru, truD, dOp, dVar, dC, dAsg, dAug, dCB, dCons, dNil, dRet, dRetN, dName, dGSub, dNext, ends, exOf, dstart, slot, oI0, oI, dAnd, dOr, dNot, dAndV, dOrV, dNotV, dNeg, dSl, dNoP, dPart, dFld, dFldS, dRaise, dLst, dTup, dFor, dIter, dRng1, dRng2, dCall, dMake, dMeth, dIxO, dLc, dYes, dGTup, dGCons, dGNil, dDrop, dBreak, dBM, dDIn, dNever, dChain, dRngD, dZip, dRaiseI, dLstRg, dDGet, dDGet2, dDNew, dGSubD, dDStar, dSortSet, dAugS, dDc, dIterX, dBX,
  eqD_str, neD_str, eqD_int, neD_int, ixG_t0, ixG_t1, isiG_str, isi_int, isi_int_s, isi_int_t, isi_tup, isi_tup_s, isi_tup_i, isi_str_i, isi_str_t, lenG_tup, addD_int, mulD_int, intG, List.nil_append, bne_iff_ne, ofS_inj, Bool.false_bne, Bool.true_bne,
  List.map, List.length_cons, List.length_nil, List.cons_append, List.append_nil, List.replicate, List.set, List.getElem?_cons_zero, List.getElem?_cons_succ, Option.join_some, Option.bind_some, decide_eq_true_eq])
local macro_rules | `(tactic| walk_at "so") => `(tactic| first | omega | (simp; done) | (simp; omega))
variable {K : PySem.W.Frag} {A : Adr} {w : World} {mg : Str → Option Value}
theorem okV_int {i : Int} : okV (.int i) := ⟨rfl, by simp [dep]⟩
theorem okV_str {x : Str} (h : x.cps.all (· < 0x110000) = true) : okV (.str x) := ⟨by rw [pvD]; exact h, by simp [dep]⟩
theorem pv_int {i : Int} : pvD (.int i) = true ∧ dep (.int i) ≤ 50 := ⟨rfl, by simp [dep]⟩
def things (r : Int) : List D := [.int r, .int r, .tup [.str "answer", .int r], .tup [.str "stop", .str "keep", .tup [.int r]], .str "none", .tup [], .tup [.str "tell", .int r]]
theorem things_ok {r : Int} : ∀ v ∈ things r, okV v ∧ dep v ≤ 50 := by
  have e1 : pvD (.str "answer") = true := by decide +kernel
  have e2 : pvD (.str "stop") = true := by decide +kernel
  have e3 : pvD (.str "keep") = true := by decide +kernel
  have e4 : pvD (.str "none") = true := by decide +kernel
  have e5 : pvD (.str "tell") = true := by decide +kernel
  intro v hv
  simp only [things, List.mem_cons, List.not_mem_nil, or_false] at hv
  rcases hv with rfl | rfl | rfl | rfl | rfl | rfl | rfl
  · exact ⟨okV_int, by simp [dep]⟩
  · exact ⟨okV_int, by simp [dep]⟩
  · exact ⟨⟨pvT_of (by simp) (by rw [pvDL, pvDL, e1]; rfl), by simp [dep, depL]⟩, by simp [dep, depL]⟩
  · exact ⟨⟨pvT_of (by simp) (by rw [pvDL, pvDL, pvDL, e2, e3]; rfl), by simp [dep, depL]⟩, by simp [dep, depL]⟩
  · exact ⟨⟨e4, by simp [dep]⟩, by simp [dep]⟩
  · exact ⟨⟨rfl, by simp [dep, depL]⟩, by simp [dep, depL]⟩
  · exact ⟨⟨pvT_of (by simp) (by rw [pvDL, pvDL, e5]; rfl), by simp [dep, depL]⟩, by simp [dep, depL]⟩
theorem r_law_pool : ∀ ds M Q E, sp_law_pool ds M Q E → t_law_pool K A (ends Q E) (dstart N_law_pool ds) M := by
  rintro ds M Q E ⟨s, l, ns, rfl, P, k⟩
  have sz := sl2
  have J := LS.zero (S := Is s) P rfl
  unfold t_law_pool N_law_pool
  simp only [dstart, List.map, List.length_cons, List.length_nil, List.replicate, List.cons_append, List.nil_append]
  refine seq_split (fun τ M' => ∃ p, LS (Is s) M M' s l ns ∧ Own (Is s) M M' s l p (.lst []) ∧ τ = [some (.ref s), some (.ref p), none, none, none]) ?_ ?_
  rotate_left
  · intro nx hnx
    walk_at "dl"
    exact ⟨by omega, fun p hp => hnx _ _ ⟨p, J.new hp, .new J hp, rfl⟩⟩
  rintro τ M1 ⟨p, J1, O1, rfl⟩
  refine seq_split (fun τ M' => LS (Is s) M M' s l ns ∧ ∃ vs, okPool vs ∧ Own (Is s) M M' s l p (.lst vs) ∧ ∃ o2 o3 o4, τ = [some (.ref s), some (.ref p), o2, o3, o4]) ?_ ?_
  rotate_left
  · intro nx hnx
    walk_at "dl"
    refine J1.pick (by decide) (by decide) fun r M2 r0 r1 J2 e2 => ?_
    simp only [addD_int]
    refine ⟨by omega, by omega, ?_⟩
    have hn : (1 + r).toNat ≤ 4 ∧ 1 ≤ (1 + r).toNat := by omega
    refine dLoop_inv (fun i τ M' => LS (Is s) M M' s l ns ∧ ∃ vs : List D, vs.length = i ∧ (∀ v ∈ vs, okV v ∧ dep v ≤ 50) ∧ Own (Is s) M M' s l p (.lst vs) ∧ ∃ o2 o3 o4, τ = [some (.ref s), some (.ref p), o2, o3, o4]) (fun _ _ _ _ _ => trivial) ?_ ?_ ⟨J2, [], rfl, (fun _ h => nomatch h), O1.ext e2, none, none, none, rfl⟩
    · rintro i d τ M' nxt hd ⟨J', vs, hl, hv, O', o2, o3, o4, rfl⟩ hnx'
      obtain ⟨hi, rfl⟩ := rng_at hd
      walk_at "dl"
      refine J'.pick (by decide) (by decide) fun r M3 r0 r1 J3 e3 => ?_
      refine ⟨by omega, by omega, by omega, by omega, by omega, by omega, fun q hq => ?_⟩
      have O3 := (O'.ext e3).lay hq (u := .lst (things r))
      have J4 := J3.new hq (o := .lst (things r))
      have O4 := Own.new J3 hq (o := .lst (things r))
      refine ⟨by show metT "list" (.ref p) (put M3 q (.lst (things r))); rw [metL O3.a]; trivial, ?_⟩
      refine J4.pickAt (vs := things r) O4.a O4.ns (by simp [things]) (by simp [things]) (by simp [things]) fun v M5 hv5 J5 e5 => ?_
      have O5 := O3.ext e5
      simp only [app_at O5.a]
      refine ⟨by omega, hnx' _ _ ⟨J5.set O5, vs ++ [v], by simp [hl], fun u hu => ?_, O5.set, _, _, _, rfl⟩⟩
      rcases List.mem_append.mp hu with h | h
      · exact hv u h
      · rw [List.mem_singleton.mp h]; exact things_ok v hv5
    · rintro τ M' ⟨J', vs, hl, hv, O', o2, o3, o4, rfl⟩
      rw [len_rng] at hl
      exact hnx _ _ ⟨J', vs, ⟨by omega, by omega, hv⟩, O', o2, o3, o4, rfl⟩
  rintro τ M2 ⟨J2, vs, hv, O2, o2, o3, o4, rfl⟩
  walk_at "dl"
  exact dropQ_of (k p vs M2 hv O2.new0 O2.a J2.P J2.X) .refl
theorem r_law_shuffled : ∀ ds M Q E, sp_law_shuffled ds M Q E → t_law_shuffled K A (ends Q E) (dstart N_law_shuffled ds) M := by
  rintro ds M Q E ⟨s, l, ns, a, L, rfl, P, has, ha, hL, k⟩
  have sz := sl2
  have J := LS.zero (S := Is s) P rfl
  unfold t_law_shuffled N_law_shuffled
  walk_at "dl"
  rw [lst_at ha]
  intro q hq
  have haq : a ≠ q := ne_none ha hq
  have J1 := J.new hq (o := .lst (L.map D.int))
  have O1 := Own.new J hq (o := .lst (L.map D.int))
  have ha1 : (put M q (.lst (L.map D.int))) a = some (.lst (L.map D.int)) := by rw [put_ne haq]; exact ha
  generalize put M q (.lst (L.map D.int)) = M1 at *
  rw [lenG_at ha1, List.length_map]
  simp only
  refine ⟨by omega, by omega, fun p hp => ?_⟩
  have hqp : q ≠ p := ne_none O1.a hp
  rw [Int.toNat_natCast]
  refine dCL_inv (fun j M' => LS (Is s) M M' s l ns ∧ ∃ xs R : List Int, xs.length = j ∧ (xs ++ R).Perm L ∧ Own (Is s) M M' s l q (.lst (R.map D.int)) ∧ Own (Is s) M M' s l p (.lst (xs.map D.int))) (fun _ _ _ _ => trivial) ?_ ?_ ⟨J1.new hp, [], L, rfl, .refl _, O1.lay hp, .new J1 hp⟩
  · rintro i d M' nxt hd ⟨J', xs, R, hx, hperm, Oq, Op⟩ hnx
    obtain ⟨hi, rfl⟩ := rng_at hd
    have hlen := hperm.length_eq
    rw [List.length_append] at hlen
    simp only [wipeD, dYes, if_true]
    walk_at "dl"
    refine ⟨by rw [metL Oq.a]; trivial, ?_⟩
    rw [lenG_at Oq.a, List.length_map]
    refine J'.pick (by omega) (log_small (by omega)) fun r M2 r0 r1 J2 e2 => ?_
    have Oq2 := Oq.ext e2
    have Op2 := Op.ext e2
    have hr : r.toNat < R.length := by omega
    unfold popM
    simp only [Oq2.a]
    have e : (R.map D.int)[r.toNat]? = some (.int R[r.toNat]) := by rw [List.getElem?_map, List.getElem?_eq_getElem hr]; rfl
    have ix : ixN (R.map D.int).length r = some r.toNat := ixN_in r0 (by rw [List.length_map]; exact r1)
    simp only [List.length_map] at ix
    have J3 := J2.set Oq2 (o := .lst ((R.map D.int).eraseIdx r.toNat))
    have Oq3 := Oq2.set (o := .lst ((R.map D.int).eraseIdx r.toNat))
    have Op3 := Op2.put hqp (u := .lst ((R.map D.int).eraseIdx r.toNat))
    refine ⟨r0, by rw [List.length_map]; exact r1, by rw [List.length_map]; omega, ?_⟩
    simp only [e, Op3.a]
    refine ⟨by rw [List.length_map]; omega, hnx _ ⟨J3.set Op3, xs ++ [R[r.toNat]], R.eraseIdx r.toNat, by simp [hx], ?_, ?_, ?_⟩⟩
    · refine List.Perm.trans ?_ hperm
      rw [List.append_assoc]
      exact List.Perm.append_left _ (perm_pop (List.getElem?_eq_getElem hr))
    · have := (Oq3.put (Ne.symm hqp) (u := .lst (xs.map D.int ++ [.int R[r.toNat]])))
      have e3 : (R.map D.int).eraseIdx r.toNat = (R.eraseIdx r.toNat).map D.int := er_map _ _ _
      rw [e3] at this ⊢
      exact this
    · rw [List.map_append]
      exact Op3.set
  · rintro M' ⟨J', xs, R, hx, hperm, Oq, Op⟩
    rw [len_rng] at hx
    have hlen := hperm.length_eq
    rw [List.length_append] at hlen
    have : R = [] := List.eq_nil_of_length_eq_zero (by omega)
    subst this
    rw [List.append_nil] at hperm
    exact dropQ_of (k xs hperm p _ M' rfl Op.new0 Op.a J'.P J'.X) .refl
end K58

set_option maxHeartbeats 4000000
namespace K58
open PySem L2 DL DQ
local macro_rules | `(tactic| walk_at "dl") => `(tactic| simp only [dSeq, dIfS, dB, dTru, truD, dOp, dVar, dC, dAsg, dAug, dCB, dCons, dNil, dRet, dRetN, dName, dGSub, dNext, ends, exOf, dstart, slot, oI0, oI, dAnd, dOr, dNot, dAndV, dOrV, dNotV, dNeg, dSl, dNoP, dPart, dFld, dFldS, dRaise, dLst, dTup, dFor, dIter, dRng1, dRng2, dCall, dMake, dMeth, dIxO, dLc, dYes, dGTup, dGCons, dGNil, dDrop, dBreak, dBM, dDIn, dNever, dChain, dRngD, dZip, dRaiseI, dLstRg, dDGet, dDGet2, dDNew, dGSubD, dDStar, dSortSet, dAugS, dDc, dIterX, dBX,
  eqD_str, neD_str, eqD_int, neD_int, ixG_t0, ixG_t1, isiG_str, isi_int, isi_int_s, isi_int_t, isi_tup, isi_tup_s, isi_tup_i, isi_str_i, isi_str_t, lenG_tup, addD_int, mulD_int, intG, List.nil_append, bne_iff_ne, ofS_inj, Bool.false_bne, Bool.true_bne,
  List.map, List.length_cons, List.length_nil, List.cons_append, List.append_nil, List.replicate, List.set, List.getElem?_cons_zero, List.getElem?_cons_succ, Option.join_some, Option.bind_some, decide_eq_true_eq])
local macro_rules | `(tactic| walk_at "so") => `(tactic| first | omega | (simp; done) | (simp; omega))
variable {K : PySem.W.Frag} {A : Adr} {w : World} {mg : Str → Option Value}
theorem nkL_le {ws : List Nat} {c : Nat} : ∀ {ts : List QT}, (∀ t ∈ ts, t.nk ≤ c) → nkL ts ≤ ts.length * c
  | [], _ => by simp [nkL]
  | t :: ts, h => by
    rw [nkL, List.length_cons, Nat.succ_mul]
    have := h t (by simp)
    have := nkL_le (ws := ws) (ts := ts) fun u hu => h u (List.mem_cons_of_mem _ hu)
    omega
theorem in_range {vs : List D} {r : Int} (r0 : 0 ≤ r) (r1 : r < vs.length) : ∃ v, v ∈ vs ∧ vs[r.toNat]? = some v ∧ r = ((r.toNat : Nat) : Int) := by
  have h : r.toNat < vs.length := by omega
  exact ⟨vs[r.toNat], List.getElem_mem h, List.getElem?_eq_getElem h, by omega⟩
theorem r_law_asked {n : Nat} : ∀ ds M Q E, sp_law_asked (n + 1) ds M Q E → t_law_asked K A n (ends Q E) (dstart N_law_asked ds) M := by
  rintro ds M Q E ⟨s, l, ns, ws, a, L, lv, b, vs, w, rfl, P, W, has, ha, hL0, hL1, hLr, hbs, hb, hvs, hw, hlv, k⟩
  have sz := sl2
  have J := LS.zero (S := Is s) P rfl
  have ab : a ≠ s := has
  unfold t_law_asked N_law_asked
  simp only [dstart, List.map, List.length_cons, List.length_nil, List.replicate, List.cons_append, List.nil_append]
  have leaf : ∀ (M1 : Mp) (Dn : DN), LS (Is s) M M1 s l ns → Dn.rt = dropQ Q → dRet (dTup (dCons (dC (.str "tell")) (dCons (dOp ixG (dVar 4) (dCall sp_law_pick [] (dCons (dVar 0) (dCons (dCB lenG (dCons (dVar 4) dNil)) dNil)))) dNil))) Dn [some (.ref s), some (wsD ws), some (.ref a), some (.int ((lv : Nat) : Int)), some (.ref b), none, none, none] M1 := by
    intro M1 Dn J1 hrt
    have hb1 := J1.at_ hb hbs
    walk_at "dl"
    rw [lenG_at hb1]
    refine J1.pickAt hb1 hbs rfl (by have := hvs.1; omega) (by have := hvs.2.1; omega) fun v M2 hv J2 e2 => ⟨by omega, ?_⟩
    rw [hrt]
    have hok := hvs.2.2 v hv
    have := k (.tell v) ⟨by rw [QT.wf]; exact hok.1, low_tell hok.2⟩ (by rw [QT.ht]; omega) (fun q hq => by rw [QT.occ] at hq; exact hq.elim) (by rw [QT.nk]; omega) M2 J2.P J2.X
    rw [QT.toD] at this
    exact dropQ_of this .refl
  refine seq_split (fun τ M' => LS (Is s) M M' s l ns ∧ 0 < lv ∧ τ = [some (.ref s), some (wsD ws), some (.ref a), some (.int ((lv : Nat) : Int)), some (.ref b), none, none, none]) ?_ ?_
  rotate_left
  · intro nx hnx
    by_cases c : lv = 0
    · subst c
      refine ifS_of true (fun Q' E' h => ?_) (leaf M _ J rfl)
      walk_at "dl"
      exact h
    · simp only [dIfS, dOr, dB, dOp, dVar, dC, slot, List.getElem?_cons_zero, List.getElem?_cons_succ, Option.join_some, eqD_int]
      have c1 : decide (((lv : Nat) : Int) = 0) = false := by simp; omega
      simp only [c1, Bool.false_eq_true, if_false]
      simp only [dCall, dCons, dVar, dC, dNil, slot, List.getElem?_cons_zero, Option.join_some, List.append_nil]
      refine J.pick (by decide) (by decide) fun r M2 r0 r1 J2 e2 => ?_
      by_cases c2 : r = 0
      · subst c2
        simp only [eqD_int, decide_true, if_true]
        exact leaf M2 _ J2 rfl
      · simp only [eqD_int, c2, decide_false, Bool.false_eq_true, if_false, dNext]
        exact hnx _ _ ⟨J2, by omega, rfl⟩
  rintro τ M1 ⟨J1, hlv0, rfl⟩
  have ha1 := J1.at_ ha has
  refine seq_split (fun τ M' => LS (Is s) M M' s l ns ∧ ∃ p, p ∈ L ∧ τ = [some (.ref s), some (wsD ws), some (.ref a), some (.int ((lv : Nat) : Int)), some (.ref b), some (.int p), none, none]) ?_ ?_
  rotate_left
  · intro nx hnx
    walk_at "dl"
    rw [lenG_at ha1]
    refine J1.pickAt ha1 has rfl (by rw [List.length_map]; omega) (by rw [List.length_map]; omega) fun v M2 hv J2 e2 => ?_
    obtain ⟨p, hp, rfl⟩ := List.mem_map.mp hv
    exact hnx _ _ ⟨J2, p, hp, rfl⟩
  rintro τ M2 ⟨J2, p, hp, rfl⟩
  have w1 := wd_pos W p
  walk_at "dl"
  refine ⟨ws, p, rfl, W, by omega, by omega, by omega, fun q hq => ?_⟩
  rw [Int.toNat_natCast]
  refine dCL_draws QT.toD (fun t => (t.wf ws ∧ t.low) ∧ t.ht ≤ lv - 1 ∧ (∀ q, t.occ q → q ∈ L) ∧ t.nk ≤ geo w (lv - 1)) (J2.new hq) (.new J2 hq) (by simp; omega) (fun _ _ _ => trivial) (fun i d M' k' hd J' e' hk => ?_) fun ts M' hx hG J' e' O' => ?_
  · obtain ⟨hi, rfl⟩ := rng_at hd
    simp only [wipeD]
    walk_at "dl"
    have el : ((lv : Nat) : Int) - 1 = ((lv - 1 : Nat) : Int) := by omega
    refine ⟨s, l, ns, ws, a, L, lv - 1, b, vs, w, by rw [el], J'.P, W, has, J'.at_ ha has, hL0, hL1, hLr, hbs, J'.at_ hb hbs, hvs, hw, by omega, fun t h1 h2 h3 h4 M3 P3 e3 => hk t M3 ⟨h1, h2, h3, h4⟩ (J'.got P3 e3) e3⟩
  · rw [len_rng] at hx
    rw [tup_at O'.a, addD_tup]
    refine ⟨by simp; omega, ?_⟩
    have ew : wd ws p ≤ w := by
      obtain ⟨_, _, _, _, m⟩ := wd_in W p
      exact hw _ m
    have hnk := nkL_le (ws := ws) fun t ht => (hG t ht).2.2.2
    have e5 : geo w lv = 1 + w * geo w (lv - 1) := by
      obtain ⟨m, rfl⟩ : ∃ m, lv = m + 1 := ⟨lv - 1, by omega⟩
      rfl
    have := k (.look p ts) ⟨by rw [QT.wf]; exact ⟨(hLr p hp).1, (hLr p hp).2, hx, wfL_mem.mpr fun t ht => (hG t ht).1.1⟩, low_look fun t ht => (hG t ht).1.2⟩ (by rw [QT.ht]; have := htL_le fun t ht => (hG t ht).2.1; omega)
      (fun q hq => by
        rw [QT.occ] at hq
        rcases hq with rfl | hq
        · exact hp
        · obtain ⟨t, ht, h⟩ := occL_mem.mp hq
          exact (hG t ht).2.2.1 q h)
      (by
        rw [QT.nk, e5]
        have : ts.length * geo w (lv - 1) ≤ w * geo w (lv - 1) := Nat.mul_le_mul_right _ (by omega)
        omega) M' J'.P J'.X
    rw [QT.toD, toDs_map] at this
    exact dropQ_of this .refl
end K58

set_option maxHeartbeats 4000000
namespace K58
open PySem L2 DL DQ
local macro_rules | `(tactic| walk_at "dl") => `(tactic| simp only [dSeq, dIfS, dB, dTru, truD, dOp, dVar, dC, dAsg, dAug, dCB, dCons, dNil, dRet, dRetN, dName, dGSub, dNext, ends, exOf, dstart, slot, oI0, oI, dAnd, dOr, dNot, dAndV, dOrV, dNotV, dNeg, dSl, dNoP, dPart, dFld, dFldS, dRaise, dLst, dTup, dFor, dIter, dRng1, dRng2, dCall, dMake, dMeth, dIxO, dLc, dYes, dGTup, dGCons, dGNil, dDrop, dBreak, dBM, dDIn, dNever, dChain, dRngD, dZip, dRaiseI, dLstRg, dDGet, dDGet2, dDNew, dGSubD, dDStar, dSortSet, dAugS, dDc, dIterX, dBX,
  eqD_str, neD_str, eqD_int, neD_int, ixG_t0, ixG_t1, isiG_str, isi_int, isi_int_s, isi_int_t, isi_tup, isi_tup_s, isi_tup_i, isi_str_i, isi_str_t, lenG_tup, addD_int, mulD_int, intG, List.nil_append, bne_iff_ne, ofS_inj, Bool.false_bne, Bool.true_bne,
  List.map, List.length_cons, List.length_nil, List.cons_append, List.append_nil, List.replicate, List.set, List.getElem?_cons_zero, List.getElem?_cons_succ, Option.join_some, Option.bind_some, decide_eq_true_eq])
local macro_rules | `(tactic| walk_at "so") => `(tactic| first | omega | (simp; done) | (simp; omega))
variable {K : PySem.W.Frag} {A : Adr} {w : World} {mg : Str → Option Value}
theorem r_law_full {n : Nat} : ∀ ds M Q E, sp_law_full (n + 1) ds M Q E → t_law_full K A n (ends Q E) (dstart N_law_full ds) M := by
  rintro ds M Q E ⟨s, l, ns, ws, a, L, m, mk, b, vs, tot, rfl, P, W, has, ha, hLn, hL1, hLr, hms, hm, hbs, hb, hvs, htot, k⟩
  have sz := sl2
  have J := LS.zero (S := Is s) P rfl
  have hvl := hvs.1
  have hvl2 := hvs.2.1
  unfold t_law_full N_law_full
  simp only [dstart, List.map, List.length_cons, List.length_nil, List.replicate, List.cons_append, List.nil_append]
  cases L with
  | nil =>
    refine seq_split (fun τ M' => False) (fun τ M' h => h.elim) ?_
    intro nx hnx
    refine ifS_of true (fun Q' E' h => ?_) ?_
    · walk_at "dl"
      simp only [lenG_at ha]
      exact h
    rw [if_pos rfl]
    have fin : ∀ v M2, v ∈ vs → LS (Is s) M M2 s l ns → dropQ Q (.tup [.str "tell", v]) M2 := fun v M2 hv J2 => by
      have := k (.tell v) ⟨by rw [QT.wf]; exact (hvs.2.2 v hv).1, low_tell (hvs.2.2 v hv).2⟩ (by rw [QT.ht]; omega) (fun q hq => by rw [QT.occ] at hq; exact hq.elim) (by rw [QT.nk]; omega) M2 J2.P J2.X
      rw [QT.toD] at this
      exact dropQ_of this .refl
    walk_at "dl"
    simp only [lenG_at hm, eqD_int]
    by_cases c : (((mk.map D.int).length : Nat) : Int) = 0
    · simp only [c, decide_true, if_true]
      rw [lenG_at hb]
      exact J.pickAt hb hbs rfl (by omega) (by omega) fun v M2 hv J2 e2 => ⟨by omega, fin v M2 hv J2⟩
    · simp only [c, decide_false, Bool.false_eq_true, if_false]
      rw [lenG_at hb]
      simp only
      refine ⟨by omega, ?_⟩
      have r0 := Int.emod_nonneg ((tot : Nat) : Int) (show ((vs.length : Nat) : Int) ≠ 0 by omega)
      have r1 := Int.emod_lt_of_pos ((tot : Nat) : Int) (show (0 : Int) < ((vs.length : Nat) : Int) by omega)
      generalize ((tot : Nat) : Int) % ((vs.length : Nat) : Int) = r at *
      obtain ⟨v, hv, e1, e2⟩ := in_range r0 r1
      rw [e2, ix_at hb e1]
      exact ⟨by omega, fin v M hv J⟩
  | cons p ps =>
    have w1 := wd_pos W p
    have hpr := hLr p (by simp)
    refine seq_split (fun τ M' => M' = M ∧ τ = [some (.ref s), some (wsD ws), some (.ref a), some (.ref m), some (.ref b), some (.int ((tot : Nat) : Int)), none, none, none, none]) ?_ ?_
    rotate_left
    · intro nx hnx
      walk_at "dl"
      rw [lenG_at ha]
      simp only [eqD_int]
      rw [if_neg (by rw [decide_eq_true_eq, List.length_map, List.length_cons]; omega)]
      exact hnx _ _ ⟨rfl, rfl⟩
    rintro τ M1 ⟨rfl, rfl⟩
    refine seq_split (fun τ M' => M' = M1 ∧ τ = [some (.ref s), some (wsD ws), some (.ref a), some (.ref m), some (.ref b), some (.int ((tot : Nat) : Int)), some (.int p), none, none, none]) ?_ ?_
    rotate_left
    · intro nx hnx
      walk_at "dl"
      rw [ix_at0 (x := .int p) (xs := ps.map D.int) ha]
      exact hnx _ _ ⟨rfl, rfl⟩
    rintro τ M2 ⟨rfl, rfl⟩
    refine seq_split (fun τ M' => ∃ q, LS (Is s) M2 M' s l ns ∧ Own (Is s) M2 M' s l q (.lst []) ∧ τ = [some (.ref s), some (wsD ws), some (.ref a), some (.ref m), some (.ref b), some (.int ((tot : Nat) : Int)), some (.int p), some (.ref q), none, none]) ?_ ?_
    rotate_left
    · intro nx hnx
      walk_at "dl"
      exact ⟨by omega, fun q hq => hnx _ _ ⟨q, J.new hq, .new J hq, rfl⟩⟩
    rintro τ M3 ⟨q, J3, O3, rfl⟩
    refine seq_split (fun τ M' => LS (Is s) M2 M' s l ns ∧ ∃ ts : List QT, ts.length = wd ws p ∧ (∀ t ∈ ts, (t.wf ws ∧ t.low) ∧ t.ht ≤ ps.length ∧ (∀ q, t.occ q → q ∈ ps) ∧ t.nk ≤ fullN ws ps) ∧ Own (Is s) M2 M' s l q (.lst (ts.map QT.toD)) ∧ ∃ o8 o9, τ = [some (.ref s), some (wsD ws), some (.ref a), some (.ref m), some (.ref b), some (.int ((tot : Nat) : Int)), some (.int p), some (.ref q), o8, o9]) ?_ ?_
    rotate_left
    · intro nx hnx
      walk_at "dl"
      refine ⟨ws, p, rfl, W, by omega, by omega, ?_⟩
      rw [Int.toNat_natCast]
      refine dLoop_inv (fun i τ M' => LS (Is s) M2 M' s l ns ∧ ∃ ts : List QT, ts.length = i ∧ (∀ t ∈ ts, (t.wf ws ∧ t.low) ∧ t.ht ≤ ps.length ∧ (∀ q, t.occ q → q ∈ ps) ∧ t.nk ≤ fullN ws ps) ∧ Own (Is s) M2 M' s l q (.lst (ts.map QT.toD)) ∧ ∃ o8 o9, τ = [some (.ref s), some (wsD ws), some (.ref a), some (.ref m), some (.ref b), some (.int ((tot : Nat) : Int)), some (.int p), some (.ref q), o8, o9]) (fun _ _ _ _ _ => trivial) ?_ ?_ ⟨J3, [], rfl, (fun _ h => nomatch h), O3, none, none, rfl⟩
      · rintro i d τ M' nxt hd ⟨J', ts, hl, hG, O', o8, o9, rfl⟩ hnx'
        obtain ⟨hi, rfl⟩ := rng_at hd
        have hm' := J'.at_ hm hms
        have ha' := J'.at_ ha has
        have hb' := J'.at_ hb hbs
        refine seq_split (fun τ M'' => M'' = M' ∧ τ = [some (.ref s), some (wsD ws), some (.ref a), some (.ref m), some (.ref b), some (.int ((tot : Nat) : Int)), some (.int p), some (.ref q), some (.int ((i : Nat) : Int)), some (.int ((tot : Nat) : Int))]) ?_ ?_
        rotate_left
        · intro nx2 hnx2
          walk_at "dl"
          exact hnx2 _ _ ⟨rfl, rfl⟩
        rintro τ M4 ⟨rfl, rfl⟩
        have hbig : ((2 * tot + 3) + 4) * 2 ^ (ps.length * 2) < 2 ^ 250 := by
          have e : 2 ^ ((p :: ps).length * 2) = 4 * 2 ^ (ps.length * 2) := by
            rw [List.length_cons, show (ps.length + 1) * 2 = ps.length * 2 + 2 by omega, Nat.pow_add, Nat.mul_comm]
          rw [e] at htot
          refine Nat.lt_of_le_of_lt ?_ htot
          rw [← Nat.mul_assoc]
          exact Nat.mul_le_mul_right _ (by omega)
        refine seq_split (fun τ M'' => M'' = M4 ∧ ∃ tt : Nat, (tt + 4) * 2 ^ (ps.length * 2) < 2 ^ 250 ∧ τ = [some (.ref s), some (wsD ws), some (.ref a), some (.ref m), some (.ref b), some (.int ((tot : Nat) : Int)), some (.int p), some (.ref q), some (.int ((i : Nat) : Int)), some (.int ((tt : Nat) : Int))]) ?_ ?_
        rotate_left
        · intro nx2 hnx2
          walk_at "dl"
          simp only [in_ints hm', Bool.false_bne]
          have hsm : tot < 2 ^ 250 := by
            refine Nat.lt_of_le_of_lt ?_ htot
            exact Nat.le_trans (by omega) (Nat.le_mul_of_pos_right _ (Nat.two_pow_pos _))
          by_cases c : p ∈ mk
          · simp only [c, decide_true, if_true]
            refine ⟨mulx_ok (a := 4) (b := 1000) (by decide) (by rw [Int.natAbs_natCast]; exact Nat.lt_of_lt_of_le hsm (Nat.pow_le_pow_right (by omega) (by omega))) (by decide), ?_⟩
            have e : 2 * ((tot : Nat) : Int) + ((i : Nat) : Int) = ((2 * tot + i : Nat) : Int) := by omega
            simp only [e]
            refine hnx2 _ _ ⟨rfl, 2 * tot + i, ?_, rfl⟩
            refine Nat.lt_of_le_of_lt (Nat.mul_le_mul_right _ ?_) hbig
            omega
          · simp only [c, decide_false, Bool.false_eq_true, if_false]
            refine hnx2 _ _ ⟨rfl, tot, ?_, rfl⟩
            refine Nat.lt_of_le_of_lt (Nat.mul_le_mul_right _ ?_) hbig
            omega
        rintro τ M5 ⟨rfl, tt, htt, rfl⟩
        walk_at "dl"
        simp only [slG, seqOf, ha', List.map_cons, cut_1]
        refine ⟨by rw [metL O'.a]; trivial, fun x hx => ?_⟩
        have J5 := J'.new hx (o := .lst (ps.map D.int))
        have O5 := O'.lay hx (u := .lst (ps.map D.int))
        have Ox := Own.new J' hx (o := .lst (ps.map D.int))
        simp only [List.length_cons] at hLn hL1
        refine ⟨s, l, ns, ws, x, ps, m, mk, b, vs, tt, rfl, J5.P, W, Ox.ns, Ox.a, by omega, by omega, fun z hz => hLr z (List.mem_cons_of_mem _ hz), hms, J5.at_ hm hms, hbs, J5.at_ hb hbs, hvs, htt, fun t h1 h2 h3 h4 M6 P6 e6 => ?_⟩
        have O6 := O5.ext e6
        simp only [app_at O6.a]
        refine ⟨by simp; omega, hnx' _ _ ⟨(J5.got P6 e6).set O6, ts ++ [t], by simp [hl], fun u hu => ?_, ?_, _, _, rfl⟩⟩
        · rcases List.mem_append.mp hu with h | h
          · exact hG u h
          · rw [List.mem_singleton.mp h]; exact ⟨h1, h2, h3, h4⟩
        · rw [List.map_append]; exact O6.set
      · rintro τ M' ⟨J', ts, hl, hG, O', o8, o9, rfl⟩
        rw [len_rng] at hl
        exact hnx _ _ ⟨J', ts, hl, hG, O', o8, o9, rfl⟩
    rintro τ M4 ⟨J4, ts, hl, hG, O4, o8, o9, rfl⟩
    walk_at "dl"
    rw [tup_at O4.a, addD_tup]
    refine ⟨by omega, by simp; omega, ?_⟩
    have hnk := nkL_le (ws := ws) fun t ht => (hG t ht).2.2.2
    have := k (.look p ts) ⟨by rw [QT.wf]; exact ⟨hpr.1, hpr.2, hl, wfL_mem.mpr fun t ht => (hG t ht).1.1⟩, low_look fun t ht => (hG t ht).1.2⟩ (by rw [QT.ht, List.length_cons]; have := htL_le fun t ht => (hG t ht).2.1; omega)
      (fun z hz => by
        rw [QT.occ] at hz
        rcases hz with rfl | hz
        · simp
        · obtain ⟨t, ht, h⟩ := occL_mem.mp hz
          exact List.mem_cons_of_mem _ ((hG t ht).2.2.1 z h))
      (by rw [QT.nk, fullN, ← hl]; omega) M4 J4.P J4.X
    rw [QT.toD, toDs_map] at this
    exact dropQ_of this .refl
end K58

set_option maxHeartbeats 4000000
namespace K58
open PySem L2 DL DQ
local macro_rules | `(tactic| walk_at "dl") => `(tactic| simp only [dSeq, dIfS, dB, dTru, truD, dOp, dVar, dC, dAsg, dAug, dCB, dCons, dNil, dRet, dRetN, dName, dGSub, dNext, ends, exOf, dstart, slot, oI0, oI, dAnd, dOr, dNot, dAndV, dOrV, dNotV, dNeg, dSl, dNoP, dPart, dFld, dFldS, dRaise, dLst, dTup, dFor, dIter, dRng1, dRng2, dCall, dMake, dMeth, dIxO, dLc, dYes, dGTup, dGCons, dGNil, dDrop, dBreak, dBM, dDIn, dNever, dChain, dRngD, dZip, dRaiseI, dLstRg, dDGet, dDGet2, dDNew, dGSubD, dDStar, dSortSet, dAugS, dDc, dIterX, dBX,
  eqD_str, neD_str, eqD_int, neD_int, ixG_t0, ixG_t1, isiG_str, isi_int, isi_int_s, isi_int_t, isi_tup, isi_tup_s, isi_tup_i, isi_str_i, isi_str_t, lenG_tup, addD_int, mulD_int, intG, List.nil_append, bne_iff_ne, ofS_inj, Bool.false_bne, Bool.true_bne,
  List.map, List.length_cons, List.length_nil, List.cons_append, List.append_nil, List.replicate, List.set, List.getElem?_cons_zero, List.getElem?_cons_succ, Option.join_some, Option.bind_some, decide_eq_true_eq])
local macro_rules | `(tactic| walk_at "so") => `(tactic| first | omega | (simp; done) | (simp; omega))
variable {K : PySem.W.Frag} {A : Adr} {w : World} {mg : Str → Option Value}
/-! choices -/
def ChL (M : Mp) (P : List Int) (rs : List Addr) (kk : List (List Nat)) : Prop := rs.length = kk.length ∧ ∀ (i : Nat) (r : Addr) (ds : List Nat), rs[i]? = some r → kk[i]? = some ds → M r = some (.dk (kvsOf P ds))
theorem ChL.sub {M M' : Mp} {P : List Int} {rs : List Addr} {kk : List (List Nat)} (h : ChL M P rs kk) (s : Sub M M') : ChL M' P rs kk := ⟨h.1, fun i r ds a b => s _ _ (h.2 i r ds a b)⟩
theorem ChL.snoc {M : Mp} {P : List Int} {rs : List Addr} {kk : List (List Nat)} {r : Addr} {ds : List Nat} (h : ChL M P rs kk) (hr : M r = some (.dk (kvsOf P ds))) : ChL M P (rs ++ [r]) (kk ++ [ds]) := ⟨by simp [h.1], fun i x es a b => by
  by_cases c : i < rs.length
  · rw [List.getElem?_append_left c] at a
    rw [List.getElem?_append_left (by rw [← h.1]; exact c)] at b
    exact h.2 i x es a b
  · rw [List.getElem?_append_right (by omega)] at a
    rw [List.getElem?_append_right (by rw [← h.1]; omega), ← h.1] at b
    cases e : i - rs.length with
    | zero => rw [e] at a b; simp at a b; subst a; subst b; exact hr
    | succ n => rw [e] at a; simp at a⟩
theorem kvsOf_app {p : Int} {o : Nat} : ∀ {P : List Int} {ds : List Nat}, ds.length = P.length → kvsOf (P ++ [p]) (ds ++ [o]) = kvsOf P ds ++ [(.inl p, .int ((o : Nat) : Int))]
  | [], [], _ => rfl
  | q :: P, d :: ds, h => by rw [List.cons_append, List.cons_append, kvsOf, kvsOf, kvsOf_app (by simpa using h)]; rfl
  | [], _ :: _, h => by simp at h
  | _ :: _, [], h => by simp at h
theorem kvsOf_keys : ∀ {P : List Int} {ds : List Nat}, ds.length = P.length → (kvsOf P ds).map (·.1) = P.map Sum.inl
  | [], [], _ => rfl
  | q :: P, d :: ds, h => by rw [kvsOf, List.map_cons, List.map_cons, kvsOf_keys (by simpa using h)]
  | [], _ :: _, h => by simp at h
  | _ :: _, [], h => by simp at h
theorem kvsOf_len {P : List Int} {ds : List Nat} (h : ds.length = P.length) : (kvsOf P ds).length = P.length := by
  have := congrArg List.length (kvsOf_keys h)
  simpa using this
theorem kvsOf_put {P : List Int} {ds : List Nat} {p : Int} {o : Nat} (h : ds.length = P.length) (hp : p ∉ P) : putKD (kvsOf P ds) (.inl p) (.int ((o : Nat) : Int)) = kvsOf (P ++ [p]) (ds ++ [o]) := by
  have no : ((kvsOf P ds).any fun q => decide (q.1 = Sum.inl p)) = false := by
    rw [Bool.eq_false_iff]
    intro z
    obtain ⟨q, hq, e⟩ := List.any_eq_true.mp z
    have : q.1 ∈ (kvsOf P ds).map (·.1) := List.mem_map.mpr ⟨q, hq, rfl⟩
    rw [kvsOf_keys h, of_decide_eq_true e] at this
    obtain ⟨r, hr, e2⟩ := List.mem_map.mp this
    cases e2
    exact hp hr
  unfold putKD
  rw [no, kvsOf_app h]
  simp
theorem kvsOf_ints : ∀ {P : List Int} {ds : List Nat}, ((kvsOf P ds).all fun p => isIntD p.2) = true
  | [], _ => by simp [kvsOf]
  | q :: P, [] => by simp [kvsOf]
  | q :: P, d :: ds => by rw [kvsOf, List.all_cons, kvsOf_ints]; rfl
theorem kvsOf_val : ∀ {P : List Int} {ds : List Nat} {q : Int}, P.Nodup → ds.length = P.length → q ∈ P → valD (kvsOf P ds) (.inl q) = some (.int ((kn P ds q : Nat) : Int))
  | p :: P, d :: ds, q, nd, h, hq => by
    obtain ⟨n1, n2⟩ := List.nodup_cons.mp nd
    rw [kvsOf, valD_cons, kn]
    by_cases c : p = q
    · subst c; rw [if_pos rfl, upk_same]
    · rw [if_neg (by simpa using c), upk_ne (fun e => c e.symm)]
      exact kvsOf_val n2 (by simpa using h) ((List.mem_cons.mp hq).resolve_left fun e => c e.symm)
  | [], _, _, _, _, h => by cases h
  | _ :: _, [], _, _, h, _ => by simp at h
theorem prodW_take_le {ws : List Nat} (W : okW ws) (P : List Int) (i : Nat) : prodW ws (P.take i) ≤ prodW ws P := by
  have : prodW ws P = prodW ws (P.take i) * prodW ws (P.drop i) := by rw [← prodW_app, List.take_append_drop]
  rw [this]
  exact Nat.le_mul_of_pos_right _ (prodW_pos W _)
theorem r_law_choices : ∀ ds M Q E, sp_law_choices ds M Q E → t_law_choices K A (ends Q E) (dstart N_law_choices ds) M := by
  rintro ds M Q E ⟨ws, a, P, rfl, W, ha, nd, hP, hpr, k⟩
  have sz := sl2
  unfold t_law_choices N_law_choices
  simp only [dstart, List.map, List.length_cons, List.length_nil, List.replicate, List.cons_append, List.nil_append]
  refine seq_split (fun τ M' => Sub M M' ∧ ∃ f, M f = none ∧ ChAt M' f ws (P.take 0) ∧ τ = [some (wsD ws), some (.ref a), some (.ref f), none, none, none, none, none]) ?_ ?_
  rotate_left
  · intro nx hnx
    walk_at "dl"
    refine fun x hx => ⟨by omega, fun f hf => ?_⟩
    have xf := ne_none put_same hf
    have hf0 : M f = none := by rw [put_ne (Ne.symm xf)] at hf; exact hf
    refine hnx _ _ ⟨(Sub.refl.put hx).put hf, f, hf0, ⟨[x], put_same, rfl, fun i r ds h1 h2 => ?_⟩, rfl⟩
    cases i with
    | zero =>
      simp [chD] at h1 h2
      subst h1; subst h2
      rw [put_ne xf, put_same]
      rfl
    | succ i => simp at h1
  rintro τ M1 ⟨s1, f, hf, hc, rfl⟩
  refine seq_split (fun τ M' => Sub M M' ∧ ∃ f, M f = none ∧ ChAt M' f ws P ∧ ∃ o3 o4 o5 o6 o7, τ = [some (wsD ws), some (.ref a), some (.ref f), o3, o4, o5, o6, o7]) ?_ ?_
  rotate_left
  · intro nx hnx
    have ha1 := s1 _ _ ha
    walk_at "dl"
    simp only [itemsOf, keepOf, seqOf, ha1]
    refine dLoop_inv (fun i τ M' => Sub M M' ∧ ∃ f, M f = none ∧ ChAt M' f ws (P.take i) ∧ ∃ o3 o4 o5 o6 o7, τ = [some (wsD ws), some (.ref a), some (.ref f), o3, o4, o5, o6, o7]) (fun i τ M' _ h => by rw [h.1 _ _ ha]) ?_ ?_ ⟨s1, f, hf, hc, none, none, none, none, none, rfl⟩
    · rintro i d τ M' nxt hd ⟨s, f, hf, ⟨rs, hfl, hlen, hch⟩, o3, o4, o5, o6, o7, rfl⟩ hnx'
      rw [List.getElem?_map] at hd
      cases ep : P[i]? with
      | none => rw [ep] at hd; cases hd
      | some p =>
        rw [ep] at hd
        simp only [Option.map_some, Option.some.injEq] at hd
        subst hd
        have w1 := wd_pos W p
        have hi := (List.getElem?_eq_some_iff.mp ep).1
        have tk : P.take (i + 1) = P.take i ++ [p] := by rw [List.take_add_one, ep]; rfl
        have np : p ∉ P.take i := fun hm => by
          obtain ⟨j, hj, ej⟩ := List.mem_take_iff_getElem.mp hm
          have hi2 := (List.getElem?_eq_some_iff.mp ep).2
          exact List.pairwise_iff_getElem.mp nd j i (by omega) hi (by omega) (by rw [ej, hi2])
        have lim : prodW ws (P.take (i + 1)) ≤ 1000 := Nat.le_trans (prodW_take_le W P _) hpr
        have lenk : ∀ {ds}, ds ∈ chD ws (P.take i) → ds.length = (P.take i).length := fun h => (chD_mem h).1
        let G : List Nat → List (List Nat) := fun ds => (List.range (wd ws p)).map fun o => ds ++ [o]
        have hG : chD ws (P.take (i + 1)) = (chD ws (P.take i)).flatMap G := by rw [tk, chD_snoc]
        have hcl : ∀ j, (((chD ws (P.take i)).take j).flatMap G).length ≤ 1000 := fun j => by
          have h1 : (((chD ws (P.take i)).take j).flatMap G).length ≤ ((chD ws (P.take i)).flatMap G).length := by
            conv => rhs; rw [← List.take_append_drop j (chD ws (P.take i)), List.flatMap_append, List.length_append]
            omega
          rw [← hG, chD_len] at h1
          omega
        refine seq_split (fun τ M'' => ∃ g, M' g = none ∧ M'' = put M' g (.lst []) ∧ τ = [some (wsD ws), some (.ref a), some (.ref f), some (.int p), some (.ref g), o5, o6, o7]) ?_ ?_
        rotate_left
        · intro nx2 hnx2
          walk_at "dl"
          exact ⟨by omega, fun g hg => hnx2 _ _ ⟨g, hg, rfl, rfl⟩⟩
        rintro τ M2 ⟨g, hg, rfl, rfl⟩
        have fg := ne_none hfl hg
        have s2 : Sub M' (put M' g (.lst [])) := Sub.refl.put hg
        have m2g : (put M' g (.lst [])) g = some (.lst []) := put_same
        have hgM : M g = none := s.none hg
        refine seq_split (fun τ M'' => Sub M' M'' ∧ (∃ us, M'' g = some (.lst (us.map D.ref)) ∧ ChL M'' (P.take (i + 1)) us (chD ws (P.take (i + 1)))) ∧ ∃ o5 o6 o7, τ = [some (wsD ws), some (.ref a), some (.ref f), some (.int p), some (.ref g), o5, o6, o7]) ?_ ?_
        rotate_left
        · intro nx2 hnx2
          walk_at "dl"
          simp only [itemsOf, keepOf, seqOf, s2 _ _ hfl]
          refine dLoop_inv (fun j τ M'' => Sub M' M'' ∧ (∃ us, M'' g = some (.lst (us.map D.ref)) ∧ ChL M'' (P.take (i + 1)) us (((chD ws (P.take i)).take j).flatMap G)) ∧ ∃ o5 o6 o7, τ = [some (wsD ws), some (.ref a), some (.ref f), some (.int p), some (.ref g), o5, o6, o7]) (fun j τ M'' _ h => by rw [h.1 _ _ hfl]) ?_ ?_ ⟨s2, ⟨[], m2g, rfl, fun i r ds h => by simp at h⟩, o5, o6, o7, rfl⟩
          · rintro j d τ M3 nxt2 hd ⟨s3, ⟨us, hus, hchl⟩, o5, o6, o7, rfl⟩ hnx3
            rw [List.getElem?_map] at hd
            cases er : rs[j]? with
            | none => rw [er] at hd; cases hd
            | some r =>
              rw [er] at hd
              simp only [Option.map_some, Option.some.injEq] at hd
              subst hd
              have hj : j < (chD ws (P.take i)).length := by rw [← hlen]; exact (List.getElem?_eq_some_iff.mp er).1
              have eds := List.getElem?_eq_getElem hj
              generalize (chD ws (P.take i))[j] = ds at eds
              have hr0 := hch j r ds er eds
              have ldl := lenk (List.mem_of_getElem? eds)
              walk_at "dl"
              refine ⟨ws, p, rfl, W, by omega, by omega, ?_⟩
              rw [Int.toNat_natCast]
              have tkj : (chD ws (P.take i)).take (j + 1) = (chD ws (P.take i)).take j ++ [ds] := by rw [List.take_add_one, eds]; rfl
              refine dLoop_inv (fun x τ M'' => Sub M' M'' ∧ (∃ us, M'' g = some (.lst (us.map D.ref)) ∧ ChL M'' (P.take (i + 1)) us (((chD ws (P.take i)).take j).flatMap G ++ (List.range x).map fun o => ds ++ [o])) ∧ ∃ o6 o7, τ = [some (wsD ws), some (.ref a), some (.ref f), some (.int p), some (.ref g), some (.ref r), o6, o7]) (fun _ _ _ _ _ => trivial) ?_ ?_ ⟨s3, ⟨us, hus, by simpa using hchl⟩, o6, o7, rfl⟩
              · rintro x d τ M4 nxt3 hd ⟨s4, ⟨us, hus, hchl⟩, o6, o7, rfl⟩ hnx4
                obtain ⟨hx, rfl⟩ := rng_at hd
                have hr4 := s4 _ _ hr0
                walk_at "dl"
                simp only [copyM, dictOf, hr4]
                refine ⟨by rw [metDk hr4]; trivial, fun m hm => ?_⟩
                have gm := ne_none hus hm
                have rm := ne_none hr4 hm
                simp only [dictOf, put_same, keyD, put_put]
                refine ⟨by rw [kvsOf_len ldl, List.length_take]; omega, ?_⟩
                rw [kvsOf_put ldl np, ← tk]
                have s5 : Sub M4 (put M4 m (.dk (kvsOf (P.take (i + 1)) (ds ++ [x])))) := Sub.refl.put hm
                have m5 : (put M4 m (.dk (kvsOf (P.take (i + 1)) (ds ++ [x])))) m = some (.dk (kvsOf (P.take (i + 1)) (ds ++ [x]))) := put_same
                generalize put M4 m (.dk (kvsOf (P.take (i + 1)) (ds ++ [x]))) = M5 at *
                have hus5 := s5 _ _ hus
                have hc5 := (hchl.sub s5).snoc m5
                simp only [app_at hus5]
                have hul : us.length ≤ 2000 := by
                  have := hchl.1
                  rw [List.length_append, List.length_map, List.length_range] at this
                  have := hcl j
                  omega
                have gN : M' g = none := hg
                refine ⟨by rw [metL hus5]; trivial, by rw [List.length_map]; omega, hnx4 _ _ ⟨sub_new (s4.trans s5) gN, ⟨us ++ [m], by rw [put_same, List.map_append]; rfl, ?_⟩, _, _, rfl⟩⟩
                rw [List.range_succ, List.map_append, ← List.append_assoc]
                refine ⟨hc5.1, fun z u es h1 h2 => ?_⟩
                have h3 := hc5.2 z u es h1 h2
                have : u ≠ g := by rintro rfl; rw [hus5] at h3; cases h3
                rw [put_ne this]; exact h3
              · rintro τ M4 ⟨s4, ⟨us, hus, hchl⟩, o6, o7, rfl⟩
                rw [len_rng] at hchl
                refine hnx3 _ _ ⟨s4, ⟨us, hus, ?_⟩, _, _, _, rfl⟩
                rw [tkj, List.flatMap_append, List.flatMap_cons, List.flatMap_nil, List.append_nil]
                exact hchl
          · rintro τ M3 ⟨s3, ⟨us, hus, hchl⟩, hτ⟩
            refine hnx2 _ _ ⟨s3, ⟨us, hus, ?_⟩, hτ⟩
            rw [List.length_map, hlen, List.take_length, ← hG] at hchl
            exact hchl
        rintro τ M3 ⟨s3, ⟨us, hus, hchl⟩, o5, o6, o7, rfl⟩
        walk_at "dl"
        exact hnx' _ _ ⟨s.trans s3, g, hgM, ⟨us, hus, hchl.1, hchl.2⟩, _, _, _, _, _, rfl⟩
    · rintro τ M' ⟨s, f, hf, hc, hτ⟩
      rw [List.length_map, List.take_length] at hc
      exact hnx _ _ ⟨s, f, hf, hc, hτ⟩
  rintro τ M2 ⟨s2, f, hf, hc, o3, o4, o5, o6, o7, rfl⟩
  walk_at "dl"
  exact dropQ_of (k f M2 hf s2 hc) .refl
theorem r_law_end : ∀ ds M Q E, sp_law_end ds M Q E → t_law_end K A (ends Q E) (dstart N_law_end ds) M := by
  rintro ds M Q E ⟨t, ws, a, kvs, kk, rfl, ha, w, hh, hk, hv, k⟩
  have sz := sl2
  unfold t_law_end N_law_end
  walk_at "dl"
  refine ⟨by omega, by omega, ?_⟩
  refine dLoop_inv (fun i τ M' => M' = M ∧ ∃ (u : QT) (o : Option D), τ = [some u.toD, some (.ref a), o] ∧ u.wf ws ∧ u.ht + i ≤ 23 ∧ knows kvs u kk ∧ u.ev kk = t.ev kk) (fun _ _ _ _ _ => trivial) ?_ ?_ ⟨rfl, t, none, rfl, w, by omega, hk, rfl⟩
  · rintro i d τ M' nxt hd ⟨rfl, u, o, rfl, uw, uh, uk, ue⟩ hnx
    obtain ⟨hi, rfl⟩ := rng_at hd
    cases u with
    | tell v =>
      rw [QT.ev] at ue
      simp only [QT.toD]
      walk_at "dl"
      simp only [if_true]
      rw [← ue] at k
      exact dropQ_of k .refl
    | look p bs =>
      obtain ⟨p0, p1, hl, hw⟩ := look_wf uw
      have hh2 : (QT.look p bs).ht = htL bs + 1 := by rw [QT.ht]
      rw [hh2] at uh
      have hp := uk p (by rw [QT.occ]; exact .inl rfl)
      have hv2 := hv p
      rw [← hl] at hv2
      have e := List.getElem?_eq_getElem hv2
      have hm := List.mem_of_getElem? e
      simp only [QT.toD]
      walk_at "dl"
      rw [if_neg (by decide)]
      simp only [dictRd, ha, keyD, hp, addD_int]
      have ei : (2 + ((kk p : Nat) : Int)) = (((kk p + 2 : Nat)) : Int) := by omega
      have ex : (D.str "look" :: D.int p :: toDs bs)[kk p + 2]? = some (bs[kk p]).toD := toDs_at e
      simp only [ei, ixG_nat ex]
      refine hnx _ _ ⟨rfl, bs[kk p], _, rfl, hw _ hm, by have := htL_mem hm; omega, fun q hq => uk q ?_, ?_⟩
      · rw [QT.occ]; exact .inr (occL_mem.mpr ⟨_, hm, hq⟩)
      · rw [← ue, QT.ev, evAt_get e]
  · rintro τ M' ⟨rfl, u, o, rfl, uw, uh, uk, ue⟩
    rw [len_rng] at uh
    have : Int.toNat 24 = 24 := rfl
    omega
end K58

set_option maxHeartbeats 4000000
namespace K58
open PySem L2 DL DQ
local macro_rules | `(tactic| walk_at "dl") => `(tactic| simp only [dSeq, dIfS, dB, dTru, truD, dOp, dVar, dC, dAsg, dAug, dCB, dCons, dNil, dRet, dRetN, dName, dGSub, dNext, ends, exOf, dstart, slot, oI0, oI, dAnd, dOr, dNot, dAndV, dOrV, dNotV, dNeg, dSl, dNoP, dPart, dFld, dFldS, dRaise, dLst, dTup, dFor, dIter, dRng1, dRng2, dCall, dMake, dMeth, dIxO, dLc, dYes, dGTup, dGCons, dGNil, dDrop, dBreak, dBM, dDIn, dNever, dChain, dRngD, dZip, dRaiseI, dLstRg, dDGet, dDGet2, dDNew, dGSubD, dDStar, dSortSet, dAugS, dDc, dIterX, dBX,
  eqD_str, neD_str, eqD_int, neD_int, ixG_t0, ixG_t1, isiG_str, isi_int, isi_int_s, isi_int_t, isi_tup, isi_tup_s, isi_tup_i, isi_str_i, isi_str_t, lenG_tup, addD_int, mulD_int, intG, List.nil_append, bne_iff_ne, ofS_inj, Bool.false_bne, Bool.true_bne,
  List.map, List.length_cons, List.length_nil, List.cons_append, List.append_nil, List.replicate, List.set, List.getElem?_cons_zero, List.getElem?_cons_succ, Option.join_some, Option.bind_some, decide_eq_true_eq])
local macro_rules | `(tactic| walk_at "so") => `(tactic| first | omega | (simp; done) | (simp; omega))
variable {K : PySem.W.Frag} {A : Adr} {w : World} {mg : Str → Option Value}
theorem put_ints {kvs : List (Key × D)} {k : Key} {o : Int} (h : (kvs.all fun p => isIntD p.2) = true) : ((putKD kvs k (.int o)).all fun p => isIntD p.2) = true := by
  rw [List.all_eq_true] at h ⊢
  intro q hq
  rcases putKD_mem hq with rfl | hq
  · rfl
  · exact h q hq
theorem rt_non {ws : List Nat} {t : QT} {kvs : List (Key × D)} {k : Kn} : rt ws t none [] kvs k = .tell (t.ev k) := rfl
theorem rt_some {ws : List Nat} {t : QT} {c kvs : List (Key × D)} {k : Kn} : rt ws t (some c) [] kvs k = .tell (if eqKD c kvs = true then .tup [.str "other", t.ev k] else t.ev k) := rfl
theorem rt_cons {ws : List Nat} {t : QT} {ch : Option (List (Key × D))} {p : Int} {ps : List Int} {kvs : List (Key × D)} {k : Kn} : rt ws t ch (p :: ps) kvs k = .look p ((List.range (wd ws p)).map fun o => match valD kvs (.inl p) with
    | some v => if sameID v (some (.int ((o : Nat) : Int))) = true then rt ws t ch ps (putKD kvs (.inl p) (.int ((o : Nat) : Int))) (upk k p o) else .tell (.tup [.str "never", .int ((o : Nat) : Int)])
    | none => rt ws t ch ps (putKD kvs (.inl p) (.int ((o : Nat) : Int))) (upk k p o)) := rfl
theorem r_law_retold {n : Nat} : ∀ ds M Q E, sp_law_retold (n + 1) ds M Q E → t_law_retold K A n (ends Q E) (dstart N_law_retold ds) M := by
  rintro ds M Q E ⟨ws, t, a, L, b, kvs, kk, X, ch, rfl, W, w, hh, ha, hLn, hL1, hb, hk1, hk2, hv, hsz, hint, hX, k⟩
  have sz := sl2
  unfold t_law_retold N_law_retold
  simp only [dstart, List.map, List.length_cons, List.length_nil, List.replicate, List.cons_append, List.nil_append]
  cases L with
  | nil =>
    refine seq_split (fun τ M' => False) (fun τ M' h => h.elim) ?_
    intro nx hnx
    refine ifS_of true (fun Q' E' h => ?_) ?_
    · walk_at "dl"
      simp only [lenG_at ha]
      exact h
    rw [if_pos rfl]
    walk_at "dl"
    refine ⟨t, ws, b, kvs, kk, rfl, hb, w, hh, fun q hq => hk1 q hq (by simp), hv, ?_⟩
    cases ch with
    | none =>
      have hX : X = .non := hX
      subst hX
      rw [rt_non] at k
      simp only [isG, isNone, bne_self_eq_false, Bool.true_bne, Bool.not_true, Bool.false_eq_true, if_false]
      rw [QT.toD] at k
      exact ⟨by omega, dropQ_of k .refl⟩
    | some c =>
      obtain ⟨r, rfl, hr, hci⟩ := hX
      rw [rt_some] at k
      simp only [isG, isNone, Bool.true_bne, Bool.not_false, if_true, eqDictG, hr, hb]
      refine ⟨hci, hint, ?_⟩
      simp only [Bool.false_bne]
      by_cases c1 : eqKD c kvs = true
      · simp only [c1, if_true] at k ⊢
        rw [QT.toD] at k
        exact ⟨by omega, by omega, dropQ_of k .refl⟩
      · simp only [c1, if_false, Bool.false_eq_true] at k ⊢
        rw [QT.toD] at k
        exact ⟨by omega, dropQ_of k .refl⟩
  | cons p ps =>
    have w1 := wd_pos W p
    simp only [List.length_cons] at hLn hL1 hsz
    have toN : ∀ M', Sub M M' → chOk ch X M' := fun M' s => by
      cases ch with
      | none => exact hX
      | some c => obtain ⟨r, h1, h2, h3⟩ := hX; exact ⟨r, h1, s _ _ h2, h3⟩
    let B : Nat → QT := fun o => match valD kvs (.inl p) with
      | some v => if sameID v (some (.int ((o : Nat) : Int))) = true then rt ws t ch ps (putKD kvs (.inl p) (.int ((o : Nat) : Int))) (upk kk p o) else .tell (.tup [.str "never", .int ((o : Nat) : Int)])
      | none => rt ws t ch ps (putKD kvs (.inl p) (.int ((o : Nat) : Int))) (upk kk p o)
    refine seq_split (fun τ M' => M' = M ∧ τ = [some (wsD ws), some t.toD, some (.ref a), some (.ref b), some X, none, none, none, none, none]) ?_ ?_
    rotate_left
    · intro nx hnx
      walk_at "dl"
      rw [lenG_at ha]
      simp only [eqD_int]
      rw [if_neg (by rw [decide_eq_true_eq, List.length_map, List.length_cons]; omega)]
      exact hnx _ _ ⟨rfl, rfl⟩
    rintro τ M1 ⟨rfl, rfl⟩
    refine seq_split (fun τ M' => M' = M1 ∧ τ = [some (wsD ws), some t.toD, some (.ref a), some (.ref b), some X, none, some (.int p), none, none, none]) ?_ ?_
    rotate_left
    · intro nx hnx
      walk_at "dl"
      rw [ix_at0 (x := .int p) (xs := ps.map D.int) ha]
      exact hnx _ _ ⟨rfl, rfl⟩
    rintro τ M2 ⟨rfl, rfl⟩
    refine seq_split (fun τ M' => ∃ q, M2 q = none ∧ M' = put M2 q (.lst []) ∧ τ = [some (wsD ws), some t.toD, some (.ref a), some (.ref b), some X, none, some (.int p), some (.ref q), none, none]) ?_ ?_
    rotate_left
    · intro nx hnx
      walk_at "dl"
      exact ⟨by omega, fun q hq => hnx _ _ ⟨q, hq, rfl, rfl⟩⟩
    rintro τ M3 ⟨q, hq, rfl, rfl⟩
    refine seq_split (fun τ M' => Sub M2 M' ∧ M' q = some (.lst ((List.range (wd ws p)).map fun o => (B o).toD)) ∧ ∃ o8 o9, τ = [some (wsD ws), some t.toD, some (.ref a), some (.ref b), some X, none, some (.int p), some (.ref q), o8, o9]) ?_ ?_
    rotate_left
    · intro nx hnx
      walk_at "dl"
      refine ⟨ws, p, rfl, W, by omega, by omega, ?_⟩
      rw [Int.toNat_natCast]
      refine dLoop_inv (fun i τ M' => Sub M2 M' ∧ M' q = some (.lst ((List.range i).map fun o => (B o).toD)) ∧ ∃ o8 o9, τ = [some (wsD ws), some t.toD, some (.ref a), some (.ref b), some X, none, some (.int p), some (.ref q), o8, o9]) (fun _ _ _ _ _ => trivial) ?_ ?_ ⟨Sub.refl.put hq, put_same, none, none, rfl⟩
      · rintro i d τ M' nxt hd ⟨s, hL, o8, o9, rfl⟩ hnx'
        obtain ⟨hi, rfl⟩ := rng_at hd
        have ha' := s _ _ ha
        have hb' := s _ _ hb
        have snoc : ∀ x : D, (B i).toD = x → (List.range i).map (fun o => (B o).toD) ++ [x] = (List.range (i + 1)).map fun o => (B o).toD := fun x e => by
          rw [List.range_succ, List.map_append, ← e]; rfl
        have hlen : ((List.range i).map fun o => (B o).toD).length < sizeLine := by simp; omega
        have again : ∀ (Dn : DN) (o9 : Option D), Dn.nx = nxt → B i = rt ws t ch ps (putKD kvs (.inl p) (.int ((i : Nat) : Int))) (upk kk p i) →
            dSeq (dAsg (dBM "dict" copyM (dVar 3) dNil) (dName 9)) (dSeq (dAsg (dVar 8) (dGSubD (dVar 9) (dVar 6))) (dDrop (dBM "list" appendM (dVar 7) (dCons (dCall (sp_law_retold n) [] (dCons (dVar 0) (dCons (dVar 1) (dCons (dSl (dVar 2) (dPart (dC (.int 1))) dNoP) (dCons (dVar 9) (dCons (dVar 4) dNil)))))) dNil)))) Dn
              [some (wsD ws), some t.toD, some (.ref a), some (.ref b), some X, none, some (.int p), some (.ref q), some (.int ((i : Nat) : Int)), o9] M' := by
          intro Dn o9 hDn hB
          walk_at "dl"
          simp only [copyM, dictOf, hb']
          refine ⟨by rw [metDk hb']; trivial, fun m hm => ?_⟩
          simp only [dictOf, put_same, keyD, put_put]
          refine ⟨by omega, ?_⟩
          have qm := ne_none hL hm
          have s1 : Sub M' (put M' m (.dk (putKD kvs (.inl p) (.int ((i : Nat) : Int))))) := Sub.refl.put hm
          have m1 : (put M' m (.dk (putKD kvs (.inl p) (.int ((i : Nat) : Int))))) m = some (.dk (putKD kvs (.inl p) (.int ((i : Nat) : Int)))) := put_same
          generalize put M' m (.dk (putKD kvs (.inl p) (.int ((i : Nat) : Int)))) = M5 at *
          have hL5 := s1 _ _ hL
          refine ⟨by rw [metL hL5]; trivial, ?_⟩
          simp only [slG, seqOf, s1 _ _ ha', List.map_cons, cut_1]
          intro x hx
          have s2 : Sub M5 (put M5 x (.lst (ps.map D.int))) := Sub.refl.put hx
          have m2 : (put M5 x (.lst (ps.map D.int))) x = some (.lst (ps.map D.int)) := put_same
          generalize put M5 x (.lst (ps.map D.int)) = M6 at *
          have hL6 := s2 _ _ hL5
          have pl := putKD_length (l := kvs) (k := Sum.inl p) (d := .int ((i : Nat) : Int))
          refine ⟨ws, t, x, ps, m, putKD kvs (.inl p) (.int ((i : Nat) : Int)), upk kk p i, X, ch, rfl, W, w, hh, m2, by omega, by omega, s2 _ _ m1, fun z hz hnz => ?_, fun z v hzv => ?_, vk_upk hv hi, by omega, put_ints hint, toN _ ((s.trans s1).trans s2), ?_⟩
          · rw [valD_put]
            by_cases c : p = z
            · subst c; rw [if_pos rfl, upk_same]
            · rw [if_neg (by simpa using c), upk_ne (fun e => c e.symm)]
              exact hk1 z hz (by simp only [List.mem_cons, not_or]; exact ⟨fun e => c e.symm, hnz⟩)
          · rw [valD_put] at hzv
            by_cases c : p = z
            · subst c; rw [if_pos rfl] at hzv; rw [upk_same]; exact (Option.some.inj hzv).symm
            · rw [if_neg (by simpa using c)] at hzv
              rw [upk_ne (fun e => c e.symm)]
              exact hk2 z v hzv
          · simp only [app_at hL6]
            refine ⟨hlen, ?_⟩
            rw [hDn, snoc _ (by rw [hB])]
            exact hnx' _ _ ⟨sub_new ((s.trans s1).trans s2) hq, put_same, _, _, rfl⟩
        refine (show dIfS _ _ _ _ [some (wsD ws), some t.toD, some (.ref a), some (.ref b), some X, none, some (.int p), some (.ref q), some (.int ((i : Nat) : Int)), o9] M' from ?_)
        cases ev : valD kvs (.inl p) with
        | none =>
          have hB : B i = rt ws t ch ps (putKD kvs (.inl p) (.int ((i : Nat) : Int))) (upk kk p i) := by simp only [B, ev]
          refine ifS_of false (fun Q' E' h => ?_) (by rw [if_neg Bool.false_ne_true]; exact again _ _ rfl hB)
          walk_at "dl"
          simp only [dDIn, dVar, slot, List.getElem?_cons_zero, List.getElem?_cons_succ, Option.join_some, dictRd, hb', keyD, ev, Option.isSome_none, Bool.false_bne, Bool.false_eq_true, if_false]
          exact h
        | some v =>
          have hvv := hk2 p v ev
          subst hvv
          by_cases c : kk p = i
          · have hs : sameID (.int ((kk p : Nat) : Int)) (some (.int ((i : Nat) : Int))) = true := by rw [c]; simp [sameID]
            have hB : B i = rt ws t ch ps (putKD kvs (.inl p) (.int ((i : Nat) : Int))) (upk kk p i) := by simp only [B, ev, hs, if_true]
            refine ifS_of false (fun Q' E' h => ?_) (by rw [if_neg Bool.false_ne_true]; exact again _ _ rfl hB)
            walk_at "dl"
            simp only [dDIn, dVar, slot, List.getElem?_cons_zero, List.getElem?_cons_succ, Option.join_some, dictRd, hb', keyD, ev, Option.isSome_some, Bool.false_bne, if_true, neD_int, c, decide_true, Bool.not_true]
            exact h
          · have c' : ¬ ((kk p : Nat) : Int) = ((i : Nat) : Int) := by omega
            have hs : ¬ sameID (.int ((kk p : Nat) : Int)) (some (.int ((i : Nat) : Int))) = true := by simp [sameID]; omega
            have hB : B i = .tell (.tup [.str "never", .int ((i : Nat) : Int)]) := by simp only [B, ev, hs, if_false]; simp
            refine ifS_of true (fun Q' E' h => ?_) ?_
            · walk_at "dl"
              simp only [dDIn, dVar, slot, List.getElem?_cons_zero, List.getElem?_cons_succ, Option.join_some, dictRd, hb', keyD, ev, Option.isSome_some, Bool.false_bne, if_true, neD_int, c', decide_false, Bool.not_false]
              exact h
            · rw [if_pos rfl]
              walk_at "dl"
              refine ⟨by rw [metL hL]; trivial, by omega, by omega, ?_⟩
              simp only [app_at hL]
              refine ⟨hlen, ?_⟩
              rw [snoc _ (by rw [hB, QT.toD])]
              exact hnx' _ _ ⟨sub_new s hq, put_same, _, _, rfl⟩
      · rintro τ M' ⟨s, hL, hτ⟩
        rw [len_rng] at hL
        exact hnx _ _ ⟨s, hL, hτ⟩
    rintro τ M4 ⟨s4, hL, o8, o9, rfl⟩
    walk_at "dl"
    rw [tup_at hL, addD_tup]
    refine ⟨by omega, by simp; omega, ?_⟩
    rw [rt_cons, QT.toD, toDs_map, List.map_map] at k
    exact dropQ_of k s4
end K58

set_option maxHeartbeats 4000000
namespace K58
open PySem L2 DL DQ
local macro_rules | `(tactic| walk_at "dl") => `(tactic| simp only [dSeq, dIfS, dB, dTru, truD, dOp, dVar, dC, dAsg, dAug, dCB, dCons, dNil, dRet, dRetN, dName, dGSub, dNext, ends, exOf, dstart, slot, oI0, oI, dAnd, dOr, dNot, dAndV, dOrV, dNotV, dNeg, dSl, dNoP, dPart, dFld, dFldS, dRaise, dLst, dTup, dFor, dIter, dRng1, dRng2, dCall, dMake, dMeth, dIxO, dLc, dYes, dGTup, dGCons, dGNil, dDrop, dBreak, dBM, dDIn, dNever, dChain, dRngD, dZip, dRaiseI, dLstRg, dDGet, dDGet2, dDNew, dGSubD, dDStar, dSortSet, dAugS, dDc, dIterX, dBX,
  eqD_str, neD_str, eqD_int, neD_int, ixG_t0, ixG_t1, isiG_str, isi_int, isi_int_s, isi_int_t, isi_tup, isi_tup_s, isi_tup_i, isi_str_i, isi_str_t, lenG_tup, addD_int, mulD_int, intG, List.nil_append, bne_iff_ne, ofS_inj, Bool.false_bne, Bool.true_bne,
  List.map, List.length_cons, List.length_nil, List.cons_append, List.append_nil, List.replicate, List.set, List.getElem?_cons_zero, List.getElem?_cons_succ, Option.join_some, Option.bind_some, decide_eq_true_eq])
local macro_rules | `(tactic| walk_at "so") => `(tactic| first | omega | (simp; done) | (simp; omega))
variable {K : PySem.W.Frag} {A : Adr} {w : World} {mg : Str → Option Value}
theorem prodW_perm {ws : List Nat} {A B : List Int} (h : A.Perm B) : prodW ws A = prodW ws B := by
  induction h with
  | nil => rfl
  | cons x _ ih => rw [prodW, prodW, ih]
  | swap x y l => rw [prodW, prodW, prodW, prodW, Nat.mul_left_comm]
  | trans _ _ h1 h2 => rw [h1, h2]
theorem prodW_sub {ws : List Nat} (W : okW ws) : ∀ {A B : List Int}, A.Nodup → (∀ x ∈ A, x ∈ B) → prodW ws A ≤ prodW ws B
  | [], B, _, _ => by rw [prodW]; exact prodW_pos W B
  | a :: A, B, nd, h => by
    obtain ⟨n1, n2⟩ := List.nodup_cons.mp nd
    have hp := List.perm_cons_erase (h a (by simp))
    rw [prodW_perm hp, prodW, prodW]
    refine Nat.mul_le_mul_left _ (prodW_sub W n2 fun x hx => ?_)
    have hne : x ≠ a := fun e => n1 (e ▸ hx)
    exact (List.mem_erase_of_ne hne).mpr (h x (List.mem_cons_of_mem _ hx))
theorem ones_perm {ws : List Nat} {A B : List Int} (h : A.Perm B) : ones ws A = ones ws B := (h.filter _).length_eq
theorem fullN_le {ws : List Nat} (W : okW ws) : ∀ P : List Int, fullN ws P + 1 ≤ prodW ws P * (1 + ones ws P)
  | [] => by simp [fullN, prodW, ones]
  | p :: ps => by
    have ih := fullN_le W ps
    have w1 := wd_pos W p
    have hp := prodW_pos W ps
    rw [fullN, prodW]
    by_cases c : wd ws p = 1
    · have e : ones ws (p :: ps) = ones ws ps + 1 := by unfold ones; rw [List.filter_cons_of_pos (by simp [c])]; rfl
      rw [e, c, Nat.one_mul, Nat.one_mul]
      have : prodW ws ps * (1 + (ones ws ps + 1)) = prodW ws ps * (1 + ones ws ps) + prodW ws ps := by rw [← Nat.add_assoc, Nat.mul_add _ _ 1, Nat.mul_one]
      omega
    · have e : ones ws (p :: ps) = ones ws ps := by unfold ones; rw [List.filter_cons_of_neg (by simpa using c)]
      rw [e, Nat.mul_assoc]
      have h2 : wd ws p * (fullN ws ps + 1) ≤ wd ws p * (prodW ws ps * (1 + ones ws ps)) := Nat.mul_le_mul_left _ ih
      rw [Nat.mul_add, Nat.mul_one] at h2
      omega
theorem len_sub {A B : List Int} (nd : A.Nodup) (h : ∀ x ∈ A, x ∈ B) : A.length ≤ B.length := nd.length_le_of_subset fun x hx => h x hx
theorem good_of {ws : List Nat} (W : okW ws) {t : QT} {P : List Int} (w : t.wf ws) (hh : t.ht ≤ 20) (hk : t.nk ≤ 300) (ho : ∀ q, t.occ q → q ∈ P) (hp : prodW ws P ≤ 256) (hl : P.length < 64) : goodQ ws t :=
  ⟨W, w, hh, hk, Nat.le_trans (prodW_sub W (named_nodup t) fun x hx => ho x (mem_named.mp hx)) hp, Nat.lt_of_le_of_lt (len_sub (named_nodup t) fun x hx => ho x (mem_named.mp hx)) hl⟩
theorem r_law_places : ∀ ds M Q E, sp_law_places ds M Q E → t_law_places K A (ends Q E) (dstart N_law_places ds) M := by
  rintro ds M Q E ⟨s, l, ns, ws, c, lim, rfl, P, W, c1, c2, l1, l2, k⟩
  have sz := sl2
  have J := LS.zero (S := Is s) P rfl
  unfold t_law_places N_law_places
  simp only [dstart, List.map, List.length_cons, List.length_nil, List.replicate, List.cons_append, List.nil_append]
  refine seq_split (fun τ M' => ∃ p, LS (Is s) M M' s l ns ∧ Own (Is s) M M' s l p (.lst []) ∧ τ = [some (.ref s), some (wsD ws), some (.int ((c : Nat) : Int)), some (.int ((lim : Nat) : Int)), some (.ref p), none, none, none, none, none]) ?_ ?_
  rotate_left
  · intro nx hnx
    walk_at "dl"
    exact ⟨by omega, fun p hp => hnx _ _ ⟨p, J.new hp, .new J hp, rfl⟩⟩
  rintro τ M1 ⟨p, J1, O1, rfl⟩
  refine seq_split (fun τ M' => M' = M1 ∧ τ = [some (.ref s), some (wsD ws), some (.int ((c : Nat) : Int)), some (.int ((lim : Nat) : Int)), some (.ref p), some (.int 1), none, none, none, none]) ?_ ?_
  rotate_left
  · intro nx hnx
    walk_at "dl"
    exact hnx _ _ ⟨rfl, rfl⟩
  rintro τ M2 ⟨rfl, rfl⟩
  refine seq_split (fun τ M' => M' = M2 ∧ τ = [some (.ref s), some (wsD ws), some (.int ((c : Nat) : Int)), some (.int ((lim : Nat) : Int)), some (.ref p), some (.int 1), some (.int 1), none, none, none]) ?_ ?_
  rotate_left
  · intro nx hnx
    walk_at "dl"
    exact hnx _ _ ⟨rfl, rfl⟩
  rintro τ M3 ⟨rfl, rfl⟩
  let I : Nat → Sl → Mp → Prop := fun i τ M' => LS (Is s) M M' s l ns ∧ ∃ L : List Int, L.length ≤ i ∧ (1 ≤ i → 1 ≤ L.length) ∧ L.Nodup ∧ (∀ p ∈ L, 0 ≤ p ∧ p < 100) ∧ prodW ws L * (1 + ones ws L) ≤ lim ∧ Own (Is s) M M' s l p (.lst (L.map D.int)) ∧
    ∃ o7 o8 o9, τ = [some (.ref s), some (wsD ws), some (.int ((c : Nat) : Int)), some (.int ((lim : Nat) : Int)), some (.ref p), some (.int ((prodW ws L : Nat) : Int)), some (.int ((1 + ones ws L : Nat) : Int)), o7, o8, o9]
  refine seq_split (I c) ?_ ?_
  rotate_left
  · intro nx hnx
    walk_at "dl"
    refine ⟨by omega, by omega, ?_⟩
    rw [Int.toNat_natCast]
    refine dLoop_inv I (fun _ _ _ _ _ => trivial) ?_ ?_ ⟨J1, [], by simp, by omega, List.nodup_nil, (fun _ h => nomatch h), by simp [prodW, ones]; omega, O1, none, none, none, by simp [prodW, ones]⟩
    · rintro i d τ M' nxt hd ⟨J', L, hl, hl1, nd, hr, hp, O', o7, o8, o9, rfl⟩ hnx'
      obtain ⟨hi, rfl⟩ := rng_at hd
      have hL12 : L.length ≤ 12 := by omega
      refine seq_split (fun τ M'' => LS (Is s) M M'' s l ns ∧ Own (Is s) M M'' s l p (.lst (L.map D.int)) ∧ ∃ x : Int, 0 ≤ x ∧ x < 100 ∧ τ = [some (.ref s), some (wsD ws), some (.int ((c : Nat) : Int)), some (.int ((lim : Nat) : Int)), some (.ref p), some (.int ((prodW ws L : Nat) : Int)), some (.int ((1 + ones ws L : Nat) : Int)), some (.int ((i : Nat) : Int)), some (.int x), o9]) ?_ ?_
      rotate_left
      · intro nx2 hnx2
        walk_at "dl"
        refine ⟨by omega, ?_⟩
        refine J'.chooseP (vs := [.int 3, .int 8, .int 100]) rfl (by decide) (by decide) fun q v M4 hv J4 e4 => ?_
        simp only [List.mem_cons, List.not_mem_nil, or_false] at hv
        have O4 := O'.ext e4
        have fin : ∀ z : Int, 1 ≤ z → z ≤ 100 → spPick [.ref s, .int z] M4 (fun y M5 => nx2 [some (.ref s), some (wsD ws), some (.int ((c : Nat) : Int)), some (.int ((lim : Nat) : Int)), some (.ref p), some (.int ((prodW ws L : Nat) : Int)), some (.int ((1 + ones ws L : Nat) : Int)), some (.int ((i : Nat) : Int)), some y, o9] M5) (exOf { nx := nx2, rt := dropQ Q, bk := fun x M => nx x M, ct := nxt, ex := fun x x_1 M => dropE E x M } [some (.ref s), some (wsD ws), some (.int ((c : Nat) : Int)), some (.int ((lim : Nat) : Int)), some (.ref p), some (.int ((prodW ws L : Nat) : Int)), some (.int ((1 + ones ws L : Nat) : Int)), some (.int ((i : Nat) : Int)), o8, o9]) := fun z z0 z1 =>
          J4.pick (by omega) (log_small (by omega)) fun r M5 r0 r1 J5 e5 => hnx2 _ _ ⟨J5, O4.ext e5, r, r0, by omega, rfl⟩
        rcases hv with rfl | rfl | rfl
        · exact fin 3 (by omega) (by omega)
        · exact fin 8 (by omega) (by omega)
        · exact fin 100 (by omega) (by omega)
      rintro τ M4 ⟨J4, O4, x, x0, x1, rfl⟩
      have w1 := wd_pos W x
      refine seq_split (fun τ M'' => M'' = M4 ∧ τ = [some (.ref s), some (wsD ws), some (.int ((c : Nat) : Int)), some (.int ((lim : Nat) : Int)), some (.ref p), some (.int ((prodW ws L : Nat) : Int)), some (.int ((1 + ones ws L : Nat) : Int)), some (.int ((i : Nat) : Int)), some (.int x), some (.int ((wd ws x : Nat) : Int))]) ?_ ?_
      rotate_left
      · intro nx2 hnx2
        walk_at "dl"
        exact ⟨ws, x, rfl, W, hnx2 _ _ ⟨rfl, rfl⟩⟩
      rintro τ M5 ⟨rfl, rfl⟩
      let u : Nat := if wd ws x = 1 then 1 else 0
      have hu : u ≤ 1 := by show (if wd ws x = 1 then 1 else 0) ≤ 1; split <;> omega
      have ones_app : ones ws (L ++ [x]) = ones ws L + u := by
        unfold ones
        rw [List.filter_append, List.length_append]
        congr 1
        show ([x].filter fun p => wd ws p == 1).length = if wd ws x = 1 then 1 else 0
        by_cases c : wd ws x = 1
        · rw [List.filter_cons_of_pos (by simp [c]), if_pos c]; rfl
        · rw [List.filter_cons_of_neg (by simpa using c), if_neg c]; rfl
      have prod_app : prodW ws (L ++ [x]) = prodW ws L * wd ws x := by rw [prodW_app]; simp [prodW]
      have hb := prodW_small W (P := L) (by omega)
      have hone : ones ws L ≤ 12 := by unfold ones; exact Nat.le_trans (List.length_filter_le _ _) hL12
      have hb2 : prodW ws L * wd ws x < 2 ^ 1000 := by rw [← prod_app]; exact prodW_small W (by simp; omega)
      have c01 : CMulX ((prodW ws L : Nat) : Int) ((wd ws x : Nat) : Int) := cmx hb (four_small (by omega))
      have ib : (if ((wd ws x : Nat) : Int) = 1 then (1 : Int) else 0) = ((u : Nat) : Int) := by
        show _ = (((if wd ws x = 1 then 1 else 0) : Nat) : Int)
        by_cases c : wd ws x = 1
        · simp [c]
        · have : ¬ ((wd ws x : Nat) : Int) = 1 := by omega
          simp [c, this]
      have yes : ¬ x ∈ L → prodW ws (L ++ [x]) * (1 + ones ws (L ++ [x])) ≤ lim → I (i + 1) [some (.ref s), some (wsD ws), some (.int ((c : Nat) : Int)), some (.int ((lim : Nat) : Int)), some (.ref p), some (.int ((prodW ws (L ++ [x]) : Nat) : Int)), some (.int ((1 + ones ws (L ++ [x]) : Nat) : Int)), some (.int ((i : Nat) : Int)), some (.int x), some (.int ((wd ws x : Nat) : Int))] (put M5 p (.lst ((L ++ [x]).map D.int))) := fun hx hpr =>
        ⟨J4.set O4, L ++ [x], by simp; omega, fun _ => by simp, by
          rw [List.nodup_append]
          exact ⟨nd, by simp, fun a ha z hz e => by rw [List.mem_singleton.mp hz] at e; exact hx (e ▸ ha)⟩, fun z hz => by
          rcases List.mem_append.mp hz with h | h
          · exact hr z h
          · rw [List.mem_singleton.mp h]; exact ⟨x0, x1⟩, hpr, O4.set, _, _, _, rfl⟩
      have no : (x ∈ L ∨ ¬ prodW ws (L ++ [x]) * (1 + ones ws (L ++ [x])) ≤ lim) → I (i + 1) [some (.ref s), some (wsD ws), some (.int ((c : Nat) : Int)), some (.int ((lim : Nat) : Int)), some (.ref p), some (.int ((prodW ws L : Nat) : Int)), some (.int ((1 + ones ws L : Nat) : Int)), some (.int ((i : Nat) : Int)), some (.int x), some (.int ((wd ws x : Nat) : Int))] M5 := fun hx => by
        refine ⟨J4, L, by omega, fun _ => ?_, nd, hr, hp, O4, _, _, _, rfl⟩
        cases hL : L with
        | cons a b => simp
        | nil =>
          exfalso
          rw [hL] at hx
          rcases hx with hx | hx
          · cases hx
          · apply hx
            rw [List.nil_append]
            simp only [prodW, Nat.mul_one]
            have : ones ws [x] = u := by
              have := ones_app; rw [hL] at this; simpa [ones] using this
            rw [this]
            show wd ws x * (1 + if wd ws x = 1 then 1 else 0) ≤ lim
            split
            · rename_i h; rw [h]; omega
            · omega
      refine ifS_p (¬ x ∈ L ∧ prodW ws (L ++ [x]) * (1 + ones ws (L ++ [x])) ≤ lim) (fun Q' E' q1 q2 => ?_) (fun c => ?_) fun c => ?_
      · walk_at "dl"
        simp only [in_ints O4.a, Bool.true_bne]
        by_cases c1 : x ∈ L
        · simp only [c1, decide_true, Bool.not_true, Bool.false_eq_true, if_false]
          exact q2 fun h => h.1 c1
        · simp only [c1, decide_false, Bool.not_false, if_true]
          refine ⟨c01, ?_⟩
          simp only [ib]
          refine ⟨?_, ?_⟩
          · rw [cast_mul]
            have : ((1 + ones ws L : Nat) : Int) + ((u : Nat) : Int) = ((1 + ones ws L + u : Nat) : Int) := by omega
            rw [this]
            exact cmx hb2 (four_small (by omega))
          · have e : (((prodW ws L : Nat) : Int) * ((wd ws x : Nat) : Int) * (((1 + ones ws L : Nat) : Int) + ((u : Nat) : Int)) ≤ ((lim : Nat) : Int)) ↔ prodW ws (L ++ [x]) * (1 + ones ws (L ++ [x])) ≤ lim := by
              have : ((1 + ones ws L : Nat) : Int) + ((u : Nat) : Int) = ((1 + ones ws (L ++ [x]) : Nat) : Int) := by rw [ones_app]; omega
              rw [this, cast_mul, cast_mul, ← prod_app]
              omega
            by_cases c2 : prodW ws (L ++ [x]) * (1 + ones ws (L ++ [x])) ≤ lim
            · simp only [e, c2, decide_true]
              exact q1 ⟨c1, c2⟩
            · simp only [e, c2, decide_false]
              exact q2 fun h => c2 h.2
      · walk_at "dl"
        simp only [app_at O4.a]
        refine ⟨by rw [metL O4.a]; trivial, by rw [List.length_map]; omega, c01, ?_⟩
        simp only [ib]
        have := hnx' _ _ (yes c.1 c.2)
        rw [ones_app, prod_app, ← Nat.add_assoc] at this
        rw [cast_mul]
        have e : ((1 + ones ws L : Nat) : Int) + ((u : Nat) : Int) = ((1 + ones ws L + u : Nat) : Int) := by omega
        rw [e]
        rw [List.map_append] at this
        exact this
      · simp only [dNext]
        refine hnx' _ _ (no ?_)
        by_cases c1 : x ∈ L
        · exact .inl c1
        · exact .inr fun h => c ⟨c1, h⟩
    · rintro τ M' h
      rw [len_rng] at h
      exact hnx _ _ h
  rintro τ M4 ⟨J4, L, hl, hl1, nd, hr, hp, O4, o7, o8, o9, rfl⟩
  walk_at "dl"
  exact dropQ_of (k L ⟨hl1 c1, by omega, nd, hr, hp⟩ p _ M4 rfl O4.new0 O4.a J4.P J4.X) .refl
end K58

set_option maxHeartbeats 4000000
namespace K58
open PySem L2 DL DQ
local macro_rules | `(tactic| walk_at "dl") => `(tactic| simp only [dSeq, dIfS, dB, dTru, truD, dOp, dVar, dC, dAsg, dAug, dCB, dCons, dNil, dRet, dRetN, dName, dGSub, dNext, ends, exOf, dstart, slot, oI0, oI, dAnd, dOr, dNot, dAndV, dOrV, dNotV, dNeg, dSl, dNoP, dPart, dFld, dFldS, dRaise, dLst, dTup, dFor, dIter, dRng1, dRng2, dCall, dMake, dMeth, dIxO, dLc, dYes, dGTup, dGCons, dGNil, dDrop, dBreak, dBM, dDIn, dNever, dChain, dRngD, dZip, dRaiseI, dLstRg, dDGet, dDGet2, dDNew, dGSubD, dDStar, dSortSet, dAugS, dDc, dIterX, dBX,
  eqD_str, neD_str, eqD_int, neD_int, ixG_t0, ixG_t1, isiG_str, isi_int, isi_int_s, isi_int_t, isi_tup, isi_tup_s, isi_tup_i, isi_str_i, isi_str_t, lenG_tup, addD_int, mulD_int, intG, List.nil_append, bne_iff_ne, ofS_inj, Bool.false_bne, Bool.true_bne,
  List.map, List.length_cons, List.length_nil, List.cons_append, List.append_nil, List.replicate, List.set, List.getElem?_cons_zero, List.getElem?_cons_succ, Option.join_some, Option.bind_some, decide_eq_true_eq])
local macro_rules | `(tactic| walk_at "so") => `(tactic| first | omega | (simp; done) | (simp; omega))
variable {K : PySem.W.Frag} {A : Adr} {w : World} {mg : Str → Option Value}
theorem geo_small {w lv : Nat} (h : (w = 1 ∧ lv ≤ 6) ∨ (w = 2 ∧ lv ≤ 5) ∨ (w = 3 ∧ lv ≤ 3) ∨ (w = 4 ∧ lv ≤ 3)) : geo w lv ≤ 300 ∧ lv ≤ 6 := by
  rcases h with ⟨rfl, h⟩ | ⟨rfl, h⟩ | ⟨rfl, h⟩ | ⟨rfl, h⟩
  · have : lv = 0 ∨ lv = 1 ∨ lv = 2 ∨ lv = 3 ∨ lv = 4 ∨ lv = 5 ∨ lv = 6 := by omega
    rcases this with rfl | rfl | rfl | rfl | rfl | rfl | rfl <;> decide
  · have : lv = 0 ∨ lv = 1 ∨ lv = 2 ∨ lv = 3 ∨ lv = 4 ∨ lv = 5 := by omega
    rcases this with rfl | rfl | rfl | rfl | rfl | rfl <;> decide
  · have : lv = 0 ∨ lv = 1 ∨ lv = 2 ∨ lv = 3 := by omega
    rcases this with rfl | rfl | rfl | rfl <;> decide
  · have : lv = 0 ∨ lv = 1 ∨ lv = 2 ∨ lv = 3 := by omega
    rcases this with rfl | rfl | rfl | rfl <;> decide
theorem r_law_term : ∀ ds M Q E, sp_law_term ds M Q E → t_law_term K A (ends Q E) (dstart N_law_term ds) M := by
  rintro ds M Q E ⟨s, l, ns, ws, a, L, b, vs, rfl, P, W, has, ha, hL, hbs, hb, hvs, k⟩
  have sz := sl2
  have J := LS.zero (S := Is s) P rfl
  obtain ⟨l0, l1, nd, hr, hpr⟩ := hL
  have hp256 : prodW ws L ≤ 256 := Nat.le_trans (Nat.le_mul_of_pos_right _ (by omega)) hpr
  unfold t_law_term N_law_term
  simp only [dstart, List.map, List.length_cons, List.length_nil, List.replicate, List.cons_append, List.nil_append]
  refine seq_split (fun τ M' => LS (Is s) M M' s l ns ∧ τ = [some (.ref s), some (wsD ws), some (.ref a), some (.ref b), none, none, none]) ?_ ?_
  rotate_left
  · intro nx hnx
    simp only [dIfS, dB, dOp, dCall, dCons, dVar, dC, dNil, slot, List.getElem?_cons_zero, Option.join_some, List.append_nil]
    refine J.pick (by decide) (by decide) fun r M2 r0 r1 J2 e2 => ?_
    simp only [eqD_int]
    by_cases c : r = 0
    · subst c
      simp only [decide_true, if_true]
      refine seq_split (fun τ M' => LS (Is s) M M' s l ns ∧ ∃ w lv : Nat, (∀ x ∈ ws, x ≤ w) ∧ ((w = 1 ∧ lv ≤ 6) ∨ (w = 2 ∧ lv ≤ 5) ∨ (w = 3 ∧ lv ≤ 3) ∨ (w = 4 ∧ lv ≤ 3)) ∧ τ = [some (.ref s), some (wsD ws), some (.ref a), some (.ref b), some (.int ((lv : Nat) : Int)), none, none]) ?_ ?_
      rotate_left
      · intro nx2 hnx2
        walk_at "dl"
        refine ⟨by omega, fun q hq => ?_⟩
        have J3 := J2.new hq (o := .lst [.int 6, .int 5, .int 3, .int 3])
        have hq3 : (put M2 q (.lst [.int 6, .int 5, .int 3, .int 3])) q = some (.lst [.int 6, .int 5, .int 3, .int 3]) := put_same
        generalize put M2 q (.lst [.int 6, .int 5, .int 3, .int 3]) = M3 at *
        refine ⟨_, ws.map fun w => ((w : Nat) : Int), rfl, by rw [List.map_map]; rfl, by have := W.1; simp; omega, fun m hm hmax => ?_⟩
        obtain ⟨w, hw, rfl⟩ := List.mem_map.mp hm
        have hw4 := W.2.2 w hw
        have hmx : ∀ x ∈ ws, x ≤ w := fun x hx => by
          have := hmax _ (List.mem_map.mpr ⟨x, hx, rfl⟩)
          omega
        have fin : ∀ z : Int, 1 ≤ z → z ≤ 6 → ((w = 1 ∧ z ≤ 6) ∨ (w = 2 ∧ z ≤ 5) ∨ (w = 3 ∧ z ≤ 3) ∨ (w = 4 ∧ z ≤ 3)) →
            spPick [.ref s, .int z] M3 (fun y M5 => addD (.int 1) y M5 fun d M6 => nx2 [some (.ref s), some (wsD ws), some (.ref a), some (.ref b), some d, none, none] M6) (exOf { nx := nx2, rt := dropQ Q, bk := fun x M => dropQ Q .non M, ct := fun _ _ => False, ex := fun x x_1 M => dropE E x M } [some (.ref s), some (wsD ws), some (.ref a), some (.ref b), none, none, none]) := fun z z0 z1 hz =>
          J3.pick (by omega) (log_small (by omega)) fun r M5 r0 r1 J5 e5 => by
            simp only [addD_int]
            exact hnx2 _ _ ⟨J5, w, (1 + r).toNat, hmx, by omega, by rw [Int.toNat_of_nonneg (by omega)]⟩
        show ixG (.ref q) (.int (((w : Nat) : Int) - 1)) M3 _
        have hwc : w = 1 ∨ w = 2 ∨ w = 3 ∨ w = 4 := by omega
        rcases hwc with rfl | rfl | rfl | rfl
        · rw [show ((1 : Nat) : Int) - 1 = ((0 : Nat) : Int) by rfl, ix_at hq3 rfl]
          exact fin 6 (by omega) (by omega) (by omega)
        · rw [show ((2 : Nat) : Int) - 1 = ((1 : Nat) : Int) by rfl, ix_at hq3 rfl]
          exact fin 5 (by omega) (by omega) (by omega)
        · rw [show ((3 : Nat) : Int) - 1 = ((2 : Nat) : Int) by rfl, ix_at hq3 rfl]
          exact fin 3 (by omega) (by omega) (by omega)
        · rw [show ((4 : Nat) : Int) - 1 = ((3 : Nat) : Int) by rfl, ix_at hq3 rfl]
          exact fin 3 (by omega) (by omega) (by omega)
      rintro τ M3 ⟨J3, w, lv, hmx, hc, rfl⟩
      obtain ⟨g1, g2⟩ := geo_small hc
      walk_at "dl"
      refine ⟨s, l, ns, ws, a, L, lv, b, vs, w, rfl, J3.P, W, has, J3.at_ ha has, l0, by omega, hr, hbs, J3.at_ hb hbs, hvs, hmx, by omega, fun t h1 h2 h3 h4 M4 P4 e4 => ?_⟩
      have J4 := J3.got P4 e4
      exact dropQ_of (k t ⟨good_of W h1.1 (by omega) (by omega) h3 hp256 (by omega), h1.2⟩ h3 (by omega) M4 J4.P J4.X) .refl
    · simp only [c, decide_false, Bool.false_eq_true, if_false, dNext]
      exact hnx _ _ ⟨J2, rfl⟩
  rintro τ M1 ⟨J1, rfl⟩
  have ha1 := J1.at_ ha has
  refine seq_split (fun τ M' => LS (Is s) M M' s l ns ∧ ∃ (q : Addr) (mk : List Int), Own (Is s) M M' s l q (.lst (mk.map D.int)) ∧ τ = [some (.ref s), some (wsD ws), some (.ref a), some (.ref b), none, some (.ref q), none]) ?_ ?_
  rotate_left
  · intro nx hnx
    walk_at "dl"
    simp only [itemsOf, keepOf, seqOf, ha1]
    intro q hq
    refine dCL_inv (fun j M' => LS (Is s) M M' s l ns ∧ ∃ mk : List Int, mk.length ≤ j ∧ Own (Is s) M M' s l q (.lst (mk.map D.int))) (fun i M' _ h => by rw [h.1.at_ ha has]) ?_ ?_ ⟨J1.new hq, [], by simp, .new J1 hq⟩
    · rintro i d M' nxt hd ⟨J', mk, hmk, O'⟩ hnx'
      rw [List.getElem?_map] at hd
      cases e : L[i]? with
      | none => rw [e] at hd; cases hd
      | some p =>
        rw [e] at hd
        simp only [Option.map_some, Option.some.injEq] at hd
        subst hd
        have hi := (List.getElem?_eq_some_iff.mp e).1
        simp only [wipeD]
        walk_at "dl"
        refine J'.pick (by decide) (by decide) fun r M2 r0 r1 J2 e2 => ?_
        have O2 := O'.ext e2
        simp only [eqD_int]
        by_cases c : r = 0
        · simp only [c, decide_true, if_true, O2.a]
          refine ⟨by rw [List.length_map]; omega, hnx' _ ⟨J2.set O2, mk ++ [p], by simp; omega, ?_⟩⟩
          rw [List.map_append]; exact O2.set
        · simp only [c, decide_false, Bool.false_eq_true, if_false]
          exact hnx' _ ⟨J2, mk, by omega, O2⟩
    · rintro M' ⟨J', mk, hmk, O'⟩
      exact hnx _ _ ⟨J', q, mk, O', rfl⟩
  rintro τ M2 ⟨J2, q, mk, O2, rfl⟩
  walk_at "dl"
  refine ⟨s, l, ns, a, L, rfl, J2.P, has, J2.at_ ha has, by omega, fun L' hperm p ws2 M3 hws2 hp hp3 P3 e3 => ?_⟩
  subst hws2
  have J3 := J2.got P3 e3
  have O3 := O2.ext e3
  have Op : Own (Is s) M M3 s l p (.lst (L'.map D.int)) := .got J2 hp hp3
  have hlen := hperm.length_eq
  refine ⟨s, l, ns, ws, p, L', q, mk, b, vs, 0, rfl, J3.P, W, Op.ns, Op.a, by omega, by omega, fun x hx => hr x (hperm.mem_iff.mp hx), O3.ns, O3.a, hbs, J3.at_ hb hbs, hvs, ?_, fun t h1 h2 h3 h4 M4 P4 e4 => ?_⟩
  · have : 2 ^ (L'.length * 2) ≤ 2 ^ 24 := Nat.pow_le_pow_right (by omega) (by omega)
    have h2 : (2 : Nat) ^ 24 * 4 < 2 ^ 250 := by decide
    omega
  · have J4 := J3.got P4 e4
    have hf := fullN_le W L'
    rw [prodW_perm hperm, ones_perm hperm] at hf
    exact dropQ_of (k t ⟨good_of W h1.1 (by omega) (by omega) (fun z hz => hperm.mem_iff.mp (h3 z hz)) hp256 (by omega), h1.2⟩ (fun z hz => hperm.mem_iff.mp (h3 z hz)) (by omega) M4 J4.P J4.X) .refl
theorem r_law_different : ∀ ds M Q E, sp_law_different ds M Q E → t_law_different K A (ends Q E) (dstart N_law_different ds) M := by
  rintro ds M Q E ⟨a, vs, rfl, ha, hl, hok, k⟩
  have sz := sl2
  unfold t_law_different N_law_different
  walk_at "dl"
  refine ⟨by walk_at "so", fun p hp => ?_⟩
  have hap : a ≠ p := ne_none ha hp
  have ha1 : (put M p (.lst [])) a = some (.lst vs) := by rw [put_ne hap]; exact ha
  simp only [itemsOf, keepOf, seqOf, ha1]
  refine dLoop_inv (fun i τ M' => Sub M M' ∧ M' p = some (.lst (dd (vs.take i))) ∧ ∃ o, τ = [some (.ref a), some (.ref p), o]) (fun i τ M' _ h => by rw [h.1 _ _ ha]) ?_ ?_ ⟨Sub.refl.put hp, by rw [put_same]; rfl, none, rfl⟩
  · rintro i v τ M' nxt hd ⟨s, hP, o, rfl⟩ hnx
    have hv := hok v (List.mem_of_getElem? hd)
    have dl := ddA_len (acc := []) (l := vs.take i)
    rw [List.length_take] at dl
    simp only [List.length_nil] at dl
    walk_at "dl"
    simp only [not_in_pv hP (ddA_ok (fun v hv => hok v (List.mem_of_mem_take hv)) (fun _ h => nomatch h)) hv]
    have e : dd (vs.take (i + 1)) = (open Classical in if v ∈ dd (vs.take i) then dd (vs.take i) else dd (vs.take i) ++ [v]) := by
      rw [List.take_add_one, hd, Option.toList_some]; exact ddA_snoc
    by_cases c : v ∈ dd (vs.take i)
    · rw [if_pos c] at e
      simp only [c, decide_true, Bool.not_true, Bool.false_eq_true, if_false]
      exact hnx _ _ ⟨s, by rw [e]; exact hP, _, rfl⟩
    · rw [if_neg c] at e
      simp only [c, decide_false, Bool.not_false, if_true, app_at hP]
      refine ⟨by rw [metL hP]; trivial, by unfold dd; omega, hnx _ _ ⟨sub_new s hp, by rw [put_same, e], _, rfl⟩⟩
  · rintro τ M' ⟨s, hP, o, rfl⟩
    rw [List.take_length] at hP
    walk_at "dl"
    refine ⟨put M p (.lst (dd vs)), ?_, k p hp⟩
    intro z u hz
    by_cases c : z = p
    · subst c; rw [put_same] at hz; rw [hP]; exact hz
    · rw [put_ne c] at hz; exact s _ _ hz
theorem r_law_many : ∀ ds M Q E, sp_law_many ds M Q E → t_law_many K A (ends Q E) (dstart N_law_many ds) M := by
  rintro ds M Q E ⟨ws, a, P, rfl, W, ha, hl, k⟩
  have sz := sl2
  unfold t_law_many N_law_many
  walk_at "dl"
  simp only [itemsOf, keepOf, seqOf, ha]
  refine dLoop_inv (fun i τ M' => M' = M ∧ ∃ o, τ = [some (wsD ws), some (.ref a), some (.int ((prodW ws (P.take i) : Nat) : Int)), o]) (fun i τ M' _ h => by rw [h.1, ha]) ?_ ?_ ⟨rfl, none, by simp [prodW]⟩
  · rintro i d τ M' nxt hd ⟨rfl, o, rfl⟩ hnx
    rw [List.getElem?_map] at hd
    cases e : P[i]? with
    | none => rw [e] at hd; cases hd
    | some p =>
      rw [e] at hd
      simp only [Option.map_some, Option.some.injEq] at hd
      subst hd
      have w1 := wd_pos W p
      walk_at "dl"
      refine ⟨ws, p, rfl, W, ?_⟩
      simp only [mulD_int]
      refine ⟨cmx (prodW_small W (by rw [List.length_take]; omega)) (four_small (by omega)), hnx _ _ ⟨rfl, some (.int p), ?_⟩⟩
      rw [cast_mul, List.take_add_one, e, Option.toList_some, prodW_app]
      simp [prodW]
  · rintro τ M' ⟨rfl, o, rfl⟩
    rw [List.length_map, List.take_length]
    walk_at "dl"
    exact dropQ_of k .refl
theorem drop_last {P : List Int} {i : Nat} {p : Int} (h : i < P.length) (hp : P[P.length - 1 - i]? = some p) : P.drop (P.length - 1 - i) = p :: P.drop (P.length - i) := by
  have hl : P.length - 1 - i < P.length := by omega
  rw [List.drop_eq_getElem_cons hl]
  have := (List.getElem?_eq_some_iff.mp hp).2
  rw [this]
  congr 2
  omega
theorem r_law_strides : ∀ ds M Q E, sp_law_strides ds M Q E → t_law_strides K A (ends Q E) (dstart N_law_strides ds) M := by
  rintro ds M Q E ⟨ws, a, P, rfl, W, ha, hl, k⟩
  have sz := sl2
  unfold t_law_strides N_law_strides
  walk_at "dl"
  refine ⟨by omega, fun f hf => ?_⟩
  have ha0 : (put M f (.lst [])) a = some (.lst (P.map D.int)) := by rw [put_ne (ne_none ha hf)]; exact ha
  rw [lenG_at ha0, List.length_map]
  simp only
  refine ⟨by omega, by omega, ?_⟩
  rw [Int.toNat_natCast]
  let S : Nat → List D := fun i => (List.range i).map fun j => D.int ((prodW ws (P.drop (P.length - i + j + 1)) : Nat) : Int)
  refine dLoop_inv (fun i τ M' => Sub M M' ∧ ∃ g, M g = none ∧ M' g = some (.lst (S i)) ∧ ∃ o, τ = [some (wsD ws), some (.ref a), some (.ref g), some (.int ((prodW ws (P.drop (P.length - i)) : Nat) : Int)), o]) (fun _ _ _ _ _ => trivial) ?_ ?_ ⟨Sub.refl.put hf, f, hf, put_same, none, by simp [prodW]⟩
  · rintro i d τ M' nxt hd ⟨s, g, hg, hL, o, rfl⟩ hnx
    obtain ⟨hi, rfl⟩ := rng_at hd
    have ha' := s _ _ ha
    have hpi : P.length - 1 - i < P.length := by omega
    have hp := List.getElem?_eq_getElem hpi
    generalize P[P.length - 1 - i] = p at hp
    have w1 := wd_pos W p
    have dl := drop_last hi hp
    have pe : prodW ws (P.drop (P.length - (i + 1))) = wd ws p * prodW ws (P.drop (P.length - i)) := by
      rw [show P.length - (i + 1) = P.length - 1 - i by omega, dl, prodW]
    have Ss : [D.int ((prodW ws (P.drop (P.length - i)) : Nat) : Int)] ++ S i = S (i + 1) := by
      show _ = (List.range (i + 1)).map fun j => D.int ((prodW ws (P.drop (P.length - (i + 1) + j + 1)) : Nat) : Int)
      rw [List.range_succ_eq_map, List.map_cons, List.map_map]
      show D.int _ :: (List.range i).map _ = _
      congr 1
      · congr 4; omega
      · refine List.map_congr_left fun j _ => ?_
        show D.int _ = D.int _
        congr 4
        simp only [Nat.succ_eq_add_one]
        omega
    walk_at "dl"
    refine ⟨by omega, fun x hx => ?_⟩
    have gx := ne_none hL hx
    have xg : x ≠ g := Ne.symm gx
    rw [addD_lst (M := put M' x (.lst [D.int ((prodW ws (P.drop (P.length - i)) : Nat) : Int)])) put_same (show (put M' x (.lst [D.int ((prodW ws (P.drop (P.length - i)) : Nat) : Int)])) g = some (.lst (S i)) by rw [put_ne gx]; exact hL)]
    refine ⟨by simp [S]; omega, fun y hy => ?_⟩
    rw [Ss]
    have s1 : Sub M' (put M' x (.lst [D.int ((prodW ws (P.drop (P.length - i)) : Nat) : Int)])) := Sub.refl.put hx
    generalize put M' x (.lst [D.int ((prodW ws (P.drop (P.length - i)) : Nat) : Int)]) = M2 at *
    have s2 : Sub M2 (put M2 y (.lst (S (i + 1)))) := Sub.refl.put hy
    have hy2 : (put M2 y (.lst (S (i + 1)))) y = some (.lst (S (i + 1))) := put_same
    have hyM : M y = none := (s.trans s1).none hy
    generalize put M2 y (.lst (S (i + 1))) = M3 at *
    have ha3 := s2 _ _ (s1 _ _ ha')
    rw [lenG_at ha3, List.length_map]
    simp only
    have ei : ((P.length : Nat) : Int) - 1 - ((i : Nat) : Int) = ((P.length - 1 - i : Nat) : Int) := by omega
    rw [ei, ix_at ha3 (show (P.map D.int)[P.length - 1 - i]? = some (.int p) by rw [List.getElem?_map, hp]; rfl)]
    refine ⟨ws, p, rfl, W, ?_⟩
    simp only [mulD_int]
    refine ⟨cmx (prodW_small W (by rw [List.length_drop]; omega)) (four_small (by omega)), hnx _ _ ⟨(s.trans s1).trans s2, y, hyM, hy2, some (.int ((i : Nat) : Int)), ?_⟩⟩
    rw [cast_mul, Nat.mul_comm, ← pe]
  · rintro τ M' ⟨s, g, hg, hL, o, rfl⟩
    rw [len_rng] at hL
    walk_at "dl"
    have e : S P.length = stridesOf ws P := by
      show (List.range P.length).map _ = (List.range P.length).map _
      refine List.map_congr_left fun j _ => ?_
      congr 4
      omega
    rw [e] at hL
    refine ⟨put M g (.lst (stridesOf ws P)), ?_, k g hg⟩
    intro z u hz
    by_cases c : z = g
    · subst c; rw [put_same] at hz; rw [hL]; exact hz
    · rw [put_ne c] at hz; exact s _ _ hz
end K58

set_option maxHeartbeats 4000000
namespace K58
open PySem L2 DL DQ
local macro_rules | `(tactic| walk_at "dl") => `(tactic| simp only [dSeq, dIfS, dB, dTru, truD, dOp, dVar, dC, dAsg, dAug, dCB, dCons, dNil, dRet, dRetN, dName, dGSub, dNext, ends, exOf, dstart, slot, oI0, oI, dAnd, dOr, dNot, dAndV, dOrV, dNotV, dNeg, dSl, dNoP, dPart, dFld, dFldS, dRaise, dLst, dTup, dFor, dIter, dRng1, dRng2, dCall, dMake, dMeth, dIxO, dLc, dYes, dGTup, dGCons, dGNil, dDrop, dBreak, dBM, dDIn, dNever, dChain, dRngD, dZip, dRaiseI, dLstRg, dDGet, dDGet2, dDNew, dGSubD, dDStar, dSortSet, dAugS, dDc, dIterX, dBX,
  eqD_str, neD_str, eqD_int, neD_int, ixG_t0, ixG_t1, isiG_str, isi_int, isi_int_s, isi_int_t, isi_tup, isi_tup_s, isi_tup_i, isi_str_i, isi_str_t, lenG_tup, addD_int, mulD_int, intG, List.nil_append, bne_iff_ne, ofS_inj, Bool.false_bne, Bool.true_bne,
  List.map, List.length_cons, List.length_nil, List.cons_append, List.append_nil, List.replicate, List.set, List.getElem?_cons_zero, List.getElem?_cons_succ, Option.join_some, Option.bind_some, decide_eq_true_eq])
local macro_rules | `(tactic| walk_at "so") => `(tactic| first | omega | (simp; done) | (simp; omega))
variable {K : PySem.W.Frag} {A : Adr} {w : World} {mg : Str → Option Value}
theorem ChAt.at_ {M : Mp} {a : Addr} {ws : List Nat} {P : List Int} {i : Nat} {ds : List Nat} (h : ChAt M a ws P) (e : (chD ws P)[i]? = some ds) : ∃ rs : List Addr, ∃ r, M a = some (.lst (rs.map D.ref)) ∧ (rs.map D.ref)[i]? = some (.ref r) ∧ M r = some (.dk (kvsOf P ds)) := by
  obtain ⟨rs, h1, h2, h3⟩ := h
  have hi : i < rs.length := by rw [h2]; exact (List.getElem?_eq_some_iff.mp e).1
  exact ⟨rs, rs[i], h1, by rw [List.getElem?_map, List.getElem?_eq_getElem hi]; rfl, h3 i _ ds (List.getElem?_eq_getElem hi) e⟩
theorem ChAt.sub {M M' : Mp} {a : Addr} {ws : List Nat} {P : List Int} (h : ChAt M a ws P) (s : Sub M M') : ChAt M' a ws P := by
  obtain ⟨rs, h1, h2, h3⟩ := h
  exact ⟨rs, s _ _ h1, h2, fun i r ds a b => s _ _ (h3 i r ds a b)⟩
theorem TabAt.sub {M M' : Mp} {ws : List Nat} {P : List Int} {f : Kn → D} {p c d : Addr} (h : TabAt M ws P f p c d) (s : Sub M M') : TabAt M' ws P f p c d :=
  ⟨h.W, h.a, h.r, h.n, h.o, h.v, h.pr, s _ _ h.sp, ChAt.sub h.ch s, s _ _ h.td⟩
theorem TabAt.nd {M : Mp} {ws : List Nat} {P : List Int} {f : Kn → D} {p c d : Addr} (h : TabAt M ws P f p c d) : P.Nodup := nodup_asc h.a
theorem lenCh {M : Mp} {a : Addr} {ws : List Nat} {P : List Int} {Q : DK} (h : ChAt M a ws P) : lenG [.ref a] M Q = Q (.int ((prodW ws P : Nat) : Int)) M := by
  obtain ⟨rs, h1, h2, _⟩ := h
  rw [lenG_at h1, List.length_map, h2, chD_len]
theorem tab_ok {M : Mp} {ws : List Nat} {P : List Int} {f : Kn → D} {p c d : Addr} (h : TabAt M ws P f p c d) : ∀ v ∈ table ws P f, okV v := fun v hv => by
  rw [table_chD] at hv
  obtain ⟨ds, hd, rfl⟩ := List.mem_map.mp hv
  exact h.v _ (kn_vk h.W hd)
theorem tab_at {ws : List Nat} {P : List Int} {f : Kn → D} {i : Nat} {ds : List Nat} (e : (chD ws P)[i]? = some ds) : (table ws P f)[i]? = some (f (kn P ds)) := by rw [table_chD, List.getElem?_map, e]; rfl
theorem ne_lists {M : Mp} {a b : Addr} {xs ys : List D} {Q : DK} (ha : M a = some (.lst xs)) (hb : M b = some (.lst ys)) (hx : ∀ v ∈ xs, okV v) (hy : ∀ v ∈ ys, okV v) : neD (.ref a) (.ref b) M Q = Q (.bl (!(open Classical in decide (xs = ys)))) M := by
  have e : eqbL xs ys = (open Classical in decide (xs = ys)) := by
    rw [Bool.eq_iff_iff, eqbL_iff (pvL_mem.mpr fun v hv => (hx v hv).1) (pvL_mem.mpr fun v hv => (hy v hv).1)]; simp
  have h1 : depL xs ≤ 60 := depL_le fun v hv => (hx v hv).2
  unfold neD eqG
  simp only [ha, hb, pvL_ok (pvL_mem.mpr fun v hv => (hx v hv).1), pvL_ok (pvL_mem.mpr fun v hv => (hy v hv).1), e, Bool.true_bne, true_and]
  have : min (depL xs) (depL ys) ≤ 199 := by omega
  simp only [this, true_and]
theorem r_law_needed : ∀ ds M Q E, sp_law_needed ds M Q E → t_law_needed K A (ends Q E) (dstart N_law_needed ds) M := by
  rintro ds M Q E ⟨ws, p, c, d, P, f, rfl, h, k⟩
  have sz := sl2
  have W := h.W
  have nd := h.nd
  have hpr := h.pr
  have hn := h.n
  unfold t_law_needed N_law_needed
  simp only [dstart, List.map, List.length_cons, List.length_nil, List.replicate, List.cons_append, List.nil_append]
  refine seq_split (fun τ M' => ∃ g, Sub M M' ∧ M' g = some (.lst (stridesOf ws P)) ∧ τ = [some (wsD ws), some (.ref p), some (.ref c), some (.ref d), some (.ref g), none, none, none, none]) ?_ ?_
  rotate_left
  · intro nx hnx
    walk_at "dl"
    exact ⟨ws, p, P, rfl, W, h.sp, by omega, fun g hg => hnx _ _ ⟨g, Sub.refl.put hg, put_same, rfl⟩⟩
  rintro τ M1 ⟨g, s1, hg, rfl⟩
  refine seq_split (fun τ M' => ∃ q, M1 q = none ∧ M' = put M1 q (.lst []) ∧ τ = [some (wsD ws), some (.ref p), some (.ref c), some (.ref d), some (.ref g), some (.ref q), none, none, none]) ?_ ?_
  rotate_left
  · intro nx hnx
    walk_at "dl"
    exact ⟨by omega, fun q hq => hnx _ _ ⟨q, hq, rfl, rfl⟩⟩
  rintro τ M2 ⟨q, hq, rfl, rfl⟩
  have s2 : Sub M1 (put M1 q (.lst [])) := Sub.refl.put hq
  have hqq : (put M1 q (.lst [])) q = some (.lst []) := put_same
  have hqM : M q = none := s1.none hq
  have gq : g ≠ q := ne_none hg hq
  generalize put M1 q (.lst []) = M2 at *
  let nl : Nat → List Int := fun i => (P.take i).filter fun p => (open Classical in decide (needs ws f p))
  refine seq_split (fun τ M' => Sub M M' ∧ M' q = some (.lst ((nl P.length).map D.int)) ∧ ∃ o6 o7 o8, τ = [some (wsD ws), some (.ref p), some (.ref c), some (.ref d), some (.ref g), some (.ref q), o6, o7, o8]) ?_ ?_
  rotate_left
  · intro nx hnx
    have h2 := h.sub (s1.trans s2)
    walk_at "dl"
    rw [lenG_at h2.sp, List.length_map]
    simp only
    refine ⟨by omega, by omega, ?_⟩
    rw [Int.toNat_natCast]
    refine dLoop_inv (fun i τ M' => Sub M M' ∧ M' g = some (.lst (stridesOf ws P)) ∧ M' q = some (.lst ((nl i).map D.int)) ∧ ∃ o6 o7 o8, τ = [some (wsD ws), some (.ref p), some (.ref c), some (.ref d), some (.ref g), some (.ref q), o6, o7, o8]) (fun _ _ _ _ _ => trivial) ?_ ?_ ⟨s1.trans s2, s2 _ _ hg, hqq, none, none, none, rfl⟩
    · rintro j d' τ M' nxt hd ⟨s, hG, hQ, o6, o7, o8, rfl⟩ hnx'
      obtain ⟨hj, rfl⟩ := rng_at hd
      have hP := List.getElem?_eq_getElem hj
      generalize P[j] = z at hP
      have hz := List.mem_of_getElem? hP
      have h' := h.sub s
      have hst : (stridesOf ws P)[j]? = some (.int ((prodW ws (P.drop (j + 1)) : Nat) : Int)) := by
        unfold stridesOf; rw [List.getElem?_map, List.getElem?_range hj]; rfl
      let g2 : Nat → D := fun k => f (upk (kn P ((chD ws P).getD k [])) z 0)
      have hg2 : (List.range (prodW ws P)).map g2 = (chD ws P).map fun ds => f (upk (kn P ds) z 0) := by
        apply List.ext_getElem?
        intro m
        rw [List.getElem?_map, List.getElem?_map]
        by_cases hm : m < prodW ws P
        · have hm2 : m < (chD ws P).length := by rw [chD_len]; exact hm
          rw [List.getElem?_range hm, List.getElem?_eq_getElem hm2]
          simp only [Option.map_some, g2, List.getD_eq_getElem?_getD, List.getElem?_eq_getElem hm2, Option.getD_some]
        · rw [List.getElem?_eq_none (by simp; omega), List.getElem?_eq_none (by rw [chD_len]; omega)]
          rfl
      refine seq_split (fun τ M'' => ∃ m, M' m = none ∧ M'' = put M' m (.lst ((chD ws P).map fun ds => f (upk (kn P ds) z 0))) ∧ ∃ o8, τ = [some (wsD ws), some (.ref p), some (.ref c), some (.ref d), some (.ref g), some (.ref q), some (.int ((j : Nat) : Int)), some (.ref m), o8]) ?_ ?_
      rotate_left
      · intro nx2 hnx2
        walk_at "dl"
        simp only [lenCh h'.ch]
        refine ⟨by omega, by omega, fun m hm => ?_⟩
        rw [Int.toNat_natCast]
        refine dCL_each (xs := List.range (prodW ws P)) (fun k => D.int ((k : Nat) : Int)) g2 rfl (by simp; omega) (fun _ => trivial) (fun k' hk' ys kk hkk => ?_) (hnx2 _ _ ⟨m, hm, by rw [hg2], _, rfl⟩)
        have hk' := List.mem_range.mp hk'
        have hk2 : k' < (chD ws P).length := by rw [chD_len]; exact hk'
        have eds := List.getElem?_eq_getElem hk2
        have hg2k : g2 k' = f (upk (kn P (chD ws P)[k']) z 0) := by
          simp only [g2, List.getD_eq_getElem?_getD, eds, Option.getD_some]
        generalize (chD ws P)[k'] = ds at eds hg2k
        have hdm := List.mem_of_getElem? eds
        have ldl := (chD_mem hdm).1
        obtain ⟨o, ho, how⟩ := (chD_mem hdm).2 j z hP
        have hkz : kn P ds z = o := kn_at nd hP ho
        obtain ⟨hle, hback⟩ := chD_back W eds ho
        have sy : Sub M' (put M' m (.lst ys)) := Sub.refl.put hm
        obtain ⟨rs, r, c1, c2, c3⟩ := ChAt.at_ (ChAt.sub h'.ch sy) eds
        have hsp := sy _ _ h'.sp
        have htd := sy _ _ h'.td
        have hGy := sy _ _ hG
        have hle2 : prodW ws (P.drop (j + 1)) ≤ 256 := by
          have e : prodW ws P = prodW ws (P.take (j + 1)) * prodW ws (P.drop (j + 1)) := by rw [← prodW_app, List.take_append_drop]
          have := Nat.le_mul_of_pos_left (prodW ws (P.drop (j + 1))) (prodW_pos W (P.take (j + 1)))
          omega
        simp only [wipeD]
        walk_at "dl"
        rw [ix_at c1 c2, ix_at hsp (show (P.map D.int)[j]? = some (.int z) by rw [List.getElem?_map, hP]; rfl)]
        simp only [dictRd, c3, keyD, kvsOf_val nd ldl hz, hkz]
        rw [ix_at hGy hst]
        have w1 := wd_pos W z
        simp only [mulD_int]
        refine ⟨cmx (four_small (by omega)) (four_small (by omega)), ?_⟩
        rw [cast_mul]
        have e : ((k' : Nat) : Int) - ((o * prodW ws (P.drop (j + 1)) : Nat) : Int) = ((k' - o * prodW ws (P.drop (j + 1)) : Nat) : Int) := by omega
        rw [e, ix_at htd (tab_at hback), kn_set nd ldl hP]
        rw [hg2k] at hkk
        exact hkk
      rintro τ M3 ⟨m, hm, rfl, o8, rfl⟩
      have sm : Sub M' (put M' m (.lst ((chD ws P).map fun ds => f (upk (kn P ds) z 0)))) := Sub.refl.put hm
      have hmm : (put M' m (.lst ((chD ws P).map fun ds => f (upk (kn P ds) z 0)))) m = some (.lst ((chD ws P).map fun ds => f (upk (kn P ds) z 0))) := put_same
      generalize put M' m (.lst ((chD ws P).map fun ds => f (upk (kn P ds) z 0))) = M3 at *
      have h3 := h'.sub sm
      have hQ3 := sm _ _ hQ
      have tk : P.take (j + 1) = P.take j ++ [z] := by rw [List.take_add_one, hP]; rfl
      have w0 := (wd_pos W z).1
      have okm : ∀ v ∈ (chD ws P).map fun ds => f (upk (kn P ds) z 0), okV v := fun v hv => by
        obtain ⟨ds, hd, rfl⟩ := List.mem_map.mp hv
        exact h.v _ (vk_upk (kn_vk W hd) w0)
      have key : ((chD ws P).map fun ds => f (upk (kn P ds) z 0)) = table ws P f ↔ ¬ needs ws f z := by
        rw [table_chD, List.map_inj_left]
        unfold needs
        rw [Classical.not_not, back_inds W nd h.o hz]
      have nlen : (nl j).length ≤ 12 := by
        show ((P.take j).filter _).length ≤ 12
        refine Nat.le_trans (List.length_filter_le _ _) ?_
        rw [List.length_take]; omega
      walk_at "dl"
      simp only [ne_lists hmm h3.td okm (tab_ok h)]
      by_cases cn : needs ws f z
      · have c1 : ¬ ((chD ws P).map fun ds => f (upk (kn P ds) z 0)) = table ws P f := fun e => key.mp e cn
        simp only [c1, decide_false, Bool.not_false, if_true]
        rw [ix_at h3.sp (show (P.map D.int)[j]? = some (.int z) by rw [List.getElem?_map, hP]; rfl)]
        simp only [app_at hQ3]
        refine ⟨by rw [metL hQ3]; trivial, by rw [List.length_map]; omega, hnx' _ _ ⟨sub_new (s.trans sm) hqM, ?_, ?_, _, _, _, rfl⟩⟩
        · rw [put_ne gq]
          exact sm _ _ hG
        · rw [put_same]
          have : nl (j + 1) = nl j ++ [z] := by
            show (P.take (j + 1)).filter _ = _
            rw [tk, List.filter_append, List.filter_cons_of_pos (by simpa using cn)]
            rfl
          rw [this, List.map_append]; rfl
      · have c1 : ((chD ws P).map fun ds => f (upk (kn P ds) z 0)) = table ws P f := key.mpr cn
        simp only [c1, decide_true, Bool.not_true, Bool.false_eq_true, if_false]
        have : nl (j + 1) = nl j := by
          show (P.take (j + 1)).filter _ = _
          rw [tk, List.filter_append, List.filter_cons_of_neg (by simpa using cn)]
          simp [nl]
        exact hnx' _ _ ⟨s.trans sm, sm _ _ hG, by rw [this]; exact hQ3, _, _, _, rfl⟩
    · rintro τ M' ⟨s, hG, hQ, hτ⟩
      rw [len_rng] at hQ
      exact hnx _ _ ⟨s, hQ, hτ⟩
  rintro τ M3 ⟨s3, hQ, o6, o7, o8, rfl⟩
  walk_at "dl"
  have e : nl P.length = need ws P f := by
    show (P.take P.length).filter _ = _
    rw [List.take_length]; rfl
  rw [e] at hQ
  refine ⟨put M q (.lst ((need ws P f).map D.int)), ?_, k q hqM⟩
  intro z u hz
  by_cases cz : z = q
  · subst cz; rw [put_same] at hz; rw [hQ]; exact hz
  · rw [put_ne cz] at hz; exact s3 _ _ hz
end K58

set_option maxHeartbeats 4000000
namespace K58
open PySem L2 DL DQ
local macro_rules | `(tactic| walk_at "dl") => `(tactic| simp only [dSeq, dIfS, dB, dTru, truD, dOp, dVar, dC, dAsg, dAug, dCB, dCons, dNil, dRet, dRetN, dName, dGSub, dNext, ends, exOf, dstart, slot, oI0, oI, dAnd, dOr, dNot, dAndV, dOrV, dNotV, dNeg, dSl, dNoP, dPart, dFld, dFldS, dRaise, dLst, dTup, dFor, dIter, dRng1, dRng2, dCall, dMake, dMeth, dIxO, dLc, dYes, dGTup, dGCons, dGNil, dDrop, dBreak, dBM, dDIn, dNever, dChain, dRngD, dZip, dRaiseI, dLstRg, dDGet, dDGet2, dDNew, dGSubD, dDStar, dSortSet, dAugS, dDc, dIterX, dBX,
  eqD_str, neD_str, eqD_int, neD_int, ixG_t0, ixG_t1, isiG_str, isi_int, isi_int_s, isi_int_t, isi_tup, isi_tup_s, isi_tup_i, isi_str_i, isi_str_t, lenG_tup, addD_int, mulD_int, intG, List.nil_append, bne_iff_ne, ofS_inj, Bool.false_bne, Bool.true_bne,
  List.map, List.length_cons, List.length_nil, List.cons_append, List.append_nil, List.replicate, List.set, List.getElem?_cons_zero, List.getElem?_cons_succ, Option.join_some, Option.bind_some, decide_eq_true_eq])
local macro_rules | `(tactic| walk_at "so") => `(tactic| first | omega | (simp; done) | (simp; omega))
variable {K : PySem.W.Frag} {A : Adr} {w : World} {mg : Str → Option Value}
theorem need_asc {ws : List Nat} {P : List Int} {f : Kn → D} (a : P.Pairwise (· < ·)) : (need ws P f).Pairwise (· < ·) := a.sublist List.filter_sublist
theorem mem_need {ws : List Nat} {P : List Int} {f : Kn → D} {p : Int} : p ∈ need ws P f ↔ p ∈ P ∧ needs ws f p := by unfold need; simp
theorem lastP_gt {P : List Int} (a : P.Pairwise (· < ·)) : ∀ p ∈ P, p < lastP P := fun p hp => by
  cases e : P.length with
  | zero => rw [List.eq_nil_of_length_eq_zero e] at hp; cases hp
  | succ i =>
    obtain ⟨q, e1, e2⟩ := lastP_at e
    rw [e2]
    rw [e1] at hp a
    rcases List.mem_append.mp hp with h | h
    · have := (List.pairwise_append.mp a).2.2 p h q (by simp); omega
    · rw [List.mem_singleton.mp h]; omega
/-- the places below the reach that matter -/
theorem rng_need {ws : List Nat} {P : List Int} {f : Kn → D} (a : P.Pairwise (· < ·)) (hr : ∀ p ∈ P, 0 ≤ p ∧ p < 100) : (rng 0 (lastP (need ws P f)).toNat).filter (fun p => decide (p ∈ need ws P f)) = need ws P f := by
  refine asc_unique (asc_rng.sublist List.filter_sublist) (need_asc a) fun k => ?_
  rw [List.mem_filter, mem_rng, decide_eq_true_eq]
  constructor
  · exact fun h => h.2
  · intro h
    have h1 := lastP_gt (need_asc a) k h
    have h2 := hr k (mem_need.mp h).1
    exact ⟨⟨h2.1, by omega⟩, h⟩
theorem cnt_rng {ws : List Nat} (W : okW ws) {P : List Int} {f : Kn → D} {v : D} (a : P.Pairwise (· < ·)) (hr : ∀ p ∈ P, 0 ≤ p ∧ p < 100) (ho : onlyOn ws f P) :
    cnt (table ws (rng 0 (lastP (need ws P f)).toNat) f) v = prodW ws ((rng 0 (lastP (need ws P f)).toNat).filter fun p => !decide (p ∈ need ws P f)) * cnt (table ws (need ws P f) f) v := by
  rw [cnt_split W (S := fun p => decide (p ∈ need ws P f)) (f := f) (v := v) (L := rng 0 (lastP (need ws P f)).toNat) ?_, rng_need a hr]
  intro p hp hs
  have hs : ¬ p ∈ need ws P f := by simpa using hs
  by_cases c : p ∈ P
  · exact Classical.byContradiction fun hn => hs (mem_need.mpr ⟨c, hn⟩)
  · exact onlyOn_out ho c
theorem cnt_len {l V : List D} (nd : V.Nodup) (h : ∀ u ∈ l, u ∈ V) : (V.map fun v => cnt l v).sum = l.length := by
  induction l with
  | nil =>
    have : ∀ V : List D, (V.map fun v => cnt [] v).sum = 0 := fun V => by
      induction V with
      | nil => rfl
      | cons a V ih => simp [cnt] at ih ⊢; exact ih
    rw [this]; rfl
  | cons u l ih =>
    have ih := ih fun x hx => h x (List.mem_cons_of_mem _ hx)
    have hu := h u (by simp)
    have e : ∀ v, cnt (u :: l) v = cnt [u] v + cnt l v := fun v => cnt_app (a := [u])
    have one : ∀ V : List D, V.Nodup → (V.map fun v => cnt [u] v).sum = (open Classical in if u ∈ V then 1 else 0) := fun V => by
      induction V with
      | nil => intro _; simp
      | cons a V ihV =>
        intro nd
        obtain ⟨n1, n2⟩ := List.nodup_cons.mp nd
        rw [List.map_cons, List.sum_cons, ihV n2, cnt_one]
        by_cases c : u = a
        · subst c; simp [n1]
        · rw [if_neg c, Nat.zero_add]
          by_cases m : u ∈ V
          · rw [if_pos m, if_pos (List.mem_cons_of_mem _ m)]
          · rw [if_neg m, if_neg (by simp [c, m])]
    have add : ∀ V : List D, (V.map fun v => cnt (u :: l) v).sum = (V.map fun v => cnt [u] v).sum + (V.map fun v => cnt l v).sum := fun V => by
      induction V with
      | nil => rfl
      | cons a V ihV => rw [List.map_cons, List.sum_cons, ihV, e, List.map_cons, List.sum_cons, List.map_cons, List.sum_cons]; omega
    rw [add, one V nd, ih, if_pos hu, List.length_cons]; omega
theorem counts_sum {ws : List Nat} {P : List Int} {f : Kn → D} (W : okW ws) (a : P.Pairwise (· < ·)) (ho : onlyOn ws f P) :
    ((dd (table ws P f)).map fun v => cnt (table ws (rng 0 (lastP (need ws P f)).toNat) f) v).sum = prodW ws (rng 0 (lastP (need ws P f)).toNat) := by
  rw [cnt_len (dd_nodup _), table_chD, List.length_map, chD_len]
  intro u hu
  rw [table_chD] at hu
  obtain ⟨ds, hd, rfl⟩ := List.mem_map.mp hu
  have hv := kn_vk W hd
  obtain ⟨es, h1, h2⟩ := chD_all W hv (nodup_asc a)
  rw [mem_dd, table_chD]
  refine List.mem_map.mpr ⟨es, h1, ?_⟩
  exact ho _ _ (kn_vk W h1) hv h2
theorem counts_add {vs : List D} {l : List D} {u : D} {free j : Nat} (nd : vs.Nodup) (hj : vs[j]? = some u) :
    (vs.map fun v => D.int ((free * cnt l v : Nat) : Int)).set j (.int (((free * cnt l u : Nat) : Int) + ((free : Nat) : Int))) = vs.map fun v => D.int ((free * cnt (l ++ [u]) v : Nat) : Int) := by
  apply List.ext_getElem?
  intro m
  by_cases c : j = m
  · subst c
    have hl := (List.getElem?_eq_some_iff.mp hj).1
    rw [List.getElem?_set_self (by simpa using hl), List.getElem?_map, hj]
    simp only [Option.map_some, cnt_app, cnt_one, if_pos, Nat.mul_add, Nat.mul_one]
    congr 2
  · rw [List.getElem?_set_ne c, List.getElem?_map, List.getElem?_map]
    cases e : vs[m]? with
    | none => rfl
    | some v =>
      have : u ≠ v := by
        rintro rfl
        have h1 := List.getElem?_eq_some_iff.mp e
        have h2 := List.getElem?_eq_some_iff.mp hj
        rcases Nat.lt_or_gt_of_ne c with q | q
        · exact List.pairwise_iff_getElem.mp nd j m h2.1 h1.1 q (by rw [h1.2, h2.2])
        · exact List.pairwise_iff_getElem.mp nd m j h1.1 h2.1 q (by rw [h1.2, h2.2])
      simp only [Option.map_some, cnt_app, cnt_one, if_neg this, Nat.add_zero]
theorem ifS_r {c : DT} {t u : DS} {Dn : DN} {τ : Sl} {M : Mp} (R : Bool → Mp → Prop) (h : ∀ Q E, (∀ b M1, R b M1 → Q b M1) → c τ M Q E) (k : ∀ b M1, R b M1 → if b = true then t Dn τ M1 else u Dn τ M1) : dIfS c t u Dn τ M := h _ _ k
theorem all_bls {α : Type} {l : List α} {f : α → Bool} : (l.map f).all id = l.all f := by rw [List.all_map]; rfl
theorem r_law_heads : ∀ ds M Q E, sp_law_heads ds M Q E → t_law_heads K A (ends Q E) (dstart N_law_heads ds) M := by
  rintro ds M Q E ⟨ws, n, p, c, d, P, f, rfl, h, hn, k⟩
  have sz := sl2
  have W := h.W
  have nd := h.nd
  have hpr := h.pr
  have hn12 := h.n
  have hrN : ∀ x ∈ need ws P f, 0 ≤ x ∧ x < 100 := fun x hx => h.r x (mem_need.mp hx).1
  have hR := lastP_range hrN
  have tok := tab_ok h
  have tlen : (table ws P f).length = prodW ws P := by rw [table_chD, List.length_map, chD_len]
  have nlen : (need ws P f).length ≤ 12 := Nat.le_trans (List.length_filter_le _ _) hn12
  have ddl : (dd (table ws P f)).length ≤ 256 := by
    have := ddA_len (acc := []) (l := table ws P f)
    simp only [List.length_nil] at this
    show (ddA [] (table ws P f)).length ≤ 256
    omega
  have dok := dd_ok tok
  have dnd := dd_nodup (table ws P f)
  generalize hN : need ws P f = N at *
  let R : Nat := (lastP N).toNat
  let free : Nat := prodW ws ((rng 0 R).filter fun x => !decide (x ∈ N))
  unfold t_law_heads N_law_heads
  simp only [dstart, List.map, List.length_cons, List.length_nil, List.replicate, List.cons_append, List.nil_append]
  refine seq_split (fun τ M' => ∃ v, M v = none ∧ M' = put M v (.lst (dd (table ws P f))) ∧ τ = [some (wsD ws), some (.ref n), some (.ref p), some (.ref c), some (.ref d), some (.ref v), none, none, none, none, none, none, none, none]) ?_ ?_
  rotate_left
  · intro nx hnx
    walk_at "dl"
    exact ⟨d, table ws P f, rfl, h.td, by omega, tok, fun v hv => hnx _ _ ⟨v, hv, rfl, rfl⟩⟩
  rintro τ M1 ⟨v, hv, rfl, rfl⟩
  have s1 : Sub M (put M v (.lst (dd (table ws P f)))) := Sub.refl.put hv
  have hvv : (put M v (.lst (dd (table ws P f)))) v = some (.lst (dd (table ws P f))) := put_same
  generalize put M v (.lst (dd (table ws P f))) = M1 at *
  have h1 := h.sub s1
  have hn1 := s1 _ _ hn
  refine seq_split (fun τ M' => M' = M1 ∧ τ = [some (wsD ws), some (.ref n), some (.ref p), some (.ref c), some (.ref d), some (.ref v), some (.int 0), none, none, none, none, none, none, none]) ?_ ?_
  rotate_left
  · intro nx hnx
    walk_at "dl"
    exact hnx _ _ ⟨rfl, rfl⟩
  rintro τ M2 ⟨rfl, rfl⟩
  refine seq_split (fun τ M' => M' = M2 ∧ τ = [some (wsD ws), some (.ref n), some (.ref p), some (.ref c), some (.ref d), some (.ref v), some (.int (lastP N)), none, none, none, none, none, none, none]) ?_ ?_
  rotate_left
  · intro nx hnx
    walk_at "dl"
    rw [lenG_at hn1]
    simp only [List.length_map]
    cases e : N.length with
    | zero =>
      have : N = [] := List.eq_nil_of_length_eq_zero e
      subst this
      rw [if_neg (by simp)]
      exact hnx _ _ ⟨rfl, rfl⟩
    | succ i =>
      obtain ⟨q, e1, e2⟩ := lastP_at e
      rw [if_pos (by omega)]
      have hn2 := hn1
      rw [e1, List.map_append] at hn2
      rw [ix_last hn2]
      simp only [addD_int]
      exact hnx _ _ ⟨rfl, by rw [e2]⟩
  rintro τ M3 ⟨rfl, rfl⟩
  have lR : lastP N = ((R : Nat) : Int) := by show lastP N = (((lastP N).toNat : Nat) : Int); omega
  have rngR : rng 0 R = (List.range R).map fun i => ((i : Nat) : Int) := by unfold rng; exact List.map_congr_left fun i _ => by omega
  refine seq_split (fun τ M' => Sub M3 M' ∧ τ = [some (wsD ws), some (.ref n), some (.ref p), some (.ref c), some (.ref d), some (.ref v), some (.int (lastP N)), some (.int ((free : Nat) : Int)), none, none, none, none, none, none]) ?_ ?_
  rotate_left
  · intro nx hnx
    walk_at "dl"
    refine ⟨by omega, by omega, fun q hq => ?_⟩
    refine dCL_some (xs := List.range (lastP N).toNat) (fun i => D.int ((i : Nat) : Int)) (fun i => D.int ((i : Nat) : Int)) (fun i => !decide (((i : Nat) : Int) ∈ N)) rfl (by simp; omega) (fun _ => trivial) (fun i hi ys k1 k2 q1 q2 => ?_) ?_
    · have hny : (put M3 q (.lst ys)) n = some (.lst (N.map D.int)) := by rw [put_ne (ne_none hn1 hq)]; exact hn1
      simp only [wipeD]
      walk_at "dl"
      rw [in_ints hny]
      simp only [Bool.true_bne]
      by_cases ci : ((i : Nat) : Int) ∈ N
      · simp only [ci, decide_true, Bool.not_true, Bool.false_eq_true, if_false] at q2 ⊢
        exact q2 trivial
      · simp only [ci, decide_false, Bool.not_false, if_true] at q1 ⊢
        exact q1 trivial
    · have e : ((List.range (lastP N).toNat).filter fun i => !decide (((i : Nat) : Int) ∈ N)).map (fun i => D.int ((i : Nat) : Int)) = ((rng 0 R).filter fun x => !decide (x ∈ N)).map D.int := by
        rw [rngR, List.filter_map, List.map_map]; rfl
      rw [e]
      refine ⟨ws, q, _, rfl, W, put_same, ?_, hnx _ _ ⟨Sub.refl.put hq, rfl⟩⟩
      refine Nat.le_trans (List.length_filter_le _ _) ?_
      rw [rng_len]; omega
  rintro τ M4 ⟨s4, rfl⟩
  have h4 := h1.sub s4
  have hn4 := s4 _ _ hn1
  have hv4 := s4 _ _ hvv
  refine seq_split (fun τ M' => Sub M4 M' ∧ ∃ y, M' y = some (.lst ((P.filter fun x => !decide (x ∈ N)).map D.int)) ∧ τ = [some (wsD ws), some (.ref n), some (.ref p), some (.ref c), some (.ref d), some (.ref v), some (.int (lastP N)), some (.int ((free : Nat) : Int)), some (.ref y), none, none, none, none, none]) ?_ ?_
  rotate_left
  · intro nx hnx
    walk_at "dl"
    simp only [itemsOf, keepOf, seqOf, h4.sp]
    intro q hq
    refine dCL_some (xs := P) D.int D.int (fun x => !decide (x ∈ N)) rfl (by omega) (fun ys => by rw [put_ne (ne_none h4.sp hq), h4.sp]) (fun x hx ys k1 k2 q1 q2 => ?_) (hnx _ _ ⟨Sub.refl.put hq, q, put_same, rfl⟩)
    have hny : (put M4 q (.lst ys)) n = some (.lst (N.map D.int)) := by rw [put_ne (ne_none hn4 hq)]; exact hn4
    simp only [wipeD]
    walk_at "dl"
    rw [in_ints hny]
    simp only [Bool.true_bne]
    by_cases ci : x ∈ N
    · simp only [ci, decide_true, Bool.not_true, Bool.false_eq_true, if_false] at q2 ⊢
      exact q2 trivial
    · simp only [ci, decide_false, Bool.not_false, if_true] at q1 ⊢
      exact q1 trivial
  rintro τ M5 ⟨s5, y, hy, rfl⟩
  have h5 := h4.sub s5
  have hv5 := s5 _ _ hv4
  refine seq_split (fun τ M' => ∃ u, M5 u = none ∧ M' = put M5 u (.lst ((dd (table ws P f)).map fun v => D.int ((free * cnt [] v : Nat) : Int))) ∧ τ = [some (wsD ws), some (.ref n), some (.ref p), some (.ref c), some (.ref d), some (.ref v), some (.int (lastP N)), some (.int ((free : Nat) : Int)), some (.ref y), some (.ref u), none, none, none, none]) ?_ ?_
  rotate_left
  · intro nx hnx
    walk_at "dl"
    simp only [itemsOf, keepOf, seqOf, hv5]
    intro u hu
    refine dCL_each (xs := dd (table ws P f)) id (fun v => D.int ((free * cnt [] v : Nat) : Int)) (by simp) (by omega) (fun ys => by rw [put_ne (ne_none hv5 hu), hv5]) (fun z hz ys k' hk => ?_) (hnx _ _ ⟨u, hu, rfl, rfl⟩)
    walk_at "dl"
    exact hk
  rintro τ M6 ⟨u, hu, rfl, rfl⟩
  have s6 : Sub M5 (put M5 u (.lst ((dd (table ws P f)).map fun v => D.int ((free * cnt [] v : Nat) : Int)))) := Sub.refl.put hu
  have huu : (put M5 u (.lst ((dd (table ws P f)).map fun v => D.int ((free * cnt [] v : Nat) : Int)))) u = some (.lst ((dd (table ws P f)).map fun v => D.int ((free * cnt [] v : Nat) : Int))) := put_same
  have hM3u : M u = none := (((s1.trans s4).trans s5).none hu)
  have yu := ne_none hy hu
  have vu := ne_none hv5 hu
  generalize put M5 u (.lst ((dd (table ws P f)).map fun v => D.int ((free * cnt [] v : Nat) : Int))) = M6 at *
  let tst : List Nat → Bool := fun ds => P.all fun x => decide (x ∈ N) || kn P ds x == 0
  let Z : Nat → List D := fun i => (((chD ws P).take i).filter tst).map fun ds => f (kn P ds)
  refine seq_split (fun τ M' => Sub M M' ∧ M' u = some (.lst ((dd (table ws P f)).map fun v => D.int ((free * cnt (Z (prodW ws P)) v : Nat) : Int))) ∧ ∃ o10 o11 o12 o13, τ = [some (wsD ws), some (.ref n), some (.ref p), some (.ref c), some (.ref d), some (.ref v), some (.int (lastP N)), some (.int ((free : Nat) : Int)), some (.ref y), some (.ref u), o10, o11, o12, o13]) ?_ ?_
  rotate_left
  · intro nx hnx
    have h6 := h5.sub s6
    walk_at "dl"
    simp only [lenCh h6.ch]
    refine ⟨by omega, by omega, ?_⟩
    rw [Int.toNat_natCast]
    refine dLoop_inv (fun i τ M' => Sub M M' ∧ M' y = some (.lst ((P.filter fun x => !decide (x ∈ N)).map D.int)) ∧ M' v = some (.lst (dd (table ws P f))) ∧ M' u = some (.lst ((dd (table ws P f)).map fun v => D.int ((free * cnt (Z i) v : Nat) : Int))) ∧ ∃ o10 o11 o12 o13, τ = [some (wsD ws), some (.ref n), some (.ref p), some (.ref c), some (.ref d), some (.ref v), some (.int (lastP N)), some (.int ((free : Nat) : Int)), some (.ref y), some (.ref u), o10, o11, o12, o13]) (fun _ _ _ _ _ => trivial) ?_ ?_ ⟨((s1.trans s4).trans s5).trans s6, s6 _ _ hy, s6 _ _ hv5, huu, none, none, none, none, rfl⟩
    · rintro i dd' τ M' nxt hd ⟨s, hY, hV, hU, o10, o11, o12, o13, rfl⟩ hnx'
      obtain ⟨hi, rfl⟩ := rng_at hd
      have h' := h.sub s
      have hi2 : i < (chD ws P).length := by rw [chD_len]; exact hi
      have eds := List.getElem?_eq_getElem hi2
      generalize (chD ws P)[i] = ds at eds
      have hdm := List.mem_of_getElem? eds
      have ldl := (chD_mem hdm).1
      have tk : (chD ws P).take (i + 1) = (chD ws P).take i ++ [ds] := by rw [List.take_add_one, eds]; rfl
      have hv0 := h.v _ (kn_vk W hdm)
      have htm : f (kn P ds) ∈ table ws P f := List.mem_of_getElem? (tab_at eds)
      refine ifS_r (fun b M'' => b = tst ds ∧ Sub M' M'') (fun Q' E' q1 => ?_) ?_
      · walk_at "dl"
        simp only [itemsOf, keepOf, seqOf, hY]
        intro m hm
        refine dCL_each (xs := P.filter fun x => !decide (x ∈ N)) D.int (fun x => D.bl (kn P ds x == 0)) rfl (by have := List.length_filter_le (fun x => !decide (x ∈ N)) P; omega) (fun ys => by rw [put_ne (ne_none hY hm), hY]) (fun x hx ys k' hk => ?_) ?_
        · have hxP : x ∈ P := (List.mem_filter.mp hx).1
          obtain ⟨rs, r, c1, c2, c3⟩ := ChAt.at_ (ChAt.sub h'.ch (Sub.refl.put hm (o := .lst ys))) eds
          simp only [wipeD]
          walk_at "dl"
          rw [ix_at c1 c2]
          simp only [dictRd, c3, keyD, kvsOf_val nd ldl hxP, eqD_int]
          have e : decide (((kn P ds x : Nat) : Int) = 0) = (kn P ds x == 0) := by rw [Bool.eq_iff_iff]; simp
          rw [e]
          exact hk
        · unfold allG
          have eb : (P.filter fun x => !decide (x ∈ N)).map (fun x => D.bl (kn P ds x == 0)) = ((P.filter fun x => !decide (x ∈ N)).map fun x => (kn P ds x == 0)).map D.bl := by rw [List.map_map]; rfl
          simp only [seqOf, put_same, Option.bind_some, eb, blsOf_map, all_bls]
          have et : (P.filter fun x => !decide (x ∈ N)).all (fun x => kn P ds x == 0) = tst ds := by
            show _ = P.all _
            rw [List.all_filter]
            rw [Bool.eq_iff_iff, List.all_eq_true, List.all_eq_true]
            constructor
            · intro g x hx
              have := g x hx
              by_cases cx : x ∈ N <;> simp_all
            · intro g x hx
              have := g x hx
              by_cases cx : x ∈ N <;> simp_all
          rw [et]
          exact q1 _ _ ⟨rfl, Sub.refl.put hm⟩
      rintro bb M8 ⟨rfl, s8⟩
      have hU8 := s8 _ _ hU
      have hV8 := s8 _ _ hV
      have hY8 := s8 _ _ hY
      by_cases ct : tst ds = true
      · rw [if_pos ct]
        have Zs : Z (i + 1) = Z i ++ [f (kn P ds)] := by
          show (((chD ws P).take (i + 1)).filter tst).map _ = _
          rw [tk, List.filter_append, List.filter_cons_of_pos ct, List.map_append]
          rfl
        obtain ⟨j, hj, hfirst⟩ := dd_place htm tok
        have hjl := (List.getElem?_eq_some_iff.mp hj).1
        have hdl : depL (dd (table ws P f)) ≤ 60 := depL_le fun v hv => (dok v hv).2
        have h8 := h'.sub s8
        refine seq_split (fun τ M'' => M'' = M8 ∧ τ = [some (wsD ws), some (.ref n), some (.ref p), some (.ref c), some (.ref d), some (.ref v), some (.int (lastP N)), some (.int ((free : Nat) : Int)), some (.ref y), some (.ref u), some (.int ((i : Nat) : Int)), some (.int ((j : Nat) : Int)), o12, o13]) ?_ ?_
        rotate_left
        · intro nx2 hnx2
          walk_at "dl"
          rw [ix_at h8.td (tab_at eds)]
          simp only [indexLD]
          refine ⟨by rw [metL hV8]; trivial, _, seqOf_lst hV8, pv_ok hv0.1, pvL_ok (pvL_mem.mpr fun v hv => (dok v hv).1), by have := hv0.2; omega, by omega, j, _, hj, (eqb_iff hv0.1 hv0.1).mpr rfl, hfirst, hnx2 _ _ ⟨rfl, rfl⟩⟩
        rintro τ M9 ⟨rfl, rfl⟩
        have hold : ((dd (table ws P f)).map fun v => D.int ((free * cnt (Z i) v : Nat) : Int))[j]? = some (.int ((free * cnt (Z i) (f (kn P ds)) : Nat) : Int)) := by rw [List.getElem?_map, hj]; rfl
        have ix : ixN ((dd (table ws P f)).map fun v => D.int ((free * cnt (Z i) v : Nat) : Int)).length ((j : Nat) : Int) = some j := by rw [ixN_in (by omega) (by simp; omega)]; simp
        walk_at "dl"
        rw [ix_at hU8 hold]
        simp only [addD_int, hU8, ix]
        rw [counts_add dnd hj]
        refine hnx' _ _ ⟨sub_new (s.trans s8) hM3u, by rw [put_ne yu]; exact hY8, by rw [put_ne vu]; exact hV8, by rw [put_same, Zs], _, _, _, _, rfl⟩
      · rw [if_neg ct]
        simp only [dNext]
        have : Z (i + 1) = Z i := by
          show (((chD ws P).take (i + 1)).filter tst).map _ = _
          rw [tk, List.filter_append, List.filter_cons_of_neg (by simpa using ct)]
          simp [Z]
        exact hnx' _ _ ⟨s.trans s8, hY8, hV8, by rw [this]; exact hU8, _, _, _, _, rfl⟩
    · rintro τ M' ⟨s, hY, hV, hU, hτ⟩
      rw [len_rng] at hU
      exact hnx _ _ ⟨s, hU, hτ⟩
  rintro τ M7 ⟨s7, hU, o10, o11, o12, o13, rfl⟩
  have eZ : ∀ v, free * cnt (Z (prodW ws P)) v = cnt (table ws (rng 0 R) f) v := fun v => by
    have e1 : Z (prodW ws P) = ((chD ws P).filter tst).map fun ds => f (kn P ds) := by
      show (((chD ws P).take (prodW ws P)).filter tst).map _ = _
      rw [← chD_len, List.take_length]
    have e2 := cnt_rng W (v := v) h.a h.r h.o
    rw [hN] at e2
    have e3 : cnt (((chD ws P).filter tst).map fun ds => f (kn P ds)) v = cnt (table ws N f) v := by
      have := cnt_zero W (S := fun x => decide (x ∈ N)) (v := v) (f := f) nd fun x hx hs => by
        have hs : ¬ x ∈ N := by simpa using hs
        refine Classical.byContradiction fun hi => hs ?_
        rw [← hN]
        exact mem_need.mpr ⟨hx, hi⟩
      have e4 : P.filter (fun x => decide (x ∈ N)) = N := by
        refine asc_unique (h.a.sublist List.filter_sublist) (by rw [← hN]; exact need_asc h.a) fun x => ?_
        rw [List.mem_filter, decide_eq_true_eq]
        exact ⟨fun g => g.2, fun g => ⟨by rw [← hN] at g; exact (mem_need.mp g).1, g⟩⟩
      rw [e4] at this
      exact this
    rw [e1, e3, e2]
  have eC : ((dd (table ws P f)).map fun v => D.int ((free * cnt (Z (prodW ws P)) v : Nat) : Int)) = lawCounts ws P f := by
    unfold lawCounts
    rw [hN]
    refine List.map_congr_left fun v _ => ?_
    rw [eZ]
  rw [eC] at hU
  walk_at "dl"
  rw [tup_at hU]
  refine ⟨by omega, fun q hq => dropQ_of (k q (s7.none hq)) (Sub.both s7)⟩
end K58

set_option maxHeartbeats 4000000
namespace K58
open PySem L2 DL DQ
local macro_rules | `(tactic| walk_at "dl") => `(tactic| simp only [dSeq, dIfS, dB, dTru, truD, dOp, dVar, dC, dAsg, dAug, dCB, dCons, dNil, dRet, dRetN, dName, dGSub, dNext, ends, exOf, dstart, slot, oI0, oI, dAnd, dOr, dNot, dAndV, dOrV, dNotV, dNeg, dSl, dNoP, dPart, dFld, dFldS, dRaise, dLst, dTup, dFor, dIter, dRng1, dRng2, dCall, dMake, dMeth, dIxO, dLc, dYes, dGTup, dGCons, dGNil, dDrop, dBreak, dBM, dDIn, dNever, dChain, dRngD, dZip, dRaiseI, dLstRg, dDGet, dDGet2, dDNew, dGSubD, dDStar, dSortSet, dAugS, dDc, dIterX, dBX,
  eqD_str, neD_str, eqD_int, neD_int, ixG_t0, ixG_t1, isiG_str, isi_int, isi_int_s, isi_int_t, isi_tup, isi_tup_s, isi_tup_i, isi_str_i, isi_str_t, lenG_tup, addD_int, mulD_int, intG, List.nil_append, bne_iff_ne, ofS_inj, Bool.false_bne, Bool.true_bne,
  List.map, List.length_cons, List.length_nil, List.cons_append, List.append_nil, List.replicate, List.set, List.getElem?_cons_zero, List.getElem?_cons_succ, Option.join_some, Option.bind_some, decide_eq_true_eq])
local macro_rules | `(tactic| walk_at "so") => `(tactic| first | omega | (simp; done) | (simp; omega))
variable {K : PySem.W.Frag} {A : Adr} {w : World} {mg : Str → Option Value}
section
variable {ws : List Nat} {t : QT} {P : List Int}
theorem setQ_at (W : okW ws) (a : P.Pairwise (· < ·)) (o : onlyOn ws t.ev P) : setQ ws t = sett ws P t.ev := sett_one W (asc_named t) a (onlyOn_named t) o
theorem named_need (W : okW ws) (a : P.Pairwise (· < ·)) (o : onlyOn ws t.ev P) : (setQ ws t).named = need ws P t.ev := by
  rw [setQ_at W a o, sett_named W o a]; rfl
theorem tells_need (W : okW ws) (a : P.Pairwise (· < ·)) (o : onlyOn ws t.ev P) : dd (setQ ws t).tells = dd (table ws P t.ev) := by
  rw [setQ_at W a o, tells_table W]
theorem onlyOn_need (W : okW ws) (a : P.Pairwise (· < ·)) (o : onlyOn ws t.ev P) : onlyOn ws t.ev (need ws P t.ev) := fun k k' x y e => by
  rw [← setQ_ev W x, ← setQ_ev W y]
  refine onlyOn_named (ws := ws) _ k k' x y ?_
  rw [named_need W a o]
  exact e
theorem counts_need (W : okW ws) (a : P.Pairwise (· < ·)) (o : onlyOn ws t.ev P) (hr : ∀ p ∈ P, 0 ≤ p ∧ p < 100) : countsD ws t = lawCounts ws P t.ev := by
  unfold countsD lawCounts
  rw [tells_need W a o]
  refine List.map_congr_left fun v _ => ?_
  have e : setQ ws t = sett ws (need ws P t.ev) t.ev := by
    rw [setQ_at W a o, sett_needed W]; rfl
  rw [named_need W a o, e]
  have h := heads_cnt W (v := v) (r := lastP (need ws P t.ev)) (s := 0) (onlyOn_need W a o) (need_asc a) fun p hp => ⟨(hr p (mem_need.mp hp).1).1, lastP_gt (need_asc a) p hp⟩
  rw [h, Int.sub_zero]
end
theorem rgD_rng {n : Nat} : rgD 0 ((n : Nat) : Int) = (rng 0 n).map D.int := by
  unfold rgD rng
  rw [List.map_map]
  simp
  try rfl
theorem r_law_counted (T : Txt w K mg A) : ∀ ds M Q E, sp_law_counted A.Query ds M Q E → t_law_counted K A (ends Q E) (dstart N_law_counted ds) M := by
  rintro ds M Q E ⟨q, t, ws, p, c, d, P, rfl, hq, g, h, k⟩
  have sz := sl2
  have W := h.W
  have hpr := h.pr
  have hn12 := h.n
  have hrN : ∀ x ∈ need ws P t.ev, 0 ≤ x ∧ x < 100 := fun x hx => h.r x (mem_need.mp hx).1
  have hR := lastP_range hrN
  have tok := tab_ok h
  have tlen : (table ws P t.ev).length = prodW ws P := by rw [table_chD, List.length_map, chD_len]
  have nlen : (need ws P t.ev).length ≤ 12 := Nat.le_trans (List.length_filter_le _ _) hn12
  have ddl : (dd (table ws P t.ev)).length ≤ 256 := by
    have := ddA_len (acc := []) (l := table ws P t.ev)
    simp only [List.length_nil] at this
    show (ddA [] (table ws P t.ev)).length ≤ 256
    omega
  have dok := dd_ok tok
  have e1 := named_need W h.a h.o
  have e2 := tells_need W h.a h.o
  have e3 := counts_need W h.a h.o h.r
  have e4 := counts_sum W h.a h.o
  unfold t_law_counted N_law_counted
  simp only [dstart, List.map, List.length_cons, List.length_nil, List.replicate, List.cons_append, List.nil_append]
  refine seq_split (fun τ M' => ∃ n, Sub M M' ∧ M' n = some (.lst ((need ws P t.ev).map D.int)) ∧ τ = [some (.ref q), some (wsD ws), some (.ref p), some (.ref c), some (.ref d), some (.ref n), none, none]) ?_ ?_
  rotate_left
  · intro nx hnx
    walk_at "dl"
    exact ⟨ws, p, c, d, P, t.ev, rfl, h, fun n hn => hnx _ _ ⟨n, Sub.refl.put hn, put_same, rfl⟩⟩
  rintro τ M1 ⟨n, s1, hn, rfl⟩
  have h1 := h.sub s1
  refine seq_split (fun τ M' => Sub M1 M' ∧ τ = [some (.ref q), some (wsD ws), some (.ref p), some (.ref c), some (.ref d), some (.ref n), some (.int (lastP (need ws P t.ev))), some (.tup (lawCounts ws P t.ev))]) ?_ ?_
  rotate_left
  · intro nx hnx
    walk_at "dl"
    refine ⟨ws, n, p, c, d, P, t.ev, rfl, h1, hn, fun u hu => ?_⟩
    simp only [seqOf, put_same]
    walk_at "dl"
    exact ⟨trivial, hnx _ _ ⟨Sub.refl.put hu, rfl⟩⟩
  rintro τ M2 ⟨s2, rfl⟩
  have hn2 := s2 _ _ hn
  have h2 := h1.sub s2
  have hq2 : QueryAt A.Query M2 q t ws := s2 _ _ (s1 _ _ hq)
  refine seq_split (fun τ M' => M' = M2 ∧ τ = [some (.ref q), some (wsD ws), some (.ref p), some (.ref c), some (.ref d), some (.ref n), some (.int (lastP (need ws P t.ev))), some (.tup (lawCounts ws P t.ev))]) ?_ ?_
  rotate_left
  · intro nx hnx
    walk_at "dl"
    refine ⟨q, t, ws, rfl, hq2, g, ?_⟩
    dsimp only
    rw [e1, tup_at hn2]
    refine ⟨psD (need ws P t.ev), rfl, ?_, ?_⟩
    · exact okS_T (n := 98) (by omega)
    simp only [truD, Bool.not_true, Bool.false_eq_true, if_false]
    refine ⟨q, t, ws, rfl, hq2, g, ?_⟩
    rw [e1]
    refine ⟨_, rfl, okS_int, ?_⟩
    simp only [truD, Bool.not_true, Bool.false_eq_true, if_false]
    exact hnx _ _ ⟨rfl, rfl⟩
  rintro τ M3 ⟨rfl, rfl⟩
  refine seq_split (fun τ M' => Sub M3 M' ∧ τ = [some (.ref q), some (wsD ws), some (.ref p), some (.ref c), some (.ref d), some (.ref n), some (.int (lastP (need ws P t.ev))), some (.tup (lawCounts ws P t.ev))]) ?_ ?_
  rotate_left
  · intro nx hnx
    walk_at "dl"
    unfold sumSeqG
    refine ⟨lawCounts ws P t.ev, (dd (table ws P t.ev)).map fun v => ((cnt (table ws (rng 0 (lastP (need ws P t.ev)).toNat) t.ev) v : Nat) : Int), rfl, ?_, ?_⟩
    · unfold lawCounts; rw [List.map_map]; rfl
    simp only [rgEnds]
    refine ⟨by unfold rgP; omega, fun u hu => ?_⟩
    have er : rgD 0 (lastP (need ws P t.ev)) = (rng 0 (lastP (need ws P t.ev)).toNat).map D.int := by
      rw [← rgD_rng]; congr 1; omega
    rw [er]
    refine ⟨ws, u, _, rfl, W, put_same, ?_, ?_⟩
    · rw [rng_len]; omega
    have es : ((dd (table ws P t.ev)).map fun v => ((cnt (table ws (rng 0 (lastP (need ws P t.ev)).toNat) t.ev) v : Nat) : Int)).sum = ((prodW ws (rng 0 (lastP (need ws P t.ev)).toNat) : Nat) : Int) := by
      rw [← e4]
      generalize dd (table ws P t.ev) = l
      induction l with
      | nil => rfl
      | cons a l ih => rw [List.map_cons, List.sum_cons, List.map_cons, List.sum_cons, ih]; omega
    rw [es]
    walk_at "dl"
    simp only [decide_true, Bool.not_true, Bool.false_eq_true, if_false]
    exact hnx _ _ ⟨Sub.refl.put hu, rfl⟩
  rintro τ M4 ⟨s4, rfl⟩
  have h4 := h2.sub s4
  have hq4 : QueryAt A.Query M4 q t ws := s4 _ _ hq2
  refine seq_split (fun τ M' => Sub M4 M' ∧ τ = [some (.ref q), some (wsD ws), some (.ref p), some (.ref c), some (.ref d), some (.ref n), some (.int (lastP (need ws P t.ev))), some (.tup (lawCounts ws P t.ev))]) ?_ ?_
  rotate_left
  · intro nx hnx
    walk_at "dl"
    refine ⟨q, t, ws, rfl, hq4, g, .inl ?_⟩
    refine ⟨d, table ws P t.ev, rfl, h4.td, by omega, tok, fun u hu => ?_⟩
    dsimp only
    rw [tup_at put_same, e2]
    refine ⟨.tup (dd (table ws P t.ev)), rfl, okS_vals (n := 99) (by omega) dok (by omega), ?_⟩
    simp only [truD, Bool.not_true, Bool.false_eq_true, if_false]
    exact hnx _ _ ⟨Sub.refl.put hu, rfl⟩
  rintro τ M5 ⟨s5, rfl⟩
  have hq5 : QueryAt A.Query M5 q t ws := s5 _ _ hq4
  walk_at "dl"
  refine ⟨q, t, ws, rfl, hq5, g, ?_⟩
  dsimp only
  rw [e3]
  refine ⟨.tup (lawCounts ws P t.ev), rfl, ?_, ?_⟩
  · refine okS_tup (n := 98) (by unfold lawCounts; rw [List.length_map]; omega) fun x hx => ?_
    obtain ⟨v, _, rfl⟩ := List.mem_map.mp hx
    exact okS_int
  · exact dropQ_of k (((s1.trans s2).trans s4).trans s5)
end K58

set_option maxHeartbeats 4000000
namespace K58
open PySem L2 DL DQ
local macro_rules | `(tactic| walk_at "dl") => `(tactic| simp only [dSeq, dIfS, dB, dTru, truD, dOp, dVar, dC, dAsg, dAug, dCB, dCons, dNil, dRet, dRetN, dName, dGSub, dNext, ends, exOf, dstart, slot, oI0, oI, dAnd, dOr, dNot, dAndV, dOrV, dNotV, dNeg, dSl, dNoP, dPart, dFld, dFldS, dRaise, dLst, dTup, dFor, dIter, dRng1, dRng2, dCall, dMake, dMeth, dIxO, dLc, dYes, dGTup, dGCons, dGNil, dDrop, dBreak, dBM, dDIn, dNever, dChain, dRngD, dZip, dRaiseI, dLstRg, dDGet, dDGet2, dDNew, dGSubD, dDStar, dSortSet, dAugS, dDc, dIterX, dBX,
  eqD_str, neD_str, eqD_int, neD_int, ixG_t0, ixG_t1, isiG_str, isi_int, isi_int_s, isi_int_t, isi_tup, isi_tup_s, isi_tup_i, isi_str_i, isi_str_t, lenG_tup, addD_int, mulD_int, intG, List.nil_append, bne_iff_ne, ofS_inj, Bool.false_bne, Bool.true_bne,
  List.map, List.length_cons, List.length_nil, List.cons_append, List.append_nil, List.replicate, List.set, List.getElem?_cons_zero, List.getElem?_cons_succ, Option.join_some, Option.bind_some, decide_eq_true_eq])
local macro_rules | `(tactic| walk_at "so") => `(tactic| first | omega | (simp; done) | (simp; omega))
variable {K : PySem.W.Frag} {A : Adr} {w : World} {mg : Str → Option Value}
/-! ### what the term told again is -/
mutual
theorem ev_tells {ws : List Nat} {k : Kn} (hk : vk ws k) : ∀ {t : QT}, t.wf ws → t.ev k ∈ t.tells
  | .tell v, _ => by rw [QT.ev, QT.tells]; simp
  | .look p bs, h => by
    rw [QT.wf] at h
    rw [QT.ev, QT.tells]
    exact evAt_tells hk h.2.2.2 (by rw [h.2.2.1]; exact hk p)
theorem evAt_tells {ws : List Nat} {k : Kn} (hk : vk ws k) : ∀ {ts : List QT} {n : Nat}, wfL ws ts → n < ts.length → evAt ts n k ∈ tellsL ts
  | [], _, _, h => absurd h (by simp)
  | t :: ts, 0, h, _ => by rw [wfL] at h; rw [evAt, tellsL]; exact List.mem_append_left _ (ev_tells hk h.1)
  | t :: ts, n + 1, h, hn => by rw [wfL] at h; rw [evAt, tellsL]; exact List.mem_append_right _ (evAt_tells hk h.2 (by simpa using hn))
end
theorem okV_2 {x : Str} {v : D} (hx : pvD (.str x) = true) (h : okV v) (hd : dep v ≤ 50) : okV (.tup [.str x, v]) :=
  ⟨pvT_of (by simp) (by rw [pvDL, pvDL, pvDL, hx, h.1]; rfl), by simp only [dep, depL]; omega⟩
theorem rt_all {ws : List Nat} {t : QT} {ch : Option (List (Key × D))} (W : okW ws) (w : t.wf ws) (lw : t.low) : ∀ {L : List Int} {kvs : List (Key × D)} {k : Kn}, (∀ p ∈ L, 0 ≤ p ∧ p < 100) → vk ws k →
    (rt ws t ch L kvs k).wf ws ∧ (rt ws t ch L kvs k).ht ≤ L.length ∧ (rt ws t ch L kvs k).nk ≤ fullN ws L ∧ ∀ q, (rt ws t ch L kvs k).occ q → q ∈ L
  | [], kvs, k, _, hk => by
    have h1 := ev_ok hk w
    have h2 := lw _ (ev_tells hk w)
    have e1 : pvD (.str "other") = true := by decide +kernel
    have fin : ∀ v, okV v → (QT.tell v).wf ws ∧ (QT.tell v).ht ≤ ([] : List Int).length ∧ (QT.tell v).nk ≤ fullN ws [] ∧ ∀ q, (QT.tell v).occ q → q ∈ ([] : List Int) := fun v hv => ⟨by rw [QT.wf]; exact hv, by rw [QT.ht]; simp, by rw [QT.nk]; simp, fun q hq => by rw [QT.occ] at hq; exact hq.elim⟩
    cases ch with
    | none => rw [rt_non]; exact fin _ h1
    | some c =>
      rw [rt_some]
      split
      · exact fin _ (okV_2 e1 h1 h2)
      · exact fin _ h1
  | p :: ps, kvs, k, hr, hk => by
    have w1 := wd_pos W p
    have e1 : pvD (.str "never") = true := by decide +kernel
    rw [rt_cons]
    have G : ∀ x, x ∈ ((List.range (wd ws p)).map fun o => match valD kvs (.inl p) with
      | some v => if sameID v (some (.int ((o : Nat) : Int))) = true then rt ws t ch ps (putKD kvs (.inl p) (.int ((o : Nat) : Int))) (upk k p o) else .tell (.tup [.str "never", .int ((o : Nat) : Int)])
      | none => rt ws t ch ps (putKD kvs (.inl p) (.int ((o : Nat) : Int))) (upk k p o)) → x.wf ws ∧ x.ht ≤ ps.length ∧ x.nk ≤ fullN ws ps ∧ ∀ q, x.occ q → q ∈ ps := by
      intro x hx
      obtain ⟨o, ho, rfl⟩ := List.mem_map.mp hx
      have ho := List.mem_range.mp ho
      have ih := fun kv => rt_all (ch := ch) W w lw (L := ps) (kvs := kv) (k := upk k p o) (fun q hq => hr q (List.mem_cons_of_mem _ hq)) (vk_upk hk ho)
      split
      · split
        · exact ih _
        · exact ⟨by rw [QT.wf]; exact okV_2 e1 okV_int (by simp [dep]), by rw [QT.ht]; omega, by rw [QT.nk]; omega, fun q hq => by rw [QT.occ] at hq; exact hq.elim⟩
      · exact ih _
    generalize hB : ((List.range (wd ws p)).map fun o => match valD kvs (.inl p) with
      | some v => if sameID v (some (.int ((o : Nat) : Int))) = true then rt ws t ch ps (putKD kvs (.inl p) (.int ((o : Nat) : Int))) (upk k p o) else .tell (.tup [.str "never", .int ((o : Nat) : Int)])
      | none => rt ws t ch ps (putKD kvs (.inl p) (.int ((o : Nat) : Int))) (upk k p o)) = B at G ⊢
    have hl : B.length = wd ws p := by rw [← hB]; simp
    refine ⟨?_, ?_, ?_, ?_⟩
    · rw [QT.wf]; exact ⟨(hr p (by simp)).1, (hr p (by simp)).2, hl, wfL_mem.mpr fun x hx => (G x hx).1⟩
    · rw [QT.ht, List.length_cons]; have := htL_le fun x hx => (G x hx).2.1; omega
    · rw [QT.nk, fullN]; have := nkL_le (ws := ws) fun x hx => (G x hx).2.2.1; rw [hl] at this; omega
    · intro q hq
      rw [QT.occ] at hq
      rcases hq with rfl | hq
      · simp
      · obtain ⟨x, hx, h⟩ := occL_mem.mp hq
        exact List.mem_cons_of_mem _ ((G x hx).2.2.2 q h)
/-! ### what the law keeps -/
theorem ne_dict {M : Mp} {s l r : Addr} {ns : List Int} {kvs : List (Key × D)} (P : PSt M s l ns) (h : M r = some (.dk kvs)) : r ≠ s := by
  rintro rfl
  obtain ⟨_, _, _, _, _, hs, _⟩ := P
  rw [h] at hs; cases hs
theorem ne_ins {M : Mp} {s l r : Addr} {ns : List Int} {C : Addr} {fs : List (Str × D)} (P : PSt M s l ns) (h : M r = some (.ins C fs)) : r ≠ s := by
  rintro rfl
  obtain ⟨_, _, _, _, _, hs, _⟩ := P
  rw [h] at hs; cases hs
theorem chAt_ext {M M' : Mp} {a s l : Addr} {ns : List Int} {ws : List Nat} {P : List Int} (h : ChAt M a ws P) (Pst : PSt M s l ns) (n : a ≠ s) (e : Ext (Is s) M M') : ChAt M' a ws P := by
  obtain ⟨rs, h1, h2, h3⟩ := h
  exact ⟨rs, e _ _ n h1, h2, fun i r ds x y => e _ _ (ne_dict Pst (h3 i r ds x y)) (h3 i r ds x y)⟩
theorem pst_sub {M M' : Mp} {s l : Addr} {ns : List Int} (P : PSt M s l ns) (h : Sub M M') : PSt M' s l ns := by
  obtain ⟨n, hl, a, b, c, hs, r⟩ := P
  exact ⟨n, h _ _ hl, a, b, c, h _ _ hs, r⟩
theorem ch_zip {M : Mp} {a : Addr} {ws : List Nat} {P : List Int} (h : ChAt M a ws P) : ∃ Z : List (Addr × List Nat), M a = some (.lst (Z.map fun q => D.ref q.1)) ∧ Z.map (·.2) = chD ws P ∧ ∀ q ∈ Z, M q.1 = some (.dk (kvsOf P q.2)) := by
  obtain ⟨rs, h1, h2, h3⟩ := h
  refine ⟨rs.zip (chD ws P), ?_, List.map_snd_zip (by omega), fun q hq => ?_⟩
  · rw [h1]
    have : (rs.zip (chD ws P)).map (fun q => D.ref q.1) = ((rs.zip (chD ws P)).map (·.1)).map D.ref := by rw [List.map_map]; rfl
    rw [this, List.map_fst_zip (by omega)]
  · obtain ⟨i, e⟩ := List.mem_iff_getElem?.mp hq
    obtain ⟨e1, e2⟩ := List.getElem?_zip_eq_some.mp e
    exact h3 i q.1 q.2 e1 e2
/-- what the law has until its end -/
structure Kp (C : Addr) (M : Mp) (s l : Addr) (ns : List Int) (ws : List Nat) (t : QT) (P : List Int) (p c d b : Addr) (vs : List D) (o : Addr) (L : List Int) (q : Addr) : Prop where
  S : PSt M s l ns
  T : TabAt M ws P t.ev p c d
  Q : QueryAt C M q t ws
  B : M b = some (.lst vs)
  O : M o = some (.lst (L.map D.int))
  np : p ≠ s
  nc : c ≠ s
  nd : d ≠ s
  nb : b ≠ s
  no : o ≠ s
section
variable {C : Addr} {M M' : Mp} {s l : Addr} {ns : List Int} {ws : List Nat} {t : QT} {P : List Int} {p c d b : Addr} {vs : List D} {o : Addr} {L : List Int} {q : Addr}
theorem Kp_sub (h : Kp C M s l ns ws t P p c d b vs o L q) (e : Sub M M') : Kp C M' s l ns ws t P p c d b vs o L q := ⟨pst_sub h.S e, TabAt.sub h.T e, e _ _ h.Q, e _ _ h.B, e _ _ h.O, h.np, h.nc, h.nd, h.nb, h.no⟩
theorem Kp_ext (h : Kp C M s l ns ws t P p c d b vs o L q) (S : PSt M' s l ns) (e : Ext (Is s) M M') : Kp C M' s l ns ws t P p c d b vs o L q :=
  ⟨S, ⟨h.T.W, h.T.a, h.T.r, h.T.n, h.T.o, h.T.v, h.T.pr, e _ _ h.np h.T.sp, chAt_ext h.T.ch h.S h.nc e, e _ _ h.nd h.T.td⟩, e _ _ (ne_ins h.S h.Q) h.Q, e _ _ h.nb h.B, e _ _ h.no h.O, h.np, h.nc, h.nd, h.nb, h.no⟩
end
theorem sub_made {M M' : Mp} {x C : Addr} (hx : M x = none) (he : Ext (Is x) (put M x (.ins C [])) M') : Sub M M' := fun z u hz => he _ _ (ne_none hz hx) (by rw [put_ne (ne_none hz hx)]; exact hz)
end K58

set_option maxHeartbeats 4000000
namespace K58
open PySem L2 DL DQ
local macro_rules | `(tactic| walk_at "dl") => `(tactic| simp only [dSeq, dIfS, dB, dTru, truD, dOp, dVar, dC, dAsg, dAug, dCB, dCons, dNil, dRet, dRetN, dName, dGSub, dNext, ends, exOf, dstart, slot, oI0, oI, dAnd, dOr, dNot, dAndV, dOrV, dNotV, dNeg, dSl, dNoP, dPart, dFld, dFldS, dRaise, dLst, dTup, dFor, dIter, dRng1, dRng2, dCall, dMake, dMeth, dIxO, dLc, dYes, dGTup, dGCons, dGNil, dDrop, dBreak, dBM, dDIn, dNever, dChain, dRngD, dZip, dRaiseI, dLstRg, dDGet, dDGet2, dDNew, dGSubD, dDStar, dSortSet, dAugS, dDc, dIterX, dBX,
  eqD_str, neD_str, eqD_int, neD_int, ixG_t0, ixG_t1, isiG_str, isi_int, isi_int_s, isi_int_t, isi_tup, isi_tup_s, isi_tup_i, isi_str_i, isi_str_t, lenG_tup, addD_int, mulD_int, intG, List.nil_append, bne_iff_ne, ofS_inj, Bool.false_bne, Bool.true_bne,
  List.map, List.length_cons, List.length_nil, List.cons_append, List.append_nil, List.replicate, List.set, List.getElem?_cons_zero, List.getElem?_cons_succ, Option.join_some, Option.bind_some, decide_eq_true_eq])
local macro_rules | `(tactic| walk_at "so") => `(tactic| first | omega | (simp; done) | (simp; omega))
variable {K : PySem.W.Frag} {A : Adr} {w : World} {mg : Str → Option Value}
theorem tabAt_of {M : Mp} {ws : List Nat} {P : List Int} {t : QT} {p c d : Addr} (W : okW ws) (a : P.Pairwise (· < ·)) (r : ∀ q ∈ P, 0 ≤ q ∧ q < 100) (n : P.length ≤ 12) (w : t.wf ws) (ho : ∀ q, t.occ q → q ∈ P) (pr : prodW ws P ≤ 256)
    (sp : M p = some (.lst (P.map D.int))) (ch : ChAt M c ws P) (td : M d = some (.lst (table ws P t.ev))) : TabAt M ws P t.ev p c d :=
  ⟨W, a, r, n, onlyOn_ev ho, fun k hk => ev_ok hk w, pr, sp, ch, td⟩
/-- the ends of a term, choice by choice -/
theorem told_ {M : Mp} {ws : List Nat} {P : List Int} {t : QT} {c : Addr} {Z : List (Addr × List Nat)} {τ : Sl} {i : Nat} {F : Mp → Prop} {te : DE} {x : Addr} (W : okW ws) (nd : P.Nodup) (w : t.wf ws) (hh : t.ht ≤ 23) (ho : ∀ q, t.occ q → q ∈ P) (hl : prodW ws P ≤ 1000)
    (h1 : M c = some (.lst (Z.map fun q => D.ref q.1))) (h2 : Z.map (·.2) = chD ws P) (h3 : ∀ q ∈ Z, M q.1 = some (.dk (kvsOf P q.2))) (hx : M x = none)
    (te_ : ∀ q ∈ Z, ∀ (ys : List D) (k : D → Mp → Prop), sp_law_end [t.toD, .ref q.1] (put M x (.lst ys)) k noE → te (τ.set i (some (.ref q.1))) (put M x (.lst ys)) k noE)
    (done : F (put M x (.lst (table ws P t.ev)))) : dCL (fun d τ => τ.set i (some d)) dYes te (fun M' => seqOf M' c = some (Z.map fun q => D.ref q.1)) x τ F (Z.map fun q => D.ref q.1) (put M x (.lst [])) := by
  have zl : Z.length = prodW ws P := by rw [← chD_len, ← h2, List.length_map]
  refine dCL_each (xs := Z) (fun q => D.ref q.1) (fun q => t.ev (kn P q.2)) rfl (by omega) (fun ys => by unfold seqOf; rw [put_ne (ne_none h1 hx), h1]) (fun q hq ys k hk => ?_) ?_
  · have hc : q.2 ∈ chD ws P := by rw [← h2]; exact List.mem_map.mpr ⟨q, hq, rfl⟩
    have hr := h3 q hq
    refine te_ q hq ys k ⟨t, ws, q.1, kvsOf P q.2, kn P q.2, rfl, by rw [put_ne (ne_none hr hx)]; exact hr, w, hh, fun z hz => ?_, kn_vk W hc, hk⟩
    exact kvsOf_val nd (chD_mem hc).1 (ho z hz)
  · have : Z.map (fun q => t.ev (kn P q.2)) = table ws P t.ev := by rw [table_chD, ← h2, List.map_map]; rfl
    rw [this]; exact done
theorem r_law (T : Txt w K mg A) : ∀ ds M Q E, sp_law K ds M Q E → t_law K A (ends Q E) (dstart N_law ds) M := by
  rintro ds M Q E ⟨a0, ns, rfl, hM, hl, hb, k⟩
  have sz := sl2
  have fin : ∀ M', dropQ Q (.bl true) M' := fun M' => dropQ_of (k M') .refl
  unfold t_law N_law
  simp only [dstart, List.map, List.length_cons, List.length_nil, List.replicate, List.cons_append, List.nil_append]
  refine seq_split (fun τ M' => ∃ s l, PSt M' s l ns ∧ τ = [some (.ref a0), some (.ref s), none, none, none, none, none, none, none, none, none, none, none, none, none, none, none, none]) ?_ ?_
  rotate_left
  · intro nx hnx
    walk_at "dl"
    exact ⟨a0, ns, rfl, hM, hl, fun s l M' P _ => hnx _ _ ⟨s, l, P, rfl⟩⟩
  rintro τ M0 ⟨s, l, P0, rfl⟩
  have J0 := LS.zero (S := Is s) P0 rfl
  refine seq_split (fun τ M' => LS (Is s) M0 M' s l ns ∧ ∃ ws, okW ws ∧ τ = [some (.ref a0), some (.ref s), some (wsD ws), none, none, none, none, none, none, none, none, none, none, none, none, none, none, none]) ?_ ?_
  rotate_left
  · intro nx hnx
    walk_at "dl"
    exact ⟨s, l, ns, rfl, P0, fun ws W M' P' e' => hnx _ _ ⟨J0.got P' e', ws, W, rfl⟩⟩
  rintro τ M1 ⟨J1, ws, W, rfl⟩
  refine seq_split (fun τ M' => LS (Is s) M0 M' s l ns ∧ ∃ lim : Nat, 4 ≤ lim ∧ lim ≤ 256 ∧ τ = [some (.ref a0), some (.ref s), some (wsD ws), some (.int ((lim : Nat) : Int)), none, none, none, none, none, none, none, none, none, none, none, none, none, none]) ?_ ?_
  rotate_left
  · intro nx hnx
    walk_at "dl"
    refine ⟨by omega, ?_⟩
    refine J1.choose rfl (by simp) (by simp) fun v M' hv J' e' => ?_
    obtain ⟨lim, h4, h256, rfl⟩ : ∃ lim : Nat, 4 ≤ lim ∧ lim ≤ 256 ∧ v = .int ((lim : Nat) : Int) := by
      simp only [List.mem_cons, List.not_mem_nil, or_false] at hv
      rcases hv with rfl | rfl | rfl | rfl | rfl | rfl | rfl | rfl
      · exact ⟨24, by decide, by decide, rfl⟩
      · exact ⟨24, by decide, by decide, rfl⟩
      · exact ⟨24, by decide, by decide, rfl⟩
      · exact ⟨24, by decide, by decide, rfl⟩
      · exact ⟨64, by decide, by decide, rfl⟩
      · exact ⟨64, by decide, by decide, rfl⟩
      · exact ⟨64, by decide, by decide, rfl⟩
      · exact ⟨256, by decide, by decide, rfl⟩
    exact hnx _ _ ⟨J', lim, h4, h256, rfl⟩
  rintro τ M2 ⟨J2, lim, l4, l256, rfl⟩
  refine seq_split (fun τ M' => LS (Is s) M0 M' s l ns ∧ ∃ y P, okP ws lim P ∧ Own (Is s) M0 M' s l y (.lst (P.map D.int)) ∧ τ = [some (.ref a0), some (.ref s), some (wsD ws), some (.int ((lim : Nat) : Int)), some (.ref y), none, none, none, none, none, none, none, none, none, none, none, none, none]) ?_ ?_
  rotate_left
  · intro nx hnx
    walk_at "dl"
    refine J2.pick (by decide) (by decide) fun r M3 r0 r1 J3 e3 => ?_
    simp only [addD_int]
    have ec : (1 + r) = (((1 + r).toNat : Nat) : Int) := by omega
    refine ⟨s, l, ns, ws, (1 + r).toNat, lim, by rw [← ec], J3.P, W, by omega, by omega, l4, l256, fun P hP y vs M4 hvs hy hy4 P4 e4 => ?_⟩
    subst hvs
    exact hnx _ _ ⟨J3.got P4 e4, y, P, hP, Own.got J3 hy hy4, rfl⟩
  rintro τ M3 ⟨J3, y, P, hP, Oy, rfl⟩
  have hP' : okP ws 256 P := ⟨hP.1, hP.2.1, hP.2.2.1, hP.2.2.2.1, Nat.le_trans hP.2.2.2.2 l256⟩
  refine seq_split (fun τ M' => LS (Is s) M0 M' s l ns ∧ ∃ b vs, okPool vs ∧ Own (Is s) M0 M' s l y (.lst (P.map D.int)) ∧ Own (Is s) M0 M' s l b (.lst vs) ∧ τ = [some (.ref a0), some (.ref s), some (wsD ws), some (.int ((lim : Nat) : Int)), some (.ref y), some (.ref b), none, none, none, none, none, none, none, none, none, none, none, none]) ?_ ?_
  rotate_left
  · intro nx hnx
    walk_at "dl"
    exact ⟨s, l, ns, rfl, J3.P, fun b vs M' hv hb hb' P' e' => hnx _ _ ⟨J3.got P' e', b, vs, hv, Oy.ext e', Own.got J3 hb hb', rfl⟩⟩
  rintro τ M4 ⟨J4, b, vs, hvs, Oy4, Ob4, rfl⟩
  refine seq_split (fun τ M' => LS (Is s) M0 M' s l ns ∧ ∃ t : QT, goodQ ws t ∧ t.low ∧ (∀ q, t.occ q → q ∈ P) ∧ t.ht ≤ 12 ∧ Own (Is s) M0 M' s l y (.lst (P.map D.int)) ∧ Own (Is s) M0 M' s l b (.lst vs) ∧ τ = [some (.ref a0), some (.ref s), some (wsD ws), some (.int ((lim : Nat) : Int)), some (.ref y), some (.ref b), some (t.toD), none, none, none, none, none, none, none, none, none, none, none]) ?_ ?_
  rotate_left
  · intro nx hnx
    walk_at "dl"
    exact ⟨s, l, ns, ws, y, P, b, vs, rfl, J4.P, W, Oy4.ns, Oy4.a, hP', Ob4.ns, Ob4.a, hvs, fun t g ho hh M' P' e' => hnx _ _ ⟨J4.got P' e', t, g.1, g.2, ho, hh, Oy4.ext e', Ob4.ext e', rfl⟩⟩
  rintro τ M5 ⟨J5, t, g, lw, hocc, hht, Oy5, Ob5, rfl⟩
  refine seq_split (fun τ M' => LS (Is s) M0 M' s l ns ∧ ∃ (o : Addr) (L : List Int), L.Perm P ∧ Own (Is s) M0 M' s l y (.lst (P.map D.int)) ∧ Own (Is s) M0 M' s l b (.lst vs) ∧ Own (Is s) M0 M' s l o (.lst (L.map D.int)) ∧ τ = [some (.ref a0), some (.ref s), some (wsD ws), some (.int ((lim : Nat) : Int)), some (.ref y), some (.ref b), some (t.toD), some (.ref o), none, none, none, none, none, none, none, none, none, none]) ?_ ?_
  rotate_left
  · intro nx hnx
    walk_at "dl"
    refine ⟨s, l, ns, y, P, rfl, J5.P, Oy5.ns, Oy5.a, by have := hP.2.1; omega, fun L hL o us M' hus ho ho' P' e' => ?_⟩
    subst hus
    exact hnx _ _ ⟨J5.got P' e', o, L, hL, Oy5.ext e', Ob5.ext e', Own.got J5 ho ho', rfl⟩
  rintro τ M6 ⟨J6, o, L, hL, Oy6, Ob6, Oo6, rfl⟩
  have nSome : ∀ {M' : Mp} {x : Addr}, PSt M' s l ns → M' x = none → x ≠ s := fun P' hx => (P'.s_some hx).1
  refine seq_split (fun τ M' => PSt M' s l ns ∧ ∃ p P', List.Perm P' P ∧ P'.Pairwise (· < ·) ∧ p ≠ s ∧ M' p = some (.lst (P'.map D.int)) ∧ M' b = some (.lst vs) ∧ M' o = some (.lst (L.map D.int)) ∧ τ = [some (.ref a0), some (.ref s), some (wsD ws), some (.int ((lim : Nat) : Int)), some (.ref p), some (.ref b), some (t.toD), some (.ref o), none, none, none, none, none, none, none, none, none, none]) ?_ ?_
  rotate_left
  · intro nx hnx
    walk_at "dl"
    unfold sortInts
    simp only [seqOf, Oy6.a, Option.bind_some, intsOf_map]
    intro P' p hperm hasc hp
    have nd' : P'.Nodup := hperm.nodup_iff.mpr hP.2.2.1
    have asc : P'.Pairwise (· < ·) := (hasc.and nd').imp fun h => by have := h.1; have := h.2; omega
    exact hnx _ _ ⟨J6.P.new hp, p, P', hperm, asc, nSome J6.P hp, put_same, by rw [put_ne (ne_none Ob6.a hp)]; exact Ob6.a, by rw [put_ne (ne_none Oo6.a hp)]; exact Oo6.a, rfl⟩
  rintro τ M7 ⟨S7, p, P', hperm, asc, np, hp7, hb7, ho7, rfl⟩
  have nb := Ob6.ns
  have no := Oo6.ns
  clear J6 Oy6 Ob6 Oo6 J5 Oy5 Ob5 J4 Oy4 Ob4 J3 Oy J2 J1 J0
  have nd' : P'.Nodup := nodup_asc asc
  have hr' : ∀ q ∈ P', 0 ≤ q ∧ q < 100 := fun q hq => hP.2.2.2.1 q (hperm.mem_iff.mp hq)
  have hl' : P'.length ≤ 12 := by rw [hperm.length_eq]; exact hP.2.1
  have hpr' : prodW ws P' ≤ 256 := by rw [prodW_perm hperm]; exact Nat.le_trans (Nat.le_mul_of_pos_right _ (by omega)) hP'.2.2.2.2
  have hocc' : ∀ q, t.occ q → q ∈ P' := fun q hq => hperm.mem_iff.mpr (hocc q hq)
  refine seq_split (fun τ M' => PSt M' s l ns ∧ ∃ c, c ≠ s ∧ ChAt M' c ws P' ∧ M' p = some (.lst (P'.map D.int)) ∧ M' b = some (.lst vs) ∧ M' o = some (.lst (L.map D.int)) ∧ τ = [some (.ref a0), some (.ref s), some (wsD ws), some (.int ((lim : Nat) : Int)), some (.ref p), some (.ref b), some (t.toD), some (.ref o), some (.ref c), none, none, none, none, none, none, none, none, none]) ?_ ?_
  rotate_left
  · intro nx hnx
    walk_at "dl"
    exact ⟨ws, p, P', rfl, W, hp7, nd', by omega, by omega, fun c M' hc s' hch => hnx _ _ ⟨pst_sub S7 s', c, nSome S7 hc, hch, s' _ _ hp7, s' _ _ hb7, s' _ _ ho7, rfl⟩⟩
  rintro τ M8 ⟨S8, c, nc, hc8, hp8, hb8, ho8, rfl⟩
  refine seq_split (fun τ M' => PSt M' s l ns ∧ ∃ d, d ≠ s ∧ TabAt M' ws P' t.ev p c d ∧ M' b = some (.lst vs) ∧ M' o = some (.lst (L.map D.int)) ∧ τ = [some (.ref a0), some (.ref s), some (wsD ws), some (.int ((lim : Nat) : Int)), some (.ref p), some (.ref b), some (t.toD), some (.ref o), some (.ref c), some (.ref d), none, none, none, none, none, none, none, none]) ?_ ?_
  rotate_left
  · intro nx hnx
    obtain ⟨Z, z1, z2, z3⟩ := ch_zip hc8
    walk_at "dl"
    simp only [itemsOf, keepOf, seqOf, z1]
    intro d hd
    have sd : Sub M8 (put M8 d (.lst (table ws P' t.ev))) := Sub.refl.put hd
    refine told_ W nd' g.wf (by have := g.ht; omega) hocc' (by omega) z1 z2 z3 hd (fun q hq ys k hk => ?_) (hnx _ _ ⟨S8.new hd, d, nSome S8 hd, tabAt_of W asc hr' hl' g.wf hocc' hpr' (sd _ _ hp8) (ChAt.sub hc8 sd) put_same, sd _ _ hb8, sd _ _ ho8, rfl⟩)
    walk_at "dl"
    exact hk
  rintro τ M9 ⟨S9, d, nd9, tab9, hb9, ho9, rfl⟩
  refine seq_split (fun τ M' => ∃ q, Kp A.Query M' s l ns ws t P' p c d b vs o L q ∧ τ = [some (.ref a0), some (.ref s), some (wsD ws), some (.int ((lim : Nat) : Int)), some (.ref p), some (.ref b), some (t.toD), some (.ref o), some (.ref c), some (.ref d), some (.ref q), none, none, none, none, none, none, none]) ?_ ?_
  rotate_left
  · intro nx hnx
    walk_at "dl"
    refine fun q hq => ⟨q, t, ws, rfl, put_same, g, fun M' hQ he => ⟨rfl, ?_⟩⟩
    have sM := sub_made hq he
    exact hnx _ _ ⟨q, ⟨pst_sub S9 sM, TabAt.sub tab9 sM, hQ, sM _ _ hb9, sM _ _ ho9, np, nc, nd9, nb, no⟩, rfl⟩
  rintro τ M10 ⟨q, K10, rfl⟩
  refine seq_split (fun τ M' => M' = M10 ∧ τ = [some (.ref a0), some (.ref s), some (wsD ws), some (.int ((lim : Nat) : Int)), some (.ref p), some (.ref b), some (t.toD), some (.ref o), some (.ref c), some (.ref d), some (.ref q), none, none, none, none, none, none, none]) ?_ ?_
  rotate_left
  · intro nx hnx
    walk_at "dl"
    refine ⟨q, t, ws, p, c, d, P', rfl, K10.Q, g, K10.T, ?_⟩
    simp only [truD, Bool.not_true, Bool.false_eq_true, if_false]
    exact hnx _ _ ⟨rfl, rfl⟩
  rintro τ M11 ⟨rfl, rfl⟩
  have hLm : ∀ z, z ∈ L ↔ z ∈ P' := fun z => by rw [hL.mem_iff, hperm.mem_iff]
  refine seq_split (fun τ M' => ∃ u : QT, u.wf ws ∧ u.ht ≤ 12 ∧ u.nk ≤ 255 ∧ (∀ z, u.occ z → z ∈ P') ∧ Kp A.Query M' s l ns ws t P' p c d b vs o L q ∧ τ = [some (.ref a0), some (.ref s), some (wsD ws), some (.int ((lim : Nat) : Int)), some (.ref p), some (.ref b), some (t.toD), some (.ref o), some (.ref c), some (.ref d), some (.ref q), some (u.toD), none, none, none, none, none, none]) ?_ ?_
  rotate_left
  · intro nx hnx
    obtain ⟨Z, z1, z2, z3⟩ := ch_zip K10.T.ch
    have zl : Z.length = prodW ws P' := by rw [← chD_len, ← z2, List.length_map]
    have zp := prodW_pos W P'
    walk_at "dl"
    intro e he
    have ne := nSome K10.S he
    have se : Sub M11 (put M11 e (.dk [])) := Sub.refl.put he
    have Ke := Kp_sub K10 se
    have hee : (put M11 e (.dk [])) e = some (.dk []) := put_same
    have z1e := se _ _ z1
    have z3e := fun q hq => se _ _ (z3 q hq)
    generalize put M11 e (.dk []) = Me at *
    rw [lenG_at z1e]
    refine (LS.zero (S := Is s) Ke.S rfl).pickAt z1e nc rfl (by rw [List.length_map]; omega) (by rw [List.length_map]; omega) fun v M12 hv J12 e12 => ?_
    obtain ⟨zq, hzq, rfl⟩ := List.mem_map.mp hv
    have K12 := Kp_ext Ke J12.P e12
    have hr12 := e12 _ _ (ne_dict Ke.S (z3e zq hzq)) (z3e zq hzq)
    have he12 := e12 _ _ ne hee
    refine ⟨by omega, ?_⟩
    refine (LS.zero (S := Is s) J12.P rfl).choose rfl (by simp) (by simp) fun v M13 hv J13 e13 => ?_
    have K13 := Kp_ext K12 J13.P J13.X
    have hr13 := J13.X _ _ (ne_dict J12.P hr12) hr12
    have he13 := J13.X _ _ ne he12
    have fl := fullN_le W L
    rw [prodW_perm hL, ones_perm hL] at fl
    have fl2 := hP'.2.2.2.2
    have ll : L.length ≤ 12 := by rw [hL.length_eq]; exact hP.2.1
    have goal : ∀ ch X, chOk ch X M13 → sp_law_retold 14 [wsD ws, t.toD, .ref o, .ref e, X] M13 (fun dv M9 => nx ([some (.ref a0), some (.ref s), some (wsD ws), some (.int ((lim : Nat) : Int)), some (.ref p), some (.ref b), some (t.toD), some (.ref o), some (.ref c), some (.ref d), some (.ref q), none, none, none, none, none, none, none].set 11 (some dv)) M9) noE := fun ch X hX => by
      have ra := rt_all (ch := ch) (kvs := []) (k := k0) W g.wf lw (fun z hz => hr' z ((hLm z).mp hz)) (vk_k0 W)
      refine ⟨ws, t, o, L, e, [], k0, X, ch, rfl, W, g.wf, by omega, K13.O, by omega, by omega, he13, fun z hz hn => (hn ((hLm z).mpr (hocc' z hz))).elim, fun z v hv => (by cases hv), vk_k0 W, by simp; omega, rfl, hX, ?_⟩
      exact hnx _ _ ⟨_, ra.1, by omega, by omega, fun z hz => (hLm z).mp (ra.2.2.2 z hz), K13, rfl⟩
    simp only [List.mem_cons, List.not_mem_nil, or_false] at hv
    rcases hv with rfl | rfl
    · exact goal none _ rfl
    · exact goal (some _) _ ⟨_, rfl, hr13, kvsOf_ints⟩
  rintro τ M12 ⟨u, uwf, uht, unk, uocc, K12, rfl⟩
  have gu : goodQ ws u := good_of W uwf (by omega) (by omega) uocc hpr' (by omega)
  refine seq_split (fun τ M' => ∃ q2, QueryAt A.Query M' q2 u ws ∧ Kp A.Query M' s l ns ws t P' p c d b vs o L q ∧ τ = [some (.ref a0), some (.ref s), some (wsD ws), some (.int ((lim : Nat) : Int)), some (.ref p), some (.ref b), some (t.toD), some (.ref o), some (.ref c), some (.ref d), some (.ref q), some (u.toD), some (.ref q2), none, none, none, none, none]) ?_ ?_
  rotate_left
  · intro nx hnx
    walk_at "dl"
    refine fun q2 hq => ⟨q2, u, ws, rfl, put_same, gu, fun M' hQ he => ⟨rfl, ?_⟩⟩
    exact hnx _ _ ⟨q2, hQ, Kp_sub K12 (sub_made hq he), rfl⟩
  rintro τ M13 ⟨q2, hQ13, K13, rfl⟩
  refine seq_split (fun τ M' => QueryAt A.Query M' q2 u ws ∧ Kp A.Query M' s l ns ws t P' p c d b vs o L q ∧ τ = [some (.ref a0), some (.ref s), some (wsD ws), some (.int ((lim : Nat) : Int)), some (.ref p), some (.ref b), some (t.toD), some (.ref o), some (.ref c), some (.ref d), some (.ref q), some (u.toD), some (.ref q2), none, none, none, none, none]) ?_ ?_
  rotate_left
  · intro nx hnx
    obtain ⟨Z, z1, z2, z3⟩ := ch_zip K13.T.ch
    walk_at "dl"
    simp only [itemsOf, keepOf, seqOf, z1]
    intro d2 hd2
    have sd : Sub M13 (put M13 d2 (.lst (table ws P' u.ev))) := Sub.refl.put hd2
    refine told_ W nd' uwf (by omega) uocc (by omega) z1 z2 z3 hd2 (fun q hq ys k hk => ?_) ?_
    · walk_at "dl"
      exact hk
    refine ⟨q2, u, ws, p, c, d2, P', rfl, sd _ _ hQ13, gu, tabAt_of W asc hr' hl' uwf uocc hpr' (sd _ _ K13.T.sp) (ChAt.sub K13.T.ch sd) put_same, ?_⟩
    simp only [truD, Bool.not_true, Bool.false_eq_true, if_false]
    exact hnx _ _ ⟨sd _ _ hQ13, Kp_sub K13 sd, rfl⟩
  rintro τ M14 ⟨hQ14, K14, rfl⟩
  refine seq_split (fun τ M' => ∃ z : Int, 0 ≤ z ∧ z < 100 ∧ QueryAt A.Query M' q2 u ws ∧ Kp A.Query M' s l ns ws t P' p c d b vs o L q ∧ τ = [some (.ref a0), some (.ref s), some (wsD ws), some (.int ((lim : Nat) : Int)), some (.ref p), some (.ref b), some (t.toD), some (.ref o), some (.ref c), some (.ref d), some (.ref q), some (u.toD), some (.ref q2), some (.int z), none, none, none, none]) ?_ ?_
  rotate_left
  · intro nx hnx
    walk_at "dl"
    refine (LS.zero (S := Is s) K14.S rfl).pick (by decide) (by decide) fun z M' z0 z1 J' e' => ?_
    exact hnx _ _ ⟨z, z0, z1, e' _ _ (ne_ins K14.S hQ14) hQ14, Kp_ext K14 J'.P e', rfl⟩
  rintro τ M15 ⟨z, hz0, hz1, hQ15, K15, rfl⟩
  obtain ⟨v0, vr, hv0⟩ : ∃ v0 vr, vs = v0 :: vr := by
    cases vs with
    | nil => exact absurd hvs.1 (by simp)
    | cons v0 vr => exact ⟨v0, vr, rfl⟩
  have ok0 : okV v0 := (hvs.2.2 v0 (by rw [hv0]; simp)).1
  refine seq_split (fun τ M' => M' = M15 ∧ τ = [some (.ref a0), some (.ref s), some (wsD ws), some (.int ((lim : Nat) : Int)), some (.ref p), some (.ref b), some (t.toD), some (.ref o), some (.ref c), some (.ref d), some (.ref q), some (u.toD), some (.ref q2), some (.int z), some ((QT.tell v0).toD), none, none, none]) ?_ ?_
  rotate_left
  · intro nx hnx
    have hb := K15.B
    rw [hv0] at hb
    walk_at "dl"
    rw [ix_at0 hb]
    refine ⟨by omega, hnx _ _ ⟨rfl, ?_⟩⟩
    rw [QT.toD]
  rintro τ M16 ⟨rfl, rfl⟩
  refine seq_split (fun τ M' => ∃ e1 e2, M' e1 = some (.lst [.ref e2]) ∧ M' e2 = some (.dk []) ∧ QueryAt A.Query M' q2 u ws ∧ Kp A.Query M' s l ns ws t P' p c d b vs o L q ∧ τ = [some (.ref a0), some (.ref s), some (wsD ws), some (.int ((lim : Nat) : Int)), some (.ref p), some (.ref b), some (t.toD), some (.ref o), some (.ref c), some (.ref d), some (.ref q), some (u.toD), some (.ref q2), some (.int z), some ((QT.tell v0).toD), some (.ref e1), none, none]) ?_ ?_
  rotate_left
  · intro nx hnx
    walk_at "dl"
    intro e2 he2
    refine ⟨by omega, fun e1 he1 => ?_⟩
    have s1 : Sub M16 (put M16 e2 (.dk [])) := Sub.refl.put he2
    have h2 : (put M16 e2 (.dk [])) e2 = some (.dk []) := put_same
    have s2 := s1.put he1 (o := .lst [.ref e2])
    exact hnx _ _ ⟨e1, e2, put_same, by rw [put_ne (ne_none h2 he1)]; exact h2, s2 _ _ hQ15, Kp_sub K15 s2, rfl⟩
  rintro τ M17 ⟨e1, e2, he1, he2, hQ17, K17, rfl⟩
  have wz := wd_pos W z
  let f2 : QT := .look z (List.replicate (wd ws z) (.tell v0))
  have ev2 : ∀ k, vk ws k → f2.ev k = v0 := fun k hk => by
    show (QT.look z (List.replicate (wd ws z) (.tell v0))).ev k = v0
    rw [QT.ev, evAt_get (t := .tell v0) (by rw [List.getElem?_replicate, if_pos (hk z)]), QT.ev]
  have flat : ∀ f : QT, f = .tell v0 ∨ f = f2 → goodQ ws f ∧ ∀ k, vk ws k → f.ev k = v0 := by
    rintro f (rfl | rfl)
    · refine ⟨good_of W (P := []) (by rw [QT.wf]; exact ok0) (by rw [QT.ht]; omega) (by rw [QT.nk]; omega) (fun z hz => by rw [QT.occ] at hz; exact hz.elim) (by simp [prodW]) (by simp), fun k _ => by rw [QT.ev]⟩
    · refine ⟨good_of W (P := [z]) ?_ ?_ ?_ ?_ (by simp [prodW]; omega) (by simp), ev2⟩
      · show (QT.look z (List.replicate (wd ws z) (.tell v0))).wf ws
        rw [QT.wf]
        exact ⟨hz0, hz1, by simp, wfL_mem.mpr fun x hx => by rw [List.eq_of_mem_replicate hx, QT.wf]; exact ok0⟩
      · show (QT.look z (List.replicate (wd ws z) (.tell v0))).ht ≤ 20
        rw [QT.ht]
        have : htL (List.replicate (wd ws z) (QT.tell v0)) ≤ 0 := htL_le fun x hx => by rw [List.eq_of_mem_replicate hx, QT.ht]; omega
        omega
      · show (QT.look z (List.replicate (wd ws z) (.tell v0))).nk ≤ 300
        rw [QT.nk]
        have : nkL (List.replicate (wd ws z) (QT.tell v0)) ≤ _ * 0 := nkL_le (ws := ws) (c := 0) fun x hx => by rw [List.eq_of_mem_replicate hx, QT.nk]; omega
        omega
      · intro x hx
        have hx : (QT.look z (List.replicate (wd ws z) (.tell v0))).occ x := hx
        rw [QT.occ] at hx
        rcases hx with rfl | hx
        · simp
        · obtain ⟨y, hy, h⟩ := occL_mem.mp hx
          rw [List.eq_of_mem_replicate hy, QT.occ] at h
          exact h.elim
  refine seq_split (fun τ M' => QueryAt A.Query M' q2 u ws ∧ Kp A.Query M' s l ns ws t P' p c d b vs o L q ∧ ∃ o16, τ = [some (.ref a0), some (.ref s), some (wsD ws), some (.int ((lim : Nat) : Int)), some (.ref p), some (.ref b), some (t.toD), some (.ref o), some (.ref c), some (.ref d), some (.ref q), some (u.toD), some (.ref q2), some (.int z), some ((QT.tell v0).toD), some (.ref e1), o16, none]) ?_ ?_
  rotate_left
  · intro nx hnx
    walk_at "dl"
    refine ⟨by omega, by omega, ws, z, rfl, W, ?_⟩
    simp only [mulD, Int.toNat_natCast, addD_tup]
    have ef : D.tup ([.str (Str.ofString "look"), .int z] ++ (List.replicate (wd ws z) [(QT.tell v0).toD]).flatten) = f2.toD := by
      have e9 : (QT.look z (List.replicate (wd ws z) (.tell v0))).toD = .tup (.str "look" :: .int z :: toDs (List.replicate (wd ws z) (.tell v0))) := by rw [QT.toD]
      show _ = (QT.look z (List.replicate (wd ws z) (.tell v0))).toD
      rw [e9, toDs_map, List.map_replicate, List.flatten_replicate_singleton]; rfl
    refine ⟨⟨by omega, by omega, by simp; omega⟩, by simp; omega, by omega, fun e3 he3 => ?_⟩
    rw [ef]
    simp only [itemsOf, seqOf, put_same, keepOf]
    have s3 : Sub M17 (put M17 e3 (.lst [(QT.tell v0).toD, f2.toD])) := Sub.refl.put he3
    have h3 : (put M17 e3 (.lst [(QT.tell v0).toD, f2.toD])) e3 = some (.lst [(QT.tell v0).toD, f2.toD]) := put_same
    refine dLoop_inv (fun i τ M' => M' e1 = some (.lst [.ref e2]) ∧ M' e2 = some (.dk []) ∧ M' e3 = some (.lst [(QT.tell v0).toD, f2.toD]) ∧ QueryAt A.Query M' q2 u ws ∧ Kp A.Query M' s l ns ws t P' p c d b vs o L q ∧ ∃ o16, τ = [some (.ref a0), some (.ref s), some (wsD ws), some (.int ((lim : Nat) : Int)), some (.ref p), some (.ref b), some (t.toD), some (.ref o), some (.ref c), some (.ref d), some (.ref q), some (u.toD), some (.ref q2), some (.int z), some ((QT.tell v0).toD), some (.ref e1), o16, none]) (fun i τ M' _ h => by rw [h.2.2.1]) ?_ ?_ ⟨s3 _ _ he1, s3 _ _ he2, h3, s3 _ _ hQ17, Kp_sub K17 s3, none, rfl⟩
    · rintro i dd τ M' nxt hd ⟨a1, a2, a3, aQ, aK, o16, rfl⟩ hnx'
      obtain ⟨f, hf, rfl⟩ : ∃ f : QT, (f = .tell v0 ∨ f = f2) ∧ dd = f.toD := by
        have := List.mem_of_getElem? hd
        simp only [List.mem_cons, List.not_mem_nil, or_false] at this
        rcases this with h | h
        · exact ⟨_, .inl rfl, h⟩
        · exact ⟨_, .inr rfl, h⟩
      obtain ⟨gf, ef⟩ := flat f hf
      walk_at "dl"
      refine fun x hx => ⟨x, f, ws, rfl, put_same, gf, fun M2 hQ2 he => ⟨rfl, by omega, fun n1 hn1 => ?_⟩⟩
      have sA := (sub_made hx he).put hn1 (o := .lst [])
      have hQ3 : QueryAt A.Query (put M2 n1 (.lst [])) x f ws := (Sub.refl.put hn1 (o := .lst [])) _ _ hQ2
      have hn1' : (put M2 n1 (.lst [])) n1 = some (.lst []) := put_same
      generalize put M2 n1 (.lst []) = M3 at *
      have KA := Kp_sub aK sA
      have hb := KA.B
      rw [hv0] at hb
      rw [ix_at0 hb]
      refine ⟨by omega, fun n2 hn2 => ?_⟩
      have sB : Sub M3 (put M3 n2 (.lst [v0])) := Sub.refl.put hn2
      have hn2' : (put M3 n2 (.lst [v0])) n2 = some (.lst [v0]) := put_same
      generalize put M3 n2 (.lst [v0]) = M4 at *
      have sC := sA.trans sB
      have e0 : table ws [] f.ev = [v0] := by rw [DQ.table, ef _ (vk_k0 W)]
      refine ⟨x, f, ws, n1, e1, n2, [], rfl, sB _ _ hQ3, gf, ⟨W, .nil, fun _ h => (nomatch h), by simp, fun k k' a b _ => by rw [ef k a, ef k' b], fun k hk => by rw [ef k hk]; exact ok0, by simp [prodW], sB _ _ hn1', ⟨[e2], sC _ _ a1, by rw [chD_len]; rfl, fun i r ds x y => ?_⟩, by rw [e0]; exact hn2'⟩, ?_⟩
      · have hi : i = 0 := by
          have := (List.getElem?_eq_some_iff.mp x).1
          simp at this; exact this
        subst hi
        simp only [List.getElem?_cons_zero, Option.some.injEq] at x
        subst x
        have : kvsOf [] ds = [] := by cases ds <;> rfl
        rw [this]; exact sC _ _ a2
      simp only [truD, Bool.not_true, Bool.false_eq_true, if_false, dNext]
      exact hnx' _ _ ⟨sC _ _ a1, sC _ _ a2, sC _ _ a3, sC _ _ aQ, Kp_sub aK sC, _, rfl⟩
    · rintro τ M' ⟨_, _, _, aQ, aK, o16, rfl⟩
      exact hnx _ _ ⟨aQ, aK, o16, rfl⟩
  rintro τ M18 ⟨hQ18, K18, o16, rfl⟩
  refine seq_split (fun τ M' => M' = M18 ∧ τ = [some (.ref a0), some (.ref s), some (wsD ws), some (.int ((lim : Nat) : Int)), some (.ref p), some (.ref b), some (t.toD), some (.ref o), some (.ref c), some (.ref d), some (.ref q), some (u.toD), some (.ref q2), some (.int z), some ((QT.tell v0).toD), some (.ref e1), o16, none]) ?_ ?_
  rotate_left
  · intro nx hnx
    walk_at "dl"
    refine ⟨q, t, ws, p, c, d, P', rfl, K18.Q, g, K18.T, ?_⟩
    simp only [truD, Bool.not_true, Bool.false_eq_true, if_false]
    exact hnx _ _ ⟨rfl, rfl⟩
  rintro τ M19 ⟨rfl, rfl⟩
  have hq1 : M19 q = some (.ins A.Query (qF t ws)) := K18.Q
  have hq2 : M19 q2 = some (.ins A.Query (qF u ws)) := hQ18
  walk_at "dl"
  simp only [hq1, hq2, qF_term, qF_widths]
  have okw : okS 98 (wsD ws) := by
    unfold wsD
    refine okS_tup (n := 97) (by have := W.2.1; simp; omega) fun x hx => ?_
    obtain ⟨i, _, rfl⟩ := List.mem_map.mp hx
    exact okS_int
  refine ⟨T.d_Query_term, T.d_Query_widths, T.d_Query_term, T.d_Query_widths, by omega, by omega, _, rfl, okS_tup (n := 98) (by simp) fun x hx => ?_, fin _⟩
  simp only [List.mem_cons, List.not_mem_nil, or_false] at hx
  rcases hx with rfl | rfl | rfl | rfl
  · exact okS_toD W g.wf (by have := g.ht; omega)
  · exact okw
  · exact okS_toD W uwf (by omega)
  · exact okw
end K58

set_option maxHeartbeats 4000000
namespace K58
open PySem L2 DL DQ
theorem fnOk_not {P : Program} {w : World} {K : PySem.W.Frag} {mg : Str → Option Value} {base : Heap} {k : Nat} {f : Addr} {fd : FuncData} {ps : List Str} {sp : DSp} (h : ∀ ds M Q E, ¬ sp ds M Q E) : FnOk P w K mg base (L2.CX P w) k f fd ps (liftSp K sp) :=
  ⟨fun vs H Q E ⟨ds, M, Qd, Ed, q, r⟩ => (h _ _ _ _ q).elim, fun A outer s H args us vs Q E hr he hb hv ⟨ds, M, Qd, Ed, q, r⟩ => (h _ _ _ _ q).elim⟩
theorem len_is_below : ∀ ds M Q E, sp_is_below ds M Q E → ds.length = P_is_below.length := fun ds M Q E h => by
  (repeat (obtain ⟨_, h⟩ := h))
  all_goals (subst_vars; rfl)
theorem len_place_width : ∀ ds M Q E, sp_place_width ds M Q E → ds.length = P_place_width.length := fun ds M Q E h => by
  (repeat (obtain ⟨_, h⟩ := h))
  all_goals (subst_vars; rfl)
theorem len_check_widths : ∀ ds M Q E, sp_check_widths ds M Q E → ds.length = P_check_widths.length := fun ds M Q E h => by
  (repeat (obtain ⟨_, h⟩ := h))
  all_goals (subst_vars; rfl)
theorem len_check_query {n : Nat} : ∀ ds M Q E, sp_check_query (n + 1) ds M Q E → ds.length = P_check_query.length := fun ds M Q E h => by
  (repeat (obtain ⟨_, h⟩ := h))
  all_goals (subst_vars; rfl)
theorem len_count_looks {n : Nat} : ∀ ds M Q E, sp_count_looks (n + 1) ds M Q E → ds.length = P_count_looks.length := fun ds M Q E h => by
  (repeat (obtain ⟨_, h⟩ := h))
  all_goals (subst_vars; rfl)
theorem len_named_places {n : Nat} : ∀ ds M Q E, sp_named_places (n + 1) ds M Q E → ds.length = P_named_places.length := fun ds M Q E h => by
  (repeat (obtain ⟨_, h⟩ := h))
  all_goals (subst_vars; rfl)
theorem len_is_large : ∀ ds M Q E, sp_is_large ds M Q E → ds.length = P_is_large.length := fun ds M Q E h => by
  (repeat (obtain ⟨_, h⟩ := h))
  all_goals (subst_vars; rfl)
theorem len_Query_init {A : Adr} : ∀ ds M Q E, sp_Query_init A.Query ds M Q E → ds.length = P_Query_init.length := fun ds M Q E h => by
  (repeat (obtain ⟨_, h⟩ := h))
  all_goals (subst_vars; rfl)
theorem len_told_by : ∀ ds M Q E, sp_told_by ds M Q E → ds.length = P_told_by.length := fun ds M Q E h => by
  (repeat (obtain ⟨_, h⟩ := h))
  all_goals (subst_vars; rfl)
theorem len_settled_term {n : Nat} : ∀ ds M Q E, sp_settled_term (n + 1) ds M Q E → ds.length = P_settled_term.length := fun ds M Q E h => by
  (repeat (obtain ⟨_, h⟩ := h))
  all_goals (subst_vars; rfl)
theorem len_settle_query {A : Adr} : ∀ ds M Q E, sp_settle_query A.Query ds M Q E → ds.length = P_settle_query.length := fun ds M Q E h => by
  (repeat (obtain ⟨_, h⟩ := h))
  all_goals (subst_vars; rfl)
theorem len_needed_places {A : Adr} : ∀ ds M Q E, sp_needed_places A.Query ds M Q E → ds.length = P_needed_places.length := fun ds M Q E h => by
  (repeat (obtain ⟨_, h⟩ := h))
  all_goals (subst_vars; rfl)
theorem len_query_reach {A : Adr} : ∀ ds M Q E, sp_query_reach A.Query ds M Q E → ds.length = P_query_reach.length := fun ds M Q E h => by
  (repeat (obtain ⟨_, h⟩ := h))
  all_goals (subst_vars; rfl)
theorem len_tells_of {n : Nat} : ∀ ds M Q E, sp_tells_of (n + 1) ds M Q E → ds.length = P_tells_of.length := fun ds M Q E h => by
  (repeat (obtain ⟨_, h⟩ := h))
  all_goals (subst_vars; rfl)
theorem len_told_values {A : Adr} : ∀ ds M Q E, sp_told_values A.Query ds M Q E → ds.length = P_told_values.length := fun ds M Q E h => by
  (repeat (obtain ⟨_, h⟩ := h))
  all_goals (subst_vars; rfl)
theorem len_heads_between : ∀ ds M Q E, sp_heads_between ds M Q E → ds.length = P_heads_between.length := fun ds M Q E h => by
  (repeat (obtain ⟨_, h⟩ := h))
  all_goals (subst_vars; rfl)
theorem len_heads_by_tell {n : Nat} : ∀ ds M Q E, sp_heads_by_tell (n + 1) ds M Q E → ds.length = P_heads_by_tell.length := fun ds M Q E h => by
  (repeat (obtain ⟨_, h⟩ := h))
  all_goals (subst_vars; rfl)
theorem len_count_heads {A : Adr} : ∀ ds M Q E, sp_count_heads A.Query ds M Q E → ds.length = P_count_heads.length := fun ds M Q E h => by
  (repeat (obtain ⟨_, h⟩ := h))
  all_goals (subst_vars; rfl)
theorem len_law_pick : ∀ ds M Q E, sp_law_pick ds M Q E → ds.length = P_law_pick.length := fun ds M Q E h => by
  (repeat (obtain ⟨_, h⟩ := h))
  all_goals (subst_vars; rfl)
theorem len_law_same {n : Nat} : ∀ ds M Q E, sp_law_same (n + 1) ds M Q E → ds.length = P_law_same.length := fun ds M Q E h => by
  (repeat (obtain ⟨_, h⟩ := h))
  all_goals (subst_vars; rfl)
theorem len_law_width : ∀ ds M Q E, sp_law_width ds M Q E → ds.length = P_law_width.length := fun ds M Q E h => by
  (repeat (obtain ⟨_, h⟩ := h))
  all_goals (subst_vars; rfl)
theorem len_law_widths : ∀ ds M Q E, sp_law_widths ds M Q E → ds.length = P_law_widths.length := fun ds M Q E h => by
  (repeat (obtain ⟨_, h⟩ := h))
  all_goals (subst_vars; rfl)
theorem len_law_pool : ∀ ds M Q E, sp_law_pool ds M Q E → ds.length = P_law_pool.length := fun ds M Q E h => by
  (repeat (obtain ⟨_, h⟩ := h))
  all_goals (subst_vars; rfl)
theorem len_law_shuffled : ∀ ds M Q E, sp_law_shuffled ds M Q E → ds.length = P_law_shuffled.length := fun ds M Q E h => by
  (repeat (obtain ⟨_, h⟩ := h))
  all_goals (subst_vars; rfl)
theorem len_law_asked {n : Nat} : ∀ ds M Q E, sp_law_asked (n + 1) ds M Q E → ds.length = P_law_asked.length := fun ds M Q E h => by
  (repeat (obtain ⟨_, h⟩ := h))
  all_goals (subst_vars; rfl)
theorem len_law_full {n : Nat} : ∀ ds M Q E, sp_law_full (n + 1) ds M Q E → ds.length = P_law_full.length := fun ds M Q E h => by
  (repeat (obtain ⟨_, h⟩ := h))
  all_goals (subst_vars; rfl)
theorem len_law_choices : ∀ ds M Q E, sp_law_choices ds M Q E → ds.length = P_law_choices.length := fun ds M Q E h => by
  (repeat (obtain ⟨_, h⟩ := h))
  all_goals (subst_vars; rfl)
theorem len_law_end : ∀ ds M Q E, sp_law_end ds M Q E → ds.length = P_law_end.length := fun ds M Q E h => by
  (repeat (obtain ⟨_, h⟩ := h))
  all_goals (subst_vars; rfl)
theorem len_law_retold {n : Nat} : ∀ ds M Q E, sp_law_retold (n + 1) ds M Q E → ds.length = P_law_retold.length := fun ds M Q E h => by
  (repeat (obtain ⟨_, h⟩ := h))
  all_goals (subst_vars; rfl)
theorem len_law_places : ∀ ds M Q E, sp_law_places ds M Q E → ds.length = P_law_places.length := fun ds M Q E h => by
  (repeat (obtain ⟨_, h⟩ := h))
  all_goals (subst_vars; rfl)
theorem len_law_term : ∀ ds M Q E, sp_law_term ds M Q E → ds.length = P_law_term.length := fun ds M Q E h => by
  (repeat (obtain ⟨_, h⟩ := h))
  all_goals (subst_vars; rfl)
theorem len_law_different : ∀ ds M Q E, sp_law_different ds M Q E → ds.length = P_law_different.length := fun ds M Q E h => by
  (repeat (obtain ⟨_, h⟩ := h))
  all_goals (subst_vars; rfl)
theorem len_law_many : ∀ ds M Q E, sp_law_many ds M Q E → ds.length = P_law_many.length := fun ds M Q E h => by
  (repeat (obtain ⟨_, h⟩ := h))
  all_goals (subst_vars; rfl)
theorem len_law_strides : ∀ ds M Q E, sp_law_strides ds M Q E → ds.length = P_law_strides.length := fun ds M Q E h => by
  (repeat (obtain ⟨_, h⟩ := h))
  all_goals (subst_vars; rfl)
theorem len_law_needed : ∀ ds M Q E, sp_law_needed ds M Q E → ds.length = P_law_needed.length := fun ds M Q E h => by
  (repeat (obtain ⟨_, h⟩ := h))
  all_goals (subst_vars; rfl)
theorem len_law_heads : ∀ ds M Q E, sp_law_heads ds M Q E → ds.length = P_law_heads.length := fun ds M Q E h => by
  (repeat (obtain ⟨_, h⟩ := h))
  all_goals (subst_vars; rfl)
theorem len_law_counted {A : Adr} : ∀ ds M Q E, sp_law_counted A.Query ds M Q E → ds.length = P_law_counted.length := fun ds M Q E h => by
  (repeat (obtain ⟨_, h⟩ := h))
  all_goals (subst_vars; rfl)
theorem len_law {K : PySem.W.Frag} : ∀ ds M Q E, sp_law K ds M Q E → ds.length = P_law.length := fun ds M Q E h => by
  (repeat (obtain ⟨_, h⟩ := h))
  all_goals (subst_vars; rfl)
theorem all_mk {l : PySem.W.OpenLaw} {w : World} {K : PySem.W.Frag} {h : Heap} {mg : Str → Option Value} {fa ProofsError InvalidText InvalidTerm InvalidQuery OutOfRange TooLarge Query f1 f2 f3 f4 f5 f6 f7 f8 f9 f10 f11 f12 f13 f14 f15 f16 f17 f18 f19 f20 f21 f22 f23 f24 f25 f26 f27 f28 f29 f30 f31 f32 f33 f34 f35 f36 f37 f38 f39 : Addr} (X : K.In h) (G : h.Ns mainGlobals mg) (hfa : mg "law" = some (.ref fa))
    {od1 an1 od2 an2 od3 an3 od4 an4 od5 an5 od6 an6 od7 an7 od8 an8 od9 an9 od10 an10 od11 an11 od12 an12 od13 an13 od14 an14 od15 an15 od16 an16 od17 an17 od18 an18 od19 an19 od20 an20 od21 an21 od22 an22 od23 an23 od24 an24 od25 an25 od26 an26 od27 an27 od28 an28 od29 an29 od30 an30 od31 an31 od32 an32 od33 an33 od34 an34 od35 an35 od36 an36 od37 an37 od38 an38 od39 an39 : Option Addr} {sl1 sl2 sl3 sl4 sl5 sl6 sl7 sl8 sl9 sl10 sl11 sl12 sl13 sl14 sl15 sl16 sl17 sl18 sl19 sl20 sl21 sl22 sl23 sl24 sl25 sl26 sl27 sl28 sl29 sl30 sl31 sl32 sl33 sl34 sl35 sl36 sl37 sl38 sl39 : Array (Option Value)} {oc1 kV1 dc1 pm1 cd1 ct1 oc2 kV2 dc2 pm2 cd2 ct2 oc3 kV3 dc3 pm3 cd3 ct3 oc4 kV4 dc4 pm4 cd4 ct4 oc5 kV5 dc5 pm5 cd5 ct5 oc6 kV6 dc6 pm6 cd6 ct6 oc7 kV7 dc7 pm7 cd7 ct7 oc8 kV8 dc8 pm8 cd8 ct8 oc9 kV9 dc9 pm9 cd9 ct9 oc10 kV10 dc10 pm10 cd10 ct10 oc11 kV11 dc11 pm11 cd11 ct11 oc12 kV12 dc12 pm12 cd12 ct12 oc13 kV13 dc13 pm13 cd13 ct13 oc14 kV14 dc14 pm14 cd14 ct14 oc15 kV15 dc15 pm15 cd15 ct15 oc16 kV16 dc16 pm16 cd16 ct16 oc17 kV17 dc17 pm17 cd17 ct17 oc18 kV18 dc18 pm18 cd18 ct18 oc19 kV19 dc19 pm19 cd19 ct19 oc20 kV20 dc20 pm20 cd20 ct20 oc21 kV21 dc21 pm21 cd21 ct21 oc22 kV22 dc22 pm22 cd22 ct22 oc23 kV23 dc23 pm23 cd23 ct23 oc24 kV24 dc24 pm24 cd24 ct24 oc25 kV25 dc25 pm25 cd25 ct25 oc26 kV26 dc26 pm26 cd26 ct26 oc27 kV27 dc27 pm27 cd27 ct27 oc28 kV28 dc28 pm28 cd28 ct28 oc29 kV29 dc29 pm29 cd29 ct29 oc30 kV30 dc30 pm30 cd30 ct30 oc31 kV31 dc31 pm31 cd31 ct31 oc32 kV32 dc32 pm32 cd32 ct32 oc33 kV33 dc33 pm33 cd33 ct33 oc34 kV34 dc34 pm34 cd34 ct34 oc35 kV35 dc35 pm35 cd35 ct35 oc36 kV36 dc36 pm36 cd36 ct36 oc37 kV37 dc37 pm37 cd37 ct37 oc38 kV38 dc38 pm38 cd38 ct38 oc39 kV39 dc39 pm39 cd39 ct39 : Value}
    {tkDIGITS : Tok}
    {tkLETTERS : Tok}
    {tkMOST_DEPTH : Tok}
    {tkMOST_DIGITS : Tok}
    {tkMOST_LETTERS : Tok}
    {tkMOST_NUMBER : Tok}
    {tkMOST_WIDTH : Tok}
    {tkMOST_WIDTHS : Tok}
    {tkPLACES : Tok}
    {tcQueryMOST_CHOICES : Tok}
    {tcQueryMOST_LEVELS : Tok}
    {tcQueryMOST_LOOKS : Tok}
    (aProofsError : PySem.W.nsIn K mainGlobals "ProofsError" = some (some (.ref ProofsError)))
    (aInvalidText : PySem.W.nsIn K mainGlobals "InvalidText" = some (some (.ref InvalidText)))
    (aInvalidTerm : PySem.W.nsIn K mainGlobals "InvalidTerm" = some (some (.ref InvalidTerm)))
    (aInvalidQuery : PySem.W.nsIn K mainGlobals "InvalidQuery" = some (some (.ref InvalidQuery)))
    (aOutOfRange : PySem.W.nsIn K mainGlobals "OutOfRange" = some (some (.ref OutOfRange)))
    (aTooLarge : PySem.W.nsIn K mainGlobals "TooLarge" = some (some (.ref TooLarge)))
    (aQuery : PySem.W.nsIn K mainGlobals "Query" = some (some (.ref Query)))
    (zall : PySem.W.nsIn K mainGlobals "all" = some none)
    (zbool : PySem.W.nsIn K mainGlobals "bool" = some none)
    (zint : PySem.W.nsIn K mainGlobals "int" = some none)
    (zisinstance : PySem.W.nsIn K mainGlobals "isinstance" = some none)
    (zlen : PySem.W.nsIn K mainGlobals "len" = some none)
    (zlist : PySem.W.nsIn K mainGlobals "list" = some none)
    (zmax : PySem.W.nsIn K mainGlobals "max" = some none)
    (zrange : PySem.W.nsIn K mainGlobals "range" = some none)
    (zset : PySem.W.nsIn K mainGlobals "set" = some none)
    (zsorted : PySem.W.nsIn K mainGlobals "sorted" = some none)
    (zstr : PySem.W.nsIn K mainGlobals "str" = some none)
    (zsum : PySem.W.nsIn K mainGlobals "sum" = some none)
    (ztuple : PySem.W.nsIn K mainGlobals "tuple" = some none)
    (zzip : PySem.W.nsIn K mainGlobals "zip" = some none)
    (qOutOfRange : PySem.W.excIn K OutOfRange [.type "ValueError", .type "Exception", .type "BaseException", .type "object"] "ValueError.__new__" = true)
    (kOutOfRange : PySem.W.keepIn K (.ref OutOfRange) = true)
    (sOutOfRange : PySem.W.subIn K (.ref OutOfRange) (.type "BaseException") = some true)
    (tOutOfRange : PySem.W.typeIn K (.ref OutOfRange) = some (.type "type"))
    (hgOutOfRange : PySem.W.findIn K (.ref OutOfRange) "__getattribute__" = some (some (.builtin "BaseException.__getattribute__")))
    (hkOutOfRange : PySem.W.findIn K (.ref OutOfRange) "__getattr__" = some none)
    (hdOutOfRange : PySem.W.hasDictIn K OutOfRange = true)
    (haOutOfRange : PySem.W.findIn K (.ref OutOfRange) "__class__" = some (some (.builtin "object.__class__")))
    (hmOutOfRange : PySem.W.mroIn K OutOfRange (.type "object") = some true)
    (qTooLarge : PySem.W.excIn K TooLarge [.type "ValueError", .type "Exception", .type "BaseException", .type "object"] "ValueError.__new__" = true)
    (kTooLarge : PySem.W.keepIn K (.ref TooLarge) = true)
    (sTooLarge : PySem.W.subIn K (.ref TooLarge) (.type "BaseException") = some true)
    (tTooLarge : PySem.W.typeIn K (.ref TooLarge) = some (.type "type"))
    (hgTooLarge : PySem.W.findIn K (.ref TooLarge) "__getattribute__" = some (some (.builtin "BaseException.__getattribute__")))
    (hkTooLarge : PySem.W.findIn K (.ref TooLarge) "__getattr__" = some none)
    (hdTooLarge : PySem.W.hasDictIn K TooLarge = true)
    (haTooLarge : PySem.W.findIn K (.ref TooLarge) "__class__" = some (some (.builtin "object.__class__")))
    (hmTooLarge : PySem.W.mroIn K TooLarge (.type "object") = some true)
    (hn : PySem.W.specialIn K (.builtin "object.__class__") "__get__" = some (some (.builtin "getset_descriptor.__get__")))
    (ht : PySem.W.takesIn K (.builtin "object.__class__") = some true)
    (pgQuery : PySem.W.plainGet K Query Str.empty = true)
    (hdQuery : PySem.W.hasDictIn K Query = true)
    (poQuery : PySem.W.plainOver K Query = true)
    (saQuery : PySem.W.findIn K (.ref Query) "__setattr__" = some (some (.builtin "object.__setattr__")))
    (mkQuery : PySem.W.makesIn K Query = true)
    (kcQuery : PySem.W.keepIn K (.ref Query) = true)
    (haQuery : PySem.W.findIn K (.ref Query) "__class__" = some (some (.builtin "object.__class__")))
    (hmQuery : PySem.W.mroIn K Query (.type "object") = some true)
    (noQueryterm : PySem.W.findIn K (.ref Query) "term" = some none)
    (noQuerywidths : PySem.W.findIn K (.ref Query) "widths" = some none)
    (zcDIGITS : PySem.W.nsIn K mainGlobals "DIGITS" = some (some (.str "0123456789" tkDIGITS)))
    (zcLETTERS : PySem.W.nsIn K mainGlobals "LETTERS" = some (some (.str "abcdefghijklmnopqrstuvwxyz" tkLETTERS)))
    (zcMOST_DEPTH : PySem.W.nsIn K mainGlobals "MOST_DEPTH" = some (some (.int 200 tkMOST_DEPTH)))
    (zcMOST_DIGITS : PySem.W.nsIn K mainGlobals "MOST_DIGITS" = some (some (.int 9 tkMOST_DIGITS)))
    (zcMOST_LETTERS : PySem.W.nsIn K mainGlobals "MOST_LETTERS" = some (some (.int 12 tkMOST_LETTERS)))
    (zcMOST_NUMBER : PySem.W.nsIn K mainGlobals "MOST_NUMBER" = some (some (.int 999999999 tkMOST_NUMBER)))
    (zcMOST_WIDTH : PySem.W.nsIn K mainGlobals "MOST_WIDTH" = some (some (.int 4 tkMOST_WIDTH)))
    (zcMOST_WIDTHS : PySem.W.nsIn K mainGlobals "MOST_WIDTHS" = some (some (.int 6 tkMOST_WIDTHS)))
    (zcPLACES : PySem.W.nsIn K mainGlobals "PLACES" = some (some (.int 100 tkPLACES)))
    (rdQuery : PySem.W.readsIn K Query (.type "type") = true)
    (spQuery : PySem.W.specialIn K (.ref Query) "__getattribute__" = some (some (.builtin "type.__getattribute__")))
    (fcQueryMOST_CHOICES : PySem.W.findCls K (.ref Query) (.type "type") "MOST_CHOICES" = some (.val (.int 256 tcQueryMOST_CHOICES)))
    (fcQueryMOST_LEVELS : PySem.W.findCls K (.ref Query) (.type "type") "MOST_LEVELS" = some (.val (.int 20 tcQueryMOST_LEVELS)))
    (fcQueryMOST_LOOKS : PySem.W.findCls K (.ref Query) (.type "type") "MOST_LOOKS" = some (.val (.int 300 tcQueryMOST_LOOKS)))
    (a1 : PySem.W.nsIn K mainGlobals "is_below" = some (some (.ref f1)))
    (l1 : K.lookup f1 = some ⟨oc1, od1, .func (PySem.W.fnOf "is_below" "is_below" (defArgs s_is_below) (defBody s_is_below) (defScope s_is_below) .none kV1 dc1 pm1 an1 cd1 ct1), sl1⟩)
    (c1 : PySem.W.codeIn K cd1 "is_below" = true)
    (k1 : PySem.W.keepIn K (.ref f1) = true)
    (a2 : PySem.W.nsIn K mainGlobals "place_width" = some (some (.ref f2)))
    (l2 : K.lookup f2 = some ⟨oc2, od2, .func (PySem.W.fnOf "place_width" "place_width" (defArgs s_place_width) (defBody s_place_width) (defScope s_place_width) .none kV2 dc2 pm2 an2 cd2 ct2), sl2⟩)
    (c2 : PySem.W.codeIn K cd2 "place_width" = true)
    (k2 : PySem.W.keepIn K (.ref f2) = true)
    (a3 : PySem.W.nsIn K mainGlobals "check_widths" = some (some (.ref f3)))
    (l3 : K.lookup f3 = some ⟨oc3, od3, .func (PySem.W.fnOf "check_widths" "check_widths" (defArgs s_check_widths) (defBody s_check_widths) (defScope s_check_widths) .none kV3 dc3 pm3 an3 cd3 ct3), sl3⟩)
    (c3 : PySem.W.codeIn K cd3 "check_widths" = true)
    (k3 : PySem.W.keepIn K (.ref f3) = true)
    (a4 : PySem.W.nsIn K mainGlobals "check_query" = some (some (.ref f4)))
    (l4 : K.lookup f4 = some ⟨oc4, od4, .func (PySem.W.fnOf "check_query" "check_query" (defArgs s_check_query) (defBody s_check_query) (defScope s_check_query) .none kV4 dc4 pm4 an4 cd4 ct4), sl4⟩)
    (c4 : PySem.W.codeIn K cd4 "check_query" = true)
    (k4 : PySem.W.keepIn K (.ref f4) = true)
    (a5 : PySem.W.nsIn K mainGlobals "count_looks" = some (some (.ref f5)))
    (l5 : K.lookup f5 = some ⟨oc5, od5, .func (PySem.W.fnOf "count_looks" "count_looks" (defArgs s_count_looks) (defBody s_count_looks) (defScope s_count_looks) .none kV5 dc5 pm5 an5 cd5 ct5), sl5⟩)
    (c5 : PySem.W.codeIn K cd5 "count_looks" = true)
    (k5 : PySem.W.keepIn K (.ref f5) = true)
    (a6 : PySem.W.nsIn K mainGlobals "named_places" = some (some (.ref f6)))
    (l6 : K.lookup f6 = some ⟨oc6, od6, .func (PySem.W.fnOf "named_places" "named_places" (defArgs s_named_places) (defBody s_named_places) (defScope s_named_places) .none kV6 dc6 pm6 an6 cd6 ct6), sl6⟩)
    (c6 : PySem.W.codeIn K cd6 "named_places" = true)
    (k6 : PySem.W.keepIn K (.ref f6) = true)
    (a7 : PySem.W.nsIn K mainGlobals "is_large" = some (some (.ref f7)))
    (l7 : K.lookup f7 = some ⟨oc7, od7, .func (PySem.W.fnOf "is_large" "is_large" (defArgs s_is_large) (defBody s_is_large) (defScope s_is_large) .none kV7 dc7 pm7 an7 cd7 ct7), sl7⟩)
    (c7 : PySem.W.codeIn K cd7 "is_large" = true)
    (k7 : PySem.W.keepIn K (.ref f7) = true)
    (a8 : PySem.W.findIn K (.ref Query) "__init__" = some (some (.ref f8)))
    (i8 : PySem.W.isFn K (.ref f8) = true)
    (l8 : K.lookup f8 = some ⟨oc8, od8, .func (PySem.W.fnOf "__init__" "Query.__init__" (defArgs s_Query_init) (defBody s_Query_init) (defScope s_Query_init) .none kV8 dc8 pm8 an8 cd8 ct8), sl8⟩)
    (c8 : PySem.W.codeIn K cd8 "Query.__init__" = true)
    (k8 : PySem.W.keepIn K (.ref f8) = true)
    (a9 : PySem.W.nsIn K mainGlobals "told_by" = some (some (.ref f9)))
    (l9 : K.lookup f9 = some ⟨oc9, od9, .func (PySem.W.fnOf "told_by" "told_by" (defArgs s_told_by) (defBody s_told_by) (defScope s_told_by) .none kV9 dc9 pm9 an9 cd9 ct9), sl9⟩)
    (c9 : PySem.W.codeIn K cd9 "told_by" = true)
    (k9 : PySem.W.keepIn K (.ref f9) = true)
    (a10 : PySem.W.nsIn K mainGlobals "settled_term" = some (some (.ref f10)))
    (l10 : K.lookup f10 = some ⟨oc10, od10, .func (PySem.W.fnOf "settled_term" "settled_term" (defArgs s_settled_term) (defBody s_settled_term) (defScope s_settled_term) .none kV10 dc10 pm10 an10 cd10 ct10), sl10⟩)
    (c10 : PySem.W.codeIn K cd10 "settled_term" = true)
    (k10 : PySem.W.keepIn K (.ref f10) = true)
    (a11 : PySem.W.nsIn K mainGlobals "settle_query" = some (some (.ref f11)))
    (l11 : K.lookup f11 = some ⟨oc11, od11, .func (PySem.W.fnOf "settle_query" "settle_query" (defArgs s_settle_query) (defBody s_settle_query) (defScope s_settle_query) .none kV11 dc11 pm11 an11 cd11 ct11), sl11⟩)
    (c11 : PySem.W.codeIn K cd11 "settle_query" = true)
    (k11 : PySem.W.keepIn K (.ref f11) = true)
    (a12 : PySem.W.nsIn K mainGlobals "needed_places" = some (some (.ref f12)))
    (l12 : K.lookup f12 = some ⟨oc12, od12, .func (PySem.W.fnOf "needed_places" "needed_places" (defArgs s_needed_places) (defBody s_needed_places) (defScope s_needed_places) .none kV12 dc12 pm12 an12 cd12 ct12), sl12⟩)
    (c12 : PySem.W.codeIn K cd12 "needed_places" = true)
    (k12 : PySem.W.keepIn K (.ref f12) = true)
    (a13 : PySem.W.nsIn K mainGlobals "query_reach" = some (some (.ref f13)))
    (l13 : K.lookup f13 = some ⟨oc13, od13, .func (PySem.W.fnOf "query_reach" "query_reach" (defArgs s_query_reach) (defBody s_query_reach) (defScope s_query_reach) .none kV13 dc13 pm13 an13 cd13 ct13), sl13⟩)
    (c13 : PySem.W.codeIn K cd13 "query_reach" = true)
    (k13 : PySem.W.keepIn K (.ref f13) = true)
    (a14 : PySem.W.nsIn K mainGlobals "tells_of" = some (some (.ref f14)))
    (l14 : K.lookup f14 = some ⟨oc14, od14, .func (PySem.W.fnOf "tells_of" "tells_of" (defArgs s_tells_of) (defBody s_tells_of) (defScope s_tells_of) .none kV14 dc14 pm14 an14 cd14 ct14), sl14⟩)
    (c14 : PySem.W.codeIn K cd14 "tells_of" = true)
    (k14 : PySem.W.keepIn K (.ref f14) = true)
    (a15 : PySem.W.nsIn K mainGlobals "told_values" = some (some (.ref f15)))
    (l15 : K.lookup f15 = some ⟨oc15, od15, .func (PySem.W.fnOf "told_values" "told_values" (defArgs s_told_values) (defBody s_told_values) (defScope s_told_values) .none kV15 dc15 pm15 an15 cd15 ct15), sl15⟩)
    (c15 : PySem.W.codeIn K cd15 "told_values" = true)
    (k15 : PySem.W.keepIn K (.ref f15) = true)
    (a16 : PySem.W.nsIn K mainGlobals "heads_between" = some (some (.ref f16)))
    (l16 : K.lookup f16 = some ⟨oc16, od16, .func (PySem.W.fnOf "heads_between" "heads_between" (defArgs s_heads_between) (defBody s_heads_between) (defScope s_heads_between) .none kV16 dc16 pm16 an16 cd16 ct16), sl16⟩)
    (c16 : PySem.W.codeIn K cd16 "heads_between" = true)
    (k16 : PySem.W.keepIn K (.ref f16) = true)
    (a17 : PySem.W.nsIn K mainGlobals "heads_by_tell" = some (some (.ref f17)))
    (l17 : K.lookup f17 = some ⟨oc17, od17, .func (PySem.W.fnOf "heads_by_tell" "heads_by_tell" (defArgs s_heads_by_tell) (defBody s_heads_by_tell) (defScope s_heads_by_tell) .none kV17 dc17 pm17 an17 cd17 ct17), sl17⟩)
    (c17 : PySem.W.codeIn K cd17 "heads_by_tell" = true)
    (k17 : PySem.W.keepIn K (.ref f17) = true)
    (a18 : PySem.W.nsIn K mainGlobals "count_heads" = some (some (.ref f18)))
    (l18 : K.lookup f18 = some ⟨oc18, od18, .func (PySem.W.fnOf "count_heads" "count_heads" (defArgs s_count_heads) (defBody s_count_heads) (defScope s_count_heads) .none kV18 dc18 pm18 an18 cd18 ct18), sl18⟩)
    (c18 : PySem.W.codeIn K cd18 "count_heads" = true)
    (k18 : PySem.W.keepIn K (.ref f18) = true)
    (a19 : PySem.W.nsIn K mainGlobals "_law_start" = some (some (.ref f19)))
    (l19 : K.lookup f19 = some ⟨oc19, od19, .func (PySem.W.fnOf "_law_start" "_law_start" (defArgs s_law_start) (defBody s_law_start) (defScope s_law_start) .none kV19 dc19 pm19 an19 cd19 ct19), sl19⟩)
    (c19 : PySem.W.codeIn K cd19 "_law_start" = true)
    (k19 : PySem.W.keepIn K (.ref f19) = true)
    (a20 : PySem.W.nsIn K mainGlobals "_law_pick" = some (some (.ref f20)))
    (l20 : K.lookup f20 = some ⟨oc20, od20, .func (PySem.W.fnOf "_law_pick" "_law_pick" (defArgs s_law_pick) (defBody s_law_pick) (defScope s_law_pick) .none kV20 dc20 pm20 an20 cd20 ct20), sl20⟩)
    (c20 : PySem.W.codeIn K cd20 "_law_pick" = true)
    (k20 : PySem.W.keepIn K (.ref f20) = true)
    (a21 : PySem.W.nsIn K mainGlobals "_law_same" = some (some (.ref f21)))
    (l21 : K.lookup f21 = some ⟨oc21, od21, .func (PySem.W.fnOf "_law_same" "_law_same" (defArgs s_law_same) (defBody s_law_same) (defScope s_law_same) .none kV21 dc21 pm21 an21 cd21 ct21), sl21⟩)
    (c21 : PySem.W.codeIn K cd21 "_law_same" = true)
    (k21 : PySem.W.keepIn K (.ref f21) = true)
    (a22 : PySem.W.nsIn K mainGlobals "_law_width" = some (some (.ref f22)))
    (l22 : K.lookup f22 = some ⟨oc22, od22, .func (PySem.W.fnOf "_law_width" "_law_width" (defArgs s_law_width) (defBody s_law_width) (defScope s_law_width) .none kV22 dc22 pm22 an22 cd22 ct22), sl22⟩)
    (c22 : PySem.W.codeIn K cd22 "_law_width" = true)
    (k22 : PySem.W.keepIn K (.ref f22) = true)
    (a23 : PySem.W.nsIn K mainGlobals "_law_widths" = some (some (.ref f23)))
    (l23 : K.lookup f23 = some ⟨oc23, od23, .func (PySem.W.fnOf "_law_widths" "_law_widths" (defArgs s_law_widths) (defBody s_law_widths) (defScope s_law_widths) .none kV23 dc23 pm23 an23 cd23 ct23), sl23⟩)
    (c23 : PySem.W.codeIn K cd23 "_law_widths" = true)
    (k23 : PySem.W.keepIn K (.ref f23) = true)
    (a24 : PySem.W.nsIn K mainGlobals "_law_pool" = some (some (.ref f24)))
    (l24 : K.lookup f24 = some ⟨oc24, od24, .func (PySem.W.fnOf "_law_pool" "_law_pool" (defArgs s_law_pool) (defBody s_law_pool) (defScope s_law_pool) .none kV24 dc24 pm24 an24 cd24 ct24), sl24⟩)
    (c24 : PySem.W.codeIn K cd24 "_law_pool" = true)
    (k24 : PySem.W.keepIn K (.ref f24) = true)
    (a25 : PySem.W.nsIn K mainGlobals "_law_shuffled" = some (some (.ref f25)))
    (l25 : K.lookup f25 = some ⟨oc25, od25, .func (PySem.W.fnOf "_law_shuffled" "_law_shuffled" (defArgs s_law_shuffled) (defBody s_law_shuffled) (defScope s_law_shuffled) .none kV25 dc25 pm25 an25 cd25 ct25), sl25⟩)
    (c25 : PySem.W.codeIn K cd25 "_law_shuffled" = true)
    (k25 : PySem.W.keepIn K (.ref f25) = true)
    (a26 : PySem.W.nsIn K mainGlobals "_law_asked" = some (some (.ref f26)))
    (l26 : K.lookup f26 = some ⟨oc26, od26, .func (PySem.W.fnOf "_law_asked" "_law_asked" (defArgs s_law_asked) (defBody s_law_asked) (defScope s_law_asked) .none kV26 dc26 pm26 an26 cd26 ct26), sl26⟩)
    (c26 : PySem.W.codeIn K cd26 "_law_asked" = true)
    (k26 : PySem.W.keepIn K (.ref f26) = true)
    (a27 : PySem.W.nsIn K mainGlobals "_law_full" = some (some (.ref f27)))
    (l27 : K.lookup f27 = some ⟨oc27, od27, .func (PySem.W.fnOf "_law_full" "_law_full" (defArgs s_law_full) (defBody s_law_full) (defScope s_law_full) .none kV27 dc27 pm27 an27 cd27 ct27), sl27⟩)
    (c27 : PySem.W.codeIn K cd27 "_law_full" = true)
    (k27 : PySem.W.keepIn K (.ref f27) = true)
    (a28 : PySem.W.nsIn K mainGlobals "_law_choices" = some (some (.ref f28)))
    (l28 : K.lookup f28 = some ⟨oc28, od28, .func (PySem.W.fnOf "_law_choices" "_law_choices" (defArgs s_law_choices) (defBody s_law_choices) (defScope s_law_choices) .none kV28 dc28 pm28 an28 cd28 ct28), sl28⟩)
    (c28 : PySem.W.codeIn K cd28 "_law_choices" = true)
    (k28 : PySem.W.keepIn K (.ref f28) = true)
    (a29 : PySem.W.nsIn K mainGlobals "_law_end" = some (some (.ref f29)))
    (l29 : K.lookup f29 = some ⟨oc29, od29, .func (PySem.W.fnOf "_law_end" "_law_end" (defArgs s_law_end) (defBody s_law_end) (defScope s_law_end) .none kV29 dc29 pm29 an29 cd29 ct29), sl29⟩)
    (c29 : PySem.W.codeIn K cd29 "_law_end" = true)
    (k29 : PySem.W.keepIn K (.ref f29) = true)
    (a30 : PySem.W.nsIn K mainGlobals "_law_retold" = some (some (.ref f30)))
    (l30 : K.lookup f30 = some ⟨oc30, od30, .func (PySem.W.fnOf "_law_retold" "_law_retold" (defArgs s_law_retold) (defBody s_law_retold) (defScope s_law_retold) .none kV30 dc30 pm30 an30 cd30 ct30), sl30⟩)
    (c30 : PySem.W.codeIn K cd30 "_law_retold" = true)
    (k30 : PySem.W.keepIn K (.ref f30) = true)
    (a31 : PySem.W.nsIn K mainGlobals "_law_places" = some (some (.ref f31)))
    (l31 : K.lookup f31 = some ⟨oc31, od31, .func (PySem.W.fnOf "_law_places" "_law_places" (defArgs s_law_places) (defBody s_law_places) (defScope s_law_places) .none kV31 dc31 pm31 an31 cd31 ct31), sl31⟩)
    (c31 : PySem.W.codeIn K cd31 "_law_places" = true)
    (k31 : PySem.W.keepIn K (.ref f31) = true)
    (a32 : PySem.W.nsIn K mainGlobals "_law_term" = some (some (.ref f32)))
    (l32 : K.lookup f32 = some ⟨oc32, od32, .func (PySem.W.fnOf "_law_term" "_law_term" (defArgs s_law_term) (defBody s_law_term) (defScope s_law_term) .none kV32 dc32 pm32 an32 cd32 ct32), sl32⟩)
    (c32 : PySem.W.codeIn K cd32 "_law_term" = true)
    (k32 : PySem.W.keepIn K (.ref f32) = true)
    (a33 : PySem.W.nsIn K mainGlobals "_law_different" = some (some (.ref f33)))
    (l33 : K.lookup f33 = some ⟨oc33, od33, .func (PySem.W.fnOf "_law_different" "_law_different" (defArgs s_law_different) (defBody s_law_different) (defScope s_law_different) .none kV33 dc33 pm33 an33 cd33 ct33), sl33⟩)
    (c33 : PySem.W.codeIn K cd33 "_law_different" = true)
    (k33 : PySem.W.keepIn K (.ref f33) = true)
    (a34 : PySem.W.nsIn K mainGlobals "_law_many" = some (some (.ref f34)))
    (l34 : K.lookup f34 = some ⟨oc34, od34, .func (PySem.W.fnOf "_law_many" "_law_many" (defArgs s_law_many) (defBody s_law_many) (defScope s_law_many) .none kV34 dc34 pm34 an34 cd34 ct34), sl34⟩)
    (c34 : PySem.W.codeIn K cd34 "_law_many" = true)
    (k34 : PySem.W.keepIn K (.ref f34) = true)
    (a35 : PySem.W.nsIn K mainGlobals "_law_strides" = some (some (.ref f35)))
    (l35 : K.lookup f35 = some ⟨oc35, od35, .func (PySem.W.fnOf "_law_strides" "_law_strides" (defArgs s_law_strides) (defBody s_law_strides) (defScope s_law_strides) .none kV35 dc35 pm35 an35 cd35 ct35), sl35⟩)
    (c35 : PySem.W.codeIn K cd35 "_law_strides" = true)
    (k35 : PySem.W.keepIn K (.ref f35) = true)
    (a36 : PySem.W.nsIn K mainGlobals "_law_needed" = some (some (.ref f36)))
    (l36 : K.lookup f36 = some ⟨oc36, od36, .func (PySem.W.fnOf "_law_needed" "_law_needed" (defArgs s_law_needed) (defBody s_law_needed) (defScope s_law_needed) .none kV36 dc36 pm36 an36 cd36 ct36), sl36⟩)
    (c36 : PySem.W.codeIn K cd36 "_law_needed" = true)
    (k36 : PySem.W.keepIn K (.ref f36) = true)
    (a37 : PySem.W.nsIn K mainGlobals "_law_heads" = some (some (.ref f37)))
    (l37 : K.lookup f37 = some ⟨oc37, od37, .func (PySem.W.fnOf "_law_heads" "_law_heads" (defArgs s_law_heads) (defBody s_law_heads) (defScope s_law_heads) .none kV37 dc37 pm37 an37 cd37 ct37), sl37⟩)
    (c37 : PySem.W.codeIn K cd37 "_law_heads" = true)
    (k37 : PySem.W.keepIn K (.ref f37) = true)
    (a38 : PySem.W.nsIn K mainGlobals "_law_counted" = some (some (.ref f38)))
    (l38 : K.lookup f38 = some ⟨oc38, od38, .func (PySem.W.fnOf "_law_counted" "_law_counted" (defArgs s_law_counted) (defBody s_law_counted) (defScope s_law_counted) .none kV38 dc38 pm38 an38 cd38 ct38), sl38⟩)
    (c38 : PySem.W.codeIn K cd38 "_law_counted" = true)
    (k38 : PySem.W.keepIn K (.ref f38) = true)
    (a39 : PySem.W.nsIn K mainGlobals "law" = some (some (.ref f39)))
    (l39 : K.lookup f39 = some ⟨oc39, od39, .func (PySem.W.fnOf "law" "law" (defArgs s_law) (defBody s_law) (defScope s_law) .none kV39 dc39 pm39 an39 cd39 ct39), sl39⟩)
    (c39 : PySem.W.codeIn K cd39 "law" = true)
    (k39 : PySem.W.keepIn K (.ref f39) = true)
    : ∃ fd : FuncData, (∀ (s : Shared) (v : Value), BindsTo s fd ⟨[v], []⟩ [("script", v)]) ∧ ∀ base : Heap, K.In base → base.Ns mainGlobals mg → FnOk l.prog w K mg base (L2.CX l.prog w) 102 fa fd ["script"] (liftSp K (spScript K)) := by
  have e := hfa.symm.trans (PySem.W.mg_of X G a39)
  cases e
  let A : Adr := ⟨ProofsError, InvalidText, InvalidTerm, InvalidQuery, OutOfRange, TooLarge, Query⟩
  have clQuery : Cls K Query := ⟨pgQuery, hdQuery, poQuery, saQuery⟩
  have T : Txt w K mg A := {
    n_all := PySem.W.mg_none_of X G zall
    n_bool := PySem.W.mg_none_of X G zbool
    n_int := PySem.W.mg_none_of X G zint
    n_isinstance := PySem.W.mg_none_of X G zisinstance
    n_len := PySem.W.mg_none_of X G zlen
    n_list := PySem.W.mg_none_of X G zlist
    n_max := PySem.W.mg_none_of X G zmax
    n_range := PySem.W.mg_none_of X G zrange
    n_set := PySem.W.mg_none_of X G zset
    n_sorted := PySem.W.mg_none_of X G zsorted
    n_str := PySem.W.mg_none_of X G zstr
    n_sum := PySem.W.mg_none_of X G zsum
    n_tuple := PySem.W.mg_none_of X G ztuple
    n_zip := PySem.W.mg_none_of X G zzip
    m_ProofsError := PySem.W.mg_of X G aProofsError
    m_InvalidText := PySem.W.mg_of X G aInvalidText
    m_InvalidTerm := PySem.W.mg_of X G aInvalidTerm
    m_InvalidQuery := PySem.W.mg_of X G aInvalidQuery
    m_OutOfRange := PySem.W.mg_of X G aOutOfRange
    m_TooLarge := PySem.W.mg_of X G aTooLarge
    x_OutOfRange := ⟨qOutOfRange, PySem.W.mg_of X G aOutOfRange, kOutOfRange, sOutOfRange, tOutOfRange⟩
    x_TooLarge := ⟨qTooLarge, PySem.W.mg_of X G aTooLarge, kTooLarge, sTooLarge, tTooLarge⟩
    m_Query := PySem.W.mg_of X G aQuery
    i_Query := ⟨clQuery, haQuery, hn, ht, hmQuery⟩
    d_Query_term := ⟨clQuery, noQueryterm⟩
    d_Query_widths := ⟨clQuery, noQuerywidths⟩
    c_DIGITS := ⟨_, PySem.W.mg_of X G zcDIGITS⟩
    c_LETTERS := ⟨_, PySem.W.mg_of X G zcLETTERS⟩
    c_MOST_DEPTH := ⟨_, PySem.W.mg_of X G zcMOST_DEPTH⟩
    c_MOST_DIGITS := ⟨_, PySem.W.mg_of X G zcMOST_DIGITS⟩
    c_MOST_LETTERS := ⟨_, PySem.W.mg_of X G zcMOST_LETTERS⟩
    c_MOST_NUMBER := ⟨_, PySem.W.mg_of X G zcMOST_NUMBER⟩
    c_MOST_WIDTH := ⟨_, PySem.W.mg_of X G zcMOST_WIDTH⟩
    c_MOST_WIDTHS := ⟨_, PySem.W.mg_of X G zcMOST_WIDTHS⟩
    c_PLACES := ⟨_, PySem.W.mg_of X G zcPLACES⟩
    cst_Query_MOST_CHOICES := CstK.int rdQuery spQuery fcQueryMOST_CHOICES
    cst_Query_MOST_LEVELS := CstK.int rdQuery spQuery fcQueryMOST_LEVELS
    cst_Query_MOST_LOOKS := CstK.int rdQuery spQuery fcQueryMOST_LOOKS }
  have F1 := fun_mk (st := s_is_below) l1 c1 k1
  have b1 := F1.binds (ps := P_is_below) fun _ _ _ _ _ _ us hl => match us, hl with | [_, _], _ => rfl
  have F2 := fun_mk (st := s_place_width) l2 c2 k2
  have b2 := F2.binds (ps := P_place_width) fun _ _ _ _ _ _ us hl => match us, hl with | [_, _], _ => rfl
  have F3 := fun_mk (st := s_check_widths) l3 c3 k3
  have b3 := F3.binds (ps := P_check_widths) fun _ _ _ _ _ _ us hl => match us, hl with | [_], _ => rfl
  have F4 := fun_mk (st := s_check_query) l4 c4 k4
  have b4 := F4.binds (ps := P_check_query) fun _ _ _ _ _ _ us hl => match us, hl with | [_, _, _], _ => rfl
  have F5 := fun_mk (st := s_count_looks) l5 c5 k5
  have b5 := F5.binds (ps := P_count_looks) fun _ _ _ _ _ _ us hl => match us, hl with | [_], _ => rfl
  have F6 := fun_mk (st := s_named_places) l6 c6 k6
  have b6 := F6.binds (ps := P_named_places) fun _ _ _ _ _ _ us hl => match us, hl with | [_], _ => rfl
  have F7 := fun_mk (st := s_is_large) l7 c7 k7
  have b7 := F7.binds (ps := P_is_large) fun _ _ _ _ _ _ us hl => match us, hl with | [_, _], _ => rfl
  have F8 := fun_mk (st := s_Query_init) l8 c8 k8
  have b8 := F8.binds (ps := P_Query_init) fun _ _ _ _ _ _ us hl => match us, hl with | [_, _, _], _ => rfl
  have F9 := fun_mk (st := s_told_by) l9 c9 k9
  have b9 := F9.binds (ps := P_told_by) fun _ _ _ _ _ _ us hl => match us, hl with | [_, _], _ => rfl
  have F10 := fun_mk (st := s_settled_term) l10 c10 k10
  have b10 := F10.binds (ps := P_settled_term) fun _ _ _ _ _ _ us hl => match us, hl with | [_, _, _, _], _ => rfl
  have F11 := fun_mk (st := s_settle_query) l11 c11 k11
  have b11 := F11.binds (ps := P_settle_query) fun _ _ _ _ _ _ us hl => match us, hl with | [_], _ => rfl
  have F12 := fun_mk (st := s_needed_places) l12 c12 k12
  have b12 := F12.binds (ps := P_needed_places) fun _ _ _ _ _ _ us hl => match us, hl with | [_], _ => rfl
  have F13 := fun_mk (st := s_query_reach) l13 c13 k13
  have b13 := F13.binds (ps := P_query_reach) fun _ _ _ _ _ _ us hl => match us, hl with | [_], _ => rfl
  have F14 := fun_mk (st := s_tells_of) l14 c14 k14
  have b14 := F14.binds (ps := P_tells_of) fun _ _ _ _ _ _ us hl => match us, hl with | [_], _ => rfl
  have F15 := fun_mk (st := s_told_values) l15 c15 k15
  have b15 := F15.binds (ps := P_told_values) fun _ _ _ _ _ _ us hl => match us, hl with | [_], _ => rfl
  have F16 := fun_mk (st := s_heads_between) l16 c16 k16
  have b16 := F16.binds (ps := P_heads_between) fun _ _ _ _ _ _ us hl => match us, hl with | [_, _, _], _ => rfl
  have F17 := fun_mk (st := s_heads_by_tell) l17 c17 k17
  have b17 := F17.binds (ps := P_heads_by_tell) fun _ _ _ _ _ _ us hl => match us, hl with | [_, _, _, _], _ => rfl
  have F18 := fun_mk (st := s_count_heads) l18 c18 k18
  have b18 := F18.binds (ps := P_count_heads) fun _ _ _ _ _ _ us hl => match us, hl with | [_], _ => rfl
  have F19 := fun_mk (st := s_law_start) l19 c19 k19
  have b19 := F19.binds (ps := P_law_start) fun _ _ _ _ _ _ us hl => match us, hl with | [_], _ => rfl
  have F20 := fun_mk (st := s_law_pick) l20 c20 k20
  have b20 := F20.binds (ps := P_law_pick) fun _ _ _ _ _ _ us hl => match us, hl with | [_, _], _ => rfl
  have F21 := fun_mk (st := s_law_same) l21 c21 k21
  have b21 := F21.binds (ps := P_law_same) fun _ _ _ _ _ _ us hl => match us, hl with | [_, _], _ => rfl
  have F22 := fun_mk (st := s_law_width) l22 c22 k22
  have b22 := F22.binds (ps := P_law_width) fun _ _ _ _ _ _ us hl => match us, hl with | [_, _], _ => rfl
  have F23 := fun_mk (st := s_law_widths) l23 c23 k23
  have b23 := F23.binds (ps := P_law_widths) fun _ _ _ _ _ _ us hl => match us, hl with | [_], _ => rfl
  have F24 := fun_mk (st := s_law_pool) l24 c24 k24
  have b24 := F24.binds (ps := P_law_pool) fun _ _ _ _ _ _ us hl => match us, hl with | [_], _ => rfl
  have F25 := fun_mk (st := s_law_shuffled) l25 c25 k25
  have b25 := F25.binds (ps := P_law_shuffled) fun _ _ _ _ _ _ us hl => match us, hl with | [_, _], _ => rfl
  have F26 := fun_mk (st := s_law_asked) l26 c26 k26
  have b26 := F26.binds (ps := P_law_asked) fun _ _ _ _ _ _ us hl => match us, hl with | [_, _, _, _, _], _ => rfl
  have F27 := fun_mk (st := s_law_full) l27 c27 k27
  have b27 := F27.binds (ps := P_law_full) fun _ _ _ _ _ _ us hl => match us, hl with | [_, _, _, _, _, _], _ => rfl
  have F28 := fun_mk (st := s_law_choices) l28 c28 k28
  have b28 := F28.binds (ps := P_law_choices) fun _ _ _ _ _ _ us hl => match us, hl with | [_, _], _ => rfl
  have F29 := fun_mk (st := s_law_end) l29 c29 k29
  have b29 := F29.binds (ps := P_law_end) fun _ _ _ _ _ _ us hl => match us, hl with | [_, _], _ => rfl
  have F30 := fun_mk (st := s_law_retold) l30 c30 k30
  have b30 := F30.binds (ps := P_law_retold) fun _ _ _ _ _ _ us hl => match us, hl with | [_, _, _, _, _], _ => rfl
  have F31 := fun_mk (st := s_law_places) l31 c31 k31
  have b31 := F31.binds (ps := P_law_places) fun _ _ _ _ _ _ us hl => match us, hl with | [_, _, _, _], _ => rfl
  have F32 := fun_mk (st := s_law_term) l32 c32 k32
  have b32 := F32.binds (ps := P_law_term) fun _ _ _ _ _ _ us hl => match us, hl with | [_, _, _, _], _ => rfl
  have F33 := fun_mk (st := s_law_different) l33 c33 k33
  have b33 := F33.binds (ps := P_law_different) fun _ _ _ _ _ _ us hl => match us, hl with | [_], _ => rfl
  have F34 := fun_mk (st := s_law_many) l34 c34 k34
  have b34 := F34.binds (ps := P_law_many) fun _ _ _ _ _ _ us hl => match us, hl with | [_, _], _ => rfl
  have F35 := fun_mk (st := s_law_strides) l35 c35 k35
  have b35 := F35.binds (ps := P_law_strides) fun _ _ _ _ _ _ us hl => match us, hl with | [_, _], _ => rfl
  have F36 := fun_mk (st := s_law_needed) l36 c36 k36
  have b36 := F36.binds (ps := P_law_needed) fun _ _ _ _ _ _ us hl => match us, hl with | [_, _, _, _], _ => rfl
  have F37 := fun_mk (st := s_law_heads) l37 c37 k37
  have b37 := F37.binds (ps := P_law_heads) fun _ _ _ _ _ _ us hl => match us, hl with | [_, _, _, _, _], _ => rfl
  have F38 := fun_mk (st := s_law_counted) l38 c38 k38
  have b38 := F38.binds (ps := P_law_counted) fun _ _ _ _ _ _ us hl => match us, hl with | [_, _, _, _, _], _ => rfl
  have F39 := fun_mk (st := s_law) l39 c39 k39
  have b39 := F39.binds (ps := P_law) fun _ _ _ _ _ _ us hl => match us, hl with | [_], _ => rfl
  refine ⟨PySem.W.fnOf "law" "law" (defArgs s_law) (defBody s_law) (defScope s_law) .none kV39 dc39 pm39 an39 cd39 ct39, fun s v => .of_eq rfl, fun base _ _ => ?_⟩
  have O1 : FnOk l.prog w K mg base (L2.CX l.prog w) 1 f1 _ P_is_below (liftSp K (sp_is_below)) := ok_is_below T  F1 (sp_is_below) len_is_below r_is_below
  have G_is_below : FnD l.prog w K mg base 1 "is_below" P_is_below [] (sp_is_below) := fnd_mk F1 (PySem.W.mg_of X G a1) b1 O1
  have O2 : FnOk l.prog w K mg base (L2.CX l.prog w) 1 f2 _ P_place_width (liftSp K (sp_place_width)) := ok_place_width T  F2 (sp_place_width) len_place_width r_place_width
  have G_place_width : FnD l.prog w K mg base 1 "place_width" P_place_width [] (sp_place_width) := fnd_mk F2 (PySem.W.mg_of X G a2) b2 O2
  have O3 : FnOk l.prog w K mg base (L2.CX l.prog w) 1 f3 _ P_check_widths (liftSp K (sp_check_widths)) := ok_check_widths T  F3 (sp_check_widths) len_check_widths r_check_widths
  have G_check_widths : FnD l.prog w K mg base 1 "check_widths" P_check_widths [] (sp_check_widths) := fnd_mk F3 (PySem.W.mg_of X G a3) b3 O3
  have GG_check_query : ∀ n, FnD l.prog w K mg base (1 + n) "check_query" P_check_query [] (sp_check_query n) := fun n => by
    induction n with
    | zero => exact fnd_mk F4 (PySem.W.mg_of X G a4) b4 (fnOk_not fun ds M Q E h => by first | exact h.elim | ((repeat (obtain ⟨_, h⟩ := h)); omega))
    | succ n ih => exact fnd_mk F4 (PySem.W.mg_of X G a4) b4 (ok_check_query T ih G_is_below G_place_width F4 (sp_check_query (n + 1)) len_check_query r_check_query)
  have G_check_query := GG_check_query 22
  have GG_count_looks : ∀ n, FnD l.prog w K mg base (0 + n) "count_looks" P_count_looks [] (sp_count_looks n) := fun n => by
    induction n with
    | zero => exact fnd_mk F5 (PySem.W.mg_of X G a5) b5 (fnOk_not fun ds M Q E h => by first | exact h.elim | ((repeat (obtain ⟨_, h⟩ := h)); omega))
    | succ n ih => exact fnd_mk F5 (PySem.W.mg_of X G a5) b5 (ok_count_looks T ih F5 (sp_count_looks (n + 1)) len_count_looks r_count_looks)
  have G_count_looks := GG_count_looks 22
  have GG_named_places : ∀ n, FnD l.prog w K mg base (0 + n) "named_places" P_named_places [] (sp_named_places n) := fun n => by
    induction n with
    | zero => exact fnd_mk F6 (PySem.W.mg_of X G a6) b6 (fnOk_not fun ds M Q E h => by first | exact h.elim | ((repeat (obtain ⟨_, h⟩ := h)); omega))
    | succ n ih => exact fnd_mk F6 (PySem.W.mg_of X G a6) b6 (ok_named_places T ih F6 (sp_named_places (n + 1)) len_named_places r_named_places)
  have G_named_places := GG_named_places 22
  have O7 : FnOk l.prog w K mg base (L2.CX l.prog w) 2 f7 _ P_is_large (liftSp K (sp_is_large)) := ok_is_large T G_place_width F7 (sp_is_large) len_is_large r_is_large
  have G_is_large : FnD l.prog w K mg base 2 "is_large" P_is_large [] (sp_is_large) := fnd_mk F7 (PySem.W.mg_of X G a7) b7 O7
  have O8 : FnOk l.prog w K mg base (L2.CX l.prog w) 24 f8 _ P_Query_init (liftSp K (sp_Query_init A.Query)) := ok_Query_init T G_check_query G_check_widths G_count_looks G_is_large G_named_places F8 (sp_Query_init A.Query) len_Query_init (r_Query_init T)
  have G_Query_init : MakD l.prog w K mg base 24 "Query" A.Query P_Query_init [] (sp_Query_init A.Query) := ⟨f8, _, [], [], ⟨mkQuery, a8, i8, kcQuery⟩, PySem.W.mg_of X G aQuery, O8, b8, .nil, fun _ => .nil⟩
  have O9 : FnOk l.prog w K mg base (L2.CX l.prog w) 1 f9 _ P_told_by (liftSp K (sp_told_by)) := ok_told_by T  F9 (sp_told_by) len_told_by r_told_by
  have G_told_by : FnD l.prog w K mg base 1 "told_by" P_told_by [] (sp_told_by) := fnd_mk F9 (PySem.W.mg_of X G a9) b9 O9
  have GG_settled_term : ∀ n, FnD l.prog w K mg base (1 + n) "settled_term" P_settled_term [] (sp_settled_term n) := fun n => by
    induction n with
    | zero => exact fnd_mk F10 (PySem.W.mg_of X G a10) b10 (fnOk_not fun ds M Q E h => by first | exact h.elim | ((repeat (obtain ⟨_, h⟩ := h)); omega))
    | succ n ih => exact fnd_mk F10 (PySem.W.mg_of X G a10) b10 (ok_settled_term T G_place_width ih G_told_by F10 (sp_settled_term (n + 1)) len_settled_term r_settled_term)
  have G_settled_term := GG_settled_term 12
  have O11 : FnOk l.prog w K mg base (L2.CX l.prog w) 26 f11 _ P_settle_query (liftSp K (sp_settle_query A.Query)) := ok_settle_query T G_Query_init G_named_places G_place_width G_settled_term F11 (sp_settle_query A.Query) len_settle_query (r_settle_query T)
  have G_settle_query : FnD l.prog w K mg base 26 "settle_query" P_settle_query [] (sp_settle_query A.Query) := fnd_mk F11 (PySem.W.mg_of X G a11) b11 O11
  have O12 : FnOk l.prog w K mg base (L2.CX l.prog w) 27 f12 _ P_needed_places (liftSp K (sp_needed_places A.Query)) := ok_needed_places T G_named_places G_settle_query F12 (sp_needed_places A.Query) len_needed_places (r_needed_places T)
  have G_needed_places : FnD l.prog w K mg base 27 "needed_places" P_needed_places [] (sp_needed_places A.Query) := fnd_mk F12 (PySem.W.mg_of X G a12) b12 O12
  have O13 : FnOk l.prog w K mg base (L2.CX l.prog w) 28 f13 _ P_query_reach (liftSp K (sp_query_reach A.Query)) := ok_query_reach T G_needed_places F13 (sp_query_reach A.Query) len_query_reach (r_query_reach T)
  have G_query_reach : FnD l.prog w K mg base 28 "query_reach" P_query_reach [] (sp_query_reach A.Query) := fnd_mk F13 (PySem.W.mg_of X G a13) b13 O13
  have GG_tells_of : ∀ n, FnD l.prog w K mg base (0 + n) "tells_of" P_tells_of [] (sp_tells_of n) := fun n => by
    induction n with
    | zero => exact fnd_mk F14 (PySem.W.mg_of X G a14) b14 (fnOk_not fun ds M Q E h => by first | exact h.elim | ((repeat (obtain ⟨_, h⟩ := h)); omega))
    | succ n ih => exact fnd_mk F14 (PySem.W.mg_of X G a14) b14 (ok_tells_of T ih F14 (sp_tells_of (n + 1)) len_tells_of r_tells_of)
  have G_tells_of := GG_tells_of 22
  have O15 : FnOk l.prog w K mg base (L2.CX l.prog w) 27 f15 _ P_told_values (liftSp K (sp_told_values A.Query)) := ok_told_values T G_settle_query G_tells_of F15 (sp_told_values A.Query) len_told_values (r_told_values T)
  have G_told_values : FnD l.prog w K mg base 27 "told_values" P_told_values [] (sp_told_values A.Query) := fnd_mk F15 (PySem.W.mg_of X G a15) b15 O15
  have O16 : FnOk l.prog w K mg base (L2.CX l.prog w) 2 f16 _ P_heads_between (liftSp K (sp_heads_between)) := ok_heads_between T G_place_width F16 (sp_heads_between) len_heads_between r_heads_between
  have G_heads_between : FnD l.prog w K mg base 2 "heads_between" P_heads_between [] (sp_heads_between) := fnd_mk F16 (PySem.W.mg_of X G a16) b16 O16
  have GG_heads_by_tell : ∀ n, FnD l.prog w K mg base (2 + n) "heads_by_tell" P_heads_by_tell [] (sp_heads_by_tell n) := fun n => by
    induction n with
    | zero => exact fnd_mk F17 (PySem.W.mg_of X G a17) b17 (fnOk_not fun ds M Q E h => by first | exact h.elim | ((repeat (obtain ⟨_, h⟩ := h)); omega))
    | succ n ih => exact fnd_mk F17 (PySem.W.mg_of X G a17) b17 (ok_heads_by_tell T G_heads_between ih F17 (sp_heads_by_tell (n + 1)) len_heads_by_tell r_heads_by_tell)
  have G_heads_by_tell := GG_heads_by_tell 22
  have O18 : FnOk l.prog w K mg base (L2.CX l.prog w) 29 f18 _ P_count_heads (liftSp K (sp_count_heads A.Query)) := ok_count_heads T G_heads_by_tell G_query_reach G_settle_query G_tells_of G_told_values F18 (sp_count_heads A.Query) len_count_heads (r_count_heads T)
  have G_count_heads : FnD l.prog w K mg base 29 "count_heads" P_count_heads [] (sp_count_heads A.Query) := fnd_mk F18 (PySem.W.mg_of X G a18) b18 O18
  have O19 : FnOk l.prog w K mg base (L2.CX l.prog w) 1 f19 _ P_law_start (liftSp K (sp_law_start K)) := fnOk_or (ok_law_start T F19 sp_law_start1 (fun ds M Q E h => by (repeat (obtain ⟨_, h⟩ := h)); subst_vars; rfl) r_law_start) (ok_law_startK T F19 (sp_law_start2 K) (fun ds M Q E h => by (repeat (obtain ⟨_, h⟩ := h)); subst_vars; rfl) r_law_startK) (fun ds M Q E ⟨a, ns, e, h, r⟩ => h.elim (fun h => .inl ⟨a, ns, e, h, r⟩) fun h => .inr ⟨a, ns, e, h, r⟩)
  have G_law_start : FnD l.prog w K mg base 1 "_law_start" P_law_start [] (sp_law_start K) := fnd_mk F19 (PySem.W.mg_of X G a19) b19 O19
  have O20 : FnOk l.prog w K mg base (L2.CX l.prog w) 1 f20 _ P_law_pick (liftSp K (sp_law_pick)) := ok_law_pick T  F20 (sp_law_pick) len_law_pick r_law_pick
  have G_law_pick : FnD l.prog w K mg base 1 "_law_pick" P_law_pick [] (sp_law_pick) := fnd_mk F20 (PySem.W.mg_of X G a20) b20 O20
  have GG_law_same : ∀ n, FnD l.prog w K mg base (0 + n) "_law_same" P_law_same [] (sp_law_same n) := fun n => by
    induction n with
    | zero => exact fnd_mk F21 (PySem.W.mg_of X G a21) b21 (fnOk_not fun ds M Q E h => by first | exact h.elim | ((repeat (obtain ⟨_, h⟩ := h)); omega))
    | succ n ih => exact fnd_mk F21 (PySem.W.mg_of X G a21) b21 (ok_law_same T ih F21 (sp_law_same (n + 1)) len_law_same r_law_same)
  have G_law_same := GG_law_same 100
  have O22 : FnOk l.prog w K mg base (L2.CX l.prog w) 1 f22 _ P_law_width (liftSp K (sp_law_width)) := ok_law_width T  F22 (sp_law_width) len_law_width r_law_width
  have G_law_width : FnD l.prog w K mg base 1 "_law_width" P_law_width [] (sp_law_width) := fnd_mk F22 (PySem.W.mg_of X G a22) b22 O22
  have O23 : FnOk l.prog w K mg base (L2.CX l.prog w) 2 f23 _ P_law_widths (liftSp K (sp_law_widths)) := ok_law_widths T G_law_pick F23 (sp_law_widths) len_law_widths r_law_widths
  have G_law_widths : FnD l.prog w K mg base 2 "_law_widths" P_law_widths [] (sp_law_widths) := fnd_mk F23 (PySem.W.mg_of X G a23) b23 O23
  have O24 : FnOk l.prog w K mg base (L2.CX l.prog w) 2 f24 _ P_law_pool (liftSp K (sp_law_pool)) := ok_law_pool T G_law_pick F24 (sp_law_pool) len_law_pool r_law_pool
  have G_law_pool : FnD l.prog w K mg base 2 "_law_pool" P_law_pool [] (sp_law_pool) := fnd_mk F24 (PySem.W.mg_of X G a24) b24 O24
  have O25 : FnOk l.prog w K mg base (L2.CX l.prog w) 2 f25 _ P_law_shuffled (liftSp K (sp_law_shuffled)) := ok_law_shuffled T G_law_pick F25 (sp_law_shuffled) len_law_shuffled r_law_shuffled
  have G_law_shuffled : FnD l.prog w K mg base 2 "_law_shuffled" P_law_shuffled [] (sp_law_shuffled) := fnd_mk F25 (PySem.W.mg_of X G a25) b25 O25
  have GG_law_asked : ∀ n, FnD l.prog w K mg base (1 + n) "_law_asked" P_law_asked [] (sp_law_asked n) := fun n => by
    induction n with
    | zero => exact fnd_mk F26 (PySem.W.mg_of X G a26) b26 (fnOk_not fun ds M Q E h => by first | exact h.elim | ((repeat (obtain ⟨_, h⟩ := h)); omega))
    | succ n ih => exact fnd_mk F26 (PySem.W.mg_of X G a26) b26 (ok_law_asked T ih G_law_pick G_law_width F26 (sp_law_asked (n + 1)) len_law_asked r_law_asked)
  have G_law_asked := GG_law_asked 8
  have GG_law_full : ∀ n, FnD l.prog w K mg base (1 + n) "_law_full" P_law_full [] (sp_law_full n) := fun n => by
    induction n with
    | zero => exact fnd_mk F27 (PySem.W.mg_of X G a27) b27 (fnOk_not fun ds M Q E h => by first | exact h.elim | ((repeat (obtain ⟨_, h⟩ := h)); omega))
    | succ n ih => exact fnd_mk F27 (PySem.W.mg_of X G a27) b27 (ok_law_full T ih G_law_pick G_law_width F27 (sp_law_full (n + 1)) len_law_full r_law_full)
  have G_law_full := GG_law_full 14
  have O28 : FnOk l.prog w K mg base (L2.CX l.prog w) 2 f28 _ P_law_choices (liftSp K (sp_law_choices)) := ok_law_choices T G_law_width F28 (sp_law_choices) len_law_choices r_law_choices
  have G_law_choices : FnD l.prog w K mg base 2 "_law_choices" P_law_choices [] (sp_law_choices) := fnd_mk F28 (PySem.W.mg_of X G a28) b28 O28
  have O29 : FnOk l.prog w K mg base (L2.CX l.prog w) 1 f29 _ P_law_end (liftSp K (sp_law_end)) := ok_law_end T  F29 (sp_law_end) len_law_end r_law_end
  have G_law_end : FnD l.prog w K mg base 1 "_law_end" P_law_end [] (sp_law_end) := fnd_mk F29 (PySem.W.mg_of X G a29) b29 O29
  have GG_law_retold : ∀ n, FnD l.prog w K mg base (1 + n) "_law_retold" P_law_retold [] (sp_law_retold n) := fun n => by
    induction n with
    | zero => exact fnd_mk F30 (PySem.W.mg_of X G a30) b30 (fnOk_not fun ds M Q E h => by first | exact h.elim | ((repeat (obtain ⟨_, h⟩ := h)); omega))
    | succ n ih => exact fnd_mk F30 (PySem.W.mg_of X G a30) b30 (ok_law_retold T G_law_end ih G_law_width F30 (sp_law_retold (n + 1)) len_law_retold r_law_retold)
  have G_law_retold := GG_law_retold 14
  have O31 : FnOk l.prog w K mg base (L2.CX l.prog w) 2 f31 _ P_law_places (liftSp K (sp_law_places)) := ok_law_places T G_law_pick G_law_width F31 (sp_law_places) len_law_places r_law_places
  have G_law_places : FnD l.prog w K mg base 2 "_law_places" P_law_places [] (sp_law_places) := fnd_mk F31 (PySem.W.mg_of X G a31) b31 O31
  have O32 : FnOk l.prog w K mg base (L2.CX l.prog w) 16 f32 _ P_law_term (liftSp K (sp_law_term)) := ok_law_term T G_law_asked G_law_full G_law_pick G_law_shuffled F32 (sp_law_term) len_law_term r_law_term
  have G_law_term : FnD l.prog w K mg base 16 "_law_term" P_law_term [] (sp_law_term) := fnd_mk F32 (PySem.W.mg_of X G a32) b32 O32
  have O33 : FnOk l.prog w K mg base (L2.CX l.prog w) 1 f33 _ P_law_different (liftSp K (sp_law_different)) := ok_law_different T  F33 (sp_law_different) len_law_different r_law_different
  have G_law_different : FnD l.prog w K mg base 1 "_law_different" P_law_different [] (sp_law_different) := fnd_mk F33 (PySem.W.mg_of X G a33) b33 O33
  have O34 : FnOk l.prog w K mg base (L2.CX l.prog w) 2 f34 _ P_law_many (liftSp K (sp_law_many)) := ok_law_many T G_law_width F34 (sp_law_many) len_law_many r_law_many
  have G_law_many : FnD l.prog w K mg base 2 "_law_many" P_law_many [] (sp_law_many) := fnd_mk F34 (PySem.W.mg_of X G a34) b34 O34
  have O35 : FnOk l.prog w K mg base (L2.CX l.prog w) 2 f35 _ P_law_strides (liftSp K (sp_law_strides)) := ok_law_strides T G_law_width F35 (sp_law_strides) len_law_strides r_law_strides
  have G_law_strides : FnD l.prog w K mg base 2 "_law_strides" P_law_strides [] (sp_law_strides) := fnd_mk F35 (PySem.W.mg_of X G a35) b35 O35
  have O36 : FnOk l.prog w K mg base (L2.CX l.prog w) 3 f36 _ P_law_needed (liftSp K (sp_law_needed)) := ok_law_needed T G_law_strides F36 (sp_law_needed) len_law_needed r_law_needed
  have G_law_needed : FnD l.prog w K mg base 3 "_law_needed" P_law_needed [] (sp_law_needed) := fnd_mk F36 (PySem.W.mg_of X G a36) b36 O36
  have O37 : FnOk l.prog w K mg base (L2.CX l.prog w) 3 f37 _ P_law_heads (liftSp K (sp_law_heads)) := ok_law_heads T G_law_different G_law_many F37 (sp_law_heads) len_law_heads r_law_heads
  have G_law_heads : FnD l.prog w K mg base 3 "_law_heads" P_law_heads [] (sp_law_heads) := fnd_mk F37 (PySem.W.mg_of X G a37) b37 O37
  have O38 : FnOk l.prog w K mg base (L2.CX l.prog w) 101 f38 _ P_law_counted (liftSp K (sp_law_counted A.Query)) := ok_law_counted T G_law_different G_law_heads G_law_many G_law_needed G_law_same G_count_heads G_needed_places G_query_reach G_told_values F38 (sp_law_counted A.Query) len_law_counted (r_law_counted T)
  have G_law_counted : FnD l.prog w K mg base 101 "_law_counted" P_law_counted [] (sp_law_counted A.Query) := fnd_mk F38 (PySem.W.mg_of X G a38) b38 O38
  exact ok_law T G_Query_init G_law_choices G_law_counted G_law_end G_law_pick G_law_places G_law_pool G_law_retold G_law_same G_law_shuffled G_law_start G_law_term G_law_width G_law_widths F39 (sp_law K) len_law (r_law T)
end K58

open PySem PySem.W PyProof.Rows
set_option maxRecDepth 100000 in
set_option maxHeartbeats 0 in
theorem PySem.Challenge.cw_proofchoosers_k58_needed_places_and_head_holds : PySem.Challenge.rw_proofchoosers_k58_needed_places_and_head.Holds := by
  w_on; o_law; k_head; (case hw => w_witness2)
  k_fill
  refine DL.walkD (n := 63) (k := 102) (x := "script") (l := PySem.Challenge.rw_proofchoosers_k58_needed_places_and_head) rfl (by decide) rfl ⟨rfl, by decide, by decide⟩ (fun w h Y => PySem.W.kIn_of Y) ?F
  case F =>
    intro w mg fa h KX G hmg
    refine' K58.all_mk KX G hmg ?aProofsError ?aInvalidText ?aInvalidTerm ?aInvalidQuery ?aOutOfRange ?aTooLarge ?aQuery ?zall ?zbool ?zint ?zisinstance ?zlen ?zlist ?zmax ?zrange ?zset ?zsorted ?zstr ?zsum ?ztuple ?zzip ?qOutOfRange ?kOutOfRange ?sOutOfRange ?tOutOfRange ?hgOutOfRange ?hkOutOfRange ?hdOutOfRange ?haOutOfRange ?hmOutOfRange ?qTooLarge ?kTooLarge ?sTooLarge ?tTooLarge ?hgTooLarge ?hkTooLarge ?hdTooLarge ?haTooLarge ?hmTooLarge ?hn ?ht ?pgQuery ?hdQuery ?poQuery ?saQuery ?mkQuery ?kcQuery ?haQuery ?hmQuery ?noQueryterm ?noQuerywidths ?zcDIGITS ?zcLETTERS ?zcMOST_DEPTH ?zcMOST_DIGITS ?zcMOST_LETTERS ?zcMOST_NUMBER ?zcMOST_WIDTH ?zcMOST_WIDTHS ?zcPLACES ?rdQuery ?spQuery ?fcQueryMOST_CHOICES ?fcQueryMOST_LEVELS ?fcQueryMOST_LOOKS ?a1 ?l1 ?c1 ?k1 ?a2 ?l2 ?c2 ?k2 ?a3 ?l3 ?c3 ?k3 ?a4 ?l4 ?c4 ?k4 ?a5 ?l5 ?c5 ?k5 ?a6 ?l6 ?c6 ?k6 ?a7 ?l7 ?c7 ?k7 ?a8 ?i8 ?l8 ?c8 ?k8 ?a9 ?l9 ?c9 ?k9 ?a10 ?l10 ?c10 ?k10 ?a11 ?l11 ?c11 ?k11 ?a12 ?l12 ?c12 ?k12 ?a13 ?l13 ?c13 ?k13 ?a14 ?l14 ?c14 ?k14 ?a15 ?l15 ?c15 ?k15 ?a16 ?l16 ?c16 ?k16 ?a17 ?l17 ?c17 ?k17 ?a18 ?l18 ?c18 ?k18 ?a19 ?l19 ?c19 ?k19 ?a20 ?l20 ?c20 ?k20 ?a21 ?l21 ?c21 ?k21 ?a22 ?l22 ?c22 ?k22 ?a23 ?l23 ?c23 ?k23 ?a24 ?l24 ?c24 ?k24 ?a25 ?l25 ?c25 ?k25 ?a26 ?l26 ?c26 ?k26 ?a27 ?l27 ?c27 ?k27 ?a28 ?l28 ?c28 ?k28 ?a29 ?l29 ?c29 ?k29 ?a30 ?l30 ?c30 ?k30 ?a31 ?l31 ?c31 ?k31 ?a32 ?l32 ?c32 ?k32 ?a33 ?l33 ?c33 ?k33 ?a34 ?l34 ?c34 ?k34 ?a35 ?l35 ?c35 ?k35 ?a36 ?l36 ?c36 ?k36 ?a37 ?l37 ?c37 ?k37 ?a38 ?l38 ?c38 ?k38 ?a39 ?l39 ?c39 ?k39
    (case aProofsError => k_is)
    (case aInvalidText => k_is)
    (case aInvalidTerm => k_is)
    (case aInvalidQuery => k_is)
    (case aOutOfRange => k_is)
    (case aTooLarge => k_is)
    (case aQuery => k_is)
    (case zall => k_is)
    (case zbool => k_is)
    (case zint => k_is)
    (case zisinstance => k_is)
    (case zlen => k_is)
    (case zlist => k_is)
    (case zmax => k_is)
    (case zrange => k_is)
    (case zset => k_is)
    (case zsorted => k_is)
    (case zstr => k_is)
    (case zsum => k_is)
    (case ztuple => k_is)
    (case zzip => k_is)
    (case qOutOfRange => k_exc)
    (case kOutOfRange => k_is)
    (case sOutOfRange => k_is)
    (case tOutOfRange => k_is)
    (case hgOutOfRange => k_is)
    (case hkOutOfRange => k_is)
    (case hdOutOfRange => k_is)
    (case haOutOfRange => k_is)
    (case hmOutOfRange => k_is)
    (case qTooLarge => k_exc)
    (case kTooLarge => k_is)
    (case sTooLarge => k_is)
    (case tTooLarge => k_is)
    (case hgTooLarge => k_is)
    (case hkTooLarge => k_is)
    (case hdTooLarge => k_is)
    (case haTooLarge => k_is)
    (case hmTooLarge => k_is)
    (case hn => k_is)
    (case ht => k_is)
    (case pgQuery => k_is)
    (case hdQuery => k_is)
    (case poQuery => k_is)
    (case saQuery => k_is)
    (case mkQuery => k_is)
    (case kcQuery => k_is)
    (case haQuery => k_is)
    (case hmQuery => k_is)
    (case noQueryterm => k_is)
    (case noQuerywidths => k_is)
    (case zcDIGITS => k_is)
    (case zcLETTERS => k_is)
    (case zcMOST_DEPTH => k_is)
    (case zcMOST_DIGITS => k_is)
    (case zcMOST_LETTERS => k_is)
    (case zcMOST_NUMBER => k_is)
    (case zcMOST_WIDTH => k_is)
    (case zcMOST_WIDTHS => k_is)
    (case zcPLACES => k_is)
    (case rdQuery => k_is)
    (case spQuery => k_is)
    (case fcQueryMOST_CHOICES => k_is)
    (case fcQueryMOST_LEVELS => k_is)
    (case fcQueryMOST_LOOKS => k_is)
    (case a1 => k_is)
    (case l1 => k_is)
    (case c1 => k_is)
    (case k1 => k_is)
    (case a2 => k_is)
    (case l2 => k_is)
    (case c2 => k_is)
    (case k2 => k_is)
    (case a3 => k_is)
    (case l3 => k_is)
    (case c3 => k_is)
    (case k3 => k_is)
    (case a4 => k_is)
    (case l4 => k_is)
    (case c4 => k_is)
    (case k4 => k_is)
    (case a5 => k_is)
    (case l5 => k_is)
    (case c5 => k_is)
    (case k5 => k_is)
    (case a6 => k_is)
    (case l6 => k_is)
    (case c6 => k_is)
    (case k6 => k_is)
    (case a7 => k_is)
    (case l7 => k_is)
    (case c7 => k_is)
    (case k7 => k_is)
    (case a8 => k_is)
    (case i8 => k_is)
    (case l8 => k_is)
    (case c8 => k_is)
    (case k8 => k_is)
    (case a9 => k_is)
    (case l9 => k_is)
    (case c9 => k_is)
    (case k9 => k_is)
    (case a10 => k_is)
    (case l10 => k_is)
    (case c10 => k_is)
    (case k10 => k_is)
    (case a11 => k_is)
    (case l11 => k_is)
    (case c11 => k_is)
    (case k11 => k_is)
    (case a12 => k_is)
    (case l12 => k_is)
    (case c12 => k_is)
    (case k12 => k_is)
    (case a13 => k_is)
    (case l13 => k_is)
    (case c13 => k_is)
    (case k13 => k_is)
    (case a14 => k_is)
    (case l14 => k_is)
    (case c14 => k_is)
    (case k14 => k_is)
    (case a15 => k_is)
    (case l15 => k_is)
    (case c15 => k_is)
    (case k15 => k_is)
    (case a16 => k_is)
    (case l16 => k_is)
    (case c16 => k_is)
    (case k16 => k_is)
    (case a17 => k_is)
    (case l17 => k_is)
    (case c17 => k_is)
    (case k17 => k_is)
    (case a18 => k_is)
    (case l18 => k_is)
    (case c18 => k_is)
    (case k18 => k_is)
    (case a19 => k_is)
    (case l19 => k_is)
    (case c19 => k_is)
    (case k19 => k_is)
    (case a20 => k_is)
    (case l20 => k_is)
    (case c20 => k_is)
    (case k20 => k_is)
    (case a21 => k_is)
    (case l21 => k_is)
    (case c21 => k_is)
    (case k21 => k_is)
    (case a22 => k_is)
    (case l22 => k_is)
    (case c22 => k_is)
    (case k22 => k_is)
    (case a23 => k_is)
    (case l23 => k_is)
    (case c23 => k_is)
    (case k23 => k_is)
    (case a24 => k_is)
    (case l24 => k_is)
    (case c24 => k_is)
    (case k24 => k_is)
    (case a25 => k_is)
    (case l25 => k_is)
    (case c25 => k_is)
    (case k25 => k_is)
    (case a26 => k_is)
    (case l26 => k_is)
    (case c26 => k_is)
    (case k26 => k_is)
    (case a27 => k_is)
    (case l27 => k_is)
    (case c27 => k_is)
    (case k27 => k_is)
    (case a28 => k_is)
    (case l28 => k_is)
    (case c28 => k_is)
    (case k28 => k_is)
    (case a29 => k_is)
    (case l29 => k_is)
    (case c29 => k_is)
    (case k29 => k_is)
    (case a30 => k_is)
    (case l30 => k_is)
    (case c30 => k_is)
    (case k30 => k_is)
    (case a31 => k_is)
    (case l31 => k_is)
    (case c31 => k_is)
    (case k31 => k_is)
    (case a32 => k_is)
    (case l32 => k_is)
    (case c32 => k_is)
    (case k32 => k_is)
    (case a33 => k_is)
    (case l33 => k_is)
    (case c33 => k_is)
    (case k33 => k_is)
    (case a34 => k_is)
    (case l34 => k_is)
    (case c34 => k_is)
    (case k34 => k_is)
    (case a35 => k_is)
    (case l35 => k_is)
    (case c35 => k_is)
    (case k35 => k_is)
    (case a36 => k_is)
    (case l36 => k_is)
    (case c36 => k_is)
    (case k36 => k_is)
    (case a37 => k_is)
    (case l37 => k_is)
    (case c37 => k_is)
    (case k37 => k_is)
    (case a38 => k_is)
    (case l38 => k_is)
    (case c38 => k_is)
    (case k38 => k_is)
    (case a39 => k_is)
    (case l39 => k_is)
    (case c39 => k_is)
    (case k39 => k_is)

