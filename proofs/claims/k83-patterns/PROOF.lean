import PyProof.Rows.All
import Wide.All
import OpenK.AllK
import Wide.FinOn
import KE.KStateDown
import Lean
import HandS.ForMost
import HandS.Defaults
import HandS.Head0
import HandS.Head1
import HandS.Head2
import HandS.HeadEnd
import HandS.HeadHook1
import HandS.HeadHook2
import HandS.MakeKwOnly
import HandS.More
import HandS.Deep
import HandS.IsInst
import HandS.ExcInit
import HandS.ExcOwn
import HandS.ExcIs
import HandS.ExcField
import HandS.TryOnly
import HandS.TryMany
import HandS.Star
import HandS.Dict
import HandS.WordsDict
import HandS.Iter
import HandS.Steps
import HandS.Small
import KE.KExcIs
import HandS.WordsExc
import KE.KExcInit
import PyProof.ExcBaseAll.LookupError
import PyProof.ExcBaseAll.RuntimeError
import PyProof.ExcBaseAll.OverflowError
import PyProof.Draws
import PyProof.EnumMake
import PyProof.TupleIter
import PyProof.WalksMore
import HandS.RaiseMore
import PyProof.StrOps2
import PyProof.CallFns
import HandS.MethStar
import KE.GoesMore
import PyProof.RulesMatch
import PyProof.ListIndex
import PyProof.ListIndexNeg
import HandS.ClsMeth
import HandS.Property
import HandS.HeadHook3
import HandS.MakeKw
import HandS.Text
import HandS.Replace
import PyProof.Rows.StrCase
import HandS.TupAny
import HandS.SlotsOwn
import HandS.Style
import PyProof.InstNe
import HandS.Conv
import HandS.Codes
import HandS.SetKeys
import HandS.SetBool
import HandS.SortRule
import KE.KSortTupAny
import PySem.Challenge.RW_warnfilters_k83_where_patterns_end
set_option Elab.async false
set_option linter.all false
set_option maxRecDepth 100000
set_option maxHeartbeats 4000000
namespace Wf
open PySem PySem.Spec PyProof.Rows L2

/-! ## what is known of the heap: K0 stays for ever, L is owned -/
abbrev Ow := List (Addr × HO)
inductive Sel : Ow → Addr → HO → (HO → Ow) → Prop
  | here {a : Addr} {o : HO} {L : Ow} : Sel ((a, o) :: L) a o (fun z => (a, z) :: L)
  | there {x : Addr × HO} {L : Ow} {a : Addr} {o : HO} {f : HO → Ow} : Sel L a o f → Sel (x :: L) a o (fun z => x :: f z)
structure Own (K0 : Hp) (L : Ow) (H : Hp) : Prop where
  pers : Same K0 H
  free : ∀ x ∈ L, K0 x.1 = none
  has : ∀ x ∈ L, H x.1 = some x.2
  nd : (L.map (·.1)).Nodup

section
variable {K0 K1 H H' : Hp} {L : Ow} {a p : Addr} {o z : HO} {f : HO → Ow}
theorem Sel.mem (s : Sel L a o f) : (a, o) ∈ L := by
  induction s with
  | here => exact List.mem_cons_self
  | there _ ih => exact List.mem_cons_of_mem _ ih
theorem Sel.keys (s : Sel L a o f) (z : HO) : (f z).map (·.1) = L.map (·.1) := by
  induction s with
  | here => rfl
  | there _ ih => simp only [List.map_cons, ih]
theorem Sel.cases (s : Sel L a o f) (nd : (L.map (·.1)).Nodup) (z : HO) : ∀ x ∈ f z, x = (a, z) ∨ (x ∈ L ∧ x.1 ≠ a) := by
  induction s with
  | @here a o L =>
    intro x hx
    rcases List.mem_cons.mp hx with e | hx
    · exact .inl e
    · refine .inr ⟨List.mem_cons_of_mem _ hx, fun e => ?_⟩
      have h1 := (List.nodup_cons.mp nd).1
      exact h1 (List.mem_map.mpr ⟨x, hx, e⟩)
  | @there y L a o f s ih =>
    intro x hx
    rcases List.mem_cons.mp hx with e | hx
    · subst e
      refine .inr ⟨List.mem_cons_self, fun e => (List.nodup_cons.mp nd).1 ?_⟩
      exact List.mem_map.mpr ⟨_, s.mem, e.symm⟩
    · rcases ih (List.nodup_cons.mp nd).2 x hx with e | ⟨h1, h2⟩
      · exact .inl e
      · exact .inr ⟨List.mem_cons_of_mem _ h1, h2⟩
theorem Own.at_ (w : Own K0 L H) (s : Sel L a o f) : H a = some o := w.has _ s.mem
theorem Own.know (w : Own K0 L H) (h : K0 a = some o) : H a = some o := w.pers _ _ h
theorem Own.put (w : Own K0 L H) (s : Sel L a o f) (z : HO) : Own K0 (f z) (upd H a z) := by
  have ha : K0 a = none := w.free _ s.mem
  refine ⟨fun b u e => ?_, fun x hx => ?_, fun x hx => ?_, ?_⟩
  · rw [upd_ne (ne_of_none e ha)]
    exact w.pers b u e
  · rcases s.cases w.nd z x hx with e | ⟨h1, _⟩
    · rw [e]; exact ha
    · exact w.free x h1
  · rcases s.cases w.nd z x hx with e | ⟨h1, h2⟩
    · rw [e]; exact upd_same
    · rw [upd_ne h2]; exact w.has x h1
  · rw [s.keys z]; exact w.nd
theorem Own.new (w : Own K0 L H) (h : H p = none) (o : HO) : Own K0 ((p, o) :: L) (upd H p o) := by
  refine ⟨fun b u e => ?_, fun x hx => ?_, fun x hx => ?_, ?_⟩
  · rw [upd_ne (ne_of_none (w.pers b u e) h)]
    exact w.pers b u e
  · rcases List.mem_cons.mp hx with e | hx
    · rw [e]; exact Same.free w.pers h
    · exact w.free x hx
  · rcases List.mem_cons.mp hx with e | hx
    · rw [e]; exact upd_same
    · rw [upd_ne (ne_of_none (w.has x hx) h)]; exact w.has x hx
  · refine List.nodup_cons.mpr ⟨fun m => ?_, w.nd⟩
    obtain ⟨x, hx, e⟩ := List.mem_map.mp m
    have q := w.has x hx
    rw [e, h] at q
    cases q
theorem Own.drop {x : Addr × HO} (w : Own K0 (x :: L) H) : Own K0 L H :=
  ⟨w.pers, fun y hy => w.free y (List.mem_cons_of_mem _ hy), fun y hy => w.has y (List.mem_cons_of_mem _ hy), (List.nodup_cons.mp w.nd).2⟩
theorem Own.dropAt (w : Own K0 L H) {L' : Ow} (s : List.Sublist L' L) : Own K0 L' H :=
  ⟨w.pers, fun y hy => w.free y (s.mem hy), fun y hy => w.has y (s.mem hy), w.nd.sublist (s.map _)⟩
/-- what will not change any more -/
theorem Own.freeze (w : Own K0 ((p, o) :: L) H) : Own (upd K0 p o) L H := by
  have hp : K0 p = none := w.free _ List.mem_cons_self
  have nk := (List.nodup_cons.mp w.nd).1
  refine ⟨fun b u e => ?_, fun x hx => ?_, fun x hx => w.has x (List.mem_cons_of_mem _ hx), (List.nodup_cons.mp w.nd).2⟩
  · by_cases hb : b = p
    · subst hb
      rw [upd_same] at e
      cases e
      exact w.has _ List.mem_cons_self
    · rw [upd_ne hb] at e
      exact w.pers b u e
  · have ne : x.1 ≠ p := fun e => nk (List.mem_map.mpr ⟨x, hx, e⟩)
    rw [upd_ne ne]
    exact w.free x (List.mem_cons_of_mem _ hx)
theorem Own.fresh (w : Own K0 ((p, o) :: L) H) : K0 p = none := w.free _ List.mem_cons_self
theorem same_upd (h : K0 p = none) : Same K0 (upd K0 p o) := fun b u e => by
  rw [upd_ne (ne_of_none e h)]
  exact e
theorem Own.same (w : Own K0 ((p, o) :: L) H) : Same K0 (upd K0 p o) := same_upd w.fresh
theorem Own.perm {L' : Ow} (w : Own K0 L H) (h : L.Perm L') : Own K0 L' H :=
  ⟨w.pers, fun y hy => w.free y (h.mem_iff.mpr hy), fun y hy => w.has y (h.mem_iff.mpr hy), (h.map _).nodup_iff.mp w.nd⟩
theorem Own.swap {x y : Addr × HO} (w : Own K0 (x :: y :: L) H) : Own K0 (y :: x :: L) H := w.perm (List.Perm.swap _ _ _)
/-- back to less that stays -/
theorem Own.back (w : Own K1 L H) (s : Same K0 K1) : Own K0 L H :=
  ⟨s.trans w.pers, fun x hx => Same.free s (w.free x hx), w.has, w.nd⟩
end

/-! ## data -/
theorem sqT_mono {K : PySem.W.Frag} {H H' : Hp} {a : Addr} {xs : List V} (e : Same H H') (h : SqT K H a xs) : SqT K H' a xs := by
  rcases h with (h | ⟨o, h⟩) | h
  · exact .inl (.inl (e _ _ h))
  · exact .inl (.inr ⟨o, e _ _ h⟩)
  · exact .inr h
theorem sqL_mono {K : PySem.W.Frag} {H H' : Hp} {a : Addr} {xs : List V} (e : Same H H') (h : SqL K H a xs) : SqL K H' a xs := e.seq h
mutual
theorem dp_mono {K : PySem.W.Frag} {H H' : Hp} (e : Same H H') : ∀ {d : PyData} {v : V}, Dp K H v d → Dp K H' v d
  | .none, _, h => by cases h; constructor
  | .bool _, _, h => by cases h; constructor
  | .int _, _, h => by cases h; constructor
  | .str _, _, h => by cases h; constructor
  | .list ds, _, h => by
    cases h with
    | lst hs ha => exact Dp.lst (sqL_mono e hs) (dpAll_mono e ha)
  | .tuple ds, _, h => by
    cases h with
    | tup hs ha => exact Dp.tup (sqT_mono e hs) (dpAll_mono e ha)
  | .dict _, _, h => by cases h
theorem dpAll_mono {K : PySem.W.Frag} {H H' : Hp} (e : Same H H') : ∀ {ds : List PyData} {vs : List V}, DpAll K H vs ds → DpAll K H' vs ds
  | [], _, h => by cases h; exact .nil
  | d :: ds, _, h => by
    cases h with
    | cons h1 h2 => exact .cons (dp_mono e h1) (dpAll_mono e h2)
end

/-! ## module names -/
section
variable {X : Cx} {x : Str} {pos : Pos}
theorem pe_gs {z : Str} (hg : Gl X x) (hm : ∃ t, X.mg x = some (.str z t)) (hd : (x == ("__debug__" : Str)) = false := by decide) : PE X (.Name x pos) (tC (.str z)) := by
  obtain ⟨t, hm⟩ := hm
  exact pe_glob hg hm ⟨t, rfl⟩ hd
theorem pe_gi {i : Int} (hg : Gl X x) (hm : ∃ t, X.mg x = some (.int i t)) (hd : (x == ("__debug__" : Str)) = false := by decide) : PE X (.Name x pos) (tC (.int i)) := by
  obtain ⟨t, hm⟩ := hm
  exact pe_glob hg hm ⟨t, rfl⟩ hd
theorem pe_gr {a : Addr} (hg : Gl X x) (hm : X.mg x = some (.ref a)) (hd : (x == ("__debug__" : Str)) = false := by decide) : PE X (.Name x pos) (tC (.ref a)) := pe_glob hg hm rfl hd
theorem gn (i : Nat) (hN : X.N.Nodup) (hi : X.N[i]? = some x := by rfl) (hx : Loc X.env.scope x := by first | exact Or.inl rfl | exact Or.inr rfl) (hf : X.fn x = true ∨ X.env.scope.names.lookup x = some .local := by first | exact .inl rfl | exact .inr rfl | assumption) : PG X (.Name x pos) (gName i) := pg_name hN hi hx hf
theorem pset (i : Nat) {e : Expr} {te : TE} {pos' : Pos} (hN : X.N.Nodup) (he : PE X e te) (hi : X.N[i]? = some x := by rfl) (hx : Loc X.env.scope x := by first | exact Or.inl rfl | exact Or.inr rfl)  (hs : swapsWith e (some (.Name x pos')) pos.line X.env = pure false := by rfl) (hf : X.fn x = true ∨ X.env.scope.names.lookup x = some .local := by first | exact .inl rfl | exact .inr rfl | assumption) :
    PS X (.Assign [.Name x pos'] e pos) (tAsg te (gName i)) := ps_set hN hi hx he hs hf
end

/-! ## operators by what they are given -/
section
variable {X : Cx}
def kLL (K : PySem.W.Frag) (p q : Addr) (H : Hp) (Q : VK) : Prop := rCat (.ref p) (.ref q) H Q ∨ rCatT K (.ref p) (.ref q) H Q
def kAdd (K : PySem.W.Frag) : R2 := fun x y H Q => match x, y with
  | .int i, .int j => Q (.int (i + j)) H
  | .str a, .str b => a.length + b.length ≤ sizeLine ∧ Q (.str (a ++ b)) H
  | .ref p, .ref q => kLL K p q H Q
  | _, _ => False
theorem ok_add : OpR X (binaryOp .Add) (kAdd X.K) := by
  intro pins s σ H x y v u Q I rx ry h
  cases x <;> cases y <;> first | exact False.elim h | skip
  · exact op_add pins s σ H _ _ v u Q I rx ry ⟨_, _, rfl, rfl, h⟩
  · exact op_add_str pins s σ H _ _ v u Q I rx ry ⟨_, _, rfl, rfl, h.1, h.2⟩
  · rcases (show kLL X.K _ _ H Q from h) with h | h
    · exact op_cat pins s σ H _ _ v u Q I rx ry h
    · exact op_catT pins s σ H _ _ v u Q I rx ry h
def kSub : R2 := rI0 fun i j => .int (i - j)
theorem ok_sub : OpR X (binaryOp .Sub) kSub := op_sub
def kMul : R2 := fun x y H Q => match x, y with
  | .int i, .int j => CMul i j ∧ Q (.int (i * j)) H
  | .ref p, .int k => rRep (.ref p) (.int k) H Q
  | _, _ => False
theorem ok_mul : OpR X (binaryOp .Mult) kMul := by
  intro pins s σ H x y v u Q I rx ry h
  cases x <;> cases y <;> first | exact False.elim h | skip
  · exact op_mul pins s σ H _ _ v u Q I rx ry ⟨_, _, rfl, rfl, h.1, h.2⟩
  · exact op_rep pins s σ H _ _ v u Q I rx ry h
def kDiv : R2 := rI CDiv fun i j => .int (i / j)
theorem ok_div : OpR X (binaryOp .FloorDiv) kDiv := op_fdiv
def kMod : R2 := rI (fun _ j => 0 < j) fun i j => .int (i % j)
theorem ok_mod : OpR X (binaryOp .Mod) kMod := op_mod
def kPow : R2 := rI CPow fun i j => .int (i ^ j.toNat)
theorem ok_pow : OpR X (binaryOp .Pow) kPow := op_pow
def kLt : R2 := rI0 fun i j => .bl (decide (i < j))
theorem ok_lt : OpR X (compareOp .Lt) kLt := op_lt
def kLe : R2 := rI0 fun i j => .bl (decide (i ≤ j))
theorem ok_le : OpR X (compareOp .LtE) kLe := op_le
def kGt : R2 := rI0 fun i j => .bl (decide (j < i))
theorem ok_gt : OpR X (compareOp .Gt) kGt := op_gt
def kGe : R2 := rI0 fun i j => .bl (decide (j ≤ i))
theorem ok_ge : OpR X (compareOp .GtE) kGe := op_ge
def kEq (K : PySem.W.Frag) : R2 := fun x y H Q => rEq x y H Q ∨ rEqD K x y H Q
theorem ok_eq (hu : X.A.units + 64 < cLine) : OpR X (compareOp .Eq) (kEq X.K) := by
  intro pins s σ H x y v u Q I rx ry h
  rcases h with h | h
  · exact op_eq pins s σ H x y v u Q I rx ry h
  · exact op_eqD hu pins s σ H x y v u Q I rx ry h
def kNe (K : PySem.W.Frag) : R2 := fun x y H Q => rNe x y H Q ∨ rNeD K x y H Q
theorem ok_ne (hu : X.A.units + 64 < cLine) : OpR X (compareOp .NotEq) (kNe X.K) := by
  intro pins s σ H x y v u Q I rx ry h
  rcases h with h | h
  · exact op_ne pins s σ H x y v u Q I rx ry h
  · exact op_neD hu pins s σ H x y v u Q I rx ry h
def kIx (K : PySem.W.Frag) : R2 := rIx K
theorem ok_ix : IxR X (kIx X.K) := ix_seq
def kAbs : List V → Hp → VK → Prop := fun xs H Q => ∃ i, xs = [.int i] ∧ Q (.int (if i < 0 then -i else i)) H
theorem ok_abs : CallR X (.builtin "abs") kAbs := call_abs
def kInt : List V → Hp → VK → Prop := fun xs H Q => match xs with
  | [.int i] => Q (.int i) H
  | [.bl k] => Q (.int (if k then 1 else 0)) H
  | _ => False
theorem ok_int : CallR X (.type "int") kInt := by
  intro pins s σ H xs us Q I r h
  unfold kInt at h
  split at h
  · exact call_int1 pins s σ H _ us Q I r (.inl ⟨_, rfl, h⟩)
  · exact call_int1 pins s σ H _ us Q I r (.inr ⟨_, rfl, h⟩)
  · exact h.elim
def kMin2 : List V → Hp → VK → Prop := fun xs H Q => ∃ i j, xs = [.int i, .int j] ∧ Q (.int (if j < i then j else i)) H
theorem ok_min2 (hc : X.calm = true) : CallR X (.builtin "min") kMin2 := call_min2 hc
def kMax2 : List V → Hp → VK → Prop := fun xs H Q => ∃ i j, xs = [.int i, .int j] ∧ Q (.int (if j > i then j else i)) H
theorem ok_max2 (hc : X.calm = true) : CallR X (.builtin "max") kMax2 := call_max2 hc
def kLen (K : PySem.W.Frag) : List V → Hp → VK → Prop := fun xs H Q => match xs with
  | [.str a] => a.length ≤ sizeLine ∧ Q (.int a.length) H
  | [.ref p] => ∃ ys, (SqL K H p ys ∨ SqT K H p ys) ∧ Q (.int ys.length) H
  | _ => False
theorem ok_len : CallR X (.builtin "len") (kLen X.K) := by
  intro pins s σ H xs us Q I r h
  unfold kLen at h
  split at h
  · exact call_len_str pins s σ H _ us Q I r ⟨_, rfl, h.1, h.2⟩
  · obtain ⟨ys, h1, h2⟩ := h
    exact call_len_seq pins s σ H _ us Q I r ⟨_, ys, rfl, h1, h2⟩
  · exact h.elim
def kList (K : PySem.W.Frag) : List V → Hp → VK → Prop := fun xs H Q => ∃ p ys, xs = [.ref p] ∧ (SqL K H p ys ∨ SqT K H p ys) ∧ ∀ l, H l = none → Q (.ref l) (upd H l (.lst ys))
theorem ok_list : CallR X (.type "list") (kList X.K) := call_list_of
def kTuple (K : PySem.W.Frag) : List V → Hp → VK → Prop := fun xs H Q => ∃ p ys, xs = [.ref p] ∧ ((SqL K H p ys ∧ ∀ l, H l = none → Q (.ref l) (upd H l (.tup ys))) ∨ (SqT K H p ys ∧ Q (.ref p) H))
theorem ok_tuple : CallR X (.type "tuple") (kTuple X.K) := call_tuple_of
theorem ok_any (hc : X.calm = true) : CallR X (.builtin "any") (rAny X.K) := cr_any hc
theorem ok_all (hc : X.calm = true) : CallR X (.builtin "all") (rAll X.K) := cr_all hc
def kStarts : V → List V → Hp → VK → Prop := fun x xs H Q => ∃ a b, x = .str a ∧ xs = [.str b] ∧ Q (.bl (Txt.startswith a b)) H
theorem ok_starts : MtR X "str.startswith" kStarts := mt_startswith
end

/-! ## steps -/
def kTest (Q : Bool → Hp → Prop) (x : V) (H : Hp) : Prop := ∃ k, x = .bl k ∧ Q k H
def kIfS (t u : TS) (D : Ends) (σ : L2.St) (b : Bool) (H : Hp) : Prop := if b = true then t D σ H else u D σ H
def kIfE (t u : TE) (σ : L2.St) (Q : VK) (b : Bool) (H : Hp) : Prop := if b = true then t σ H Q else u σ H Q
def kAndT (u : TT) (σ : L2.St) (Q : Bool → Hp → Prop) (b : Bool) (H : Hp) : Prop := if b = true then u σ H Q else Q false H
def kOrT (u : TT) (σ : L2.St) (Q : Bool → Hp → Prop) (b : Bool) (H : Hp) : Prop := if b = true then Q true H else u σ H Q
def kAndV (u : TE) (σ : L2.St) (Q : VK) (x : V) (H : Hp) : Prop := ∃ c, x = .bl c ∧ if c = true then u σ H Q else Q (.bl false) H
def kOrV (u : TE) (σ : L2.St) (Q : VK) (x : V) (H : Hp) : Prop := ∃ c, x = .bl c ∧ if c = true then Q (.bl true) H else u σ H Q
def kNotV (Q : VK) (x : V) (H : Hp) : Prop := ∃ c, x = .bl c ∧ Q (.bl (!c)) H
def kLst (Q : VK) (xs : List V) (H : Hp) : Prop := xs.length ≤ sizeLine ∧ ∀ p, H p = none → Q (.ref p) (upd H p (.lst xs))
def kTup (Q : VK) (xs : List V) (H : Hp) : Prop := xs.length ≤ sizeLine ∧ ∀ p, H p = none → Q (.ref p) (upd H p (.tup xs))
def kCall (sp : Sp) (dvs : List V) (E : XK) (Q : VK) (vs : List V) (H : Hp) : Prop := sp (vs ++ dvs) H Q E
def kPart (Q : Option Int → Hp → Prop) (x : V) (H : Hp) : Prop := ∃ i, x = .int i ∧ Q (some i) H
def kBM (K : PySem.W.Frag) (T : String) (r : V → List V → Hp → VK → Prop) (t : TA) (σ : L2.St) (Q : VK) (x : V) (H : Hp) : Prop := tyV K T x H ∧ t σ H fun xs H2 => r x xs H2 Q
section
variable {K : PySem.W.Frag} {K0 H H' : Hp} {L : Ow} {σ : L2.St} {n : L2.St → Hp → Prop} {r : VK} {bk ct : L2.St → Hp → Prop} {t u : TS} {te tu tv : TE} {ta tr : TA} {tt tw : TT} {Q : VK} {QT : Bool → Hp → Prop} {QA : List V → Hp → Prop} {QO : Option Int → Hp → Prop} {QG : L2.St → Hp → Prop}
  {v x y : V} {xs vs : List V} {i : Nat} {a p : Addr} {o : HO} {f : HO → Ow} {b : Bool} {g : TG} {gs : TGs} {rr : R2} {E : XK} {sp : Sp}
theorem g_seq (h : t ⟨u ⟨n, r, bk, ct⟩, r, bk, ct⟩ σ H) : tSeq t u ⟨n, r, bk, ct⟩ σ H := h
theorem g_next (h : n σ H) : tNext ⟨n, r, bk, ct⟩ σ H := h
theorem g_break (h : bk σ H) : tBreak ⟨n, r, bk, ct⟩ σ H := h
theorem g_cont (h : ct σ H) : tCont ⟨n, r, bk, ct⟩ σ H := h
theorem g_ret (h : te σ H r) : tRet te ⟨n, r, bk, ct⟩ σ H := h
theorem g_retN (h : r .non H) : tRetN ⟨n, r, bk, ct⟩ σ H := h
theorem g_drop (h : te σ H fun _ H1 => n σ H1) : tDrop te ⟨n, r, bk, ct⟩ σ H := h
theorem g_asg (h : te σ H fun x H1 => g x σ H1 n) : tAsg te g ⟨n, r, bk, ct⟩ σ H := h
theorem g_name (h : QG (σ.set i (some v)) H) : gName i v σ H QG := h
theorem g_ifS (h : tt σ H (kIfS t u ⟨n, r, bk, ct⟩ σ)) : tIfS tt t u ⟨n, r, bk, ct⟩ σ H := h
theorem g_ifT (e : b = true) (h : t ⟨n, r, bk, ct⟩ σ H) : kIfS t u ⟨n, r, bk, ct⟩ σ b H := by
  show (if b = true then _ else _)
  rw [if_pos e]; exact h
theorem g_ifF (e : b = false) (h : u ⟨n, r, bk, ct⟩ σ H) : kIfS t u ⟨n, r, bk, ct⟩ σ b H := by
  show (if b = true then _ else _)
  rw [if_neg (by rw [e]; decide)]; exact h
theorem g_ifB (h1 : b = true → t ⟨n, r, bk, ct⟩ σ H) (h2 : b = false → u ⟨n, r, bk, ct⟩ σ H) : kIfS t u ⟨n, r, bk, ct⟩ σ b H := by
  cases b with
  | true => exact g_ifT rfl (h1 rfl)
  | false => exact g_ifF rfl (h2 rfl)
theorem g_ifD {c : Prop} [Decidable c] (h1 : c → t ⟨n, r, bk, ct⟩ σ H) (h2 : ¬ c → u ⟨n, r, bk, ct⟩ σ H) : kIfS t u ⟨n, r, bk, ct⟩ σ (decide c) H :=
  g_ifB (fun e => h1 (of_decide_eq_true e)) fun e => h2 (of_decide_eq_false e)
theorem g_ifN {c : Prop} [Decidable c] (h1 : ¬ c → t ⟨n, r, bk, ct⟩ σ H) (h2 : c → u ⟨n, r, bk, ct⟩ σ H) : kIfS t u ⟨n, r, bk, ct⟩ σ (!decide c) H := by
  by_cases h : c
  · exact g_ifF (by simp [h]) (h2 h)
  · exact g_ifT (by simp [h]) (h1 h)
theorem g_test (h : te σ H (kTest QT)) : tTest te σ H QT := h
theorem g_B (h : te σ H (kTest QT)) : tB te σ H QT := h
theorem g_kTest (h : QT b H) : kTest QT (.bl b) H := ⟨b, rfl, h⟩
theorem g_and (h : tt σ H (kAndT tw σ QT)) : tAnd tt tw σ H QT := h
theorem g_or (h : tt σ H (kOrT tw σ QT)) : tOr tt tw σ H QT := h
theorem g_not (h : tt σ H fun c H1 => QT (!c) H1) : tNot tt σ H QT := h
theorem g_andT (e : b = true) (h : tw σ H QT) : kAndT tw σ QT b H := by
  show (if b = true then _ else _)
  rw [if_pos e]; exact h
theorem g_andF (e : b = false) (h : QT false H) : kAndT tw σ QT b H := by
  show (if b = true then _ else _)
  rw [if_neg (by rw [e]; decide)]; exact h
theorem g_andB (h1 : b = true → tw σ H QT) (h2 : b = false → QT false H) : kAndT tw σ QT b H := by
  cases b with
  | true => exact g_andT rfl (h1 rfl)
  | false => exact g_andF rfl (h2 rfl)
theorem g_orT (e : b = true) (h : QT true H) : kOrT tw σ QT b H := by
  show (if b = true then _ else _)
  rw [if_pos e]; exact h
theorem g_orF (e : b = false) (h : tw σ H QT) : kOrT tw σ QT b H := by
  show (if b = true then _ else _)
  rw [if_neg (by rw [e]; decide)]; exact h
theorem g_orB (h1 : b = true → QT true H) (h2 : b = false → tw σ H QT) : kOrT tw σ QT b H := by
  cases b with
  | true => exact g_orT rfl (h1 rfl)
  | false => exact g_orF rfl (h2 rfl)
theorem g_if (h : tt σ H (kIfE te tu σ Q)) : tIf tt te tu σ H Q := h
theorem g_ifET (e : b = true) (h : te σ H Q) : kIfE te tu σ Q b H := by
  show (if b = true then _ else _)
  rw [if_pos e]; exact h
theorem g_ifEF (e : b = false) (h : tu σ H Q) : kIfE te tu σ Q b H := by
  show (if b = true then _ else _)
  rw [if_neg (by rw [e]; decide)]; exact h
theorem g_ifEB (h1 : b = true → te σ H Q) (h2 : b = false → tu σ H Q) : kIfE te tu σ Q b H := by
  cases b with
  | true => exact g_ifET rfl (h1 rfl)
  | false => exact g_ifEF rfl (h2 rfl)
theorem g_andV (h : te σ H (kAndV tu σ Q)) : tAndV te tu σ H Q := h
theorem g_orV (h : te σ H (kOrV tu σ Q)) : tOrV te tu σ H Q := h
theorem g_notV (h : te σ H (kNotV Q)) : tNotV te σ H Q := h
theorem g_kNotV (h : Q (.bl (!b)) H) : kNotV Q (.bl b) H := ⟨b, rfl, h⟩
theorem g_kAndVT (e : b = true) (h : tu σ H Q) : kAndV tu σ Q (.bl b) H := ⟨b, rfl, by rw [if_pos e]; exact h⟩
theorem g_kAndVF (e : b = false) (h : Q (.bl false) H) : kAndV tu σ Q (.bl b) H := ⟨b, rfl, by rw [if_neg (by rw [e]; decide)]; exact h⟩
theorem g_kAndVB (h1 : b = true → tu σ H Q) (h2 : b = false → Q (.bl false) H) : kAndV tu σ Q (.bl b) H := by
  cases b with
  | true => exact g_kAndVT rfl (h1 rfl)
  | false => exact g_kAndVF rfl (h2 rfl)
theorem g_kOrVT (e : b = true) (h : Q (.bl true) H) : kOrV tu σ Q (.bl b) H := ⟨b, rfl, by rw [if_pos e]; exact h⟩
theorem g_kOrVF (e : b = false) (h : tu σ H Q) : kOrV tu σ Q (.bl b) H := ⟨b, rfl, by rw [if_neg (by rw [e]; decide)]; exact h⟩
theorem g_kOrVB (h1 : b = true → Q (.bl true) H) (h2 : b = false → tu σ H Q) : kOrV tu σ Q (.bl b) H := by
  cases b with
  | true => exact g_kOrVT rfl (h1 rfl)
  | false => exact g_kOrVF rfl (h2 rfl)
theorem g_var (e : σ[i]? = some (some v)) (h : Q v H) : tVar i σ H Q := ⟨v, e, h⟩
theorem g_c (h : Q v H) : tC v σ H Q := h
theorem g_op (h : te σ H fun x H1 => tu σ H1 fun y H2 => rr x y H2 Q) : tOp rr te tu σ H Q := h
theorem g_un {r1 : V → Hp → VK → Prop} (h : te σ H fun x H1 => r1 x H1 Q) : tUn r1 te σ H Q := h
theorem g_nil (h : QA [] H) : tNil σ H QA := h
theorem g_cons (h : te σ H fun x H1 => tr σ H1 fun xs H2 => QA (x :: xs) H2) : tCons te tr σ H QA := h
theorem g_lst (h : ta σ H (kLst Q)) : tLst ta σ H Q := h
theorem g_tup (h : ta σ H (kTup Q)) : tTup ta σ H Q := h
theorem g_kLst (w : Own K0 L H) (hl : Nat.ble xs.length 16777216 = true) (k : ∀ p H', Own K0 ((p, .lst xs) :: L) H' → Q (.ref p) H') : kLst Q xs H :=
  ⟨by rw [sizeLine_eq]; exact Nat.le_of_ble_eq_true hl, fun p hp => k p _ (w.new hp _)⟩
theorem g_kTup (w : Own K0 L H) (hl : Nat.ble xs.length 16777216 = true) (k : ∀ p H', Own K0 ((p, .tup xs) :: L) H' → Q (.ref p) H') : kTup Q xs H :=
  ⟨by rw [sizeLine_eq]; exact Nat.le_of_ble_eq_true hl, fun p hp => k p _ (w.new hp _)⟩
theorem g_cb {rc : List V → Hp → VK → Prop} (h : ta σ H fun vs H1 => rc vs H1 Q) : tCB rc ta σ H Q := h
theorem g_call {dvs : List V} (h : ta σ H (kCall sp dvs E Q)) : tCall sp dvs E ta σ H Q := h
theorem g_kCall (h : sp vs H Q E) : kCall sp [] E Q vs H := by
  show sp (vs ++ []) H Q E
  rw [List.append_nil]; exact h
theorem g_noPart (h : QO none H) : tNoPart σ H QO := h
theorem g_part (h : te σ H (kPart QO)) : tPart te σ H QO := h
theorem g_kPart {j : Int} (h : QO (some j) H) : kPart QO (.int j) H := ⟨j, rfl, h⟩
theorem g_bm {T : String} {rm : V → List V → Hp → VK → Prop} (h : te σ H (kBM K T rm ta σ Q)) : tBM K T rm te ta σ H Q := h
theorem g_kBMs {rm : V → List V → Hp → VK → Prop} {z : Str} (h : ta σ H fun xs H2 => rm (.str z) xs H2 Q) : kBM K "str" rm ta σ Q (.str z) H := ⟨rfl, h⟩
theorem g_kBMl {rm : V → List V → Hp → VK → Prop} (hs : SqL K H p xs) (h : ta σ H fun ys H2 => rm (.ref p) ys H2 Q) : kBM K "list" rm ta σ Q (.ref p) H := ⟨.inl ⟨rfl, _, hs⟩, h⟩
end

section
variable {K : PySem.W.Frag} {K0 H H' : Hp} {L : Ow} {σ : L2.St} {Q : VK} {v x y : V} {xs ys vs : List V} {a p q : Addr} {o : HO} {f : HO → Ow} {b : Bool} {i j : Int} {A B : Str}
theorem len_le {n : Nat} (h : n ≤ 1000000) : n ≤ sizeLine := by rw [sizeLine_eq]; omega
theorem len_lt {n : Nat} (h : n ≤ 1000000) : n < sizeLine := by rw [sizeLine_eq]; omega
theorem g_addI (h : Q (.int (i + j)) H) : kAdd K (.int i) (.int j) H Q := h
theorem g_addS (hl : A.length + B.length ≤ 1000000) (h : Q (.str (A ++ B)) H) : kAdd K (.str A) (.str B) H Q := ⟨len_le hl, h⟩
theorem g_addL (w : Own K0 L H) (h1 : H p = some (.lst xs)) (h2 : H q = some (.lst ys)) (hl : xs.length + ys.length ≤ 1000000) (k : ∀ l H', Own K0 ((l, .lst (xs ++ ys)) :: L) H' → Q (.ref l) H') : kAdd K (.ref p) (.ref q) H Q :=
  .inl ⟨p, q, xs, ys, rfl, rfl, h1, h2, len_le hl, fun l hl => k l _ (w.new hl _)⟩
theorem g_subI (h : Q (.int (i - j)) H) : kSub (.int i) (.int j) H Q := ⟨i, j, rfl, rfl, h⟩
theorem g_mulI (hc : CMul i j) (h : Q (.int (i * j)) H) : kMul (.int i) (.int j) H Q := ⟨hc, h⟩
theorem g_mulL (w : Own K0 L H) (h1 : H p = some (.lst xs)) (hk : -(2 ^ 63) ≤ i ∧ i < 2 ^ 63) (hl : xs.length * i.toNat ≤ 1000000) (k : ∀ l H', Own K0 ((l, .lst (List.replicate i.toNat xs).flatten) :: L) H' → Q (.ref l) H') : kMul (.ref p) (.int i) H Q :=
  ⟨p, i, xs, rfl, rfl, h1, hk.1, hk.2, len_le hl, fun l hl => k l _ (w.new hl _)⟩
theorem g_divI (hc : 0 < j ∧ j < 1073741824) (h : Q (.int (i / j)) H) : kDiv (.int i) (.int j) H Q := ⟨i, j, rfl, rfl, hc, h⟩
theorem g_modI (hc : 0 < j) (h : Q (.int (i % j)) H) : kMod (.int i) (.int j) H Q := ⟨i, j, rfl, rfl, hc, h⟩
theorem g_powI (hc : 0 ≤ j ∧ j ≤ 1000000 ∧ i.natAbs < 2 ^ 64) (h : Q (.int (i ^ j.toNat)) H) : kPow (.int i) (.int j) H Q := ⟨i, j, rfl, rfl, hc, h⟩
theorem g_ltI (h : Q (.bl (decide (i < j))) H) : kLt (.int i) (.int j) H Q := ⟨i, j, rfl, rfl, h⟩
theorem g_leI (h : Q (.bl (decide (i ≤ j))) H) : kLe (.int i) (.int j) H Q := ⟨i, j, rfl, rfl, h⟩
theorem g_gtI (h : Q (.bl (decide (j < i))) H) : kGt (.int i) (.int j) H Q := ⟨i, j, rfl, rfl, h⟩
theorem g_geI (h : Q (.bl (decide (j ≤ i))) H) : kGe (.int i) (.int j) H Q := ⟨i, j, rfl, rfl, h⟩
theorem decV_int : decide (V.int i = V.int j) = decide (i = j) := by simp
theorem decV_str : decide (V.str A = V.str B) = decide (A = B) := by simp
theorem decV_bl {c d : Bool} : decide (V.bl c = V.bl d) = decide (c = d) := by simp
theorem g_eqI (h : Q (.bl (decide (i = j))) H) : kEq K (.int i) (.int j) H Q := .inl ⟨rfl, by rw [decV_int]; exact h⟩
theorem g_eqS (h : Q (.bl (decide (A = B))) H) : kEq K (.str A) (.str B) H Q := .inl ⟨rfl, by rw [decV_str]; exact h⟩
theorem g_eqB {c d : Bool} (h : Q (.bl (decide (c = d))) H) : kEq K (.bl c) (.bl d) H Q := .inl ⟨rfl, by rw [decV_bl]; exact h⟩
theorem g_neI (h : Q (.bl (!decide (i = j))) H) : kNe K (.int i) (.int j) H Q := .inl ⟨rfl, by rw [decV_int]; exact h⟩
theorem g_neS (h : Q (.bl (!decide (A = B))) H) : kNe K (.str A) (.str B) H Q := .inl ⟨rfl, by rw [decV_str]; exact h⟩
theorem g_neB {c d : Bool} (h : Q (.bl (!decide (c = d))) H) : kNe K (.bl c) (.bl d) H Q := .inl ⟨rfl, by rw [decV_bl]; exact h⟩
theorem g_eqD {d e : PyData} (hd : Dp K H x d) (he : Dp K H y e) (sd : SeqAt.shaped d = true) (se : SeqAt.shaped e = true) (h : Q (.bl (PyData.eqv d e)) H) : kEq K x y H Q := .inr ⟨d, e, hd, he, sd, se, h⟩
theorem g_neD {d e : PyData} (hd : Dp K H x d) (he : Dp K H y e) (sd : SeqAt.shaped d = true) (se : SeqAt.shaped e = true) (h : Q (.bl (!PyData.eqv d e)) H) : kNe K x y H Q := .inr ⟨d, e, hd, he, sd, se, h⟩
theorem g_ixL (hs : SqL K H p xs) (ha : atI xs i = some v) (h : Q v H) : kIx K (.ref p) (.int i) H Q := .inl ⟨p, xs, i, v, rfl, rfl, hs, ha, h⟩
theorem g_ixT (hs : SqT K H p xs) (ha : atI xs i = some v) (h : Q v H) : kIx K (.ref p) (.int i) H Q := .inr (.inl ⟨p, xs, i, v, rfl, rfl, hs, ha, h⟩)
theorem g_ixL' (hs : SqL K H p xs) (h : ∃ v, atI xs i = some v ∧ Q v H) : kIx K (.ref p) (.int i) H Q := let ⟨v, a, b⟩ := h; g_ixL hs a b
theorem g_ixT' (hs : SqT K H p xs) (h : ∃ v, atI xs i = some v ∧ Q v H) : kIx K (.ref p) (.int i) H Q := let ⟨v, a, b⟩ := h; g_ixT hs a b
theorem g_setL {ta ti : TE} {g : L2.St → Hp → Prop} (h : ta σ H fun o H1 => ti σ H1 fun i H2 => rSetL o i v H2 fun H3 => g σ H3) : gSub ta ti rSetL v σ H g := h
theorem g_rSetL {g : Hp → Prop} {j : Nat} (w : Own K0 L H) (s : Sel L p (.lst xs) f) (hi : ixN xs.length i = some j) (k : ∀ H', Own K0 (f (.lst (xs.set j v))) H' → g H') : rSetL (.ref p) (.int i) v H g :=
  ⟨p, xs, i, j, rfl, rfl, w.at_ s, hi, k _ (w.put s _)⟩
theorem g_abs (h : Q (.int (if i < 0 then -i else i)) H) : kAbs [.int i] H Q := ⟨i, rfl, h⟩
theorem g_int (h : Q (.int i) H) : kInt [.int i] H Q := h
theorem g_min2 (h : Q (.int (if j < i then j else i)) H) : kMin2 [.int i, .int j] H Q := ⟨i, j, rfl, h⟩
theorem g_max2 (h : Q (.int (if j > i then j else i)) H) : kMax2 [.int i, .int j] H Q := ⟨i, j, rfl, h⟩
theorem g_lenS (hl : A.length ≤ 1000000) (h : Q (.int A.length) H) : kLen K [.str A] H Q := ⟨len_le hl, h⟩
theorem g_lenL (hs : SqL K H p xs) (h : Q (.int xs.length) H) : kLen K [.ref p] H Q := ⟨xs, .inl hs, h⟩
theorem g_lenT (hs : SqT K H p xs) (h : Q (.int xs.length) H) : kLen K [.ref p] H Q := ⟨xs, .inr hs, h⟩
theorem g_listL (w : Own K0 L H) (hs : SqL K H p xs) (k : ∀ l H', Own K0 ((l, .lst xs) :: L) H' → Q (.ref l) H') : kList K [.ref p] H Q := ⟨p, xs, rfl, .inl hs, fun l hl => k l _ (w.new hl _)⟩
theorem g_listT (w : Own K0 L H) (hs : SqT K H p xs) (k : ∀ l H', Own K0 ((l, .lst xs) :: L) H' → Q (.ref l) H') : kList K [.ref p] H Q := ⟨p, xs, rfl, .inr hs, fun l hl => k l _ (w.new hl _)⟩
theorem g_tupleL (w : Own K0 L H) (hs : SqL K H p xs) (k : ∀ l H', Own K0 ((l, .tup xs) :: L) H' → Q (.ref l) H') : kTuple K [.ref p] H Q := ⟨p, xs, rfl, .inl ⟨hs, fun l hl => k l _ (w.new hl _)⟩⟩
theorem g_any {bs : List Bool} (hs : SqL K H p (bs.map V.bl)) (h : Q (.bl (bs.any id)) H) : rAny K [.ref p] H Q := ⟨p, bs, rfl, hs, h⟩
theorem g_all {bs : List Bool} (hs : SqL K H p (bs.map V.bl)) (h : Q (.bl (bs.all id)) H) : rAll K [.ref p] H Q := ⟨p, bs, rfl, hs, h⟩
theorem g_starts (h : Q (.bl (Txt.startswith A B)) H) : kStarts (.str A) [.str B] H Q := ⟨A, B, rfl, rfl, h⟩
theorem g_append (w : Own K0 L H) (s : Sel L p (.lst xs) f) (hl : xs.length ≤ 1000000) (k : ∀ H', Own K0 (f (.lst (xs ++ [v]))) H' → Q .non H') : rAppend (.ref p) [v] H Q :=
  ⟨p, xs, v, rfl, rfl, w.at_ s, len_lt hl, k _ (w.put s _)⟩
theorem g_sl {rs : V → Option Int → Option Int → Hp → VK → Prop} {te : TE} {tl th : TO} (h : te σ H fun x H1 => tl σ H1 fun l H2 => th σ H2 fun u H3 => rs x l u H3 Q) : tSl rs te tl th σ H Q := h
theorem g_slL {l u : Option Int} (w : Own K0 L H) (hs : SqL K H p xs) (k : ∀ q H', Own K0 ((q, .lst (cutV xs l u)) :: L) H' → Q (.ref q) H') : rSlL K (.ref p) l u H Q := ⟨p, xs, rfl, hs, fun q hq => k q _ (w.new hq _)⟩
theorem g_slS {l u : Option Int} (hl : A.length ≤ 1000000) (h : Q (.str (cutS A l u)) H) : rSlS (.str A) l u H Q := ⟨A, rfl, len_le hl, h⟩
theorem Own.sqL (w : Own K0 L H) (h : SqL K K0 p xs) : SqL K H p xs := w.pers.seq h
theorem Own.sqT (w : Own K0 L H) (h : SqT K K0 p xs) : SqT K H p xs := sqT_mono w.pers h
theorem Own.dp {d : PyData} (w : Own K0 L H) (h : Dp K K0 x d) : Dp K H x d := dp_mono w.pers h
end

/-! ## defs and their calls -/
def IsFd (K : PySem.W.Frag) (f : Addr) (fd : FuncData) : Prop := ∃ (oc : Value) (od : Option Addr) (osl : Array (Option Value)), K.lookup f = some ⟨oc, od, .func fd, osl⟩
theorem IsFd.inj {K : PySem.W.Frag} {f : Addr} {fd fd' : FuncData} (a : IsFd K f fd) (b : IsFd K f fd') : fd = fd' := by
  obtain ⟨_, _, _, a⟩ := a
  obtain ⟨_, _, _, b⟩ := b
  rw [a] at b
  cases b
  rfl
theorem isFd_of {K : PySem.W.Frag} {x qual : Str} {params : Arguments} {body : List Stmt} {scope : Scope} {dvs : List V} {kws : List (Str × V)} {f : Addr} {fd : FuncData} (F : FunD K x qual params body scope dvs kws f fd) : IsFd K f fd := by
  obtain ⟨oc, od, dV, kV, doc, pm, an, cdv, ct, osl, rfl, lk, _⟩ := F.ex
  exact ⟨oc, od, osl, lk⟩
section
variable (P : Program) (w : World) (K : PySem.W.Frag) (mg : Str → Option Value) (base : Heap)
structure OkD (CX : CXT) (k : Nat) (f : Addr) (ps : List Str) (sp : Sp) : Prop where
  fn : ∃ fd, FnOk P w K mg base CX k f fd ps sp ∧ Binds K fd ps [] ∧ IsFd K f fd
  kp : PySem.W.keepIn K (.ref f) = true
structure OkM (CX : CXT) (k : Nat) (f : Addr) (ps : List Str) (sp : Sp) : Prop where
  fn : ∃ fd, FnOk P w K mg base CX k f fd ps sp ∧ IsFd K f fd
  kp : PySem.W.keepIn K (.ref f) = true
end
/-- how a call of so many values and these keywords binds -/
def KB (K : PySem.W.Frag) (f : Addr) (ps : List Str) (n : Nat) (ks : List Str) (gV : List V → List V → List V) : Prop := ∃ fd g, IsFd K f fd ∧ KBn K fd ps n ks g gV
section
variable {X : Cx} {CX : CXT} {k n : Nat} {f : Addr} {ps ks : List Str} {sp : Sp} {E : XK} {x : Str} {p pos : Pos} {e : Expr} {es : List Expr} {kws : List Keyword} {t tk : TA} {gV : List V → List V → List V}
theorem pe_callD (D : OkD X.prog X.w X.K X.mg X.base CX k f ps sp) (hr : Room k X.A) (hg : Gl X x) (hm : X.mg x = some (.ref f)) (hx : Passes CX X E)
    (ha : PA X (e :: es) t) (hdb : (x == ("__debug__" : Str)) = false := by decide) (he : starEach (e :: es) X.env = (false, eval e X.env) :: starEach es X.env := by rfl) (hpl : (backTo pos (starEach es X.env)).any (·.1) = false := by rfl) :
    PE X (.Call (.Name x p) (e :: es) [] pos) (tCall sp [] E t) := by
  obtain ⟨⟨fd, F, b, _⟩, kp⟩ := D
  exact pe_call F hr hg hm kp b .nil hx ha hdb he hpl
theorem pe_callD0 (D : OkD X.prog X.w X.K X.mg X.base CX k f ps sp) (hr : Room k X.A) (hg : Gl X x) (hm : X.mg x = some (.ref f)) (hx : Passes CX X E) (hdb : (x == ("__debug__" : Str)) = false := by decide) :
    PE X (.Call (.Name x p) [] [] pos) (tCall sp [] E tNil) := by
  obtain ⟨⟨fd, F, b, _⟩, kp⟩ := D
  exact pe_call0 F hr hg hm kp b .nil hx hdb
theorem pe_callM (b : KB X.K f ps n ks gV) (D : OkM X.prog X.w X.K X.mg X.base CX k f ps sp) (hr : Room k X.A) (hg : Gl X x) (hm : X.mg x = some (.ref f)) (hx : Passes CX X E)
    (ha : PA X (e :: es) t) (hkw : PK X kws tk) (hall : (backToKw pos (keywordEach kws X.env)).all (·.1.isSome) = true := by rfl) (hks : (backToKw pos (keywordEach kws X.env)).filterMap (·.1) = ks := by rfl)
    (hdb : (x == ("__debug__" : Str)) = false := by decide) (he : starEach (e :: es) X.env = (false, eval e X.env) :: starEach es X.env := by rfl)
    (hpl : ((backTo pos (starEach (e :: es) X.env)).any (·.1) || (backToKw pos (keywordEach kws X.env)).any (·.1.isNone)) = false := by rfl) :
    PE X (.Call (.Name x p) (e :: es) kws pos) (tCallN n ks.length sp gV E t tk) := by
  obtain ⟨⟨fd, F, i⟩, kp⟩ := D
  obtain ⟨fd', g, i', b⟩ := b
  cases i.inj i'
  exact pe_callN F hr hg hm kp b hx ha hkw hall hks hdb he hpl
end
/-- promises by the number of what is handed in -/
abbrev Sp1 (s : V → Hp → VK → XK → Prop) : Sp := fun vs H Q E => match vs with | [a] => s a H Q E | _ => False
abbrev Sp2 (s : V → V → Hp → VK → XK → Prop) : Sp := fun vs H Q E => match vs with | [a, b] => s a b H Q E | _ => False
abbrev Sp3 (s : V → V → V → Hp → VK → XK → Prop) : Sp := fun vs H Q E => match vs with | [a, b, c] => s a b c H Q E | _ => False
abbrev Sp4 (s : V → V → V → V → Hp → VK → XK → Prop) : Sp := fun vs H Q E => match vs with | [a, b, c, d] => s a b c d H Q E | _ => False
abbrev Sp5 (s : V → V → V → V → V → Hp → VK → XK → Prop) : Sp := fun vs H Q E => match vs with | [a, b, c, d, e] => s a b c d e H Q E | _ => False
section
variable {vs : List V} {H : Hp} {Q : VK} {E : XK}
theorem len1 {s} (h : Sp1 s vs H Q E) : vs.length = 1 := by unfold Sp1 at h; split at h; rfl; exact h.elim
theorem len2 {s} (h : Sp2 s vs H Q E) : vs.length = 2 := by unfold Sp2 at h; split at h; rfl; exact h.elim
theorem len3 {s} (h : Sp3 s vs H Q E) : vs.length = 3 := by unfold Sp3 at h; split at h; rfl; exact h.elim
theorem len4 {s} (h : Sp4 s vs H Q E) : vs.length = 4 := by unfold Sp4 at h; split at h; rfl; exact h.elim
theorem len5 {s} (h : Sp5 s vs H Q E) : vs.length = 5 := by unfold Sp5 at h; split at h; rfl; exact h.elim
theorem sp1 {s} (h : Sp1 s vs H Q E) : ∃ a, vs = [a] ∧ s a H Q E := by unfold Sp1 at h; split at h; exact ⟨_, rfl, h⟩; exact h.elim
theorem sp2 {s} (h : Sp2 s vs H Q E) : ∃ a b, vs = [a, b] ∧ s a b H Q E := by unfold Sp2 at h; split at h; exact ⟨_, _, rfl, h⟩; exact h.elim
theorem sp3 {s} (h : Sp3 s vs H Q E) : ∃ a b c, vs = [a, b, c] ∧ s a b c H Q E := by unfold Sp3 at h; split at h; exact ⟨_, _, _, rfl, h⟩; exact h.elim
theorem sp4 {s} (h : Sp4 s vs H Q E) : ∃ a b c d, vs = [a, b, c, d] ∧ s a b c d H Q E := by unfold Sp4 at h; split at h; exact ⟨_, _, _, _, rfl, h⟩; exact h.elim
theorem sp5 {s} (h : Sp5 s vs H Q E) : ∃ a b c d e, vs = [a, b, c, d, e] ∧ s a b c d e H Q E := by unfold Sp5 at h; split at h; exact ⟨_, _, _, _, _, rfl, h⟩; exact h.elim
end
def kCallN (n m : Nat) (sp : Sp) (gV : List V → List V → List V) (E : XK) (Q : VK) (vs zs : List V) (H : Hp) : Prop := vs.length = n ∧ zs.length = m ∧ sp (gV vs zs) H Q E
theorem g_callN {n m : Nat} {sp : Sp} {gV : List V → List V → List V} {E : XK} {t tk : TA} {σ : L2.St} {H : Hp} {Q : VK} (h : t σ H fun vs H1 => tk σ H1 fun zs H2 => kCallN n m sp gV E Q vs zs H2) : tCallN n m sp gV E t tk σ H Q := h
theorem g_kCallN {n m : Nat} {sp : Sp} {gV : List V → List V → List V} {E : XK} {H : Hp} {Q : VK} {vs zs : List V} (h1 : vs.length = n) (h2 : zs.length = m) (h : sp (gV vs zs) H Q E) : kCallN n m sp gV E Q vs zs H := ⟨h1, h2, h⟩
def kNeg : V → Hp → VK → Prop := rU fun i => .int (-i)

/-! ## the head's facts -/
/-- the keyword default y of the def at f, if it is an object -/
def kwAt (f : Str × Option Str) (y : Str) (K : PySem.W.Frag) : Addr := match K.lookup (He.fAd K f) with
  | some ⟨_, _, .func fd, _⟩ => (match fd.kwdefaults with
    | .ref D => (match PySem.W.nsIn K D y with
      | some (some (.ref a)) => a
      | _ => 0)
    | _ => 0)
  | _ => 0
inductive Fa where
  | he (f : He.Fa)
  | tup (x : Str) (vs : List He.Dv)
  | lst (x : Str) (vs : List He.Dv)
  | kwt (f : Str × Option Str) (y : Str) (vs : List He.Dv)
  | chk (f : PySem.W.Frag → Bool)
def tupAt (K : PySem.W.Frag) (a : Addr) (vs : List He.Dv) : Bool := match K.lookup a with
  | some ⟨.type c, _, .seq its _, _⟩ => decide (c = "tuple") && (decide (its.size ≤ sizeLine) && He.relAll (vs.map (He.Dv.v K)) its.toList)
  | _ => false
theorem tupAt_ok {K : PySem.W.Frag} {a : Addr} {vs : List He.Dv} (h : tupAt K a vs = true) (H : Hp) : SqT K H a (vs.map (He.Dv.v K)) := by
  unfold tupAt at h
  split at h
  · rename_i c od its n sl q
    obtain ⟨h1, h2⟩ := He.ba h
    obtain ⟨h3, h4⟩ := He.ba h2
    exact .inr ⟨_, its, n, q, congrArg Value.type (of_decide_eq_true h1), rfl, of_decide_eq_true h3, He.relAll_ok h4⟩
  · cases h
def Fa.ok (K : PySem.W.Frag) : Fa → Bool
  | .he f => f.ok K
  | .tup x vs => tupAt K (He.ga K x) vs
  | .lst x vs => He.lstB K x vs
  | .kwt f y vs => tupAt K (kwAt f y K) vs
  | .chk f => f K
def obsW (fa : List Fa) (fn : List He.DefD) (K : PySem.W.Frag) : He.AlD := ((fa.all fun f => f.ok K) && fn.all fun d => d.ok K, fn.map fun d => He.fnW K d.at_)
def SaysW (fa : List Fa) (fn : List He.DefD) (K : PySem.W.Frag) : Prop := obsW fa fn K = He.valD fn
def obsWG (n : Nat) (fa : List Fa) (fn : List He.DefD) (g : Addr → Option Obj) : He.AlD := obsW fa fn (He.frG g (He.asD g n))
def hookW (n : Nat) (fa : List Fa) (fn : List He.DefD) : PySem.W.Hook where
  α := He.AlD
  obs := fun s => obsWG n fa fn s.heap.get?
  val := fun _ => He.valD fn
  says := fun _ h => ∃ K : PySem.W.Frag, K.In h ∧ SaysW fa fn K
  of := fun _ _ e => ⟨_, He.frG_in, e⟩
  keeps := fun _ _ _ ⟨K, hK, c⟩ k => ⟨K, PySem.W.Frag.In.keeps hK k, c⟩
theorem obsWG_eq {n : Nat} {fa : List Fa} {fn : List He.DefD} {g : Addr → Option Obj} {s : Shared} (h : ∀ a, g a = s.heap.get? a) : obsWG n fa fn g = (hookW n fa fn).obs s := by
  have e : g = s.heap.get? := funext h
  rw [e]; rfl
section
variable {fa : List Fa} {fn : List He.DefD} {K : PySem.W.Frag}
theorem SaysW.one (c : SaysW fa fn K) {f : Fa} (h : f ∈ fa) : f.ok K = true := by
  have c1 := (He.ba (show ((fa.all fun f => f.ok K) && fn.all fun d => d.ok K) = true from congrArg (fun z : He.AlD => z.1) c)).1
  exact List.all_eq_true.mp c1 f h
theorem SaysW.fact (c : SaysW fa fn K) (i : Nat) {f : He.Fa} (h : fa[i]? = some (.he f)) : f.ok K = true := c.one (List.mem_of_getElem? h)
theorem SaysW.chk (c : SaysW fa fn K) (i : Nat) {f : PySem.W.Frag → Bool} (h : fa[i]? = some (.chk f)) : f K = true := c.one (List.mem_of_getElem? h)
theorem SaysW.tup (c : SaysW fa fn K) (i : Nat) {x : Str} {vs : List He.Dv} (h : fa[i]? = some (.tup x vs)) (H : Hp) : SqT K H (He.ga K x) (vs.map (He.Dv.v K)) := tupAt_ok (c.one (List.mem_of_getElem? h)) H
theorem SaysW.kwt (c : SaysW fa fn K) (i : Nat) {f : Str × Option Str} {y : Str} {vs : List He.Dv} (h : fa[i]? = some (.kwt f y vs)) (H : Hp) : SqT K H (kwAt f y K) (vs.map (He.Dv.v K)) := tupAt_ok (c.one (List.mem_of_getElem? h)) H
theorem SaysW.def_ (c : SaysW fa fn K) (i : Nat) {d : He.DefD} (h : fn[i]? = some d) : ∃ fd, FunD K d.name d.qual d.params d.body d.scope (d.dvs K) (d.kws K) (He.fAd K d.at_) fd := by
  have c2 := (He.ba (show ((fa.all fun f => f.ok K) && fn.all fun d => d.ok K) = true from congrArg (fun z : He.AlD => z.1) c)).2
  have e : fn.map (fun d => He.fnW K d.at_) = fn.map He.DefD.val := congrArg (fun z : He.AlD => z.2) c
  have e2 : (fn.map fun d => He.fnW K d.at_)[i]? = (fn.map He.DefD.val)[i]? := by rw [e]
  rw [List.getElem?_map, List.getElem?_map, h] at e2
  exact He.DefD.funD (Option.some.inj e2) (List.all_eq_true.mp c2 d (List.mem_of_getElem? h))
end

section
variable {K0 H : Hp} {L : Ow} {a : Addr} {o z : HO} {f : HO → Ow} {σ : L2.St} {Q : VK} {QT : Bool → Hp → Prop} {b c : Bool} {tu : TE} {tw : TT}
theorem Sel.again (s : Sel L a o f) (z : HO) : Sel (f z) a z f := by
  induction s with
  | here => exact .here
  | there _ ih => exact .there ih
theorem g_kAndVP (h : ∀ QQ : VK, QQ (.bl c) H → tu σ H QQ) (hq : Q (.bl (b && c)) H) : kAndV tu σ Q (.bl b) H := by
  cases b with
  | true => exact g_kAndVT rfl (h _ hq)
  | false => exact g_kAndVF rfl hq
theorem g_kOrVP (h : ∀ QQ : VK, QQ (.bl c) H → tu σ H QQ) (hq : Q (.bl (b || c)) H) : kOrV tu σ Q (.bl b) H := by
  cases b with
  | true => exact g_kOrVT rfl hq
  | false => exact g_kOrVF rfl (h _ hq)
theorem g_andP (h : ∀ QQ : Bool → Hp → Prop, QQ c H → tw σ H QQ) (hq : QT (b && c) H) : kAndT tw σ QT b H := by
  cases b with
  | true => exact g_andT rfl (h _ hq)
  | false => exact g_andF rfl hq
theorem g_orP (h : ∀ QQ : Bool → Hp → Prop, QQ c H → tw σ H QQ) (hq : QT (b || c) H) : kOrT tw σ QT b H := by
  cases b with
  | true => exact g_orT rfl hq
  | false => exact g_orF rfl (h _ hq)
end

/-! ## loops and comprehensions, by what is known at each turn -/
/-- the body of a comprehension from an iterator J on -/
def kLc (g : TG) (tt : TT) (te : TE) (vs : List Nat) (σ : L2.St) (Q : VK) (J : It) (H1 : Hp) : Prop := ∀ D, H1 D = none → ∃ W : Nat → Nat → Hp → Prop, (∃ m, W 0 m (upd H1 D (.lst []))) ∧ ∀ i m H, W i m H →
  (J.stop i H ∧ Q (.ref D) H) ∨ (J.go i H ∧ ∃ Nx : Hp → Prop, (∀ H', Nx H' → ∃ m', m' < m ∧ W (i + 1) m' H') ∧ ∀ x H', J.yld i H x H' → g x (wipe σ vs) H' fun σ2 H2 => wipe σ2 vs = wipe σ vs ∧ tt σ2 H2 fun b H3 =>
    if b = true then te σ2 H3 fun y H4 => ∃ acc, H4 D = some (.lst acc) ∧ acc.length < sizeLine ∧ Nx (upd H4 D (.lst (acc ++ [y]))) else Nx H3)
def kLcL (K : PySem.W.Frag) (g : TG) (tt : TT) (te : TE) (vs : List Nat) (σ : L2.St) (Q : VK) (x : V) (H1 : Hp) : Prop := ∃ a, x = .ref a ∧ (∃ xs, SqL K H1 a xs) ∧ kLc g tt te vs σ Q (Itl K a) H1
def kLcT (K : PySem.W.Frag) (g : TG) (tt : TT) (te : TE) (vs : List Nat) (σ : L2.St) (Q : VK) (x : V) (H1 : Hp) : Prop := ∃ a, x = .ref a ∧ (∃ xs, SqT K H1 a xs) ∧ kLc g tt te vs σ Q (Itt K a) H1
def kLcR (g : TG) (tt : TT) (te : TE) (vs : List Nat) (σ : L2.St) (Q : VK) (xs : List V) (H1 : Hp) : Prop := ∃ j : Int, xs = [.int j] ∧ -(2 ^ 62) ≤ j ∧ j < 2 ^ 62 ∧ kLc g tt te vs σ Q (Itr 0 j.toNat) H1
/-- a turn's wish: K0 stays, the new list stands at D -/
def LcInv (K0 : Hp) (Inv : Nat → List V → Hp → Ow → Prop) (D : Addr) (i : Nat) (H : Hp) : Prop := ∃ acc K' L', Same K0 K' ∧ Own K' ((D, .lst acc) :: L') H ∧ acc.length ≤ i ∧ Inv i acc K' L'
/-- the element has come -/
def kEl (K0 : Hp) (Inv : Nat → List V → Hp → Ow → Prop) (D : Addr) (i : Nat) (y : V) (H : Hp) : Prop := ∃ acc, H D = some (.lst acc) ∧ acc.length < sizeLine ∧ LcInv K0 Inv D (i + 1) (upd H D (.lst (acc ++ [y])))
/-- the test has come -/
def kTs (K0 : Hp) (Inv : Nat → List V → Hp → Ow → Prop) (D : Addr) (i : Nat) (te : TE) (σ : L2.St) (b : Bool) (H : Hp) : Prop := if b = true then te σ H (kEl K0 Inv D i) else LcInv K0 Inv D (i + 1) H
/-- the target has been set -/
def kTg (K0 : Hp) (Inv : Nat → List V → Hp → Ow → Prop) (D : Addr) (i : Nat) (tt : TT) (te : TE) (vs : List Nat) (σ0 σ : L2.St) (H : Hp) : Prop := wipe σ vs = wipe σ0 vs ∧ tt σ H (kTs K0 Inv D i te σ)
section
variable {K : PySem.W.Frag} {K0 K1 H H1 : Hp} {L : Ow} {g : TG} {tt : TT} {te tl : TE} {ta : TA} {vs : List Nat} {σ σ0 : L2.St} {Q : VK} {a D : Addr} {xs acc : List V} {Inv : Nat → List V → Hp → Ow → Prop} {i : Nat} {y : V} {b : Bool} {L' : Ow}
theorem g_lcL (h : tl σ H (kLcL K g tt te vs σ Q)) : tLc (iList K tl) g tt te vs σ H Q := h
theorem g_lcT (h : tl σ H (kLcT K g tt te vs σ Q)) : tLc (iTup K tl) g tt te vs σ H Q := h
theorem g_lcR (h : ta σ H (kLcR g tt te vs σ Q)) : tLc (iRng1 ta) g tt te vs σ H Q := h
theorem lc_base {J : It} {n : Nat} (w : Own K0 L H) (Inv : Nat → List V → Hp → Ow → Prop) (h0 : Inv 0 [] K0 L) (x : Nat → V)
    (hstop : ∀ K' L' H', Same K0 K' → Own K' L' H' → J.stop n H') (hgo : ∀ i K' L' H', i < n → Same K0 K' → Own K' L' H' → J.go i H') (hy : ∀ i K' L' H' y H'', i < n → Same K0 K' → Own K' L' H' → J.yld i H' y H'' → H'' = H' ∧ y = x i)
    (hs : ∀ D i acc K' L' H', i < n → acc.length ≤ i → Same K0 K' → Inv i acc K' L' → Own K' ((D, .lst acc) :: L') H' → g (x i) (wipe σ vs) H' (kTg K0 Inv D i tt te vs σ))
    (hd : ∀ D acc K' L' H', acc.length ≤ n → Same K0 K' → Inv n acc K' L' → Own K' ((D, .lst acc) :: L') H' → Q (.ref D) H') : kLc g tt te vs σ Q J H := by
  intro D hD
  refine ⟨fun i m H' => m = n - i ∧ i ≤ n ∧ LcInv K0 Inv D i H', ⟨n, rfl, Nat.zero_le _, [], K0, L, Same.refl _, w.new hD _, Nat.le_refl _, h0⟩, ?_⟩
  rintro i m H' ⟨rfl, hi, acc, K', L', sm, w', hl, hI⟩
  by_cases lt : i < n
  · refine .inr ⟨hgo i K' _ H' lt sm w', LcInv K0 Inv D (i + 1), fun H2 q => ⟨n - (i + 1), by omega, rfl, lt, q⟩, fun z H2 hz => ?_⟩
    obtain ⟨e1, e2⟩ := hy i K' _ H' z H2 lt sm w' hz
    subst e1 e2
    exact hs D i acc K' L' _ lt hl sm hI w'
  · have e : i = n := by omega
    subst e
    exact .inl ⟨hstop K' _ H' sm w', hd D acc K' L' H' hl sm hI w'⟩
/-- over a list that stays -/
theorem lc_L (w : Own K0 L H) (hx : SqL K K0 a xs) (Inv : Nat → List V → Hp → Ow → Prop) (h0 : Inv 0 [] K0 L)
    (hs : ∀ D i x acc K' L' H', xs[i]? = some x → acc.length ≤ i → Same K0 K' → Inv i acc K' L' → Own K' ((D, .lst acc) :: L') H' → g x (wipe σ vs) H' (kTg K0 Inv D i tt te vs σ))
    (hd : ∀ D acc K' L' H', acc.length ≤ xs.length → Same K0 K' → Inv xs.length acc K' L' → Own K' ((D, .lst acc) :: L') H' → Q (.ref D) H') : kLcL K g tt te vs σ Q (.ref a) H := by
  refine ⟨a, rfl, ⟨xs, w.sqL hx⟩, lc_base w Inv h0 (fun i => (xs[i]?).getD .non) (n := xs.length) ?_ ?_ ?_ ?_ hd⟩
  · exact fun K' L' H' sm w' => ⟨xs, w'.sqL (sqL_mono sm hx), Nat.le_refl _⟩
  · exact fun i K' L' H' lt sm w' => ⟨xs, xs[i], w'.sqL (sqL_mono sm hx), by simp [lt]⟩
  · rintro i K' L' H' y H'' lt sm w' ⟨e, q⟩
    exact ⟨e, by rw [q xs (w'.sqL (sqL_mono sm hx))]; rfl⟩
  · intro D i acc K' L' H' lt hl sm hI w'
    have e : xs[i]? = some xs[i] := by simp [lt]
    rw [e]
    exact hs D i _ acc K' L' H' e hl sm hI w'
theorem lc_T (w : Own K0 L H) (hx : SqT K K0 a xs) (Inv : Nat → List V → Hp → Ow → Prop) (h0 : Inv 0 [] K0 L)
    (hs : ∀ D i x acc K' L' H', xs[i]? = some x → acc.length ≤ i → Same K0 K' → Inv i acc K' L' → Own K' ((D, .lst acc) :: L') H' → g x (wipe σ vs) H' (kTg K0 Inv D i tt te vs σ))
    (hd : ∀ D acc K' L' H', acc.length ≤ xs.length → Same K0 K' → Inv xs.length acc K' L' → Own K' ((D, .lst acc) :: L') H' → Q (.ref D) H') : kLcT K g tt te vs σ Q (.ref a) H := by
  refine ⟨a, rfl, ⟨xs, w.sqT hx⟩, lc_base w Inv h0 (fun i => (xs[i]?).getD .non) (n := xs.length) ?_ ?_ ?_ ?_ hd⟩
  · exact fun K' L' H' sm w' => ⟨xs, w'.sqT (sqT_mono sm hx), Nat.le_refl _⟩
  · exact fun i K' L' H' lt sm w' => ⟨xs, xs[i], w'.sqT (sqT_mono sm hx), by simp [lt]⟩
  · rintro i K' L' H' y H'' lt sm w' ⟨e, q⟩
    exact ⟨e, by rw [q xs (w'.sqT (sqT_mono sm hx))]; rfl⟩
  · intro D i acc K' L' H' lt hl sm hI w'
    have e : xs[i]? = some xs[i] := by simp [lt]
    rw [e]
    exact hs D i _ acc K' L' H' e hl sm hI w'
theorem lc_R {n : Int} (w : Own K0 L H) (hn : n ≤ 1000000) (Inv : Nat → List V → Hp → Ow → Prop) (h0 : Inv 0 [] K0 L)
    (hs : ∀ D (i : Nat) acc K' L' H', (i : Int) < n → acc.length ≤ i → Same K0 K' → Inv i acc K' L' → Own K' ((D, .lst acc) :: L') H' → g (.int i) (wipe σ vs) H' (kTg K0 Inv D i tt te vs σ))
    (hn' : -1000000 ≤ n)
    (hd : ∀ D acc K' L' H', acc.length ≤ n.toNat → Same K0 K' → Inv n.toNat acc K' L' → Own K' ((D, .lst acc) :: L') H' → Q (.ref D) H') : kLcR g tt te vs σ Q [.int n] H := by
  refine ⟨n, rfl, by omega, by omega, lc_base w Inv h0 (fun i => .int i) (n := n.toNat) ?_ ?_ ?_ ?_ hd⟩
  · exact fun K' L' H' sm w' => Nat.le_refl _
  · exact fun i K' L' H' lt sm w' => lt
  · rintro i K' L' H' y H'' lt sm w' ⟨e, q⟩
    exact ⟨e, by rw [q, Int.zero_add]⟩
  · exact fun D i acc K' L' H' lt hl sm hI w' => hs D i acc K' L' H' (by omega) hl sm hI w'
theorem g_kTg (e : wipe σ vs = wipe σ0 vs) (h : tt σ H (kTs K0 Inv D i te σ)) : kTg K0 Inv D i tt te vs σ0 σ H := ⟨e, h⟩
theorem g_yes {QT : Bool → Hp → Prop} (h : QT true H) : tYes σ H QT := h
theorem g_kTsT (e : b = true) (h : te σ H (kEl K0 Inv D i)) : kTs K0 Inv D i te σ b H := by
  show (if b = true then _ else _)
  rw [if_pos e]; exact h
theorem g_kTsF (e : b = false) (h : LcInv K0 Inv D (i + 1) H) : kTs K0 Inv D i te σ b H := by
  show (if b = true then _ else _)
  rw [if_neg (by rw [e]; decide)]; exact h
theorem g_kTsB (h1 : b = true → te σ H (kEl K0 Inv D i)) (h2 : b = false → LcInv K0 Inv D (i + 1) H) : kTs K0 Inv D i te σ b H := by
  cases b with
  | true => exact g_kTsT rfl (h1 rfl)
  | false => exact g_kTsF rfl (h2 rfl)
theorem g_kEl (w : Own K1 ((D, .lst acc) :: L') H) (s : Same K0 K1) (hl : acc.length ≤ i) (hi : i ≤ 1000000) (h : Inv (i + 1) (acc ++ [y]) K1 L') : kEl K0 Inv D i y H :=
  ⟨acc, w.at_ .here, len_lt (Nat.le_trans hl hi), acc ++ [y], K1, L', s, w.put .here _, by rw [List.length_append]; exact Nat.succ_le_succ hl, h⟩
theorem g_lcInv (w : Own K1 ((D, .lst acc) :: L') H) (s : Same K0 K1) (hl : acc.length ≤ i) (h : Inv i acc K1 L') : LcInv K0 Inv D i H := ⟨acc, K1, L', s, w, hl, h⟩
end

/-! ### for -/
def kFor (g : TG) (tb : TS) (D : Ends) (σ : L2.St) (J : It) (H : Hp) : Prop := ∃ W : Nat → Nat → L2.St → Hp → Prop, (∃ m, W 0 m σ H) ∧ ∀ i m σ H, W i m σ H →
  (J.stop i H ∧ D.nx σ H) ∨ (J.go i H ∧ ∃ N : L2.St → Hp → Prop, (∀ σ' H', N σ' H' → ∃ m', m' < m ∧ W (i + 1) m' σ' H') ∧ ∀ x H', J.yld i H x H' → g x σ H' fun σ2 H2 => tb { D with nx := N, ct := N, bk := D.nx } σ2 H2)
def kForL (K : PySem.W.Frag) (g : TG) (tb : TS) (D : Ends) (σ : L2.St) (x : V) (H1 : Hp) : Prop := ∃ a, x = .ref a ∧ (∃ xs, SqL K H1 a xs) ∧ kFor g tb D σ (Itl K a) H1
def kForT (K : PySem.W.Frag) (g : TG) (tb : TS) (D : Ends) (σ : L2.St) (x : V) (H1 : Hp) : Prop := ∃ a, x = .ref a ∧ (∃ xs, SqT K H1 a xs) ∧ kFor g tb D σ (Itt K a) H1
def kForR (g : TG) (tb : TS) (D : Ends) (σ : L2.St) (xs : List V) (H1 : Hp) : Prop := ∃ j : Int, xs = [.int j] ∧ -(2 ^ 62) ≤ j ∧ j < 2 ^ 62 ∧ kFor g tb D σ (Itr 0 j.toNat) H1
def kForS (g : TG) (tb : TS) (D : Ends) (σ : L2.St) (x : V) (H1 : Hp) : Prop := ∃ z, x = .str z ∧ kFor g tb D σ (Its z) H1
/-- what holds between two turns -/
def FoInv (K0 : Hp) (Inv : Nat → L2.St → Hp → Ow → Prop) (i : Nat) (σ : L2.St) (H : Hp) : Prop := ∃ K' L', Same K0 K' ∧ Own K' L' H ∧ Inv i σ K' L'
section
variable {K : PySem.W.Frag} {K0 K1 H H1 : Hp} {L L' : Ow} {g : TG} {tb : TS} {tl : TE} {ta : TA} {σ : L2.St} {n : L2.St → Hp → Prop} {r : VK} {bk ct : L2.St → Hp → Prop} {a : Addr} {xs : List V} {Inv : Nat → L2.St → Hp → Ow → Prop} {i : Nat}
theorem g_forL (h : tl σ H (kForL K g tb ⟨n, r, bk, ct⟩ σ)) : tFor (iList K tl) g tb ⟨n, r, bk, ct⟩ σ H := h
theorem g_forT (h : tl σ H (kForT K g tb ⟨n, r, bk, ct⟩ σ)) : tFor (iTup K tl) g tb ⟨n, r, bk, ct⟩ σ H := h
theorem g_forR (h : ta σ H (kForR g tb ⟨n, r, bk, ct⟩ σ)) : tFor (iRng1 ta) g tb ⟨n, r, bk, ct⟩ σ H := h
theorem g_forS (h : tl σ H (kForS g tb ⟨n, r, bk, ct⟩ σ)) : tFor (iStr tl) g tb ⟨n, r, bk, ct⟩ σ H := h
theorem fo_base {J : It} {m : Nat} (w : Own K0 L H) (Inv : Nat → L2.St → Hp → Ow → Prop) (h0 : Inv 0 σ K0 L) (x : Nat → V)
    (hstop : ∀ K' L' H', Same K0 K' → Own K' L' H' → J.stop m H') (hgo : ∀ i K' L' H', i < m → Same K0 K' → Own K' L' H' → J.go i H') (hy : ∀ i K' L' H' y H'', i < m → Same K0 K' → Own K' L' H' → J.yld i H' y H'' → H'' = H' ∧ y = x i)
    (hs : ∀ i σ K' L' H', i < m → Same K0 K' → Inv i σ K' L' → Own K' L' H' → g (x i) σ H' fun σ2 H2 => tb ⟨FoInv K0 Inv (i + 1), r, n, FoInv K0 Inv (i + 1)⟩ σ2 H2)
    (hd : ∀ σ K' L' H', Same K0 K' → Inv m σ K' L' → Own K' L' H' → n σ H') : kFor g tb ⟨n, r, bk, ct⟩ σ J H := by
  refine ⟨fun i k σ' H' => k = m - i ∧ i ≤ m ∧ FoInv K0 Inv i σ' H', ⟨m, rfl, Nat.zero_le _, K0, L, Same.refl _, w, h0⟩, ?_⟩
  rintro i k σ' H' ⟨rfl, hi, K', L', sm, w', hI⟩
  by_cases lt : i < m
  · refine .inr ⟨hgo i K' _ H' lt sm w', FoInv K0 Inv (i + 1), fun σ2 H2 q => ⟨m - (i + 1), by omega, rfl, lt, q⟩, fun z H2 hz => ?_⟩
    obtain ⟨e1, e2⟩ := hy i K' _ H' z H2 lt sm w' hz
    subst e1 e2
    exact hs i σ' K' L' _ lt sm hI w'
  · have e : i = m := by omega
    subst e
    exact .inl ⟨hstop K' _ H' sm w', hd σ' K' L' H' sm hI w'⟩
theorem fo_L (w : Own K0 L H) (hx : SqL K K0 a xs) (Inv : Nat → L2.St → Hp → Ow → Prop) (h0 : Inv 0 σ K0 L)
    (hs : ∀ i x σ K' L' H', xs[i]? = some x → Same K0 K' → Inv i σ K' L' → Own K' L' H' → g x σ H' fun σ2 H2 => tb ⟨FoInv K0 Inv (i + 1), r, n, FoInv K0 Inv (i + 1)⟩ σ2 H2)
    (hd : ∀ σ K' L' H', Same K0 K' → Inv xs.length σ K' L' → Own K' L' H' → n σ H') : kForL K g tb ⟨n, r, bk, ct⟩ σ (.ref a) H := by
  refine ⟨a, rfl, ⟨xs, w.sqL hx⟩, fo_base w Inv h0 (fun i => (xs[i]?).getD .non) (m := xs.length) ?_ ?_ ?_ ?_ hd⟩
  · exact fun K' L' H' sm w' => ⟨xs, w'.sqL (sqL_mono sm hx), Nat.le_refl _⟩
  · exact fun i K' L' H' lt sm w' => ⟨xs, xs[i], w'.sqL (sqL_mono sm hx), by simp [lt]⟩
  · rintro i K' L' H' y H'' lt sm w' ⟨e, q⟩
    exact ⟨e, by rw [q xs (w'.sqL (sqL_mono sm hx))]; rfl⟩
  · intro i σ' K' L' H' lt sm hI w'
    have e : xs[i]? = some xs[i] := by simp [lt]
    rw [e]
    exact hs i _ σ' K' L' H' e sm hI w'
theorem fo_T (w : Own K0 L H) (hx : SqT K K0 a xs) (Inv : Nat → L2.St → Hp → Ow → Prop) (h0 : Inv 0 σ K0 L)
    (hs : ∀ i x σ K' L' H', xs[i]? = some x → Same K0 K' → Inv i σ K' L' → Own K' L' H' → g x σ H' fun σ2 H2 => tb ⟨FoInv K0 Inv (i + 1), r, n, FoInv K0 Inv (i + 1)⟩ σ2 H2)
    (hd : ∀ σ K' L' H', Same K0 K' → Inv xs.length σ K' L' → Own K' L' H' → n σ H') : kForT K g tb ⟨n, r, bk, ct⟩ σ (.ref a) H := by
  refine ⟨a, rfl, ⟨xs, w.sqT hx⟩, fo_base w Inv h0 (fun i => (xs[i]?).getD .non) (m := xs.length) ?_ ?_ ?_ ?_ hd⟩
  · exact fun K' L' H' sm w' => ⟨xs, w'.sqT (sqT_mono sm hx), Nat.le_refl _⟩
  · exact fun i K' L' H' lt sm w' => ⟨xs, xs[i], w'.sqT (sqT_mono sm hx), by simp [lt]⟩
  · rintro i K' L' H' y H'' lt sm w' ⟨e, q⟩
    exact ⟨e, by rw [q xs (w'.sqT (sqT_mono sm hx))]; rfl⟩
  · intro i σ' K' L' H' lt sm hI w'
    have e : xs[i]? = some xs[i] := by simp [lt]
    rw [e]
    exact hs i _ σ' K' L' H' e sm hI w'
theorem fo_R {m : Int} (w : Own K0 L H) (hm : m ≤ 1000000 ∧ -1000000 ≤ m) (Inv : Nat → L2.St → Hp → Ow → Prop) (h0 : Inv 0 σ K0 L)
    (hs : ∀ (i : Nat) σ K' L' H', (i : Int) < m → Same K0 K' → Inv i σ K' L' → Own K' L' H' → g (.int i) σ H' fun σ2 H2 => tb ⟨FoInv K0 Inv (i + 1), r, n, FoInv K0 Inv (i + 1)⟩ σ2 H2)
    (hd : ∀ σ K' L' H', Same K0 K' → Inv m.toNat σ K' L' → Own K' L' H' → n σ H') : kForR g tb ⟨n, r, bk, ct⟩ σ [.int m] H := by
  refine ⟨m, rfl, by omega, by omega, fo_base w Inv h0 (fun i => .int i) (m := m.toNat) ?_ ?_ ?_ ?_ hd⟩
  · exact fun K' L' H' sm w' => Nat.le_refl _
  · exact fun i K' L' H' lt sm w' => lt
  · rintro i K' L' H' y H'' lt sm w' ⟨e, q⟩
    exact ⟨e, by rw [q, Int.zero_add]⟩
  · exact fun i σ' K' L' H' lt sm hI w' => hs i σ' K' L' H' (by omega) sm hI w'
theorem g_foInv (w : Own K1 L' H) (s : Same K0 K1) (h : Inv i σ K1 L') : FoInv K0 Inv i σ H := ⟨K1, L', s, w, h⟩
def WhInv (W : Nat → L2.St → Hp → Prop) (m : Nat) (σ : L2.St) (H : Hp) : Prop := ∃ m', m' < m ∧ W m' σ H
def kWh (W : Nat → L2.St → Hp → Prop) (m : Nat) (tb : TS) (D : Ends) (σ : L2.St) (b : Bool) (H : Hp) : Prop := if b = true then ∃ N : L2.St → Hp → Prop, (∀ σ' H', N σ' H' → ∃ m', m' < m ∧ W m' σ' H') ∧ tb { D with nx := N, ct := N, bk := D.nx } σ H else D.nx σ H
variable {W : Nat → L2.St → Hp → Prop} {m : Nat} {b : Bool} {tc : TT}
theorem wh_by {m0 : Nat} (W : Nat → L2.St → Hp → Prop) (h0 : W m0 σ H) (hs : ∀ m σ' H', W m σ' H' → tc σ' H' (kWh W m tb ⟨n, r, bk, ct⟩ σ')) : tWhile tc tb ⟨n, r, bk, ct⟩ σ H := ⟨W, ⟨m0, h0⟩, hs⟩
theorem g_whT (e : b = true) (h : tb ⟨WhInv W m, r, n, WhInv W m⟩ σ H) : kWh W m tb ⟨n, r, bk, ct⟩ σ b H := by
  show (if b = true then _ else _)
  rw [if_pos e]
  exact ⟨WhInv W m, fun _ _ q => q, h⟩
theorem g_whF (e : b = false) (h : n σ H) : kWh W m tb ⟨n, r, bk, ct⟩ σ b H := by
  show (if b = true then _ else _)
  rw [if_neg (by rw [e]; decide)]; exact h
theorem g_whB (h1 : b = true → tb ⟨WhInv W m, r, n, WhInv W m⟩ σ H) (h2 : b = false → n σ H) : kWh W m tb ⟨n, r, bk, ct⟩ σ b H := by
  cases b with
  | true => exact g_whT rfl (h1 rfl)
  | false => exact g_whF rfl (h2 rfl)
theorem g_aug {f : Int → Int → Int} {p : Int} {te : TE} (e : σ[i]? = some (some (.int p))) (h : te σ H fun y H1 => ipI f (.int p) y H1 fun z H2 => n (σ.set i (some z)) H2) : tAug i te (ipI f) ⟨n, r, bk, ct⟩ σ H := ⟨_, e, h⟩
theorem g_ipI {f : Int → Int → Int} {p q : Int} {Q : VK} (h : Q (.int (f p q)) H) : ipI f (.int p) (.int q) H Q := ⟨p, q, rfl, rfl, h⟩
end

section
variable {K : PySem.W.Frag} {K0 H : Hp} {L : Ow} {g : TG} {tt : TT} {te : TE} {vs : List Nat} {σ : L2.St} {Q : VK} {a : Addr} {xs : List V}
/-- over a list that was made here and is not changed any more -/
theorem lc_LF (w : Own K0 ((a, .lst xs) :: L) H) (Inv : Nat → List V → Hp → Ow → Prop) (h0 : ∀ K1, Same K0 K1 → Inv 0 [] K1 L)
    (hs : ∀ K1 D i x acc K' L' H', Same K0 K1 → xs[i]? = some x → acc.length ≤ i → Same K1 K' → Inv i acc K' L' → Own K' ((D, .lst acc) :: L') H' → g x (wipe σ vs) H' (kTg K1 Inv D i tt te vs σ))
    (hd : ∀ K1 D acc K' L' H', Same K0 K1 → acc.length ≤ xs.length → Same K1 K' → Inv xs.length acc K' L' → Own K' ((D, .lst acc) :: L') H' → Q (.ref D) H') : kLcL K g tt te vs σ Q (.ref a) H :=
  lc_L w.freeze (.inl (.inl upd_same)) Inv (h0 _ w.same) (fun D i x acc K' L' H' h1 h2 h3 h4 h5 => hs _ D i x acc K' L' H' w.same h1 h2 h3 h4 h5) (fun D acc K' L' H' h1 h2 h3 h4 => hd _ D acc K' L' H' w.same h1 h2 h3 h4)
end

/-! ## lists -/
theorem take_snoc {α : Type} {l : List α} {i : Nat} {x : α} (h : l[i]? = some x) : l.take (i + 1) = l.take i ++ [x] := by rw [List.take_succ, h]; rfl
theorem of_map {α β : Type} {f : α → β} {l : List α} {i : Nat} {y : β} (h : (l.map f)[i]? = some y) : ∃ x, y = f x ∧ l[i]? = some x := by
  rw [List.getElem?_map] at h
  cases e : l[i]? with
  | none => rw [e] at h; cases h
  | some p => rw [e] at h; exact ⟨p, (Option.some.inj h).symm, rfl⟩
theorem atI_of {α : Type} {xs : List α} {i : Int} {j : Nat} {v : α} (e : i = (j : Int)) (h : xs[j]? = some v) : atI xs i = some v := by
  subst e
  have lt : j < xs.length := (List.getElem?_eq_some_iff.mp h).1
  unfold atI ixN
  rw [if_pos (by omega), if_pos (by omega)]
  simpa using h

section
variable {H : Hp} {σ : L2.St} {n : L2.St → Hp → Prop} {r : VK} {bk ct : L2.St → Hp → Prop} {t u : TS} {b : Bool}
/-- ways that meet again: P is what is known there -/
theorem g_ifJ (P : L2.St → Hp → Prop) (j : ∀ σ' H', P σ' H' → n σ' H') (h : ∀ n' : L2.St → Hp → Prop, (∀ σ' H', P σ' H' → n' σ' H') → kIfS t u ⟨n', r, bk, ct⟩ σ b H) : kIfS t u ⟨n, r, bk, ct⟩ σ b H := h n j
theorem g_join (P : L2.St → Hp → Prop) (j : ∀ σ' H', P σ' H' → u ⟨n, r, bk, ct⟩ σ' H') (h : ∀ n' : L2.St → Hp → Prop, (∀ σ' H', P σ' H' → n' σ' H') → t ⟨n', r, bk, ct⟩ σ H) : tSeq t u ⟨n, r, bk, ct⟩ σ H := h _ j
end

theorem kc_nil {α : Type} {D : Addr} {l : List (Str × Value)} {t : Sem α} {r : α} (hl : l = []) (e : t = pure r) : KwChain D l t r := by subst hl; exact e
theorem kc_cons {α β γ : Type} {D : Addr} {l l' : List (Str × Value)} {q : Str × Value} {t : Sem α} {r : α} {k1 : Option Value → Sem β} {k2 : β → Sem γ} {k3 : γ → Sem α} {a : β} (hl : l = q :: l')
    (e1 : t = ((nsGet D q.1 >>= k1) >>= k2) >>= k3) (e2 : k1 (some q.2) = pure a) (e3 : KwChain D l' (k2 a >>= k3) r) : KwChain D l t r := by
  subst hl; exact ⟨β, γ, k1, k2, k3, a, e1, e2, e3⟩

theorem atI_mem {α : Type} {xs : List α} {d : Int} (h0 : 0 ≤ d) (h1 : d < xs.length) : ∃ v, atI xs d = some v ∧ v ∈ xs := by
  have lt : d.toNat < xs.length := by omega
  exact ⟨xs[d.toNat], atI_of (j := d.toNat) (by omega) (by simp [lt]), List.getElem_mem lt⟩
/-! ## texts -/
open TL PySem.StrLaws
theorem starts_eq (a b : Str) : Txt.startswith a b = (tl b).isPrefixOf (tl a) := by
  unfold Txt.startswith
  rw [subAt_eq, List.drop_zero, len_tl, len_tl, Nat.zero_add, Bool.eq_iff_iff, Bool.and_eq_true, List.isPrefixOf_iff_prefix]
  constructor
  · rintro ⟨h1, h2⟩
    exact List.prefix_iff_eq_take.mpr (eq_of_beq h2).symm
  · intro h
    refine ⟨decide_eq_true h.length_le, ?_⟩
    exact beq_iff_eq.mpr (List.prefix_iff_eq_take.mp h).symm
theorem tl_cutS (z : Str) (k : Nat) : tl (cutS z none (some (k : Int))) = (tl z).take k := by
  show ((z.cps.toList.drop (HT.sIx z.length 0 none)).take (HT.sIx z.length z.length (some (k : Int)) - HT.sIx z.length 0 none)).toArray.toList = _
  rw [HT.sIx_none, HT.sIx_nat, List.drop_zero, Nat.sub_zero]
  show (tl z).take _ = _
  rw [len_tl]
  exact List.take_eq_take_min.symm
theorem str_eq_iff {a b : Str} : a = b ↔ tl a = tl b := ⟨fun h => by rw [h], ext_tl⟩
theorem len_app (a b : Str) : (a ++ b).length = a.length + b.length := by rw [len_tl, tl_append, List.length_append, ← len_tl, ← len_tl]

def SOk (s : Str) : Prop := s.length ≤ 1000 ∧ PyData.strOk s = true

theorem cutV_from (xs : List V) (k : Nat) : cutV xs (some (k : Int)) none = xs.drop k := by
  unfold cutV
  rw [HT.sIx_none, HT.sIx_nat]
  by_cases h : k ≤ xs.length
  · rw [Nat.min_eq_left h, List.take_of_length_le (by rw [List.length_drop]; omega)]
  · rw [Nat.min_eq_right (by omega), Nat.sub_self, List.take_zero, List.drop_eq_nil_of_le (by omega)]
theorem cutV_to (xs : List V) (k : Nat) : cutV xs none (some (k : Int)) = xs.take k := by
  unfold cutV
  rw [HT.sIx_none, HT.sIx_nat, List.drop_zero, Nat.sub_zero]
  by_cases h : k ≤ xs.length
  · rw [Nat.min_eq_left h]
  · rw [Nat.min_eq_right (by omega), List.take_length, List.take_of_length_le (by omega)]
theorem flat_rep {α : Type} (n : Nat) (x : α) : (List.replicate n [x]).flatten = List.replicate n x := by
  induction n with
  | zero => rfl
  | succ n ih => rw [List.replicate_succ, List.flatten_cons, ih]; rfl

theorem Own.drop2 {K0 H : Hp} {L : Ow} {x y : Addr × HO} (w : Own K0 (x :: y :: L) H) : Own K0 (x :: L) H := w.swap.drop

/-! ## in, insert, index -/
section
variable {X : Cx} {K : PySem.W.Frag} {K0 H : Hp} {L : Ow} {Q : VK} {x y : V} {p : Addr} {xs : List V} {f : HO → Ow}
theorem _root_.L2.Room.u65 {k : Nat} {A : Around} (r : Room k A) : A.units + 65 < cLine := by have := r.un; omega
def kIn (K : PySem.W.Frag) : R2 := fun x y H Q => rIn K false x y H Q ∨ rInD K x y H Q
theorem ok_in (hu : X.A.units + 65 < cLine) : OpR X (compareOp .In) (kIn X.K) := by
  intro pins s σ H x y v u Q I rx ry h
  rcases h with h | h
  · exact op_in_seq pins s σ H x y v u Q I rx ry h
  · exact op_inD hu pins s σ H x y v u Q I rx ry h
def kNotIn (K : PySem.W.Frag) : R2 := fun x y H Q => rIn K true x y H Q ∨ rNotInD K x y H Q
theorem ok_notIn (hu : X.A.units + 65 < cLine) : OpR X (compareOp .NotIn) (kNotIn X.K) := by
  intro pins s σ H x y v u Q I rx ry h
  rcases h with h | h
  · exact op_notIn_seq pins s σ H x y v u Q I rx ry h
  · exact op_notInD hu pins s σ H x y v u Q I rx ry h
theorem g_inL (hs : SqL K H p xs) (hx : flatV x = true) (ha : xs.all flatV = true) (h : Q (.bl (inV x xs)) H) : kIn K x (.ref p) H Q := .inl ⟨p, xs, rfl, .inl hs, hx, ha, h⟩
theorem g_inT (hs : SqT K H p xs) (hx : flatV x = true) (ha : xs.all flatV = true) (h : Q (.bl (inV x xs)) H) : kIn K x (.ref p) H Q := .inl ⟨p, xs, rfl, .inr hs, hx, ha, h⟩
theorem g_inD {d : PyData} {ds : List PyData} (hd : Dp K H x d) (he : Dp K H y (.list ds)) (sd : SeqAt.shaped d = true) (se : SeqAt.shaped (.list ds) = true) (h : Q (.bl (ds.any fun z => PyData.eqv z d)) H) : kIn K x y H Q := .inr ⟨d, ds, hd, he, sd, se, h⟩
def kInsert : V → List V → Hp → VK → Prop := fun x vs H Q => ∃ (l : Addr) (xs : List V) (i : Int) (y : V), x = .ref l ∧ vs = [.int i, y] ∧ H l = some (.lst xs) ∧ xs.length < sizeLine ∧ 0 ≤ i ∧ i < 2 ^ 63 ∧
  Q .non (upd H l (.lst (xs.take i.toNat ++ [y] ++ xs.drop i.toNat)))
theorem ok_insert : MtR X "list.insert" kInsert := mt_insert
theorem g_insert {i : Int} (w : Own K0 L H) (s : Sel L p (.lst xs) f) (hl : xs.length ≤ 1000000) (hi : 0 ≤ i ∧ i < 2 ^ 63) (k : ∀ H', Own K0 (f (.lst (xs.take i.toNat ++ [y] ++ xs.drop i.toNat))) H' → Q .non H') : kInsert (.ref p) [.int i, y] H Q :=
  ⟨p, xs, i, y, rfl, rfl, w.at_ s, len_lt hl, hi.1, hi.2, k _ (w.put s _)⟩
theorem g_indexD {d : PyData} {ds : List PyData} {j : Nat} {z : PyData} (hl : Dp K H (.ref p) (.list ds)) (hy : Dp K H y d) (sl : SeqAt.shaped (.list ds) = true) (sd : SeqAt.shaped d = true) (hz : ds[j]? = some z) (he : PyData.eqv z d = true)
    (hn : ∀ (m : Nat) (z' : PyData), m < j → ds[m]? = some z' → PyData.eqv z' d = false) (h : Q (.int (j : Nat)) H) : rIndexD K (.ref p) [y] H Q := ⟨p, y, d, ds, j, z, rfl, rfl, hl, hy, sl, sd, hz, he, hn, h⟩
/-! targets -/
theorem g_tupT {n : Nat} {t : TGs} {σ : L2.St} {g : L2.St → Hp → Prop} (hs : SqT K H p xs) (hl : xs.length = n) (h : t xs σ H g) : gTup K n t (.ref p) σ H g := ⟨p, xs, rfl, hs, hl, h⟩
theorem g_gCons {t : TG} {u : TGs} {σ : L2.St} {g : L2.St → Hp → Prop} {v : V} {r : List V} (h : t v σ H fun σ' H' => u r σ' H' g) : gCons t u (v :: r) σ H g := ⟨v, r, rfl, h⟩
theorem g_gNil {σ : L2.St} {g : L2.St → Hp → Prop} (h : g σ H) : gNil [] σ H g := ⟨rfl, h⟩
end
end Wf

set_option Elab.async false
set_option linter.all false
set_option maxRecDepth 100000
set_option maxHeartbeats 4000000
namespace Wf
open PySem PySem.Spec PyProof.Rows L2

/-! ## readings that compute: equal to the library's, but whnf runs them and stops at what is irreducible -/
section
variable {X : Cx} {e : Expr} {s : Stmt} {ss : List Stmt} {es : List Expr}
theorem peq {t t' : TE} (h : t = t') (p : PE X e t) : PE X e t' := h ▸ p
theorem pteq {t t' : TT} (h : t = t') (p : PT X e t) : PT X e t' := h ▸ p
theorem paeq {t t' : TA} (h : t = t') (p : PA X es t) : PA X es t' := h ▸ p
theorem pseq {t t' : TS} (h : t = t') (p : PS X s t) : PS X s t' := h ▸ p
theorem psseq {t t' : TS} (h : t = t') (p : PSs X ss t) : PSs X ss t' := h ▸ p
theorem pgeq {t t' : TG} (h : t = t') (p : PG X e t) : PG X e t' := h ▸ p
theorem pgseq {t t' : TGs} (h : t = t') (p : PGs X es t) : PGs X es t' := h ▸ p
theorem poeq {eo : Option Expr} {t t' : TO} (h : t = t') (p : PO X eo t) : PO X eo t' := h ▸ p
end
def fForce : L2.St → (L2.St → Prop) → Prop
  | [], k => k []
  | a :: s, k => fForce s fun s' => k (a :: s')
theorem fForce_eq : ∀ {s : L2.St} {k : L2.St → Prop}, fForce s k = k s
  | [], _ => rfl
  | a :: s, k => fForce_eq (s := s)
def fSet : L2.St → Nat → Option V → (L2.St → Prop) → Prop
  | [], _, _, k => k []
  | _ :: s, 0, v, k => k (v :: s)
  | a :: s, i + 1, v, k => fSet s i v fun s' => k (a :: s')
theorem fSet_eq : ∀ {s : L2.St} {i : Nat} {v : Option V} {k : L2.St → Prop}, fSet s i v k = k (s.set i v)
  | [], _, _, _ => rfl
  | _ :: s, 0, _, _ => rfl
  | a :: s, i + 1, v, k => fSet_eq (s := s) (i := i)
def fCat : List V → List V → (List V → Prop) → Prop
  | [], d, k => k d
  | x :: xs, d, k => fCat xs d fun l => k (x :: l)
theorem fCat_eq : ∀ {a d : List V} {k : List V → Prop}, fCat a d k = k (a ++ d)
  | [], _, _ => rfl
  | x :: xs, d, k => fCat_eq (a := xs) (d := d)
def fGet : L2.St → Nat → Option (Option V)
  | [], _ => none
  | a :: _, 0 => some a
  | _ :: s, i + 1 => fGet s i
theorem fGet_eq : ∀ {s : L2.St} {i : Nat}, fGet s i = s[i]?
  | [], _ => by simp [fGet]
  | a :: s, 0 => by simp [fGet]
  | a :: s, i + 1 => by simp only [fGet, List.getElem?_cons_succ]; exact fGet_eq
def fBegin (t : TS) : TS := fun D σ H => fForce σ fun σ' => t D σ' H
theorem fBegin_eq (t : TS) : t = fBegin t := by funext D σ H; exact (fForce_eq (k := fun σ' => t D σ' H)).symm
def fVar (i : Nat) : TE := fun σ H Q => match fGet σ i with | some (some v) => Q v H | _ => False
theorem fVar_eq (i : Nat) : tVar i = fVar i := by
  funext σ H Q
  apply propext
  show (∃ v, σ[i]? = some (some v) ∧ Q v H) ↔ (match fGet σ i with | some (some v) => Q v H | _ => False)
  rw [fGet_eq]
  constructor
  · rintro ⟨v, e, q⟩
    rw [e]; exact q
  · intro h
    split at h
    · exact ⟨_, by assumption, h⟩
    · exact h.elim
def fBl (x : V) (k : Bool → Prop) : Prop := match x with | .bl c => k c | _ => False
theorem fBl_eq {x : V} {k : Bool → Prop} : (∃ c, x = .bl c ∧ k c) = fBl x k := by
  apply propext
  unfold fBl
  constructor
  · rintro ⟨c, rfl, q⟩; exact q
  · intro h
    split at h
    · exact ⟨_, rfl, h⟩
    · exact h.elim
def fIn (x : V) (k : Int → Prop) : Prop := match x with | .int c => k c | _ => False
theorem fIn_eq {x : V} {k : Int → Prop} : (∃ c, x = .int c ∧ k c) = fIn x k := by
  apply propext
  unfold fIn
  constructor
  · rintro ⟨c, rfl, q⟩; exact q
  · intro h
    split at h
    · exact ⟨_, rfl, h⟩
    · exact h.elim
@[irreducible] def zIfS (t u : TS) (D : Ends) (σ : L2.St) (b : Bool) (H : Hp) : Prop := if b = true then t D σ H else u D σ H
@[irreducible] def zIfE (t u : TE) (σ : L2.St) (Q : VK) (b : Bool) (H : Hp) : Prop := if b = true then t σ H Q else u σ H Q
@[irreducible] def zAndT (u : TT) (σ : L2.St) (Q : Bool → Hp → Prop) (b : Bool) (H : Hp) : Prop := if b = true then u σ H Q else Q false H
@[irreducible] def zOrT (u : TT) (σ : L2.St) (Q : Bool → Hp → Prop) (b : Bool) (H : Hp) : Prop := if b = true then Q true H else u σ H Q
@[irreducible] def zAndV (u : TE) (σ : L2.St) (Q : VK) (c : Bool) (H : Hp) : Prop := if c = true then u σ H Q else Q (.bl false) H
@[irreducible] def zOrV (u : TE) (σ : L2.St) (Q : VK) (c : Bool) (H : Hp) : Prop := if c = true then Q (.bl true) H else u σ H Q
@[irreducible] def zLst (Q : VK) (xs : List V) (H : Hp) : Prop := xs.length ≤ sizeLine ∧ ∀ p, H p = none → Q (.ref p) (upd H p (.lst xs))
@[irreducible] def zTup (Q : VK) (xs : List V) (H : Hp) : Prop := xs.length ≤ sizeLine ∧ ∀ p, H p = none → Q (.ref p) (upd H p (.tup xs))
/-- an if that others follow -/
@[irreducible] def zSeq (t u : TS) : TS := tSeq t u
def fSeq (t u : TS) : TS := fun D σ H => match D with | ⟨n, r, bk, ct⟩ => t ⟨u ⟨n, r, bk, ct⟩, r, bk, ct⟩ σ H
theorem fSeq_eq (t u : TS) : tSeq t u = fSeq t u := by funext D σ H; cases D; rfl
theorem zSeq_eq (t u : TS) : tSeq t u = zSeq t u := by unfold zSeq; rfl
def fIfS (c : TT) (t u : TS) : TS := fun D σ H => c σ H (zIfS t u D σ)
theorem fIfS_eq (c : TT) (t u : TS) : tIfS c t u = fIfS c t u := by unfold fIfS zIfS; rfl
def fIf (c : TT) (t u : TE) : TE := fun σ H Q => c σ H (zIfE t u σ Q)
theorem fIf_eq (c : TT) (t u : TE) : tIf c t u = fIf c t u := by unfold fIf zIfE; rfl
def fTest (t : TE) : TT := fun σ H Q => t σ H fun x H1 => fBl x fun k => Q k H1
theorem fTest_eq (t : TE) : tTest t = fTest t := by unfold tTest fTest; simp only [fBl_eq]
theorem fB_eq (t : TE) : tB t = fTest t := by unfold tB fTest; simp only [fBl_eq]
def fAnd (t u : TT) : TT := fun σ H Q => t σ H (zAndT u σ Q)
theorem fAnd_eq (t u : TT) : tAnd t u = fAnd t u := by unfold fAnd zAndT; rfl
def fOr (t u : TT) : TT := fun σ H Q => t σ H (zOrT u σ Q)
theorem fOr_eq (t u : TT) : tOr t u = fOr t u := by unfold fOr zOrT; rfl
def fAndV (t u : TE) : TE := fun σ H Q => t σ H fun x H1 => fBl x fun c => zAndV u σ Q c H1
theorem fAndV_eq (t u : TE) : tAndV t u = fAndV t u := by unfold tAndV fAndV zAndV; simp only [fBl_eq]
def fOrV (t u : TE) : TE := fun σ H Q => t σ H fun x H1 => fBl x fun c => zOrV u σ Q c H1
theorem fOrV_eq (t u : TE) : tOrV t u = fOrV t u := by unfold tOrV fOrV zOrV; simp only [fBl_eq]
def fNotV (t : TE) : TE := fun σ H Q => t σ H fun x H1 => fBl x fun c => Q (.bl (!c)) H1
theorem fNotV_eq (t : TE) : tNotV t = fNotV t := by unfold tNotV fNotV; simp only [fBl_eq]
def fLst (t : TA) : TE := fun σ H Q => t σ H (zLst Q)
theorem fLst_eq (t : TA) : tLst t = fLst t := by unfold fLst zLst; rfl
def fTup (t : TA) : TE := fun σ H Q => t σ H (zTup Q)
theorem fTup_eq (t : TA) : tTup t = fTup t := by unfold fTup zTup; rfl
def fPart (t : TE) : TO := fun σ H Q => t σ H fun x H1 => fIn x fun i => Q (some i) H1
theorem fPart_eq (t : TE) : tPart t = fPart t := by unfold tPart fPart; simp only [fIn_eq]
def fCall (sp : Sp) (dvs : List V) (E : XK) (t : TA) : TE := fun σ H Q => t σ H fun vs H1 => fCat vs dvs fun l => sp l H1 Q E
theorem fCall_eq (sp : Sp) (dvs : List V) (E : XK) (t : TA) : tCall sp dvs E t = fCall sp dvs E t := by unfold tCall fCall; simp only [fCat_eq]
@[irreducible] def zCallN (n m : Nat) (sp : Sp) (gV : List V → List V → List V) (E : XK) (Q : VK) (vs zs : List V) (H : Hp) : Prop := vs.length = n ∧ zs.length = m ∧ sp (gV vs zs) H Q E
def fCallN (n m : Nat) (sp : Sp) (gV : List V → List V → List V) (E : XK) (t tk : TA) : TE := fun σ H Q => t σ H fun vs H1 => tk σ H1 fun zs H2 => zCallN n m sp gV E Q vs zs H2
theorem fCallN_eq (n m : Nat) (sp : Sp) (gV : List V → List V → List V) (E : XK) (t tk : TA) : tCallN n m sp gV E t tk = fCallN n m sp gV E t tk := by unfold fCallN zCallN; rfl
@[irreducible] def zBM (K : PySem.W.Frag) (T : String) (r : V → List V → Hp → VK → Prop) (t : TA) (σ : L2.St) (Q : VK) (x : V) (H : Hp) : Prop := tyV K T x H ∧ t σ H fun xs H2 => r x xs H2 Q
def fBM (K : PySem.W.Frag) (T : String) (r : V → List V → Hp → VK → Prop) (to : TE) (t : TA) : TE := fun σ H Q => to σ H (zBM K T r t σ Q)
theorem fBM_eq (K : PySem.W.Frag) (T : String) (r : V → List V → Hp → VK → Prop) (to : TE) (t : TA) : tBM K T r to t = fBM K T r to t := by unfold fBM zBM; rfl
@[irreducible] def zBM0 (K : PySem.W.Frag) (T : String) (r : V → List V → Hp → VK → Prop) (Q : VK) (x : V) (H : Hp) : Prop := tyV K T x H ∧ r x [] H Q
def fBM0 (K : PySem.W.Frag) (T : String) (r : V → List V → Hp → VK → Prop) (to : TE) : TE := fun σ H Q => to σ H (zBM0 K T r Q)
theorem fBM0_eq (K : PySem.W.Frag) (T : String) (r : V → List V → Hp → VK → Prop) (to : TE) : tBM0 K T r to = fBM0 K T r to := by unfold fBM0 zBM0; rfl
/-! targets -/
def fName (i : Nat) : TG := fun v σ H Q => fSet σ i (some v) fun σ' => Q σ' H
theorem fName_eq (i : Nat) : gName i = fName i := by funext v σ H Q; exact (fSet_eq (k := fun σ' => Q σ' H)).symm
def fGNil : TGs := fun vs σ H Q => match vs with | [] => Q σ H | _ => False
theorem fGNil_eq : gNil = fGNil := by
  funext vs σ H Q
  apply propext
  show (vs = [] ∧ Q σ H) ↔ _
  unfold fGNil
  cases vs with
  | nil => exact ⟨fun h => h.2, fun (h : Q σ H) => ⟨rfl, h⟩⟩
  | cons a l => exact ⟨fun h => (nomatch h.1), False.elim⟩
def fGCons (t : TG) (u : TGs) : TGs := fun vs σ H Q => match vs with | v :: r => t v σ H fun σ' H' => u r σ' H' Q | [] => False
theorem fGCons_eq (t : TG) (u : TGs) : gCons t u = fGCons t u := by
  funext vs σ H Q
  apply propext
  show (∃ v r, vs = v :: r ∧ t v σ H fun σ' H' => u r σ' H' Q) ↔ _
  unfold fGCons
  cases vs with
  | nil => exact ⟨fun ⟨_, _, h, _⟩ => (nomatch h), False.elim⟩
  | cons a l => exact ⟨fun ⟨_, _, h, q⟩ => by cases h; exact q, fun h => ⟨_, _, rfl, h⟩⟩
@[irreducible] def zGTup (K : PySem.W.Frag) (n : Nat) (t : TGs) : TG := gTup K n t
theorem zGTup_eq (K : PySem.W.Frag) (n : Nat) (t : TGs) : gTup K n t = zGTup K n t := by unfold zGTup; rfl
/-! operators -/
@[irreducible] def zAddS (a b : Str) (H : Hp) (Q : VK) : Prop := a.length + b.length ≤ sizeLine ∧ Q (.str (a ++ b)) H
@[irreducible] def zAddR (K : PySem.W.Frag) (p q : Addr) (H : Hp) (Q : VK) : Prop := rCat (.ref p) (.ref q) H Q ∨ rCatT K (.ref p) (.ref q) H Q
def fAdd (K : PySem.W.Frag) : R2 := fun x y H Q => match x, y with
  | .int i, .int j => Q (.int (i + j)) H
  | .str a, .str b => zAddS a b H Q
  | .ref p, .ref q => zAddR K p q H Q
  | _, _ => False
def fSub : R2 := fun x y H Q => match x, y with | .int i, .int j => Q (.int (i - j)) H | _, _ => False
@[irreducible] def zMulI (i j : Int) (H : Hp) (Q : VK) : Prop := CMul i j ∧ Q (.int (i * j)) H
@[irreducible] def zMulR (p : Addr) (k : Int) (H : Hp) (Q : VK) : Prop := rRep (.ref p) (.int k) H Q
def fMul (K : PySem.W.Frag) : R2 := fun x y H Q => match x, y with
  | .int i, .int j => zMulI i j H Q
  | .ref p, .int k => zMulR p k H Q
  | _, _ => False
@[irreducible] def zDivI (i j : Int) (H : Hp) (Q : VK) : Prop := CDiv i j ∧ Q (.int (i / j)) H
def fDiv : R2 := fun x y H Q => match x, y with | .int i, .int j => zDivI i j H Q | _, _ => False
@[irreducible] def zModI (i j : Int) (H : Hp) (Q : VK) : Prop := 0 < j ∧ Q (.int (i % j)) H
def fMod : R2 := fun x y H Q => match x, y with | .int i, .int j => zModI i j H Q | _, _ => False
@[irreducible] def zPowI (i j : Int) (H : Hp) (Q : VK) : Prop := CPow i j ∧ Q (.int (i ^ j.toNat)) H
def fPow : R2 := fun x y H Q => match x, y with | .int i, .int j => zPowI i j H Q | _, _ => False
def fLt : R2 := fun x y H Q => match x, y with | .int i, .int j => Q (.bl (decide (i < j))) H | _, _ => False
def fLe : R2 := fun x y H Q => match x, y with | .int i, .int j => Q (.bl (decide (i ≤ j))) H | _, _ => False
def fGt : R2 := fun x y H Q => match x, y with | .int i, .int j => Q (.bl (decide (j < i))) H | _, _ => False
def fGe : R2 := fun x y H Q => match x, y with | .int i, .int j => Q (.bl (decide (j ≤ i))) H | _, _ => False
@[irreducible] def zEq (K : PySem.W.Frag) (x y : V) (H : Hp) (Q : VK) : Prop := rEq x y H Q ∨ rEqD K x y H Q
def fEq (K : PySem.W.Frag) : R2 := fun x y H Q => match x, y with
  | .int i, .int j => Q (.bl (decide (i = j))) H
  | .str i, .str j => Q (.bl (decide (i = j))) H
  | .bl i, .bl j => Q (.bl (decide (i = j))) H
  | .non, .non => Q (.bl true) H
  | .non, .int _ => Q (.bl false) H
  | .int _, .non => Q (.bl false) H
  | .non, .str _ => Q (.bl false) H
  | .str _, .non => Q (.bl false) H
  | .int _, .str _ => Q (.bl false) H
  | .str _, .int _ => Q (.bl false) H
  | x, y => zEq K x y H Q
@[irreducible] def zNe (K : PySem.W.Frag) (x y : V) (H : Hp) (Q : VK) : Prop := rNe x y H Q ∨ rNeD K x y H Q
def fNe (K : PySem.W.Frag) : R2 := fun x y H Q => match x, y with
  | .int i, .int j => Q (.bl (!decide (i = j))) H
  | .str i, .str j => Q (.bl (!decide (i = j))) H
  | .bl i, .bl j => Q (.bl (!decide (i = j))) H
  | .non, .non => Q (.bl false) H
  | .non, .int _ => Q (.bl true) H
  | .int _, .non => Q (.bl true) H
  | .non, .str _ => Q (.bl true) H
  | .str _, .non => Q (.bl true) H
  | .int _, .str _ => Q (.bl true) H
  | .str _, .int _ => Q (.bl true) H
  | x, y => zNe K x y H Q
@[irreducible] def zIx (K : PySem.W.Frag) : R2 := rIx K
@[irreducible] def zIn (K : PySem.W.Frag) : R2 := kIn K
@[irreducible] def zNotIn (K : PySem.W.Frag) : R2 := kNotIn K
def fNeg : V → Hp → VK → Prop := fun x H Q => match x with | .int i => Q (.int (-i)) H | _ => False
section
variable {X : Cx}
theorem fk_add : OpR X (binaryOp .Add) (fAdd X.K) := by
  intro pins s σ H x y v u Q I rx ry h
  refine ok_add pins s σ H x y v u Q I rx ry ?_
  cases x <;> cases y <;> first | exact False.elim h | exact h | skip
  · have h2 : zAddS _ _ H Q := h
    unfold zAddS at h2; exact h2
  · have h2 : zAddR _ _ _ H Q := h
    unfold zAddR at h2; exact h2
theorem fk_sub : OpR X (binaryOp .Sub) fSub := by
  intro pins s σ H x y v u Q I rx ry h
  refine ok_sub pins s σ H x y v u Q I rx ry ?_
  cases x <;> cases y <;> first | exact False.elim h | exact ⟨_, _, rfl, rfl, h⟩
theorem fk_mul : OpR X (binaryOp .Mult) (fMul X.K) := by
  intro pins s σ H x y v u Q I rx ry h
  refine ok_mul pins s σ H x y v u Q I rx ry ?_
  cases x <;> cases y <;> first | exact False.elim h | skip
  · have h2 : zMulI _ _ H Q := h
    unfold zMulI at h2; exact h2
  · have h2 : zMulR _ _ H Q := h
    unfold zMulR at h2; exact h2
theorem fk_div : OpR X (binaryOp .FloorDiv) fDiv := by
  intro pins s σ H x y v u Q I rx ry h
  refine ok_div pins s σ H x y v u Q I rx ry ?_
  cases x <;> cases y <;> first | exact False.elim h | skip
  have h2 : zDivI _ _ H Q := h
  unfold zDivI at h2; exact ⟨_, _, rfl, rfl, h2⟩
theorem fk_mod : OpR X (binaryOp .Mod) fMod := by
  intro pins s σ H x y v u Q I rx ry h
  refine ok_mod pins s σ H x y v u Q I rx ry ?_
  cases x <;> cases y <;> first | exact False.elim h | skip
  have h2 : zModI _ _ H Q := h
  unfold zModI at h2; exact ⟨_, _, rfl, rfl, h2⟩
theorem fk_pow : OpR X (binaryOp .Pow) fPow := by
  intro pins s σ H x y v u Q I rx ry h
  refine ok_pow pins s σ H x y v u Q I rx ry ?_
  cases x <;> cases y <;> first | exact False.elim h | skip
  have h2 : zPowI _ _ H Q := h
  unfold zPowI at h2; exact ⟨_, _, rfl, rfl, h2⟩
theorem fk_lt : OpR X (compareOp .Lt) fLt := by
  intro pins s σ H x y v u Q I rx ry h
  refine ok_lt pins s σ H x y v u Q I rx ry ?_
  cases x <;> cases y <;> first | exact False.elim h | exact ⟨_, _, rfl, rfl, h⟩
theorem fk_le : OpR X (compareOp .LtE) fLe := by
  intro pins s σ H x y v u Q I rx ry h
  refine ok_le pins s σ H x y v u Q I rx ry ?_
  cases x <;> cases y <;> first | exact False.elim h | exact ⟨_, _, rfl, rfl, h⟩
theorem fk_gt : OpR X (compareOp .Gt) fGt := by
  intro pins s σ H x y v u Q I rx ry h
  refine ok_gt pins s σ H x y v u Q I rx ry ?_
  cases x <;> cases y <;> first | exact False.elim h | exact ⟨_, _, rfl, rfl, h⟩
theorem fk_ge : OpR X (compareOp .GtE) fGe := by
  intro pins s σ H x y v u Q I rx ry h
  refine ok_ge pins s σ H x y v u Q I rx ry ?_
  cases x <;> cases y <;> first | exact False.elim h | exact ⟨_, _, rfl, rfl, h⟩
theorem fk_eq (hu : X.A.units + 64 < cLine) : OpR X (compareOp .Eq) (fEq X.K) := by
  intro pins s σ H x y v u Q I rx ry h
  refine ok_eq hu pins s σ H x y v u Q I rx ry ?_
  have stuck : zEq X.K x y H Q → kEq X.K x y H Q := fun h => by unfold zEq at h; exact h
  cases x <;> cases y <;> first | exact stuck h | exact g_eqI h | exact g_eqS h | exact g_eqB h | exact .inl ⟨rfl, h⟩
theorem fk_ne (hu : X.A.units + 64 < cLine) : OpR X (compareOp .NotEq) (fNe X.K) := by
  intro pins s σ H x y v u Q I rx ry h
  refine ok_ne hu pins s σ H x y v u Q I rx ry ?_
  have stuck : zNe X.K x y H Q → kNe X.K x y H Q := fun h => by unfold zNe at h; exact h
  cases x <;> cases y <;> first | exact stuck h | exact g_neI h | exact g_neS h | exact g_neB h | exact .inl ⟨rfl, h⟩
theorem fk_ix : IxR X (zIx X.K) := by unfold zIx; exact ix_seq
theorem fk_in (hu : X.A.units + 65 < cLine) : OpR X (compareOp .In) (zIn X.K) := by unfold zIn; exact ok_in hu
theorem fk_notIn (hu : X.A.units + 65 < cLine) : OpR X (compareOp .NotIn) (zNotIn X.K) := by unfold zNotIn; exact ok_notIn hu
end

/-! ### what is called, method by method -/
@[irreducible] def zLen (K : PySem.W.Frag) (x : V) (H : Hp) (Q : VK) : Prop := kLen K [x] H Q
def fLen (K : PySem.W.Frag) : List V → Hp → VK → Prop := fun xs H Q => match xs with | [x] => zLen K x H Q | _ => False
@[irreducible] def zList (K : PySem.W.Frag) : List V → Hp → VK → Prop := kList K
@[irreducible] def zTuple (K : PySem.W.Frag) : List V → Hp → VK → Prop := kTuple K
@[irreducible] def zAny (K : PySem.W.Frag) : List V → Hp → VK → Prop := rAny K
@[irreducible] def zAll (K : PySem.W.Frag) : List V → Hp → VK → Prop := rAll K
def fAbs : List V → Hp → VK → Prop := fun xs H Q => match xs with | [.int i] => Q (.int (if i < 0 then -i else i)) H | _ => False
def fMin2 : List V → Hp → VK → Prop := fun xs H Q => match xs with | [.int i, .int j] => Q (.int (if j < i then j else i)) H | _ => False
def fMax2 : List V → Hp → VK → Prop := fun xs H Q => match xs with | [.int i, .int j] => Q (.int (if j > i then j else i)) H | _ => False
def fStarts : V → List V → Hp → VK → Prop := fun x xs H Q => match x, xs with | .str a, [.str b] => Q (.bl (Txt.startswith a b)) H | _, _ => False
@[irreducible] def zAppend : V → List V → Hp → VK → Prop := rAppend
@[irreducible] def zInsert : V → List V → Hp → VK → Prop := kInsert
@[irreducible] def zIndexD (K : PySem.W.Frag) : V → List V → Hp → VK → Prop := rIndexD K
@[irreducible] def zSlL (K : PySem.W.Frag) : V → Option Int → Option Int → Hp → VK → Prop := rSlL K
@[irreducible] def zSlT (K : PySem.W.Frag) : V → Option Int → Option Int → Hp → VK → Prop := rSlT K
@[irreducible] def zSlS : V → Option Int → Option Int → Hp → VK → Prop := rSlS
@[irreducible] def zSetL : TSet := rSetL
section
variable {X : Cx}
theorem fk_len : CallR X (.builtin "len") (fLen X.K) := by
  intro pins s σ H xs us Q I r h
  unfold fLen at h
  split at h
  · refine ok_len pins s σ H _ us Q I r ?_
    unfold zLen at h
    exact h
  · exact h.elim
theorem fk_list : CallR X (.type "list") (zList X.K) := by unfold zList; exact ok_list
theorem fk_tuple : CallR X (.type "tuple") (zTuple X.K) := by unfold zTuple; exact ok_tuple
theorem fk_any (hc : X.calm = true) : CallR X (.builtin "any") (zAny X.K) := by unfold zAny; exact ok_any hc
theorem fk_all (hc : X.calm = true) : CallR X (.builtin "all") (zAll X.K) := by unfold zAll; exact ok_all hc
theorem fk_abs : CallR X (.builtin "abs") fAbs := by
  intro pins s σ H xs us Q I r h
  unfold fAbs at h
  split at h
  · exact ok_abs pins s σ H _ us Q I r ⟨_, rfl, h⟩
  · exact h.elim
theorem fk_min2 (hc : X.calm = true) : CallR X (.builtin "min") fMin2 := by
  intro pins s σ H xs us Q I r h
  unfold fMin2 at h
  split at h
  · exact ok_min2 hc pins s σ H _ us Q I r ⟨_, _, rfl, h⟩
  · exact h.elim
theorem fk_max2 (hc : X.calm = true) : CallR X (.builtin "max") fMax2 := by
  intro pins s σ H xs us Q I r h
  unfold fMax2 at h
  split at h
  · exact ok_max2 hc pins s σ H _ us Q I r ⟨_, _, rfl, h⟩
  · exact h.elim
theorem fm_starts : MtR X "str.startswith" fStarts := by
  intro pins s σ H x xs v us Q I rx r h
  unfold fStarts at h
  split at h
  · exact ok_starts pins s σ H _ _ v us Q I rx r ⟨_, _, rfl, rfl, h⟩
  · exact h.elim
theorem fm_append : MtR X "list.append" zAppend := by unfold zAppend; exact mt_append
theorem fm_insert : MtR X "list.insert" zInsert := by unfold zInsert; exact ok_insert
theorem fm_index (hu : X.A.units + 65 < cLine) : MtR X "list.index" (zIndexD X.K) := by unfold zIndexD; exact mt_indexD hu
end
/-! ### loops -/
@[irreducible] def zForL (K : PySem.W.Frag) (g : TG) (tb : TS) (D : Ends) (σ : L2.St) (x : V) (H1 : Hp) : Prop := kForL K g tb D σ x H1
@[irreducible] def zForT (K : PySem.W.Frag) (g : TG) (tb : TS) (D : Ends) (σ : L2.St) (x : V) (H1 : Hp) : Prop := kForT K g tb D σ x H1
@[irreducible] def zForR (g : TG) (tb : TS) (D : Ends) (σ : L2.St) (xs : List V) (H1 : Hp) : Prop := kForR g tb D σ xs H1
@[irreducible] def zForS (g : TG) (tb : TS) (D : Ends) (σ : L2.St) (x : V) (H1 : Hp) : Prop := kForS g tb D σ x H1
def fForL (K : PySem.W.Frag) (tl : TE) (g : TG) (tb : TS) : TS := fun D σ H => tl σ H (zForL K g tb D σ)
theorem fForL_eq (K : PySem.W.Frag) (tl : TE) (g : TG) (tb : TS) : tFor (iList K tl) g tb = fForL K tl g tb := by unfold fForL zForL; rfl
def fForT (K : PySem.W.Frag) (tl : TE) (g : TG) (tb : TS) : TS := fun D σ H => tl σ H (zForT K g tb D σ)
theorem fForT_eq (K : PySem.W.Frag) (tl : TE) (g : TG) (tb : TS) : tFor (iTup K tl) g tb = fForT K tl g tb := by unfold fForT zForT; rfl
def fForR (tl : TA) (g : TG) (tb : TS) : TS := fun D σ H => tl σ H (zForR g tb D σ)
theorem fForR_eq (tl : TA) (g : TG) (tb : TS) : tFor (iRng1 tl) g tb = fForR tl g tb := by unfold fForR zForR; rfl
def fForS (tl : TE) (g : TG) (tb : TS) : TS := fun D σ H => tl σ H (zForS g tb D σ)
theorem fForS_eq (tl : TE) (g : TG) (tb : TS) : tFor (iStr tl) g tb = fForS tl g tb := by unfold fForS zForS; rfl
@[irreducible] def zFoInv (K0 : Hp) (Inv : Nat → L2.St → Hp → Ow → Prop) (i : Nat) (σ : L2.St) (H : Hp) : Prop := FoInv K0 Inv i σ H
@[irreducible] def zWhInv (W : Nat → L2.St → Hp → Prop) (m : Nat) (σ : L2.St) (H : Hp) : Prop := WhInv W m σ H
@[irreducible] def zWhile (c : TT) (tb : TS) : TS := tWhile c tb
theorem zWhile_eq (c : TT) (tb : TS) : tWhile c tb = zWhile c tb := by unfold zWhile; rfl
@[irreducible] def zWh (W : Nat → L2.St → Hp → Prop) (m : Nat) (tb : TS) (D : Ends) (σ : L2.St) (b : Bool) (H : Hp) : Prop := kWh W m tb D σ b H
@[irreducible] def zLcL (K : PySem.W.Frag) (g : TG) (tt : TT) (te : TE) (vs : List Nat) (σ : L2.St) (Q : VK) (x : V) (H1 : Hp) : Prop := kLcL K g tt te vs σ Q x H1
@[irreducible] def zLcT (K : PySem.W.Frag) (g : TG) (tt : TT) (te : TE) (vs : List Nat) (σ : L2.St) (Q : VK) (x : V) (H1 : Hp) : Prop := kLcT K g tt te vs σ Q x H1
@[irreducible] def zLcR (g : TG) (tt : TT) (te : TE) (vs : List Nat) (σ : L2.St) (Q : VK) (xs : List V) (H1 : Hp) : Prop := kLcR g tt te vs σ Q xs H1
@[irreducible] def zLcS (g : TG) (tt : TT) (te : TE) (vs : List Nat) (σ : L2.St) (Q : VK) (x : V) (H1 : Hp) : Prop := ∃ z, x = .str z ∧ kLc g tt te vs σ Q (Its z) H1
def fLcL (K : PySem.W.Frag) (tl : TE) (g : TG) (tt : TT) (te : TE) (vs : List Nat) : TE := fun σ H Q => tl σ H (zLcL K g tt te vs σ Q)
theorem fLcL_eq (K : PySem.W.Frag) (tl : TE) (g : TG) (tt : TT) (te : TE) (vs : List Nat) : tLc (iList K tl) g tt te vs = fLcL K tl g tt te vs := by unfold fLcL zLcL; rfl
def fLcT (K : PySem.W.Frag) (tl : TE) (g : TG) (tt : TT) (te : TE) (vs : List Nat) : TE := fun σ H Q => tl σ H (zLcT K g tt te vs σ Q)
theorem fLcT_eq (K : PySem.W.Frag) (tl : TE) (g : TG) (tt : TT) (te : TE) (vs : List Nat) : tLc (iTup K tl) g tt te vs = fLcT K tl g tt te vs := by unfold fLcT zLcT; rfl
def fLcR (tl : TA) (g : TG) (tt : TT) (te : TE) (vs : List Nat) : TE := fun σ H Q => tl σ H (zLcR g tt te vs σ Q)
theorem fLcR_eq (tl : TA) (g : TG) (tt : TT) (te : TE) (vs : List Nat) : tLc (iRng1 tl) g tt te vs = fLcR tl g tt te vs := by unfold fLcR zLcR; rfl
def fLcS (tl : TE) (g : TG) (tt : TT) (te : TE) (vs : List Nat) : TE := fun σ H Q => tl σ H (zLcS g tt te vs σ Q)
theorem fLcS_eq (tl : TE) (g : TG) (tt : TT) (te : TE) (vs : List Nat) : tLc (iStr tl) g tt te vs = fLcS tl g tt te vs := by unfold fLcS zLcS; rfl
@[irreducible] def zLcInv (K0 : Hp) (Inv : Nat → List V → Hp → Ow → Prop) (D : Addr) (i : Nat) (H : Hp) : Prop := LcInv K0 Inv D i H
@[irreducible] def zEl (K0 : Hp) (Inv : Nat → List V → Hp → Ow → Prop) (D : Addr) (i : Nat) (y : V) (H : Hp) : Prop := kEl K0 Inv D i y H
@[irreducible] def zTs (K0 : Hp) (Inv : Nat → List V → Hp → Ow → Prop) (D : Addr) (i : Nat) (te : TE) (σ : L2.St) (b : Bool) (H : Hp) : Prop := if b = true then te σ H (zEl K0 Inv D i) else zLcInv K0 Inv D (i + 1) H
@[irreducible] def zTg (K0 : Hp) (Inv : Nat → List V → Hp → Ow → Prop) (D : Addr) (i : Nat) (tt : TT) (te : TE) (vs : List Nat) (σ0 σ : L2.St) (H : Hp) : Prop := wipe σ vs = wipe σ0 vs ∧ tt σ H (zTs K0 Inv D i te σ)

/-! ### what is stuck goes on -/
section
variable {K : PySem.W.Frag} {K0 H H' : Hp} {L : Ow} {σ σ0 : L2.St} {n : L2.St → Hp → Prop} {r : VK} {bk ct : L2.St → Hp → Prop} {D : Ends} {t u : TS} {te tu tv : TE} {ta tr : TA} {tt tw : TT} {Q : VK} {QT : Bool → Hp → Prop} {QG : L2.St → Hp → Prop}
  {v x y : V} {xs ys vs : List V} {i : Nat} {a p q : Addr} {o : HO} {f : HO → Ow} {b c : Bool} {E : XK} {sp : Sp} {A B : Str} {j k : Int}
theorem z_ifT (e : b = true) (h : t D σ H) : zIfS t u D σ b H := by unfold zIfS; rw [if_pos e]; exact h
theorem z_ifF (e : b = false) (h : u D σ H) : zIfS t u D σ b H := by unfold zIfS; rw [if_neg (by rw [e]; decide)]; exact h
theorem z_ifB (h1 : b = true → t D σ H) (h2 : b = false → u D σ H) : zIfS t u D σ b H := by
  cases b with
  | true => exact z_ifT rfl (h1 rfl)
  | false => exact z_ifF rfl (h2 rfl)
theorem z_ifD {c : Prop} [Decidable c] (h1 : c → t D σ H) (h2 : ¬ c → u D σ H) : zIfS t u D σ (decide c) H :=
  z_ifB (fun e => h1 (of_decide_eq_true e)) fun e => h2 (of_decide_eq_false e)
theorem z_ifN {c : Prop} [Decidable c] (h1 : ¬ c → t D σ H) (h2 : c → u D σ H) : zIfS t u D σ (!decide c) H := by
  by_cases h : c
  · exact z_ifF (by simp [h]) (h2 h)
  · exact z_ifT (by simp [h]) (h1 h)
theorem z_ifET (e : b = true) (h : te σ H Q) : zIfE te tu σ Q b H := by unfold zIfE; rw [if_pos e]; exact h
theorem z_ifEF (e : b = false) (h : tu σ H Q) : zIfE te tu σ Q b H := by unfold zIfE; rw [if_neg (by rw [e]; decide)]; exact h
theorem z_ifEB (h1 : b = true → te σ H Q) (h2 : b = false → tu σ H Q) : zIfE te tu σ Q b H := by
  cases b with
  | true => exact z_ifET rfl (h1 rfl)
  | false => exact z_ifEF rfl (h2 rfl)
theorem z_andT (e : b = true) (h : tw σ H QT) : zAndT tw σ QT b H := by unfold zAndT; rw [if_pos e]; exact h
theorem z_andF (e : b = false) (h : QT false H) : zAndT tw σ QT b H := by unfold zAndT; rw [if_neg (by rw [e]; decide)]; exact h
theorem z_orT (e : b = true) (h : QT true H) : zOrT tw σ QT b H := by unfold zOrT; rw [if_pos e]; exact h
theorem z_orF (e : b = false) (h : tw σ H QT) : zOrT tw σ QT b H := by unfold zOrT; rw [if_neg (by rw [e]; decide)]; exact h
theorem z_andB (h1 : b = true → tw σ H QT) (h2 : b = false → QT false H) : zAndT tw σ QT b H := by
  cases b with
  | true => exact z_andT rfl (h1 rfl)
  | false => exact z_andF rfl (h2 rfl)
theorem z_orB (h1 : b = true → QT true H) (h2 : b = false → tw σ H QT) : zOrT tw σ QT b H := by
  cases b with
  | true => exact z_orT rfl (h1 rfl)
  | false => exact z_orF rfl (h2 rfl)
theorem z_andVT (e : b = true) (h : tu σ H Q) : zAndV tu σ Q b H := by unfold zAndV; rw [if_pos e]; exact h
theorem z_andVF (e : b = false) (h : Q (.bl false) H) : zAndV tu σ Q b H := by unfold zAndV; rw [if_neg (by rw [e]; decide)]; exact h
theorem z_orVT (e : b = true) (h : Q (.bl true) H) : zOrV tu σ Q b H := by unfold zOrV; rw [if_pos e]; exact h
theorem z_orVF (e : b = false) (h : tu σ H Q) : zOrV tu σ Q b H := by unfold zOrV; rw [if_neg (by rw [e]; decide)]; exact h
theorem z_andVB (h1 : b = true → tu σ H Q) (h2 : b = false → Q (.bl false) H) : zAndV tu σ Q b H := by
  cases b with
  | true => exact z_andVT rfl (h1 rfl)
  | false => exact z_andVF rfl (h2 rfl)
theorem z_orVB (h1 : b = true → Q (.bl true) H) (h2 : b = false → tu σ H Q) : zOrV tu σ Q b H := by
  cases b with
  | true => exact z_orVT rfl (h1 rfl)
  | false => exact z_orVF rfl (h2 rfl)
theorem z_andP (h : ∀ QQ : Bool → Hp → Prop, QQ c H → tw σ H QQ) (hq : QT (b && c) H) : zAndT tw σ QT b H := by
  cases b with
  | true => exact z_andT rfl (h _ hq)
  | false => exact z_andF rfl hq
theorem z_orP (h : ∀ QQ : Bool → Hp → Prop, QQ c H → tw σ H QQ) (hq : QT (b || c) H) : zOrT tw σ QT b H := by
  cases b with
  | true => exact z_orT rfl hq
  | false => exact z_orF rfl (h _ hq)
theorem z_andVP (h : ∀ QQ : VK, QQ (.bl c) H → tu σ H QQ) (hq : Q (.bl (b && c)) H) : zAndV tu σ Q b H := by
  cases b with
  | true => exact z_andVT rfl (h _ hq)
  | false => exact z_andVF rfl hq
theorem z_orVP (h : ∀ QQ : VK, QQ (.bl c) H → tu σ H QQ) (hq : Q (.bl (b || c)) H) : zOrV tu σ Q b H := by
  cases b with
  | true => exact z_orVT rfl hq
  | false => exact z_orVF rfl (h _ hq)
theorem z_seq (h : fSeq t u D σ H) : zSeq t u D σ H := by rw [← zSeq_eq, fSeq_eq]; exact h
theorem z_join (P : L2.St → Hp → Prop) (j : ∀ σ' H', P σ' H' → u ⟨n, r, bk, ct⟩ σ' H') (h : ∀ n' : L2.St → Hp → Prop, (∀ σ' H', P σ' H' → n' σ' H') → t ⟨n', r, bk, ct⟩ σ H) : zSeq t u ⟨n, r, bk, ct⟩ σ H := z_seq (h _ j)
theorem z_lst (w : Own K0 L H) (hl : Nat.ble xs.length 16777216 = true) (k : ∀ p H', Own K0 ((p, .lst xs) :: L) H' → Q (.ref p) H') : zLst Q xs H := by
  unfold zLst
  exact ⟨by rw [sizeLine_eq]; exact Nat.le_of_ble_eq_true hl, fun p hp => k p _ (w.new hp _)⟩
theorem z_tup (w : Own K0 L H) (hl : Nat.ble xs.length 16777216 = true) (k : ∀ p H', Own K0 ((p, .tup xs) :: L) H' → Q (.ref p) H') : zTup Q xs H := by
  unfold zTup
  exact ⟨by rw [sizeLine_eq]; exact Nat.le_of_ble_eq_true hl, fun p hp => k p _ (w.new hp _)⟩
theorem z_callN {n m : Nat} {gV : List V → List V → List V} {vs zs : List V} (h1 : vs.length = n) (h2 : zs.length = m) (h : fCat (gV vs zs) [] fun l => sp l H Q E) : zCallN n m sp gV E Q vs zs H := by
  unfold zCallN
  rw [fCat_eq, List.append_nil] at h
  exact ⟨h1, h2, h⟩
section
variable {rm : V → List V → Hp → VK → Prop}
theorem z_BMs (h : ta σ H fun xs H2 => rm (.str A) xs H2 Q) : zBM K "str" rm ta σ Q (.str A) H := by unfold zBM; exact ⟨rfl, h⟩
theorem z_BMl (hs : SqL K H p xs) (h : ta σ H fun ys H2 => rm (.ref p) ys H2 Q) : zBM K "list" rm ta σ Q (.ref p) H := by unfold zBM; exact ⟨.inl ⟨rfl, _, hs⟩, h⟩
theorem z_BM0s (h : rm (.str A) [] H Q) : zBM0 K "str" rm Q (.str A) H := by unfold zBM0; exact ⟨rfl, h⟩
theorem z_BM0l (hs : SqL K H p xs) (h : rm (.ref p) [] H Q) : zBM0 K "list" rm Q (.ref p) H := by unfold zBM0; exact ⟨.inl ⟨rfl, _, hs⟩, h⟩
end
theorem z_tupT {n : Nat} {t : TGs} (hs : SqT K H p xs) (hl : xs.length = n) (h : t xs σ H QG) : zGTup K n t (.ref p) σ H QG := by unfold zGTup; exact g_tupT hs hl h
theorem z_addS (hl : A.length + B.length ≤ 1000000) (h : Q (.str (A ++ B)) H) : zAddS A B H Q := by unfold zAddS; exact ⟨len_le hl, h⟩
theorem z_addL (w : Own K0 L H) (h1 : H p = some (.lst xs)) (h2 : H q = some (.lst ys)) (hl : xs.length + ys.length ≤ 1000000) (k : ∀ l H', Own K0 ((l, .lst (xs ++ ys)) :: L) H' → Q (.ref l) H') : zAddR K p q H Q := by
  unfold zAddR; exact .inl ⟨p, q, xs, ys, rfl, rfl, h1, h2, len_le hl, fun l hl => k l _ (w.new hl _)⟩
theorem z_mulI (hc : CMul j k) (h : Q (.int (j * k)) H) : zMulI j k H Q := by unfold zMulI; exact ⟨hc, h⟩
theorem z_mulL (w : Own K0 L H) (h1 : H p = some (.lst xs)) (hk : -(2 ^ 63) ≤ j ∧ j < 2 ^ 63) (hl : xs.length * j.toNat ≤ 1000000) (k : ∀ l H', Own K0 ((l, .lst (List.replicate j.toNat xs).flatten) :: L) H' → Q (.ref l) H') : zMulR p j H Q := by
  unfold zMulR; exact g_mulL w h1 hk hl k
theorem z_divI (hc : 0 < k ∧ k < 1073741824) (h : Q (.int (j / k)) H) : zDivI j k H Q := by unfold zDivI; exact ⟨hc, h⟩
theorem z_modI (hc : 0 < k) (h : Q (.int (j % k)) H) : zModI j k H Q := by unfold zModI; exact ⟨hc, h⟩
theorem z_powI (hc : 0 ≤ k ∧ k ≤ 1000000 ∧ j.natAbs < 2 ^ 64) (h : Q (.int (j ^ k.toNat)) H) : zPowI j k H Q := by unfold zPowI; exact ⟨hc, h⟩
theorem z_eqD {d e : PyData} (hd : Dp K H x d) (he : Dp K H y e) (sd : SeqAt.shaped d = true) (se : SeqAt.shaped e = true) (h : Q (.bl (PyData.eqv d e)) H) : zEq K x y H Q := by unfold zEq; exact .inr ⟨d, e, hd, he, sd, se, h⟩
theorem z_neD {d e : PyData} (hd : Dp K H x d) (he : Dp K H y e) (sd : SeqAt.shaped d = true) (se : SeqAt.shaped e = true) (h : Q (.bl (!PyData.eqv d e)) H) : zNe K x y H Q := by unfold zNe; exact .inr ⟨d, e, hd, he, sd, se, h⟩
theorem z_ixL (hs : SqL K H p xs) (ha : atI xs j = some v) (h : Q v H) : zIx K (.ref p) (.int j) H Q := by unfold zIx; exact g_ixL hs ha h
theorem z_ixT (hs : SqT K H p xs) (ha : atI xs j = some v) (h : Q v H) : zIx K (.ref p) (.int j) H Q := by unfold zIx; exact g_ixT hs ha h
theorem z_ixS {m : Nat} (hl : A.length ≤ 1000000) (ha : atI A.cps.toList j = some m) (h : Q (.str ⟨#[m]⟩) H) : zIx K (.str A) (.int j) H Q := by unfold zIx; exact .inr (.inr ⟨A, j, m, rfl, rfl, len_le hl, ha, h⟩)
theorem z_inL (hs : SqL K H p xs) (hx : flatV x = true) (ha : xs.all flatV = true) (h : Q (.bl (inV x xs)) H) : zIn K x (.ref p) H Q := by unfold zIn; exact g_inL hs hx ha h
theorem z_inT (hs : SqT K H p xs) (hx : flatV x = true) (ha : xs.all flatV = true) (h : Q (.bl (inV x xs)) H) : zIn K x (.ref p) H Q := by unfold zIn; exact g_inT hs hx ha h
theorem z_inD {d : PyData} {ds : List PyData} (hd : Dp K H x d) (he : Dp K H y (.list ds)) (sd : SeqAt.shaped d = true) (se : SeqAt.shaped (.list ds) = true) (h : Q (.bl (ds.any fun z => PyData.eqv z d)) H) : zIn K x y H Q := by unfold zIn; exact g_inD hd he sd se h
theorem z_lenS (hl : A.length ≤ 1000000) (h : Q (.int A.length) H) : zLen K (.str A) H Q := by unfold zLen; exact g_lenS hl h
theorem z_lenL (hs : SqL K H p xs) (h : Q (.int xs.length) H) : zLen K (.ref p) H Q := by unfold zLen; exact g_lenL hs h
theorem z_lenT (hs : SqT K H p xs) (h : Q (.int xs.length) H) : zLen K (.ref p) H Q := by unfold zLen; exact g_lenT hs h
theorem z_listL (w : Own K0 L H) (hs : SqL K H p xs) (k : ∀ l H', Own K0 ((l, .lst xs) :: L) H' → Q (.ref l) H') : zList K [.ref p] H Q := by unfold zList; exact g_listL w hs k
theorem z_listT (w : Own K0 L H) (hs : SqT K H p xs) (k : ∀ l H', Own K0 ((l, .lst xs) :: L) H' → Q (.ref l) H') : zList K [.ref p] H Q := by unfold zList; exact g_listT w hs k
theorem z_tupleL (w : Own K0 L H) (hs : SqL K H p xs) (k : ∀ l H', Own K0 ((l, .tup xs) :: L) H' → Q (.ref l) H') : zTuple K [.ref p] H Q := by unfold zTuple; exact g_tupleL w hs k
theorem z_any {bs : List Bool} (hs : SqL K H p (bs.map V.bl)) (h : Q (.bl (bs.any id)) H) : zAny K [.ref p] H Q := by unfold zAny; exact g_any hs h
theorem z_all {bs : List Bool} (hs : SqL K H p (bs.map V.bl)) (h : Q (.bl (bs.all id)) H) : zAll K [.ref p] H Q := by unfold zAll; exact g_all hs h
theorem z_append (w : Own K0 L H) (s : Sel L p (.lst xs) f) (hl : xs.length ≤ 1000000) (k : ∀ H', Own K0 (f (.lst (xs ++ [v]))) H' → Q .non H') : zAppend (.ref p) [v] H Q := by unfold zAppend; exact g_append w s hl k
theorem z_insert {i : Int} (w : Own K0 L H) (s : Sel L p (.lst xs) f) (hl : xs.length ≤ 1000000) (hi : 0 ≤ i ∧ i < 2 ^ 63) (k : ∀ H', Own K0 (f (.lst (xs.take i.toNat ++ [y] ++ xs.drop i.toNat))) H' → Q .non H') : zInsert (.ref p) [.int i, y] H Q := by unfold zInsert; exact g_insert w s hl hi k
theorem z_slL {l u : Option Int} (w : Own K0 L H) (hs : SqL K H p xs) (k : ∀ q H', Own K0 ((q, .lst (cutV xs l u)) :: L) H' → Q (.ref q) H') : zSlL K (.ref p) l u H Q := by unfold zSlL; exact g_slL w hs k
theorem z_slS {l u : Option Int} (hl : A.length ≤ 1000000) (h : Q (.str (cutS A l u)) H) : zSlS (.str A) l u H Q := by unfold zSlS; exact g_slS hl h
theorem z_setL {g : Hp → Prop} {j : Int} {m : Nat} (w : Own K0 L H) (s : Sel L p (.lst xs) f) (hi : ixN xs.length j = some m) (k : ∀ H', Own K0 (f (.lst (xs.set m v))) H' → g H') : zSetL (.ref p) (.int j) v H g := by unfold zSetL; exact g_rSetL w s hi k
end
section
variable {K : PySem.W.Frag} {K0 K1 H H1 : Hp} {L L' : Ow} {g : TG} {tb : TS} {tt : TT} {te : TE} {σ σ0 : L2.St} {n : L2.St → Hp → Prop} {r : VK} {bk ct : L2.St → Hp → Prop} {a D : Addr} {xs acc : List V} {i : Nat} {y : V} {b : Bool} {vs : List Nat} {Q : VK}
theorem z_forL (w : Own K0 L H) (hx : SqL K K0 a xs) (Inv : Nat → L2.St → Hp → Ow → Prop) (h0 : Inv 0 σ K0 L)
    (hs : ∀ i x σ K' L' H', xs[i]? = some x → Same K0 K' → Inv i σ K' L' → Own K' L' H' → g x σ H' fun σ2 H2 => tb ⟨zFoInv K0 Inv (i + 1), r, n, zFoInv K0 Inv (i + 1)⟩ σ2 H2)
    (hd : ∀ σ K' L' H', Same K0 K' → Inv xs.length σ K' L' → Own K' L' H' → n σ H') : zForL K g tb ⟨n, r, bk, ct⟩ σ (.ref a) H := by
  unfold zForL
  unfold zFoInv at hs
  exact fo_L w hx Inv h0 hs hd
theorem z_forT (w : Own K0 L H) (hx : SqT K K0 a xs) (Inv : Nat → L2.St → Hp → Ow → Prop) (h0 : Inv 0 σ K0 L)
    (hs : ∀ i x σ K' L' H', xs[i]? = some x → Same K0 K' → Inv i σ K' L' → Own K' L' H' → g x σ H' fun σ2 H2 => tb ⟨zFoInv K0 Inv (i + 1), r, n, zFoInv K0 Inv (i + 1)⟩ σ2 H2)
    (hd : ∀ σ K' L' H', Same K0 K' → Inv xs.length σ K' L' → Own K' L' H' → n σ H') : zForT K g tb ⟨n, r, bk, ct⟩ σ (.ref a) H := by
  unfold zForT
  unfold zFoInv at hs
  exact fo_T w hx Inv h0 hs hd
theorem z_forR {m : Int} (w : Own K0 L H) (hm : m ≤ 1000000 ∧ -1000000 ≤ m) (Inv : Nat → L2.St → Hp → Ow → Prop) (h0 : Inv 0 σ K0 L)
    (hs : ∀ (i : Nat) σ K' L' H', (i : Int) < m → Same K0 K' → Inv i σ K' L' → Own K' L' H' → g (.int i) σ H' fun σ2 H2 => tb ⟨zFoInv K0 Inv (i + 1), r, n, zFoInv K0 Inv (i + 1)⟩ σ2 H2)
    (hd : ∀ σ K' L' H', Same K0 K' → Inv m.toNat σ K' L' → Own K' L' H' → n σ H') : zForR g tb ⟨n, r, bk, ct⟩ σ [.int m] H := by
  unfold zForR
  unfold zFoInv at hs
  exact fo_R w hm Inv h0 hs hd
theorem z_foInv {Inv : Nat → L2.St → Hp → Ow → Prop} (w : Own K1 L' H) (s : Same K0 K1) (h : Inv i σ K1 L') : zFoInv K0 Inv i σ H := by unfold zFoInv; exact g_foInv w s h
theorem z_wh {m0 : Nat} {tc : TT} (W : Nat → L2.St → Hp → Prop) (h0 : W m0 σ H) (hs : ∀ m σ' H', W m σ' H' → tc σ' H' (zWh W m tb ⟨n, r, bk, ct⟩ σ')) : zWhile tc tb ⟨n, r, bk, ct⟩ σ H := by
  unfold zWhile
  unfold zWh at hs
  exact wh_by W h0 hs
theorem z_whB {W : Nat → L2.St → Hp → Prop} {m : Nat} (h1 : b = true → tb ⟨zWhInv W m, r, n, zWhInv W m⟩ σ H) (h2 : b = false → n σ H) : zWh W m tb ⟨n, r, bk, ct⟩ σ b H := by
  unfold zWh
  unfold zWhInv at h1
  exact g_whB h1 h2
theorem z_whInv {W : Nat → L2.St → Hp → Prop} {m m' : Nat} (hm : m' < m) (h : W m' σ H) : zWhInv W m σ H := by unfold zWhInv; exact ⟨m', hm, h⟩
theorem tg_is {Inv : Nat → List V → Hp → Ow → Prop} : zTg K0 Inv D i tt te vs σ0 = kTg K0 Inv D i tt te vs σ0 := by
  funext σ H
  unfold zTg kTg
  have e : zTs K0 Inv D i te σ = kTs K0 Inv D i te σ := by
    funext b H
    unfold zTs kTs zEl zLcInv
    rfl
  rw [e]
theorem z_lcL (w : Own K0 L H) (hx : SqL K K0 a xs) (Inv : Nat → List V → Hp → Ow → Prop) (h0 : Inv 0 [] K0 L)
    (hs : ∀ D i x acc K' L' H', xs[i]? = some x → acc.length ≤ i → Same K0 K' → Inv i acc K' L' → Own K' ((D, .lst acc) :: L') H' → fForce (wipe σ vs) fun σ' => g x σ' H' (zTg K0 Inv D i tt te vs σ))
    (hd : ∀ D acc K' L' H', acc.length ≤ xs.length → Same K0 K' → Inv xs.length acc K' L' → Own K' ((D, .lst acc) :: L') H' → Q (.ref D) H') : zLcL K g tt te vs σ Q (.ref a) H := by
  unfold zLcL
  refine lc_L w hx Inv h0 (fun D i x acc K' L' H' a b c d e => ?_) hd
  have h := hs D i x acc K' L' H' a b c d e
  rw [fForce_eq (k := fun σ' => g x σ' H' (zTg K0 Inv D i tt te vs σ)), tg_is] at h
  exact h
theorem z_lcT (w : Own K0 L H) (hx : SqT K K0 a xs) (Inv : Nat → List V → Hp → Ow → Prop) (h0 : Inv 0 [] K0 L)
    (hs : ∀ D i x acc K' L' H', xs[i]? = some x → acc.length ≤ i → Same K0 K' → Inv i acc K' L' → Own K' ((D, .lst acc) :: L') H' → fForce (wipe σ vs) fun σ' => g x σ' H' (zTg K0 Inv D i tt te vs σ))
    (hd : ∀ D acc K' L' H', acc.length ≤ xs.length → Same K0 K' → Inv xs.length acc K' L' → Own K' ((D, .lst acc) :: L') H' → Q (.ref D) H') : zLcT K g tt te vs σ Q (.ref a) H := by
  unfold zLcT
  refine lc_T w hx Inv h0 (fun D i x acc K' L' H' a b c d e => ?_) hd
  have h := hs D i x acc K' L' H' a b c d e
  rw [fForce_eq (k := fun σ' => g x σ' H' (zTg K0 Inv D i tt te vs σ)), tg_is] at h
  exact h
theorem z_lcR {m : Int} (w : Own K0 L H) (hm : m ≤ 1000000) (hm' : -1000000 ≤ m) (Inv : Nat → List V → Hp → Ow → Prop) (h0 : Inv 0 [] K0 L)
    (hs : ∀ D (i : Nat) acc K' L' H', (i : Int) < m → acc.length ≤ i → Same K0 K' → Inv i acc K' L' → Own K' ((D, .lst acc) :: L') H' → fForce (wipe σ vs) fun σ' => g (.int i) σ' H' (zTg K0 Inv D i tt te vs σ))
    (hd : ∀ D acc K' L' H', acc.length ≤ m.toNat → Same K0 K' → Inv m.toNat acc K' L' → Own K' ((D, .lst acc) :: L') H' → Q (.ref D) H') : zLcR g tt te vs σ Q [.int m] H := by
  unfold zLcR
  refine lc_R w hm Inv h0 (fun D i acc K' L' H' a b c d e => ?_) hm' hd
  have h := hs D i acc K' L' H' a b c d e
  rw [fForce_eq (k := fun σ' => g (.int i) σ' H' (zTg K0 Inv D i tt te vs σ)), tg_is] at h
  exact h
theorem z_tg {Inv : Nat → List V → Hp → Ow → Prop} (e : wipe σ vs = wipe σ0 vs) (h : tt σ H (zTs K0 Inv D i te σ)) : zTg K0 Inv D i tt te vs σ0 σ H := by unfold zTg; exact ⟨e, h⟩
theorem z_tsB {Inv : Nat → List V → Hp → Ow → Prop} (h1 : b = true → te σ H (zEl K0 Inv D i)) (h2 : b = false → zLcInv K0 Inv D (i + 1) H) : zTs K0 Inv D i te σ b H := by
  unfold zTs
  cases b with
  | true => rw [if_pos rfl]; exact h1 rfl
  | false => rw [if_neg (by decide)]; exact h2 rfl
theorem z_tsT {Inv : Nat → List V → Hp → Ow → Prop} (e : b = true) (h : te σ H (zEl K0 Inv D i)) : zTs K0 Inv D i te σ b H := z_tsB (fun _ => h) (fun z => by rw [e] at z; cases z)
theorem z_el {Inv : Nat → List V → Hp → Ow → Prop} (w : Own K1 ((D, .lst acc) :: L') H) (s : Same K0 K1) (hl : acc.length ≤ i) (hi : i ≤ 1000000) (h : Inv (i + 1) (acc ++ [y]) K1 L') : zEl K0 Inv D i y H := by unfold zEl; exact g_kEl w s hl hi h
theorem z_lcInv {Inv : Nat → List V → Hp → Ow → Prop} (w : Own K1 ((D, .lst acc) :: L') H) (s : Same K0 K1) (hl : acc.length ≤ i) (h : Inv i acc K1 L') : zLcInv K0 Inv D i H := by unfold zLcInv; exact g_lcInv w s hl h
end
end Wf

set_option Elab.async false
set_option linter.all false
set_option maxRecDepth 100000
set_option maxHeartbeats 4000000
namespace Wf
open PySem PySem.Spec PyProof.Rows L2

/-! ## dicts beside lists -/
section
variable {X : Cx}
def rDIn : R2 := fun y x H Q => ∃ a o, x = .ref a ∧ DGet H a y o ∧ Q (.bl o.isSome) H
def rDNotIn : R2 := fun y x H Q => ∃ a o, x = .ref a ∧ DGet H a y o ∧ Q (.bl (!o.isSome)) H
theorem op_din (hu : X.A.units + 1 < cLine) : OpR X (compareOp .In) rDIn := by
  intro pins s σ H y x iv u Q I ry rx ⟨a, o, ex, g, q⟩
  subst ex
  obtain rfl : u = Value.ref a := rx
  exact d_in hu I g ry fun s3 I3 => ⟨.bl o.isSome, H, I3, rfl, q⟩
theorem op_dnotIn (hu : X.A.units + 1 < cLine) : OpR X (compareOp .NotIn) rDNotIn := by
  intro pins s σ H y x iv u Q I ry rx ⟨a, o, ex, g, q⟩
  subst ex
  obtain rfl : u = Value.ref a := rx
  exact d_notIn hu I g ry fun s3 I3 => ⟨.bl (!o.isSome), H, I3, rfl, q⟩
@[irreducible] def zIn2 (K : PySem.W.Frag) (x y : V) (H : Hp) (Q : VK) : Prop := kIn K x y H Q ∨ rDIn x y H Q
@[irreducible] def zNotIn2 (K : PySem.W.Frag) (x y : V) (H : Hp) (Q : VK) : Prop := kNotIn K x y H Q ∨ rDNotIn x y H Q
@[irreducible] def zInS (x y : Str) (H : Hp) (Q : VK) : Prop := rInS (.str x) (.str y) H Q
@[irreducible] def zNotInS (x y : Str) (H : Hp) (Q : VK) : Prop := rNotInS (.str x) (.str y) H Q
def fIn2 (K : PySem.W.Frag) : R2 := fun x y H Q => match x, y with
  | .str a, .str b => zInS a b H Q
  | x, y => zIn2 K x y H Q
def fNotIn2 (K : PySem.W.Frag) : R2 := fun x y H Q => match x, y with
  | .str a, .str b => zNotInS a b H Q
  | x, y => zNotIn2 K x y H Q
theorem fk_in2 (hu : X.A.units + 65 < cLine) : OpR X (compareOp .In) (fIn2 X.K) := by
  intro pins s σ H x y v u Q I rx ry h
  have stuck : zIn2 X.K x y H Q → wpAny (model X.prog X.w) X.A (compareOp .In v u) (EP X pins σ Q) X.xe s := fun h => by
    unfold zIn2 at h
    rcases h with h | h
    · exact ok_in hu pins s σ H x y v u Q I rx ry h
    · exact op_din (by omega) pins s σ H x y v u Q I rx ry h
  cases x <;> cases y <;> first | exact stuck h | skip
  have h2 : zInS _ _ H Q := h
  unfold zInS at h2
  exact op_inS pins s σ H _ _ v u Q I rx ry h2
theorem fk_notIn2 (hu : X.A.units + 65 < cLine) : OpR X (compareOp .NotIn) (fNotIn2 X.K) := by
  intro pins s σ H x y v u Q I rx ry h
  have stuck : zNotIn2 X.K x y H Q → wpAny (model X.prog X.w) X.A (compareOp .NotIn v u) (EP X pins σ Q) X.xe s := fun h => by
    unfold zNotIn2 at h
    rcases h with h | h
    · exact ok_notIn hu pins s σ H x y v u Q I rx ry h
    · exact op_dnotIn (by omega) pins s σ H x y v u Q I rx ry h
  cases x <;> cases y <;> first | exact stuck h | skip
  have h2 : zNotInS _ _ H Q := h
  unfold zNotInS at h2
  exact op_notInS pins s σ H _ _ v u Q I rx ry h2
def rDIx : R2 := fun x y H Q => ∃ a v, x = .ref a ∧ DGet H a y (some v) ∧ Q v H
theorem ix_dict (hu : X.A.units + 1 < cLine) : IxR X rDIx := by
  intro value slice pins s σ H x y v u Q I rx ry ⟨a, w, ex, g, q⟩ hs
  subst ex
  obtain rfl : v = Value.ref a := rx
  have hT := dict_typeIs I g
  unfold subscriptTail
  refine wpAny_bind ?_
  rw [getitemInPython_of_ne hT.not_modules]
  refine wpAny_bind (wpAny_specialOf hT PySem.F.slot_dict_getitem.lookup ?_)
  have fin : wpAny (model X.prog X.w) X.A (subscripted slice false (Value.ref a) u) (fun r s₃ => wpAny (model X.prog X.w) X.A (letTemporaryGo value (Value.ref a) r >>= fun _ => pure r) (EP X pins σ Q) X.xe s₃) X.xe s := by
    rw [hs]
    exact wpAny_operating (d_getItem hu I g ry fun w' s3 I3 rw' => wpAny_bind (wpAny_letTemporaryGo (wpAny_pure ⟨w, H, I3, rw', q⟩)))
  first
    | exact wpAny_pure (wpAny_bind fin)
    | exact wpAny_bind (wpAny_pure (wpAny_bind fin))
    | exact wpAny_bind fin
@[irreducible] def zIx2 (K : PySem.W.Frag) (x y : V) (H : Hp) (Q : VK) : Prop := rIx K x y H Q ∨ rDIx x y H Q
theorem fk_ix2 (hu : X.A.units + 1 < cLine) : IxR X (zIx2 X.K) := by
  intro value slice pins s σ H x y v u Q I rx ry h hs
  unfold zIx2 at h
  rcases h with h | h
  · exact ix_seq value slice pins s σ H x y v u Q I rx ry h hs
  · exact ix_dict hu value slice pins s σ H x y v u Q I rx ry h hs
@[irreducible] def zSet2 : TSet := fun o i v H Q => rSetL o i v H Q ∨ rSetD o i v H Q
theorem fk_set2 (hu : X.A.units + 1 < cLine) : PSet X zSet2 := by
  intro pins s σ H o i v ov iv u Q I ro ri rv h
  unfold zSet2 at h
  rcases h with h | h
  · exact set_list pins s σ H o i v ov iv u Q I ro ri rv h
  · exact set_dict hu pins s σ H o i v ov iv u Q I ro ri rv h
def rLenD : List V → Hp → VK → Prop := fun xs H Q => ∃ a kvs, xs = [V.ref a] ∧ H a = some (.dK kvs) ∧ Q (.int kvs.length) H
@[irreducible] def zLen2 (K : PySem.W.Frag) (x : V) (H : Hp) (Q : VK) : Prop := kLen K [x] H Q ∨ rLenD [x] H Q
def fLen2 (K : PySem.W.Frag) : List V → Hp → VK → Prop := fun xs H Q => match xs with | [x] => zLen2 K x H Q | _ => False
theorem fk_len2 : CallR X (.builtin "len") (fLen2 X.K) := by
  intro pins s σ H xs us Q I r h
  unfold fLen2 at h
  split at h
  · unfold zLen2 at h
    rcases h with h | h
    · exact ok_len pins s σ H _ us Q I r h
    · exact call_lenD pins s σ H _ us Q I r h
  · exact h.elim
end
section
variable {K : PySem.W.Frag} {K0 H H' : Hp} {L : Ow} {Q : VK} {v x y : V} {xs ys : List V} {a p q : Addr} {o : HO} {f : HO → Ow} {A B : Str} {j k : Int} {kvs : List (Key × V)} {ky : Key}
theorem dget_of (h : H p = some (.dK kvs)) : DGet H p (kV ky) (valV kvs ky) := DGet.k h
theorem z2_ixL (hs : SqL K H p xs) (ha : atI xs j = some v) (h : Q v H) : zIx2 K (.ref p) (.int j) H Q := by unfold zIx2; exact .inl (g_ixL hs ha h)
theorem z2_ixT (hs : SqT K H p xs) (ha : atI xs j = some v) (h : Q v H) : zIx2 K (.ref p) (.int j) H Q := by unfold zIx2; exact .inl (g_ixT hs ha h)
theorem z2_ixS {m : Nat} (hl : A.length ≤ 1000000) (ha : atI A.cps.toList j = some m) (h : Q (.str ⟨#[m]⟩) H) : zIx2 K (.str A) (.int j) H Q := by unfold zIx2; exact .inl (.inr (.inr ⟨A, j, m, rfl, rfl, len_le hl, ha, h⟩))
theorem z2_ixD (hs : H p = some (.dK kvs)) (ha : valV kvs (.inr A) = some v) (h : Q v H) : zIx2 K (.ref p) (.str A) H Q := by
  unfold zIx2
  exact .inr ⟨p, v, rfl, by rw [← ha]; exact DGet.k (k := .inr A) hs, h⟩
theorem z2_ixDi (hs : H p = some (.dK kvs)) (ha : valV kvs (.inl j) = some v) (h : Q v H) : zIx2 K (.ref p) (.int j) H Q := by
  unfold zIx2
  exact .inr ⟨p, v, rfl, by rw [← ha]; exact DGet.k (k := .inl j) hs, h⟩
theorem z2_inL (hs : SqL K H p xs) (hx : flatV x = true) (ha : xs.all flatV = true) (h : Q (.bl (inV x xs)) H) : zIn2 K x (.ref p) H Q := by unfold zIn2; exact .inl (g_inL hs hx ha h)
theorem z2_inT (hs : SqT K H p xs) (hx : flatV x = true) (ha : xs.all flatV = true) (h : Q (.bl (inV x xs)) H) : zIn2 K x (.ref p) H Q := by unfold zIn2; exact .inl (g_inT hs hx ha h)
theorem z2_inD (hs : H p = some (.dK kvs)) (h : Q (.bl (valV kvs (.inr A)).isSome) H) : zIn2 K (.str A) (.ref p) H Q := by
  unfold zIn2
  exact .inr ⟨p, _, rfl, DGet.k (k := .inr A) hs, h⟩
theorem z2_notInD (hs : H p = some (.dK kvs)) (h : Q (.bl (!(valV kvs (.inr A)).isSome)) H) : zNotIn2 K (.str A) (.ref p) H Q := by
  unfold zNotIn2
  exact .inr ⟨p, _, rfl, DGet.k (k := .inr A) hs, h⟩
theorem z2_inS {c : Nat} (h : Q (.bl (decide (c ∈ A.cps.toList))) H) : zInS ⟨#[c]⟩ A H Q := by unfold zInS; exact ⟨c, A, rfl, rfl, h⟩
theorem z2_notInS {c : Nat} (h : Q (.bl (!decide (c ∈ A.cps.toList))) H) : zNotInS ⟨#[c]⟩ A H Q := by unfold zNotInS; exact ⟨c, A, rfl, rfl, h⟩
theorem z2_lenS (hl : A.length ≤ 1000000) (h : Q (.int A.length) H) : zLen2 K (.str A) H Q := by unfold zLen2; exact .inl (g_lenS hl h)
theorem z2_lenL (hs : SqL K H p xs) (h : Q (.int xs.length) H) : zLen2 K (.ref p) H Q := by unfold zLen2; exact .inl (g_lenL hs h)
theorem z2_lenT (hs : SqT K H p xs) (h : Q (.int xs.length) H) : zLen2 K (.ref p) H Q := by unfold zLen2; exact .inl (g_lenT hs h)
theorem z2_lenD (hs : H p = some (.dK kvs)) (h : Q (.int kvs.length) H) : zLen2 K (.ref p) H Q := by unfold zLen2; exact .inr ⟨p, kvs, rfl, hs, h⟩
theorem z2_setL {g : Hp → Prop} {m : Nat} (w : Own K0 L H) (s : Sel L p (.lst xs) f) (hi : ixN xs.length j = some m) (k : ∀ H', Own K0 (f (.lst (xs.set m v))) H' → g H') : zSet2 (.ref p) (.int j) v H g := by unfold zSet2; exact .inl (g_rSetL w s hi k)
theorem z2_setD {g : Hp → Prop} (w : Own K0 L H) (s : Sel L p (.dK kvs) f) (hl : kvs.length ≤ 1000000) (k : ∀ H', Own K0 (f (.dK (putK kvs (.inr A) v))) H' → g H') : zSet2 (.ref p) (.str A) v H g := by
  unfold zSet2
  exact .inr ⟨p, _, rfl, DPut.k (k := .inr A) (w.at_ s) (len_lt hl), k _ (w.put s _)⟩
end

/-! ## dict displays -/
@[irreducible] def zDispK (p : Addr) (Q : VK) (ps : List (V × V)) (H : Hp) : Prop := H p = some (.dK []) ∧ ∃ kvs : List (Key × V), ps = kvs.map (fun kv => (kV kv.1, kv.2)) ∧ kvs.length ≤ 15 ∧ Q (.ref p) (upd H p (.dK (mergeK [] kvs)))
@[irreducible] def zDisp (trs : List (TE × TE)) (σ : L2.St) (Q : VK) (H : Hp) : Prop := ∀ p, H p = none → tPairs trs σ (upd H p (.dK [])) (zDispK p Q)
def fDisp (trs : List (TE × TE)) : TE := fun σ H Q => zDisp trs σ Q H
theorem fDisp_eq (trs : List (TE × TE)) : tDisp trs = fDisp trs := by unfold fDisp zDisp zDispK; rfl
@[irreducible] def zDNew (Q : VK) (H : Hp) : Prop := ∀ p, H p = none → Q (.ref p) (upd H p (.dK []))
def fDNew : TE := fun _ H Q => zDNew Q H
theorem fDNew_eq : tDNewK = fDNew := by unfold fDNew zDNew; rfl
section
variable {K0 H : Hp} {L : Ow} {Q : VK} {p : Addr} {f : HO → Ow} {σ : L2.St} {trs : List (TE × TE)}
theorem z_disp (w : Own K0 L H) (k : ∀ p H', Own K0 ((p, .dK []) :: L) H' → tPairs trs σ H' (zDispK p Q)) : zDisp trs σ Q H := by
  unfold zDisp
  exact fun p hp => k p _ (w.new hp _)
theorem z_dispK {ps : List (V × V)} {kvs : List (Key × V)} (w : Own K0 L H) (s : Sel L p (.dK []) f) (e : ps = kvs.map (fun kv => (kV kv.1, kv.2))) (hl : kvs.length ≤ 15) (k : ∀ H', Own K0 (f (.dK (mergeK [] kvs))) H' → Q (.ref p) H') : zDispK p Q ps H := by
  unfold zDispK
  exact ⟨w.at_ s, kvs, e, hl, k _ (w.put s _)⟩
theorem z_dnew (w : Own K0 L H) (k : ∀ p H', Own K0 ((p, .dK []) :: L) H' → Q (.ref p) H') : zDNew Q H := by
  unfold zDNew
  exact fun p hp => k p _ (w.new hp _)
end

/-! ## instances -/
section
variable {X : Cx} {CX : CXT} {k : Nat} {C f : Addr} {fd : FuncData} {ps : List Str} {sp : Sp} {E : L2.St → XK} {x m fl : Str} {p pos apos pos' : Pos} {e o value : Expr} {es : List Expr} {ta tv : TE} {t : TA}
@[irreducible] def zFld (C : Addr) (f : Str) (Q : VK) (x : V) (H : Hp) : Prop := ∃ a dx fs v, x = .ref a ∧ H a = some (.ins C dx fs) ∧ fs.lookup f = some v ∧ Q v H
def fFld (C : Addr) (f : Str) (ta : TE) : TE := fun σ H Q => ta σ H (zFld C f Q)
theorem pe_fldC (c : Cls X.K C) (n : NoAttr X.K C fl) (he : PE X e ta) (hb : attributeBase e fl X.env (eval e X.env) = eval e X.env := by rfl) : PE X (.Attribute e fl pos) (fFld C fl ta) := by
  refine ⟨fun pins s σ H Q I h => ?_⟩
  unfold fFld zFld at h
  refine attr_of hb (thn (he.run pins s σ H _ I h) fun u s1 ⟨x, H1, I1, rx, a, dx, fs, v, ex, ea, l, q⟩ => ?_)
  subst ex
  obtain rfl : u = Value.ref a := rx
  exact getattr_ok I1 ea c n l fun u' s2 I2 ru => ⟨v, H1, I2, ru, q⟩
@[irreducible] def zPutF (C : Addr) (f : Str) (D : Ends) (σ : L2.St) (y x : V) (H : Hp) : Prop := ∃ a dx fs, x = .ref a ∧ H a = some (.ins C dx fs) ∧ fs.length < 1000 ∧ D.nx σ (upd H a (.ins C dx (putF f y fs)))
def fPutF (C : Addr) (f : Str) (ta tv : TE) : TS := fun D σ H => tv σ H fun y H1 => ta σ H1 fun x H2 => zPutF C f D σ y x H2
theorem ps_fldC (c : Cls X.K C) (n : NoAttr X.K C fl) (ha : PE X o ta) (hv : PE X value tv) (hs : swapsWith value (some (.Attribute o fl pos')) pos.line X.env = pure false := by rfl) : PS X (.Assign [.Attribute o fl pos'] value pos) (fPutF C fl ta tv) := by
  refine ⟨fun pins s σ H D I h => ?_⟩
  unfold fPutF zPutF at h
  refine plainObj_wpAny_Assign_Attribute (thn (hv.run pins s σ H _ I h) fun u s1 ⟨y, H1, I1, ry, q⟩ => thn (ha.run pins s1 σ H1 _ I1 q) fun ov s2 ⟨x, H2, I2, rx, a, dx, fs, ex, ea, l, q2⟩ => ?_) hs
  subst ex
  obtain rfl : ov = Value.ref a := rx
  exact setattr_ok I2 ea c n l ry fun s3 I3 => ⟨σ, _, I3, q2⟩
/-- o.m(..), an exception's way may ask the slots -/
@[irreducible] def zMeth (C : Addr) (m : Str) (sp : Sp) (dvs : List V) (E : XK) (t : TA) (σ : L2.St) (Q : VK) (x : V) (H : Hp) : Prop := ∃ a dx fs, x = .ref a ∧ H a = some (.ins C dx fs) ∧ fs.lookup m = none ∧ t σ H fun vs H2 => sp (x :: (vs ++ dvs)) H2 Q E
def fMeth (C : Addr) (m : Str) (sp : Sp) (dvs : List V) (E : L2.St → XK) (ta : TE) (t : TA) : TE := fun σ H Q => ta σ H (zMeth C m sp dvs (E σ) t σ Q)
end

section
variable {X : Cx} {CX : CXT} {k : Nat} {C f : Addr} {fd : FuncData} {ps : List Str} {sp : Sp} {E : L2.St → XK} {x m fl : Str} {p pos apos pos' : Pos} {e o value : Expr} {es : List Expr} {ta tv : TE} {t : TA} {ds : List Value} {dvs : List V}
theorem run_fnD {E : XK} {pins : List (Addr × Obj)} {σ : L2.St} {H : Hp} {s : Shared} {Q : VK} {us : List Value} {vs : List V} (F : FnOk X.prog X.w X.K X.mg X.base CX k f fd ps sp) (hr : Room k X.A) (hb : Binds X.K fd ps ds) (hd : Vals dvs ds) (hx : PassesAt CX X σ E)
    (I : Inv X pins σ H s) (r : Vals vs us) (h : sp (vs ++ dvs) H Q E) : wpAny (model X.prog X.w) X.A (call (.ref f) us) (EP X pins σ Q) X.xe s := by
  have r2 : Vals (vs ++ dvs) (us ++ ds) := r.append hd
  have hl : (us ++ ds).length = ps.length := by rw [← r2.length]; exact F.len _ _ _ _ h
  refine wpAny_call (codeAny_mono (F.run X.A X.stack s H ⟨us, []⟩ (us ++ ds) (vs ++ dvs) Q E hr I.env0 (hb s us I.kIn hl) r2 h) fun r s' hq => ?_)
  cases r with
  | error e => exact hx pins H s e s' I hq
  | ok fl =>
    cases fl with
    | ret u => exact I.after hq
    | next => exact False.elim hq
    | brk => exact False.elim hq
    | cont => exact False.elim hq
theorem pe_methC {pl : Sem Bool} (he : PE X o ta) (c : Cls X.K C) (hm : Meth X.K C m f) (F : FnOk X.prog X.w X.K X.mg X.base CX k f fd ps sp) (hr : Room k X.A) (hb : Binds X.K fd ps ds) (hd : Vals dvs ds) (hx : ∀ σ, PassesAt CX X σ (E σ)) (ha : PA X (e :: es) t)
    (hst : starEach (e :: es) X.env = (false, eval e X.env) :: starEach es X.env := by rfl) (hpl : (backTo pos (starEach es X.env)).any (·.1) = false := by rfl)
    (ht : eval (.Call (.Attribute o m apos) (e :: es) [] pos) X.env = (do
      let ov ← eval o X.env
      standAt apos.atName
      let (f, first) ← holding [ov] (getMethod ov m pl)
      callWith pos f first (backTo pos (starEach (e :: es) X.env)) (backToKw pos (keywordEach [] X.env))) := by rfl) :
    PE X (.Call (.Attribute o m apos) (e :: es) [] pos) (fMeth C m sp dvs E ta t) := by
  refine ⟨fun pins s σ H Q I h => ?_⟩
  unfold fMeth zMeth at h
  refine PySem.W.methodCall_KW (pl := pl) (thn (he.run pins s σ H _ I h) fun u s1 ⟨x, H1, I1, rx, a, dx, fs, ex, ea, l, q⟩ => ?_) ht
  subst ex
  obtain rfl : u = Value.ref a := rx
  refine getmeth_ok I1 ea c hm l ?_
  refine PySem.W.callWith_K (first := [.ref a]) (h₀ := X.base) I.ok.mod.kin hm.kp (thn (ha.run pos pins s1 σ H1 _ I1 q) fun us s2 ⟨vs, H2, I2, r, q2⟩ => ⟨I2.kIn, ?_⟩) hst hpl
  exact run_fnD (us := .ref a :: us) (vs := .ref a :: vs) F hr hb hd (hx σ) I2 (.cons rfl r) q2
theorem pe_methC0 {pl : Sem Bool} (he : PE X o ta) (c : Cls X.K C) (hm : Meth X.K C m f) (F : FnOk X.prog X.w X.K X.mg X.base CX k f fd ps sp) (hr : Room k X.A) (hb : Binds X.K fd ps ds) (hd : Vals dvs ds) (hx : ∀ σ, PassesAt CX X σ (E σ))
    (ht : eval (.Call (.Attribute o m apos) [] [] pos) X.env = (do
      let ov ← eval o X.env
      standAt apos.atName
      let (f, first) ← holding [ov] (getMethod ov m pl)
      callWith pos f first (backTo pos (starEach [] X.env)) (backToKw pos (keywordEach [] X.env))) := by rfl) :
    PE X (.Call (.Attribute o m apos) [] [] pos) (fMeth C m sp dvs E ta tNil) := by
  refine ⟨fun pins s σ H Q I h => ?_⟩
  unfold fMeth zMeth at h
  refine PySem.W.methodCall_KW (pl := pl) (thn (he.run pins s σ H _ I h) fun u s1 ⟨x, H1, I1, rx, a, dx, fs, ex, ea, l, q⟩ => ?_) ht
  subst ex
  obtain rfl : u = Value.ref a := rx
  refine getmeth_ok I1 ea c hm l ?_
  exact PySem.W.callWith_K0 (first := [.ref a]) I1.kIn hm.kp (run_fnD (us := [.ref a]) (vs := [.ref a]) F hr hb hd (hx σ) I1 (.cons rfl .nil) q)
/-- f(..), defaults and all -/
def fCallS (sp : Sp) (dvs : List V) (E : L2.St → XK) (t : TA) : TE := fun σ H Q => t σ H fun vs H1 => fCat vs dvs fun l => sp l H1 Q (E σ)
theorem pe_callSD (F : FnOk X.prog X.w X.K X.mg X.base CX k f fd ps sp) (hr : Room k X.A) (hg : Gl X x) (hm : X.mg x = some (.ref f)) (hk : PySem.W.keepIn X.K (.ref f) = true) (hb : Binds X.K fd ps ds) (hd : Vals dvs ds) (hx : ∀ σ, PassesAt CX X σ (E σ))
    (ha : PA X (e :: es) t) (hdb : (x == ("__debug__" : Str)) = false := by decide) (he : starEach (e :: es) X.env = (false, eval e X.env) :: starEach es X.env := by rfl) (hpl : (backTo pos (starEach es X.env)).any (·.1) = false := by rfl) :
    PE X (.Call (.Name x p) (e :: es) [] pos) (fCallS sp dvs E t) := by
  refine ⟨fun pins s σ H Q I h => ?_⟩
  unfold fCallS at h
  simp only [fCat_eq] at h
  refine wpAny_Call_Name_kw (ld_glob I hg hm ?_ hdb)
  refine PySem.W.callWith_K (h₀ := X.base) I.ok.mod.kin hk (thn (ha.run pos pins s σ H _ I h) fun us s1 ⟨vs, H1, I1, r, q⟩ => ⟨I1.kIn, ?_⟩) he hpl
  exact run_fnD F hr hb hd (hx σ) I1 r q
/-- C(..) -/
@[irreducible] def zMake (C : Addr) (sp : Sp) (dvs vs : List V) (E : XK) (Q : VK) (H : Hp) : Prop := ∀ x dx, H x = none → H dx = none → dx ≠ x →
  sp (.ref x :: (vs ++ dvs)) (upd (upd H dx (.own x)) x (.ins C dx [])) (fun v H2 => v = .non ∧ Q (.ref x) H2) E
def fMake (C : Addr) (sp : Sp) (dvs : List V) (E : L2.St → XK) (t : TA) : TE := fun σ H Q => t σ H fun vs H1 => zMake C sp dvs vs (E σ) Q H1
theorem run_makeS {E : XK} {pins : List (Addr × Obj)} {σ : L2.St} {H : Hp} {s : Shared} {Q : VK} {us : List Value} {vs : List V} (M : Mk X.K C f) (F : FnOk X.prog X.w X.K X.mg X.base CX k f fd ps sp) (hr : Room (k + 1) X.A) (hb : Binds X.K fd ps ds) (hd : Vals dvs ds)
    (hx : PassesAt CX X σ E) (I : Inv X pins σ H s) (r : Vals vs us) (h : zMake C sp dvs vs E Q H) : wpAny (model X.prog X.w) X.A (call (.ref C) us) (EP X pins σ Q) X.xe s := by
  unfold zMake at h
  have hq := h (s.heap.objs.size + 1) s.heap.objs.size (I.hok.fresh (Nat.le_succ _)) (I.hok.fresh (Nat.le_refl _)) (Nat.ne_of_lt (Nat.lt_succ_self _))
  have I2 := Inv.made (C := C) I
  have r2 : Vals (V.ref (s.heap.objs.size + 1) :: (vs ++ dvs)) (Value.ref (s.heap.objs.size + 1) :: (us ++ ds)) := .cons rfl (r.append hd)
  have hl : (Value.ref (s.heap.objs.size + 1) :: us ++ ds).length = ps.length := by
    have e := r2.length
    rw [F.len _ _ _ _ hq] at e
    exact e.symm
  refine wpAny_call (make_map (f := f) I.kIn M.makes M.init (beq_iff_eq.mp M.fn) (codeAny_mono (F.run _ X.stack _ _ ⟨Value.ref (s.heap.objs.size + 1) :: us, []⟩ (Value.ref (s.heap.objs.size + 1) :: (us ++ ds)) _ _ E (hr.make C us [])
    (I2.env0.make C us []) (hb _ (Value.ref (s.heap.objs.size + 1) :: us) I2.kIn hl) r2 hq) fun r s' hq' => ?_))
  cases r with
  | error e => exact hx pins _ _ e s' I2 hq'
  | ok fl =>
    cases fl with
    | ret u =>
      obtain ⟨v, H', I3, rv, ev, q3⟩ := I2.after hq'
      subst ev
      exact ⟨rv, ⟨V.ref (s.heap.objs.size + 1), H', I3, rfl, q3⟩⟩
    | next => exact False.elim hq'
    | brk => exact False.elim hq'
    | cont => exact False.elim hq'
theorem pe_makeC (M : Mk X.K C f) (F : FnOk X.prog X.w X.K X.mg X.base CX k f fd ps sp) (hr : Room (k + 1) X.A) (hg : Gl X x) (hm : X.mg x = some (.ref C)) (hb : Binds X.K fd ps ds) (hd : Vals dvs ds) (hx : ∀ σ, PassesAt CX X σ (E σ))
    (ha : PA X (e :: es) t) (hdb : (x == ("__debug__" : Str)) = false := by decide) (he : starEach (e :: es) X.env = (false, eval e X.env) :: starEach es X.env := by rfl) (hpl : (backTo pos (starEach es X.env)).any (·.1) = false := by rfl) :
    PE X (.Call (.Name x p) (e :: es) [] pos) (fMake C sp dvs E t) := by
  refine ⟨fun pins s σ H Q I h => ?_⟩
  refine wpAny_Call_Name_kw (ld_glob I hg hm ?_ hdb)
  refine PySem.W.callWith_K (h₀ := X.base) I.ok.mod.kin M.kp (thn (ha.run pos pins s σ H _ I h) fun us s1 ⟨vs, H1, I1, r, q⟩ => ⟨I1.kIn, ?_⟩) he hpl
  exact run_makeS M F hr hb hd (hx σ) I1 r q
theorem pe_makeC0 (M : Mk X.K C f) (F : FnOk X.prog X.w X.K X.mg X.base CX k f fd ps sp) (hr : Room (k + 1) X.A) (hg : Gl X x) (hm : X.mg x = some (.ref C)) (hb : Binds X.K fd ps ds) (hd : Vals dvs ds) (hx : ∀ σ, PassesAt CX X σ (E σ))
    (hdb : (x == ("__debug__" : Str)) = false := by decide) : PE X (.Call (.Name x p) [] [] pos) (fMake C sp dvs E tNil) := by
  refine ⟨fun pins s σ H Q I h => ?_⟩
  refine wpAny_Call_Name_kw (ld_glob I hg hm ?_ hdb)
  exact PySem.W.callWith_K0 I.kIn M.kp (run_makeS (us := []) (vs := []) M F hr hb hd (hx σ) I .nil h)
end
theorem Own.new2 {K0 H : Hp} {L : Ow} {x dx C : Addr} {fs : List (Str × V)} (w : Own K0 L H) (h1 : H x = none) (h2 : H dx = none) (ne : dx ≠ x) : Own K0 ((x, .ins C dx fs) :: (dx, .own x) :: L) (upd (upd H dx (.own x)) x (.ins C dx fs)) :=
  (w.new h2 _).new (by rw [upd_ne (Ne.symm ne)]; exact h1) _
section
variable {K : PySem.W.Frag} {K0 H : Hp} {L : Ow} {Q : VK} {v x y : V} {vs dvs : List V} {a C dx : Addr} {f : HO → Ow} {fl m : Str} {fs : List (Str × V)} {D : Ends} {σ : L2.St} {sp : Sp} {E : XK} {t : TA}
theorem z_fld (h : H a = some (.ins C dx fs)) (e : fs.lookup fl = some v) (k : Q v H) : zFld C fl Q (.ref a) H := by unfold zFld; exact ⟨a, dx, fs, v, rfl, h, e, k⟩
theorem z_putF {n : L2.St → Hp → Prop} {r : VK} {bk ct : L2.St → Hp → Prop} (w : Own K0 L H) (s : Sel L a (.ins C dx fs) f) (hl : fs.length < 1000) (k : ∀ H', Own K0 (f (.ins C dx (putF fl y fs))) H' → n σ H') : zPutF C fl ⟨n, r, bk, ct⟩ σ y (.ref a) H := by
  unfold zPutF
  exact ⟨a, dx, fs, rfl, w.at_ s, hl, k _ (w.put s _)⟩
theorem z_meth (h : H a = some (.ins C dx fs)) (e : fs.lookup m = none) (k : t σ H fun vs H2 => fCat vs dvs fun l => sp (.ref a :: l) H2 Q E) : zMeth C m sp dvs E t σ Q (.ref a) H := by
  unfold zMeth
  simp only [fCat_eq (k := fun l => sp (.ref a :: l) _ Q E)] at k
  exact ⟨a, dx, fs, rfl, h, e, k⟩
theorem z_make (w : Own K0 L H) (k : ∀ x dx H', Own K0 ((x, .ins C dx []) :: (dx, .own x) :: L) H' → fCat vs dvs fun l => sp (.ref x :: l) H' (fun v H2 => v = .non ∧ Q (.ref x) H2) E) : zMake C sp dvs vs E Q H := by
  unfold zMake
  intro x dx h1 h2 ne
  have q := k x dx _ (w.new2 h1 h2 ne)
  rw [fCat_eq (k := fun l => sp (.ref x :: l) _ (fun v H2 => v = .non ∧ Q (.ref x) H2) E)] at q
  exact q
end
end Wf

set_option Elab.async false
set_option linter.all false
set_option maxRecDepth 100000
set_option maxHeartbeats 4000000
/-! own exceptions under ValueError, LookupError, RuntimeError or OverflowError -/
namespace L2
open PySem PySem.Spec PyProof.Rows
/-- the builtin classes above, and the class's new -/
structure BaseF (tl : List Value) (n : String) : Prop where
  tail : PySem.W.excTail tl tl = true
  base : ∃ B ini, ExcBaseFacts B n ini tl ∧ StoreFacts B tl "object.__setattr__" "object"
def tlVE : List Value := [.type "ValueError", .type "Exception", .type "BaseException", .type "object"]
def tlLE : List Value := [.type "LookupError", .type "Exception", .type "BaseException", .type "object"]
def tlRE : List Value := [.type "RuntimeError", .type "Exception", .type "BaseException", .type "object"]
def tlOE : List Value := [.type "OverflowError", .type "ArithmeticError", .type "Exception", .type "BaseException", .type "object"]
def baseB (tl : List Value) (n : String) : Bool := (tl == tlVE && n == "ValueError.__new__") || ((tl == tlLE && n == "LookupError.__new__") || ((tl == tlRE && n == "RuntimeError.__new__") || (tl == tlOE && n == "OverflowError.__new__")))
theorem baseB_ok {tl : List Value} {n : String} (h : baseB tl n = true) : BaseF tl n := by
  unfold baseB at h
  simp only [Bool.or_eq_true, Bool.and_eq_true, beq_iff_eq] at h
  rcases h with ⟨rfl, rfl⟩ | ⟨rfl, rfl⟩ | ⟨rfl, rfl⟩ | ⟨rfl, rfl⟩
  · exact ⟨by decide +kernel, _, _, F.excBase_ValueError, F.store_ValueError⟩
  · exact ⟨by decide +kernel, _, _, F.excBase_LookupError, F.store_LookupError⟩
  · exact ⟨by decide +kernel, _, _, F.excBase_RuntimeError, F.store_RuntimeError⟩
  · exact ⟨by decide +kernel, _, _, F.excBase_OverflowError, F.store_OverflowError⟩
/-- what the written part says of such a class -/
structure OexG (K : PySem.W.Frag) (C : Addr) : Prop where
  cls : ∃ nm q N bs bm sn sub ab col dd k0 k1 k2 k3 k5 n, K.lookup C = some (excClassObj nm q C N bs bm true sn sub ab col dd k0 k1 k2 k3 k5 n) ∧ BaseF bm n
  sa : PySem.W.findIn K (.ref C) "__setattr__" = some (some (.builtin "object.__setattr__"))
  exC : PySem.W.subIn K (.ref C) (.type "BaseException") = some true
  tyC : PySem.W.typeIn K (.ref C) = some (.type "type")
  kC : PySem.W.keepIn K (.ref C) = true
/-- the class's data, as far as a store asks -/
theorem OexG.data {K : PySem.W.Frag} {C : Addr} (T : OexG K C) : ∃ (cd : ClassData) (tl : List Value) (n B ini : String), PySem.W.clsIn K C = some cd ∧ cd.hasDict = true ∧ PySem.W.excOver K C tl = true ∧ ExcBaseFacts B n ini tl ∧ StoreFacts B tl "object.__setattr__" "object" := by
  obtain ⟨nm, q, N, bs, bm, sn, sub, ab, col, dd, k0, k1, k2, k3, k5, n, hC, b⟩ := T.cls
  obtain ⟨B, ini, f1, f2⟩ := b.base
  have e : PySem.W.clsIn K C = some { name := nm, bases := bs, mro := .ref C :: bm, ns := N, qualname := q, hasDict := true, slotNames := sn, subclasses := sub, abstract := ab, collection := col, hasDel := false } := by
    unfold PySem.W.clsIn
    rw [hC]
  refine ⟨_, bm, n, B, ini, e, rfl, ?_, f1, f2⟩
  unfold PySem.W.excOver
  rw [e]
  show (C == C && PySem.W.excTail bm bm) = true
  rw [b.tail, beq_self_eq_true]
  rfl
section
variable {X : Cx} {pins : List (Addr × Obj)} {σ : St} {H : Hp} {s : Shared} {a C dx : Addr} {f : Str} {y : V} {u : Value} {fs : List (Str × V)} {Q : Unit → Shared → Prop} {E : Value → Shared → Prop} {A : Around}
theorem takerG {K : PySem.W.Frag} (e : PySem.W.findIn K (.ref C) f = some none) : PySem.W.takerIn K C f = some none := by
  unfold PySem.W.takerIn
  rw [e]
  rfl
/-- the dict of an exception as a tracked object -/
theorem lay_dict {h : Heap} {os : OsState} {g : Array GenState} {d : Drawn} {t : Nat} (I : Inv X pins σ H ⟨h, g, d, t, os⟩) : Inv X pins σ (upd H h.objs.size (exd h.objs.size [])) ⟨h.push { cls := .type "dict", data := .dict #[] }, g, d, t, os⟩ := by
  refine I.laid (t' := t) (fun b o e => Heap.get?_push_of_some _ e) (Nat.le_refl _) (exd_ok (mA := fun _ => none) ?_ fun _ => True.intro)
  exact Heap.Ns1.of_empty ⟨_, #[], _, Heap.get?_push_at rfl rfl, rfl, fun e he => absurd he (by simp), fun _ => rfl⟩
theorem put1_g (T : OexG X.K C) (I : Inv X pins σ H s) (e : H a = some (exo a C none)) (hno : PySem.W.findIn X.K (.ref C) f = some none) (ry : RelV y u)
    (h : ∀ dx s', H dx = none → dx ≠ a → Inv X pins σ (upd (upd H dx (exd dx [(f, y)])) a (exo a C (some dx))) s' → Q () s') : wpAny (model X.prog X.w) A (setAttr (.ref a) f u) Q E s := by
  obtain ⟨cd, tl, n, B, ini, hcd, hdct, ov, _, SF⟩ := T.data
  obtain ⟨t1, ho⟩ := exo_at I.hok e
  obtain ⟨hp, g, d, t, os⟩ := s
  have hxs : a ≠ hp.objs.size := Nat.ne_of_lt (Heap.lt_size ho)
  have inst : PySem.W.InstAt hp a { cls := .ref C, dict := none, data := .fields #[.ref t1, .none, .none, .none, .bool false, .none] } C none := ⟨ho, rfl, rfl, trivial⟩
  refine PySem.W.set_plain I.kIn inst T.sa (PySem.W.osa_openX SF I.kIn inst ov (takerG hno) fun b => ?_)
  have hcls : PySem.W.Looks (model X.prog X.w) hp (classData C) cd := PySem.W.looks_clsIn I.kIn hcd
  have fresh := I.hok.fresh (Nat.le_refl hp.objs.size)
  have J := lay_dict I
  obtain ⟨nm, bs, mro, ns, qn, hd, sn, sb, ab, col, del⟩ := cd
  subst hdct
  dsimp only
  unfold Builtin.ObjectAttr.storeInOwnDict Builtin.ObjectAttr.ownDictForStores
  repeat (first | with_reducible refine PySem.HandSPX.store_in_new ?_ ?_ | with_reducible refine wpAny_loadPart_at ho ?_ | with_reducible refine hcls.at ?_ | wp_step)
  · exact ⟨_, #[], _, (Heap.get?_update_ne _ _ _ _ hxs.symm).trans (Heap.get?_push_at rfl rfl), rfl, fun e he => absurd he (by simp), fun _ => rfl⟩
  · intro h' tk' hn same
    have ea1 : (hp.push { cls := .type "dict", data := .dict #[] }).get? a = some { cls := .ref C, dict := none, data := .fields #[.ref t1, .none, .none, .none, .bool false, .none] } := Heap.get?_push_of_some _ ho
    have e2 := Heap.get?_update_self (fun o : Obj => { o with dict := some hp.objs.size }) ea1 rfl
    have J2 := J.write (t' := tk') (x := a) (e := a) (o := exo a C (some hp.objs.size)) (by rw [upd_ne hxs, e]; exact True.intro) (.inl rfl) (fun b o nb eb => (Heap.get?_update_ne _ _ _ _ nb).trans eb) ⟨_, e2⟩ (exo_ok e2)
    have hn2 := hn
    obtain ⟨o1, _, _, e1, _⟩ := hn2
    have J3 := J2.write (t' := tk') (x := hp.objs.size) (e := hp.objs.size) (o := exd hp.objs.size [(f, y)]) (by rw [upd_ne hxs.symm, upd_same]; exact True.intro) (.inl rfl) (fun b o nb eb => (same.2 b nb).trans eb) ⟨o1, e1⟩ (exd_ok hn (relO_put (fs := []) ry fun g => True.intro))
    refine h _ _ fresh hxs.symm ?_
    have eH : upd (upd (upd H hp.objs.size (exd hp.objs.size [])) a (exo a C (some hp.objs.size))) hp.objs.size (exd hp.objs.size [(f, y)]) = upd (upd H hp.objs.size (exd hp.objs.size [(f, y)])) a (exo a C (some hp.objs.size)) := by
      funext b
      by_cases h1 : b = hp.objs.size
      · rw [h1, upd_same, upd_ne hxs.symm, upd_same]
      · rw [upd_ne h1]
        by_cases h2 : b = a
        · rw [h2, upd_same, upd_same]
        · rw [upd_ne h2, upd_ne h2, upd_ne h1, upd_ne h1]
    rw [← eH]
    exact J3
/-- a further field -/
theorem put2_g (T : OexG X.K C) (I : Inv X pins σ H s) (e : H a = some (exo a C (some dx))) (ed : H dx = some (exd dx fs)) (hl : fs.length ≤ 900) (hno : PySem.W.findIn X.K (.ref C) f = some none) (ry : RelV y u)
    (h : ∀ s', Inv X pins σ (upd H dx (exd dx ((f, y) :: fs))) s' → Q () s') : wpAny (model X.prog X.w) A (setAttr (.ref a) f u) Q E s := by
  obtain ⟨cd, tl, n, B, ini, hcd, hdct, ov, _, SF⟩ := T.data
  obtain ⟨t1, ho⟩ := exo_at I.hok e
  obtain ⟨mA, hns, rel⟩ := exd_at I.hok ed
  have wi := within_of rel
  obtain ⟨hp, g, d, t, os⟩ := s
  obtain ⟨oD, _, _, hoD, _, _⟩ := hns.count wi
  have inst : PySem.W.InstAt hp a { cls := .ref C, dict := some dx, data := .fields #[.ref t1, .none, .none, .none, .bool false, .none] } C (some oD) := ⟨ho, rfl, rfl, hoD⟩
  refine PySem.W.set_plain I.kIn inst T.sa (PySem.W.osa_openX SF I.kIn inst ov (takerG hno) fun b => ?_)
  have hcls : PySem.W.Looks (model X.prog X.w) hp (classData C) cd := PySem.W.looks_clsIn I.kIn hcd
  obtain ⟨nm, bs, mro, ns, qn, hd, sn, sb, ab, col, del⟩ := cd
  subst hdct
  dsimp only
  unfold Builtin.ObjectAttr.storeInOwnDict Builtin.ObjectAttr.ownDictForStores
  repeat (first | with_reducible refine PySem.OEX.store_in_old hns wi (by rw [List.length_map]; omega) ?_ | with_reducible refine wpAny_loadPart_at ho ?_ | with_reducible refine hcls.at ?_ | wp_step)
  intro h' tk' hn same
  have hn2 := hn
  obtain ⟨o1, _, _, e1, _⟩ := hn2
  refine h _ (I.write (t' := tk') (x := dx) (e := dx) (by rw [ed]; exact True.intro) (.inl rfl) (fun b o nb eb => (same.2 b nb).trans eb) ⟨o1, e1⟩ (exd_ok hn (relO_put ry rel)))
end
/-! ### C(e, ..) in a raise -/
section
variable {X : Cx} {pins : List (Addr × Obj)} {σ : St} {H : Hp} {C : Addr} {hp : Heap} {g : Array GenState} {d : Drawn} {t : Nat} {os : OsState}
/-- behind the tuple of the arguments lies the exception, without a dict as yet -/
theorem lay_exc {us : List Value} (I : Inv X pins σ H ⟨hp, g, d, t, os⟩) : ∃ e G, e = hp.objs.size + 1 ∧ G = (hp.push (PySem.W.kdv_tup us)).push (PySem.HandSPX.excO C hp.objs.size) ∧ H e = none ∧ (∀ b o, hp.get? b = some o → G.get? b = some o) ∧
    Inv X pins σ (upd H e (exo e C none)) ⟨G, g, d, t, os⟩ := by
  refine ⟨_, _, rfl, rfl, I.hok.fresh (Nat.le_succ _), fun b o q => Heap.get?_push_of_some _ (Heap.get?_push_of_some _ q), I.laid (t' := t) (fun b o q => Heap.get?_push_of_some _ (Heap.get?_push_of_some _ q)) (Nat.le_succ _) ?_⟩
  refine exo_ok (t1 := hp.objs.size) ?_
  heap_get
end
section
variable {X : Cx} {e : Expr} {es : List Expr} {ta : TA} {pos p : Pos}
theorem pmk_oexG {CX : CXT} {x : Str} {C fI : Addr} {k : Nat} {fd : FuncData} {ps : List Str} {sp : Sp} {ds : List Value} {dvs : List V} (T : OexG X.K C) (look : PySem.W.findIn X.K (.ref C) "__init__" = some (some (.ref fI))) (isf : PySem.W.typeIn X.K (.ref fI) = some (.type "function"))
    (fn : FnOk X.prog X.w X.K X.mg X.base CX k fI fd ps sp) (hr : Room (k + 1) X.A) (hb : Binds X.K fd ps ds) (hd : Vals dvs ds) (hx : Passes CX X (fun _ _ _ => False)) (hg : Gl X x) (hm : X.mg x = some (.ref C)) (ha : PA X (e :: es) ta)
    (hdb : (x == ("__debug__" : Str)) = false := by decide) (he : starEach (e :: es) X.env = (false, eval e X.env) :: starEach es X.env := by rfl) (hpl : (backTo pos (starEach es X.env)).any (·.1) = false := by rfl) :
    PMk X (.Call (.Name x p) (e :: es) [] pos) (tMkO C sp dvs ta) := by
  refine fun pins s σ H Q I h => wpAny_Call_Name_kw (ld_glob I hg hm ?_ hdb)
  refine PySem.W.callWith_K (h₀ := X.base) I.ok.mod.kin T.kC (thn (ha.run pos pins s σ H _ I h) ?_) he hpl
  rintro us ⟨hp, g, dr, tk, os⟩ ⟨vs, H1, I1, rel, _, more⟩
  refine ⟨I1.kIn, ?_⟩
  show wpAny _ _ (call (.ref C) us) _ _ _
  obtain ⟨nm, q, N, bs, bm, sn, sub, ab, col, dd, k0, k1, k2, k3, k5, nw, at_, bf⟩ := T.cls
  obtain ⟨B, ini, base, _⟩ := bf.base
  obtain ⟨a, G, ea, eG, free, old, I2⟩ := lay_exc (C := C) (us := us) I1
  have spec := more a free
  have vals : Vals (V.ref a :: (vs ++ dvs)) (Value.ref a :: (us ++ ds)) := .cons rfl (rel.append hd)
  have len : (Value.ref a :: us ++ ds).length = ps.length := vals.length.symm.trans (fn.len _ _ _ _ spec) |> fun z => z
  have few : us.length ≤ sizeLine := by
    have := more a free
    rw [← Paired.length rel, sizeLine_eq]
    omega
  subst ea eG
  refine wpAny_call (PySem.HandSPX.call_own base (fun _ => rfl) (I1.kIn _ _ at_) (PySem.W.looks_findIn I1.kIn look) (fun self => PySem.W.bind_fn I1.kIn self isf) few (codeAny_mono
    (fn.run _ X.stack _ _ ⟨Value.ref (hp.objs.size + 1) :: us, []⟩ (Value.ref (hp.objs.size + 1) :: (us ++ ds)) _ _ (fun _ _ _ => False) (hr.make C us []) (I2.env0.make C us []) (hb _ (Value.ref (hp.objs.size + 1) :: us) I2.kIn len) vals spec) ?_))
  rintro (er | fl) ⟨h2, g2, d2, t2, os'⟩ post
  · exact hx pins σ _ _ er _ I2 post
  · cases fl with
    | ret u =>
      obtain ⟨v, H2, os2, bare, un, ok, rv, rfl, dx, fs, e1, e2, e3, q2⟩ := post
      exact ⟨rv, mk_end (raises_own T.exC T.tyC) I1 (Nat.le_succ _) old un ok os2 bare e1 e2 e3 q2⟩
    | next => exact post.elim
    | brk => exact post.elim
    | cont => exact post.elim
end
end L2

set_option Elab.async false
set_option linter.all false
set_option maxRecDepth 100000
set_option maxHeartbeats 4000000
namespace Wf
open PySem PySem.Spec PyProof.Rows L2

/-! ## own exceptions whose __init__ sets fields -/
def oexB0 (K : PySem.W.Frag) (C : Addr) : Bool := match K.lookup C with
  | some ⟨.type "type", _, .cls cd, sl⟩ => (match cd.mro, sl.toList with
    | .ref C' :: bm, [_, _, _, _, some (.builtin n), _] => C' == C && !cd.hasDel && cd.hasDict && baseB bm n
    | _, _ => false)
  | _ => false
theorem oexB0_ok {K : PySem.W.Frag} {C : Addr} (q : oexB0 K C = true) : ∃ nm q N bs bm sn sub ab col dd k0 k1 k2 k3 k5 n, K.lookup C = some (excClassObj nm q C N bs bm true sn sub ab col dd k0 k1 k2 k3 k5 n) ∧ BaseF bm n := by
  unfold oexB0 at q
  split at q
  · rename_i dd cd sl ho
    split at q
    · rename_i C' bm k0 k1 k2 k3 n k5 hm hs
      simp only [Bool.and_eq_true, beq_iff_eq, Bool.not_eq_true'] at q
      obtain ⟨⟨⟨rfl, hdel⟩, hdict⟩, ht⟩ := q
      obtain ⟨nm, bs, mro, ns, qn, hd, sn, sub, ab, col, del⟩ := cd
      dsimp only at hm hdel hdict
      subst hm hdel hdict
      have hsl : sl = #[k0, k1, k2, k3, some (.builtin n), k5] := by
        obtain ⟨l⟩ := sl
        simp only at hs
        rw [hs]
      subst hsl
      exact ⟨nm, qn, ns, bs, bm, sn, sub, ab, col, dd, k0, k1, k2, k3, k5, n, ho, baseB_ok ht⟩
    · cases q
  · cases q
def oexB (K : PySem.W.Frag) (C : Addr) : Bool := oexB0 K C && (He.eqO (PySem.W.findIn K (.ref C) "__setattr__") (some (some (.builtin "object.__setattr__"))) && (decide (PySem.W.subIn K (.ref C) (.type "BaseException") = some true) && (decide (PySem.W.typeIn K (.ref C) = some (.type "type")) && PySem.W.keepIn K (.ref C))))
theorem oexB_ok {K : PySem.W.Frag} {C : Addr} (h : oexB K C = true) : OexG K C := by
  obtain ⟨h1, h⟩ := He.ba h
  obtain ⟨h2, h⟩ := He.ba h
  obtain ⟨h3, h⟩ := He.ba h
  obtain ⟨h4, h5⟩ := He.ba h
  exact ⟨oexB0_ok h1, He.eqO_ok h2, of_decide_eq_true h3, of_decide_eq_true h4, h5⟩
/-- the class at C as an exception: made by its own __init__ -/
structure ExI (K : PySem.W.Frag) (C : Addr) (fI : Addr) : Prop where
  oex : OexG K C
  ini : PySem.W.findIn K (.ref C) "__init__" = some (some (.ref fI))
  tyI : PySem.W.typeIn K (.ref fI) = some (.type "function")
def exIB (K : PySem.W.Frag) (C fI : Addr) : Bool := oexB K C && (He.eqO (PySem.W.findIn K (.ref C) "__init__") (some (some (.ref fI))) && decide (PySem.W.typeIn K (.ref fI) = some (.type "function")))
theorem exIB_ok {K : PySem.W.Frag} {C fI : Addr} (h : exIB K C fI = true) : ExI K C fI := by
  obtain ⟨h1, h⟩ := He.ba h
  obtain ⟨h2, h3⟩ := He.ba h
  exact ⟨oexB_ok h1, He.eqO_ok h2, of_decide_eq_true h3⟩
/-- what such an __init__ does: n arguments, the fields that it leaves (the last one first) -/
@[irreducible] def spEx (C : Addr) (n : Nat) (fl : List V → List (Str × V)) : Sp := fun vs H Q E => ∃ a us, vs = .ref a :: us ∧ us.length = n ∧ H a = some (exo a C none) ∧ ∀ d, H d = none → d ≠ a → Q .non (upd (upd H d (exd d (fl us))) a (exo a C (some d)))
theorem spEx_len {C : Addr} {n : Nat} {fl : List V → List (Str × V)} {vs : List V} {H : Hp} {Q : VK} {E : XK} (h : spEx C n fl vs H Q E) : vs.length = n + 1 := by
  unfold spEx at h
  obtain ⟨a, us, rfl, hl, _⟩ := h
  rw [List.length_cons, hl]
@[irreducible] def zOst (K : PySem.W.Frag) (f : Str) (D : Ends) (σ : L2.St) (y x : V) (H2 : Hp) : Prop := ∃ a C : Addr, x = .ref a ∧ OexG K C ∧ PySem.W.findIn K (.ref C) f = some none ∧
  ((H2 a = some (exo a C none) ∧ ∀ dx, H2 dx = none → dx ≠ a → D.nx σ (upd (upd H2 dx (exd dx [(f, y)])) a (exo a C (some dx)))) ∨
    ∃ (dx : Addr) (fs : List (Str × V)), H2 a = some (exo a C (some dx)) ∧ H2 dx = some (exd dx fs) ∧ fs.length ≤ 900 ∧ D.nx σ (upd H2 dx (exd dx ((f, y) :: fs))))
def fOst (K : PySem.W.Frag) (f : Str) (to te : TE) : TS := fun D σ H => te σ H fun y H1 => to σ H1 fun x H2 => zOst K f D σ y x H2
theorem ps_ostG {X : Cx} {o e : Expr} {to te : TE} {f : Str} {p' pos : Pos} (ho : PE X o to) (he : PE X e te) (hs : swapsWith e (some (.Attribute o f p')) pos.line X.env = pure false := by rfl) : PS X (.Assign [.Attribute o f p'] e pos) (fOst X.K f to te) := by
  constructor
  intro pins s σ H D I h
  refine plainObj_wpAny_Assign_Attribute (thn (he.run pins s σ H _ I h) ?_) hs
  rintro v s1 ⟨y, H1, I1, ry, q1⟩
  refine thn (ho.run pins s1 σ H1 _ I1 q1) ?_
  rintro u s2 ⟨x, H2, I2, rx, q2⟩
  unfold zOst at q2
  obtain ⟨a, C, rfl, T, hno, q2⟩ := q2
  cases (show u = Value.ref a from rx)
  rcases q2 with ⟨e1, k⟩ | ⟨dx, fs, e1, e2, few, k⟩
  · exact put1_g T I2 e1 hno ry fun dx s' n ne J => ⟨σ, _, J, k dx n ne⟩
  · exact put2_g T I2 e1 e2 few hno ry fun s' J => ⟨σ, _, J, k⟩
theorem ex_swap {H : Hp} {a d : Addr} {o u u' : HO} (ne : d ≠ a) : upd (upd (upd H d u) a o) d u' = upd (upd H d u') a o := by
  funext b
  by_cases h1 : b = d
  · subst h1
    rw [upd_same, upd_ne ne, upd_same]
  · rw [upd_ne h1]
    by_cases h2 : b = a
    · subst h2
      rw [upd_same, upd_same]
    · rw [upd_ne h2, upd_ne h2, upd_ne h1, upd_ne h1]
theorem z_ost1 {K : PySem.W.Frag} {f : Str} {n : L2.St → Hp → Prop} {r : VK} {bk ct : L2.St → Hp → Prop} {σ : L2.St} {y : V} {a C : Addr} {H : Hp} (T : OexG K C) (hn : PySem.W.findIn K (.ref C) f = some none) (h : H a = some (exo a C none))
    (k : ∀ dx, H dx = none → dx ≠ a → n σ (upd (upd H dx (exd dx [(f, y)])) a (exo a C (some dx)))) : zOst K f ⟨n, r, bk, ct⟩ σ y (.ref a) H := by
  unfold zOst
  exact ⟨a, C, rfl, T, hn, .inl ⟨h, k⟩⟩
theorem z_ost2 {K : PySem.W.Frag} {f : Str} {n : L2.St → Hp → Prop} {r : VK} {bk ct : L2.St → Hp → Prop} {σ : L2.St} {y : V} {a C dx : Addr} {fs : List (Str × V)} {H : Hp} (T : OexG K C) (hn : PySem.W.findIn K (.ref C) f = some none) (ne : dx ≠ a) (hl : fs.length ≤ 900)
    (k : n σ (upd (upd H dx (exd dx ((f, y) :: fs))) a (exo a C (some dx)))) : zOst K f ⟨n, r, bk, ct⟩ σ y (.ref a) (upd (upd H dx (exd dx fs)) a (exo a C (some dx))) := by
  unfold zOst
  refine ⟨a, C, rfl, T, hn, .inr ⟨dx, fs, upd_same, by rw [upd_ne ne, upd_same], hl, ?_⟩⟩
  rw [ex_swap ne]
  exact k
/-! ### raise -/
@[irreducible] def zRaise (C : Addr) (sp : Sp) (dvs : List V) (W : WX) (vs : List V) (σ : L2.St) (H1 : Hp) : Prop := vs.length ≤ 1000 ∧ ∀ a, H1 a = none → sp (.ref a :: (vs ++ dvs)) (upd H1 a (exo a C none))
  (fun v H2 => v = .non ∧ ∃ (d : Addr) (fs : List (Str × V)), H2 a = some (exo a C (some d)) ∧ H2 d = some (exd d fs) ∧ H1 d = none ∧ W (.ref C) (some d) σ (upd (del H2 a) d (.xd fs))) (fun _ _ _ => False)
def fRaise (C : Addr) (sp : Sp) (dvs : List V) (W : WX) (ta : TA) : TS := fun _ σ H => ta σ H fun vs H1 => zRaise C sp dvs W vs σ H1
theorem ps_raiseC {X : Cx} {W : WX} {CX : CXT} {x : Str} {C fI : Addr} {k : Nat} {fd : FuncData} {ps : List Str} {sp : Sp} {ds : List Value} {dvs : List V} {e : Expr} {es : List Expr} {ta : TA} {p pos pos2 : Pos} (hc : X.calm = true) (tk : Takes X W) (T : ExI X.K C fI)
    (F1 : FnOk X.prog X.w X.K X.mg X.base CX k fI fd ps sp) (hr : Room (k + 1) X.A) (hb : Binds X.K fd ps ds) (hd : Vals dvs ds) (hx : Passes CX X (fun _ _ _ => False)) (hg : Gl X x) (hm : X.mg x = some (.ref C)) (ha : PA X (e :: es) ta)
    (hdb : (x == ("__debug__" : Str)) = false := by decide) (he : starEach (e :: es) X.env = (false, eval e X.env) :: starEach es X.env := by rfl) (hpl : (backTo pos (starEach es X.env)).any (·.1) = false := by rfl) :
    PS X (.Raise (some (.Call (.Name x p) (e :: es) [] pos)) none pos2) (fRaise C sp dvs W ta) := by
  have h := ps_raise (W := W) (pos := pos2) hc tk (pmk_oexG (p := p) T.oex T.ini T.tyI F1 hr hb hd hx hg hm ha hdb he hpl)
  refine cast ?_ h
  unfold fRaise zRaise
  rfl
theorem ex_gone {H : Hp} {a d : Addr} {o o' o2 u v : HO} (ha : H a = none) (ne : d ≠ a) : upd (del (upd (upd (upd H a o) d u) a o') a) d v = upd H d v := by
  funext b
  by_cases h1 : b = d
  · subst h1
    rw [upd_same, upd_same]
  · rw [upd_ne h1, upd_ne h1]
    by_cases h2 : b = a
    · subst h2
      rw [del_same, ha]
    · rw [del_ne h2, upd_ne h2, upd_ne h1, upd_ne h2]
theorem z_raise {K0 H : Hp} {L : Ow} {C : Addr} {n : Nat} {fl : List V → List (Str × V)} {W : WX} {vs : List V} {σ : L2.St} (w : Own K0 L H) (hn : vs.length = n) (hl : Nat.ble vs.length 1000 = true) (k : ∀ d H', Own K0 ((d, .xd (fl vs)) :: L) H' → W (.ref C) (some d) σ H') : zRaise C (spEx C n fl) [] W vs σ H := by
  unfold zRaise
  refine ⟨Nat.le_of_ble_eq_true hl, fun a ha => ?_⟩
  unfold spEx
  refine ⟨a, vs, by rw [List.append_nil], hn, upd_same, fun d hd ne => ⟨rfl, d, fl vs, upd_same, by rw [upd_ne ne, upd_same], by rw [upd_ne ne] at hd; exact hd, ?_⟩⟩
  rw [ex_gone (o2 := exo a C none) ha ne]
  rw [upd_ne ne] at hd
  exact k d _ (w.new hd _)
/-! ### try -/
def fAsEnds (i : Nat) (D : Ends) : Ends := match D with
  | ⟨n, r, bk, ct⟩ => ⟨fun σ H => fSet σ i none fun σ' => n σ' H, r, fun σ H => fSet σ i none fun σ' => bk σ' H, fun σ H => fSet σ i none fun σ' => ct σ' H⟩
@[irreducible] def zAs (K : PySem.W.Frag) (c : Value) (i : Nat) (ts : Addr → Value → Option Addr → TS) (Wout : WX) (D : Ends) : WX := wAs K c i ts Wout D
def fTryAs (K : PySem.W.Frag) (c : Value) (i : Nat) (tb : WX → TS) (ts : Addr → Value → Option Addr → TS) (Wout : WX) : TS := fun D σ H => match D with | ⟨n, r, bk, ct⟩ => tb (zAs K c i ts Wout ⟨n, r, bk, ct⟩) ⟨n, r, bk, ct⟩ σ H
theorem fTryAs_eq (K : PySem.W.Frag) (c : Value) (i : Nat) (tb : WX → TS) (ts : Addr → Value → Option Addr → TS) (Wout : WX) : (fun D σ H => tb (wAs K c i ts Wout D) D σ H : TS) = fTryAs K c i tb ts Wout := by
  funext D σ H
  cases D
  unfold fTryAs zAs
  rfl
@[irreducible] def zOnly (K : PySem.W.Frag) (c : Value) (ts : Addr → Value → Option Addr → TS) (Wout : WX) (D : Ends) : WX := wOnly K c ts Wout D
def fTryOnly (K : PySem.W.Frag) (c : Value) (tb : WX → TS) (ts : Addr → Value → Option Addr → TS) (Wout : WX) : TS := fun D σ H => match D with | ⟨n, r, bk, ct⟩ => tb (zOnly K c ts Wout ⟨n, r, bk, ct⟩) ⟨n, r, bk, ct⟩ σ H
theorem fTryOnly_eq (K : PySem.W.Frag) (c : Value) (tb : WX → TS) (ts : Addr → Value → Option Addr → TS) (Wout : WX) : (fun D σ H => tb (wOnly K c ts Wout D) D σ H : TS) = fTryOnly K c tb ts Wout := by
  funext D σ H
  cases D
  unfold fTryOnly zOnly
  rfl
section
variable {K : PySem.W.Frag} {c cls : Value} {i : Nat} {ts : Addr → Value → Option Addr → TS} {Wout : WX} {n : L2.St → Hp → Prop} {r : VK} {bk ct : L2.St → Hp → Prop} {D : Ends} {d : Option Addr} {σ : L2.St} {H : Hp}
theorem z_asYes (e : PySem.W.exmOne K cls c = some true) (k : ∀ a, H a = none → fSet σ i (some (.ref a)) fun σ' => ts a cls d (fAsEnds i ⟨n, r, bk, ct⟩) σ' H) : zAs K c i ts Wout ⟨n, r, bk, ct⟩ cls d σ H := by
  unfold zAs
  refine ⟨true, e, fun _ a ha => ?_, fun q => Bool.noConfusion q⟩
  have q := k a ha
  rw [fSet_eq (k := fun σ' => ts a cls d (fAsEnds i ⟨n, r, bk, ct⟩) σ' H)] at q
  have e2 : fAsEnds i ⟨n, r, bk, ct⟩ = { nx := fun σ' H' => n (σ'.set i none) H', rt := r, bk := fun σ' H' => bk (σ'.set i none) H', ct := fun σ' H' => ct (σ'.set i none) H' } := by
    unfold fAsEnds
    simp only [fSet_eq (k := fun σ' => n σ' _), fSet_eq (k := fun σ' => bk σ' _), fSet_eq (k := fun σ' => ct σ' _)]
  rw [e2] at q
  exact q
theorem z_asNo (e : PySem.W.exmOne K cls c = some false) (k : Wout cls d σ H) : zAs K c i ts Wout D cls d σ H := by
  unfold zAs
  exact ⟨false, e, fun q => Bool.noConfusion q, fun _ => k⟩
theorem z_onlyYes (e : PySem.W.exmOne K cls c = some true) (k : ∀ a, H a = none → ts a cls d D σ H) : zOnly K c ts Wout D cls d σ H := by
  unfold zOnly
  exact ⟨true, e, fun _ => k, fun q => Bool.noConfusion q⟩
theorem z_onlyNo (e : PySem.W.exmOne K cls c = some false) (k : Wout cls d σ H) : zOnly K c ts Wout D cls d σ H := by
  unfold zOnly
  exact ⟨false, e, fun q => Bool.noConfusion q, fun _ => k⟩
end
/-! ### in the suite -/
@[irreducible] def zXf (a : Addr) (cls : Value) (d : Option Addr) (C : Addr) (f : Str) (Q : VK) (x : V) (H1 : Hp) : Prop := x = .ref a ∧ cls = .ref C ∧ ∃ (dd : Addr) (fs : List (Str × V)) (v : V), d = some dd ∧ H1 dd = some (.xd fs) ∧ fs.lookup f = some v ∧ Q v H1
def fXf (a : Addr) (cls : Value) (d : Option Addr) (C : Addr) (f : Str) (te : TE) : TE := fun σ H Q => te σ H (zXf a cls d C f Q)
theorem fXf_eq (a : Addr) (cls : Value) (d : Option Addr) (C : Addr) (f : Str) (te : TE) : tXf a cls d C f te = fXf a cls d C f te := by unfold fXf zXf; rfl
theorem z_xf {a C dd : Addr} {f : Str} {Q : VK} {H : Hp} {fs : List (Str × V)} {v : V} (h : H dd = some (.xd fs)) (e : fs.lookup f = some v) (k : Q v H) : zXf a (.ref C) (some dd) C f Q (.ref a) H := by
  unfold zXf
  exact ⟨rfl, rfl, dd, fs, v, rfl, h, e, k⟩
/-! ### isinstance -/
/-- what the class must say -/
structure IsC (K : PySem.W.Frag) (C : Addr) : Prop where
  hcl : (PySem.W.clsIn K C).isSome = true
  hga : PySem.W.findIn K (.ref C) "__getattribute__" = some (some (.builtin "BaseException.__getattribute__"))
  hgt : PySem.W.findIn K (.ref C) "__getattr__" = some none
  hsub : PySem.W.subIn K (.ref C) (.type "BaseException") = some true
  ha : PySem.W.findIn K (.ref C) "__class__" = some (some (.builtin "object.__class__"))
  hn : PySem.W.specialIn K (.builtin "object.__class__") "__get__" = some (some (.builtin "getset_descriptor.__get__"))
  htk : PySem.W.takesIn K (.builtin "object.__class__") = some true
  hm : PySem.W.mroIn K C (.type "object") = some true
def isCB (K : PySem.W.Frag) (C : Addr) : Bool := (PySem.W.clsIn K C).isSome && (He.eqO (PySem.W.findIn K (.ref C) "__getattribute__") (some (some (.builtin "BaseException.__getattribute__"))) && (He.eqO (PySem.W.findIn K (.ref C) "__getattr__") (some none) && (decide (PySem.W.subIn K (.ref C) (.type "BaseException") = some true) &&
  (He.eqO (PySem.W.findIn K (.ref C) "__class__") (some (some (.builtin "object.__class__"))) && (He.eqO (PySem.W.specialIn K (.builtin "object.__class__") "__get__") (some (some (.builtin "getset_descriptor.__get__"))) && (decide (PySem.W.takesIn K (.builtin "object.__class__") = some true) && decide (PySem.W.mroIn K C (.type "object") = some true)))))))
theorem isCB_ok {K : PySem.W.Frag} {C : Addr} (h : isCB K C = true) : IsC K C := by
  obtain ⟨h1, h⟩ := He.ba h
  obtain ⟨h2, h⟩ := He.ba h
  obtain ⟨h3, h⟩ := He.ba h
  obtain ⟨h4, h⟩ := He.ba h
  obtain ⟨h5, h⟩ := He.ba h
  obtain ⟨h6, h⟩ := He.ba h
  obtain ⟨h7, h8⟩ := He.ba h
  exact ⟨h1, He.eqO_ok h2, He.eqO_ok h3, of_decide_eq_true h4, He.eqO_ok h5, He.eqO_ok h6, of_decide_eq_true h7, of_decide_eq_true h8⟩
@[irreducible] def zIsi (K : PySem.W.Frag) (x c : V) (H : Hp) (Q : VK) : Prop := rIsi K [x, c] H Q ∨ rIsiT K [x, c] H Q
def fIsi (K : PySem.W.Frag) : List V → Hp → VK → Prop := fun xs H Q => match xs with | [x, c] => zIsi K x c H Q | _ => False
theorem fk_isi {X : Cx} : CallR X (.builtin "isinstance") (fIsi X.K) := by
  intro pins s σ H xs us Q I r h
  unfold fIsi at h
  split at h
  · unfold zIsi at h
    rcases h with h | h
    · exact call_isi pins s σ H _ us Q I r h
    · exact call_isiT pins s σ H _ us Q I r h
  · exact h.elim
/-- isinstance(e, c), e what the suite holds -/
@[irreducible] def zIsE (K : PySem.W.Frag) (a : Addr) (cls : Value) (d : Option Addr) (x c : V) (H : Hp) (Q : VK) : Prop := x = .ref a ∧ ∃ (C dd : Addr) (fs : List (Str × V)), cls = .ref C ∧ d = some dd ∧ H dd = some (.xd fs) ∧ IsC K C ∧
  ((∃ (u : Value) (b : Bool), ClsV c u ∧ PySem.W.kitOne K (.ref C) u = some b ∧ Q (.bl b) H) ∨ ∃ (tp : Addr) (cs : List V) (us : List Value) (b : Bool), c = .ref tp ∧ H tp = some (.tup cs) ∧ Paired ClsV cs us ∧ PySem.W.kitAny K (.ref C) us = some b ∧ Q (.bl b) H)
def fIsE (K : PySem.W.Frag) (a : Addr) (cls : Value) (d : Option Addr) : List V → Hp → VK → Prop := fun xs H Q => match xs with | [x, c] => zIsE K a cls d x c H Q | _ => False
theorem fk_isE {X : Cx} {a : Addr} {oe : Obj} {cls : Value} {d : Option Addr} {pn : List (Addr × Obj)} (hz : Zc cls d oe) (hf : ∃ vs, oe.data = .fields vs) : CallR (X.suite a ((a, oe) :: pn)) (.builtin "isinstance") (fIsE X.K a cls d) := by
  intro pins s σ H xs us Q I r h
  unfold fIsE at h
  split at h
  · rename_i x c
    unfold zIsE at h
    obtain ⟨rfl, C, dd, fs, rfl, rfl, ed, T, h⟩ := h
    obtain ⟨u1, u2, rfl, r1, r2⟩ := vals2 r
    cases (show u1 = Value.ref a from r1)
    obtain ⟨hget, _⟩ := I.pin (a, oe) (List.mem_append.mpr (.inl List.mem_cons_self))
    obtain ⟨vs, hv⟩ := hf
    have hx : ObjOk X.prog X.w H s.heap dd (.xd fs) := I.hok dd _ ed
    obtain ⟨mA, hns, hr⟩ := hx
    obtain ⟨od, ho, hl⟩ := lookIn_ns hns
    have J : PySem.W.InstAt s.heap a oe C (some od) := ⟨hget, hz.1, by unfold PySem.W.notCls; rw [hv] <;> rfl, by rw [hz.2]; exact ho⟩
    rcases h with ⟨u, b, k, e, q⟩ | ⟨tp, cs, ws, b, rfl, hT, k, e, q⟩
    · have e2 := k.eq r2
      subst e2
      exact PySem.W.kia_one (PySem.W.kitx_exc T.hcl T.hga T.hgt T.hsub T.ha T.hn T.htk T.hm) I.kIn J e (fun z => nomatch z) fun tk => ⟨.bl b, H, I.kept (t' := tk) fun _ _ z => z, rfl, q⟩
    · cases (show u2 = Value.ref tp from r2)
      obtain ⟨_, its, rv, o, h1, h2, n, h3⟩ := (show ObjOk X.prog X.w H s.heap tp (.tup cs) from I.hok tp _ hT)
      have e3 := ClsV.all k rv
      subst e3
      obtain ⟨oc, od', dt, sl⟩ := o
      simp only at h2 h3
      subst h2 h3
      exact PySem.W.kia_tup (PySem.W.kitx_exc T.hcl T.hga T.hgt T.hsub T.ha T.hn T.htk T.hm) I.kIn J h1 e (fun z => nomatch z) fun tk => ⟨.bl b, H, I.kept (t' := tk) fun _ _ z => z, rfl, q⟩
  · exact h.elim
section
variable {K : PySem.W.Frag} {x c : V} {H : Hp} {Q : VK} {t u : Value} {b : Bool} {a C dd tp : Addr} {fs : List (Str × V)} {cs : List V} {us : List Value}
theorem z_isi (ty : TyX K H x t) (k : ClsV c u) (e : PySem.W.kitOne K t u = some b) (h : Q (.bl b) H) : zIsi K x c H Q := by unfold zIsi; exact .inl ⟨x, c, t, u, b, rfl, k, ty, e, h⟩
theorem z_isiT (ty : TyX K H x t) (hT : H tp = some (.tup cs)) (k : Paired ClsV cs us) (e : PySem.W.kitAny K t us = some b) (h : Q (.bl b) H) : zIsi K x (.ref tp) H Q := by unfold zIsi; exact .inr ⟨x, tp, cs, t, us, b, rfl, hT, k, ty, e, h⟩
theorem z_isE (T : IsC K C) (ed : H dd = some (.xd fs)) (k : ClsV c u) (e : PySem.W.kitOne K (.ref C) u = some b) (h : Q (.bl b) H) : zIsE K a (.ref C) (some dd) (.ref a) c H Q := by
  unfold zIsE
  exact ⟨rfl, C, dd, fs, rfl, rfl, ed, T, .inl ⟨u, b, k, e, h⟩⟩
theorem z_isET (T : IsC K C) (ed : H dd = some (.xd fs)) (hT : H tp = some (.tup cs)) (k : Paired ClsV cs us) (e : PySem.W.kitAny K (.ref C) us = some b) (h : Q (.bl b) H) : zIsE K a (.ref C) (some dd) (.ref a) (.ref tp) H Q := by
  unfold zIsE
  exact ⟨rfl, C, dd, fs, rfl, rfl, ed, T, .inr ⟨tp, cs, us, b, rfl, hT, k, e, h⟩⟩
end
end Wf

set_option Elab.async false
set_option linter.all false
set_option maxRecDepth 100000
set_option maxHeartbeats 4000000
/-! ## enumerate over a tuple: as the library's over a list -/
namespace PySem
namespace EnT
open Sem (wp)
open AutoSeq1 (wpAny_loadPart')
theorem meets_new (l : Addr) (items : Array Value) (n : Nat) (dct : Option Addr) (sl : Array (Option Value)) :
    Meets (Builtin.«enumerate.__new__» ⟨[.type "enumerate", .ref l], []⟩) (fun _ R s => s.heap.get? l = some { cls := .type "tuple", dict := dct, data := .seq items n, slots := sl } ∧
      R (.ok (.ret (.ref (s.heap.push { cls := .type "tuple_iterator", data := .fields #[.ref l, .int 0 0] }).objs.size)))
        { s with heap := (s.heap.push { cls := .type "tuple_iterator", data := .fields #[.ref l, .int 0 0] }).push { cls := .type "enumerate", data := .fields #[.none, .bool false, .ref s.heap.objs.size, rawInt 0, .none, .none] } }) :=
  .of_wp fun prog w A R s h => by
    obtain ⟨hp, g, d, tk, os⟩ := s; obtain ⟨hl, h⟩ := h
    have hsub := sub_enumerate
    have hL : Heap.IsTuple (Shared.heap ⟨hp, g, d, tk, os⟩) l items := ⟨_, hl, rfl, n, rfl⟩
    wp_walk using wpAny_loadPart' hl
    refine wpAny_stack_any fun st => wpAny_pure ?_
    split
    · rename_i c _ _ _ _ _
      cases (c == Value.type "enumerate")
      · wp_walk using wpAny_loadPart' hl, wpAny_pyIter_tuple hL
        exact ⟨_, rfl, h⟩
      · wp_walk using wpAny_loadPart' hl, wpAny_pyIter_tuple hL
        exact ⟨_, rfl, h⟩
    · wp_walk using wpAny_loadPart' hl, wpAny_pyIter_tuple hL
      exact ⟨_, rfl, h⟩
section
variable {prog : Program} {w : World} {A : Around} {E : Value → Shared → Prop} {s : Shared}
theorem call_new {l : Addr} {items : Array Value} {Q : Value → Shared → Prop} (hL : s.heap.IsTuple l items)
    (h : ∀ h', IsEnum h' (s.heap.objs.size + 1) s.heap.objs.size 0 .none → h'.IsTupleIter s.heap.objs.size l 0 → h'.objs.size = s.heap.objs.size + 2 →
      (∀ b o, s.heap.get? b = some o → h'.get? b = some o) → Q (.ref (s.heap.objs.size + 1)) { s with heap := h' }) :
    wpAny (model prog w) A (call (.type "enumerate") [.ref l]) Q E s := by
  obtain ⟨⟨c, dct, dt, sl⟩, hl, hc, n, hd⟩ := hL
  replace hc : c = .type "tuple" := hc
  replace hd : dt = .seq items n := hd
  subst hc hd
  refine callType_new F.called_enumerate (by decide) (F.typeCall_enumerate_1 _) (F.newCall_enumerate_1 _) (fun obj => F.args_object_init_2 obj _) F.entry_enumerate_new
    (meets_new l items n dct sl) ⟨hl, ?_⟩
  have hz : (s.heap.push { cls := .type "tuple_iterator", data := .fields #[.ref l, .int 0 0] }).objs.size = s.heap.objs.size + 1 := Heap.size_push ..
  show _ ∧ _
  rw [hz]
  have he : IsEnum ((s.heap.push { cls := .type "tuple_iterator", data := .fields #[.ref l, .int 0 0] }).push
      { cls := .type "enumerate", data := .fields #[.none, .bool false, .ref s.heap.objs.size, rawInt 0, .none, .none] }) (s.heap.objs.size + 1) s.heap.objs.size 0 .none := by
    have := Heap.get?_push_size (s.heap.push { cls := .type "tuple_iterator", data := .fields #[.ref l, .int 0 0] })
      (o := { cls := .type "enumerate", data := .fields #[.none, .bool false, .ref s.heap.objs.size, rawInt 0, .none, .none] }) rfl
    rw [hz] at this; exact this
  refine ⟨⟨_, he, rfl⟩, h _ he ⟨_, Heap.get?_push_of_some _ (Heap.get?_push_size _ rfl), rfl, rfl⟩ (by rw [Heap.size_push, hz]) fun b o x => Heap.get?_push_of_some _ (Heap.get?_push_of_some _ x)⟩
theorem next_item {it l : Addr} {i : Nat} {items} {x : Value} {Q : Value → Shared → Prop} (hit : s.heap.IsTupleIter it l i)
    (hl : s.heap.IsTuple l items) (hx : items[i]? = some x)
    (hQ : ∀ h', h'.IsTupleIter it l (i + 1) → Heap.SameBut it s.heap h' → Q x { s with heap := h' }) :
    wpAny (model prog w) A (Builtin.SmallTypes.nextOf (.ref it)) Q E s := by
  obtain ⟨o, ho, hc, hd⟩ := id hit
  obtain ⟨ol, hol, _, nl, hdl⟩ := hl
  unfold Builtin.SmallTypes.nextOf
  refine wpAny_bind (wpAny_callSpecial?_slot (name := Str.ofString "__next__") hit.typeIs F.slot_tuple_iterator_next
    (wpAny_call_entry F.slot_tuple_iterator_next hit.typeIs F.entry_tuple_iterator_next ?_ (F.args_tuple_iterator_next_1 _)))
  show wpAny _ _ (field (.ref it) 0 >>= _) _ _ s
  refine wpAny_bind (wpAny_field ho hd (x := .ref l) rfl ?_)
  show wpAny _ _ (if (Value.ref l == Value.none) = true then _ else _) _ _ s
  rw [if_neg (show ¬ ((Value.ref l == Value.none) = true) from Bool.false_ne_true)]
  show wpAny _ _ (field (.ref it) 1 >>= _) _ _ s
  refine wpAny_bind (wpAny_field ho hd (x := .int i 0) rfl ?_)
  show wpAny _ _ (seqItems? (.ref l) >>= _) _ _ s
  refine wpAny_bind (wpAny_seqItems hol hdl ?_)
  simp only [Int.toNat_natCast, hx]
  refine wpAny_bind (wpAny_setField ho hd (by simp) (wpAny_pure ⟨x, rfl, wpAny_pure (hQ _ ?_ (Heap.SameBut.update ..))⟩))
  exact ⟨_, Heap.get?_update_self _ ho (Obj.isFreed_of_fields (Obj.data_mapFields hd _)), (Obj.cls_mapFields ..).trans hc, by
    rw [Obj.data_mapFields hd]; simp [rawInt]⟩
theorem next_end {it l : Addr} {i : Nat} {items} {Q : Value → Shared → Prop} (hh : A.handled = none)
    (hit : s.heap.IsTupleIter it l i) (hl : s.heap.IsTuple l items) (hx : items[i]? = none)
    (hE : ∀ h' e, Heap.ExtBut it s.heap h' → (∃ o, h'.get? e = some o ∧ o.cls = .type "StopIteration") → E (.ref e) { s with heap := h' }) :
    wpAny (model prog w) A (Builtin.SmallTypes.nextOf (.ref it)) Q E s := by
  obtain ⟨o, ho, hc, hd⟩ := id hit
  obtain ⟨ol, hol, _, nl, hdl⟩ := hl
  unfold Builtin.SmallTypes.nextOf
  refine wpAny_bind (wpAny_callSpecial?_slot (name := Str.ofString "__next__") hit.typeIs F.slot_tuple_iterator_next
    (wpAny_call_entry F.slot_tuple_iterator_next hit.typeIs F.entry_tuple_iterator_next ?_ (F.args_tuple_iterator_next_1 _)))
  show wpAny _ _ (field (.ref it) 0 >>= _) _ _ s
  refine wpAny_bind (wpAny_field ho hd (x := .ref l) rfl ?_)
  show wpAny _ _ (if (Value.ref l == Value.none) = true then _ else _) _ _ s
  rw [if_neg (show ¬ ((Value.ref l == Value.none) = true) from Bool.false_ne_true)]
  show wpAny _ _ (field (.ref it) 1 >>= _) _ _ s
  refine wpAny_bind (wpAny_field ho hd (x := .int i 0) rfl ?_)
  show wpAny _ _ (seqItems? (.ref l) >>= _) _ _ s
  refine wpAny_bind (wpAny_seqItems hol hdl ?_)
  simp only [Int.toNat_natCast, hx]
  refine wpAny_bind (wpAny_rule (wpAny_bind (wpAny_setField ho hd (by simp) ?_)))
  show wpAny _ _ (newExc (.type "StopIteration") [] >>= _) _ _ _
  refine wpAny_bind ?_
  simp only [newExc, newTuple]
  refine wpAny_bind (wpAny_newObj_type ?_ (by size_fits))
  refine wpAny_bind (m := firstArgMember _ _) (wpAny_of_eq (a := Value.none) (by first | rfl | (simp only [firstArgMember]; rfl)) ?_)
  refine wpAny_newObj_type ?_ (by size_fits)
  simp only [raiseNew]
  refine wpAny_bind (wpAny_handled ?_)
  first | rw [show A.in1.handled = none from hh] | rw [hh]
  refine wpAny_bind (wpAny_pure (wpAny_throw ?_))
  exact hE _ _ (((Heap.SameBut.update ..).extBut.push _).push _) ⟨_, Heap.get?_push_size _ rfl, rfl⟩
end
theorem draws {prog : Program} {w : World} {A : Around} (hh : A.handled = none) (it l : Addr) (hne : l ≠ it) (items : Array Value) :
    Draws prog w A it [it, l] items.size (fun i v => items[i]? = some v) (fun i h => h.IsTupleIter it l i ∧ h.IsTuple l items) where
  live := fun _ _ st => let ⟨o, ho, _⟩ := st.1; ⟨o, ho⟩
  frame := fun _ _ _ st hk => ⟨st.1.at fun o e => hk it (by simp) o e, let ⟨o, e, r⟩ := st.2; ⟨o, hk l (by simp) o e, r⟩⟩
  item := fun i s Q E hi st hQ => by
    refine next_item st.1 st.2 (x := items[i]) (by simp [hi]) fun h' hit' hs' => ?_
    exact hQ _ h' s.toks (by simp [hi]) ⟨hit', let ⟨o, e, r⟩ := st.2; ⟨o, (hs'.2 l hne).trans e, r⟩⟩ hs'
  done := fun s Q E st hE => next_end hh st.1 st.2 (by simp) hE
end EnT
end PySem

set_option Elab.async false
set_option linter.all false
set_option maxRecDepth 100000
set_option maxHeartbeats 4000000
namespace L2
open PySem PySem.Spec PyProof.Rows
/-- the tuple at a, each item in a new pair -/
def IteT (K : PySem.W.Frag) (a : Addr) : It :=
  ⟨fun i H => ∃ (xs : List V) (x : V), SqT K H a xs ∧ xs[i]? = some x, fun i H v H' => ∃ T x, v = .ref T ∧ H T = none ∧ H' = upd H T (.tup [.int (i : Nat), x]) ∧ ∀ xs, SqT K H a xs → xs[i]? = some x, fun i H => ∃ xs : List V, SqT K H a xs ∧ xs.length ≤ i⟩
theorem enumT_apart {h : Heap} {e it a : Addr} {i : Int} {old : Value} {items : Array Value} (he : IsEnum h e it i old) (p : h.IsTuple a items) : e ≠ a := fun z => by
  subst z
  obtain ⟨o, e1, c, _⟩ := p
  rw [he] at e1
  cases Option.some.inj e1
  have c2 : Value.type "enumerate" = Value.type "tuple" := c
  exact absurd c2 (by decide)
theorem iterT_apart {h : Heap} {it a : Addr} {i : Nat} {items : Array Value} (hit : h.IsTupleIter it a i) (p : h.IsTuple a items) : a ≠ it := fun z => by
  subst z
  obtain ⟨o, e1, c, _⟩ := p
  obtain ⟨o2, e2, c2, _⟩ := hit
  rw [e1] at e2
  cases Option.some.inj e2
  rw [c] at c2
  exact absurd c2 (by decide)
theorem turn_enumT {P : Program} {w : World} {K : PySem.W.Frag} {elts : List Expr} {kk : Nat} {tpos : Pos} (a e it : Addr) :
    Turn P w K (.Tuple elts kk tpos) (IteT K a) [e, it] e (fun i h => (∃ old, IsEnum h e it ((i : Nat) : Int) old) ∧ h.IsTupleIter it a i ∧ e ≠ it) where
  mem := by simp
  obj := fun i h st b hb => by
    obtain ⟨⟨old, he⟩, ⟨o, ho, hc, hd⟩, _⟩ := st
    have e' : b = e ∨ b = it := by simpa using hb
    rcases e' with z | z
    · rw [z]; exact ⟨_, he, fun v q => nomatch q⟩
    · rw [z]; exact ⟨o, ho, fun v q => by rw [hd] at q; cases q⟩
  keep := fun i h h' st k => let ⟨⟨old, he⟩, hi, hne⟩ := st; ⟨⟨old, k e (by simp) _ he⟩, hi.at fun o q => k it (by simp) o q, hne⟩
  item := by
    intro X hP hw hK hc i pins s σ H E I hf st hg
    subst hP hw hK
    obtain ⟨⟨old, he⟩, hit, hne⟩ := st
    obtain ⟨xs, x, hq, hx⟩ := hg
    obtain ⟨its, rv, p, hz⟩ := I.tuple hq
    have p' : s.heap.IsTuple a its.toArray := p
    obtain ⟨u, hu, ru⟩ := rv.get hx
    have hu' : its.toArray[i]? = some u := by simpa using hu
    have hel : e < s.heap.objs.size := Heap.lt_size he
    have hil : it < s.heap.objs.size := by obtain ⟨_, q, _⟩ := hit; exact Heap.lt_size q
    have hlt : i < its.toArray.size := (Array.getElem?_eq_some_iff.mp hu').1
    have hea := enumT_apart he p'
    refine wpAny_pyNext_enum_itemD (PySem.EnT.draws (prog := X.prog) (w := X.w) (A := X.A.in1) (I.ok.hd hc) it a (iterT_apart hit p') its.toArray) he ⟨hit, p'⟩ hlt hne (by simp [hne, hea]) fun x' h' tk hx' ho hst' hT hsz hk => ?_
    have ex : x' = u := Option.some.inj (hx'.symm.trans hu')
    subst ex
    refine ⟨_, rfl, wpAny_letOwnedTupleGo_enum (s := { s with heap := h', toks := tk + 1 }) ho fun h'' he' sb => ?_⟩
    have hT2 : h''.get? s.heap.objs.size = some { cls := .type "tuple", data := .seq #[.int i tk, x'] } := (sb.2 _ (Nat.ne_of_gt hel)).trans hT
    have new : ObjOk X.prog X.w (upd H s.heap.objs.size (.tup [.int (i : Nat), x])) h'' s.heap.objs.size (.tup [.int (i : Nat), x]) :=
      ⟨by show 2 ≤ sizeLine; decide, [.int i tk, x'], .cons ⟨_, rfl⟩ (.cons ru .nil), ⟨_, hT2, rfl, _, rfl⟩⟩
    have I1 : Inv X pins σ (upd H s.heap.objs.size (.tup [.int (i : Nat), x])) { s with heap := h'', toks := tk + 1 } :=
      I.turnedNew (ch := [e, it]) (fun b ob hb q => (sb.2 b (fun z => hb (by simp [z]))).trans (hk b ob (fun z => hb (by simp [z])) (fun z => hb (by simp [z])) q)) hf (Nat.le_refl _) new
    refine ⟨.ref s.heap.objs.size, _, I1, rfl, ⟨_, x, rfl, I.hok.fresh (Nat.le_refl _), rfl, fun ys hy => by rw [I.tuple_inj hy hq]; exact hx⟩, ⟨⟨x', ?_⟩, hst'.1.at fun o q => (sb.2 it (Ne.symm hne)).trans q, hne⟩, fun b hb => ?_⟩
    · have e1 : ((i + 1 : Nat) : Int) = (i : Int) + 1 := by omega
      rw [e1]; exact he'
    · have hb' : b < s.heap.objs.size := by
        have e' : b = e ∨ b = it := by simpa using hb
        rcases e' with z | z
        · rw [z]; exact hel
        · rw [z]; exact hil
      rw [upd_ne (Nat.ne_of_lt hb')]
      exact (hf b hb).1
  done := by
    intro X hP hw hK hc i pins s σ H E I hf st hg
    subst hP hw hK
    obtain ⟨⟨old, he⟩, hit, hne⟩ := st
    obtain ⟨xs, hq, hx⟩ := hg
    obtain ⟨its, rv, p, hz⟩ := I.tuple hq
    have p' : s.heap.IsTuple a its.toArray := p
    obtain ⟨f0, f1, f2, f3, f4, f5⟩ := hf it (by simp)
    have hl := rv.length
    have D0 := PySem.EnT.draws (prog := X.prog) (w := X.w) (A := X.A.in1) (I.ok.hd hc) it a (iterT_apart hit p') its.toArray
    have D : Draws X.prog X.w X.A.in1 it [it, a] i (fun _ _ => True) (fun j h => j = i ∧ h.IsTupleIter it a j ∧ h.IsTuple a its.toArray) :=
      { live := fun _ _ st => let ⟨o, ho, _⟩ := st.2.1; ⟨o, ho⟩
        frame := fun j h h' st hk => ⟨st.1, D0.frame j h h' st.2 hk⟩
        item := fun j s Q E hj st hQ => absurd hj (by rw [st.1]; exact Nat.lt_irrefl _)
        done := fun s Q E st hE => PySem.EnT.next_end (I.ok.hd hc) st.2.1 st.2.2 (by simp; omega) hE }
    exact wpAny_pyNext_enum_endD D he ⟨rfl, hit, p'⟩ fun h' eb => ⟨rfl, I.turned (t' := s.toks) (fun b o hb q => eb b o hb q) f0 f1 f3 f4 f5⟩
  self := fun A i s Q E st h => let ⟨⟨_, he⟩, _⟩ := st; wpAny_pyIter_enum he h
def iEnumT (K : PySem.W.Frag) (ta : TA) : TI := fun σ H R => ta σ H fun vs H1 => ∃ a xs, vs = [.ref a] ∧ SqT K H1 a xs ∧ R (IteT K a) H1
theorem pi_enumT {X : Cx} {e : Expr} {ta : TA} {p pos tpos : Pos} {elts : List Expr} {kk : Nat} (hg : Gl X "enumerate") (hm : X.mg "enumerate" = none) (ha : PA X [e] ta) (hs : starEach [e] X.env = [(false, eval e X.env)] := by rfl) :
    PI X (.Tuple elts kk tpos) (.Call (.Name "enumerate" p) [e] [] pos) (iEnumT X.K ta) := by
  refine ⟨fun pins s σ H R I h => ?_⟩
  refine Call_ (ld_blt I hg hm boot_enumerate (PyProof.Rows.callWith_type1 (thn (ha.run pos pins s σ H _ I h) fun us s1 ⟨vs, H1, I1, r1, q1⟩ => ?_) hs rfl))
  obtain ⟨a, xs, ex, hq, q⟩ := q1
  subst ex
  cases r1 with
  | cons r rr =>
    cases rr
    cases r
    obtain ⟨its, rv, p', hz⟩ := I1.tuple hq
    refine PySem.EnT.call_new (show s1.heap.IsTuple a its.toArray from p') fun h' he hit hsz hk => wpAny_pyIter_enum he ?_
    have I2 : Inv X pins σ H1 { s1 with heap := h' } := I1.kept (t' := s1.toks) hk
    refine ⟨s1.heap.objs.size + 1, [s1.heap.objs.size + 1, s1.heap.objs.size], _, _, H1, rfl, I2, turn_enumT a (s1.heap.objs.size + 1) s1.heap.objs.size, ⟨⟨.none, he⟩, hit, Nat.succ_ne_self _⟩, fun b hb => ?_, q⟩
    have e' : b = s1.heap.objs.size + 1 ∨ b = s1.heap.objs.size := by simpa using hb
    have hle : s1.heap.objs.size ≤ b := by
      rcases e' with z | z
      · rw [z]; exact Nat.le_add_right _ _
      · rw [z]; exact Nat.le_refl _
    exact I1.fpOk hle (I1.hok.fresh hle)
end L2

set_option Elab.async false
set_option linter.all false
set_option maxRecDepth 100000
set_option maxHeartbeats 4000000
namespace Wf
open PySem PySem.Spec PyProof.Rows L2 TL

/-! ## for over enumerate -/
section
variable {K : PySem.W.Frag} {K0 K1 H H1 : Hp} {L L' : Ow} {g : TG} {tb : TS} {tl : TE} {ta : TA} {σ : L2.St} {n : L2.St → Hp → Prop} {r : VK} {bk ct : L2.St → Hp → Prop} {a : Addr} {xs : List V} {i : Nat}
theorem fo_baseN {J : It} {m : Nat} (w : Own K0 L H) (Inv : Nat → L2.St → Hp → Ow → Prop) (h0 : Inv 0 σ K0 L) (x : Nat → List V)
    (hstop : ∀ K' L' H', Same K0 K' → Own K' L' H' → J.stop m H') (hgo : ∀ i K' L' H', i < m → Same K0 K' → Own K' L' H' → J.go i H')
    (hy : ∀ i K' L' H' y H'', i < m → Same K0 K' → Own K' L' H' → J.yld i H' y H'' → ∃ T, y = .ref T ∧ H' T = none ∧ H'' = upd H' T (.tup (x i)))
    (hs : ∀ i T σ K' L' H', i < m → Same K0 K' → Inv i σ K' L' → Own K' ((T, .tup (x i)) :: L') H' → g (.ref T) σ H' fun σ2 H2 => tb ⟨FoInv K0 Inv (i + 1), r, n, FoInv K0 Inv (i + 1)⟩ σ2 H2)
    (hd : ∀ σ K' L' H', Same K0 K' → Inv m σ K' L' → Own K' L' H' → n σ H') : kFor g tb ⟨n, r, bk, ct⟩ σ J H := by
  refine ⟨fun i k σ' H' => k = m - i ∧ i ≤ m ∧ FoInv K0 Inv i σ' H', ⟨m, rfl, Nat.zero_le _, K0, L, Same.refl _, w, h0⟩, ?_⟩
  rintro i k σ' H' ⟨rfl, hi, K', L', sm, w', hI⟩
  by_cases lt : i < m
  · refine .inr ⟨hgo i K' _ H' lt sm w', FoInv K0 Inv (i + 1), fun σ2 H2 q => ⟨m - (i + 1), by omega, rfl, lt, q⟩, fun z H2 hz => ?_⟩
    obtain ⟨T, e1, e2, e3⟩ := hy i K' _ H' z H2 lt sm w' hz
    subst e1 e3
    exact hs i T σ' K' L' _ lt sm hI (w'.new e2 _)
  · have e : i = m := by omega
    subst e
    exact .inl ⟨hstop K' _ H' sm w', hd σ' K' L' H' sm hI w'⟩
@[irreducible] def zForE (K : PySem.W.Frag) (g : TG) (tb : TS) (D : Ends) (σ : L2.St) (vs : List V) (H1 : Hp) : Prop := ∃ a xs, vs = [.ref a] ∧ SqL K H1 a xs ∧ kFor g tb D σ (Ite K a) H1
@[irreducible] def zForET (K : PySem.W.Frag) (g : TG) (tb : TS) (D : Ends) (σ : L2.St) (vs : List V) (H1 : Hp) : Prop := ∃ a xs, vs = [.ref a] ∧ SqT K H1 a xs ∧ kFor g tb D σ (IteT K a) H1
def fForE (K : PySem.W.Frag) (ta : TA) (g : TG) (tb : TS) : TS := fun D σ H => ta σ H (zForE K g tb D σ)
theorem fForE_eq (K : PySem.W.Frag) (ta : TA) (g : TG) (tb : TS) : tFor (iEnum K ta) g tb = fForE K ta g tb := by unfold fForE zForE; rfl
def fForET (K : PySem.W.Frag) (ta : TA) (g : TG) (tb : TS) : TS := fun D σ H => ta σ H (zForET K g tb D σ)
theorem fForET_eq (K : PySem.W.Frag) (ta : TA) (g : TG) (tb : TS) : tFor (iEnumT K ta) g tb = fForET K ta g tb := by unfold fForET zForET; rfl
theorem z_forE (w : Own K0 L H) (hx : SqL K K0 a xs) (Inv : Nat → L2.St → Hp → Ow → Prop) (h0 : Inv 0 σ K0 L)
    (hs : ∀ i x T σ K' L' H', xs[i]? = some x → Same K0 K' → Inv i σ K' L' → Own K' ((T, .tup [.int (i : Nat), x]) :: L') H' → g (.ref T) σ H' fun σ2 H2 => tb ⟨zFoInv K0 Inv (i + 1), r, n, zFoInv K0 Inv (i + 1)⟩ σ2 H2)
    (hd : ∀ σ K' L' H', Same K0 K' → Inv xs.length σ K' L' → Own K' L' H' → n σ H') : zForE K g tb ⟨n, r, bk, ct⟩ σ [.ref a] H := by
  unfold zForE
  unfold zFoInv at hs
  refine ⟨a, xs, rfl, w.sqL hx, fo_baseN w Inv h0 (fun i => [.int (i : Nat), (xs[i]?).getD .non]) (m := xs.length) ?_ ?_ ?_ ?_ hd⟩
  · exact fun K' L' H' sm w' => ⟨xs, w'.sqL (sqL_mono sm hx), Nat.le_refl _⟩
  · exact fun i K' L' H' lt sm w' => ⟨xs, xs[i], w'.sqL (sqL_mono sm hx), by simp [lt]⟩
  · rintro i K' L' H' y H'' lt sm w' ⟨T, x, e1, e2, e3, q⟩
    refine ⟨T, e1, e2, ?_⟩
    rw [e3, q xs (w'.sqL (sqL_mono sm hx))]
    rfl
  · intro i T σ' K' L' H' lt sm hI w'
    have e : xs[i]? = some xs[i] := by simp [lt]
    refine hs i _ T σ' K' L' H' e sm hI ?_
    rw [e] at w'
    exact w'
theorem z_forET (w : Own K0 L H) (hx : SqT K K0 a xs) (Inv : Nat → L2.St → Hp → Ow → Prop) (h0 : Inv 0 σ K0 L)
    (hs : ∀ i x T σ K' L' H', xs[i]? = some x → Same K0 K' → Inv i σ K' L' → Own K' ((T, .tup [.int (i : Nat), x]) :: L') H' → g (.ref T) σ H' fun σ2 H2 => tb ⟨zFoInv K0 Inv (i + 1), r, n, zFoInv K0 Inv (i + 1)⟩ σ2 H2)
    (hd : ∀ σ K' L' H', Same K0 K' → Inv xs.length σ K' L' → Own K' L' H' → n σ H') : zForET K g tb ⟨n, r, bk, ct⟩ σ [.ref a] H := by
  unfold zForET
  unfold zFoInv at hs
  refine ⟨a, xs, rfl, w.sqT hx, fo_baseN w Inv h0 (fun i => [.int (i : Nat), (xs[i]?).getD .non]) (m := xs.length) ?_ ?_ ?_ ?_ hd⟩
  · exact fun K' L' H' sm w' => ⟨xs, w'.sqT (sqT_mono sm hx), Nat.le_refl _⟩
  · exact fun i K' L' H' lt sm w' => ⟨xs, xs[i], w'.sqT (sqT_mono sm hx), by simp [lt]⟩
  · rintro i K' L' H' y H'' lt sm w' ⟨T, x, e1, e2, e3, q⟩
    refine ⟨T, e1, e2, ?_⟩
    rw [e3, q xs (w'.sqT (sqT_mono sm hx))]
    rfl
  · intro i T σ' K' L' H' lt sm hI w'
    have e : xs[i]? = some xs[i] := by simp [lt]
    refine hs i _ T σ' K' L' H' e sm hI ?_
    rw [e] at w'
    exact w'
end
/-! ## a, b = x, y -/
def fPar (i j : Nat) (ta : TA) : TS := fun D σ H => ta σ H fun vs H1 => match vs with | [v, w] => fSet σ i (some v) fun σ' => fSet σ' j (some w) fun σ'' => D.nx σ'' H1 | _ => False
theorem fPar_eq (i j : Nat) (ta : TA) : tPar i j ta = fPar i j ta := by
  unfold tPar fPar
  funext D σ H
  congr 1
  funext vs H1
  apply propext
  constructor
  · rintro ⟨v, w, rfl, q⟩
    show fSet σ i (some v) fun σ' => fSet σ' j (some w) fun σ'' => D.nx σ'' H1
    rw [fSet_eq (k := fun σ' => fSet σ' j (some w) fun σ'' => D.nx σ'' H1), fSet_eq (k := fun σ'' => D.nx σ'' H1)]
    exact q
  · intro q
    split at q
    · rename_i v w
      rw [fSet_eq (k := fun σ' => fSet σ' j (some w) fun σ'' => D.nx σ'' H1), fSet_eq (k := fun σ'' => D.nx σ'' H1)] at q
      exact ⟨v, w, rfl, q⟩
    · exact q.elim
/-! ## o.m(*x) -/
section
variable {X : Cx} {CX : CXT} {k : Nat} {C f : Addr} {fd : FuncData} {ps : List Str} {sp : Sp} {E : L2.St → XK} {m : Str} {pos apos sp_ : Pos} {e o : Expr} {ta te : TE} {ds : List Value} {dvs : List V}
@[irreducible] def zMethS (K : PySem.W.Frag) (C : Addr) (m : Str) (sp : Sp) (E : XK) (te : TE) (σ : L2.St) (Q : VK) (x : V) (H : Hp) : Prop := ∃ a dx fs, x = .ref a ∧ H a = some (.ins C dx fs) ∧ fs.lookup m = none ∧ te σ H fun y H2 => ∃ b xs, y = .ref b ∧ (SqT K H2 b xs ∨ SqL K H2 b xs) ∧ sp (x :: xs) H2 Q E
def fMethS (K : PySem.W.Frag) (C : Addr) (m : Str) (sp : Sp) (E : L2.St → XK) (ta te : TE) : TE := fun σ H Q => ta σ H (zMethS K C m sp (E σ) te σ Q)
theorem pe_methS {pl : Sem Bool} (he : PE X o ta) (c : Cls X.K C) (hm : Meth X.K C m f) (F : FnOk X.prog X.w X.K X.mg X.base CX k f fd ps sp) (hr : Room k X.A) (hb : Binds X.K fd ps []) (hx : ∀ σ, PassesAt CX X σ (E σ)) (ha : PE X e te)
    (hst : starEach [.Starred e sp_] X.env = [(true, eval e X.env)] := by rfl)
    (ht : eval (.Call (.Attribute o m apos) [.Starred e sp_] [] pos) X.env = (do
      let ov ← eval o X.env
      standAt apos.atName
      let (f, first) ← holding [ov] (getMethod ov m pl)
      callWith pos f first (backTo pos (starEach [.Starred e sp_] X.env)) (backToKw pos (keywordEach [] X.env))) := by rfl) :
    PE X (.Call (.Attribute o m apos) [.Starred e sp_] [] pos) (fMethS X.K C m sp E ta te) := by
  refine ⟨fun pins s σ H Q I h => ?_⟩
  unfold fMethS zMethS at h
  refine PySem.W.methodCall_KW (pl := pl) (thn (he.run pins s σ H _ I h) fun u s1 ⟨x, H1, I1, rx, a, dx, fs, ex, ea, l, q⟩ => ?_) ht
  subst ex
  obtain rfl : u = Value.ref a := rx
  refine getmeth_ok I1 ea c hm l ?_
  refine PySem.W.callWith_S (first := [.ref a]) (h₀ := X.base) I.ok.mod.kin hm.kp (thn (ha.run pins s1 σ H1 _ I1 q) fun v s2 ⟨y, H2, I2, ry, b, xs, ey, hxs, q2⟩ => ?_) hst
  subst ey
  obtain rfl : v = Value.ref b := ry
  exact StX.star_any I2 hxs fun us s3 I3 rv => ⟨I3.kIn, run_fnD (us := .ref a :: us) (vs := .ref a :: xs) F hr hb .nil (hx σ) I3 (.cons rfl rv) (by rw [List.append_nil]; exact q2)⟩
end
section
variable {K : PySem.W.Frag} {H : Hp} {Q : VK} {σ : L2.St} {a C dx : Addr} {fs : List (Str × V)} {m : Str} {te : TE} {sp : Sp} {E : XK} {xs : List V} {b : Addr}
@[irreducible] def zStarL (K : PySem.W.Frag) (k : List V → Hp → Prop) (y : V) (H2 : Hp) : Prop := ∃ b xs, y = .ref b ∧ (SqT K H2 b xs ∨ SqL K H2 b xs) ∧ k xs H2
theorem z_methS (h : H a = some (.ins C dx fs)) (e : fs.lookup m = none) (k : te σ H (zStarL K fun xs H2 => sp (.ref a :: xs) H2 Q E)) : zMethS K C m sp E te σ Q (.ref a) H := by
  unfold zMethS
  unfold zStarL at k
  exact ⟨a, dx, fs, rfl, h, e, k⟩
theorem z_starT {k : List V → Hp → Prop} (h : SqT K H b xs) (q : k xs H) : zStarL K k (.ref b) H := by unfold zStarL; exact ⟨b, xs, rfl, .inl h, q⟩
theorem z_starL {k : List V → Hp → Prop} (h : SqL K H b xs) (q : k xs H) : zStarL K k (.ref b) H := by unfold zStarL; exact ⟨b, xs, rfl, .inr h, q⟩
/-- [*x, y] -/
def fStar (K : PySem.W.Frag) (te : TE) (t : TA) : TA := fun σ H Q => te σ H (zStarL K fun xs H1 => t σ H1 fun ys H2 => Q (xs ++ ys) H2)
theorem fStar_eq (K : PySem.W.Frag) (te : TE) (t : TA) : StX.tStar K te t = fStar K te t := by unfold fStar zStarL; rfl
end

/-! ## over a dict's keys -/
theorem Sel.self {L : Ow} {a : Addr} {o : HO} {f : HO → Ow} (s : Sel L a o f) : f o = L := by
  induction s with
  | here => rfl
  | there _ ih => exact congrArg (List.cons _) ih
@[irreducible] def zLcK (td : TE) (g : TG) (tt : TT) (te : TE) (vs : List Nat) (σ : L2.St) (Q : VK) (H : Hp) : Prop := tLockE (tLc (iKeys td) g tt te vs) σ H Q
def fLcK (td : TE) (g : TG) (tt : TT) (te : TE) (vs : List Nat) : TE := fun σ H Q => zLcK td g tt te vs σ Q H
theorem fLcK_eq (td : TE) (g : TG) (tt : TT) (te : TE) (vs : List Nat) : tLockE (tLc (iKeys td) g tt te vs) = fLcK td g tt te vs := by unfold fLcK zLcK; rfl
section
variable {K0 H : Hp} {L : Ow} {g : TG} {tt : TT} {te td : TE} {σ : L2.St} {vs : List Nat} {Q : VK} {d : Addr} {f : HO → Ow} {kvs : List (Key × V)}
theorem z_lcK (w : Own K0 L H) (s : Sel L d (.dK kvs) f) (he : ∀ od H' (R : VK), Own K0 (f (.frz od (.dK kvs))) H' → R (.ref d) H' → td σ H' R)
    (Inv : Nat → List V → Hp → Prop) (h0 : Inv 0 [] K0)
    (hs : ∀ od D i k v acc K' H', kvs[i]? = some (k, v) → acc.length ≤ i → Same K0 K' → Inv i acc K' → Own K' ((D, .lst acc) :: f (.frz od (.dK kvs))) H' → fForce (wipe σ vs) fun σ' => g (kV k) σ' H' (zTg K0 (fun i acc K' L' => L' = f (.frz od (.dK kvs)) ∧ Inv i acc K') D i tt te vs σ))
    (hd : ∀ D acc K' H', acc.length ≤ kvs.length → Same K0 K' → Inv kvs.length acc K' → Own K' ((D, .lst acc) :: L) H' → Q (.ref D) H') : zLcK td g tt te vs σ Q H := by
  unfold zLcK
  refine ⟨d, .dK kvs, w.at_ s, True.intro, fun od => ?_⟩
  have w1 := w.put s (.frz od (.dK kvs))
  have s1 : Sel (f (.frz od (.dK kvs))) d (.frz od (.dK kvs)) f := s.again _
  refine he od _ _ w1 ⟨d, od, rfl, .inl ⟨kvs, w1.at_ s1, ?_⟩⟩
  intro D hD
  refine ⟨fun i m H' => m = kvs.length - i ∧ i ≤ kvs.length ∧ LcInv K0 (fun i acc K' L' => L' = f (.frz od (.dK kvs)) ∧ Inv i acc K') D i H', ⟨kvs.length, rfl, Nat.zero_le _, [], K0, _, Same.refl _, w1.new hD _, Nat.le_refl _, rfl, h0⟩, ?_⟩
  rintro i m H' ⟨rfl, hi, acc, K', L', sm, w', hl, rfl, hI⟩
  have at' : H' d = some (.frz od (.dK kvs)) := w'.at_ (.there s1)
  by_cases lt : i < kvs.length
  · refine .inr ⟨⟨at', lt⟩, LcInv K0 (fun i acc K' L' => L' = f (.frz od (.dK kvs)) ∧ Inv i acc K') D (i + 1), fun H2 q => ⟨kvs.length - (i + 1), by omega, rfl, lt, q⟩, fun z H2 hz => ?_⟩
    obtain ⟨e1, k, v, ek, ez⟩ := hz
    subst e1 ez
    have h := hs od D i k v acc K' _ ek hl sm hI w'
    rw [fForce_eq (k := fun σ' => g (kV k) σ' _ (zTg K0 (fun i acc K' L' => L' = f (.frz od (.dK kvs)) ∧ Inv i acc K') D i tt te vs σ)), tg_is] at h
    exact h
  · have e : i = kvs.length := by omega
    subst e
    refine .inl ⟨⟨at', Nat.le_refl _⟩, at', ?_⟩
    refine hd D acc K' _ hl sm hI ?_
    have w2 := w'.put (.there s1) (.dK kvs)
    have e2 : f (.dK kvs) = L := s.self
    rw [e2] at w2
    exact w2
end

/-! ## small ones -/
def fNegE (t : TE) : TE := fun σ H Q => t σ H fun x H1 => fIn x fun i => Q (.int (-i)) H1
theorem fNegE_eq (t : TE) : tUn (rU fun i => V.int (-i)) t = fNegE t := by unfold tUn rU fNegE; simp only [fIn_eq]
theorem _root_.L2.Room.u1 {k : Nat} {A : Around} (r : Room k A) : A.units + 1 < cLine := by have := r.un; omega
section
variable {X : Cx}
theorem fk_slL : SlR X (zSlL X.K) := by unfold zSlL; exact sl_list
theorem fk_slT : SlR X (zSlT X.K) := by unfold zSlT; exact sl_tup
theorem fk_slS : SlR X zSlS := by unfold zSlS; exact sl_str
def fInt : List V → Hp → VK → Prop := fun xs H Q => match xs with
  | [.int i] => Q (.int i) H
  | [.bl k] => Q (.int (if k then 1 else 0)) H
  | _ => False
theorem fk_int : CallR X (.type "int") fInt := ok_int
end

def fLcKS (td : TE) (g : TG) (tt : TT) (te : TE) (vs : List Nat) (i : Nat) : TS := fun D σ H => match D with | ⟨n, r, bk, ct⟩ => zLcK td g tt te vs σ (fun x H' => fSet σ i (some x) fun σ' => n σ' H') H
theorem fLcKS_eq (td : TE) (g : TG) (tt : TT) (te : TE) (vs : List Nat) (i : Nat) : tLock (tAsg (tLc (iKeys td) g tt te vs) (gName i)) = fLcKS td g tt te vs i := by
  funext D σ H
  cases D
  unfold fLcKS zLcK
  simp only [fSet_eq]
  rfl
/-! ## calls by what a def promises -/
theorem passS0 {X : Cx} {σ : L2.St} : PassesAt CX0 X σ E0 := fun _ _ _ _ _ _ h => h.elim
section
variable {X : Cx} {CX : CXT} {k : Nat} {f C : Addr} {ps : List Str} {sp : Sp} {E : L2.St → XK} {x m : Str} {p pos apos sp_ : Pos} {e o : Expr} {es : List Expr} {t : TA} {ta te : TE} {W : WX}
theorem pe_callX (D : OkD X.prog X.w X.K X.mg X.base CX k f ps sp) (hr : Room k X.A) (hg : Gl X x) (hm : X.mg x = some (.ref f)) (hx : ∀ σ, PassesAt CX X σ (E σ)) (ha : PA X (e :: es) t) (hdb : (x == ("__debug__" : Str)) = false := by decide)
    (he : starEach (e :: es) X.env = (false, eval e X.env) :: starEach es X.env := by rfl) (hpl : (backTo pos (starEach es X.env)).any (·.1) = false := by rfl) : PE X (.Call (.Name x p) (e :: es) [] pos) (fCallS sp [] E t) := by
  obtain ⟨⟨fd, F, b, _⟩, kp⟩ := D
  exact pe_callSD F hr hg hm kp b .nil hx ha hdb he hpl
theorem pe_makeX (M : Mk X.K C f) (D : OkD X.prog X.w X.K X.mg X.base CX k f ps sp) (hr : Room (k + 1) X.A) (hg : Gl X x) (hm : X.mg x = some (.ref C)) (hx : ∀ σ, PassesAt CX X σ (E σ)) (ha : PA X (e :: es) t) (hdb : (x == ("__debug__" : Str)) = false := by decide)
    (he : starEach (e :: es) X.env = (false, eval e X.env) :: starEach es X.env := by rfl) (hpl : (backTo pos (starEach es X.env)).any (·.1) = false := by rfl) : PE X (.Call (.Name x p) (e :: es) [] pos) (fMake C sp [] E t) := by
  obtain ⟨⟨fd, F, b, _⟩, kp⟩ := D
  exact pe_makeC M F hr hg hm b .nil hx ha hdb he hpl
theorem pe_methX {pl : Sem Bool} (he : PE X o ta) (c : Cls X.K C) (hm : Meth X.K C m f) (D : OkD X.prog X.w X.K X.mg X.base CX k f ps sp) (hr : Room k X.A) (hx : ∀ σ, PassesAt CX X σ (E σ)) (ha : PA X (e :: es) t)
    (hst : starEach (e :: es) X.env = (false, eval e X.env) :: starEach es X.env := by rfl) (hpl : (backTo pos (starEach es X.env)).any (·.1) = false := by rfl)
    (ht : eval (.Call (.Attribute o m apos) (e :: es) [] pos) X.env = (do
      let ov ← eval o X.env
      standAt apos.atName
      let (f, first) ← holding [ov] (getMethod ov m pl)
      callWith pos f first (backTo pos (starEach (e :: es) X.env)) (backToKw pos (keywordEach [] X.env))) := by rfl) :
    PE X (.Call (.Attribute o m apos) (e :: es) [] pos) (fMeth C m sp [] E ta t) := by
  obtain ⟨⟨fd, F, b, _⟩, kp⟩ := D
  exact pe_methC he c hm F hr b .nil hx ha hst hpl ht
theorem pe_methX0 {pl : Sem Bool} (he : PE X o ta) (c : Cls X.K C) (hm : Meth X.K C m f) (D : OkD X.prog X.w X.K X.mg X.base CX k f ps sp) (hr : Room k X.A) (hx : ∀ σ, PassesAt CX X σ (E σ))
    (ht : eval (.Call (.Attribute o m apos) [] [] pos) X.env = (do
      let ov ← eval o X.env
      standAt apos.atName
      let (f, first) ← holding [ov] (getMethod ov m pl)
      callWith pos f first (backTo pos (starEach [] X.env)) (backToKw pos (keywordEach [] X.env))) := by rfl) :
    PE X (.Call (.Attribute o m apos) [] [] pos) (fMeth C m sp [] E ta tNil) := by
  obtain ⟨⟨fd, F, b, _⟩, kp⟩ := D
  exact pe_methC0 he c hm F hr b .nil hx ht
theorem pe_methXS {pl : Sem Bool} (he : PE X o ta) (c : Cls X.K C) (hm : Meth X.K C m f) (D : OkD X.prog X.w X.K X.mg X.base CX k f ps sp) (hr : Room k X.A) (hx : ∀ σ, PassesAt CX X σ (E σ)) (ha : PE X e te)
    (hst : starEach [.Starred e sp_] X.env = [(true, eval e X.env)] := by rfl)
    (ht : eval (.Call (.Attribute o m apos) [.Starred e sp_] [] pos) X.env = (do
      let ov ← eval o X.env
      standAt apos.atName
      let (f, first) ← holding [ov] (getMethod ov m pl)
      callWith pos f first (backTo pos (starEach [.Starred e sp_] X.env)) (backToKw pos (keywordEach [] X.env))) := by rfl) :
    PE X (.Call (.Attribute o m apos) [.Starred e sp_] [] pos) (fMethS X.K C m sp E ta te) := by
  obtain ⟨⟨fd, F, b, _⟩, kp⟩ := D
  exact pe_methS he c hm F hr b hx ha hst ht
theorem ps_raiseX {pos2 : Pos} (hc : X.calm = true) (tk : Takes X W) (T : ExI X.K C f) (D : OkD X.prog X.w X.K X.mg X.base CX0 k f ps sp) (hr : Room (k + 1) X.A) (hg : Gl X x) (hm : X.mg x = some (.ref C)) (ha : PA X (e :: es) t)
    (hdb : (x == ("__debug__" : Str)) = false := by decide) (he : starEach (e :: es) X.env = (false, eval e X.env) :: starEach es X.env := by rfl) (hpl : (backTo pos (starEach es X.env)).any (·.1) = false := by rfl) :
    PS X (.Raise (some (.Call (.Name x p) (e :: es) [] pos)) none pos2) (fRaise C sp [] W t) := by
  obtain ⟨⟨fd, F, b, _⟩, kp⟩ := D
  exact ps_raiseC hc tk T F hr b .nil (fun _ _ _ _ _ _ _ h => h.elim) hg hm ha hdb he hpl
end

/-! ## isinstance of the plain types -/
section
variable {K : PySem.W.Frag}
theorem kt_NoneType_str : PySem.W.kitOne K (.type "NoneType") (.type "str") = some false := kit_ty (by decide +kernel)
theorem kt_NoneType_int : PySem.W.kitOne K (.type "NoneType") (.type "int") = some false := kit_ty (by decide +kernel)
theorem kt_NoneType_bool : PySem.W.kitOne K (.type "NoneType") (.type "bool") = some false := kit_ty (by decide +kernel)
theorem kt_NoneType_tuple : PySem.W.kitOne K (.type "NoneType") (.type "tuple") = some false := kit_ty (by decide +kernel)
theorem kt_NoneType_list : PySem.W.kitOne K (.type "NoneType") (.type "list") = some false := kit_ty (by decide +kernel)
theorem kt_NoneType_dict : PySem.W.kitOne K (.type "NoneType") (.type "dict") = some false := kit_ty (by decide +kernel)
theorem kt_bool_str : PySem.W.kitOne K (.type "bool") (.type "str") = some false := kit_ty (by decide +kernel)
theorem kt_bool_int : PySem.W.kitOne K (.type "bool") (.type "int") = some true := kit_ty (by decide +kernel)
theorem kt_bool_bool : PySem.W.kitOne K (.type "bool") (.type "bool") = some true := kit_ty (by decide +kernel)
theorem kt_bool_tuple : PySem.W.kitOne K (.type "bool") (.type "tuple") = some false := kit_ty (by decide +kernel)
theorem kt_bool_list : PySem.W.kitOne K (.type "bool") (.type "list") = some false := kit_ty (by decide +kernel)
theorem kt_bool_dict : PySem.W.kitOne K (.type "bool") (.type "dict") = some false := kit_ty (by decide +kernel)
theorem kt_int_str : PySem.W.kitOne K (.type "int") (.type "str") = some false := kit_ty (by decide +kernel)
theorem kt_int_int : PySem.W.kitOne K (.type "int") (.type "int") = some true := kit_ty (by decide +kernel)
theorem kt_int_bool : PySem.W.kitOne K (.type "int") (.type "bool") = some false := kit_ty (by decide +kernel)
theorem kt_int_tuple : PySem.W.kitOne K (.type "int") (.type "tuple") = some false := kit_ty (by decide +kernel)
theorem kt_int_list : PySem.W.kitOne K (.type "int") (.type "list") = some false := kit_ty (by decide +kernel)
theorem kt_int_dict : PySem.W.kitOne K (.type "int") (.type "dict") = some false := kit_ty (by decide +kernel)
theorem kt_str_str : PySem.W.kitOne K (.type "str") (.type "str") = some true := kit_ty (by decide +kernel)
theorem kt_str_int : PySem.W.kitOne K (.type "str") (.type "int") = some false := kit_ty (by decide +kernel)
theorem kt_str_bool : PySem.W.kitOne K (.type "str") (.type "bool") = some false := kit_ty (by decide +kernel)
theorem kt_str_tuple : PySem.W.kitOne K (.type "str") (.type "tuple") = some false := kit_ty (by decide +kernel)
theorem kt_str_list : PySem.W.kitOne K (.type "str") (.type "list") = some false := kit_ty (by decide +kernel)
theorem kt_str_dict : PySem.W.kitOne K (.type "str") (.type "dict") = some false := kit_ty (by decide +kernel)
theorem kt_list_str : PySem.W.kitOne K (.type "list") (.type "str") = some false := kit_ty (by decide +kernel)
theorem kt_list_int : PySem.W.kitOne K (.type "list") (.type "int") = some false := kit_ty (by decide +kernel)
theorem kt_list_bool : PySem.W.kitOne K (.type "list") (.type "bool") = some false := kit_ty (by decide +kernel)
theorem kt_list_tuple : PySem.W.kitOne K (.type "list") (.type "tuple") = some false := kit_ty (by decide +kernel)
theorem kt_list_list : PySem.W.kitOne K (.type "list") (.type "list") = some true := kit_ty (by decide +kernel)
theorem kt_list_dict : PySem.W.kitOne K (.type "list") (.type "dict") = some false := kit_ty (by decide +kernel)
theorem kt_tuple_str : PySem.W.kitOne K (.type "tuple") (.type "str") = some false := kit_ty (by decide +kernel)
theorem kt_tuple_int : PySem.W.kitOne K (.type "tuple") (.type "int") = some false := kit_ty (by decide +kernel)
theorem kt_tuple_bool : PySem.W.kitOne K (.type "tuple") (.type "bool") = some false := kit_ty (by decide +kernel)
theorem kt_tuple_tuple : PySem.W.kitOne K (.type "tuple") (.type "tuple") = some true := kit_ty (by decide +kernel)
theorem kt_tuple_list : PySem.W.kitOne K (.type "tuple") (.type "list") = some false := kit_ty (by decide +kernel)
theorem kt_tuple_dict : PySem.W.kitOne K (.type "tuple") (.type "dict") = some false := kit_ty (by decide +kernel)
theorem kt_dict_str : PySem.W.kitOne K (.type "dict") (.type "str") = some false := kit_ty (by decide +kernel)
theorem kt_dict_int : PySem.W.kitOne K (.type "dict") (.type "int") = some false := kit_ty (by decide +kernel)
theorem kt_dict_bool : PySem.W.kitOne K (.type "dict") (.type "bool") = some false := kit_ty (by decide +kernel)
theorem kt_dict_tuple : PySem.W.kitOne K (.type "dict") (.type "tuple") = some false := kit_ty (by decide +kernel)
theorem kt_dict_list : PySem.W.kitOne K (.type "dict") (.type "list") = some false := kit_ty (by decide +kernel)
theorem kt_dict_dict : PySem.W.kitOne K (.type "dict") (.type "dict") = some true := kit_ty (by decide +kernel)
end

section
variable {K0 H : Hp} {L : Ow} {g : TG} {tt : TT} {te : TE} {σ : L2.St} {vs : List Nat} {Q : VK} {z : Str}
theorem z_lcS (w : Own K0 L H) (Inv : Nat → List V → Hp → Ow → Prop) (h0 : Inv 0 [] K0 L)
    (hs : ∀ D i c acc K' L' H', (tl z)[i]? = some c → acc.length ≤ i → Same K0 K' → Inv i acc K' L' → Own K' ((D, .lst acc) :: L') H' → fForce (wipe σ vs) fun σ' => g (.str ⟨#[c]⟩) σ' H' (zTg K0 Inv D i tt te vs σ))
    (hd : ∀ D acc K' L' H', acc.length ≤ (tl z).length → Same K0 K' → Inv (tl z).length acc K' L' → Own K' ((D, .lst acc) :: L') H' → Q (.ref D) H') : zLcS g tt te vs σ Q (.str z) H := by
  unfold zLcS
  have el : (tl z).length = z.cps.size := by simp [TL.tl]
  refine ⟨z, rfl, lc_base w Inv h0 (fun i => .str ⟨#[((tl z)[i]?).getD 0]⟩) (n := (tl z).length) ?_ ?_ ?_ (fun D i acc K' L' H' lt b c d e => ?_) hd⟩
  · exact fun K' L' H' sm w' => by show z.cps.size ≤ _; omega
  · exact fun i K' L' H' lt sm w' => by show i < z.cps.size; omega
  · rintro i K' L' H' y H'' lt sm w' ⟨e, c, ec, ey⟩
    refine ⟨e, ?_⟩
    have : (tl z)[i]? = some c := by simpa [TL.tl] using ec
    rw [ey, this]
    rfl
  · have e2 : (tl z)[i]? = some (tl z)[i] := by simp [lt]
    have h := hs D i _ acc K' L' H' e2 b c d e
    rw [fForce_eq (k := fun σ' => g (.str ⟨#[(tl z)[i]]⟩) σ' H' (zTg K0 Inv D i tt te vs σ)), tg_is] at h
    rw [e2]
    exact h
end

theorem pe_ty {X : Cx} {x : Str} {pos : Pos} {T : String} (hg : Gl X x) (hm : X.mg x = none) (hv : bootBuiltins x = some (.type T) := by decide +kernel) (hn : x ≠ "__name__" := by decide) (hdb : (x == ("__debug__" : Str)) = false := by decide) : PE X (.Name x pos) (tC (.ty T)) :=
  ⟨fun pins s σ H Q I h => ld_blt I hg hm hv ⟨.ty T, H, I, rfl, h⟩ hn hdb⟩
end Wf

set_option Elab.async false
set_option linter.all false
set_option maxRecDepth 100000
set_option maxHeartbeats 4000000
namespace Wf
open PySem PySem.Spec PyProof.Rows L2 TL

/-! ## repr of the plain values -/
@[irreducible] def zReprI (i : Int) (H : Hp) (Q : VK) : Prop := i.natAbs.log2 < 1920 ∧ Q (.str (toString i)) H
@[irreducible] def zReprS (a : Str) (H : Hp) (Q : VK) : Prop := (reprText a).length ≤ sizeLine ∧ Q (.str (reprText a)) H
def fRepr : List V → Hp → VK → Prop := fun xs H Q => match xs with
  | [.non] => Q (.str "None") H
  | [.bl b] => Q (.str (if b then "True" else "False")) H
  | [.int i] => zReprI i H Q
  | [.str a] => zReprS a H Q
  | _ => False
section
variable {X : Cx}
theorem fk_repr : CallR X (.builtin "repr") fRepr := by
  intro pins s σ H xs us Q I r h
  unfold fRepr at h
  split at h
  · obtain ⟨u, rfl, ru⟩ := vals1 r
    obtain rfl : u = Value.none := ru
    exact PySem.P.repr_of_none ⟨.str _, H, I.tok _, ⟨_, rfl⟩, h⟩
  · obtain ⟨u, rfl, ru⟩ := vals1 r
    rename_i b
    obtain rfl : u = Value.bool b := ru
    exact PySem.P.repr_of_bool ⟨.str _, H, I.tok _, ⟨_, rfl⟩, h⟩
  · obtain ⟨u, rfl, t, rfl⟩ := vals1 r
    unfold zReprI at h
    exact PySem.P.repr_of_int h.1 ⟨.str _, H, I.tok _, ⟨_, rfl⟩, h.2⟩
  · obtain ⟨u, rfl, t, rfl⟩ := vals1 r
    unfold zReprS at h
    exact PySem.P.repr_of_str ⟨.str _, H, I.tok _, ⟨_, rfl⟩, h.2⟩ h.1
  · exact h.elim
/-! ## text * int -/
def repS (a : Str) (n : Int) : Str := ⟨(List.replicate n.toNat a.cps).foldl (· ++ ·) #[]⟩
@[irreducible] def zMulS (a : Str) (n : Int) (H : Hp) (Q : VK) : Prop := (1 ≤ n ∧ n ≤ 1000) ∧ (0 < a.length ∧ a.length ≤ 1000) ∧ Q (.str (repS a n)) H
theorem repS_size {c : Array Nat} : ∀ (m : Nat) (i : Array Nat), ((List.replicate m c).foldl (· ++ ·) i).size = i.size + m * c.size
  | 0, i => by simp
  | m + 1, i => by
    rw [List.replicate_succ, List.foldl_cons, repS_size m, Array.size_append, Nat.succ_mul]
    omega
theorem repS_len {a : Str} {n : Int} : (repS a n).length = n.toNat * a.length := by
  show ((List.replicate n.toNat a.cps).foldl (· ++ ·) #[]).size = _
  rw [repS_size]
  show 0 + _ = _
  rw [Nat.zero_add]
  rfl
theorem repS_one {a : Str} : repS a 1 = a := by
  unfold repS
  show (⟨(List.replicate 1 a.cps).foldl (· ++ ·) #[]⟩ : Str) = a
  simp
def fMul2 (K : PySem.W.Frag) : R2 := fun x y H Q => match x, y with
  | .int i, .int j => zMulI i j H Q
  | .ref p, .int k => zMulR p k H Q
  | .str a, .int k => zMulS a k H Q
  | _, _ => False
theorem fk_mul2 : OpR X (binaryOp .Mult) (fMul2 X.K) := by
  intro pins s σ H x y v u Q I rx ry h
  cases x <;> cases y <;> first | exact False.elim h | exact fk_mul pins s σ H _ _ v u Q I rx ry h | skip
  rename_i a n
  have h2 : zMulS a n H Q := h
  unfold zMulS at h2
  obtain ⟨⟨h1, h1'⟩, ⟨h3, h3'⟩, q⟩ := h2
  obtain ⟨t, rfl⟩ := rx
  obtain ⟨t2, rfl⟩ := ry
  have ne : (a.length == 0) = false := by simp; omega
  refine PySem.P.mul_str (by rw [decide_eq_false (by omega), decide_eq_false (by omega)]; rfl) (fun _ _ => ?_) (fun _ _ => ?_) ?_
  · have : (2 ^ 63 - 1) / n ≥ 1000 := by
      refine (Int.le_ediv_iff_mul_le (by omega)).mpr ?_
      omega
    omega
  · have b1 : n.toNat ≤ 1000 := by omega
    have b2 : a.length * n.toNat ≤ 1000 * 1000 := Nat.mul_le_mul h3' b1
    exact decide_eq_false (by rw [sizeLine_eq]; omega)
  · rw [if_neg (by omega)]
    by_cases e : n = 1
    · subst e
      rw [if_pos (by rfl)]
      rw [repS_one] at q
      exact ⟨.str a, H, I, ⟨t, rfl⟩, q⟩
    · rw [if_neg (by simp [ne, e])]
      refine ⟨?_, ⟨.str (repS a n), H, I.tok _, ⟨_, rfl⟩, q⟩⟩
      have b1 : n.toNat ≤ 1000 := by omega
      have b2 : n.toNat * a.length ≤ 1000 * 1000 := Nat.mul_le_mul b1 h3'
      have b3 := repS_len (a := a) (n := n)
      show (repS a n).length ≤ sizeLine
      rw [b3, sizeLine_eq]
      omega
end
section
variable {K : PySem.W.Frag} {K0 H : Hp} {L : Ow} {Q : VK} {p q : Addr} {xs ys : List V} {a : Str} {n : Int} {l u : Option Int}
theorem z_mulS (h1 : 1 ≤ n ∧ n ≤ 1000) (h2 : 0 < a.length ∧ a.length ≤ 1000) (h : Q (.str (repS a n)) H) : zMulS a n H Q := by unfold zMulS; exact ⟨h1, h2, h⟩
theorem z_reprI (h1 : n.natAbs.log2 < 1920) (h : Q (.str (toString n)) H) : zReprI n H Q := by unfold zReprI; exact ⟨h1, h⟩
theorem z_reprS (h1 : (reprText a).length ≤ sizeLine) (h : Q (.str (reprText a)) H) : zReprS a H Q := by unfold zReprS; exact ⟨h1, h⟩
theorem z_slT (w : Own K0 L H) (hs : SqT K H p xs) (hw : ¬ (HT.sIx xs.length 0 l = 0 ∧ HT.sIx xs.length xs.length u = xs.length)) (k : ∀ q H', Own K0 ((q, .tup (cutV xs l u)) :: L) H' → Q (.ref q) H') : zSlT K (.ref p) l u H Q := by
  unfold zSlT
  exact ⟨p, xs, rfl, hs, hw, fun q hq => k q _ (w.new hq _)⟩
theorem z_addT (w : Own K0 L H) (h1 : SqT K H p xs) (h2 : SqT K H q ys) (hx : xs ≠ []) (hy : ys ≠ []) (hl : xs.length + ys.length ≤ 1000000) (k : ∀ l H', Own K0 ((l, .tup (xs ++ ys)) :: L) H' → Q (.ref l) H') : zAddR K p q H Q := by
  unfold zAddR
  exact .inr ⟨p, q, xs, ys, rfl, rfl, h1, h2, hx, len_le hl, fun e => absurd e hy, fun _ l hl => k l _ (w.new hl _)⟩
theorem z_tupleT (h : SqT K H p xs) (k : Q (.ref p) H) : zTuple K [.ref p] H Q := by
  unfold zTuple
  exact ⟨p, xs, rfl, .inr ⟨h, k⟩⟩
end
end Wf

set_option Elab.async false
set_option linter.all false
set_option maxRecDepth 100000
set_option maxHeartbeats 4000000
namespace Wf
open PySem PySem.Spec PyProof.Rows L2 TL
/-! ## o.m(*e): a bound method is laid first -/
theorem starcall1_of {M : Model} {A : Around} {E : Value → Shared → Prop} {s : Shared} {env : Env} {o e2 : Expr} {m : Str} {p apos pos : Pos} {Q : Value → Shared → Prop} (hbase : attributeBase o m env (eval o env) = eval o env)
    (hst : starEach [.Starred e2 p] env = [(true, eval e2 env)])
    (h : wpAny M A (eval o env) (fun ov s₁ => wpAny M A (getAttr ov m true) (fun f s₂ => wpAny M A (callWith pos f [] (backTo pos [(true, eval e2 env)]) []) Q E s₂) E s₁) E s) :
    wpAny M A (eval (.Call (.Attribute o m apos) [.Starred e2 p] [] pos) env) Q E s := by
  have hke : backToKw pos (keywordEach [] env) = [] := rfl
  have hform : methodCallForm ([Expr.Starred e2 p].length + ([] : List Keyword).length) (backTo pos [(true, eval e2 env)]) [] = false := rfl
  have hpos : methodCallPos false o env apos pos = pure pos := rfl
  have hcal : ∀ ov, calleeOf false o env ov m = (getAttr ov m true >>= fun v => pure (v, [])) := fun _ => rfl
  rw [arm_eval_Call, hbase, hst, hke]
  refine wpAny_bind (wpAny_mono h (fun ov s₁ h₁ => ?_) fun _ _ x => x)
  refine wpAny_bind (wpAny_standAt ?_)
  unfold methodCall
  rw [hform, hpos, hcal]
  refine wpAny_bind (wpAny_holding (wpAny_bind (wpAny_mono h₁ (fun f s₂ h₂ => wpAny_pure ?_) fun _ _ x => x)))
  exact wpAny_bind (wpAny_pure h₂)
@[irreducible] def zMethB (K : PySem.W.Frag) (C : Addr) (m : Str) (g : Addr) (sp : Sp) (E : XK) (t2 : TE) (σ : L2.St) (Q : VK) (x : V) (H1 : Hp) : Prop := ∃ a dx fs, x = .ref a ∧ H1 a = some (.ins C dx fs) ∧ fs.lookup m = none ∧
  ∀ q, H1 q = none → t2 σ (upd H1 q (.met g a)) fun y2 H3 => ∃ b vs, y2 = .ref b ∧ (SqT K H3 b vs ∨ SqL K H3 b vs) ∧ H3 q = some (.met g a) ∧ sp (.ref a :: vs) H3 Q E
def fMethB (K : PySem.W.Frag) (C : Addr) (m : Str) (g : Addr) (sp : Sp) (E : L2.St → XK) (ta t2 : TE) : TE := fun σ H Q => ta σ H (zMethB K C m g sp (E σ) t2 σ Q)
section
variable {X : Cx} {CX : CXT} {k : Nat} {C g : Addr} {fd : FuncData} {ps : List Str} {sp : Sp} {E : L2.St → XK} {m : Str} {p apos pos : Pos} {o e2 : Expr} {ta t2 : TE}
theorem run_fnC {E : XK} {pins : List (Addr × Obj)} {σ : L2.St} {H : Hp} {s : Shared} {Q : VK} {us : List Value} {vs : List V} (F : FnOk X.prog X.w X.K X.mg X.base CX k g fd ps sp) (hr : Room k X.A) (hb : Binds X.K fd ps []) (hx : PassesAt CX X σ E)
    (I : Inv X pins σ H s) (r : Vals vs us) (h : sp vs H Q E) : codeAny (model X.prog X.w) X.A (.call (.ref g) ⟨us, []⟩) (fun r s' => match r with | .ok (.ret v) => EP X pins σ Q v s' | .ok _ => False | .error e => X.xe e s') s := by
  have hl : us.length = ps.length := by rw [← r.length]; exact F.len _ _ _ _ h
  have b := hb s us I.kIn (by rw [List.append_nil]; exact hl)
  rw [List.append_nil] at b
  refine codeAny_mono (F.run X.A X.stack s H ⟨us, []⟩ us vs Q E hr I.env0 b r h) fun r s' hq => ?_
  cases r with
  | error e => exact hx pins H s e s' I hq
  | ok fl =>
    cases fl with
    | ret u => exact I.after hq
    | next => exact False.elim hq
    | brk => exact False.elim hq
    | cont => exact False.elim hq
theorem pe_methB {D : OkD X.prog X.w X.K X.mg X.base CX k g ps sp} (he : PE X o ta) (c : Cls X.K C) (b : BMeth X.K C m g) (hr : Room k X.A) (hx : ∀ σ, PassesAt CX X σ (E σ)) (h2 : PE X e2 t2)
    (hbase : attributeBase o m X.env (eval o X.env) = eval o X.env := by rfl) (hst : starEach [.Starred e2 p] X.env = [(true, eval e2 X.env)] := by rfl) : PE X (.Call (.Attribute o m apos) [.Starred e2 p] [] pos) (fMethB X.K C m g sp E ta t2) := by
  obtain ⟨⟨fd, F, hb, _⟩, kp⟩ := D
  refine ⟨fun pins s σ H Q I h => ?_⟩
  unfold fMethB zMethB at h
  refine starcall1_of hbase hst (thn (he.run pins s σ H _ I h) fun u s1 ⟨x, H1, I1, rx, a, dx, fs, ex, ea, l, q⟩ => ?_)
  subst ex
  obtain rfl : u = Value.ref a := rx
  refine getbound_ok I1 ea c b l fun q1 s2 hq1 I2 => ?_
  refine PySem.W.ks_call (P := PySem.W.MethP X.K q1 g (.ref a)) rfl (PySem.W.keeps_M b.fi) (PySem.W.ks_lone (thn (h2.run pins s2 σ _ _ I2 (q q1 hq1)) fun v2 s4 ⟨y2, H3, I4, ry2, t, vs, ey, ht, hm, hsp⟩ => ?_))
  subst ey
  obtain rfl : v2 = Value.ref t := ry2
  refine StX.star_any I4 ht fun us s5 I5 rv => ?_
  exact ⟨met_P I5 hm, wpAny_call (PySem.W.method_call (met_P I5 hm).1 (run_fnC (us := Value.ref a :: us) (vs := V.ref a :: vs) F hr hb (hx σ) I5 (.cons rfl rv) hsp))⟩
end
def bmB (K : PySem.W.Frag) (C : Addr) (m : Str) (g : Addr) : Bool := He.eqO (PySem.W.findIn K (.ref C) m) (some (some (.ref g))) && (PySem.W.isFn K (.ref g) && (PySem.W.keepIn K (.ref g) && (He.eqO (PySem.W.specialIn K (.ref g) "__get__") (some (some (.builtin "function.__get__"))) && (decide (PySem.W.takesIn K (.ref g) = some false) && (!PySem.W.copiedNames.contains m && PySem.W.fnIn K g)))))
theorem bmB_ok {K : PySem.W.Frag} {C : Addr} {m : Str} {g : Addr} (h : bmB K C m g = true) : BMeth K C m g := by
  obtain ⟨h1, h⟩ := He.ba h
  obtain ⟨h2, h⟩ := He.ba h
  obtain ⟨h3, h⟩ := He.ba h
  obtain ⟨h4, h⟩ := He.ba h
  obtain ⟨h5, h⟩ := He.ba h
  obtain ⟨h6, h7⟩ := He.ba h
  exact ⟨⟨He.eqO_ok h1, h2, h3⟩, He.eqO_ok h4, of_decide_eq_true h5, by simpa using h6, h7⟩
section
variable {K : PySem.W.Frag} {K0 H : Hp} {L : Ow} {Q : VK} {σ : L2.St} {a b C g dx q : Addr} {fs : List (Str × V)} {m : Str} {te : TE} {sp : Sp} {E : XK} {vs : List V}
@[irreducible] def zMetL (K : PySem.W.Frag) (q g a : Addr) (k : List V → Hp → Prop) (y2 : V) (H3 : Hp) : Prop := ∃ b vs, y2 = .ref b ∧ (SqT K H3 b vs ∨ SqL K H3 b vs) ∧ H3 q = some (.met g a) ∧ k vs H3
theorem z_methB (w : Own K0 L H) (h : H a = some (.ins C dx fs)) (e : fs.lookup m = none) (k : ∀ q H', Own K0 ((q, .met g a) :: L) H' → te σ H' (zMetL K q g a fun vs H3 => sp (.ref a :: vs) H3 Q E)) : zMethB K C m g sp E te σ Q (.ref a) H := by
  unfold zMethB
  unfold zMetL at k
  exact ⟨a, dx, fs, rfl, h, e, fun q hq => k q _ (w.new hq _)⟩
theorem z_metT {k : List V → Hp → Prop} (hs : SqT K H b vs) (hq : H q = some (.met g a)) (h : k vs H) : zMetL K q g a k (.ref b) H := by unfold zMetL; exact ⟨b, vs, rfl, .inl hs, hq, h⟩
theorem z_metL {k : List V → Hp → Prop} (hs : SqL K H b vs) (hq : H q = some (.met g a)) (h : k vs H) : zMetL K q g a k (.ref b) H := by unfold zMetL; exact ⟨b, vs, rfl, .inr hs, hq, h⟩
end
end Wf

set_option Elab.async false
set_option linter.all false
set_option maxRecDepth 100000
set_option maxHeartbeats 1000000
namespace L2
open PySem PySem.Spec PyProof.Rows
/-- a text's signs, each in a new pair -/
def IteS (x : Str) : It :=
  ⟨fun i _ => i < x.cps.size, fun i H v H' => ∃ T c, v = .ref T ∧ H T = none ∧ H' = upd H T (.tup [.int (i : Nat), .str ⟨#[c]⟩]) ∧ x.cps[i]? = some c, fun i _ => x.cps.size ≤ i⟩
theorem turn_enumS {P : Program} {w : World} {K : PySem.W.Frag} {elts : List Expr} {kk : Nat} {tpos : Pos} (x : Str) (t : Tok) (e it : Addr) :
    Turn P w K (.Tuple elts kk tpos) (IteS x) [e, it] e (fun i h => (∃ old, IsEnum h e it ((i : Nat) : Int) old) ∧ h.IsStrIter it (strIterType x) x t i ∧ e ≠ it) where
  mem := by simp
  obj := fun i h st b hb => by
    obtain ⟨⟨old, he⟩, ⟨o, ho, hc, hd⟩, _⟩ := st
    have e' : b = e ∨ b = it := by simpa using hb
    rcases e' with z | z
    · rw [z]; exact ⟨_, he, fun v q => nomatch q⟩
    · rw [z]; exact ⟨o, ho, fun v q => by rw [hd] at q; cases q⟩
  keep := fun i h h' st k => let ⟨⟨old, he⟩, ⟨o, ho, r⟩, hne⟩ := st; ⟨⟨old, k e (by simp) _ he⟩, ⟨o, k it (by simp) o ho, r⟩, hne⟩
  item := by
    intro X hP hw hK hc i pins s σ H E I hf st hg
    subst hP hw hK
    obtain ⟨⟨old, he⟩, hit, hne⟩ := st
    have hel : e < s.heap.objs.size := Heap.lt_size he
    have hil : it < s.heap.objs.size := by obtain ⟨_, q, _⟩ := hit; exact Heap.lt_size q
    refine wpAny_pyNext_enum_itemD (Draws.text (prog := X.prog) (w := X.w) (A := X.A.in1) (I.ok.hd hc) it x t) he hit hg hne (by simp [hne]) fun x' h' tk hx' ho hst' hT hsz hk => ?_
    obtain ⟨c, u, hcx, rfl⟩ := hx'
    refine ⟨_, rfl, wpAny_letOwnedTupleGo_enum (s := { s with heap := h', toks := tk + 1 }) ho fun h'' he' sb => ?_⟩
    have hT2 : h''.get? s.heap.objs.size = some { cls := .type "tuple", data := .seq #[.int i tk, .str ⟨#[c]⟩ u] } := (sb.2 _ (Nat.ne_of_gt hel)).trans hT
    have new : ObjOk X.prog X.w (upd H s.heap.objs.size (.tup [.int (i : Nat), .str ⟨#[c]⟩])) h'' s.heap.objs.size (.tup [.int (i : Nat), .str ⟨#[c]⟩]) :=
      ⟨by show 2 ≤ sizeLine; decide, [.int i tk, .str ⟨#[c]⟩ u], .cons ⟨_, rfl⟩ (.cons ⟨_, rfl⟩ .nil), ⟨_, hT2, rfl, _, rfl⟩⟩
    have I1 : Inv X pins σ (upd H s.heap.objs.size (.tup [.int (i : Nat), .str ⟨#[c]⟩])) { s with heap := h'', toks := tk + 1 } :=
      I.turnedNew (ch := [e, it]) (fun b ob hb q => (sb.2 b (fun z => hb (by simp [z]))).trans (hk b ob (fun z => hb (by simp [z])) (fun z => hb (by simp [z])) q)) hf (Nat.le_refl _) new
    refine ⟨.ref s.heap.objs.size, _, I1, rfl, ⟨_, c, rfl, I.hok.fresh (Nat.le_refl _), rfl, hcx⟩, ⟨⟨.str ⟨#[c]⟩ u, ?_⟩, (let ⟨o, q, r⟩ := hst'; ⟨o, (sb.2 it (Ne.symm hne)).trans q, r⟩), hne⟩, fun b hb => ?_⟩
    · have e1 : ((i + 1 : Nat) : Int) = (i : Int) + 1 := by omega
      rw [e1]; exact he'
    · have hb' : b < s.heap.objs.size := by
        have e' : b = e ∨ b = it := by simpa using hb
        rcases e' with z | z
        · rw [z]; exact hel
        · rw [z]; exact hil
      rw [upd_ne (Nat.ne_of_lt hb')]
      exact (hf b hb).1
  done := by
    intro X hP hw hK hc i pins s σ H E I hf st hg
    subst hP hw hK
    obtain ⟨⟨old, he⟩, hit, hne⟩ := st
    obtain ⟨f0, f1, f2, f3, f4, f5⟩ := hf it (by simp)
    have hx : x.cps[i]? = none := Array.getElem?_eq_none hg
    have D0 := Draws.text (prog := X.prog) (w := X.w) (A := X.A.in1) (I.ok.hd hc) it x t
    have hi : i ≤ x.cps.size ∨ x.cps.size < i := by omega
    have D : Draws X.prog X.w X.A.in1 it [it] i (fun _ _ => True) (fun j h => j = i ∧ h.IsStrIter it (strIterType x) x t j) :=
      { live := fun _ _ st => let ⟨o, ho, _⟩ := st.2; ⟨o, ho⟩
        frame := fun j h h' st hk => ⟨st.1, D0.frame j h h' st.2 hk⟩
        item := fun j s Q E hj st hQ => absurd hj (by rw [st.1]; exact Nat.lt_irrefl _)
        done := fun s Q E st hE => by
          have st2 := st.2
          cases ha : x.cps.all (· < 128)
          · simp only [strIterType, ha, Bool.false_eq_true, if_false] at st2
            exact wpAny_nextOf_wide_end (I.ok.hd hc) st2 hx hE
          · simp only [strIterType, ha, if_true] at st2
            exact wpAny_nextOf_ascii_end (I.ok.hd hc) st2 hx hE }
    exact wpAny_pyNext_enum_endD D he ⟨rfl, hit⟩ fun h' eb => ⟨rfl, I.turned (t' := s.toks) (fun b o hb q => eb b o hb q) f0 f1 f3 f4 f5⟩
  self := fun A i s Q E st h => let ⟨⟨_, he⟩, _⟩ := st; wpAny_pyIter_enum he h
def iEnumS (ta : TA) : TI := fun σ H R => ta σ H fun vs H1 => ∃ x, vs = [.str x] ∧ R (IteS x) H1
theorem pi_enumS {X : Cx} {e : Expr} {ta : TA} {p pos tpos : Pos} {elts : List Expr} {kk : Nat} (hg : Gl X "enumerate") (hm : X.mg "enumerate" = none) (ha : PA X [e] ta) (hs : starEach [e] X.env = [(false, eval e X.env)] := by rfl) :
    PI X (.Tuple elts kk tpos) (.Call (.Name "enumerate" p) [e] [] pos) (iEnumS ta) := by
  refine ⟨fun pins s σ H R I h => ?_⟩
  refine Call_ (ld_blt I hg hm boot_enumerate (PyProof.Rows.callWith_type1 (thn (ha.run pos pins s σ H _ I h) fun us s1 ⟨vs, H1, I1, r1, q1⟩ => ?_) hs rfl))
  obtain ⟨x, ex, q⟩ := q1
  subst ex
  cases r1 with
  | cons r rr =>
    cases rr
    obtain ⟨t, rfl⟩ := r
    refine PySem.call_enumerate_str fun h' he hit hsz hk => wpAny_pyIter_enum he ?_
    have I2 : Inv X pins σ H1 { s1 with heap := h' } := I1.kept (t' := s1.toks) hk
    refine ⟨s1.heap.objs.size + 1, [s1.heap.objs.size + 1, s1.heap.objs.size], _, _, H1, rfl, I2, turn_enumS x t (s1.heap.objs.size + 1) s1.heap.objs.size, ⟨⟨.none, he⟩, hit, Nat.succ_ne_self _⟩, fun b hb => ?_, q⟩
    have e' : b = s1.heap.objs.size + 1 ∨ b = s1.heap.objs.size := by simpa using hb
    have hle : s1.heap.objs.size ≤ b := by
      rcases e' with z | z
      · rw [z]; exact Nat.le_add_right _ _
      · rw [z]; exact Nat.le_refl _
    exact I1.fpOk hle (I1.hok.fresh hle)
end L2

set_option Elab.async false
set_option linter.all false
set_option maxRecDepth 100000
set_option maxHeartbeats 4000000
namespace Wf
open PySem PySem.Spec PyProof.Rows L2 TL
/-! ## the type of plain data -/
def tyD : PyData → String
  | .none => "NoneType"
  | .bool _ => "bool"
  | .int _ => "int"
  | .str _ => "str"
  | .list _ => "list"
  | .tuple _ => "tuple"
  | .dict _ => "dict"
theorem tyX_of {K : PySem.W.Frag} {H : Hp} {x : V} {d : PyData} (h : Dp K H x d) : TyX K H x (.type (tyD d)) := by
  cases h with
  | non => exact .base .non
  | bl b => exact .base (.bl b)
  | int i => exact .base (.int i)
  | str z => exact .base (.str z)
  | lst hs _ =>
    rcases hs with (h | ⟨o, h⟩) | ⟨o, its, n, h, c, _⟩
    · exact .base (.lst h)
    · exact .base (.frz h)
    · exact .kList h c
  | tup hs _ =>
    rcases hs with (h | ⟨o, h⟩) | ⟨o, its, n, h, c, _⟩
    · exact .base (.tup h)
    · exact .fTuple h
    · exact .kTuple h c
theorem tyD_mem (d : PyData) : tyD d ∈ ["NoneType", "bool", "int", "str", "list", "tuple", "dict"] := by cases d <;> simp [tyD]
theorem kitS : ∀ a ∈ ["NoneType", "bool", "int", "str", "list", "tuple", "dict"], ∀ b ∈ ["str", "int", "bool", "tuple", "list", "dict"], kitB a b = some (decide (a = b) || (decide (a = "bool") && decide (b = "int"))) := by decide +kernel
/-- isinstance of plain data -/
theorem kitD (b : String) (d : PyData) (hb : b ∈ ["str", "int", "bool", "tuple", "list", "dict"]) {K : PySem.W.Frag} : PySem.W.kitOne K (.type (tyD d)) (.type b) = some (decide (tyD d = b) || (decide (tyD d = "bool") && decide (b = "int"))) :=
  kit_ty (kitS _ (tyD_mem d) b hb)
end Wf

set_option Elab.async false
set_option linter.all false
set_option maxRecDepth 100000
set_option maxHeartbeats 4000000
namespace Ev
open PySem PySem.Spec PyProof.Rows L2 Wf

/-! # values and objects that compute; what they stand for -/
abbrev Nm := List Nat
def mk (l : List Nat) : Str := ⟨l.toArray⟩
theorem mk_inj {a b : List Nat} (h : mk a = mk b) : a = b := by
  have h2 : a.toArray = b.toArray := congrArg (fun z : Str => z.cps) h
  simpa using h2
/-- built-in types and exceptions that are named -/
inductive Ty where
  | non | bool | int | str | tuple | list | dict | exc | valueError | lookupError | runtimeError | overflowError | keyError | indexError | notImplementedError | zeroDivisionError | typeError | arithmeticError
  deriving DecidableEq
def Ty.s : Ty → String
  | .non => "NoneType" | .bool => "bool" | .int => "int" | .str => "str" | .tuple => "tuple" | .list => "list" | .dict => "dict" | .exc => "Exception" | .valueError => "ValueError" | .lookupError => "LookupError"
  | .runtimeError => "RuntimeError" | .overflowError => "OverflowError" | .keyError => "KeyError" | .indexError => "IndexError" | .notImplementedError => "NotImplementedError" | .zeroDivisionError => "ZeroDivisionError" | .typeError => "TypeError" | .arithmeticError => "ArithmeticError"
inductive W where
  | non | bl (b : Bool) | int (i : Int) | str (s : List Nat) | ty (n : Ty)
  | tup (xs : List W) | lst (xs : List W) | wls (xs : List W) | wtp (xs : List W) | ref (i : Nat) | glo (n : Nm) | exn (C : Nm) (fs : List (Nm × W)) | exb (C : Nm)
inductive Ky where
  | i (n : Int) | s (x : List Nat)
  deriving DecidableEq
inductive O where
  | lst (xs : List W) | dic (kvs : List (Ky × W)) | dit (kvs : List (List Ky × W)) | ins (C : Nm) (fs : List (Nm × W))
  /-- a dict that a loop walks: read only -/
  | dicF (kvs : List (Ky × W))
def O.fz : O → Bool
  | .dicF _ => true
  | _ => false
abbrev Conf := List O
abbrev Sl := List (Option W)
inductive Xc where
  | own (C : Nm) (fs : List (Nm × W))
  | bare (C : Nm)
inductive Out (α : Type) where
  | ok (x : α) (c : Conf) | exc (x : Xc) (c : Conf) | bad
def Out.bind {α β : Type} (o : Out α) (f : α → Conf → Out β) : Out β := match o with
  | .ok x c => f x c
  | .exc x c => .exc x c
  | .bad => .bad

/-! ## worlds -/
structure Wd where
  k0 : Hp
  hd : Hp
  n : Nat
  φ : Nat → Addr
structure Wd.Le (w w' : Wd) : Prop where
  k0 : Same w.k0 w'.k0
  hd : Same w.hd w'.hd
  n : w.n ≤ w'.n
  φ : ∀ i, i < w.n → w'.φ i = w.φ i
structure Wd.Lv (w w' : Wd) : Prop where
  k0 : Same w.k0 w'.k0
  n : w.n ≤ w'.n
  φ : ∀ i, i < w.n → w'.φ i = w.φ i
theorem Wd.Le.v {w w' : Wd} (l : w.Le w') : w.Lv w' := ⟨l.k0, l.n, l.φ⟩
theorem Wd.Le.refl (w : Wd) : w.Le w := ⟨Same.refl _, Same.refl _, Nat.le_refl _, fun _ _ => rfl⟩
theorem Wd.Le.trans {a b c : Wd} (h : a.Le b) (g : b.Le c) : a.Le c := ⟨h.k0.trans g.k0, h.hd.trans g.hd, Nat.le_trans h.n g.n, fun i hi => (g.φ i (Nat.lt_of_lt_of_le hi h.n)).trans (h.φ i hi)⟩

mutual
def Vr (K : PySem.W.Frag) (w : Wd) : W → V → Prop
  | .non, v => v = .non
  | .bl b, v => v = .bl b
  | .int i, v => v = .int i
  | .str s, v => v = .str (mk s)
  | .ty n, v => v = .ty n.s
  | .tup xs, v => ∃ a vs, v = .ref a ∧ w.k0 a = some (.tup vs) ∧ VrL K w xs vs
  | .wtp xs, v => ∃ a vs, v = .ref a ∧ SqT K w.k0 a vs ∧ VrL K w xs vs
  | .lst xs, v => ∃ a vs, v = .ref a ∧ w.k0 a = some (.lst vs) ∧ VrL K w xs vs
  | .wls xs, v => ∃ a vs, v = .ref a ∧ SqL K w.k0 a vs ∧ VrL K w xs vs
  | .ref i, v => i < w.n ∧ v = .ref (w.φ i)
  | .glo n, v => v = .ref (He.ga K (mk n))
  | .exn _ _, _ => False
  | .exb _, _ => False
def VrL (K : PySem.W.Frag) (w : Wd) : List W → List V → Prop
  | [], vs => vs = []
  | x :: xs, vs => ∃ v r, vs = v :: r ∧ Vr K w x v ∧ VrL K w xs r
end
section
variable {K : PySem.W.Frag} {w w' : Wd}
mutual
theorem Vr.mono (l : w.Lv w') : ∀ {x : W} {v : V}, Vr K w x v → Vr K w' x v
  | .non, _, h => h
  | .bl _, _, h => h
  | .int _, _, h => h
  | .str _, _, h => h
  | .ty _, _, h => h
  | .tup xs, _, ⟨a, vs, e, s, r⟩ => ⟨a, vs, e, l.k0 _ _ s, VrL.mono l r⟩
  | .wtp xs, _, ⟨a, vs, e, s, r⟩ => ⟨a, vs, e, sqT_mono l.k0 s, VrL.mono l r⟩
  | .lst xs, _, ⟨a, vs, e, s, r⟩ => ⟨a, vs, e, l.k0 _ _ s, VrL.mono l r⟩
  | .wls xs, _, ⟨a, vs, e, s, r⟩ => ⟨a, vs, e, sqL_mono l.k0 s, VrL.mono l r⟩
  | .ref i, _, ⟨h, e⟩ => ⟨Nat.lt_of_lt_of_le h l.n, by rw [e, l.φ i h]⟩
  | .glo _, _, h => h
  | .exn _ _, _, h => h
  | .exb _, _, h => h
theorem VrL.mono (l : w.Lv w') : ∀ {xs : List W} {vs : List V}, VrL K w xs vs → VrL K w' xs vs
  | [], _, h => h
  | x :: xs, _, ⟨v, r, e, h1, h2⟩ => ⟨v, r, e, Vr.mono l h1, VrL.mono l h2⟩
end
theorem VrL.length : ∀ {xs : List W} {vs : List V}, VrL K w xs vs → vs.length = xs.length
  | [], _, h => by cases (show _ = [] from h); rfl
  | x :: xs, _, ⟨v, r, e, h1, h2⟩ => by subst e; simp [VrL.length h2]
theorem VrL.app : ∀ {xs ys : List W} {vs us : List V}, VrL K w xs vs → VrL K w ys us → VrL K w (xs ++ ys) (vs ++ us)
  | [], _, _, _, h, g => by cases (show _ = [] from h); exact g
  | x :: xs, _, _, _, ⟨v, r, e, h1, h2⟩, g => by subst e; exact ⟨v, _, rfl, h1, VrL.app h2 g⟩
theorem VrL.get : ∀ {xs : List W} {vs : List V} {i : Nat} {x : W}, VrL K w xs vs → xs[i]? = some x → ∃ v, vs[i]? = some v ∧ Vr K w x v
  | [], _, _, _, h, e => by simp at e
  | y :: xs, _, 0, x, ⟨v, r, e, h1, h2⟩, q => by subst e; simp at q; subst q; exact ⟨v, rfl, h1⟩
  | y :: xs, _, i + 1, x, ⟨v, r, e, h1, h2⟩, q => by
    subst e
    obtain ⟨u, a, b⟩ := VrL.get (i := i) h2 (by simpa using q)
    exact ⟨u, by simpa using a, b⟩
theorem VrL.set {x : W} {v : V} (hx : Vr K w x v) : ∀ {xs : List W} {vs : List V} (i : Nat), VrL K w xs vs → VrL K w (xs.set i x) (vs.set i v)
  | [], _, _, h => by cases (show _ = [] from h); rfl
  | y :: xs, _, 0, ⟨u, r, e, h1, h2⟩ => by subst e; exact ⟨v, r, rfl, hx, h2⟩
  | y :: xs, _, i + 1, ⟨u, r, e, h1, h2⟩ => by subst e; exact ⟨u, _, rfl, h1, VrL.set hx i h2⟩
theorem VrL.take : ∀ {xs : List W} {vs : List V} (i : Nat), VrL K w xs vs → VrL K w (xs.take i) (vs.take i)
  | [], _, i, h => by cases (show _ = [] from h); simp [VrL]
  | _ :: _, _, 0, ⟨u, r, e, h1, h2⟩ => by simp [VrL]
  | y :: xs, _, i + 1, ⟨u, r, e, h1, h2⟩ => by subst e; exact ⟨u, _, rfl, h1, VrL.take i h2⟩
theorem VrL.drop : ∀ {xs : List W} {vs : List V} (i : Nat), VrL K w xs vs → VrL K w (xs.drop i) (vs.drop i)
  | [], _, i, h => by cases (show _ = [] from h); simp [VrL]
  | y :: xs, _, 0, h => h
  | y :: xs, _, i + 1, ⟨u, r, e, h1, h2⟩ => by subst e; exact VrL.drop i h2
theorem VrL.one {x : W} {v : V} (h : Vr K w x v) : VrL K w [x] [v] := ⟨v, [], rfl, h, rfl⟩
end
def FR (K : PySem.W.Frag) (w : Wd) (fs : List (Nm × W)) (vs : List (Str × V)) : Prop := vs.map (·.1) = fs.map (fun p => mk p.1) ∧ VrL K w (fs.map (·.2)) (vs.map (·.2))
def XcR (K : PySem.W.Frag) (w : Wd) : Xc → Value → Option Addr → Prop
  | .own C fs, cls, d => cls = .ref (He.ga K (mk C)) ∧ ∃ dd vs, d = some dd ∧ w.k0 dd = some (.xd vs) ∧ FR K w fs vs
  | .bare C, cls, _ => cls = .ref (He.ga K (mk C))
section
variable {K : PySem.W.Frag} {w w' : Wd}
theorem FR.mono {fs : List (Nm × W)} {vs : List (Str × V)} (l : w.Lv w') (h : FR K w fs vs) : FR K w' fs vs := ⟨h.1, h.2.mono l⟩
theorem XcR.mono {x : Xc} {cls : Value} {d : Option Addr} (l : w.Lv w') (h : XcR K w x cls d) : XcR K w' x cls d := by
  cases x with
  | own C fs => obtain ⟨e, dd, vs, e2, h, f⟩ := h; exact ⟨e, dd, vs, e2, l.k0 _ _ h, f.mono l⟩
  | bare C => exact h
end
/-! ## slots -/
/-- the exception of the suite around -/
structure Sx where
  a : Addr
  cls : Value
  d : Option Addr
/-- what a slot holds: a value, or the suite's exception -/
def SlR (K : PySem.W.Frag) (S : Sx) (w : Wd) : W → V → Prop
  | .exn C fs, v => v = .ref S.a ∧ XcR K w (.own C fs) S.cls S.d
  | .exb C, v => v = .ref S.a ∧ XcR K w (.bare C) S.cls S.d
  | x, v => Vr K w x v
def SR (K : PySem.W.Frag) (S : Sx) (w : Wd) : Sl → L2.St → Prop
  | [], σ => σ = []
  | none :: ss, σ => ∃ r, σ = none :: r ∧ SR K S w ss r
  | some x :: ss, σ => ∃ v r, σ = some v :: r ∧ SlR K S w x v ∧ SR K S w ss r
section
variable {K : PySem.W.Frag} {S : Sx} {w w' : Wd}
theorem SlR.of {x : W} {v : V} (h : Vr K w x v) : SlR K S w x v := by
  cases x <;> first | exact h | exact h.elim
theorem SlR.mono {x : W} {v : V} (l : w.Lv w') (h : SlR K S w x v) : SlR K S w' x v := by
  cases x with
  | exn C fs => exact ⟨h.1, XcR.mono l h.2⟩
  | exb C => exact ⟨h.1, XcR.mono l h.2⟩
  | non => exact Vr.mono (K := K) l (x := .non) h
  | bl b => exact Vr.mono (K := K) l (x := .bl b) h
  | int b => exact Vr.mono (K := K) l (x := .int b) h
  | str b => exact Vr.mono (K := K) l (x := .str b) h
  | ty b => exact Vr.mono (K := K) l (x := .ty b) h
  | tup b => exact Vr.mono (K := K) l (x := .tup b) h
  | lst b => exact Vr.mono (K := K) l (x := .lst b) h
  | wls b => exact Vr.mono (K := K) l (x := .wls b) h
  | wtp b => exact Vr.mono (K := K) l (x := .wtp b) h
  | ref b => exact Vr.mono (K := K) l (x := .ref b) h
  | glo b => exact Vr.mono (K := K) l (x := .glo b) h
theorem SR.mono (l : w.Lv w') : ∀ {ss : Sl} {σ : L2.St}, SR K S w ss σ → SR K S w' ss σ
  | [], _, h => h
  | none :: ss, _, ⟨r, e, h⟩ => ⟨r, e, SR.mono l h⟩
  | some x :: ss, _, ⟨v, r, e, g, h⟩ => ⟨v, r, e, g.mono l, SR.mono l h⟩
theorem SR.get : ∀ {ss : Sl} {σ : L2.St} {i : Nat} {x : W}, SR K S w ss σ → ss[i]? = some (some x) → ∃ v, σ[i]? = some (some v) ∧ SlR K S w x v
  | [], _, _, _, _, q => by simp at q
  | none :: ss, _, 0, _, _, q => by simp at q
  | some y :: ss, _, 0, x, ⟨v, r, e, g, h⟩, q => by subst e; simp at q; subst q; exact ⟨v, rfl, g⟩
  | none :: ss, _, i + 1, x, ⟨r, e, h⟩, q => by
    subst e
    obtain ⟨v, a, b⟩ := SR.get (i := i) h (by simpa using q)
    exact ⟨v, by simpa using a, b⟩
  | some y :: ss, _, i + 1, x, ⟨u, r, e, g, h⟩, q => by
    subst e
    obtain ⟨v, a, b⟩ := SR.get (i := i) h (by simpa using q)
    exact ⟨v, by simpa using a, b⟩
theorem SR.put {x : W} {v : V} (hx : SlR K S w x v) : ∀ {ss : Sl} {σ : L2.St} (i : Nat), SR K S w ss σ → SR K S w (ss.set i (some x)) (σ.set i (some v))
  | [], _, _, h => by cases (show _ = [] from h); rfl
  | none :: ss, _, 0, ⟨r, e, h⟩ => by subst e; exact ⟨v, r, rfl, hx, h⟩
  | some y :: ss, _, 0, ⟨u, r, e, g, h⟩ => by subst e; exact ⟨v, r, rfl, hx, h⟩
  | none :: ss, _, i + 1, ⟨r, e, h⟩ => by subst e; exact ⟨_, rfl, SR.put hx i h⟩
  | some y :: ss, _, i + 1, ⟨u, r, e, g, h⟩ => by subst e; exact ⟨u, _, rfl, g, SR.put hx i h⟩
theorem SR.set {x : W} {v : V} (hx : Vr K w x v) {ss : Sl} {σ : L2.St} (i : Nat) (h : SR K S w ss σ) : SR K S w (ss.set i (some x)) (σ.set i (some v)) := SR.put (SlR.of hx) i h
theorem SR.unset : ∀ {ss : Sl} {σ : L2.St} (i : Nat), SR K S w ss σ → SR K S w (ss.set i none) (σ.set i none)
  | [], _, _, h => by cases (show _ = [] from h); rfl
  | none :: ss, _, 0, ⟨r, e, h⟩ => by subst e; exact ⟨r, rfl, h⟩
  | some y :: ss, _, 0, ⟨u, r, e, g, h⟩ => by subst e; exact ⟨r, rfl, h⟩
  | none :: ss, _, i + 1, ⟨r, e, h⟩ => by subst e; exact ⟨_, rfl, SR.unset i h⟩
  | some y :: ss, _, i + 1, ⟨u, r, e, g, h⟩ => by subst e; exact ⟨u, _, rfl, g, SR.unset i h⟩
/-- no suite's exception in the slots -/
def isEx : Option W → Bool
  | some (.exn _ _) => true
  | some (.exb _) => true
  | _ => false
def noEx (ss : Sl) : Bool := ss.all fun o => !isEx o
/-- into another suite, or out of one -/
theorem SR.other {S' : Sx} : ∀ {ss : Sl} {σ : L2.St}, noEx ss = true → SR K S w ss σ → SR K S' w ss σ
  | [], _, _, h => h
  | none :: ss, _, n, ⟨r, e, h⟩ => ⟨r, e, SR.other (by unfold noEx at n ⊢; rw [List.all_cons, Bool.and_eq_true] at n; exact n.2) h⟩
  | some x :: ss, _, n, ⟨v, r, e, g, h⟩ => by
    unfold noEx at n
    rw [List.all_cons, Bool.and_eq_true] at n
    refine ⟨v, r, e, ?_, SR.other n.2 h⟩
    cases x with
    | exn C fs => exact absurd n.1 (by simp [isEx])
    | exb C => exact absurd n.1 (by simp [isEx])
    | _ => exact g
def wipeW (ss : Sl) : List Nat → Sl
  | [] => ss
  | v :: vs => (wipeW ss vs).set v none
theorem SR.wipe {ss : Sl} {σ : L2.St} (h : SR K S w ss σ) : ∀ vs : List Nat, SR K S w (wipeW ss vs) (L2.wipe σ vs)
  | [] => h
  | v :: vs => (SR.wipe h vs).unset v
theorem SR.start : ∀ {xs : List W} {vs : List V} (n : Nat), VrL K w xs vs → SR K S w (xs.map some ++ List.replicate n none) (vs.map some ++ List.replicate n none)
  | [], _, n, h => by
    cases (show _ = [] from h)
    show SR K S w (List.replicate n none) (List.replicate n none)
    induction n with
    | zero => rfl
    | succ n ih => exact ⟨_, rfl, ih⟩
  | x :: xs, _, n, ⟨v, r, e, h1, h2⟩ => by subst e; exact ⟨v, _, rfl, SlR.of h1, SR.start n h2⟩
end
/-! ## objects -/
def ky : Ky → Key
  | .i n => .inl n
  | .s x => .inr (mk x)
theorem ky_inj {a b : Ky} (h : ky a = ky b) : a = b := by
  cases a <;> cases b <;> simp only [ky] at h
  · cases h; rfl
  · cases h
  · cases h
  · rw [mk_inj (Sum.inr.inj h)]
def KvR (K : PySem.W.Frag) (w : Wd) (kvs : List (Ky × W)) (vs : List (Key × V)) : Prop := vs.map (·.1) = kvs.map (fun p => ky p.1) ∧ VrL K w (kvs.map (·.2)) (vs.map (·.2))
def KtR (K : PySem.W.Frag) (w : Wd) (kvs : List (List Ky × W)) (vs : List (List Key × V)) : Prop := vs.map (·.1) = kvs.map (fun p => p.1.map ky) ∧ VrL K w (kvs.map (·.2)) (vs.map (·.2))
def ObR (K : PySem.W.Frag) (w : Wd) (H : Hp) (a : Addr) : O → HO → Prop
  | .lst xs, ho => ∃ vs, ho = .lst vs ∧ VrL K w xs vs
  | .dic kvs, ho => ∃ vs, ho = .dK vs ∧ KvR K w kvs vs
  | .dit kvs, ho => ∃ vs, ho = .dT vs ∧ KtR K w kvs vs
  | .dicF _, _ => True
  | .ins C fs, ho => ∃ dx vs, ho = .ins (He.ga K (mk C)) dx vs ∧ FR K w fs vs ∧ H dx = some (.own a) ∧ w.k0 dx = none ∧ w.hd dx = none
structure Rel (K : PySem.W.Frag) (w : Wd) (c : Conf) (H : Hp) : Prop where
  len : c.length = w.n
  k0 : Same w.k0 H
  hd : Same w.hd H
  dis : ∀ a o, w.hd a = some o → (∀ vs, o ≠ .tup vs) → w.k0 a = none
  obj : ∀ i o, c[i]? = some o → o.fz = false → ∃ ho, H (w.φ i) = some ho ∧ w.k0 (w.φ i) = none ∧ w.hd (w.φ i) = none ∧ ObR K w H (w.φ i) o ho
  lkd : ∀ i kvs, c[i]? = some (.dicF kvs) → ∃ od vs, w.hd (w.φ i) = some (.frz od (.dK vs)) ∧ KvR K w kvs vs
  inj : ∀ i j, i < w.n → j < w.n → w.φ i = w.φ j → i = j
section
variable {K : PySem.W.Frag} {w w' : Wd} {c : Conf} {H H' : Hp} {a p : Addr} {o : O} {ho : HO}
theorem KvR.mono {kvs : List (Ky × W)} {vs : List (Key × V)} (l : w.Lv w') (h : KvR K w kvs vs) : KvR K w' kvs vs := ⟨h.1, h.2.mono l⟩
theorem KtR.mono {kvs : List (List Ky × W)} {vs : List (List Key × V)} (l : w.Lv w') (h : KtR K w kvs vs) : KtR K w' kvs vs := ⟨h.1, h.2.mono l⟩
theorem ObR.mono (l : w.Lv w') (hk : ∀ dx, H dx = some (.own a) → H' dx = some (.own a) ∧ (w.k0 dx = none → w'.k0 dx = none) ∧ (w.hd dx = none → w'.hd dx = none)) : ∀ {o : O} {ho : HO}, ObR K w H a o ho → ObR K w' H' a o ho
  | .lst xs, _, ⟨vs, e, h⟩ => ⟨vs, e, h.mono l⟩
  | .dic _, _, ⟨vs, e, h⟩ => ⟨vs, e, h.mono l⟩
  | .dit _, _, ⟨vs, e, h⟩ => ⟨vs, e, h.mono l⟩
  | .dicF _, _, h => h
  | .ins C fs, _, ⟨dx, vs, e, h, h1, h2, h3⟩ => ⟨dx, vs, e, h.mono l, (hk dx h1).1, (hk dx h1).2.1 h2, (hk dx h1).2.2 h3⟩
theorem ObR.notown {x : Addr} : ∀ {o : O} {ho : HO}, o.fz = false → ObR K w H a o ho → ho ≠ .own x
  | .lst xs, _, _, ⟨vs, e, h⟩ => by rw [e]; exact HO.noConfusion
  | .dic _, _, _, ⟨vs, e, h⟩ => by rw [e]; exact HO.noConfusion
  | .dit _, _, _, ⟨vs, e, h⟩ => by rw [e]; exact HO.noConfusion
  | .dicF _, _, n, _ => by cases n
  | .ins C fs, _, _, ⟨dx, vs, e, _⟩ => by rw [e]; exact HO.noConfusion
theorem Rel.lt {i : Nat} (r : Rel K w c H) (h : c[i]? = some o) : i < w.n := by
  rw [← r.len]; exact (List.getElem?_eq_some_iff.mp h).1
theorem Rel.isob {i : Nat} (r : Rel K w c H) (h : i < w.n) : ∃ u, H (w.φ i) = some u := by
  have : i < c.length := by rw [r.len]; exact h
  cases e : c[i] with
  | dicF kvs =>
    obtain ⟨od, vs, k, _⟩ := r.lkd i kvs (by rw [List.getElem?_eq_getElem this, e])
    exact ⟨_, r.hd _ _ k⟩
  | _ =>
    obtain ⟨u, k, _⟩ := r.obj i _ (by rw [List.getElem?_eq_getElem this, e]) rfl
    exact ⟨u, k⟩
/-- more than before -/
theorem Rel.ext (r : Rel K w c H) (s : Same H H') : Rel K w c H' :=
  ⟨r.len, r.k0.trans s, r.hd.trans s, r.dis, fun i o e ef => by
    obtain ⟨ho, h1, h2, h3, h4⟩ := r.obj i o e ef
    exact ⟨ho, s _ _ h1, h2, h3, h4.mono (Wd.Le.refl w).v fun dx q => ⟨s _ _ q, id, id⟩⟩, r.lkd, r.inj⟩
def Wd.frz (w : Wd) (p : Addr) (ho : HO) : Wd := { w with k0 := upd w.k0 p ho }
theorem Wd.le_frz (h : w.k0 p = none) : w.Le (w.frz p ho) := ⟨same_upd h, Same.refl _, Nat.le_refl _, fun _ _ => rfl⟩
/-- a new object that stays -/
theorem Rel.frz (r : Rel K w c H) (hp : H p = none) (s : Same H H') (e : H' p = some ho) : w.Le (w.frz p ho) ∧ Rel K (w.frz p ho) c H' := by
  have k0n : w.k0 p = none := Same.free r.k0 hp
  have hdn : w.hd p = none := Same.free r.hd hp
  refine ⟨Wd.le_frz k0n, r.len, fun b u q => ?_, r.hd.trans s, fun b u q nt => ?_, fun i o q qf => ?_, fun i kvs q => ?_, r.inj⟩
  · by_cases hb : b = p
    · subst hb
      rw [show (w.frz b ho).k0 b = some ho from upd_same] at q
      rw [e]; exact q
    · rw [show (w.frz p ho).k0 b = w.k0 b from upd_ne hb] at q
      exact s _ _ (r.k0 _ _ q)
  · show upd w.k0 p ho b = none
    rw [upd_ne (ne_of_none q hdn)]
    exact r.dis _ _ q nt
  · obtain ⟨u, h1, h2, h3, h4⟩ := r.obj i o q qf
    have ne : w.φ i ≠ p := ne_of_none h1 hp
    refine ⟨u, s _ _ h1, ?_, h3, h4.mono (Wd.le_frz k0n).v fun dx qq => ⟨s _ _ qq, fun z => ?_, id⟩⟩
    · exact (upd_ne ne).trans h2
    · exact (upd_ne (ne_of_none qq hp)).trans z
  · obtain ⟨od, vs, h1, h2⟩ := r.lkd i kvs q
    exact ⟨od, vs, h1, h2.mono (Wd.le_frz k0n).v⟩
/-- a tuple that stands already stays -/
theorem Rel.knowT {vs : List V} (r : Rel K w c H) (e : H p = some (.tup vs)) : ∃ w', w.Le w' ∧ Rel K w' c H ∧ w'.k0 p = some (.tup vs) := by
  cases k : w.k0 p with
  | some u =>
    have := r.k0 _ _ k
    rw [e] at this
    cases this
    exact ⟨w, Wd.Le.refl w, r, k⟩
  | none =>
    refine ⟨w.frz p (.tup vs), Wd.le_frz k, ⟨r.len, fun b u q => ?_, r.hd, fun b u q nt => ?_, fun i o q qf => ?_, fun i kvs q => ?_, r.inj⟩, upd_same⟩
    · by_cases hb : b = p
      · subst hb
        rw [show (w.frz b (.tup vs)).k0 b = some (.tup vs) from upd_same] at q
        rw [e]; exact q
      · rw [show (w.frz p (.tup vs)).k0 b = w.k0 b from upd_ne hb] at q
        exact r.k0 _ _ q
    · have ne : b ≠ p := fun z => by
        subst z
        have := r.hd _ _ q
        rw [e] at this
        exact nt _ (Option.some.inj this).symm
      show upd w.k0 p (.tup vs) b = none
      rw [upd_ne ne]
      exact r.dis _ _ q nt
    · obtain ⟨u, h1, h2, h3, h4⟩ := r.obj i o q qf
      have ne : w.φ i ≠ p := fun z => by
        rw [z, e] at h1
        cases h1
        cases o with
        | lst xs => obtain ⟨_, h, _⟩ := h4; cases h
        | dic xs => obtain ⟨_, h, _⟩ := h4; cases h
        | dit xs => obtain ⟨_, h, _⟩ := h4; cases h
        | dicF xs => cases qf
        | ins C fs => obtain ⟨_, _, h, _⟩ := h4; cases h
      refine ⟨u, h1, (upd_ne ne).trans h2, h3, h4.mono (Wd.le_frz k).v fun dx qq => ⟨qq, fun z => ?_, id⟩⟩
      have nd : dx ≠ p := fun z => by rw [z, e] at qq; cases qq
      exact (upd_ne nd).trans z
    · obtain ⟨od, vs2, h1, h2⟩ := r.lkd i kvs q
      exact ⟨od, vs2, h1, h2.mono (Wd.le_frz k).v⟩
theorem Rel.frz1 (r : Rel K w c H) (hp : H p = none) (ho : HO) : w.Le (w.frz p ho) ∧ Rel K (w.frz p ho) c (upd H p ho) := r.frz hp (same_upd hp) upd_same
def Wd.new (w : Wd) (p : Addr) : Wd := { w with n := w.n + 1, φ := fun i => if i = w.n then p else w.φ i }
theorem Wd.le_new : w.Le (w.new p) := ⟨Same.refl _, Same.refl _, Nat.le_succ _, fun i h => if_neg (Nat.ne_of_lt h)⟩
/-- a new object that is owned -/
theorem Rel.new (r : Rel K w c H) (hp : H p = none) (s : Same H H') (e : H' p = some ho) (ob : ObR K (w.new p) H' p o ho) (of : o.fz = false := by rfl) : w.Le (w.new p) ∧ Rel K (w.new p) (c ++ [o]) H' := by
  have k0n : w.k0 p = none := Same.free r.k0 hp
  have hdn : w.hd p = none := Same.free r.hd hp
  have fl : ∀ i, i < w.n → (w.new p).φ i = w.φ i := fun i h => if_neg (Nat.ne_of_lt h)
  have fn : (w.new p).φ w.n = p := if_pos rfl
  have at' : ∀ i, i < w.n → w.φ i ≠ p := fun i hi => by
    obtain ⟨u, h1⟩ := r.isob hi
    exact ne_of_none h1 hp
  refine ⟨Wd.le_new, by rw [List.length_append, r.len]; rfl, r.k0.trans s, r.hd.trans s, r.dis, fun i u q qf => ?_, fun i kvs q => ?_, fun i j hi hj q => ?_⟩
  · by_cases hi : i < w.n
    · rw [fl i hi]
      have q2 : c[i]? = some u := by rw [List.getElem?_append_left (by rw [r.len]; exact hi)] at q; exact q
      obtain ⟨x, h1, h2, h3, h4⟩ := r.obj i u q2 qf
      exact ⟨x, s _ _ h1, h2, h3, h4.mono Wd.le_new.v fun dx qq => ⟨s _ _ qq, id, id⟩⟩
    · rw [List.getElem?_append_right (by rw [r.len]; omega), r.len] at q
      have : i - w.n = 0 := by
        rcases Nat.eq_zero_or_pos (i - w.n) with z | z
        · exact z
        · rw [List.getElem?_eq_none (by have : 0 < i - w.n := z; simp; omega)] at q; cases q
      have ei : i = w.n := by omega
      subst ei
      rw [this] at q
      cases q
      rw [fn]
      exact ⟨ho, e, k0n, hdn, ob⟩
  · by_cases hi : i < w.n
    · rw [fl i hi]
      have q2 : c[i]? = some (.dicF kvs) := by rw [List.getElem?_append_left (by rw [r.len]; exact hi)] at q; exact q
      obtain ⟨od, vs, h1, h2⟩ := r.lkd i kvs q2
      exact ⟨od, vs, h1, h2.mono Wd.le_new.v⟩
    · rw [List.getElem?_append_right (by rw [r.len]; omega), r.len] at q
      rcases Nat.eq_zero_or_pos (i - w.n) with z | z
      · rw [z] at q; cases q; cases of
      · rw [List.getElem?_eq_none (by have : 0 < i - w.n := z; simp; omega)] at q; cases q
  · have hi' : i < w.n + 1 := hi
    have hj' : j < w.n + 1 := hj
    by_cases a : i < w.n
    · by_cases b : j < w.n
      · rw [fl i a, fl j b] at q; exact r.inj i j a b q
      · have : j = w.n := by omega
        subst this
        rw [fl i a, fn] at q
        exact absurd q (at' i a)
    · have : i = w.n := by omega
      subst this
      by_cases b : j < w.n
      · rw [fn, fl j b] at q
        exact absurd q.symm (at' j b)
      · omega
/-- an owned object is changed -/
theorem Rel.put {i : Nat} {o' : O} {ho' : HO} (r : Rel K w c H) (hi : c[i]? = some o) (ob : ObR K w (upd H (w.φ i) ho') (w.φ i) o' ho') (of : o.fz = false := by rfl) (of' : o'.fz = false := by rfl) : Rel K w (c.set i o') (upd H (w.φ i) ho') := by
  have lt := r.lt hi
  obtain ⟨h0, e1, e2, e3, e4⟩ := r.obj i o hi of
  refine ⟨by rw [List.length_set]; exact r.len, fun b u q => ?_, fun b u q => ?_, r.dis, fun j u q qf => ?_, fun j kvs q => ?_, r.inj⟩
  · rw [upd_ne (ne_of_none q e2)]; exact r.k0 _ _ q
  · rw [upd_ne (ne_of_none q e3)]; exact r.hd _ _ q
  · by_cases e : j = i
    · subst e
      rw [List.getElem?_set_self (by rw [r.len]; exact lt)] at q
      cases q
      exact ⟨ho', upd_same, e2, e3, ob⟩
    · rw [List.getElem?_set_ne (Ne.symm e)] at q
      obtain ⟨x, h1, h2, h3, h4⟩ := r.obj j u q qf
      have ne : w.φ j ≠ w.φ i := fun z => e (r.inj j i (r.lt q) lt z)
      refine ⟨x, by rw [upd_ne ne]; exact h1, h2, h3, h4.mono (Wd.Le.refl w).v fun dx qq => ⟨?_, id, id⟩⟩
      have : dx ≠ w.φ i := fun z => by
        subst z
        rw [e1] at qq
        exact e4.notown of (Option.some.inj qq)
      rw [upd_ne this]; exact qq
  · by_cases e : j = i
    · subst e
      rw [List.getElem?_set_self (by rw [r.len]; exact lt)] at q
      cases q; cases of'
    · rw [List.getElem?_set_ne (Ne.symm e)] at q
      exact r.lkd j kvs q
/-! ### held: a list that grows in a comprehension -/
def Wd.hold (w : Wd) (p : Addr) (ho : HO) : Wd := { w with hd := upd w.hd p ho }
theorem Wd.le_hold (h : w.hd p = none) : w.Le (w.hold p ho) := ⟨Same.refl _, same_upd h, Nat.le_refl _, fun _ _ => rfl⟩
theorem Rel.hold (r : Rel K w c H) (hp : H p = none) (s : Same H H') (e : H' p = some ho) : w.Le (w.hold p ho) ∧ Rel K (w.hold p ho) c H' := by
  have k0n : w.k0 p = none := Same.free r.k0 hp
  have hdn : w.hd p = none := Same.free r.hd hp
  refine ⟨Wd.le_hold hdn, r.len, r.k0.trans s, fun b u q => ?_, fun b u q nt => ?_, fun i o q qf => ?_, fun i kvs q => ?_, r.inj⟩
  · by_cases hb : b = p
    · subst hb
      rw [show (w.hold b ho).hd b = some ho from upd_same] at q
      rw [e]; exact q
    · rw [show (w.hold p ho).hd b = w.hd b from upd_ne hb] at q
      exact s _ _ (r.hd _ _ q)
  · by_cases hb : b = p
    · subst hb; exact k0n
    · rw [show (w.hold p ho).hd b = w.hd b from upd_ne hb] at q
      exact r.dis _ _ q nt
  · obtain ⟨u, h1, h2, h3, h4⟩ := r.obj i o q qf
    have ne : w.φ i ≠ p := ne_of_none h1 hp
    refine ⟨u, s _ _ h1, h2, ?_, h4.mono (Wd.le_hold hdn).v fun dx qq => ⟨s _ _ qq, id, fun z => ?_⟩⟩
    · exact (upd_ne ne).trans h3
    · exact (upd_ne (ne_of_none qq hp)).trans z
  · obtain ⟨od, vs, h1, h2⟩ := r.lkd i kvs q
    exact ⟨od, vs, (upd_ne (ne_of_none h1 hdn)).trans h1, h2.mono (Wd.le_hold hdn).v⟩
/-- from a world behind: what was held at p is given up; p is not of the world ahead -/
structure Wd.Ahead (w0 w : Wd) (p : Addr) : Prop where
  k0 : Same w0.k0 w.k0
  hd : ∀ b u, w0.hd b = some u → b ≠ p ∧ w.hd b = some u
  n : w0.n ≤ w.n
  φ : ∀ i, i < w0.n → w.φ i = w0.φ i
theorem Rel.rehold {ho' : HO} {w0 : Wd} (r : Rel K w c H) (hp : w.hd p = some ho) (no : ∀ x, ho ≠ .own x) (no2 : ∀ x y, ho ≠ .frz x y) (nt : ∀ vs, ho ≠ .tup vs) (A : w0.Ahead w p) :
    Rel K (w.hold p ho') c (upd H p ho') ∧ w0.Le (w.hold p ho') ∧ w0.Ahead (w.hold p ho') p ∧ (w.hold p ho').hd p = some ho' := by
  have k0n := r.dis _ _ hp nt
  have lv : w.Lv (w.hold p ho') := ⟨Same.refl _, Nat.le_refl _, fun _ _ => rfl⟩
  refine ⟨⟨r.len, fun b u q => ?_, fun b u q => ?_, fun b u q nt2 => ?_, fun i o q qf => ?_, fun i kvs q => ?_, r.inj⟩, ⟨A.k0, fun b u q => ?_, A.n, A.φ⟩, ⟨A.k0, fun b u q => ?_, A.n, A.φ⟩, upd_same⟩
  · rw [upd_ne (ne_of_none q k0n)]; exact r.k0 _ _ q
  · by_cases hb : b = p
    · subst hb
      rw [show (w.hold b ho').hd b = some ho' from upd_same] at q
      rw [upd_same]; exact q
    · rw [show (w.hold p ho').hd b = w.hd b from upd_ne hb] at q
      rw [upd_ne hb]; exact r.hd _ _ q
  · by_cases hb : b = p
    · subst hb; exact k0n
    · rw [show (w.hold p ho').hd b = w.hd b from upd_ne hb] at q
      exact r.dis _ _ q nt2
  · obtain ⟨u, h1, h2, h3, h4⟩ := r.obj i o q qf
    have ne : w.φ i ≠ p := fun z => by rw [z, hp] at h3; cases h3
    refine ⟨u, (upd_ne ne).trans h1, h2, (upd_ne ne).trans h3, ?_⟩
    · have nd : ∀ dx, H dx = some (.own (w.φ i)) → dx ≠ p := fun dx qq z => by
        subst z
        have := r.hd _ _ hp
        rw [qq] at this
        exact no _ (Option.some.inj this).symm
      have hdx : ∀ dx, dx ≠ p → w.hd dx = none → (w.hold p ho').hd dx = none := fun dx ne z => by
        show upd w.hd p ho' dx = none
        rw [upd_ne ne]; exact z
      refine ObR.mono lv (fun dx qq => ⟨?_, id, hdx dx (nd dx qq)⟩) h4
      rw [upd_ne (nd dx qq)]; exact qq
  · obtain ⟨od, vs, h1, h2⟩ := r.lkd i kvs q
    have ne : w.φ i ≠ p := fun z => by rw [z, hp] at h1; exact no2 _ _ (Option.some.inj h1)
    exact ⟨od, vs, (upd_ne ne).trans h1, h2.mono lv⟩
  · obtain ⟨n1, n2⟩ := A.hd b u q
    show upd w.hd p ho' b = some u
    rw [upd_ne n1]; exact n2
  · obtain ⟨n1, n2⟩ := A.hd b u q
    refine ⟨n1, ?_⟩
    show upd w.hd p ho' b = some u
    rw [upd_ne n1]; exact n2
end
end Ev

set_option Elab.async false
set_option linter.all false
set_option maxRecDepth 100000
set_option maxHeartbeats 4000000
namespace Ev
open PySem PySem.Spec PyProof.Rows L2 Wf

/-! ## what an outcome stands for -/
structure Xx where
  x : WX
  s : Sx
def OR {α β : Type} (K : PySem.W.Frag) (R : Wd → α → β → Prop) (w : Wd) (Ex : Value → Option Addr → Hp → Prop) (Q : β → Hp → Prop) : Out α → Prop
  | .ok r c => ∀ w' H' v, w.Le w' → Rel K w' c H' → R w' r v → Q v H'
  | .exc x c => ∀ w' H' cls d, w.Le w' → Rel K w' c H' → XcR K w' x cls d → Ex cls d H'
  | .bad => False
section
variable {α β γ δ : Type} {K : PySem.W.Frag} {R : Wd → α → β → Prop} {S : Wd → γ → δ → Prop} {w w' : Wd} {Ex : Value → Option Addr → Hp → Prop} {Q Q' : β → Hp → Prop} {Q2 : δ → Hp → Prop} {o : Out α} {f : α → Conf → Out γ}
theorem OR.mono (l : w.Le w') (h : OR K R w Ex Q o) : OR K R w' Ex Q o := by
  cases o with
  | ok r c => exact fun w2 H' v l2 => h w2 H' v (l.trans l2)
  | exc x c => exact fun w2 H' cls d l2 => h w2 H' cls d (l.trans l2)
  | bad => exact h
theorem OR.imp (h : OR K R w Ex Q o) (i : ∀ v H, Q v H → Q' v H) : OR K R w Ex Q' o := by
  cases o with
  | ok r c => exact fun w2 H' v l2 a b => i _ _ (h w2 H' v l2 a b)
  | exc x c => exact h
  | bad => exact h
theorem OR.bind (h : OR K S w Ex Q2 (o.bind f)) : OR K R w Ex (fun v H => ∃ w' r c, w.Le w' ∧ Rel K w' c H ∧ R w' r v ∧ OR K S w' Ex Q2 (f r c)) o := by
  cases o with
  | ok r c => exact fun w2 H' v l2 a b => ⟨w2, r, c, l2, a, b, OR.mono l2 h⟩
  | exc x c => exact h
  | bad => exact h
theorem OR.ok {r : α} {c : Conf} {H : Hp} {v : β} (h : OR K R w Ex Q (.ok r c)) (l : w.Le w') (a : Rel K w' c H) (b : R w' r v) : Q v H := h w' H v l a b
end
abbrev Ee := Sl → Conf → Out W
abbrev Ea := Sl → Conf → Out (List W)
abbrev Eo := Sl → Conf → Out (Option Int)
def tE (K : PySem.W.Frag) (X : Xx) (e : Ee) : TE := fun σ H Q => ∃ w c ss, Rel K w c H ∧ SR K X.s w ss σ ∧ OR K (Vr K) w (fun cls d H' => X.x cls d σ H') Q (e ss c)
def tA (K : PySem.W.Frag) (X : Xx) (e : Ea) : TA := fun σ H Q => ∃ w c ss, Rel K w c H ∧ SR K X.s w ss σ ∧ OR K (VrL K) w (fun cls d H' => X.x cls d σ H') Q (e ss c)
def EqR {α : Type} (_ : Wd) (a b : α) : Prop := a = b
def tO (K : PySem.W.Frag) (X : Xx) (e : Eo) : TO := fun σ H Q => ∃ w c ss, Rel K w c H ∧ SR K X.s w ss σ ∧ OR K EqR w (fun cls d H' => X.x cls d σ H') Q (e ss c)
abbrev Et := Sl → Conf → Out Bool
def tT (K : PySem.W.Frag) (X : Xx) (e : Et) : TT := fun σ H Q => ∃ w c ss, Rel K w c H ∧ SR K X.s w ss σ ∧ OR K EqR w (fun cls d H' => X.x cls d σ H') Q (e ss c)
section
variable {X : Cx} {e : Expr} {s : Stmt} {ss : List Stmt} {es : List Expr}
theorem pm {t t' : TE} (h : ∀ σ H Q, t' σ H Q → t σ H Q) (p : PE X e t) : PE X e t' := ⟨fun a b c d Q I g => p.run a b c d Q I (h _ _ _ g)⟩
theorem pam {t t' : TA} (h : ∀ σ H Q, t' σ H Q → t σ H Q) (p : PA X es t) : PA X es t' := ⟨fun a b c d e Q I g => p.run a b c d e Q I (h _ _ _ g)⟩
theorem ptm {t t' : TT} (h : ∀ σ H Q, t' σ H Q → t σ H Q) (p : PT X e t) : PT X e t' := ⟨fun a b c d Q I g => p.run a b c d Q I (h _ _ _ g)⟩
theorem psm {t t' : TS} (h : ∀ D σ H, t' D σ H → t D σ H) (p : PS X s t) : PS X s t' := ⟨fun a b c d D I g => p.run a b c d D I (h _ _ _ g)⟩
theorem pssm {t t' : TS} (h : ∀ D σ H, t' D σ H → t D σ H) (p : PSs X ss t) : PSs X ss t' := ⟨fun a b c d D I g => p.run a b c d D I (h _ _ _ g)⟩
theorem pom {eo : Option Expr} {t t' : TO} (h : ∀ σ H Q, t' σ H Q → t σ H Q) (p : PO X eo t) : PO X eo t' := by
  refine ⟨fun a b c d Q I g => ?_⟩
  exact p.run a b c d Q I (h _ _ _ g)
end

/-! ## data -/
mutual
def eqD : W → W → Bool
  | .non, y => match y with | .non => true | _ => false
  | .bl a, y => match y with | .bl b => a == b | .int j => decide ((if a then (1 : Int) else 0) = j) | _ => false
  | .int i, y => match y with | .int j => decide (i = j) | .bl b => decide (i = (if b then (1 : Int) else 0)) | _ => false
  | .str s, y => match y with | .str t => decide (s = t) | _ => false
  | .tup xs, y => match y with | .tup ys => eqDL xs ys | .wtp ys => eqDL xs ys | _ => false
  | .wtp xs, y => match y with | .tup ys => eqDL xs ys | .wtp ys => eqDL xs ys | _ => false
  | .lst xs, y => match y with | .lst ys => eqDL xs ys | .wls ys => eqDL xs ys | _ => false
  | .wls xs, y => match y with | .lst ys => eqDL xs ys | .wls ys => eqDL xs ys | _ => false
  | .ty _, _ => false
  | .ref _, _ => false
  | .glo _, _ => false
  | .exn _ _, _ => false
  | .exb _, _ => false
def eqDL : List W → List W → Bool
  | [], ys => match ys with | [] => true | _ => false
  | x :: xs, ys => match ys with | y :: ys => eqD x y && eqDL xs ys | [] => false
end
mutual
/-- plain data, not deeper than n -/
def dataW : Nat → W → Bool
  | _, .non => true
  | _, .bl _ => true
  | _, .int _ => true
  | _, .str s => s.all fun c => decide (c < 0x110000)
  | n, .wtp xs => (match n with | 0 => false | n + 1 => dataL n xs)
  | n, .tup xs => (match n with | 0 => false | n + 1 => dataL n xs)
  | n, .lst xs => (match n with | 0 => false | n + 1 => dataL n xs)
  | n, .wls xs => (match n with | 0 => false | n + 1 => dataL n xs)
  | _, _ => false
def dataL : Nat → List W → Bool
  | _, [] => true
  | n, x :: xs => dataW n x && dataL n xs
end
mutual
def toD : W → PyData
  | .non => .none
  | .bl b => .bool b
  | .int i => .int i
  | .str s => .str (mk s)
  | .tup xs => .tuple (toDL xs)
  | .wtp xs => .tuple (toDL xs)
  | .lst xs => .list (toDL xs)
  | .wls xs => .list (toDL xs)
  | _ => .none
def toDL : List W → List PyData
  | [] => []
  | x :: xs => toD x :: toDL xs
end
theorem mk_eq (a b : List Nat) : (mk a == mk b) = decide (a = b) := by
  by_cases h : a = b
  · subst h; simp
  · rw [decide_eq_false h, beq_eq_false_iff_ne]
    exact fun q => h (mk_inj q)
mutual
theorem eqv_eqD : ∀ (n m : Nat) (x y : W), dataW n x = true → dataW m y = true → PyData.eqv (toD x) (toD y) = eqD x y
  | n, m, .non, y, _, hy => by cases y <;> first | rfl | (simp [dataW] at hy)
  | n, m, .bl a, y, _, hy => by cases y <;> first | rfl | (simp [dataW] at hy) | (simp only [toD, PyData.eqv, eqD]; rfl)
  | n, m, .int a, y, _, hy => by cases y <;> first | rfl | (simp [dataW] at hy) | (simp only [toD, PyData.eqv, eqD]; rfl)
  | n, m, .str a, y, _, hy => by cases y <;> first | (simp only [toD, PyData.eqv, eqD]; exact mk_eq _ _) | rfl | (simp [dataW] at hy)
  | 0, m, .tup xs, y, hx, _ => by simp [dataW] at hx
  | 0, m, .wtp xs, y, hx, _ => by simp [dataW] at hx
  | 0, m, .lst xs, y, hx, _ => by simp [dataW] at hx
  | 0, m, .wls xs, y, hx, _ => by simp [dataW] at hx
  | n + 1, m, .tup xs, y, hx, hy => by
    cases y <;> first | rfl | (simp [dataW] at hy; done) | skip
    all_goals
      cases m with
      | zero => simp [dataW] at hy
      | succ m => exact eqv_eqDL n m xs _ hx hy
  | n + 1, m, .wtp xs, y, hx, hy => by
    cases y <;> first | rfl | (simp [dataW] at hy; done) | skip
    all_goals
      cases m with
      | zero => simp [dataW] at hy
      | succ m => exact eqv_eqDL n m xs _ hx hy
  | n + 1, m, .lst xs, y, hx, hy => by
    cases y <;> first | rfl | (simp [dataW] at hy; done) | skip
    all_goals
      cases m with
      | zero => simp [dataW] at hy
      | succ m => exact eqv_eqDL n m xs _ hx hy
  | n + 1, m, .wls xs, y, hx, hy => by
    cases y <;> first | rfl | (simp [dataW] at hy; done) | skip
    all_goals
      cases m with
      | zero => simp [dataW] at hy
      | succ m => exact eqv_eqDL n m xs _ hx hy
  | _, _, .ty _, _, hx, _ => by simp [dataW] at hx
  | _, _, .ref _, _, hx, _ => by simp [dataW] at hx
  | _, _, .glo _, _, hx, _ => by simp [dataW] at hx
  | _, _, .exn _ _, _, hx, _ => by simp [dataW] at hx
  | _, _, .exb _, _, hx, _ => by simp [dataW] at hx
theorem eqv_eqDL : ∀ (n m : Nat) (xs ys : List W), dataL n xs = true → dataL m ys = true → PyData.eqvAll (toDL xs) (toDL ys) = eqDL xs ys
  | n, m, [], ys, _, _ => by cases ys <;> rfl
  | n, m, x :: xs, [], _, _ => rfl
  | n, m, x :: xs, y :: ys, hx, hy => by
    simp only [dataL, Bool.and_eq_true] at hx hy
    show (PyData.eqv (toD x) (toD y) && PyData.eqvAll (toDL xs) (toDL ys)) = (eqD x y && eqDL xs ys)
    rw [eqv_eqD n m x y hx.1 hy.1, eqv_eqDL n m xs ys hx.2 hy.2]
end
mutual
theorem dp_of {K : PySem.W.Frag} {w : Wd} : ∀ (n : Nat) (x : W) (v : V), dataW n x = true → Vr K w x v → Dp K w.k0 v (toD x)
  | _, .non, _, _, h => by cases (show _ = _ from h); exact .non
  | _, .bl b, _, _, h => by cases (show _ = _ from h); exact .bl b
  | _, .int b, _, _, h => by cases (show _ = _ from h); exact .int b
  | _, .str b, _, _, h => by cases (show _ = _ from h); exact .str _
  | 0, .tup xs, _, hx, _ => by simp [dataW] at hx
  | 0, .wtp xs, _, hx, _ => by simp [dataW] at hx
  | 0, .lst xs, _, hx, _ => by simp [dataW] at hx
  | 0, .wls xs, _, hx, _ => by simp [dataW] at hx
  | n + 1, .tup xs, _, hx, ⟨a, vs, e, s, r⟩ => by subst e; exact .tup (SqT.of s) (dp_all n xs vs hx r)
  | n + 1, .wtp xs, _, hx, ⟨a, vs, e, s, r⟩ => by subst e; exact .tup s (dp_all n xs vs hx r)
  | n + 1, .lst xs, _, hx, ⟨a, vs, e, s, r⟩ => by subst e; exact .lst (SqL.of s) (dp_all n xs vs hx r)
  | n + 1, .wls xs, _, hx, ⟨a, vs, e, s, r⟩ => by subst e; exact .lst s (dp_all n xs vs hx r)
  | _, .ty _, _, hx, _ => by simp [dataW] at hx
  | _, .ref _, _, hx, _ => by simp [dataW] at hx
  | _, .glo _, _, hx, _ => by simp [dataW] at hx
  | _, .exn _ _, _, hx, _ => by simp [dataW] at hx
  | _, .exb _, _, hx, _ => by simp [dataW] at hx
theorem dp_all {K : PySem.W.Frag} {w : Wd} : ∀ (n : Nat) (xs : List W) (vs : List V), dataL n xs = true → VrL K w xs vs → DpAll K w.k0 vs (toDL xs)
  | _, [], _, _, h => by cases (show _ = [] from h); exact .nil
  | n, x :: xs, _, hx, ⟨v, r, e, h1, h2⟩ => by
    subst e
    simp only [dataL, Bool.and_eq_true] at hx
    exact .cons (dp_of n x v hx.1 h1) (dp_all n xs r hx.2 h2)
end
mutual
theorem lay_of : ∀ (n : Nat) (x : W), dataW n x = true → (toD x).canLay0 = true ∧ (toD x).depth ≤ n
  | _, .non, _ => ⟨by simp [toD, PyData.canLay0], by simp [toD, PyData.depth]⟩
  | _, .bl b, _ => ⟨by simp [toD, PyData.canLay0], by simp [toD, PyData.depth]⟩
  | _, .int b, _ => ⟨by simp [toD, PyData.canLay0], by simp [toD, PyData.depth]⟩
  | _, .str b, h => ⟨by simpa [toD, PyData.canLay0, PyData.strOk, mk, dataW] using h, by simp [toD, PyData.depth]⟩
  | 0, .tup xs, hx => by simp [dataW] at hx
  | 0, .wtp xs, hx => by simp [dataW] at hx
  | 0, .lst xs, hx => by simp [dataW] at hx
  | 0, .wls xs, hx => by simp [dataW] at hx
  | n + 1, .tup xs, hx => by
    obtain ⟨a, b⟩ := lay_all n xs hx
    exact ⟨by simpa [toD, PyData.canLay0] using a, by simp only [toD, PyData.depth]; omega⟩
  | n + 1, .wtp xs, hx => by
    obtain ⟨a, b⟩ := lay_all n xs hx
    exact ⟨by simpa [toD, PyData.canLay0] using a, by simp only [toD, PyData.depth]; omega⟩
  | n + 1, .lst xs, hx => by
    obtain ⟨a, b⟩ := lay_all n xs hx
    exact ⟨by simpa [toD, PyData.canLay0] using a, by simp only [toD, PyData.depth]; omega⟩
  | n + 1, .wls xs, hx => by
    obtain ⟨a, b⟩ := lay_all n xs hx
    exact ⟨by simpa [toD, PyData.canLay0] using a, by simp only [toD, PyData.depth]; omega⟩
  | _, .ty _, hx => by simp [dataW] at hx
  | _, .ref _, hx => by simp [dataW] at hx
  | _, .glo _, hx => by simp [dataW] at hx
  | _, .exn _ _, hx => by simp [dataW] at hx
  | _, .exb _, hx => by simp [dataW] at hx
theorem lay_all : ∀ (n : Nat) (xs : List W), dataL n xs = true → PyData.canLayAll0 (toDL xs) = true ∧ PyData.depthAll (toDL xs) ≤ n
  | _, [], _ => ⟨by simp [toDL, PyData.canLayAll0], by simp [toDL, PyData.depthAll]⟩
  | n, x :: xs, hx => by
    simp only [dataL, Bool.and_eq_true] at hx
    obtain ⟨a, b⟩ := lay_of n x hx.1
    obtain ⟨c, d⟩ := lay_all n xs hx.2
    refine ⟨by simp only [toDL, PyData.canLayAll0, a, c, Bool.and_self], ?_⟩
    simp only [toDL, PyData.depthAll]
    omega
end
theorem shaped_of {x : W} (h : dataW 60 x = true) : SeqAt.shaped (toD x) = true := by
  obtain ⟨a, b⟩ := lay_of 60 x h
  unfold SeqAt.shaped
  rw [a, Bool.true_and, decide_eq_true (by omega)]

/-! ## lists as they stand -/
def rdL (c : Conf) : W → Option (List W)
  | .lst xs => some xs
  | .wls xs => some xs
  | .ref i => (match c[i]? with | some (.lst xs) => some xs | _ => none)
  | _ => none
/-- a tuple's items -/
def rdT : W → Option (List W)
  | .tup xs => some xs
  | .wtp xs => some xs
  | _ => none
def rdD (c : Conf) (x : W) : W := match x with
  | .ref i => (match c[i]? with | some (.lst xs) => .wls xs | _ => x)
  | _ => x
section
variable {K : PySem.W.Frag} {w : Wd} {c : Conf} {H : Hp} {x y : W} {v : V} {xs : List W}
theorem rdL_ok (r : Rel K w c H) (h : Vr K w x v) (e : rdL c x = some xs) : ∃ a vs, v = .ref a ∧ SqL K H a vs ∧ VrL K w xs vs := by
  cases x with
  | lst ys => cases e; obtain ⟨a, vs, e, s, q⟩ := h; exact ⟨a, vs, e, SqL.of (r.k0 _ _ s), q⟩
  | wls ys => cases e; obtain ⟨a, vs, e, s, q⟩ := h; exact ⟨a, vs, e, sqL_mono r.k0 s, q⟩
  | ref i =>
    simp only [rdL] at e
    split at e
    · rename_i ys hc
      cases e
      obtain ⟨ho, h1, _, _, vs, e2, h4⟩ := r.obj i _ hc rfl
      subst e2
      exact ⟨_, vs, h.2, SqL.of h1, h4⟩
    · cases e
  | _ => cases e
theorem rdT_ok (r : Rel K w c H) (h : Vr K w x v) (e : rdT x = some xs) : ∃ a vs, v = .ref a ∧ SqT K H a vs ∧ VrL K w xs vs := by
  cases x with
  | tup ys => cases e; obtain ⟨a, vs, e, s, q⟩ := h; exact ⟨a, vs, e, SqT.of (r.k0 _ _ s), q⟩
  | wtp ys => cases e; obtain ⟨a, vs, e, s, q⟩ := h; exact ⟨a, vs, e, sqT_mono r.k0 s, q⟩
  | _ => cases e
theorem rdD_ok (r : Rel K w c H) (h : Vr K w x v) (e : dataW 60 (rdD c x) = true) : Dp K H v (toD (rdD c x)) ∧ SeqAt.shaped (toD (rdD c x)) = true := by
  refine ⟨?_, shaped_of e⟩
  unfold rdD at e ⊢
  split at e
  · rename_i i
    split at e
    · rename_i ys hc
      obtain ⟨ho, h1, _, _, vs, e2, h4⟩ := r.obj i _ hc rfl
      subst e2
      obtain ⟨_, e3⟩ := h
      subst e3
      exact .lst (SqL.of h1) (dpAll_mono r.k0 (dp_all 59 ys vs e h4))
    · simp [dataW] at e
  · exact dp_mono r.k0 (dp_of _ _ _ e h)
end
/-! ## operators -/
def OpS (K : PySem.W.Frag) (r : R2) (f : W → W → Conf → Out W) : Prop := ∀ w c H x y vx vy Ex Q, Rel K w c H → Vr K w x vx → Vr K w y vy → OR K (Vr K) w Ex Q (f x y c) → r vx vy H Q
def eBin (f : W → W → Conf → Out W) (ea eb : Ee) : Ee := fun ss c => (ea ss c).bind fun x c1 => (eb ss c1).bind fun y c2 => f x y c2
def UnS (K : PySem.W.Frag) (r : V → Hp → VK → Prop) (f : W → Conf → Out W) : Prop := ∀ w c H x vx Ex Q, Rel K w c H → Vr K w x vx → OR K (Vr K) w Ex Q (f x c) → r vx H Q
def eUn (f : W → Conf → Out W) (ea : Ee) : Ee := fun ss c => (ea ss c).bind f
section
variable {K : PySem.W.Frag} {X : Xx} {σ : L2.St} {H : Hp} {Q : VK} {r : R2} {f : W → W → Conf → Out W} {ea eb : Ee}
theorem le_op (s : OpS K r f) (σ : L2.St) (H : Hp) (Q : VK) (h : tE K X (eBin f ea eb) σ H Q) : tOp r (tE K X ea) (tE K X eb) σ H Q := by
  obtain ⟨w, c, ss, rel, sr, h⟩ := h
  refine ⟨w, c, ss, rel, sr, (OR.bind (R := Vr K) h).imp ?_⟩
  rintro v1 H1 ⟨w1, x, c1, l1, rel1, r1, h1⟩
  refine ⟨w1, c1, ss, rel1, sr.mono l1.v, (OR.bind (R := Vr K) h1).imp ?_⟩
  rintro v2 H2 ⟨w2, y, c2, l2, rel2, r2, h2⟩
  exact s w2 c2 H2 x y v1 v2 _ Q rel2 (r1.mono l2.v) r2 h2
theorem le_un {r : V → Hp → VK → Prop} {f : W → Conf → Out W} (s : UnS K r f) (σ : L2.St) (H : Hp) (Q : VK) (h : tE K X (eUn f ea) σ H Q) : tUn r (tE K X ea) σ H Q := by
  obtain ⟨w, c, ss, rel, sr, h⟩ := h
  refine ⟨w, c, ss, rel, sr, (OR.bind (R := Vr K) h).imp ?_⟩
  rintro v1 H1 ⟨w1, x, c1, l1, rel1, r1, h1⟩
  exact s w1 c1 H1 x v1 _ Q rel1 r1 h1
end
def okI (i : Int) (c : Conf) : Out W := .ok (.int i) c
def oSub : W → W → Conf → Out W := fun x y c => match x, y with | .int i, .int j => .ok (.int (i - j)) c | _, _ => .bad
def oLt : W → W → Conf → Out W := fun x y c => match x, y with | .int i, .int j => .ok (.bl (decide (i < j))) c | _, _ => .bad
def oLe : W → W → Conf → Out W := fun x y c => match x, y with | .int i, .int j => .ok (.bl (decide (i ≤ j))) c | _, _ => .bad
def oGt : W → W → Conf → Out W := fun x y c => match x, y with | .int i, .int j => .ok (.bl (decide (j < i))) c | _, _ => .bad
def oGe : W → W → Conf → Out W := fun x y c => match x, y with | .int i, .int j => .ok (.bl (decide (j ≤ i))) c | _, _ => .bad
def oDiv : W → W → Conf → Out W := fun x y c => match x, y with | .int i, .int j => if 0 < j ∧ j < 1073741824 then .ok (.int (i / j)) c else .bad | _, _ => .bad
def oMod : W → W → Conf → Out W := fun x y c => match x, y with | .int i, .int j => if 0 < j then .ok (.int (i % j)) c else .bad | _, _ => .bad
def oPow : W → W → Conf → Out W := fun x y c => match x, y with | .int i, .int j => if 0 ≤ j ∧ j ≤ 1000000 ∧ i.natAbs < 2 ^ 64 then .ok (.int (i ^ j.toNat)) c else .bad | _, _ => .bad
def oNeg : W → Conf → Out W := fun x c => match x with | .int i => .ok (.int (-i)) c | _ => .bad
def repL (xs : List W) : Nat → List W
  | 0 => []
  | n + 1 => xs ++ repL xs n
def repN (xs : List Nat) : Nat → List Nat
  | 0 => []
  | n + 1 => xs ++ repN xs n
def oMul : W → W → Conf → Out W := fun x y c => match x, y with
  | .int i, .int j => if (-(2 ^ 64) < i ∧ i < 2 ^ 64) ∨ (-(2 ^ 64) < j ∧ j < 2 ^ 64) then .ok (.int (i * j)) c else .bad
  | .str s, .int k => if (1 ≤ k ∧ k ≤ 1000) ∧ 0 < s.length ∧ s.length ≤ 1000 then .ok (.str (repN s k.toNat)) c else .bad
  | .lst xs, .int k => if 0 ≤ k ∧ k ≤ 1000 ∧ xs.length ≤ 1000 then .ok (.lst (repL xs k.toNat)) c else .bad
  | _, _ => .bad
/-- a list of the heap's -/
def rdH (c : Conf) : W → Option (List W)
  | .lst xs => some xs
  | .ref i => (match c[i]? with | some (.lst xs) => some xs | _ => none)
  | _ => none
def oAdd : W → W → Conf → Out W := fun x y c => match x, y with
  | .int i, .int j => .ok (.int (i + j)) c
  | .str a, .str b => if a.length + b.length ≤ 1000000 then .ok (.str (a ++ b)) c else .bad
  | .tup a, .tup b => if a.length + b.length ≤ 1000000 ∧ a ≠ [] then .ok (.tup (a ++ b)) c else .bad
  | x, y => (match rdH c x, rdH c y with
    | some a, some b => if a.length + b.length ≤ 1000000 then .ok (.lst (a ++ b)) c else .bad
    | _, _ => .bad)
/-- .. a list that may change -/
def oAddO : W → W → Conf → Out W := fun x y c => match rdH c x, rdH c y with
  | some a, some b => if a.length + b.length ≤ 1000000 then .ok (.ref c.length) (c ++ [.lst (a ++ b)]) else .bad
  | _, _ => .bad
end Ev

set_option Elab.async false
set_option linter.all false
set_option maxRecDepth 100000
set_option maxHeartbeats 4000000
namespace Ev
open PySem PySem.Spec PyProof.Rows L2 Wf
section
variable {K : PySem.W.Frag}
theorem mk_app (a b : List Nat) : mk a ++ mk b = mk (a ++ b) := by
  show (⟨a.toArray ++ b.toArray⟩ : Str) = ⟨(a ++ b).toArray⟩
  rw [List.append_toArray]
theorem mk_len (a : List Nat) : (mk a).length = a.length := by
  show a.toArray.size = a.length
  simp
theorem s_sub : OpS K fSub oSub := by
  intro w c H x y vx vy Ex Q rel rx ry h
  cases x <;> cases y <;> first | exact h.elim | skip
  cases (show _ = _ from rx); cases (show _ = _ from ry)
  exact h.ok (Wd.Le.refl w) rel rfl
theorem s_lt : OpS K fLt oLt := by
  intro w c H x y vx vy Ex Q rel rx ry h
  cases x <;> cases y <;> first | exact h.elim | skip
  cases (show _ = _ from rx); cases (show _ = _ from ry)
  exact h.ok (Wd.Le.refl w) rel rfl
theorem s_le : OpS K fLe oLe := by
  intro w c H x y vx vy Ex Q rel rx ry h
  cases x <;> cases y <;> first | exact h.elim | skip
  cases (show _ = _ from rx); cases (show _ = _ from ry)
  exact h.ok (Wd.Le.refl w) rel rfl
theorem s_gt : OpS K fGt oGt := by
  intro w c H x y vx vy Ex Q rel rx ry h
  cases x <;> cases y <;> first | exact h.elim | skip
  cases (show _ = _ from rx); cases (show _ = _ from ry)
  exact h.ok (Wd.Le.refl w) rel rfl
theorem s_ge : OpS K fGe oGe := by
  intro w c H x y vx vy Ex Q rel rx ry h
  cases x <;> cases y <;> first | exact h.elim | skip
  cases (show _ = _ from rx); cases (show _ = _ from ry)
  exact h.ok (Wd.Le.refl w) rel rfl
theorem ite_ok {p : Prop} [Decidable p] {α β : Type} {R : Wd → α → β → Prop} {w : Wd} {Ex : Value → Option Addr → Hp → Prop} {Q : β → Hp → Prop} {o : Out α} (h : OR K R w Ex Q (if p then o else .bad)) : p ∧ OR K R w Ex Q o := by
  by_cases hp : p
  · rw [if_pos hp] at h; exact ⟨hp, h⟩
  · rw [if_neg hp] at h; exact h.elim
theorem s_div : OpS K fDiv oDiv := by
  intro w c H x y vx vy Ex Q rel rx ry h
  cases x <;> cases y <;> first | exact h.elim | skip
  cases (show _ = _ from rx); cases (show _ = _ from ry)
  obtain ⟨hp, h⟩ := ite_ok h
  exact z_divI hp (h.ok (Wd.Le.refl w) rel rfl)
theorem s_mod : OpS K fMod oMod := by
  intro w c H x y vx vy Ex Q rel rx ry h
  cases x <;> cases y <;> first | exact h.elim | skip
  cases (show _ = _ from rx); cases (show _ = _ from ry)
  obtain ⟨hp, h⟩ := ite_ok h
  exact z_modI hp (h.ok (Wd.Le.refl w) rel rfl)
theorem s_pow : OpS K fPow oPow := by
  intro w c H x y vx vy Ex Q rel rx ry h
  cases x <;> cases y <;> first | exact h.elim | skip
  cases (show _ = _ from rx); cases (show _ = _ from ry)
  obtain ⟨hp, h⟩ := ite_ok h
  exact z_powI hp (h.ok (Wd.Le.refl w) rel rfl)
theorem s_neg : UnS K (rU fun i => V.int (-i)) oNeg := by
  intro w c H x vx Ex Q rel rx h
  cases x <;> first | exact h.elim | skip
  cases (show _ = _ from rx)
  exact ⟨_, rfl, h.ok (Wd.Le.refl w) rel rfl⟩
theorem repS_mk (s : List Nat) : ∀ n : Nat, ∀ i : List Nat, (List.replicate n s.toArray).foldl (· ++ ·) i.toArray = (i ++ repN s n).toArray
  | 0, i => by simp [repN]
  | n + 1, i => by
    rw [List.replicate_succ, List.foldl_cons, List.append_toArray, repS_mk s n]
    simp [repN]
theorem repL_eq (xs : List V) (n : Nat) : (List.replicate n xs).flatten.length = n * xs.length := by
  rw [List.length_flatten, List.map_replicate, List.sum_replicate_nat]
theorem VrL.rep {w : Wd} {xs : List W} {vs : List V} (h : VrL K w xs vs) : ∀ n : Nat, VrL K w (repL xs n) (List.replicate n vs).flatten
  | 0 => rfl
  | n + 1 => by rw [List.replicate_succ, List.flatten_cons]; exact h.app (VrL.rep h n)
/-- a new list or tuple that stays -/
theorem new_lst {w : Wd} {c : Conf} {H : Hp} {xs : List W} {vs : List V} {Ex : Value → Option Addr → Hp → Prop} {Q : VK} (rel : Rel K w c H) (r : VrL K w xs vs) (h : OR K (Vr K) w Ex Q (.ok (.lst xs) c)) (l : Addr) (hl : H l = none) : Q (.ref l) (upd H l (.lst vs)) := by
  obtain ⟨le, rel'⟩ := rel.frz1 hl (.lst vs)
  exact h.ok le rel' ⟨l, vs, rfl, upd_same, r.mono le.v⟩
theorem new_tup {w : Wd} {c : Conf} {H : Hp} {xs : List W} {vs : List V} {Ex : Value → Option Addr → Hp → Prop} {Q : VK} (rel : Rel K w c H) (r : VrL K w xs vs) (h : OR K (Vr K) w Ex Q (.ok (.tup xs) c)) (l : Addr) (hl : H l = none) : Q (.ref l) (upd H l (.tup vs)) := by
  obtain ⟨le, rel'⟩ := rel.frz1 hl (.tup vs)
  exact h.ok le rel' ⟨l, vs, rfl, upd_same, r.mono le.v⟩
theorem s_mul : OpS K (fMul2 K) oMul := by
  intro w c H x y vx vy Ex Q rel rx ry h
  cases x <;> cases y <;> first | exact h.elim | skip
  · cases (show _ = _ from rx); cases (show _ = _ from ry)
    obtain ⟨hp, h⟩ := ite_ok h
    exact z_mulI hp (h.ok (Wd.Le.refl w) rel rfl)
  · cases (show _ = _ from rx); cases (show _ = _ from ry)
    obtain ⟨⟨h1, h2, h3⟩, h⟩ := ite_ok h
    refine z_mulS h1 (by rw [mk_len]; exact ⟨h2, h3⟩) (h.ok (Wd.Le.refl w) rel ?_)
    show V.str _ = V.str _
    congr 1
    unfold repS mk
    congr 1
    have := repS_mk ‹List Nat› (Int.toNat ‹Int›) []
    simpa using this
  · obtain ⟨a, vs, e, s, r⟩ := rx
    subst e
    cases (show _ = _ from ry)
    obtain ⟨⟨h1, h2, h3⟩, h⟩ := ite_ok h
    have hl := r.length
    show zMulR a _ H Q
    unfold zMulR
    refine ⟨a, _, vs, rfl, rfl, rel.k0 _ _ s, by omega, by omega, ?_, fun l hl' => new_lst rel (r.rep _) h l hl'⟩
    rw [hl]
    have b2 : (‹List W›).length * (Int.toNat ‹Int›) ≤ 1000 * 1000 := Nat.mul_le_mul h3 (by omega)
    exact len_le b2
theorem rdH_ok {w : Wd} {c : Conf} {H : Hp} {x : W} {v : V} {xs : List W} (r : Rel K w c H) (h : Vr K w x v) (e : rdH c x = some xs) : ∃ a vs, v = .ref a ∧ H a = some (.lst vs) ∧ VrL K w xs vs := by
  cases x with
  | lst ys => cases e; obtain ⟨a, vs, e, s, q⟩ := h; exact ⟨a, vs, e, r.k0 _ _ s, q⟩
  | ref i =>
    simp only [rdH] at e
    split at e
    · rename_i ys hc
      cases e
      obtain ⟨ho, h1, _, _, vs, e2, h4⟩ := r.obj i _ hc rfl
      subst e2
      exact ⟨_, vs, h.2, h1, h4⟩
    · cases e
  | _ => cases e
theorem s_add : OpS K (fAdd K) oAdd := by
  intro w c H x y vx vy Ex Q rel rx ry h
  unfold oAdd at h
  split at h
  · cases (show _ = _ from rx); cases (show _ = _ from ry)
    exact h.ok (Wd.Le.refl w) rel rfl
  · cases (show _ = _ from rx); cases (show _ = _ from ry)
    obtain ⟨hp, h⟩ := ite_ok h
    refine z_addS (by rw [mk_len, mk_len]; exact hp) (h.ok (Wd.Le.refl w) rel ?_)
    show V.str _ = V.str _
    rw [mk_app]
  · obtain ⟨a, vs, e, s, r⟩ := rx
    obtain ⟨b, us, e2, s2, r2⟩ := ry
    subst e e2
    obtain ⟨⟨hp, hne⟩, h⟩ := ite_ok h
    show zAddR K a b H Q
    unfold zAddR
    refine .inr ⟨a, b, vs, us, rfl, rfl, SqT.of (rel.k0 _ _ s), SqT.of (rel.k0 _ _ s2), fun z => hne ?_, by rw [r.length, r2.length]; exact len_le hp, fun z => ?_, fun _ l hl => new_tup rel (r.app r2) h l hl⟩
    · subst z; have := r.length; exact List.length_eq_zero_iff.mp (by simpa using this.symm)
    · subst z
      refine h.ok (Wd.Le.refl w) rel ⟨a, vs, rfl, s, ?_⟩
      have := r2.length
      have e3 := List.length_eq_zero_iff.mp (by simpa using this.symm)
      rw [e3, List.append_nil]; exact r
  · split at h
    · rename_i xs ys hx hy
      obtain ⟨hp, h⟩ := ite_ok h
      obtain ⟨a, vs, e1, s, r⟩ := rdH_ok rel rx hx
      obtain ⟨b, us, e2, s2, r2⟩ := rdH_ok rel ry hy
      subst e1 e2
      show zAddR K a b H Q
      unfold zAddR
      exact .inl ⟨a, b, vs, us, rfl, rfl, s, s2, by rw [r.length, r2.length]; exact len_le hp, fun l hl => new_lst rel (r.app r2) h l hl⟩
    · exact h.elim
end
/-! ## ==, in, items, slices -/
def isSc : W → Bool
  | .non => true | .bl _ => true | .int _ => true | .str _ => true | _ => false
def eqC (c : Conf) (x y : W) : Option Bool := if (dataW 60 (rdD c x) && dataW 60 (rdD c y)) = true then some (eqD (rdD c x) (rdD c y)) else none
def blO (o : Option Bool) (c : Conf) : Out W := match o with | some b => .ok (.bl b) c | none => .bad
def oEq : W → W → Conf → Out W := fun x y c => blO (eqC c x y) c
def oNe : W → W → Conf → Out W := fun x y c => blO ((eqC c x y).map (!·)) c
section
variable {K : PySem.W.Frag}
theorem eqC_ok {w : Wd} {c : Conf} {H : Hp} {x y : W} {vx vy : V} {b : Bool} (rel : Rel K w c H) (rx : Vr K w x vx) (ry : Vr K w y vy) (e : eqC c x y = some b) :
    ∃ d d', Dp K H vx d ∧ Dp K H vy d' ∧ SeqAt.shaped d = true ∧ SeqAt.shaped d' = true ∧ PyData.eqv d d' = b := by
  unfold eqC at e
  split at e
  · rename_i h
    rw [Bool.and_eq_true] at h
    cases e
    obtain ⟨a1, a2⟩ := rdD_ok rel rx h.1
    obtain ⟨b1, b2⟩ := rdD_ok rel ry h.2
    exact ⟨_, _, a1, b1, a2, b2, eqv_eqD _ _ _ _ h.1 h.2⟩
  · cases e
theorem blO_ok {α : Type} {w : Wd} {Ex : Value → Option Addr → Hp → Prop} {Q : VK} {o : Option Bool} {c : Conf} (h : OR K (Vr K) w Ex Q (blO o c)) : ∃ b, o = some b ∧ OR K (Vr K) w Ex Q (.ok (.bl b) c) := by
  cases o with
  | none => exact h.elim
  | some b => exact ⟨b, rfl, h⟩
theorem s_eq : OpS K (kEq K) oEq := by
  intro w c H x y vx vy Ex Q rel rx ry h
  obtain ⟨b, e, h⟩ := blO_ok (α := Unit) h
  obtain ⟨d, d', h1, h2, h3, h4, h5⟩ := eqC_ok rel rx ry e
  exact .inr ⟨d, d', h1, h2, h3, h4, by rw [h5]; exact h.ok (Wd.Le.refl w) rel rfl⟩
theorem s_ne : OpS K (kNe K) oNe := by
  intro w c H x y vx vy Ex Q rel rx ry h
  obtain ⟨b, e, h⟩ := blO_ok (α := Unit) h
  obtain ⟨b', e', e2⟩ := Option.map_eq_some_iff.mp e
  subst e2
  obtain ⟨d, d', h1, h2, h3, h4, h5⟩ := eqC_ok rel rx ry e'
  exact .inr ⟨d, d', h1, h2, h3, h4, by rw [h5]; exact h.ok (Wd.Le.refl w) rel rfl⟩
end
end Ev

set_option Elab.async false
set_option linter.all false
set_option maxRecDepth 100000
set_option maxHeartbeats 4000000
namespace Ev
open PySem PySem.Spec PyProof.Rows L2 Wf TL
/-! ## in -/
def anyD (x : W) : List W → Bool
  | [] => false
  | y :: ys => eqD y x || anyD x ys
def flatW : W → Bool
  | .non => true | .bl _ => true | .int _ => true | .str _ => true | _ => false
def lkK (c : Conf) (i : Nat) (x : W) : Option (Option W) := match c[i]? with
  | some (.dic kvs) => (match x with
    | .str s => some (kvs.lookup (.s s))
    | .int n => some (kvs.lookup (.i n))
    | _ => none)
  | some (.dit kvs) => none
  | _ => none
def inC (c : Conf) (x y : W) : Option Bool := match y with
  | .str t => (match x with | .str [n] => some (decide (n ∈ t)) | _ => none)
  | y => (match rdL c y with
    | some ys => if dataW 60 (rdD c x) = true ∧ dataW 60 (.wls ys) = true then some (anyD (rdD c x) ys) else none
    | none => (match rdT y with
      | some ys => if flatW x = true ∧ ys.all flatW = true then some (anyD x ys) else none
      | none => none))
def oIn : W → W → Conf → Out W := fun x y c => blO (inC c x y) c
def oNotIn : W → W → Conf → Out W := fun x y c => blO ((inC c x y).map (!·)) c
section
variable {K : PySem.W.Frag} {w : Wd} {c : Conf} {H : Hp} {x y : W} {vx vy : V}
theorem any_toD {d : W} {n m : Nat} (hd : dataW n d = true) : ∀ {ys : List W}, dataL m ys = true → ((toDL ys).any fun z => PyData.eqv z (toD d)) = anyD d ys
  | [], _ => rfl
  | y :: ys, h => by
    simp only [dataL, Bool.and_eq_true] at h
    show (PyData.eqv (toD y) (toD d) || (toDL ys).any _) = (eqD y d || anyD d ys)
    rw [eqv_eqD _ _ _ _ h.1 hd, any_toD hd h.2]
theorem flat_ok (h : Vr K w x vx) (e : flatW x = true) : flatV vx = true := by
  cases x <;> first | (cases (show _ = _ from h); rfl) | cases e
theorem eqV_ok (h : Vr K w x vx) (e : flatW x = true) (g : Vr K w y vy) (e' : flatW y = true) : eqV vx vy = eqD x y := by
  cases x <;> first | (cases (show _ = _ from h)) | (exact absurd e Bool.false_ne_true)
  all_goals (cases y <;> first | (cases (show _ = _ from g)) | (exact absurd e' Bool.false_ne_true))
  all_goals first | rfl | (exact mk_eq _ _) | (exact absurd e Bool.false_ne_true) | (exact absurd e' Bool.false_ne_true)
theorem flats_ok : ∀ {ys : List W} {vs : List V}, VrL K w ys vs → ys.all flatW = true → vs.all flatV = true
  | [], _, h, _ => by cases (show _ = [] from h); rfl
  | y :: ys, _, ⟨v, r, e, h1, h2⟩, g => by
    subst e
    rw [List.all_cons, Bool.and_eq_true] at g
    rw [List.all_cons, flat_ok h1 g.1, flats_ok h2 g.2]; rfl
theorem inV_ok (h : Vr K w x vx) (e : flatW x = true) : ∀ {ys : List W} {vs : List V}, VrL K w ys vs → ys.all flatW = true → inV vx vs = anyD x ys
  | [], _, h, _ => by cases (show _ = [] from h); rfl
  | y :: ys, _, ⟨v, r, e2, h1, h2⟩, g => by
    subst e2
    rw [List.all_cons, Bool.and_eq_true] at g
    show (eqV v vx || inV vx r) = (eqD y x || anyD x ys)
    rw [eqV_ok h1 g.1 h e, inV_ok h e h2 g.2]
/-- what `in` asks here (no dict) -/
def kInA (K : PySem.W.Frag) : R2 := fun x y H Q => kIn K x y H Q ∨ rInS x y H Q
def kNotInA (K : PySem.W.Frag) : R2 := fun x y H Q => kNotIn K x y H Q ∨ rNotInS x y H Q
theorem inC_ok (rel : Rel K w c H) (rx : Vr K w x vx) (ry : Vr K w y vy) {b : Bool} (e : inC c x y = some b) (neg : Bool) :
    (∃ n t, vx = .str ⟨#[n]⟩ ∧ vy = .str t ∧ decide (n ∈ t.cps.toList) = b) ∨ (∃ p xs, vy = .ref p ∧ (SqL K H p xs ∨ SqT K H p xs) ∧ flatV vx = true ∧ xs.all flatV = true ∧ inV vx xs = b) ∨
      (∃ d ds, Dp K H vx d ∧ Dp K H vy (.list ds) ∧ SeqAt.shaped d = true ∧ SeqAt.shaped (.list ds) = true ∧ (ds.any fun z => PyData.eqv z d) = b) := by
  unfold inC at e
  split at e
  · split at e
    · cases e
      cases (show _ = _ from rx); cases (show _ = _ from ry)
      exact .inl ⟨_, _, rfl, rfl, by rw [decide_eq_decide]; simp [mk]⟩
    · cases e
  · split at e
    · rename_i ys hy
      split at e
      · rename_i h
        cases e
        obtain ⟨a, vs, e2, s, r⟩ := rdL_ok rel ry hy
        obtain ⟨d1, d2⟩ := rdD_ok rel rx h.1
        have h2 : dataL 59 ys = true := h.2
        refine .inr (.inr ⟨_, toDL ys, d1, ?_, d2, ?_, any_toD h.1 h2⟩)
        · subst e2
          exact .lst s (dpAll_mono rel.k0 (dp_all 59 ys vs h2 r))
        · exact shaped_of (x := .wls ys) h.2
      · cases e
    · split at e
      · rename_i ys hy
        split at e
        · rename_i h
          cases e
          obtain ⟨a, vs, e2, s, r⟩ := rdT_ok rel ry hy
          exact .inr (.inl ⟨a, vs, e2, .inr s, flat_ok rx h.1, flats_ok r h.2, inV_ok rx h.1 r h.2⟩)
        · cases e
      · cases e
theorem s_in : OpS K (kInA K) oIn := by
  intro w c H x y vx vy Ex Q rel rx ry h
  obtain ⟨b, e, h⟩ := blO_ok (α := Unit) h
  have q : Q (.bl b) H := h.ok (Wd.Le.refl w) rel rfl
  rcases inC_ok rel rx ry e false with ⟨n, t, e1, e2, e3⟩ | ⟨p, xs, e1, s, f1, f2, e3⟩ | ⟨d, ds, d1, d2, s1, s2, e3⟩
  · exact .inr ⟨n, t, e1, e2, by rw [e3]; exact q⟩
  · exact .inl (.inl ⟨p, xs, e1, s, f1, f2, by rw [e3]; exact q⟩)
  · exact .inl (.inr ⟨d, ds, d1, d2, s1, s2, by rw [e3]; exact q⟩)
theorem s_notIn : OpS K (kNotInA K) oNotIn := by
  intro w c H x y vx vy Ex Q rel rx ry h
  obtain ⟨b, e, h⟩ := blO_ok (α := Unit) h
  obtain ⟨b', e', e2⟩ := Option.map_eq_some_iff.mp e
  subst e2
  have q : Q (.bl (!b')) H := h.ok (Wd.Le.refl w) rel rfl
  rcases inC_ok rel rx ry e' false with ⟨n, t, e1, e2, e3⟩ | ⟨p, xs, e1, s, f1, f2, e3⟩ | ⟨d, ds, d1, d2, s1, s2, e3⟩
  · exact .inr ⟨n, t, e1, e2, by rw [e3]; exact q⟩
  · exact .inl (.inl ⟨p, xs, e1, s, f1, f2, by rw [e3]; exact q⟩)
  · exact .inl (.inr ⟨d, ds, d1, d2, s1, s2, by rw [e3]; exact q⟩)
end
section
variable {X : Cx}
theorem fk_inA (hu : X.A.units + 65 < cLine) : OpR X (compareOp .In) (kInA X.K) := by
  intro pins s σ H x y v u Q I rx ry h
  rcases h with h | h
  · exact ok_in hu pins s σ H x y v u Q I rx ry h
  · exact op_inS pins s σ H x y v u Q I rx ry h
theorem fk_notInA (hu : X.A.units + 65 < cLine) : OpR X (compareOp .NotIn) (kNotInA X.K) := by
  intro pins s σ H x y v u Q I rx ry h
  rcases h with h | h
  · exact ok_notIn hu pins s σ H x y v u Q I rx ry h
  · exact op_notInS pins s σ H x y v u Q I rx ry h
end
/-! ## dicts -/
def toKy : W → Option Ky
  | .int i => some (.i i)
  | .str s => some (.s s)
  | _ => none
def toKys : List W → Option (List Ky)
  | [] => some []
  | x :: xs => (match toKy x, toKys xs with | some k, some ks => some (k :: ks) | _, _ => none)
def lkp {κ α : Type} [DecidableEq κ] (kvs : List (κ × α)) (k : κ) : Option α := match kvs with
  | [] => none
  | (k', v) :: r => if k' = k then some v else lkp r k
/-- d[k] as it stands: none: not of this kind -/
def dGet (c : Conf) (d k : W) : Option (Option W) := match d with
  | .ref i => (match c[i]? with
    | some (.dic kvs) => (match toKy k with
      | some k => some (lkp kvs k)
      | none => none)
    | some (.dicF kvs) => (match toKy k with
      | some k => some (lkp kvs k)
      | none => none)
    | some (.dit kvs) => (match k with
      | .tup ks => (match toKys ks with | some ks => some (lkp kvs ks) | none => none)
      | _ => none)
    | _ => none)
  | _ => none
def OptR (K : PySem.W.Frag) (w : Wd) : Option W → Option V → Prop
  | none, none => True
  | some z, some v => Vr K w z v
  | _, _ => False
section
variable {K : PySem.W.Frag} {w : Wd} {c : Conf} {H : Hp} {x y : W} {vx vy : V}
theorem toKy_ok {k : Ky} (h : Vr K w x vx) (e : toKy x = some k) : vx = kV (ky k) := by
  cases x <;> first | (cases e; cases (show _ = _ from h); rfl) | cases e
theorem toKys_ok : ∀ {xs : List W} {vs : List V} {ks : List Ky}, VrL K w xs vs → toKys xs = some ks → vs = (ks.map ky).map kV
  | [], _, _, h, e => by cases e; exact h
  | x :: xs, _, _, ⟨v, r, e2, h1, h2⟩, e => by
    subst e2
    simp only [toKys] at e
    split at e
    · rename_i k ks hk hks
      cases e
      rw [toKy_ok h1 hk, toKys_ok h2 hks]; rfl
    · cases e
theorem lkp_ok {κ κ' : Type} [DecidableEq κ] [DecidableEq κ'] (f : κ → κ') (inj : ∀ a b, f a = f b → a = b) (k : κ) : ∀ {kvs : List (κ × W)} {vs : List (κ' × V)}, vs.map (·.1) = kvs.map (fun p => f p.1) → VrL K w (kvs.map (·.2)) (vs.map (·.2)) →
    OptR K w (lkp kvs k) (valV vs (f k))
  | [], vs, h1, h2 => by
    have : vs = [] := by simpa using h1
    subst this
    exact True.intro
  | (k', z) :: r, vs, h1, h2 => by
    cases vs with
    | nil => simp at h1
    | cons p vs =>
      obtain ⟨a, v⟩ := p
      simp only [List.map_cons, List.cons.injEq] at h1
      obtain ⟨v', r', e, g1, g2⟩ := h2
      simp only [List.map_cons, List.cons.injEq] at e
      obtain ⟨e1, e2⟩ := e
      subst e1
      have e3 : a = f k' := h1.1
      subst e3
      by_cases hk : k' = k
      · subst hk
        simp only [lkp, if_pos rfl]
        rw [valV_pos rfl]
        exact g1
      · simp only [lkp, if_neg hk]
        rw [valV_neg (fun q => hk (inj _ _ q))]
        subst e2
        exact lkp_ok f inj k h1.2 g2
theorem kyL_inj : ∀ (a b : List Ky), a.map ky = b.map ky → a = b
  | [], [], _ => rfl
  | [], _ :: _, h => by simp at h
  | _ :: _, [], h => by simp at h
  | x :: a, y :: b, h => by
    simp only [List.map_cons, List.cons.injEq] at h
    rw [ky_inj h.1, kyL_inj a b h.2]
theorem dGet_ok (rel : Rel K w c H) (rx : Vr K w x vx) (ry : Vr K w y vy) {o : Option W} (e : dGet c x y = some o) : ∃ a ov, vx = .ref a ∧ DGet H a vy ov ∧ OptR K w o ov := by
  cases x with
  | ref i =>
    obtain ⟨hi, ex⟩ := rx
    simp only [dGet] at e
    cases hc : c[i]? with
    | none => rw [hc] at e; cases e
    | some ob =>
      rw [hc] at e
      cases ob with
      | lst xs => cases e
      | ins C fs => cases e
      | dic kvs =>
        obtain ⟨ho, h1, _, _, h4⟩ := rel.obj i _ hc rfl
        obtain ⟨vs, e2, k1, k2⟩ := h4
        subst e2
        simp only at e
        cases hk : toKy y with
        | none =>
          rw [hk] at e
          cases e
        | some k =>
          rw [hk] at e
          cases e
          rw [toKy_ok ry hk]
          exact ⟨_, _, ex, DGet.k h1, lkp_ok ky (fun _ _ => ky_inj) k k1 k2⟩
      | dicF kvs =>
        obtain ⟨od, vs, h1', k1, k2⟩ := rel.lkd i _ hc
        have h1 := rel.hd _ _ h1'
        simp only at e
        cases hk : toKy y with
        | none =>
          rw [hk] at e
          cases e
        | some k =>
          rw [hk] at e
          cases e
          rw [toKy_ok ry hk]
          exact ⟨_, _, ex, .inl ⟨vs, ky k, .inr ⟨od, h1⟩, rfl, rfl⟩, lkp_ok ky (fun _ _ => ky_inj) k k1 k2⟩
      | dit kvs =>
        obtain ⟨ho, h1, _, _, h4⟩ := rel.obj i _ hc rfl
        obtain ⟨vs, e2, k1, k2⟩ := h4
        subst e2
        cases y with
        | tup ks =>
          simp only at e
          cases hk : toKys ks with
          | none => rw [hk] at e; cases e
          | some ks' =>
            rw [hk] at e
            cases e
            obtain ⟨b, us, eb, sb, rb⟩ := ry
            subst eb
            have e4 := toKys_ok rb hk
            subst e4
            have sb' := rel.k0 _ _ sb
            exact ⟨_, _, ex, DGet.t h1 sb', lkp_ok (fun l : List Ky => l.map ky) kyL_inj ks' k1 k2⟩
        | _ => cases e
  | _ => cases e
end
end Ev

set_option Elab.async false
set_option linter.all false
set_option maxRecDepth 100000
set_option maxHeartbeats 4000000
namespace Ev
open PySem PySem.Spec PyProof.Rows L2 Wf TL
/-! ## in, not in, items: dicts too -/
def isDict (c : Conf) : W → Bool
  | .ref i => (match c[i]? with | some (.dic _) => true | some (.dit _) => true | some (.dicF _) => true | _ => false)
  | _ => false
def oIn2 : W → W → Conf → Out W := fun x y c => if isDict c y = true then (match dGet c y x with | some o => .ok (.bl o.isSome) c | none => .bad) else oIn x y c
def oNotIn2 : W → W → Conf → Out W := fun x y c => if isDict c y = true then (match dGet c y x with | some o => .ok (.bl (!o.isSome)) c | none => .bad) else oNotIn x y c
def kIn2 (K : PySem.W.Frag) : R2 := fun x y H Q => kInA K x y H Q ∨ rDIn x y H Q
def kNotIn2 (K : PySem.W.Frag) : R2 := fun x y H Q => kNotInA K x y H Q ∨ rDNotIn x y H Q
theorem OptR.isSome {K : PySem.W.Frag} {w : Wd} : ∀ {o : Option W} {ov : Option V}, OptR K w o ov → ov.isSome = o.isSome
  | none, none, _ => rfl
  | some _, some _, _ => rfl
section
variable {K : PySem.W.Frag}
theorem s_in2 : OpS K (kIn2 K) oIn2 := by
  intro w c H x y vx vy Ex Q rel rx ry h
  unfold oIn2 at h
  by_cases hd : isDict c y = true
  · rw [if_pos hd] at h
    cases e : dGet c y x with
    | none => rw [e] at h; exact h.elim
    | some o =>
      rw [e] at h
      obtain ⟨a, ov, e1, e2, e3⟩ := dGet_ok rel ry rx e
      exact .inr ⟨a, ov, e1, e2, by rw [e3.isSome]; exact h.ok (Wd.Le.refl w) rel rfl⟩
  · rw [if_neg hd] at h
    exact .inl (s_in w c H x y vx vy Ex Q rel rx ry h)
theorem s_notIn2 : OpS K (kNotIn2 K) oNotIn2 := by
  intro w c H x y vx vy Ex Q rel rx ry h
  unfold oNotIn2 at h
  by_cases hd : isDict c y = true
  · rw [if_pos hd] at h
    cases e : dGet c y x with
    | none => rw [e] at h; exact h.elim
    | some o =>
      rw [e] at h
      obtain ⟨a, ov, e1, e2, e3⟩ := dGet_ok rel ry rx e
      exact .inr ⟨a, ov, e1, e2, by rw [e3.isSome]; exact h.ok (Wd.Le.refl w) rel rfl⟩
  · rw [if_neg hd] at h
    exact .inl (s_notIn w c H x y vx vy Ex Q rel rx ry h)
end
section
variable {X : Cx}
theorem fk_inB (hu : X.A.units + 65 < cLine) : OpR X (compareOp .In) (kIn2 X.K) := by
  intro pins s σ H x y v u Q I rx ry h
  rcases h with h | h
  · exact fk_inA hu pins s σ H x y v u Q I rx ry h
  · exact op_din (by omega) pins s σ H x y v u Q I rx ry h
theorem fk_notInB (hu : X.A.units + 65 < cLine) : OpR X (compareOp .NotIn) (kNotIn2 X.K) := by
  intro pins s σ H x y v u Q I rx ry h
  rcases h with h | h
  · exact fk_notInA hu pins s σ H x y v u Q I rx ry h
  · exact op_dnotIn (by omega) pins s σ H x y v u Q I rx ry h
end
/-- a place among n -/
def ixW (n : Nat) (i : Int) : Option Nat := ixN n i
def atW {α : Type} (xs : List α) (i : Int) : Option α := match ixN xs.length i with | some j => xs[j]? | none => none
theorem atW_eq {α : Type} (xs : List α) (i : Int) : atW xs i = atI xs i := by
  unfold atW atI
  cases ixN xs.length i <;> rfl
def optO (o : Option W) (c : Conf) : Out W := match o with | some x => .ok x c | none => .bad
def oIx : W → W → Conf → Out W := fun x y c => match x, y with
  | .str s, .int i => if s.length ≤ 1000000 then (match atW s i with | some n => .ok (.str [n]) c | none => .bad) else .bad
  | x, y => (match rdL c x with
    | some xs => (match y with | .int i => optO (atW xs i) c | _ => .bad)
    | none => (match rdT x with
      | some xs => (match y with | .int i => optO (atW xs i) c | _ => .bad)
      | none => (match dGet c x y with | some (some v) => .ok v c | _ => .bad)))
def kIx2 (K : PySem.W.Frag) : R2 := fun x y H Q => rIx K x y H Q ∨ rDIx x y H Q
section
variable {K : PySem.W.Frag}
theorem atW_ok {w : Wd} {xs : List W} {vs : List V} {i : Int} {x : W} (r : VrL K w xs vs) (e : atW xs i = some x) : ∃ v, atI vs i = some v ∧ Vr K w x v := by
  unfold atW at e
  unfold atI
  rw [r.length]
  cases h : ixN xs.length i with
  | none => rw [h] at e; cases e
  | some j => rw [h] at e; exact r.get e
theorem s_ix : OpS K (kIx2 K) oIx := by
  intro w c H x y vx vy Ex Q rel rx ry h
  unfold oIx at h
  split at h
  · rename_i s i
    cases (show _ = _ from rx); cases (show _ = _ from ry)
    obtain ⟨hl, h⟩ := ite_ok h
    cases e : atW s i with
    | none => rw [e] at h; exact h.elim
    | some n =>
      rw [e] at h
      refine .inl (.inr (.inr ⟨mk s, i, n, rfl, rfl, by rw [mk_len]; exact len_le hl, ?_, h.ok (Wd.Le.refl w) rel rfl⟩))
      rw [← atW_eq]
      exact e
  · cases hL : rdL c x with
    | some xs =>
      rw [hL] at h
      obtain ⟨a, vs, e1, s, r⟩ := rdL_ok rel rx hL
      subst e1
      cases y <;> first | exact h.elim | skip
      cases (show _ = _ from ry)
      simp only at h
      cases e : atW xs ‹Int› with
      | none => rw [e] at h; exact h.elim
      | some z =>
        rw [e] at h
        obtain ⟨v, e2, rv⟩ := atW_ok r e
        exact .inl (.inl ⟨a, vs, _, v, rfl, rfl, s, e2, h.ok (Wd.Le.refl w) rel rv⟩)
    | none =>
      rw [hL] at h
      simp only at h
      cases hT : rdT x with
      | some xs =>
        rw [hT] at h
        obtain ⟨a, vs, e1, s, r⟩ := rdT_ok rel rx hT
        subst e1
        cases y <;> first | exact h.elim | skip
        cases (show _ = _ from ry)
        simp only at h
        cases e : atW xs ‹Int› with
        | none => rw [e] at h; exact h.elim
        | some z =>
          rw [e] at h
          obtain ⟨v, e2, rv⟩ := atW_ok r e
          exact .inl (.inr (.inl ⟨a, vs, _, v, rfl, rfl, s, e2, h.ok (Wd.Le.refl w) rel rv⟩))
      | none =>
        rw [hT] at h
        simp only at h
        cases e : dGet c x y with
        | none => rw [e] at h; exact h.elim
        | some o =>
          rw [e] at h
          cases o with
          | none => exact h.elim
          | some z =>
            obtain ⟨a, ov, e1, e2, e3⟩ := dGet_ok rel rx ry e
            cases ov with
            | none => exact e3.elim
            | some v => exact .inr ⟨a, v, e1, e2, h.ok (Wd.Le.refl w) rel e3⟩
end
section
variable {X : Cx}
theorem fk_ixB (hu : X.A.units + 1 < cLine) : IxR X (kIx2 X.K) := by
  intro value slice pins s σ H x y v u Q I rx ry h hs
  rcases h with h | h
  · exact ix_seq value slice pins s σ H x y v u Q I rx ry h hs
  · exact ix_dict hu value slice pins s σ H x y v u Q I rx ry h hs
end
/-! ## slices -/
def cutW {α : Type} (xs : List α) (lo hi : Option Int) : List α := (xs.drop (HT.sIx xs.length 0 lo)).take (HT.sIx xs.length xs.length hi - HT.sIx xs.length 0 lo)
def SlS (K : PySem.W.Frag) (r : V → Option Int → Option Int → Hp → VK → Prop) (f : W → Option Int → Option Int → Conf → Out W) : Prop := ∀ w c H x vx l u Ex Q, Rel K w c H → Vr K w x vx → OR K (Vr K) w Ex Q (f x l u c) → r vx l u H Q
def oSlL : W → Option Int → Option Int → Conf → Out W := fun x l u c => match rdL c x with | some xs => .ok (.lst (cutW xs l u)) c | none => .bad
def oSlS : W → Option Int → Option Int → Conf → Out W := fun x l u c => match x with | .str s => if s.length ≤ 1000000 then .ok (.str (cutW s l u)) c else .bad | _ => .bad
def oSlT : W → Option Int → Option Int → Conf → Out W := fun x l u c => match rdT x with | some xs => if ¬ (HT.sIx xs.length 0 l = 0 ∧ HT.sIx xs.length xs.length u = xs.length) then .ok (.tup (cutW xs l u)) c else .bad | none => .bad
def eSl (f : W → Option Int → Option Int → Conf → Out W) (e : Ee) (l u : Eo) : Ee := fun ss c => (e ss c).bind fun x c1 => (l ss c1).bind fun lo c2 => (u ss c2).bind fun hi c3 => f x lo hi c3
def eNoPart : Eo := fun _ c => .ok none c
def ePart (e : Ee) : Eo := fun ss c => (e ss c).bind fun x c1 => match x with | .int i => .ok (some i) c1 | _ => .bad
section
variable {K : PySem.W.Frag} {Wx : Xx} {ea : Ee} {el eu : Eo}
theorem cut_ok {w : Wd} {xs : List W} {vs : List V} {l u : Option Int} (r : VrL K w xs vs) : VrL K w (cutW xs l u) (cutV vs l u) := by
  unfold cutW cutV
  rw [r.length]
  exact (r.drop _).take _
theorem s_slL : SlS K (rSlL K) oSlL := by
  intro w c H x vx l u Ex Q rel rx h
  unfold oSlL at h
  cases hL : rdL c x with
  | none => rw [hL] at h; exact h.elim
  | some xs =>
    rw [hL] at h
    obtain ⟨a, vs, e1, s, r⟩ := rdL_ok rel rx hL
    exact ⟨a, vs, e1, s, fun p hp => new_lst rel (cut_ok r) h p hp⟩
theorem s_slS : SlS K rSlS oSlS := by
  intro w c H x vx l u Ex Q rel rx h
  cases x <;> first | exact h.elim | skip
  cases (show _ = _ from rx)
  obtain ⟨hl, h⟩ := ite_ok h
  refine ⟨mk _, rfl, by rw [mk_len]; exact len_le hl, h.ok (Wd.Le.refl w) rel ?_⟩
  show V.str _ = V.str _
  congr 1
theorem s_slT : SlS K (rSlT K) oSlT := by
  intro w c H x vx l u Ex Q rel rx h
  unfold oSlT at h
  cases hL : rdT x with
  | none => rw [hL] at h; exact h.elim
  | some xs =>
    rw [hL] at h
    obtain ⟨hn, h⟩ := ite_ok h
    obtain ⟨a, vs, e1, s, r⟩ := rdT_ok rel rx hL
    exact ⟨a, vs, e1, s, by rw [r.length]; exact hn, fun p hp => new_tup rel (cut_ok r) h p hp⟩
theorem le_sl {r : V → Option Int → Option Int → Hp → VK → Prop} {f : W → Option Int → Option Int → Conf → Out W} (s : SlS K r f) (σ : L2.St) (H : Hp) (Q : VK) (h : tE K Wx (eSl f ea el eu) σ H Q) : tSl r (tE K Wx ea) (tO K Wx el) (tO K Wx eu) σ H Q := by
  obtain ⟨w, c, ss, rel, sr, h⟩ := h
  refine ⟨w, c, ss, rel, sr, (OR.bind (R := Vr K) h).imp ?_⟩
  rintro v1 H1 ⟨w1, x, c1, l1, rel1, r1, h1⟩
  refine ⟨w1, c1, ss, rel1, sr.mono l1.v, (OR.bind (R := EqR) h1).imp ?_⟩
  rintro v2 H2 ⟨w2, y, c2, l2, rel2, r2, h2⟩
  cases r2
  refine ⟨w2, c2, ss, rel2, sr.mono (l1.trans l2).v, (OR.bind (R := EqR) h2).imp ?_⟩
  rintro v3 H3 ⟨w3, z, c3, l3, rel3, r3, h3⟩
  cases r3
  exact s w3 c3 H3 x v1 _ _ _ Q rel3 (r1.mono (l2.trans l3).v) h3
theorem le_noPart (σ : L2.St) (H : Hp) (Q : Option Int → Hp → Prop) (h : tO K Wx eNoPart σ H Q) : tNoPart σ H Q := by
  obtain ⟨w, c, ss, rel, sr, h⟩ := h
  exact h.ok (Wd.Le.refl w) rel rfl
theorem le_part (σ : L2.St) (H : Hp) (Q : Option Int → Hp → Prop) (h : tO K Wx (ePart ea) σ H Q) : tPart (tE K Wx ea) σ H Q := by
  obtain ⟨w, c, ss, rel, sr, h⟩ := h
  refine ⟨w, c, ss, rel, sr, (OR.bind (R := Vr K) h).imp ?_⟩
  rintro v1 H1 ⟨w1, x, c1, l1, rel1, r1, h1⟩
  cases x <;> first | exact h1.elim | skip
  cases (show _ = _ from r1)
  exact ⟨_, rfl, h1.ok (Wd.Le.refl w1) rel1 rfl⟩
end
/-! ## names, constants, and, or, not, if -/
def eVar (i : Nat) : Ee := fun ss c => match ss[i]? with | some (some x) => if isEx (some x) = true then .bad else .ok x c | _ => .bad
def eC (x : W) : Ee := fun _ c => .ok x c
def eAnd (a b : Ee) : Ee := fun ss c => (a ss c).bind fun x c1 => match x with | .bl true => b ss c1 | .bl false => .ok (.bl false) c1 | _ => .bad
def eOr (a b : Ee) : Ee := fun ss c => (a ss c).bind fun x c1 => match x with | .bl true => .ok (.bl true) c1 | .bl false => b ss c1 | _ => .bad
def eNot (a : Ee) : Ee := fun ss c => (a ss c).bind fun x c1 => match x with | .bl b => .ok (.bl (!b)) c1 | _ => .bad
def eIf (t : Et) (a b : Ee) : Ee := fun ss c => (t ss c).bind fun x c1 => match x with | true => a ss c1 | false => b ss c1
def bB (e : Ee) : Et := fun ss c => (e ss c).bind fun x c1 => match x with | .bl b => .ok b c1 | _ => .bad
def bAnd (a b : Et) : Et := fun ss c => (a ss c).bind fun x c1 => match x with | true => b ss c1 | false => .ok false c1
def bOr (a b : Et) : Et := fun ss c => (a ss c).bind fun x c1 => match x with | true => .ok true c1 | false => b ss c1
def bNot (a : Et) : Et := fun ss c => (a ss c).bind fun x c1 => .ok (!x) c1
def bYes : Et := fun _ c => .ok true c
section
variable {K : PySem.W.Frag} {Wx : Xx} {ea eb : Ee} {ba bb : Et}
theorem le_var (i : Nat) (σ : L2.St) (H : Hp) (Q : VK) (h : tE K Wx (eVar i) σ H Q) : tVar i σ H Q := by
  obtain ⟨w, c, ss, rel, sr, h⟩ := h
  unfold eVar at h
  split at h
  · rename_i x hx
    obtain ⟨v, e, r⟩ := sr.get hx
    cases x with
    | exn C fs => exact h.elim
    | exb C => exact h.elim
    | _ => exact ⟨v, e, OR.ok (R := Vr K) h (Wd.Le.refl w) rel r⟩
  · exact h.elim
theorem le_c {x : W} {v : V} (hv : ∀ w, Vr K w x v) (σ : L2.St) (H : Hp) (Q : VK) (h : tE K Wx (eC x) σ H Q) : tC v σ H Q := by
  obtain ⟨w, c, ss, rel, sr, h⟩ := h
  exact h.ok (Wd.Le.refl w) rel (hv w)
theorem le_andV (σ : L2.St) (H : Hp) (Q : VK) (h : tE K Wx (eAnd ea eb) σ H Q) : tAndV (tE K Wx ea) (tE K Wx eb) σ H Q := by
  obtain ⟨w, c, ss, rel, sr, h⟩ := h
  refine ⟨w, c, ss, rel, sr, (OR.bind (R := Vr K) h).imp ?_⟩
  rintro v1 H1 ⟨w1, x, c1, l1, rel1, r1, h1⟩
  cases x <;> first | exact h1.elim | skip
  cases (show _ = _ from r1)
  rename_i b
  refine ⟨b, rfl, ?_⟩
  cases b
  · exact h1.ok (Wd.Le.refl w1) rel1 rfl
  · exact ⟨w1, c1, ss, rel1, sr.mono l1.v, h1⟩
theorem le_orV (σ : L2.St) (H : Hp) (Q : VK) (h : tE K Wx (eOr ea eb) σ H Q) : tOrV (tE K Wx ea) (tE K Wx eb) σ H Q := by
  obtain ⟨w, c, ss, rel, sr, h⟩ := h
  refine ⟨w, c, ss, rel, sr, (OR.bind (R := Vr K) h).imp ?_⟩
  rintro v1 H1 ⟨w1, x, c1, l1, rel1, r1, h1⟩
  cases x <;> first | exact h1.elim | skip
  cases (show _ = _ from r1)
  rename_i b
  refine ⟨b, rfl, ?_⟩
  cases b
  · exact ⟨w1, c1, ss, rel1, sr.mono l1.v, h1⟩
  · exact h1.ok (Wd.Le.refl w1) rel1 rfl
theorem le_notV (σ : L2.St) (H : Hp) (Q : VK) (h : tE K Wx (eNot ea) σ H Q) : tNotV (tE K Wx ea) σ H Q := by
  obtain ⟨w, c, ss, rel, sr, h⟩ := h
  refine ⟨w, c, ss, rel, sr, (OR.bind (R := Vr K) h).imp ?_⟩
  rintro v1 H1 ⟨w1, x, c1, l1, rel1, r1, h1⟩
  cases x <;> first | exact h1.elim | skip
  cases (show _ = _ from r1)
  exact ⟨_, rfl, h1.ok (Wd.Le.refl w1) rel1 rfl⟩
theorem le_B (σ : L2.St) (H : Hp) (Q : Bool → Hp → Prop) (h : tT K Wx (bB ea) σ H Q) : tB (tE K Wx ea) σ H Q := by
  obtain ⟨w, c, ss, rel, sr, h⟩ := h
  refine ⟨w, c, ss, rel, sr, (OR.bind (R := Vr K) h).imp ?_⟩
  rintro v1 H1 ⟨w1, x, c1, l1, rel1, r1, h1⟩
  cases x <;> first | exact h1.elim | skip
  cases (show _ = _ from r1)
  exact ⟨_, rfl, h1.ok (Wd.Le.refl w1) rel1 rfl⟩
theorem le_Test (σ : L2.St) (H : Hp) (Q : Bool → Hp → Prop) (h : tT K Wx (bB ea) σ H Q) : tTest (tE K Wx ea) σ H Q := le_B σ H Q h
theorem le_and (σ : L2.St) (H : Hp) (Q : Bool → Hp → Prop) (h : tT K Wx (bAnd ba bb) σ H Q) : tAnd (tT K Wx ba) (tT K Wx bb) σ H Q := by
  obtain ⟨w, c, ss, rel, sr, h⟩ := h
  refine ⟨w, c, ss, rel, sr, (OR.bind (R := EqR) h).imp ?_⟩
  rintro v1 H1 ⟨w1, x, c1, l1, rel1, r1, h1⟩
  cases r1
  cases v1
  · rw [if_neg (by decide)]; exact h1.ok (Wd.Le.refl w1) rel1 rfl
  · rw [if_pos rfl]; exact ⟨w1, c1, ss, rel1, sr.mono l1.v, h1⟩
theorem le_or (σ : L2.St) (H : Hp) (Q : Bool → Hp → Prop) (h : tT K Wx (bOr ba bb) σ H Q) : tOr (tT K Wx ba) (tT K Wx bb) σ H Q := by
  obtain ⟨w, c, ss, rel, sr, h⟩ := h
  refine ⟨w, c, ss, rel, sr, (OR.bind (R := EqR) h).imp ?_⟩
  rintro v1 H1 ⟨w1, x, c1, l1, rel1, r1, h1⟩
  cases r1
  cases v1
  · rw [if_neg (by decide)]; exact ⟨w1, c1, ss, rel1, sr.mono l1.v, h1⟩
  · rw [if_pos rfl]; exact h1.ok (Wd.Le.refl w1) rel1 rfl
theorem le_not (σ : L2.St) (H : Hp) (Q : Bool → Hp → Prop) (h : tT K Wx (bNot ba) σ H Q) : tNot (tT K Wx ba) σ H Q := by
  obtain ⟨w, c, ss, rel, sr, h⟩ := h
  refine ⟨w, c, ss, rel, sr, (OR.bind (R := EqR) h).imp ?_⟩
  rintro v1 H1 ⟨w1, x, c1, l1, rel1, r1, h1⟩
  cases r1
  exact h1.ok (Wd.Le.refl w1) rel1 rfl
theorem le_yes (σ : L2.St) (H : Hp) (Q : Bool → Hp → Prop) (h : tT K Wx bYes σ H Q) : tYes σ H Q := by
  obtain ⟨w, c, ss, rel, sr, h⟩ := h
  exact h.ok (Wd.Le.refl w) rel rfl
theorem le_if (σ : L2.St) (H : Hp) (Q : VK) (h : tE K Wx (eIf ba ea eb) σ H Q) : tIf (tT K Wx ba) (tE K Wx ea) (tE K Wx eb) σ H Q := by
  obtain ⟨w, c, ss, rel, sr, h⟩ := h
  refine ⟨w, c, ss, rel, sr, (OR.bind (R := EqR) h).imp ?_⟩
  rintro v1 H1 ⟨w1, x, c1, l1, rel1, r1, h1⟩
  cases r1
  cases v1
  · rw [if_neg (by decide)]; exact ⟨w1, c1, ss, rel1, sr.mono l1.v, h1⟩
  · rw [if_pos rfl]; exact ⟨w1, c1, ss, rel1, sr.mono l1.v, h1⟩
end
/-! ## arguments, displays -/
def aNil : Ea := fun _ c => .ok [] c
def aCons (e : Ee) (a : Ea) : Ea := fun ss c => (e ss c).bind fun x c1 => (a ss c1).bind fun xs c2 => .ok (x :: xs) c2
def eTup (a : Ea) : Ee := fun ss c => (a ss c).bind fun xs c1 => if xs.length ≤ 1000000 then .ok (.tup xs) c1 else .bad
/-- a list that stays as it is -/
def eLst (a : Ea) : Ee := fun ss c => (a ss c).bind fun xs c1 => if xs.length ≤ 1000000 then .ok (.lst xs) c1 else .bad
/-- a list that may change -/
def eLstO (a : Ea) : Ee := fun ss c => (a ss c).bind fun xs c1 => if xs.length ≤ 1000000 then .ok (.ref c1.length) (c1 ++ [.lst xs]) else .bad
section
variable {K : PySem.W.Frag} {Wx : Xx} {ea : Ee} {aa : Ea}
theorem le_nil (σ : L2.St) (H : Hp) (Q : List V → Hp → Prop) (h : tA K Wx aNil σ H Q) : tNil σ H Q := by
  obtain ⟨w, c, ss, rel, sr, h⟩ := h
  exact h.ok (Wd.Le.refl w) rel rfl
theorem le_cons (σ : L2.St) (H : Hp) (Q : List V → Hp → Prop) (h : tA K Wx (aCons ea aa) σ H Q) : tCons (tE K Wx ea) (tA K Wx aa) σ H Q := by
  obtain ⟨w, c, ss, rel, sr, h⟩ := h
  refine ⟨w, c, ss, rel, sr, (OR.bind (R := Vr K) h).imp ?_⟩
  rintro v1 H1 ⟨w1, x, c1, l1, rel1, r1, h1⟩
  refine ⟨w1, c1, ss, rel1, sr.mono l1.v, (OR.bind (R := VrL K) h1).imp ?_⟩
  rintro v2 H2 ⟨w2, y, c2, l2, rel2, r2, h2⟩
  exact h2.ok (Wd.Le.refl w2) rel2 ⟨v1, v2, rfl, r1.mono l2.v, r2⟩
theorem le_tup (σ : L2.St) (H : Hp) (Q : VK) (h : tE K Wx (eTup aa) σ H Q) : tTup (tA K Wx aa) σ H Q := by
  obtain ⟨w, c, ss, rel, sr, h⟩ := h
  refine ⟨w, c, ss, rel, sr, (OR.bind (R := VrL K) h).imp ?_⟩
  rintro v1 H1 ⟨w1, x, c1, l1, rel1, r1, h1⟩
  obtain ⟨hl, h1⟩ := ite_ok h1
  exact ⟨by rw [r1.length]; exact len_le hl, fun p hp => new_tup rel1 r1 h1 p hp⟩
theorem le_lst (σ : L2.St) (H : Hp) (Q : VK) (h : tE K Wx (eLst aa) σ H Q) : tLst (tA K Wx aa) σ H Q := by
  obtain ⟨w, c, ss, rel, sr, h⟩ := h
  refine ⟨w, c, ss, rel, sr, (OR.bind (R := VrL K) h).imp ?_⟩
  rintro v1 H1 ⟨w1, x, c1, l1, rel1, r1, h1⟩
  obtain ⟨hl, h1⟩ := ite_ok h1
  exact ⟨by rw [r1.length]; exact len_le hl, fun p hp => new_lst rel1 r1 h1 p hp⟩
/-- a new object, owned -/
theorem new_own {w : Wd} {c : Conf} {H H' : Hp} {o : O} {ho : HO} {Ex : Value → Option Addr → Hp → Prop} {Q : VK} {p : Addr} (rel : Rel K w c H) (hp : H p = none) (s : Same H H') (e : H' p = some ho) (ob : ObR K (w.new p) H' p o ho)
    (h : OR K (Vr K) w Ex Q (.ok (.ref c.length) (c ++ [o]))) (of : o.fz = false := by rfl) : Q (.ref p) H' := by
  obtain ⟨le, rel'⟩ := rel.new hp s e ob of
  refine h.ok le rel' ⟨?_, ?_⟩
  · rw [rel.len]; exact Nat.lt_succ_self _
  · rw [rel.len]
    show V.ref p = V.ref (if w.n = w.n then p else w.φ w.n)
    rw [if_pos rfl]
theorem s_addO : OpS K (fAdd K) oAddO := by
  intro w c H x y vx vy Ex Q rel rx ry h
  unfold oAddO at h
  split at h
  · rename_i xs ys hx hy
    obtain ⟨hp, h⟩ := ite_ok h
    obtain ⟨a, vs, e1, s, r⟩ := rdH_ok rel rx hx
    obtain ⟨b, us, e2, s2, r2⟩ := rdH_ok rel ry hy
    subst e1 e2
    show zAddR K a b H Q
    unfold zAddR
    exact .inl ⟨a, b, vs, us, rfl, rfl, s, s2, by rw [r.length, r2.length]; exact len_le hp, fun l hl => new_own (o := .lst (xs ++ ys)) rel hl (same_upd hl) upd_same ⟨_, rfl, (r.app r2).mono Wd.le_new.v⟩ h⟩
  · exact h.elim
theorem le_lstO (σ : L2.St) (H : Hp) (Q : VK) (h : tE K Wx (eLstO aa) σ H Q) : tLst (tA K Wx aa) σ H Q := by
  obtain ⟨w, c, ss, rel, sr, h⟩ := h
  refine ⟨w, c, ss, rel, sr, (OR.bind (R := VrL K) h).imp ?_⟩
  rintro v1 H1 ⟨w1, x, c1, l1, rel1, r1, h1⟩
  obtain ⟨hl, h1⟩ := ite_ok h1
  exact ⟨by rw [r1.length]; exact len_le hl, fun p hp => new_own (o := .lst x) rel1 hp (same_upd hp) upd_same ⟨v1, rfl, r1.mono Wd.le_new.v⟩ h1⟩
end
/-! ## built-ins -/
def CallS (K : PySem.W.Frag) (r : List V → Hp → VK → Prop) (f : List W → Conf → Out W) : Prop := ∀ w c H xs vs Ex Q, Rel K w c H → VrL K w xs vs → OR K (Vr K) w Ex Q (f xs c) → r vs H Q
def eCB (f : List W → Conf → Out W) (a : Ea) : Ee := fun ss c => (a ss c).bind f
def lenC (c : Conf) (x : W) : Option Nat := match x with
  | .str s => if s.length ≤ 1000000 then some s.length else none
  | x => (match rdL c x with
    | some xs => some xs.length
    | none => (match rdT x with
      | some xs => some xs.length
      | none => (match x with
        | .ref i => (match c[i]? with | some (.dic kvs) => some kvs.length | _ => none)
        | _ => none)))
def oLen : List W → Conf → Out W := fun xs c => match xs with | [x] => (match lenC c x with | some n => .ok (.int n) c | none => .bad) | _ => .bad
/-- list(x), a list that stays -/
def oList : List W → Conf → Out W := fun xs c => match xs with
  | [x] => (match rdL c x with | some ys => .ok (.lst ys) c | none => (match rdT x with | some ys => .ok (.lst ys) c | none => .bad))
  | _ => .bad
def oListO : List W → Conf → Out W := fun xs c => match xs with
  | [x] => (match rdL c x with | some ys => .ok (.ref c.length) (c ++ [.lst ys]) | none => (match rdT x with | some ys => .ok (.ref c.length) (c ++ [.lst ys]) | none => .bad))
  | _ => .bad
def oTuple : List W → Conf → Out W := fun xs c => match xs with
  | [x] => (match rdL c x with | some ys => .ok (.tup ys) c | none => (match rdT x with | some ys => .ok x c | none => .bad))
  | _ => .bad
def blsW : List W → Option (List Bool)
  | [] => some []
  | .bl b :: r => (match blsW r with | some bs => some (b :: bs) | none => none)
  | _ => none
def oAny : List W → Conf → Out W := fun xs c => match xs with
  | [x] => (match rdL c x with | some ys => (match blsW ys with | some bs => .ok (.bl (bs.any id)) c | none => .bad) | none => .bad)
  | _ => .bad
def oAll : List W → Conf → Out W := fun xs c => match xs with
  | [x] => (match rdL c x with | some ys => (match blsW ys with | some bs => .ok (.bl (bs.all id)) c | none => .bad) | none => .bad)
  | _ => .bad
def oAbs : List W → Conf → Out W := fun xs c => match xs with | [.int i] => .ok (.int (if i < 0 then -i else i)) c | _ => .bad
def oInt : List W → Conf → Out W := fun xs c => match xs with | [.int i] => .ok (.int i) c | [.bl k] => .ok (.int (if k then 1 else 0)) c | _ => .bad
def oMin2 : List W → Conf → Out W := fun xs c => match xs with | [.int i, .int j] => .ok (.int (if j < i then j else i)) c | _ => .bad
def oMax2 : List W → Conf → Out W := fun xs c => match xs with | [.int i, .int j] => .ok (.int (if j > i then j else i)) c | _ => .bad
def kLen2 (K : PySem.W.Frag) : List V → Hp → VK → Prop := fun xs H Q => kLen K xs H Q ∨ rLenD xs H Q
section
variable {X : Cx}
theorem fk_lenB : CallR X (.builtin "len") (kLen2 X.K) := by
  intro pins s σ H xs us Q I r h
  rcases h with h | h
  · exact ok_len pins s σ H _ us Q I r h
  · exact call_lenD pins s σ H _ us Q I r h
end
section
variable {K : PySem.W.Frag} {Wx : Xx} {aa : Ea}
theorem le_cb {r : List V → Hp → VK → Prop} {f : List W → Conf → Out W} (s : CallS K r f) (σ : L2.St) (H : Hp) (Q : VK) (h : tE K Wx (eCB f aa) σ H Q) : tCB r (tA K Wx aa) σ H Q := by
  obtain ⟨w, c, ss, rel, sr, h⟩ := h
  refine ⟨w, c, ss, rel, sr, (OR.bind (R := VrL K) h).imp ?_⟩
  rintro v1 H1 ⟨w1, x, c1, l1, rel1, r1, h1⟩
  exact s w1 c1 H1 x v1 _ Q rel1 r1 h1
theorem VrL.inv1 {w : Wd} {x : W} {vs : List V} (h : VrL K w [x] vs) : ∃ v, vs = [v] ∧ Vr K w x v := by
  obtain ⟨v, r, e, h1, h2⟩ := h
  cases (show r = [] from h2)
  exact ⟨v, e, h1⟩
theorem VrL.inv2 {w : Wd} {x y : W} {vs : List V} (h : VrL K w [x, y] vs) : ∃ v u, vs = [v, u] ∧ Vr K w x v ∧ Vr K w y u := by
  obtain ⟨v, r, e, h1, h2⟩ := h
  obtain ⟨u, e2, h3⟩ := VrL.inv1 h2
  subst e2
  exact ⟨v, u, e, h1, h3⟩
theorem s_len : CallS K (kLen2 K) oLen := by
  intro w c H xs vs Ex Q rel r h
  unfold oLen at h
  split at h
  · rename_i x
    obtain ⟨v, rfl, rx⟩ := r.inv1
    cases e : lenC c x with
    | none => rw [e] at h; exact h.elim
    | some n =>
      rw [e] at h
      unfold lenC at e
      split at e
      · rename_i s
        split at e
        · rename_i hl
          cases e
          cases (show _ = _ from rx)
          exact .inl ⟨by rw [mk_len]; exact len_le hl, h.ok (Wd.Le.refl w) rel (by rw [mk_len]; rfl)⟩
        · cases e
      · cases hL : rdL c x with
        | some xs =>
          rw [hL] at e
          cases e
          obtain ⟨a, vs, e1, s, rr⟩ := rdL_ok rel rx hL
          subst e1
          exact .inl ⟨vs, .inl s, h.ok (Wd.Le.refl w) rel (by rw [rr.length]; rfl)⟩
        | none =>
          rw [hL] at e
          simp only at e
          cases hT : rdT x with
          | some xs =>
            rw [hT] at e
            cases e
            obtain ⟨a, vs, e1, s, rr⟩ := rdT_ok rel rx hT
            subst e1
            exact .inl ⟨vs, .inr s, h.ok (Wd.Le.refl w) rel (by rw [rr.length]; rfl)⟩
          | none =>
            rw [hT] at e
            simp only at e
            cases x with
            | ref i =>
              simp only at e
              cases hc : c[i]? with
              | none => rw [hc] at e; cases e
              | some ob =>
                rw [hc] at e
                cases ob with
                | dic kvs =>
                  cases e
                  obtain ⟨ho, h1, _, _, h4⟩ := rel.obj i _ hc rfl
                  obtain ⟨ws, e2, k1, k2⟩ := h4
                  subst e2
                  obtain ⟨_, ex⟩ := rx
                  subst ex
                  refine .inr ⟨_, ws, rfl, h1, h.ok (Wd.Le.refl w) rel ?_⟩
                  have := congrArg List.length k1
                  simp only [List.length_map] at this
                  rw [this]; rfl
                | _ => cases e
            | _ => cases e
  · exact h.elim
theorem s_list : CallS K (kList K) oList := by
  intro w c H xs vs Ex Q rel r h
  unfold oList at h
  split at h
  · rename_i x
    obtain ⟨v, rfl, rx⟩ := r.inv1
    cases hL : rdL c x with
    | some xs =>
      rw [hL] at h
      obtain ⟨a, vs, e1, s, rr⟩ := rdL_ok rel rx hL
      subst e1
      exact ⟨a, vs, rfl, .inl s, fun l hl => new_lst rel rr h l hl⟩
    | none =>
      rw [hL] at h
      simp only at h
      cases hT : rdT x with
      | some xs =>
        rw [hT] at h
        obtain ⟨a, vs, e1, s, rr⟩ := rdT_ok rel rx hT
        subst e1
        exact ⟨a, vs, rfl, .inr s, fun l hl => new_lst rel rr h l hl⟩
      | none => rw [hT] at h; exact h.elim
  · exact h.elim
theorem s_listO : CallS K (kList K) oListO := by
  intro w c H xs vs Ex Q rel r h
  unfold oListO at h
  split at h
  · rename_i x
    obtain ⟨v, rfl, rx⟩ := r.inv1
    cases hL : rdL c x with
    | some xs =>
      rw [hL] at h
      obtain ⟨a, vs, e1, s, rr⟩ := rdL_ok rel rx hL
      subst e1
      exact ⟨a, vs, rfl, .inl s, fun p hp => new_own (o := .lst xs) rel hp (same_upd hp) upd_same ⟨vs, rfl, rr.mono Wd.le_new.v⟩ h⟩
    | none =>
      rw [hL] at h
      simp only at h
      cases hT : rdT x with
      | some xs =>
        rw [hT] at h
        obtain ⟨a, vs, e1, s, rr⟩ := rdT_ok rel rx hT
        subst e1
        exact ⟨a, vs, rfl, .inr s, fun p hp => new_own (o := .lst xs) rel hp (same_upd hp) upd_same ⟨vs, rfl, rr.mono Wd.le_new.v⟩ h⟩
      | none => rw [hT] at h; exact h.elim
  · exact h.elim
theorem s_tuple : CallS K (kTuple K) oTuple := by
  intro w c H xs vs Ex Q rel r h
  unfold oTuple at h
  split at h
  · rename_i x
    obtain ⟨v, rfl, rx⟩ := r.inv1
    cases hL : rdL c x with
    | some xs =>
      rw [hL] at h
      obtain ⟨a, vs, e1, s, rr⟩ := rdL_ok rel rx hL
      subst e1
      exact ⟨a, vs, rfl, .inl ⟨s, fun l hl => new_tup rel rr h l hl⟩⟩
    | none =>
      rw [hL] at h
      simp only at h
      cases hT : rdT x with
      | some xs =>
        rw [hT] at h
        obtain ⟨a, vs, e1, s, rr⟩ := rdT_ok rel rx hT
        subst e1
        exact ⟨a, vs, rfl, .inr ⟨s, h.ok (Wd.Le.refl w) rel rx⟩⟩
      | none => rw [hT] at h; exact h.elim
  · exact h.elim
theorem blsW_ok {w : Wd} : ∀ {xs : List W} {vs : List V} {bs : List Bool}, VrL K w xs vs → blsW xs = some bs → vs = bs.map V.bl
  | [], _, _, h, e => by cases e; exact h
  | x :: xs, _, _, ⟨v, r, e2, h1, h2⟩, e => by
    subst e2
    cases x <;> first | (cases e; done) | skip
    simp only [blsW] at e
    split at e
    · rename_i bs hb
      cases e
      cases (show _ = _ from h1)
      rw [blsW_ok h2 hb]; rfl
    · cases e
theorem s_any : CallS K (rAny K) oAny := by
  intro w c H xs vs Ex Q rel r h
  unfold oAny at h
  split at h
  · rename_i x
    obtain ⟨v, rfl, rx⟩ := r.inv1
    split at h
    · rename_i ys hL
      split at h
      · rename_i bs hb
        obtain ⟨a, vs, e1, s, rr⟩ := rdL_ok rel rx hL
        subst e1
        have e2 := blsW_ok rr hb
        subst e2
        exact ⟨a, bs, rfl, s, h.ok (Wd.Le.refl w) rel rfl⟩
      · exact h.elim
    · exact h.elim
  · exact h.elim
theorem s_all : CallS K (rAll K) oAll := by
  intro w c H xs vs Ex Q rel r h
  unfold oAll at h
  split at h
  · rename_i x
    obtain ⟨v, rfl, rx⟩ := r.inv1
    split at h
    · rename_i ys hL
      split at h
      · rename_i bs hb
        obtain ⟨a, vs, e1, s, rr⟩ := rdL_ok rel rx hL
        subst e1
        have e2 := blsW_ok rr hb
        subst e2
        exact ⟨a, bs, rfl, s, h.ok (Wd.Le.refl w) rel rfl⟩
      · exact h.elim
    · exact h.elim
  · exact h.elim
theorem s_abs : CallS K kAbs oAbs := by
  intro w c H xs vs Ex Q rel r h
  unfold oAbs at h
  split at h
  · obtain ⟨v, rfl, rx⟩ := r.inv1
    cases (show _ = _ from rx)
    exact ⟨_, rfl, h.ok (Wd.Le.refl w) rel rfl⟩
  · exact h.elim
theorem s_int : CallS K fInt oInt := by
  intro w c H xs vs Ex Q rel r h
  unfold oInt at h
  split at h
  · obtain ⟨v, rfl, rx⟩ := r.inv1
    cases (show _ = _ from rx)
    exact h.ok (Wd.Le.refl w) rel rfl
  · obtain ⟨v, rfl, rx⟩ := r.inv1
    cases (show _ = _ from rx)
    exact h.ok (Wd.Le.refl w) rel rfl
  · exact h.elim
theorem s_min2 : CallS K kMin2 oMin2 := by
  intro w c H xs vs Ex Q rel r h
  unfold oMin2 at h
  split at h
  · obtain ⟨v, u, rfl, rx, ry⟩ := r.inv2
    cases (show _ = _ from rx); cases (show _ = _ from ry)
    exact ⟨_, _, rfl, h.ok (Wd.Le.refl w) rel rfl⟩
  · exact h.elim
theorem s_max2 : CallS K kMax2 oMax2 := by
  intro w c H xs vs Ex Q rel r h
  unfold oMax2 at h
  split at h
  · obtain ⟨v, u, rfl, rx, ry⟩ := r.inv2
    cases (show _ = _ from rx); cases (show _ = _ from ry)
    exact ⟨_, _, rfl, h.ok (Wd.Le.refl w) rel rfl⟩
  · exact h.elim
end
end Ev

set_option Elab.async false
set_option linter.all false
set_option maxRecDepth 100000
set_option maxHeartbeats 4000000
namespace Ev
open PySem PySem.Spec PyProof.Rows L2 Wf TL
/-! ## statements -/
inductive Fl where
  | nx (ss : Sl) | rt (r : W) | bk (ss : Sl) | ct (ss : Sl)
inductive So where
  | ok (f : Fl) (c : Conf) | exc (x : Xc) (ss : Sl) (c : Conf) | bad
abbrev Es := Sl → Conf → So
def SO (K : PySem.W.Frag) (w : Wd) (X : Xx) (D : Ends) : So → Prop
  | .ok (.nx ss) c => ∀ w' H' σ', w.Le w' → Rel K w' c H' → SR K X.s w' ss σ' → D.nx σ' H'
  | .ok (.bk ss) c => ∀ w' H' σ', w.Le w' → Rel K w' c H' → SR K X.s w' ss σ' → D.bk σ' H'
  | .ok (.ct ss) c => ∀ w' H' σ', w.Le w' → Rel K w' c H' → SR K X.s w' ss σ' → D.ct σ' H'
  | .ok (.rt r) c => ∀ w' H' v, w.Le w' → Rel K w' c H' → Vr K w' r v → D.rt v H'
  | .exc x ss c => ∀ w' H' σ' cls d, w.Le w' → Rel K w' c H' → SR K X.s w' ss σ' → XcR K w' x cls d → X.x cls d σ' H'
  | .bad => False
def tS (K : PySem.W.Frag) (X : Xx) (s : Es) : TS := fun D σ H => ∃ w c ss, Rel K w c H ∧ SR K X.s w ss σ ∧ SO K w X D (s ss c)
def So.lift {α : Type} (ss : Sl) (o : Out α) (f : α → Conf → So) : So := match o with
  | .ok r c => f r c
  | .exc x c => .exc x ss c
  | .bad => .bad
/-- what follows a statement that goes on -/
def So.thn (r : So) (f : Sl → Conf → So) : So := match r with
  | .ok (.nx ss) c => f ss c
  | .ok (.rt v) c => .ok (.rt v) c
  | .ok (.bk ss) c => .ok (.bk ss) c
  | .ok (.ct ss) c => .ok (.ct ss) c
  | .exc x ss c => .exc x ss c
  | .bad => .bad
section
variable {K : PySem.W.Frag} {w w' : Wd} {X : Xx} {D : Ends} {r : So} {ss : Sl} {σ : L2.St} {α β : Type} {R : Wd → α → β → Prop} {o : Out α} {f : α → Conf → So}
theorem SO.mono (l : w.Le w') (h : SO K w X D r) : SO K w' X D r := by
  cases r with
  | ok f c =>
    cases f with
    | nx ss => exact fun a b c l2 => h a b c (l.trans l2)
    | bk ss => exact fun a b c l2 => h a b c (l.trans l2)
    | ct ss => exact fun a b c l2 => h a b c (l.trans l2)
    | rt ss => exact fun a b c l2 => h a b c (l.trans l2)
  | exc x ss c => exact fun a b c d e l2 => h a b c d e (l.trans l2)
  | bad => exact h
theorem SO.lift (h : SO K w X D (So.lift ss o f)) (sr : SR K X.s w ss σ) : OR K R w (fun cls d H' => X.x cls d σ H') (fun v H => ∃ w' r c, w.Le w' ∧ Rel K w' c H ∧ R w' r v ∧ SO K w' X D (f r c)) o := by
  cases o with
  | ok r c => exact fun w2 H' v l2 a b => ⟨w2, r, c, l2, a, b, SO.mono l2 h⟩
  | exc x c => exact fun w2 H' cls d l a b => h w2 H' σ cls d l a (sr.mono l.v) b
  | bad => exact h
/-- what is wanted behind changes -/
theorem SO.thn {f : Sl → Conf → So} (h : SO K w X D (So.thn r f)) : SO K w X { D with nx := fun σ H => ∃ w' c ss, w.Le w' ∧ Rel K w' c H ∧ SR K X.s w' ss σ ∧ SO K w' X D (f ss c) } r := by
  cases r with
  | ok g c =>
    cases g with
    | nx ss => exact fun w2 H2 σ2 l a b => ⟨w2, c, ss, l, a, b, SO.mono l h⟩
    | bk ss => exact h
    | ct ss => exact h
    | rt ss => exact h
  | exc x ss c => exact h
  | bad => exact h
theorem SO.imp {D' : Ends} (h : SO K w X D r) (h1 : ∀ σ H, D.nx σ H → D'.nx σ H) (h2 : ∀ v H, D.rt v H → D'.rt v H) (h3 : ∀ σ H, D.bk σ H → D'.bk σ H) (h4 : ∀ σ H, D.ct σ H → D'.ct σ H) : SO K w X D' r := by
  cases r with
  | ok g c =>
    cases g with
    | nx ss => exact fun w2 H2 σ2 l a b => h1 _ _ (h w2 H2 σ2 l a b)
    | bk ss => exact fun w2 H2 σ2 l a b => h3 _ _ (h w2 H2 σ2 l a b)
    | ct ss => exact fun w2 H2 σ2 l a b => h4 _ _ (h w2 H2 σ2 l a b)
    | rt ss => exact fun w2 H2 σ2 l a b => h2 _ _ (h w2 H2 σ2 l a b)
  | exc x ss c => exact h
  | bad => exact h
end
def sNext : Es := fun ss c => .ok (.nx ss) c
def sSeq (a b : Es) : Es := fun ss c => (a ss c).thn b
def sRet (e : Ee) : Es := fun ss c => So.lift ss (e ss c) fun r c1 => .ok (.rt r) c1
def sRetN : Es := fun ss c => .ok (.rt .non) c
def sDrop (e : Ee) : Es := fun ss c => So.lift ss (e ss c) fun _ c1 => .ok (.nx ss) c1
def sBreak : Es := fun ss c => .ok (.bk ss) c
def sCont : Es := fun ss c => .ok (.ct ss) c
def sIf (t : Et) (a b : Es) : Es := fun ss c => So.lift ss (t ss c) fun x c1 => match x with | true => a ss c1 | false => b ss c1
section
variable {K : PySem.W.Frag} {X : Xx} {ea : Ee} {ba : Et} {a b : Es}
theorem le_next (D : Ends) (σ : L2.St) (H : Hp) (h : tS K X sNext D σ H) : tNext D σ H := by
  obtain ⟨w, c, ss, rel, sr, h⟩ := h
  exact h w H σ (Wd.Le.refl w) rel sr
theorem le_break (D : Ends) (σ : L2.St) (H : Hp) (h : tS K X sBreak D σ H) : tBreak D σ H := by
  obtain ⟨w, c, ss, rel, sr, h⟩ := h
  exact h w H σ (Wd.Le.refl w) rel sr
theorem le_cont (D : Ends) (σ : L2.St) (H : Hp) (h : tS K X sCont D σ H) : tCont D σ H := by
  obtain ⟨w, c, ss, rel, sr, h⟩ := h
  exact h w H σ (Wd.Le.refl w) rel sr
theorem le_seq (D : Ends) (σ : L2.St) (H : Hp) (h : tS K X (sSeq a b) D σ H) : tSeq (tS K X a) (tS K X b) D σ H := by
  obtain ⟨w, c, ss, rel, sr, h⟩ := h
  refine ⟨w, c, ss, rel, sr, (SO.thn h).imp ?_ (fun _ _ h => h) (fun _ _ h => h) (fun _ _ h => h)⟩
  rintro σ1 H1 ⟨w1, c1, ss1, l1, rel1, sr1, h1⟩
  exact ⟨w1, c1, ss1, rel1, sr1, h1⟩
theorem le_ret (D : Ends) (σ : L2.St) (H : Hp) (h : tS K X (sRet ea) D σ H) : tRet (tE K X ea) D σ H := by
  obtain ⟨w, c, ss, rel, sr, h⟩ := h
  refine ⟨w, c, ss, rel, sr, (SO.lift (R := Vr K) h sr).imp ?_⟩
  rintro v1 H1 ⟨w1, x, c1, l1, rel1, r1, h1⟩
  exact h1 w1 H1 v1 (Wd.Le.refl w1) rel1 r1
theorem le_retN (D : Ends) (σ : L2.St) (H : Hp) (h : tS K X sRetN D σ H) : tRetN D σ H := by
  obtain ⟨w, c, ss, rel, sr, h⟩ := h
  exact h w H .non (Wd.Le.refl w) rel rfl
theorem le_drop (D : Ends) (σ : L2.St) (H : Hp) (h : tS K X (sDrop ea) D σ H) : tDrop (tE K X ea) D σ H := by
  obtain ⟨w, c, ss, rel, sr, h⟩ := h
  refine ⟨w, c, ss, rel, sr, (SO.lift (R := Vr K) h sr).imp ?_⟩
  rintro v1 H1 ⟨w1, x, c1, l1, rel1, r1, h1⟩
  exact h1 w1 H1 σ (Wd.Le.refl w1) rel1 (sr.mono l1.v)
theorem le_ifS (D : Ends) (σ : L2.St) (H : Hp) (h : tS K X (sIf ba a b) D σ H) : tIfS (tT K X ba) (tS K X a) (tS K X b) D σ H := by
  obtain ⟨w, c, ss, rel, sr, h⟩ := h
  refine ⟨w, c, ss, rel, sr, (SO.lift (R := EqR) h sr).imp ?_⟩
  rintro v1 H1 ⟨w1, x, c1, l1, rel1, r1, h1⟩
  cases r1
  cases v1
  · rw [if_neg (by decide)]; exact ⟨w1, c1, ss, rel1, sr.mono l1.v, h1⟩
  · rw [if_pos rfl]; exact ⟨w1, c1, ss, rel1, sr.mono l1.v, h1⟩
end
/-! ## targets: names, and tuples of them -/
mutual
inductive Pat where
  | nm (i : Nat) | tup (ps : Pats)
inductive Pats where
  | nil | cons (p : Pat) (ps : Pats)
end
def Pats.len : Pats → Nat
  | .nil => 0
  | .cons _ ps => ps.len + 1
mutual
def wPat : Pat → W → Sl → Option Sl
  | .nm i, x, ss => some (ss.set i (some x))
  | .tup ps, x, ss => (match rdT x with | some xs => if xs.length = ps.len then wPats ps xs ss else none | none => none)
def wPats : Pats → List W → Sl → Option Sl
  | .nil, xs, ss => (match xs with | [] => some ss | _ => none)
  | .cons p ps, xs, ss => (match xs with | x :: xs => (match wPat p x ss with | some ss1 => wPats ps xs ss1 | none => none) | [] => none)
end
mutual
def gPat (K : PySem.W.Frag) : Pat → TG
  | .nm i => gName i
  | .tup ps => gTup K ps.len (gPats K ps)
def gPats (K : PySem.W.Frag) : Pats → TGs
  | .nil => gNil
  | .cons p ps => gCons (gPat K p) (gPats K ps)
end
mutual
def Pat.slots : Pat → List Nat
  | .nm i => [i]
  | .tup ps => ps.slots
def Pats.slots : Pats → List Nat
  | .nil => []
  | .cons p ps => p.slots ++ ps.slots
end
theorem wipe_set {σ : L2.St} {i : Nat} {v : Option V} : ∀ {vs : List Nat}, i ∈ vs → L2.wipe (σ.set i v) vs = L2.wipe σ vs
  | [], h => by cases h
  | j :: vs, h => by
    unfold L2.wipe
    by_cases hj : i ∈ vs
    · rw [wipe_set hj]
    · have e : i = j := by
        rcases List.mem_cons.mp h with e | e
        · exact e
        · exact absurd e hj
      subst e
      clear h
      have gen : ∀ vs : List Nat, i ∉ vs → L2.wipe (σ.set i v) vs = (L2.wipe σ vs).set i v := by
        intro vs
        induction vs with
        | nil => intro _; rfl
        | cons k vs ih =>
          intro h
          simp only [List.mem_cons, not_or] at h
          unfold L2.wipe
          rw [ih h.2, List.set_comm _ _ (by exact h.1)]
      rw [gen vs hj, List.set_set]
mutual
theorem pat_ok {K : PySem.W.Frag} {S : Sx} {w : Wd} {H : Hp} (k0 : Same w.k0 H) : ∀ (p : Pat) (x : W) (v : V) (ss ss' : Sl) (σ : L2.St) (Q : L2.St → Hp → Prop), Vr K w x v → SR K S w ss σ → wPat p x ss = some ss' →
    (∀ σ', SR K S w ss' σ' → (∀ vs, (∀ i ∈ p.slots, i ∈ vs) → L2.wipe σ' vs = L2.wipe σ vs) → Q σ' H) → gPat K p v σ H Q
  | .nm i, x, v, ss, ss', σ, Q, r, sr, e, k => by
    simp only [wPat, Option.some.injEq] at e
    subst e
    exact k _ (sr.set r i) fun vs h => wipe_set (h i List.mem_cons_self)
  | .tup ps, x, v, ss, ss', σ, Q, r, sr, e, k => by
    simp only [wPat] at e
    cases hT : rdT x with
    | none => rw [hT] at e; cases e
    | some xs =>
      rw [hT] at e
      simp only at e
      split at e
      · rename_i hl
        have hh : ∃ a vs, v = .ref a ∧ SqT K H a vs ∧ VrL K w xs vs := by
          cases x with
          | tup ys => cases hT; obtain ⟨a, vs, e, s, q⟩ := r; exact ⟨a, vs, e, SqT.of (k0 _ _ s), q⟩
          | wtp ys => cases hT; obtain ⟨a, vs, e, s, q⟩ := r; exact ⟨a, vs, e, sqT_mono k0 s, q⟩
          | _ => cases hT
        obtain ⟨a, vs, e1, s, r1⟩ := hh
        exact ⟨a, vs, e1, s, by rw [r1.length]; exact hl, pats_ok k0 ps xs vs ss ss' σ Q r1 sr e k⟩
      · cases e
theorem pats_ok {K : PySem.W.Frag} {S : Sx} {w : Wd} {H : Hp} (k0 : Same w.k0 H) : ∀ (ps : Pats) (xs : List W) (vs : List V) (ss ss' : Sl) (σ : L2.St) (Q : L2.St → Hp → Prop), VrL K w xs vs → SR K S w ss σ → wPats ps xs ss = some ss' →
    (∀ σ', SR K S w ss' σ' → (∀ vs, (∀ i ∈ ps.slots, i ∈ vs) → L2.wipe σ' vs = L2.wipe σ vs) → Q σ' H) → gPats K ps vs σ H Q
  | .nil, xs, vs, ss, ss', σ, Q, r, sr, e, k => by
    simp only [wPats] at e
    cases xs with
    | nil =>
      cases e
      cases (show vs = [] from r)
      exact ⟨rfl, k σ sr fun _ _ => rfl⟩
    | cons x xs => cases e
  | .cons p ps, xs, vs, ss, ss', σ, Q, r, sr, e, k => by
    simp only [wPats] at e
    cases xs with
    | nil => cases e
    | cons x xs =>
      obtain ⟨v, r', e1, h1, h2⟩ := r
      simp only at e
      cases hp : wPat p x ss with
      | none => rw [hp] at e; cases e
      | some ss1 =>
        rw [hp] at e
        refine ⟨v, r', e1, pat_ok k0 p x v ss ss1 σ _ h1 sr hp fun σ1 sr1 k1 => ?_⟩
        refine pats_ok k0 ps xs r' ss1 ss' σ1 _ h2 sr1 e fun σ2 sr2 k2 => ?_
        refine k σ2 sr2 fun vs hv => ?_
        rw [k2 vs fun i hi => hv i (List.mem_append.mpr (.inr hi)), k1 vs fun i hi => hv i (List.mem_append.mpr (.inl hi))]
end
def ofOpt {α : Type} (o : Option α) (c : Conf) : Out α := match o with | some x => .ok x c | none => .bad
def sAsg (e : Ee) (p : Pat) : Es := fun ss c => So.lift ss (e ss c) fun x c1 => match wPat p x ss with | some ss1 => .ok (.nx ss1) c1 | none => .bad
section
variable {K : PySem.W.Frag} {X : Xx} {ea : Ee} {p : Pat}
theorem le_asg (D : Ends) (σ : L2.St) (H : Hp) (h : tS K X (sAsg ea p) D σ H) : tAsg (tE K X ea) (gPat K p) D σ H := by
  obtain ⟨w, c, ss, rel, sr, h⟩ := h
  refine ⟨w, c, ss, rel, sr, (SO.lift (R := Vr K) h sr).imp ?_⟩
  rintro v1 H1 ⟨w1, x, c1, l1, rel1, r1, h1⟩
  cases e : wPat p x ss with
  | none => rw [e] at h1; exact h1.elim
  | some ss1 =>
    rw [e] at h1
    exact pat_ok rel1.k0 p x v1 ss ss1 σ _ r1 (sr.mono l1.v) e fun σ' sr' _ => h1 w1 H1 σ' (Wd.Le.refl w1) rel1 sr'
end
/-! ## loops -/
/-- one turn of a for, then the rest -/
def So.turn (r : So) (f : Sl → Conf → So) : So := match r with
  | .ok (.nx ss) c => f ss c
  | .ok (.ct ss) c => f ss c
  | .ok (.bk ss) c => .ok (.nx ss) c
  | .ok (.rt v) c => .ok (.rt v) c
  | .exc x ss c => .exc x ss c
  | .bad => .bad
def goFor (p : Pat) (b : Es) : List W → Sl → Conf → So
  | [], ss, c => .ok (.nx ss) c
  | x :: xs, ss, c => (match wPat p x ss with | some ss1 => (b ss1 c).turn (goFor p b xs) | none => .bad)
section
variable {K : PySem.W.Frag} {X : Xx} {p : Pat} {b : Es}
theorem SO.turn {w : Wd} {D : Ends} {r : So} {f : Sl → Conf → So} (h : SO K w X D (So.turn r f)) : SO K w X { D with nx := fun σ H => ∃ w' c ss, w.Le w' ∧ Rel K w' c H ∧ SR K X.s w' ss σ ∧ SO K w' X D (f ss c), ct := fun σ H => ∃ w' c ss, w.Le w' ∧ Rel K w' c H ∧ SR K X.s w' ss σ ∧ SO K w' X D (f ss c), bk := D.nx } r := by
  cases r with
  | ok g c =>
    cases g with
    | nx ss => exact fun w2 H2 σ2 l a b => ⟨w2, c, ss, l, a, b, SO.mono l h⟩
    | ct ss => exact fun w2 H2 σ2 l a b => ⟨w2, c, ss, l, a, b, SO.mono l h⟩
    | bk ss => exact h
    | rt ss => exact h
  | exc x ss c => exact h
  | bad => exact h
/-- over anything that yields the items xs one by one; the world stays ahead of w0 -/
theorem for_base {w0 : Wd} {c : Conf} {ss : Sl} {σ : L2.St} {H : Hp} {D : Ends} {J : It} {xs : List W} (rel : Rel K w0 c H) (sr : SR K X.s w0 ss σ) (h : SO K w0 X D (goFor p b xs ss c))
    (hstop : ∀ w' c' H', w0.Le w' → Rel K w' c' H' → J.stop xs.length H') (hgo : ∀ i w' c' H', i < xs.length → w0.Le w' → Rel K w' c' H' → J.go i H')
    (hy : ∀ i x w' c' H' v H2, xs[i]? = some x → w0.Le w' → Rel K w' c' H' → J.yld i H' v H2 → ∃ w2, w'.Le w2 ∧ Rel K w2 c' H2 ∧ Vr K w2 x v) :
    ∃ W : Nat → Nat → L2.St → Hp → Prop, (∃ m, W 0 m σ H) ∧ ∀ i m σ H, W i m σ H →
      (J.stop i H ∧ D.nx σ H) ∨ (J.go i H ∧ ∃ N : L2.St → Hp → Prop, (∀ σ' H', N σ' H' → ∃ m', m' < m ∧ W (i + 1) m' σ' H') ∧ ∀ x H', J.yld i H x H' → gPat K p x σ H' fun σ2 H2 => tS K X b { D with nx := N, ct := N, bk := D.nx } σ2 H2) := by
  refine ⟨fun i m σ' H' => m = xs.length - i ∧ i ≤ xs.length ∧ ∃ w' c' ss', w0.Le w' ∧ Rel K w' c' H' ∧ SR K X.s w' ss' σ' ∧ SO K w' X D (goFor p b (xs.drop i) ss' c'), ⟨xs.length, rfl, Nat.zero_le _, w0, c, ss, Wd.Le.refl _, rel, sr, h⟩, ?_⟩
  rintro i m σ' H' ⟨rfl, hi, w', c', ss', l', rel', sr', h'⟩
  by_cases lt : i < xs.length
  · refine .inr ⟨hgo i w' c' H' lt l' rel', fun σ2 H2 => ∃ w2 c2 ss2, w0.Le w2 ∧ Rel K w2 c2 H2 ∧ SR K X.s w2 ss2 σ2 ∧ SO K w2 X D (goFor p b (xs.drop (i + 1)) ss2 c2), fun σ2 H2 q => ⟨xs.length - (i + 1), by omega, rfl, lt, q⟩, fun v H2 hv => ?_⟩
    obtain ⟨w2, l2, rel2, r2⟩ := hy i xs[i] w' c' H' v H2 (List.getElem?_eq_getElem lt) l' rel' hv
    rw [List.drop_eq_getElem_cons lt] at h'
    simp only [goFor] at h'
    cases e : wPat p xs[i] ss' with
    | none => rw [e] at h'; exact h'.elim
    | some ss1 =>
      rw [e] at h'
      refine pat_ok rel2.k0 p _ v ss' ss1 σ' _ r2 (sr'.mono l2.v) e fun σ3 sr3 _ => ⟨w2, c', ss1, rel2, sr3, ((SO.turn h').mono l2).imp ?_ (fun _ _ h => h) (fun _ _ h => h) ?_⟩
      · rintro σ4 H4 ⟨w4, c4, ss4, l4, rel4, sr4, h4⟩
        exact ⟨w4, c4, ss4, (l'.trans l4), rel4, sr4, h4⟩
      · rintro σ4 H4 ⟨w4, c4, ss4, l4, rel4, sr4, h4⟩
        exact ⟨w4, c4, ss4, (l'.trans l4), rel4, sr4, h4⟩
  · have e : i = xs.length := by omega
    subst e
    rw [List.drop_length] at h'
    exact .inl ⟨hstop w' c' H' l' rel', h' w' H' σ' (Wd.Le.refl w') rel' sr'⟩
end
/-- over a list that may change: what stands there at each turn -/
def goForR (k : Nat) (p : Pat) (b : Es) : Nat → Nat → Sl → Conf → So
  | 0, _, _, _ => .bad
  | n + 1, i, ss, c => (match c[k]? with
    | some (.lst ys) => (match ys[i]? with
      | some y => (match wPat p y ss with | some ss1 => (b ss1 c).turn (goForR k p b n (i + 1)) | none => .bad)
      | none => .ok (.nx ss) c)
    | _ => .bad)
def lenR (k : Nat) (c : Conf) : Nat := match c[k]? with | some (.lst ys) => ys.length + 1 | _ => 0
section
variable {K : PySem.W.Frag} {X : Xx} {p : Pat} {b : Es}
theorem for_baseR {w0 : Wd} {c : Conf} {ss : Sl} {σ : L2.St} {H : Hp} {D : Ends} {k n : Nat} (hk : k < w0.n) (rel : Rel K w0 c H) (sr : SR K X.s w0 ss σ) (h : SO K w0 X D (goForR k p b n 0 ss c)) :
    ∃ W : Nat → Nat → L2.St → Hp → Prop, (∃ m, W 0 m σ H) ∧ ∀ i m σ H, W i m σ H →
      ((Itl K (w0.φ k)).stop i H ∧ D.nx σ H) ∨ ((Itl K (w0.φ k)).go i H ∧ ∃ N : L2.St → Hp → Prop, (∀ σ' H', N σ' H' → ∃ m', m' < m ∧ W (i + 1) m' σ' H') ∧ ∀ x H', (Itl K (w0.φ k)).yld i H x H' → gPat K p x σ H' fun σ2 H2 => tS K X b { D with nx := N, ct := N, bk := D.nx } σ2 H2) := by
  refine ⟨fun i m σ' H' => ∃ w' c' ss', w0.Le w' ∧ Rel K w' c' H' ∧ SR K X.s w' ss' σ' ∧ SO K w' X D (goForR k p b m i ss' c'), ⟨n, w0, c, ss, Wd.Le.refl _, rel, sr, h⟩, ?_⟩
  rintro i m σ' H' ⟨w', c', ss', l', rel', sr', h'⟩
  cases m with
  | zero => exact h'.elim
  | succ m =>
    simp only [goForR] at h'
    cases hc : c'[k]? with
    | none => rw [hc] at h'; exact h'.elim
    | some ob =>
      rw [hc] at h'
      cases ob <;> first | exact h'.elim | skip
      rename_i ys
      obtain ⟨ho, h1, _, _, vs, e2, r⟩ := rel'.obj k _ hc rfl
      subst e2
      have fk : w'.φ k = w0.φ k := l'.φ k hk
      rw [fk] at h1
      simp only at h'
      cases hy : ys[i]? with
      | none =>
        rw [hy] at h'
        refine .inl ⟨⟨vs, SqL.of h1, ?_⟩, h' w' H' σ' (Wd.Le.refl w') rel' sr'⟩
        rw [r.length]; exact List.getElem?_eq_none_iff.mp hy
      | some y =>
        rw [hy] at h'
        simp only at h'
        obtain ⟨v, hv, rv⟩ := r.get hy
        refine .inr ⟨⟨vs, v, SqL.of h1, hv⟩, fun σ2 H2 => ∃ w2 c2 ss2, w0.Le w2 ∧ Rel K w2 c2 H2 ∧ SR K X.s w2 ss2 σ2 ∧ SO K w2 X D (goForR k p b m (i + 1) ss2 c2), fun σ2 H2 q => ⟨m, Nat.lt_succ_self m, q⟩, ?_⟩
        rintro v2 H2 ⟨e3, q⟩
        subst e3
        have := q vs (SqL.of h1)
        rw [hv] at this
        cases this
        cases e : wPat p y ss' with
        | none => rw [e] at h'; exact h'.elim
        | some ss1 =>
          rw [e] at h'
          refine pat_ok rel'.k0 p y v ss' ss1 σ' _ rv sr' e fun σ3 sr3 _ => ⟨w', c', ss1, rel', sr3, (SO.turn h').imp ?_ (fun _ _ h => h) (fun _ _ h => h) ?_⟩
          · rintro σ4 H4 ⟨w4, c4, ss4, l4, rel4, sr4, h4⟩
            exact ⟨w4, c4, ss4, (l'.trans l4), rel4, sr4, h4⟩
          · rintro σ4 H4 ⟨w4, c4, ss4, l4, rel4, sr4, h4⟩
            exact ⟨w4, c4, ss4, (l'.trans l4), rel4, sr4, h4⟩
end
/-- the items of a list that stays -/
def itL : W → Option (List W)
  | .lst xs => some xs
  | .wls xs => some xs
  | _ => none
def sForL (e : Ee) (p : Pat) (b : Es) : Es := fun ss c => So.lift ss (e ss c) fun x c1 => match itL x with
  | some xs => goFor p b xs ss c1
  | none => (match x with | .ref k => goForR k p b (lenR k c1) 0 ss c1 | _ => .bad)
def sForT (e : Ee) (p : Pat) (b : Es) : Es := fun ss c => So.lift ss (e ss c) fun x c1 => match rdT x with | some xs => goFor p b xs ss c1 | none => .bad
def sForS (e : Ee) (p : Pat) (b : Es) : Es := fun ss c => So.lift ss (e ss c) fun x c1 => match x with | .str s => goFor p b (s.map fun n => .str [n]) ss c1 | _ => .bad
def rangeW : Nat → Nat → List W
  | _, 0 => []
  | i, n + 1 => .int i :: rangeW (i + 1) n
def sForR (a : Ea) (p : Pat) (b : Es) : Es := fun ss c => So.lift ss (a ss c) fun xs c1 => match xs with | [.int n] => if n ≤ 1000000 ∧ -1000000 ≤ n then goFor p b (rangeW 0 n.toNat) ss c1 else .bad | _ => .bad
def enumW : Nat → List W → List W
  | _, [] => []
  | i, x :: xs => .tup [.int i, x] :: enumW (i + 1) xs
def sForE (a : Ea) (p : Pat) (b : Es) : Es := fun ss c => So.lift ss (a ss c) fun xs c1 => match xs with | [x] => (match itL x with | some xs => goFor p b (enumW 0 xs) ss c1 | none => .bad) | _ => .bad
def sForET (a : Ea) (p : Pat) (b : Es) : Es := fun ss c => So.lift ss (a ss c) fun xs c1 => match xs with | [x] => (match rdT x with | some xs => goFor p b (enumW 0 xs) ss c1 | none => .bad) | _ => .bad
theorem rangeW_len : ∀ (n i : Nat), (rangeW i n).length = n
  | 0, _ => rfl
  | n + 1, i => by simp [rangeW, rangeW_len n]
theorem rangeW_get : ∀ (n i j : Nat), j < n → (rangeW i n)[j]? = some (.int ((i + j : Nat) : Int))
  | 0, _, _, h => by omega
  | n + 1, i, 0, _ => by simp [rangeW]
  | n + 1, i, j + 1, h => by
    simp only [rangeW, List.getElem?_cons_succ]
    rw [rangeW_get n (i + 1) j (by omega)]
    congr 3
    omega
theorem enumW_len : ∀ (xs : List W) (i : Nat), (enumW i xs).length = xs.length
  | [], _ => rfl
  | x :: xs, i => by simp [enumW, enumW_len xs]
theorem enumW_get : ∀ (xs : List W) (i j : Nat), (enumW i xs)[j]? = (xs[j]?).map fun x => .tup [.int ((i + j : Nat) : Int), x]
  | [], _, _ => by simp [enumW]
  | x :: xs, i, 0 => by simp [enumW]
  | x :: xs, i, j + 1 => by
    simp only [enumW, List.getElem?_cons_succ]
    rw [enumW_get xs (i + 1) j]
    congr 1
    funext y
    congr 3
    congr 1
    omega
section
variable {K : PySem.W.Frag} {X : Xx} {ea : Ee} {aa : Ea} {p : Pat} {b : Es}
theorem itL_ok {w : Wd} {x : W} {v : V} {xs : List W} (h : Vr K w x v) (e : itL x = some xs) : ∃ a vs, v = .ref a ∧ SqL K w.k0 a vs ∧ VrL K w xs vs := by
  cases x with
  | lst ys => cases e; obtain ⟨a, vs, e, s, q⟩ := h; exact ⟨a, vs, e, SqL.of s, q⟩
  | wls ys => cases e; obtain ⟨a, vs, e, s, q⟩ := h; exact ⟨a, vs, e, s, q⟩
  | _ => cases e
theorem rdT_k {w : Wd} {x : W} {v : V} {xs : List W} (h : Vr K w x v) (e : rdT x = some xs) : ∃ a vs, v = .ref a ∧ SqT K w.k0 a vs ∧ VrL K w xs vs := by
  cases x with
  | tup ys => cases e; obtain ⟨a, vs, e, s, q⟩ := h; exact ⟨a, vs, e, SqT.of s, q⟩
  | wtp ys => cases e; obtain ⟨a, vs, e, s, q⟩ := h; exact ⟨a, vs, e, s, q⟩
  | _ => cases e
theorem VrL.idx {w : Wd} {xs : List W} {vs : List V} {i : Nat} (r : VrL K w xs vs) (h : i < xs.length) : ∃ v, vs[i]? = some v := by
  have : i < vs.length := by rw [r.length]; exact h
  exact ⟨_, List.getElem?_eq_getElem this⟩
theorem le_forL (D : Ends) (σ : L2.St) (H : Hp) (h : tS K X (sForL ea p b) D σ H) : tFor (iList K (tE K X ea)) (gPat K p) (tS K X b) D σ H := by
  obtain ⟨w, c, ss, rel, sr, h⟩ := h
  refine ⟨w, c, ss, rel, sr, (SO.lift (R := Vr K) h sr).imp ?_⟩
  rintro v1 H1 ⟨w1, x, c1, l1, rel1, r1, h1⟩
  cases e : itL x with
  | none =>
    rw [e] at h1
    cases x <;> first | exact h1.elim | skip
    rename_i k
    obtain ⟨hk, e1⟩ := r1
    refine ⟨_, e1, ?_, for_baseR hk rel1 (sr.mono l1.v) h1⟩
    simp only [lenR] at h1
    cases hc : c1[k]? with
    | none => rw [hc] at h1; exact h1.elim
    | some ob =>
      rw [hc] at h1
      cases ob <;> first | exact h1.elim | skip
      obtain ⟨ho, h2, _, _, vs, e2, r⟩ := rel1.obj k _ hc rfl
      subst e2
      exact ⟨vs, SqL.of h2⟩
  | some xs =>
    rw [e] at h1
    obtain ⟨a, vs, e1, s, r⟩ := itL_ok r1 e
    refine ⟨a, e1, ⟨vs, sqL_mono rel1.k0 s⟩, for_base rel1 (sr.mono l1.v) h1 ?_ ?_ ?_⟩
    · exact fun w' c' H' l' rel' => ⟨vs, sqL_mono rel'.k0 (sqL_mono l'.k0 s), by rw [r.length]; exact Nat.le_refl _⟩
    · intro i w' c' H' hi l' rel'
      obtain ⟨v, hv⟩ := r.idx hi
      exact ⟨vs, v, sqL_mono rel'.k0 (sqL_mono l'.k0 s), hv⟩
    · rintro i y w' c' H' v H2 hy l' rel' ⟨e2, q⟩
      subst e2
      obtain ⟨u, hu, ru⟩ := r.get hy
      have := q vs (sqL_mono rel'.k0 (sqL_mono l'.k0 s))
      rw [hu] at this
      cases this
      exact ⟨w', Wd.Le.refl _, rel', ru.mono l'.v⟩
theorem le_forT (D : Ends) (σ : L2.St) (H : Hp) (h : tS K X (sForT ea p b) D σ H) : tFor (iTup K (tE K X ea)) (gPat K p) (tS K X b) D σ H := by
  obtain ⟨w, c, ss, rel, sr, h⟩ := h
  refine ⟨w, c, ss, rel, sr, (SO.lift (R := Vr K) h sr).imp ?_⟩
  rintro v1 H1 ⟨w1, x, c1, l1, rel1, r1, h1⟩
  cases e : rdT x with
  | none => rw [e] at h1; exact h1.elim
  | some xs =>
    rw [e] at h1
    obtain ⟨a, vs, e1, s, r⟩ := rdT_k r1 e
    refine ⟨a, e1, ⟨vs, sqT_mono rel1.k0 s⟩, for_base rel1 (sr.mono l1.v) h1 ?_ ?_ ?_⟩
    · exact fun w' c' H' l' rel' => ⟨vs, sqT_mono rel'.k0 (sqT_mono l'.k0 s), by rw [r.length]; exact Nat.le_refl _⟩
    · intro i w' c' H' hi l' rel'
      obtain ⟨v, hv⟩ := r.idx hi
      exact ⟨vs, v, sqT_mono rel'.k0 (sqT_mono l'.k0 s), hv⟩
    · rintro i y w' c' H' v H2 hy l' rel' ⟨e2, q⟩
      subst e2
      obtain ⟨u, hu, ru⟩ := r.get hy
      have := q vs (sqT_mono rel'.k0 (sqT_mono l'.k0 s))
      rw [hu] at this
      cases this
      exact ⟨w', Wd.Le.refl _, rel', ru.mono l'.v⟩
theorem le_forS (D : Ends) (σ : L2.St) (H : Hp) (h : tS K X (sForS ea p b) D σ H) : tFor (iStr (tE K X ea)) (gPat K p) (tS K X b) D σ H := by
  obtain ⟨w, c, ss, rel, sr, h⟩ := h
  refine ⟨w, c, ss, rel, sr, (SO.lift (R := Vr K) h sr).imp ?_⟩
  rintro v1 H1 ⟨w1, x, c1, l1, rel1, r1, h1⟩
  cases x <;> first | exact h1.elim | skip
  rename_i s
  cases (show _ = _ from r1)
  have hs : (s.map fun n => W.str [n]).length = (mk s).cps.size := by simp [mk]
  refine ⟨mk s, rfl, for_base rel1 (sr.mono l1.v) h1 ?_ ?_ ?_⟩
  · exact fun w' c' H' l' rel' => by rw [hs]; exact Nat.le_refl _
  · exact fun i w' c' H' hi l' rel' => by rw [hs] at hi; exact hi
  · rintro i y w' c' H' v H2 hy l' rel' ⟨e2, n, en, ev⟩
    subst e2 ev
    refine ⟨w', Wd.Le.refl _, rel', ?_⟩
    have en2 : s[i]? = some n := by simpa [mk] using en
    rw [List.getElem?_map, en2] at hy
    cases hy
    rfl
theorem le_forR (D : Ends) (σ : L2.St) (H : Hp) (h : tS K X (sForR aa p b) D σ H) : tFor (iRng1 (tA K X aa)) (gPat K p) (tS K X b) D σ H := by
  obtain ⟨w, c, ss, rel, sr, h⟩ := h
  refine ⟨w, c, ss, rel, sr, (SO.lift (R := VrL K) h sr).imp ?_⟩
  rintro v1 H1 ⟨w1, x, c1, l1, rel1, r1, h1⟩
  split at h1
  · rename_i n
    split at h1
    · rename_i hn
      obtain ⟨v, rfl, rx⟩ := VrL.inv1 r1
      cases (show _ = _ from rx)
      refine ⟨n, rfl, by omega, by omega, for_base rel1 (sr.mono l1.v) h1 ?_ ?_ ?_⟩
      · exact fun w' c' H' l' rel' => by rw [rangeW_len]; exact Nat.le_refl _
      · exact fun i w' c' H' hi l' rel' => by rw [rangeW_len] at hi; exact hi
      · rintro i y w' c' H' v H2 hy l' rel' ⟨e2, ev⟩
        subst e2 ev
        have hi : i < n.toNat := by
          have := (List.getElem?_eq_some_iff.mp hy).1
          rw [rangeW_len] at this; exact this
        rw [rangeW_get _ _ _ hi] at hy
        cases hy
        refine ⟨w', Wd.Le.refl _, rel', ?_⟩
        show V.int _ = V.int _
        congr 1
    · exact h1.elim
  · exact h1.elim
theorem le_forE (D : Ends) (σ : L2.St) (H : Hp) (h : tS K X (sForE aa p b) D σ H) : tFor (iEnum K (tA K X aa)) (gPat K p) (tS K X b) D σ H := by
  obtain ⟨w, c, ss, rel, sr, h⟩ := h
  refine ⟨w, c, ss, rel, sr, (SO.lift (R := VrL K) h sr).imp ?_⟩
  rintro v1 H1 ⟨w1, x, c1, l1, rel1, r1, h1⟩
  split at h1
  · rename_i x
    obtain ⟨v, rfl, rx⟩ := VrL.inv1 r1
    cases e : itL x with
    | none => rw [e] at h1; exact h1.elim
    | some xs =>
      rw [e] at h1
      obtain ⟨a, vs, e1, s, r⟩ := itL_ok rx e
      subst e1
      refine ⟨a, vs, rfl, sqL_mono rel1.k0 s, for_base rel1 (sr.mono l1.v) h1 ?_ ?_ ?_⟩
      · exact fun w' c' H' l' rel' => ⟨vs, sqL_mono rel'.k0 (sqL_mono l'.k0 s), by rw [r.length, enumW_len]; exact Nat.le_refl _⟩
      · intro i w' c' H' hi l' rel'
        rw [enumW_len] at hi
        obtain ⟨v, hv⟩ := r.idx hi
        exact ⟨vs, v, sqL_mono rel'.k0 (sqL_mono l'.k0 s), hv⟩
      · rintro i y w' c' H' v H2 hy l' rel' ⟨T, z, e1, e2, e3, q⟩
        subst e1 e3
        rw [enumW_get] at hy
        obtain ⟨x2, hx2, ey⟩ := Option.map_eq_some_iff.mp hy
        obtain ⟨u, hu, ru⟩ := r.get hx2
        have := q vs (sqL_mono rel'.k0 (sqL_mono l'.k0 s))
        rw [hu] at this
        cases this
        obtain ⟨le, rel2⟩ := rel'.frz1 e2 (.tup [.int (i : Nat), z])
        refine ⟨_, le, rel2, ?_⟩
        subst ey
        exact ⟨T, _, rfl, upd_same, _, _, rfl, by rw [Nat.zero_add]; rfl, _, _, rfl, (ru.mono l'.v).mono le.v, rfl⟩
  · exact h1.elim
theorem le_forET (D : Ends) (σ : L2.St) (H : Hp) (h : tS K X (sForET aa p b) D σ H) : tFor (iEnumT K (tA K X aa)) (gPat K p) (tS K X b) D σ H := by
  obtain ⟨w, c, ss, rel, sr, h⟩ := h
  refine ⟨w, c, ss, rel, sr, (SO.lift (R := VrL K) h sr).imp ?_⟩
  rintro v1 H1 ⟨w1, x, c1, l1, rel1, r1, h1⟩
  split at h1
  · rename_i x
    obtain ⟨v, rfl, rx⟩ := VrL.inv1 r1
    cases e : rdT x with
    | none => rw [e] at h1; exact h1.elim
    | some xs =>
      rw [e] at h1
      obtain ⟨a, vs, e1, s, r⟩ := rdT_k rx e
      subst e1
      refine ⟨a, vs, rfl, sqT_mono rel1.k0 s, for_base rel1 (sr.mono l1.v) h1 ?_ ?_ ?_⟩
      · exact fun w' c' H' l' rel' => ⟨vs, sqT_mono rel'.k0 (sqT_mono l'.k0 s), by rw [r.length, enumW_len]; exact Nat.le_refl _⟩
      · intro i w' c' H' hi l' rel'
        rw [enumW_len] at hi
        obtain ⟨v, hv⟩ := r.idx hi
        exact ⟨vs, v, sqT_mono rel'.k0 (sqT_mono l'.k0 s), hv⟩
      · rintro i y w' c' H' v H2 hy l' rel' ⟨T, z, e1, e2, e3, q⟩
        subst e1 e3
        rw [enumW_get] at hy
        obtain ⟨x2, hx2, ey⟩ := Option.map_eq_some_iff.mp hy
        obtain ⟨u, hu, ru⟩ := r.get hx2
        have := q vs (sqT_mono rel'.k0 (sqT_mono l'.k0 s))
        rw [hu] at this
        cases this
        obtain ⟨le, rel2⟩ := rel'.frz1 e2 (.tup [.int (i : Nat), z])
        refine ⟨_, le, rel2, ?_⟩
        subst ey
        exact ⟨T, _, rfl, upd_same, _, _, rfl, by rw [Nat.zero_add]; rfl, _, _, rfl, (ru.mono l'.v).mono le.v, rfl⟩
  · exact h1.elim
end
/-! ## while -/
def goWh (t : Et) (b : Es) : Nat → Sl → Conf → So
  | 0, _, _ => .bad
  | n + 1, ss, c => So.lift ss (t ss c) fun x c1 => match x with | true => (b ss c1).turn (goWh t b n) | false => .ok (.nx ss) c1
def sWh (n : Nat) (t : Et) (b : Es) : Es := fun ss c => goWh t b n ss c
section
variable {K : PySem.W.Frag} {X : Xx} {bt : Et} {b : Es} {n : Nat}
theorem le_wh (D : Ends) (σ : L2.St) (H : Hp) (h : tS K X (sWh n bt b) D σ H) : tWhile (tT K X bt) (tS K X b) D σ H := by
  refine wh_by (fun m σ' H' => ∃ w c ss, Rel K w c H' ∧ SR K X.s w ss σ' ∧ SO K w X D (goWh bt b m ss c)) (m0 := n) h ?_
  rintro m σ' H' ⟨w, c, ss, rel, sr, h⟩
  cases m with
  | zero => exact h.elim
  | succ m =>
    refine ⟨w, c, ss, rel, sr, (SO.lift (R := EqR) h sr).imp ?_⟩
    rintro v1 H1 ⟨w1, x, c1, l1, rel1, r1, h1⟩
    cases r1
    refine g_whB (fun e => ?_) fun e => ?_
    · subst e
      refine ⟨w1, c1, ss, rel1, sr.mono l1.v, (SO.turn h1).imp ?_ (fun _ _ h => h) (fun _ _ h => h) ?_⟩
      · rintro σ4 H4 ⟨w4, c4, ss4, l4, rel4, sr4, h4⟩
        exact ⟨m, Nat.lt_succ_self m, w4, c4, ss4, rel4, sr4, h4⟩
      · rintro σ4 H4 ⟨w4, c4, ss4, l4, rel4, sr4, h4⟩
        exact ⟨m, Nat.lt_succ_self m, w4, c4, ss4, rel4, sr4, h4⟩
    · subst e
      exact h1 w1 H1 σ' (Wd.Le.refl w1) rel1 (sr.mono l1.v)
end
/-! ## list comprehensions -/
def goLc (p : Pat) (t : Et) (e : Ee) (s0 : Sl) : List W → List W → Conf → Out (List W)
  | [], acc, c => .ok acc c
  | x :: xs, acc, c => (match wPat p x s0 with
    | some ss1 => (t ss1 c).bind fun k c1 => match k with
      | true => (e ss1 c1).bind fun y c2 => if acc.length ≤ 1000000 then goLc p t e s0 xs (acc ++ [y]) c2 else .bad
      | false => goLc p t e s0 xs acc c1
    | none => .bad)
def goLcR (k : Nat) (p : Pat) (t : Et) (e : Ee) (s0 : Sl) : Nat → Nat → List W → Conf → Out (List W)
  | 0, _, _, _ => .bad
  | n + 1, i, acc, c => (match c[k]? with
    | some (.lst xs) => (match xs[i]? with
      | some x => (match wPat p x s0 with
        | some ss1 => (t ss1 c).bind fun b c1 => match b with
          | true => (e ss1 c1).bind fun y c2 => if acc.length ≤ 1000000 then goLcR k p t e s0 n (i + 1) (acc ++ [y]) c2 else .bad
          | false => goLcR k p t e s0 n (i + 1) acc c1
        | none => .bad)
      | none => .ok acc c)
    | _ => .bad)
def noX (S : Sx) : Xx := ⟨fun _ _ _ _ => False, S⟩
section
variable {K : PySem.W.Frag} {X : Xx} {p : Pat} {bt : Et} {e : Ee} {vs : List Nat}
/-- over anything that yields the items xs -/
theorem lc_base {w0 : Wd} {c : Conf} {ss : Sl} {σ : L2.St} {H : Hp} {Q : VK} {J : It} {xs : List W} {Ex : Value → Option Addr → Hp → Prop} (hv : ∀ i ∈ p.slots, i ∈ vs) (rel : Rel K w0 c H) (sr : SR K X.s w0 ss σ)
    (h : OR K (VrL K) w0 (fun _ _ _ => False) (fun us H' => True) (goLc p bt e (wipeW ss vs) xs [] c))
    (hend : ∀ w' ys us c' H' D, w0.Le w' → Rel K w' c' H' → VrL K w' ys us → w'.hd D = some (.lst us) → w0.hd D = none → goLc p bt e (wipeW ss vs) xs [] c = .ok ys c' → w0.Ahead w' D → Q (.ref D) H')
    (hstop : ∀ w' c' H', w0.Le w' → Rel K w' c' H' → J.stop xs.length H') (hgo : ∀ i w' c' H', i < xs.length → w0.Le w' → Rel K w' c' H' → J.go i H')
    (hy : ∀ i x w' c' H' v H2, xs[i]? = some x → w0.Le w' → Rel K w' c' H' → J.yld i H' v H2 → ∃ w2, w'.Le w2 ∧ Rel K w2 c' H2 ∧ Vr K w2 x v) :
    ∀ D, H D = none → ∃ W : Nat → Nat → Hp → Prop, (∃ m, W 0 m (upd H D (.lst []))) ∧ ∀ i m H, W i m H →
      (J.stop i H ∧ Q (.ref D) H) ∨ (J.go i H ∧ ∃ Nx : Hp → Prop, (∀ H', Nx H' → ∃ m', m' < m ∧ W (i + 1) m' H') ∧ ∀ x H', J.yld i H x H' → gPat K p x (L2.wipe σ vs) H' fun σ2 H2 => L2.wipe σ2 vs = L2.wipe σ vs ∧ tT K (noX X.s) bt σ2 H2 fun b H3 =>
        if b = true then tE K (noX X.s) e σ2 H3 fun y H4 => ∃ acc, H4 D = some (.lst acc) ∧ acc.length < sizeLine ∧ Nx (upd H4 D (.lst (acc ++ [y]))) else Nx H3) := by
  intro D hD
  obtain ⟨lw, relw⟩ := rel.hold hD (same_upd hD) (upd_same (o := .lst []))
  have hd0 : w0.hd D = none := Same.free rel.hd hD
  have k0n : w0.k0 D = none := Same.free rel.k0 hD
  have ah0 : w0.Ahead (w0.hold D (.lst [])) D := ⟨Same.refl _, fun b u q => ⟨ne_of_none q hd0, lw.hd _ _ q⟩, Nat.le_refl _, fun _ _ => rfl⟩
  refine ⟨fun i m H' => m = xs.length - i ∧ i ≤ xs.length ∧ ∃ w' c' acc us, w0.Le w' ∧ w0.Ahead w' D ∧ Rel K w' c' H' ∧ VrL K w' acc us ∧ w'.hd D = some (.lst us) ∧
    goLc p bt e (wipeW ss vs) xs [] c = goLc p bt e (wipeW ss vs) (xs.drop i) acc c', ⟨xs.length, rfl, Nat.zero_le _, _, c, [], [], lw, ah0, relw, rfl, upd_same, rfl⟩, ?_⟩
  rintro i m H' ⟨rfl, hi, w', c', acc, us, l', ah, rel', ra, hdD, eg⟩
  by_cases lt : i < xs.length
  · refine .inr ⟨hgo i w' c' H' lt l' rel', fun H2 => ∃ w2 c2 acc2 us2, w0.Le w2 ∧ w0.Ahead w2 D ∧ Rel K w2 c2 H2 ∧ VrL K w2 acc2 us2 ∧ w2.hd D = some (.lst us2) ∧
      goLc p bt e (wipeW ss vs) xs [] c = goLc p bt e (wipeW ss vs) (xs.drop (i + 1)) acc2 c2, fun H2 q => ⟨xs.length - (i + 1), by omega, rfl, lt, q⟩, fun v H2 hv2 => ?_⟩
    obtain ⟨w2, l2, rel2, r2⟩ := hy i xs[i] w' c' H' v H2 (List.getElem?_eq_getElem lt) l' rel' hv2
    have ahm : ∀ {a b : Wd}, w0.Ahead a D → a.Le b → w0.Ahead b D := fun q l => ⟨q.k0.trans l.k0, fun b u z => ⟨(q.hd b u z).1, l.hd _ _ (q.hd b u z).2⟩, Nat.le_trans q.n l.n, fun i hi => (l.φ i (Nat.lt_of_lt_of_le hi q.n)).trans (q.φ i hi)⟩
    rw [eg, List.drop_eq_getElem_cons lt] at h
    simp only [goLc] at h
    have srw : SR K X.s w2 (wipeW ss vs) (L2.wipe σ vs) := (sr.mono (l'.trans l2).v).wipe vs
    cases ep : wPat p xs[i] (wipeW ss vs) with
    | none => rw [ep] at h; exact h.elim
    | some ss1 =>
      rw [ep] at h
      simp only at h
      refine pat_ok rel2.k0 p _ v _ ss1 (L2.wipe σ vs) _ r2 srw ep fun σ3 sr3 k3 => ⟨?_, w2, c', ss1, rel2, sr3, ?_⟩
      · rw [k3 vs hv]
        have gen : ∀ (vs us : List Nat), (∀ i ∈ us, i ∈ vs) → L2.wipe (L2.wipe σ us) vs = L2.wipe σ vs := by
          intro vs us
          induction us with
          | nil => intro _; rfl
          | cons k us ih =>
            intro h
            show L2.wipe ((L2.wipe σ us).set k none) vs = _
            rw [wipe_set (h k List.mem_cons_self)]
            exact ih fun i hi => h i (List.mem_cons_of_mem _ hi)
        exact gen vs vs fun _ h => h
      have eg2 : goLc p bt e (wipeW ss vs) xs [] c = (bt ss1 c').bind fun k c1 => match k with
          | true => (e ss1 c1).bind fun y c2 => if acc.length ≤ 1000000 then goLc p bt e (wipeW ss vs) (xs.drop (i + 1)) (acc ++ [y]) c2 else .bad
          | false => goLc p bt e (wipeW ss vs) (xs.drop (i + 1)) acc c1 := by
        rw [eg, List.drop_eq_getElem_cons lt]
        simp only [goLc]
        rw [ep]
      cases et : bt ss1 c' with
      | bad => rw [et] at h; exact h.elim
      | exc x c3 => rw [et] at h; exact fun w'' H'' cls d a b c => h w'' H'' cls d ((l'.trans l2).trans a) b c
      | ok k c3 =>
        rw [et] at h eg2
        intro w4 H4 b l4 rel4 eb
        cases eb
        simp only [Out.bind] at h eg2
        cases k with
        | false =>
          rw [if_neg (by decide)]
          exact ⟨w4, c3, acc, us, (l'.trans l2).trans l4, ahm ah (l2.trans l4), rel4, ra.mono (l2.trans l4).v, (l2.trans l4).hd _ _ hdD, eg2⟩
        | true =>
          rw [if_pos rfl]
          refine ⟨w4, c3, ss1, rel4, sr3.mono l4.v, ?_⟩
          simp only at h eg2
          cases ee : e ss1 c3 with
          | bad => rw [ee] at h; exact h.elim
          | exc x c5 => rw [ee] at h; exact fun w'' H'' cls d a b c => h w'' H'' cls d (((l'.trans l2).trans l4).trans a) b c
          | ok y c5 =>
            rw [ee] at h eg2
            simp only at h eg2
            obtain ⟨hl, h⟩ := ite_ok h
            rw [if_pos hl] at eg2
            intro w6 H6 v6 l6 rel6 r6
            have l06 := (l2.trans l4).trans l6
            have hd6 : w6.hd D = some (.lst us) := l06.hd _ _ hdD
            have H6D : H6 D = some (.lst us) := rel6.hd _ _ hd6
            refine ⟨us, H6D, by rw [ra.length]; exact len_lt hl, ?_⟩
            obtain ⟨relN, leN, ahN, hdN⟩ := rel6.rehold (ho' := .lst (us ++ [v6])) hd6 (fun _ => HO.noConfusion) (fun _ _ => HO.noConfusion) (fun _ => HO.noConfusion) (ahm ah l06)
            have lv : w6.Lv (w6.hold D (.lst (us ++ [v6]))) := ⟨Same.refl _, Nat.le_refl _, fun _ _ => rfl⟩
            exact ⟨_, c5, acc ++ [y], us ++ [v6], leN, ahN, relN, ((ra.mono l06.v).app (VrL.one r6)).mono lv, hdN, eg2⟩
  · have ei : i = xs.length := by omega
    subst ei
    rw [List.drop_length] at eg
    exact .inl ⟨hstop w' c' H' l' rel', hend w' acc us c' H' D l' rel' ra hdD hd0 eg ah⟩
/-- what is held now stays -/
def Wd.settle (w : Wd) (p : Addr) (ho : HO) : Wd := { w with k0 := upd w.k0 p ho, hd := fun b => if b = p then none else w.hd b }
theorem Rel.settle {w0 w : Wd} {c : Conf} {H : Hp} {D : Addr} {ho : HO} (rel : Rel K w c H) (hd : w.hd D = some ho) (no : ∀ x, ho ≠ .own x) (no2 : ∀ x y, ho ≠ .frz x y) (nt : ∀ vs, ho ≠ .tup vs) (A : w0.Ahead w D) : w0.Le (w.settle D ho) ∧ Rel K (w.settle D ho) c H ∧ w.Lv (w.settle D ho) := by
  have k0n := rel.dis _ _ hd nt
  have lv : w.Lv (w.settle D ho) := ⟨same_upd k0n, Nat.le_refl _, fun _ _ => rfl⟩
  refine ⟨⟨A.k0.trans lv.k0, fun b u q => ?_, A.n, A.φ⟩, ⟨rel.len, fun b u q => ?_, fun b u q => ?_, fun b u q nt2 => ?_, fun i o q qf => ?_, fun i kvs q => ?_, rel.inj⟩, lv⟩
  · obtain ⟨n1, n2⟩ := A.hd b u q
    show (if b = D then none else w.hd b) = _
    rw [if_neg n1]; exact n2
  · by_cases hb : b = D
    · subst hb
      rw [show (w.settle b ho).k0 b = some ho from upd_same] at q
      cases q
      exact rel.hd _ _ hd
    · rw [show (w.settle D ho).k0 b = w.k0 b from upd_ne hb] at q
      exact rel.k0 _ _ q
  · have q2 : (if b = D then none else w.hd b) = some u := q
    by_cases hb : b = D
    · rw [if_pos hb] at q2; cases q2
    · rw [if_neg hb] at q2; exact rel.hd _ _ q2
  · have q2 : (if b = D then none else w.hd b) = some u := q
    by_cases hb : b = D
    · rw [if_pos hb] at q2; cases q2
    · rw [if_neg hb] at q2
      exact (upd_ne hb).trans (rel.dis _ _ q2 nt2)
  · obtain ⟨u, h1, h2, h3, h4⟩ := rel.obj i o q qf
    have ne : w.φ i ≠ D := fun z => by rw [z, hd] at h3; cases h3
    refine ⟨u, h1, (upd_ne ne).trans h2, ?_, h4.mono lv fun dx qq => ⟨qq, ?_, ?_⟩⟩
    · show (if w.φ i = D then none else w.hd (w.φ i)) = none
      rw [if_neg ne]; exact h3
    · have nd : dx ≠ D := fun z => by
        subst z
        have := rel.hd _ _ hd
        rw [qq] at this
        exact no _ (Option.some.inj this).symm
      exact fun z => (upd_ne nd).trans z
    · intro z
      show (if dx = D then none else w.hd dx) = none
      by_cases hb : dx = D
      · rw [if_pos hb]
      · rw [if_neg hb]; exact z
  · obtain ⟨od, vs, h1, h2⟩ := rel.lkd i kvs q
    have ne : w.φ i ≠ D := fun z => by rw [z, hd] at h1; exact no2 _ _ (Option.some.inj h1)
    refine ⟨od, vs, ?_, h2.mono lv⟩
    show (if w.φ i = D then none else w.hd (w.φ i)) = _
    rw [if_neg ne]; exact h1
/-- what is held now becomes owned -/
def Wd.adopt (w : Wd) (p : Addr) : Wd := { w with hd := fun b => if b = p then none else w.hd b, n := w.n + 1, φ := fun i => if i = w.n then p else w.φ i }
theorem Rel.adopt {w0 w : Wd} {c : Conf} {H : Hp} {D : Addr} {ho : HO} {o : O} (rel : Rel K w c H) (hd : w.hd D = some ho) (no : ∀ x, ho ≠ .own x) (no2 : ∀ x y, ho ≠ .frz x y) (nt : ∀ vs, ho ≠ .tup vs) (A : w0.Ahead w D) (ob : ∃ vs, ho = .lst vs ∧ ∃ xs, o = .lst xs ∧ VrL K w xs vs) :
    w0.Le (w.adopt D) ∧ Rel K (w.adopt D) (c ++ [o]) H ∧ w.Lv (w.adopt D) ∧ Vr K (w.adopt D) (.ref c.length) (.ref D) := by
  have k0n := rel.dis _ _ hd nt
  have fl : ∀ i, i < w.n → (w.adopt D).φ i = w.φ i := fun i h => if_neg (Nat.ne_of_lt h)
  have fn : (w.adopt D).φ w.n = D := if_pos rfl
  have lv : w.Lv (w.adopt D) := ⟨Same.refl _, Nat.le_succ _, fl⟩
  have at' : ∀ i, i < w.n → w.φ i ≠ D := fun i hi z => by
    have : i < c.length := by rw [rel.len]; exact hi
    cases e : c[i] with
    | dicF kvs =>
      obtain ⟨od, vs, k, _⟩ := rel.lkd i kvs (by rw [List.getElem?_eq_getElem this, e])
      rw [z, hd] at k
      exact no2 _ _ (Option.some.inj k)
    | _ =>
      obtain ⟨u, h1, h2, h3, _⟩ := rel.obj i _ (by rw [List.getElem?_eq_getElem this, e]) rfl
      rw [z, hd] at h3; cases h3
  have hdn : ∀ b, b = D ∨ w.hd b = none → (w.adopt D).hd b = none := fun b h => by
    show (if b = D then none else w.hd b) = none
    by_cases hb : b = D
    · rw [if_pos hb]
    · rw [if_neg hb]; rcases h with h | h
      · exact absurd h hb
      · exact h
  refine ⟨⟨A.k0, fun b u q => ?_, Nat.le_trans A.n (Nat.le_succ _), fun i hi => (fl i (Nat.lt_of_lt_of_le hi A.n)).trans (A.φ i hi)⟩, ⟨by rw [List.length_append, rel.len]; rfl, rel.k0, fun b u q => ?_, fun b u q nt2 => ?_, fun i u q qf => ?_, fun i kvs q => ?_, fun i j hi hj q => ?_⟩, lv, ?_⟩
  · obtain ⟨n1, n2⟩ := A.hd b u q
    show (if b = D then none else w.hd b) = _
    rw [if_neg n1]; exact n2
  · have q2 : (if b = D then none else w.hd b) = some u := q
    by_cases hb : b = D
    · rw [if_pos hb] at q2; cases q2
    · rw [if_neg hb] at q2; exact rel.hd _ _ q2
  · have q2 : (if b = D then none else w.hd b) = some u := q
    by_cases hb : b = D
    · rw [if_pos hb] at q2; cases q2
    · rw [if_neg hb] at q2; exact rel.dis _ _ q2 nt2
  · by_cases hi : i < w.n
    · rw [fl i hi]
      have q2 : c[i]? = some u := by rw [List.getElem?_append_left (by rw [rel.len]; exact hi)] at q; exact q
      obtain ⟨x, h1, h2, h3, h4⟩ := rel.obj i u q2 qf
      exact ⟨x, h1, h2, hdn _ (.inr h3), h4.mono lv fun dx qq => ⟨qq, id, fun z => hdn _ (.inr z)⟩⟩
    · rw [List.getElem?_append_right (by rw [rel.len]; omega), rel.len] at q
      have : i - w.n = 0 := by
        rcases Nat.eq_zero_or_pos (i - w.n) with z | z
        · exact z
        · rw [List.getElem?_eq_none (by have : 0 < i - w.n := z; simp; omega)] at q; cases q
      have ei : i = w.n := by omega
      subst ei
      rw [this] at q
      cases q
      rw [fn]
      obtain ⟨vs, e1, xs, e2, r⟩ := ob
      subst e1 e2
      exact ⟨_, rel.hd _ _ hd, k0n, hdn _ (.inl rfl), vs, rfl, r.mono lv⟩
  · by_cases hi : i < w.n
    · rw [fl i hi]
      have q2 : c[i]? = some (.dicF kvs) := by rw [List.getElem?_append_left (by rw [rel.len]; exact hi)] at q; exact q
      obtain ⟨od, vs, h1, h2⟩ := rel.lkd i kvs q2
      refine ⟨od, vs, ?_, h2.mono lv⟩
      show (if w.φ i = D then none else w.hd (w.φ i)) = _
      rw [if_neg (at' i hi)]; exact h1
    · rw [List.getElem?_append_right (by rw [rel.len]; omega), rel.len] at q
      obtain ⟨vs, e1, xs, e2, r⟩ := ob
      rcases Nat.eq_zero_or_pos (i - w.n) with z | z
      · rw [z, e2] at q; cases q
      · rw [List.getElem?_eq_none (by have : 0 < i - w.n := z; simp; omega)] at q; cases q
  · have hi' : i < w.n + 1 := hi
    have hj' : j < w.n + 1 := hj
    by_cases a : i < w.n
    · by_cases b : j < w.n
      · rw [fl i a, fl j b] at q; exact rel.inj i j a b q
      · have : j = w.n := by omega
        subst this
        rw [fl i a, fn] at q
        exact absurd q (at' i a)
    · have : i = w.n := by omega
      subst this
      by_cases b : j < w.n
      · rw [fn, fl j b] at q
        exact absurd q.symm (at' j b)
      · omega
  · refine ⟨?_, ?_⟩
    · rw [rel.len]; exact Nat.lt_succ_self _
    · rw [rel.len, fn]
end
/-! ### over what -/
def eLcF (o : Bool) (r : Out (List W)) : Out W := match r with
  | .ok ys c1 => if o = true then .ok (.ref c1.length) (c1 ++ [.lst ys]) else .ok (.lst ys) c1
  | _ => .bad
def eLcX (o : Bool) (p : Pat) (t : Et) (e : Ee) (vs : List Nat) (xs : List W) (ss : Sl) (c : Conf) : Out W := eLcF o (goLc p t e (wipeW ss vs) xs [] c)
def eLcL (o : Bool) (ea : Ee) (p : Pat) (t : Et) (e : Ee) (vs : List Nat) : Ee := fun ss c => (ea ss c).bind fun x c1 => match itL x with
  | some xs => eLcX o p t e vs xs ss c1
  | none => (match x with | .ref k => eLcF o (goLcR k p t e (wipeW ss vs) (lenR k c1) 0 [] c1) | _ => .bad)
def eLcT (o : Bool) (ea : Ee) (p : Pat) (t : Et) (e : Ee) (vs : List Nat) : Ee := fun ss c => (ea ss c).bind fun x c1 => match rdT x with | some xs => eLcX o p t e vs xs ss c1 | none => .bad
def eLcS (o : Bool) (ea : Ee) (p : Pat) (t : Et) (e : Ee) (vs : List Nat) : Ee := fun ss c => (ea ss c).bind fun x c1 => match x with | .str s => eLcX o p t e vs (s.map fun n => .str [n]) ss c1 | _ => .bad
def eLcR (o : Bool) (a : Ea) (p : Pat) (t : Et) (e : Ee) (vs : List Nat) : Ee := fun ss c => (a ss c).bind fun xs c1 => match xs with | [.int n] => if n ≤ 1000000 ∧ -1000000 ≤ n then eLcX o p t e vs (rangeW 0 n.toNat) ss c1 else .bad | _ => .bad
def eLcE (o : Bool) (a : Ea) (p : Pat) (t : Et) (e : Ee) (vs : List Nat) : Ee := fun ss c => (a ss c).bind fun xs c1 => match xs with | [x] => (match itL x with | some xs => eLcX o p t e vs (enumW 0 xs) ss c1 | none => .bad) | _ => .bad
section
variable {K : PySem.W.Frag} {X : Xx} {p : Pat} {bt : Et} {e : Ee} {vs : List Nat} {ea : Ee} {aa : Ea} {o : Bool}
theorem fin_ok {w0 : Wd} {Q : VK} {Ex : Value → Option Addr → Hp → Prop} {G : Out (List W)} (h : OR K (Vr K) w0 Ex Q (eLcF o G)) : OR K (VrL K) w0 (fun _ _ _ => False) (fun us H' => True) G ∧
    ∀ w' ys us c' H' D, w0.Le w' → Rel K w' c' H' → VrL K w' ys us → w'.hd D = some (.lst us) → w0.hd D = none → G = .ok ys c' → w0.Ahead w' D → Q (.ref D) H' := by
  constructor
  · cases G with
    | ok ys c1 => exact fun _ _ _ _ _ _ => True.intro
    | exc x c1 => exact h.elim
    | bad => exact h.elim
  · intro w' ys us c' H' D l' rel' ra hdD hd0 eg ah
    subst eg
    simp only [eLcF] at h
    cases o with
    | false =>
      rw [if_neg (by decide)] at h
      obtain ⟨le, rel2, lv⟩ := rel'.settle hdD (fun _ => HO.noConfusion) (fun _ _ => HO.noConfusion) (fun _ => HO.noConfusion) ah
      exact h.ok le rel2 ⟨D, us, rfl, upd_same, ra.mono lv⟩
    | true =>
      rw [if_pos rfl] at h
      obtain ⟨le, rel2, lv, fn⟩ := rel'.adopt (o := .lst ys) hdD (fun _ => HO.noConfusion) (fun _ _ => HO.noConfusion) (fun _ => HO.noConfusion) ah ⟨us, rfl, ys, rfl, ra⟩
      exact h.ok le rel2 fn
/-- over a list that may change -/
theorem lc_baseR {w0 : Wd} {c : Conf} {ss : Sl} {σ : L2.St} {H : Hp} {Q : VK} {k n : Nat} (hk : k < w0.n) (hv : ∀ i ∈ p.slots, i ∈ vs) (rel : Rel K w0 c H) (sr : SR K X.s w0 ss σ)
    (h : OR K (VrL K) w0 (fun _ _ _ => False) (fun us H' => True) (goLcR k p bt e (wipeW ss vs) n 0 [] c))
    (hend : ∀ w' ys us c' H' D, w0.Le w' → Rel K w' c' H' → VrL K w' ys us → w'.hd D = some (.lst us) → w0.hd D = none → goLcR k p bt e (wipeW ss vs) n 0 [] c = .ok ys c' → w0.Ahead w' D → Q (.ref D) H') :
    ∀ D, H D = none → ∃ W : Nat → Nat → Hp → Prop, (∃ m, W 0 m (upd H D (.lst []))) ∧ ∀ i m H, W i m H →
      ((Itl K (w0.φ k)).stop i H ∧ Q (.ref D) H) ∨ ((Itl K (w0.φ k)).go i H ∧ ∃ Nx : Hp → Prop, (∀ H', Nx H' → ∃ m', m' < m ∧ W (i + 1) m' H') ∧ ∀ x H', (Itl K (w0.φ k)).yld i H x H' → gPat K p x (L2.wipe σ vs) H' fun σ2 H2 => L2.wipe σ2 vs = L2.wipe σ vs ∧ tT K (noX X.s) bt σ2 H2 fun b H3 =>
        if b = true then tE K (noX X.s) e σ2 H3 fun y H4 => ∃ acc, H4 D = some (.lst acc) ∧ acc.length < sizeLine ∧ Nx (upd H4 D (.lst (acc ++ [y]))) else Nx H3) := by
  intro D hD
  obtain ⟨lw, relw⟩ := rel.hold hD (same_upd hD) (upd_same (o := .lst []))
  have hd0 : w0.hd D = none := Same.free rel.hd hD
  have ah0 : w0.Ahead (w0.hold D (.lst [])) D := ⟨Same.refl _, fun b u q => ⟨ne_of_none q hd0, lw.hd _ _ q⟩, Nat.le_refl _, fun _ _ => rfl⟩
  refine ⟨fun i m H' => ∃ w' c' acc us, w0.Le w' ∧ w0.Ahead w' D ∧ Rel K w' c' H' ∧ VrL K w' acc us ∧ w'.hd D = some (.lst us) ∧
    goLcR k p bt e (wipeW ss vs) n 0 [] c = goLcR k p bt e (wipeW ss vs) m i acc c', ⟨n, _, c, [], [], lw, ah0, relw, rfl, upd_same, rfl⟩, ?_⟩
  rintro i m H' ⟨w', c', acc, us, l', ah, rel', ra, hdD, eg⟩
  rw [eg] at h
  cases m with
  | zero => exact h.elim
  | succ m =>
  cases hc : c'[k]? with
  | none => simp only [goLcR, hc] at h; exact h.elim
  | some ob =>
    cases ob with
    | lst ys =>
      obtain ⟨ho, h1, _, _, ws, e2, r⟩ := rel'.obj k _ hc rfl
      subst e2
      have fk : w'.φ k = w0.φ k := l'.φ k hk
      rw [fk] at h1
      cases hy : ys[i]? with
      | none =>
        refine .inl ⟨⟨ws, SqL.of h1, ?_⟩, hend w' acc us c' H' D l' rel' ra hdD hd0 ?_ ah⟩
        · rw [r.length]; exact List.getElem?_eq_none_iff.mp hy
        · rw [eg]; simp only [goLcR, hc, hy]
      | some y =>
        obtain ⟨v, hvv, rv⟩ := r.get hy
        refine .inr ⟨⟨ws, v, SqL.of h1, hvv⟩, fun H2 => ∃ w2 c2 acc2 us2, w0.Le w2 ∧ w0.Ahead w2 D ∧ Rel K w2 c2 H2 ∧ VrL K w2 acc2 us2 ∧ w2.hd D = some (.lst us2) ∧
          goLcR k p bt e (wipeW ss vs) n 0 [] c = goLcR k p bt e (wipeW ss vs) m (i + 1) acc2 c2, fun H2 q => ⟨m, Nat.lt_succ_self m, q⟩, ?_⟩
        rintro v2 H2 ⟨e3, q⟩
        subst e3
        have := q ws (SqL.of h1)
        rw [hvv] at this
        cases this
        have ahm : ∀ {a b : Wd}, w0.Ahead a D → a.Le b → w0.Ahead b D := fun q l => ⟨q.k0.trans l.k0, fun b u z => ⟨(q.hd b u z).1, l.hd _ _ (q.hd b u z).2⟩, Nat.le_trans q.n l.n, fun i hi => (l.φ i (Nat.lt_of_lt_of_le hi q.n)).trans (q.φ i hi)⟩
        have srw : SR K X.s w' (wipeW ss vs) (L2.wipe σ vs) := (sr.mono l'.v).wipe vs
        cases ep : wPat p y (wipeW ss vs) with
        | none => simp only [goLcR, hc, hy, ep] at h; exact h.elim
        | some ss1 =>
          have eg2 : goLcR k p bt e (wipeW ss vs) n 0 [] c = (bt ss1 c').bind fun b c1 => match b with
              | true => (e ss1 c1).bind fun y c2 => if acc.length ≤ 1000000 then goLcR k p bt e (wipeW ss vs) m (i + 1) (acc ++ [y]) c2 else .bad
              | false => goLcR k p bt e (wipeW ss vs) m (i + 1) acc c1 := by
            rw [eg]; simp only [goLcR, hc, hy, ep]
          rw [← eg, eg2] at h
          refine pat_ok rel'.k0 p y v _ ss1 (L2.wipe σ vs) _ rv srw ep fun σ3 sr3 k3 => ⟨?_, w', c', ss1, rel', sr3, ?_⟩
          · rw [k3 vs hv]
            have gen : ∀ (vs us : List Nat), (∀ i ∈ us, i ∈ vs) → L2.wipe (L2.wipe σ us) vs = L2.wipe σ vs := by
              intro vs us
              induction us with
              | nil => intro _; rfl
              | cons k us ih =>
                intro h
                show L2.wipe ((L2.wipe σ us).set k none) vs = _
                rw [wipe_set (h k List.mem_cons_self)]
                exact ih fun i hi => h i (List.mem_cons_of_mem _ hi)
            exact gen vs vs fun _ h => h
          cases et : bt ss1 c' with
          | bad => rw [et] at h; exact h.elim
          | exc x c3 => rw [et] at h; exact fun w'' H'' cls d a b c => h w'' H'' cls d (l'.trans a) b c
          | ok kk c3 =>
            rw [et] at h eg2
            intro w4 H4 b l4 rel4 eb
            cases eb
            simp only [Out.bind] at h eg2
            cases kk with
            | false =>
              rw [if_neg (by decide)]
              exact ⟨w4, c3, acc, us, l'.trans l4, ahm ah l4, rel4, ra.mono l4.v, l4.hd _ _ hdD, eg2⟩
            | true =>
              rw [if_pos rfl]
              refine ⟨w4, c3, ss1, rel4, sr3.mono l4.v, ?_⟩
              simp only at h eg2
              cases ee : e ss1 c3 with
              | bad => rw [ee] at h; exact h.elim
              | exc x c5 => rw [ee] at h; exact fun w'' H'' cls d a b c => h w'' H'' cls d ((l'.trans l4).trans a) b c
              | ok y c5 =>
                rw [ee] at h eg2
                simp only at h eg2
                obtain ⟨hl, h⟩ := ite_ok h
                rw [if_pos hl] at eg2
                intro w6 H6 v6 l6 rel6 r6
                have l06 := l4.trans l6
                have hd6 : w6.hd D = some (.lst us) := l06.hd _ _ hdD
                have H6D : H6 D = some (.lst us) := rel6.hd _ _ hd6
                refine ⟨us, H6D, by rw [ra.length]; exact len_lt hl, ?_⟩
                obtain ⟨relN, leN, ahN, hdN⟩ := rel6.rehold (ho' := .lst (us ++ [v6])) hd6 (fun _ => HO.noConfusion) (fun _ _ => HO.noConfusion) (fun _ => HO.noConfusion) (ahm ah l06)
                have lv : w6.Lv (w6.hold D (.lst (us ++ [v6]))) := ⟨Same.refl _, Nat.le_refl _, fun _ _ => rfl⟩
                exact ⟨_, c5, acc ++ [y], us ++ [v6], leN, ahN, relN, ((ra.mono l06.v).app (VrL.one r6)).mono lv, hdN, eg2⟩
    | _ => simp only [goLcR, hc] at h; exact h.elim
/-- the end of a comprehension -/
theorem lc_fin {w0 : Wd} {c : Conf} {ss : Sl} {σ : L2.St} {H : Hp} {Q : VK} {J : It} {xs : List W} {Ex : Value → Option Addr → Hp → Prop} (hv : ∀ i ∈ p.slots, i ∈ vs) (rel : Rel K w0 c H) (sr : SR K X.s w0 ss σ)
    (h : OR K (Vr K) w0 Ex Q (eLcX o p bt e vs xs ss c))
    (hstop : ∀ w' c' H', w0.Le w' → Rel K w' c' H' → J.stop xs.length H') (hgo : ∀ i w' c' H', i < xs.length → w0.Le w' → Rel K w' c' H' → J.go i H')
    (hy : ∀ i x w' c' H' v H2, xs[i]? = some x → w0.Le w' → Rel K w' c' H' → J.yld i H' v H2 → ∃ w2, w'.Le w2 ∧ Rel K w2 c' H2 ∧ Vr K w2 x v) :
    ∀ D, H D = none → ∃ W : Nat → Nat → Hp → Prop, (∃ m, W 0 m (upd H D (.lst []))) ∧ ∀ i m H, W i m H →
      (J.stop i H ∧ Q (.ref D) H) ∨ (J.go i H ∧ ∃ Nx : Hp → Prop, (∀ H', Nx H' → ∃ m', m' < m ∧ W (i + 1) m' H') ∧ ∀ x H', J.yld i H x H' → gPat K p x (L2.wipe σ vs) H' fun σ2 H2 => L2.wipe σ2 vs = L2.wipe σ vs ∧ tT K (noX X.s) bt σ2 H2 fun b H3 =>
        if b = true then tE K (noX X.s) e σ2 H3 fun y H4 => ∃ acc, H4 D = some (.lst acc) ∧ acc.length < sizeLine ∧ Nx (upd H4 D (.lst (acc ++ [y]))) else Nx H3) := by
  obtain ⟨hok, hend⟩ := fin_ok h
  exact lc_base (Ex := Ex) hv rel sr hok hend hstop hgo hy
theorem le_lcL (hv : ∀ i ∈ p.slots, i ∈ vs) (σ : L2.St) (H : Hp) (Q : VK) (h : tE K X (eLcL o ea p bt e vs) σ H Q) : tLc (iList K (tE K X ea)) (gPat K p) (tT K (noX X.s) bt) (tE K (noX X.s) e) vs σ H Q := by
  obtain ⟨w, c, ss, rel, sr, h⟩ := h
  refine ⟨w, c, ss, rel, sr, (OR.bind (R := Vr K) h).imp ?_⟩
  rintro v1 H1 ⟨w1, x, c1, l1, rel1, r1, h1⟩
  cases e1 : itL x with
  | none =>
    rw [e1] at h1
    cases x <;> first | exact h1.elim | skip
    rename_i k
    obtain ⟨hk, e2⟩ := r1
    simp only at h1
    obtain ⟨hok, hend⟩ := fin_ok h1
    refine ⟨_, e2, ?_, lc_baseR hk hv rel1 (sr.mono l1.v) hok hend⟩
    simp only [lenR] at hok
    cases hc : c1[k]? with
    | none => rw [hc] at hok; exact hok.elim
    | some ob =>
      rw [hc] at hok
      cases ob <;> first | exact hok.elim | skip
      obtain ⟨ho, h2, _, _, us, e3, r⟩ := rel1.obj k _ hc rfl
      subst e3
      exact ⟨us, SqL.of h2⟩
  | some xs =>
    rw [e1] at h1
    obtain ⟨a, us, e2, s, r⟩ := itL_ok r1 e1
    refine ⟨a, e2, ⟨us, sqL_mono rel1.k0 s⟩, lc_fin (o := o) hv rel1 (sr.mono l1.v) h1 ?_ ?_ ?_⟩
    · exact fun w' c' H' l' rel' => ⟨us, sqL_mono rel'.k0 (sqL_mono l'.k0 s), by rw [r.length]; exact Nat.le_refl _⟩
    · intro i w' c' H' hi l' rel'
      obtain ⟨v, hv⟩ := r.idx hi
      exact ⟨us, v, sqL_mono rel'.k0 (sqL_mono l'.k0 s), hv⟩
    · rintro i y w' c' H' v H2 hy l' rel' ⟨e2, q⟩
      subst e2
      obtain ⟨u, hu, ru⟩ := r.get hy
      have := q us (sqL_mono rel'.k0 (sqL_mono l'.k0 s))
      rw [hu] at this
      cases this
      exact ⟨w', Wd.Le.refl _, rel', ru.mono l'.v⟩
theorem le_lcT (hv : ∀ i ∈ p.slots, i ∈ vs) (σ : L2.St) (H : Hp) (Q : VK) (h : tE K X (eLcT o ea p bt e vs) σ H Q) : tLc (iTup K (tE K X ea)) (gPat K p) (tT K (noX X.s) bt) (tE K (noX X.s) e) vs σ H Q := by
  obtain ⟨w, c, ss, rel, sr, h⟩ := h
  refine ⟨w, c, ss, rel, sr, (OR.bind (R := Vr K) h).imp ?_⟩
  rintro v1 H1 ⟨w1, x, c1, l1, rel1, r1, h1⟩
  cases e1 : rdT x with
  | none => rw [e1] at h1; exact h1.elim
  | some xs =>
    rw [e1] at h1
    obtain ⟨a, us, e2, s, r⟩ := rdT_k r1 e1
    refine ⟨a, e2, ⟨us, sqT_mono rel1.k0 s⟩, lc_fin (o := o) hv rel1 (sr.mono l1.v) h1 ?_ ?_ ?_⟩
    · exact fun w' c' H' l' rel' => ⟨us, sqT_mono rel'.k0 (sqT_mono l'.k0 s), by rw [r.length]; exact Nat.le_refl _⟩
    · intro i w' c' H' hi l' rel'
      obtain ⟨v, hv⟩ := r.idx hi
      exact ⟨us, v, sqT_mono rel'.k0 (sqT_mono l'.k0 s), hv⟩
    · rintro i y w' c' H' v H2 hy l' rel' ⟨e2, q⟩
      subst e2
      obtain ⟨u, hu, ru⟩ := r.get hy
      have := q us (sqT_mono rel'.k0 (sqT_mono l'.k0 s))
      rw [hu] at this
      cases this
      exact ⟨w', Wd.Le.refl _, rel', ru.mono l'.v⟩
theorem le_lcS (hv : ∀ i ∈ p.slots, i ∈ vs) (σ : L2.St) (H : Hp) (Q : VK) (h : tE K X (eLcS o ea p bt e vs) σ H Q) : tLc (iStr (tE K X ea)) (gPat K p) (tT K (noX X.s) bt) (tE K (noX X.s) e) vs σ H Q := by
  obtain ⟨w, c, ss, rel, sr, h⟩ := h
  refine ⟨w, c, ss, rel, sr, (OR.bind (R := Vr K) h).imp ?_⟩
  rintro v1 H1 ⟨w1, x, c1, l1, rel1, r1, h1⟩
  cases x <;> first | exact h1.elim | skip
  rename_i s
  cases (show _ = _ from r1)
  have hs : (s.map fun n => W.str [n]).length = (mk s).cps.size := by simp [mk]
  refine ⟨mk s, rfl, lc_fin (o := o) hv rel1 (sr.mono l1.v) h1 ?_ ?_ ?_⟩
  · exact fun w' c' H' l' rel' => by rw [hs]; exact Nat.le_refl _
  · exact fun i w' c' H' hi l' rel' => by rw [hs] at hi; exact hi
  · rintro i y w' c' H' v H2 hy l' rel' ⟨e2, n, en, ev⟩
    subst e2 ev
    refine ⟨w', Wd.Le.refl _, rel', ?_⟩
    have en2 : s[i]? = some n := by simpa [mk] using en
    rw [List.getElem?_map, en2] at hy
    cases hy
    rfl
theorem le_lcR (hv : ∀ i ∈ p.slots, i ∈ vs) (σ : L2.St) (H : Hp) (Q : VK) (h : tE K X (eLcR o aa p bt e vs) σ H Q) : tLc (iRng1 (tA K X aa)) (gPat K p) (tT K (noX X.s) bt) (tE K (noX X.s) e) vs σ H Q := by
  obtain ⟨w, c, ss, rel, sr, h⟩ := h
  refine ⟨w, c, ss, rel, sr, (OR.bind (R := VrL K) h).imp ?_⟩
  rintro v1 H1 ⟨w1, x, c1, l1, rel1, r1, h1⟩
  split at h1
  · rename_i n
    obtain ⟨hn, h1⟩ := ite_ok h1
    obtain ⟨v, rfl, rx⟩ := VrL.inv1 r1
    cases (show _ = _ from rx)
    refine ⟨n, rfl, by omega, by omega, lc_fin (o := o) hv rel1 (sr.mono l1.v) h1 ?_ ?_ ?_⟩
    · exact fun w' c' H' l' rel' => by rw [rangeW_len]; exact Nat.le_refl _
    · exact fun i w' c' H' hi l' rel' => by rw [rangeW_len] at hi; exact hi
    · rintro i y w' c' H' v H2 hy l' rel' ⟨e2, ev⟩
      subst e2 ev
      have hi : i < n.toNat := by
        have := (List.getElem?_eq_some_iff.mp hy).1
        rw [rangeW_len] at this; exact this
      rw [rangeW_get _ _ _ hi] at hy
      cases hy
      refine ⟨w', Wd.Le.refl _, rel', ?_⟩
      show V.int _ = V.int _
      congr 1
  · exact h1.elim
theorem le_lcE (hv : ∀ i ∈ p.slots, i ∈ vs) (σ : L2.St) (H : Hp) (Q : VK) (h : tE K X (eLcE o aa p bt e vs) σ H Q) : tLc (iEnum K (tA K X aa)) (gPat K p) (tT K (noX X.s) bt) (tE K (noX X.s) e) vs σ H Q := by
  obtain ⟨w, c, ss, rel, sr, h⟩ := h
  refine ⟨w, c, ss, rel, sr, (OR.bind (R := VrL K) h).imp ?_⟩
  rintro v1 H1 ⟨w1, x, c1, l1, rel1, r1, h1⟩
  split at h1
  · rename_i x
    obtain ⟨v, rfl, rx⟩ := VrL.inv1 r1
    cases e : itL x with
    | none => rw [e] at h1; exact h1.elim
    | some xs =>
      rw [e] at h1
      obtain ⟨a, vs, e1, s, r⟩ := itL_ok rx e
      subst e1
      refine ⟨a, vs, rfl, sqL_mono rel1.k0 s, lc_fin (o := o) hv rel1 (sr.mono l1.v) h1 ?_ ?_ ?_⟩
      · exact fun w' c' H' l' rel' => ⟨vs, sqL_mono rel'.k0 (sqL_mono l'.k0 s), by rw [r.length, enumW_len]; exact Nat.le_refl _⟩
      · intro i w' c' H' hi l' rel'
        rw [enumW_len] at hi
        obtain ⟨v, hv⟩ := r.idx hi
        exact ⟨vs, v, sqL_mono rel'.k0 (sqL_mono l'.k0 s), hv⟩
      · rintro i y w' c' H' v H2 hy l' rel' ⟨T, z, e1, e2, e3, q⟩
        subst e1 e3
        rw [enumW_get] at hy
        obtain ⟨x2, hx2, ey⟩ := Option.map_eq_some_iff.mp hy
        obtain ⟨u, hu, ru⟩ := r.get hx2
        have := q vs (sqL_mono rel'.k0 (sqL_mono l'.k0 s))
        rw [hu] at this
        cases this
        obtain ⟨le, rel2⟩ := rel'.frz1 e2 (.tup [.int (i : Nat), z])
        refine ⟨_, le, rel2, ?_⟩
        subst ey
        exact ⟨T, _, rfl, upd_same, _, _, rfl, by rw [Nat.zero_add]; rfl, _, _, rfl, (ru.mono l'.v).mono le.v, rfl⟩
  · exact h1.elim
end
end Ev

set_option Elab.async false
set_option linter.all false
set_option maxRecDepth 100000
set_option maxHeartbeats 4000000
namespace Ev
open PySem PySem.Spec PyProof.Rows L2 Wf TL
/-! ## defs -/
abbrev Fn := List W → Conf → Out W
def spE (K : PySem.W.Frag) (e : Fn) : Sp := fun vs H Q E => ∃ w c ws, Rel K w c H ∧ VrL K w ws vs ∧ OR K (Vr K) w (fun cls d H' => E cls d H') Q (e ws c)
def So.out (r : So) : Out W := match r with
  | .ok (.nx _) c => .ok .non c
  | .ok (.rt r) c => .ok r c
  | .exc x _ c => .exc x c
  | _ => .bad
/-- n parameters, m slots -/
def eDef (n m : Nat) (s : Es) : Fn := fun ws c => if ws.length = n then (s (ws.map some ++ List.replicate (m - n) none) c).out else .bad
section
variable {K : PySem.W.Frag} {n m : Nat} {s : Es} {vs : List V} {H : Hp} {Q : VK} {E : XK} {S : Sx}
theorem def_len (h : spE K (eDef n m s) vs H Q E) : vs.length = n := by
  obtain ⟨w, c, ws, rel, r, h⟩ := h
  unfold eDef at h
  obtain ⟨hl, _⟩ := ite_ok h
  rw [r.length]; exact hl
theorem def_ok {N : List Str} (hN : N.length = m) (h : spE K (eDef n m s) vs H Q E) : tS K ⟨fun cls d _ H' => E cls d H', S⟩ s { nx := fun _ H1 => Q .non H1, rt := Q } (start N vs) H := by
  obtain ⟨w, c, ws, rel, r, h⟩ := h
  unfold eDef at h
  obtain ⟨hl, h⟩ := ite_ok h
  refine ⟨w, c, ws.map some ++ List.replicate (m - n) none, rel, ?_, ?_⟩
  · unfold L2.start
    rw [hN, r.length, hl]
    exact SR.start _ r
  · revert h
    cases s (ws.map some ++ List.replicate (m - n) none) c with
    | ok f c1 =>
      cases f with
      | nx ss => exact fun h w' H' σ' l a b => h w' H' .non l a rfl
      | rt r => exact fun h w' H' v l a b => h w' H' v l a b
      | bk ss => exact fun h => h.elim
      | ct ss => exact fun h => h.elim
    | exc x ss c1 => exact fun h w' H' σ' cls d l a _ b => h w' H' cls d l a b
    | bad => exact fun h => h.elim
end
/-! ## calls -/
def eCall (f : Fn) (ds : List W) (a : Ea) : Ee := fun ss c => (a ss c).bind fun xs c1 => f (xs ++ ds) c1
section
variable {K : PySem.W.Frag} {X : Xx} {f : Fn} {ds : List W} {dvs : List V} {aa : Ea}
theorem le_call (hd : ∀ w, VrL K w ds dvs) (σ : L2.St) (H : Hp) (Q : VK) (h : tE K X (eCall f ds aa) σ H Q) : fCallS (spE K f) dvs (WE X.x) (tA K X aa) σ H Q := by
  obtain ⟨w, c, ss, rel, sr, h⟩ := h
  refine ⟨w, c, ss, rel, sr, (OR.bind (R := VrL K) h).imp ?_⟩
  rintro v1 H1 ⟨w1, x, c1, l1, rel1, r1, h1⟩
  rw [fCat_eq]
  exact ⟨w1, c1, _, rel1, r1.app (hd w1), h1⟩
end
/-! ## instances -/
def insW (c : Conf) : W → Option (Nm × List (Nm × W))
  | .ref i => (match c[i]? with | some (.ins C fs) => some (C, fs) | _ => none)
  | _ => none
def putW (f : Nm) (v : W) : List (Nm × W) → List (Nm × W)
  | [] => [(f, v)]
  | (g, x) :: r => if g = f then (g, v) :: r else (g, x) :: putW f v r
section
variable {K : PySem.W.Frag} {w : Wd} {c : Conf} {H : Hp} {x : W} {vx : V} {C : Nm} {fs : List (Nm × W)}
theorem insW_ok (rel : Rel K w c H) (r : Vr K w x vx) (e : insW c x = some (C, fs)) : ∃ a dx vs, vx = .ref a ∧ H a = some (.ins (He.ga K (mk C)) dx vs) ∧ FR K w fs vs := by
  cases x with
  | ref i =>
    simp only [insW] at e
    cases hc : c[i]? with
    | none => rw [hc] at e; cases e
    | some ob =>
      rw [hc] at e
      cases ob <;> first | (cases e; done) | skip
      cases e
      obtain ⟨ho, h1, _, _, dx, vs, e2, h4, _⟩ := rel.obj i _ hc rfl
      subst e2
      exact ⟨_, dx, vs, r.2, h1, h4⟩
  | _ => cases e
theorem FR.lk {f : Nm} : ∀ {fs : List (Nm × W)} {vs : List (Str × V)}, FR K w fs vs → OptR K w (lkp fs f) (vs.lookup (mk f))
  | [], vs, ⟨h1, h2⟩ => by
    have : vs = [] := by simpa using h1
    subst this
    exact True.intro
  | (g, z) :: r, vs, ⟨h1, h2⟩ => by
    cases vs with
    | nil => simp at h1
    | cons p vs =>
      obtain ⟨a, v⟩ := p
      simp only [List.map_cons, List.cons.injEq] at h1
      obtain ⟨v', r', e, g1, g2⟩ := h2
      simp only [List.map_cons, List.cons.injEq] at e
      obtain ⟨e1, e2⟩ := e
      subst e1
      have e3 : a = mk g := h1.1
      subst e3
      by_cases hk : g = f
      · subst hk
        simp only [lkp, if_pos rfl, List.lookup, beq_self_eq_true]
        exact g1
      · have hb : (mk f == mk g) = false := beq_eq_false_iff_ne.mpr fun q => hk (mk_inj q).symm
        simp only [lkp, if_neg hk, List.lookup, hb]
        subst e2
        exact FR.lk ⟨h1.2, g2⟩
theorem FR.put {f : Nm} {z : W} {u : V} (hz : Vr K w z u) : ∀ {fs : List (Nm × W)} {vs : List (Str × V)}, FR K w fs vs → FR K w (putW f z fs) (putF (mk f) u vs)
  | [], vs, ⟨h1, h2⟩ => by
    have : vs = [] := by simpa using h1
    subst this
    exact ⟨rfl, VrL.one hz⟩
  | (g, y) :: r, vs, ⟨h1, h2⟩ => by
    cases vs with
    | nil => simp at h1
    | cons p vs =>
      obtain ⟨a, v⟩ := p
      simp only [List.map_cons, List.cons.injEq] at h1
      obtain ⟨v', r', e, g1, g2⟩ := h2
      simp only [List.map_cons, List.cons.injEq] at e
      obtain ⟨e1, e2⟩ := e
      subst e1
      have e3 : a = mk g := h1.1
      subst e3
      by_cases hk : g = f
      · subst hk
        simp only [putW, putF, if_pos rfl]
        exact ⟨by simp [h1.2], u, _, rfl, hz, by subst e2; exact g2⟩
      · have hb : ¬ mk g = mk f := fun q => hk (mk_inj q)
        simp only [putW, putF, if_neg hk, if_neg hb]
        subst e2
        obtain ⟨a1, a2⟩ := FR.put (f := f) hz (fs := r) (vs := vs) ⟨h1.2, g2⟩
        exact ⟨by simp [a1], v, _, rfl, g1, a2⟩
theorem FR.length {fs : List (Nm × W)} {vs : List (Str × V)} (h : FR K w fs vs) : vs.length = fs.length := by
  have := congrArg List.length h.1
  simpa using this
end
def eFld (C f : Nm) (eo : Ee) : Ee := fun ss c => (eo ss c).bind fun x c1 => match insW c1 x with
  | some (C', fs) => if C' = C then (match lkp fs f with | some v => .ok v c1 | none => .bad) else .bad
  | none => .bad
def sPutF (C f : Nm) (eo ev : Ee) : Es := fun ss c => So.lift ss (ev ss c) fun y c1 => So.lift ss (eo ss c1) fun x c2 => match x with
  | .ref i => (match c2[i]? with
    | some (.ins C' fs) => if C' = C ∧ fs.length < 1000 then .ok (.nx ss) (c2.set i (.ins C' (putW f y fs))) else .bad
    | _ => .bad)
  | _ => .bad
def eMeth (C m : Nm) (f : Fn) (ds : List W) (eo : Ee) (a : Ea) : Ee := fun ss c => (eo ss c).bind fun x c1 => match insW c1 x with
  | some (C', fs) => if C' = C ∧ (lkp fs m).isNone = true then (a ss c1).bind fun xs c2 => f (x :: (xs ++ ds)) c2 else .bad
  | none => .bad
/-- o.m(*e) -/
def eMethB (C m : Nm) (f : Fn) (eo e : Ee) : Ee := fun ss c => (eo ss c).bind fun x c1 => match insW c1 x with
  | some (C', fs) => if C' = C ∧ (lkp fs m).isNone = true then (e ss c1).bind fun y c2 => (match rdL c2 y with
      | some ys => f (x :: ys) c2
      | none => (match rdT y with | some ys => f (x :: ys) c2 | none => .bad)) else .bad
  | none => .bad
def eMake (C : Nm) (f : Fn) (ds : List W) (a : Ea) : Ee := fun ss c => (a ss c).bind fun xs c1 => (f (.ref c1.length :: (xs ++ ds)) (c1 ++ [.ins C []])).bind fun r c2 => match r with
  | .non => .ok (.ref c1.length) c2
  | _ => .bad
section
variable {K : PySem.W.Frag} {X : Xx} {f : Fn} {ds : List W} {dvs : List V} {aa : Ea} {C fl m : Nm} {Cs fs ms : Str} {eo ev ea : Ee}
theorem le_fld (hC : mk C = Cs) (hf : mk fl = fs) (σ : L2.St) (H : Hp) (Q : VK) (h : tE K X (eFld C fl eo) σ H Q) : fFld (He.ga K Cs) fs (tE K X eo) σ H Q := by
  subst hC hf
  obtain ⟨w, c, ss, rel, sr, h⟩ := h
  refine ⟨w, c, ss, rel, sr, (OR.bind (R := Vr K) h).imp ?_⟩
  rintro v1 H1 ⟨w1, x, c1, l1, rel1, r1, h1⟩
  cases e : insW c1 x with
  | none => rw [e] at h1; exact h1.elim
  | some q =>
    obtain ⟨C', fs⟩ := q
    rw [e] at h1
    obtain ⟨hC, g1⟩ := ite_ok h1
    clear h1
    have h1 := g1
    clear g1
    subst hC
    obtain ⟨a, dx, vs, e1, e2, e3⟩ := insW_ok rel1 r1 e
    subst e1
    have e4 := e3.lk (f := fl)
    cases el : lkp fs fl with
    | none => rw [el] at h1; exact h1.elim
    | some z =>
      rw [el] at h1 e4
      cases ev : vs.lookup (mk fl) with
      | none => rw [ev] at e4; exact e4.elim
      | some v =>
        rw [ev] at e4
        exact z_fld e2 ev (h1.ok (Wd.Le.refl w1) rel1 e4)
theorem le_putF (hC : mk C = Cs) (hf : mk fl = fs) (D : Ends) (σ : L2.St) (H : Hp) (h : tS K X (sPutF C fl eo ev) D σ H) : fPutF (He.ga K Cs) fs (tE K X eo) (tE K X ev) D σ H := by
  subst hC hf
  obtain ⟨w, c, ss, rel, sr, h⟩ := h
  refine ⟨w, c, ss, rel, sr, (SO.lift (R := Vr K) h sr).imp ?_⟩
  rintro v1 H1 ⟨w1, y, c1, l1, rel1, r1, h1⟩
  refine ⟨w1, c1, ss, rel1, sr.mono l1.v, (SO.lift (R := Vr K) h1 (sr.mono l1.v)).imp ?_⟩
  rintro v2 H2 ⟨w2, x, c2, l2, rel2, r2, h2⟩
  cases x <;> first | exact h2.elim | skip
  rename_i i
  simp only at h2
  cases hc : c2[i]? with
  | none => rw [hc] at h2; exact h2.elim
  | some ob =>
    rw [hc] at h2
    cases ob <;> first | exact h2.elim | skip
    rename_i C' fs'
    simp only at h2
    split at h2
    · rename_i hh
      obtain ⟨hC, hl⟩ := hh
      subst hC
      obtain ⟨ho, k1, k2, k3, dx, vs, k4, k5, k6, k7, k8⟩ := rel2.obj i _ hc rfl
      subst k4
      obtain ⟨_, r2⟩ := r2
      subst r2
      unfold zPutF
      refine ⟨_, dx, vs, rfl, k1, by rw [k5.length]; exact hl, ?_⟩
      have ne : dx ≠ w2.φ i := fun z => by subst z; rw [k1] at k6; cases k6
      have rel3 := rel2.put (ho' := .ins (He.ga K (mk C')) dx (putF (mk fl) v1 vs)) (o' := .ins C' (putW fl y fs')) hc (ob := ⟨dx, _, rfl, k5.put (r1.mono l2.v), by rw [upd_ne ne]; exact k6, k7, k8⟩)
      exact h2 w2 _ σ (Wd.Le.refl w2) rel3 (sr.mono (l1.trans l2).v)
    · exact h2.elim
theorem le_meth (hC : mk C = Cs) (hm : mk m = ms) (hd : ∀ w, VrL K w ds dvs) (σ : L2.St) (H : Hp) (Q : VK) (h : tE K X (eMeth C m f ds eo aa) σ H Q) : fMeth (He.ga K Cs) ms (spE K f) dvs (WE X.x) (tE K X eo) (tA K X aa) σ H Q := by
  subst hC hm
  obtain ⟨w, c, ss, rel, sr, h⟩ := h
  refine ⟨w, c, ss, rel, sr, (OR.bind (R := Vr K) h).imp ?_⟩
  rintro v1 H1 ⟨w1, x, c1, l1, rel1, r1, h1⟩
  cases e : insW c1 x with
  | none => rw [e] at h1; exact h1.elim
  | some q =>
    obtain ⟨C', fs⟩ := q
    rw [e] at h1
    obtain ⟨⟨hC, hn⟩, g1⟩ := ite_ok h1
    clear h1
    have h1 := g1
    clear g1
    subst hC
    obtain ⟨a, dx, vs, e1, e2, e3⟩ := insW_ok rel1 r1 e
    subst e1
    have e4 := e3.lk (f := m)
    rw [Option.isNone_iff_eq_none.mp hn] at e4
    unfold zMeth
    refine ⟨a, dx, vs, rfl, e2, ?_, w1, c1, ss, rel1, sr.mono l1.v, (OR.bind (R := VrL K) h1).imp ?_⟩
    · cases ev : vs.lookup (mk m) with
      | none => rfl
      | some v => rw [ev] at e4; exact e4.elim
    · rintro v2 H2 ⟨w2, xs, c2, l2, rel2, r2, h2⟩
      exact ⟨w2, c2, x :: (xs ++ ds), rel2, ⟨_, _, rfl, r1.mono l2.v, r2.app (hd w2)⟩, h2⟩
theorem le_methB {g : Addr} (hC : mk C = Cs) (hm : mk m = ms) (σ : L2.St) (H : Hp) (Q : VK) (h : tE K X (eMethB C m f eo ea) σ H Q) : fMethB K (He.ga K Cs) ms g (spE K f) (WE X.x) (tE K X eo) (tE K X ea) σ H Q := by
  subst hC hm
  obtain ⟨w, c, ss, rel, sr, h⟩ := h
  refine ⟨w, c, ss, rel, sr, (OR.bind (R := Vr K) h).imp ?_⟩
  rintro v1 H1 ⟨w1, x, c1, l1, rel1, r1, h1⟩
  cases e : insW c1 x with
  | none => rw [e] at h1; exact h1.elim
  | some q =>
    obtain ⟨C', fs⟩ := q
    rw [e] at h1
    obtain ⟨⟨hC, hn⟩, g1⟩ := ite_ok h1
    clear h1
    have h1 := g1
    clear g1
    subst hC
    obtain ⟨a, dx, vs, e1, e2, e3⟩ := insW_ok rel1 r1 e
    subst e1
    have e4 := e3.lk (f := m)
    rw [Option.isNone_iff_eq_none.mp hn] at e4
    unfold zMethB
    refine ⟨a, dx, vs, rfl, e2, ?_, fun q hq => ?_⟩
    · cases ev : vs.lookup (mk m) with
      | none => rfl
      | some v => rw [ev] at e4; exact e4.elim
    · obtain ⟨le, relq⟩ := rel1.frz1 hq (.met g a)
      refine ⟨_, c1, ss, relq, (sr.mono l1.v).mono le.v, (OR.bind (R := Vr K) (h1.mono le)).imp ?_⟩
      rintro v2 H2 ⟨w2, y, c2, l2, rel2, r2, h2⟩
      have hq2 : H2 q = some (.met g a) := rel2.k0 _ _ (l2.k0 _ _ upd_same)
      cases hL : rdL c2 y with
      | some ys =>
        rw [hL] at h2
        obtain ⟨b, us, e5, s, rr⟩ := rdL_ok rel2 r2 hL
        exact ⟨b, us, e5, .inr s, hq2, w2, c2, x :: ys, rel2, ⟨_, _, rfl, (r1.mono le.v).mono l2.v, rr⟩, h2⟩
      | none =>
        rw [hL] at h2
        simp only at h2
        cases hT : rdT y with
        | some ys =>
          rw [hT] at h2
          obtain ⟨b, us, e5, s, rr⟩ := rdT_ok rel2 r2 hT
          exact ⟨b, us, e5, .inl s, hq2, w2, c2, x :: ys, rel2, ⟨_, _, rfl, (r1.mono le.v).mono l2.v, rr⟩, h2⟩
        | none => rw [hT] at h2; exact h2.elim
theorem le_make (hC : mk C = Cs) (hd : ∀ w, VrL K w ds dvs) (σ : L2.St) (H : Hp) (Q : VK) (h : tE K X (eMake C f ds aa) σ H Q) : fMake (He.ga K Cs) (spE K f) dvs (WE X.x) (tA K X aa) σ H Q := by
  subst hC
  obtain ⟨w, c, ss, rel, sr, h⟩ := h
  refine ⟨w, c, ss, rel, sr, (OR.bind (R := VrL K) h).imp ?_⟩
  rintro v1 H1 ⟨w1, xs, c1, l1, rel1, r1, h1⟩
  unfold zMake
  intro p dx hp hdx ne
  have hp2 : upd H1 dx (.own p) p = none := by rw [upd_ne (Ne.symm ne)]; exact hp
  obtain ⟨le, rel2⟩ := rel1.new (o := .ins C []) (ho := .ins (He.ga K (mk C)) dx []) hp ((same_upd hdx).trans (same_upd hp2)) upd_same
    ⟨dx, [], rfl, ⟨rfl, rfl⟩, by rw [upd_ne ne]; exact upd_same, Same.free rel1.k0 hdx, Same.free rel1.hd hdx⟩
  have fn : (w1.new p).φ w1.n = p := if_pos rfl
  refine ⟨_, _, W.ref c1.length :: (xs ++ ds), rel2, ⟨V.ref p, _, rfl, ⟨by rw [rel1.len]; exact Nat.lt_succ_self _, by rw [rel1.len, fn]⟩, (r1.app (hd w1)).mono le.v⟩, ((OR.bind (R := Vr K) (h1.mono le))).imp ?_⟩
  rintro v2 H2 ⟨w3, r, c3, l3, rel3, r3, h3⟩
  cases r <;> first | exact h3.elim | skip
  cases (show _ = _ from r3)
  refine ⟨rfl, h3.ok (Wd.Le.refl w3) rel3 ⟨?_, ?_⟩⟩
  · rw [rel1.len]; exact Nat.lt_of_lt_of_le (Nat.lt_succ_self _) l3.n
  · rw [rel1.len, l3.φ w1.n (Nat.lt_succ_self _), fn]
end
/-! ## stores -/
def putD {κ : Type} [DecidableEq κ] (kvs : List (κ × W)) (k : κ) (v : W) : List (κ × W) :=
  if (kvs.any fun kv => decide (kv.1 = k)) = true then kvs.map (fun kv => if kv.1 = k then (kv.1, v) else kv) else kvs ++ [(k, v)]
/-- o[i] = v: the objects behind -/
def putI (c : Conf) (o i v : W) : Option Conf := match o with
  | .ref n => (match c[n]? with
    | some (.lst xs) => (match i with | .int j => (match ixN xs.length j with | some k => some (c.set n (.lst (xs.set k v))) | none => none) | _ => none)
    | some (.dic kvs) => (match toKy i with | some k => if kvs.length ≤ 1000000 then some (c.set n (.dic (putD kvs k v))) else none | none => none)
    | some (.dit kvs) => (match i with | .tup ks => (match toKys ks with | some k => if kvs.length ≤ 1000000 then some (c.set n (.dit (putD kvs k v))) else none | none => none) | _ => none)
    | _ => none)
  | _ => none
def kSet2 : TSet := fun o i v H Q => rSetL o i v H Q ∨ rSetD o i v H Q
section
variable {X : Cx}
theorem fk_setB (hu : X.A.units + 1 < cLine) : PSet X kSet2 := by
  intro pins s σ H o i v ov iv u Q I ro ri rv h
  rcases h with h | h
  · exact set_list pins s σ H o i v ov iv u Q I ro ri rv h
  · exact set_dict hu pins s σ H o i v ov iv u Q I ro ri rv h
end
/-- o[i] = e -/
def sSetI (ev eo ei : Ee) : Es := fun ss c => So.lift ss (ev ss c) fun v c1 => So.lift ss (eo ss c1) fun o c2 => So.lift ss (ei ss c2) fun i c3 => match putI c3 o i v with
  | some c4 => .ok (.nx ss) c4
  | none => .bad
section
variable {K : PySem.W.Frag} {X : Xx} {ev eo ei : Ee}
theorem any_ok {κ κ' : Type} [DecidableEq κ] [DecidableEq κ'] (f : κ → κ') (inj : ∀ a b, f a = f b → a = b) (k : κ) : ∀ {kvs : List (κ × W)} {vs : List (κ' × V)}, vs.map (·.1) = kvs.map (fun p => f p.1) →
    (vs.any fun kv => decide (kv.1 = f k)) = kvs.any fun kv => decide (kv.1 = k)
  | [], vs, h => by
    have : vs = [] := by simpa using h
    subst this; rfl
  | (k', z) :: r, vs, h => by
    cases vs with
    | nil => simp at h
    | cons p vs =>
      obtain ⟨a, v⟩ := p
      simp only [List.map_cons, List.cons.injEq] at h
      obtain ⟨e, h⟩ := h
      have e3 : a = f k' := e
      subst e3
      simp only [List.any_cons]
      rw [any_ok f inj k h]
      congr 1
      rw [decide_eq_decide]
      exact ⟨fun q => inj _ _ q, fun q => by rw [q]⟩
theorem put_keys {κ : Type} [DecidableEq κ] {α : Type} (k : κ) (v : α) : ∀ kvs : List (κ × α), (kvs.map fun kv => if kv.1 = k then (kv.1, v) else kv).map (·.1) = kvs.map (·.1)
  | [] => rfl
  | (k', z) :: r => by
    simp only [List.map_cons]
    rw [put_keys k v r]
    by_cases h : k' = k
    · rw [if_pos h]
    · rw [if_neg h]
theorem put_vals {κ κ' : Type} [DecidableEq κ] [DecidableEq κ'] {w : Wd} {x : W} {u : V} (f : κ → κ') (inj : ∀ a b, f a = f b → a = b) (k : κ) (hx : Vr K w x u) : ∀ {kvs : List (κ × W)} {vs : List (κ' × V)}, vs.map (·.1) = kvs.map (fun p => f p.1) → VrL K w (kvs.map (·.2)) (vs.map (·.2)) →
    VrL K w ((kvs.map fun kv => if kv.1 = k then (kv.1, x) else kv).map (·.2)) ((vs.map fun kv => if kv.1 = f k then (kv.1, u) else kv).map (·.2))
  | [], vs, h, _ => by
    have : vs = [] := by simpa using h
    subst this; rfl
  | (k', z) :: r, vs, h, g => by
    cases vs with
    | nil => simp at h
    | cons p vs =>
      obtain ⟨a, v⟩ := p
      simp only [List.map_cons, List.cons.injEq] at h
      obtain ⟨v', r', e, g1, g2⟩ := g
      simp only [List.map_cons, List.cons.injEq] at e
      obtain ⟨e1, e2⟩ := e
      subst e1
      have e3 : a = f k' := h.1
      subst e3
      subst e2
      have ih := put_vals f inj k hx h.2 g2
      simp only [List.map_cons]
      by_cases hk : k' = k
      · rw [if_pos hk, if_pos (by rw [hk])]
        exact ⟨u, _, rfl, hx, ih⟩
      · rw [if_neg hk, if_neg fun q => hk (inj _ _ q)]
        exact ⟨v, _, rfl, g1, ih⟩
theorem put_ok {κ κ' : Type} [DecidableEq κ] [DecidableEq κ'] {w : Wd} {x : W} {u : V} (f : κ → κ') (inj : ∀ a b, f a = f b → a = b) (k : κ) (hx : Vr K w x u) {kvs : List (κ × W)} {vs : List (κ' × V)} (h : vs.map (·.1) = kvs.map (fun p => f p.1)) (g : VrL K w (kvs.map (·.2)) (vs.map (·.2))) :
    (putK vs (f k) u).map (·.1) = (putD kvs k x).map (fun p => f p.1) ∧ VrL K w ((putD kvs k x).map (·.2)) ((putK vs (f k) u).map (·.2)) := by
  unfold putK putD
  rw [any_ok f inj k h]
  by_cases hh : (kvs.any fun kv => decide (kv.1 = k)) = true
  · rw [if_pos hh, if_pos hh]
    refine ⟨?_, put_vals f inj k hx h g⟩
    rw [put_keys, h]
    have := congrArg (List.map f) (put_keys k x kvs)
    simp only [List.map_map] at this
    simp only [List.map_map]
    exact this.symm
  · rw [if_neg hh, if_neg hh]
    refine ⟨by simp [h], ?_⟩
    rw [List.map_append, List.map_append]
    exact g.app (VrL.one hx)
theorem putI_ok {w : Wd} {c c' : Conf} {H : Hp} {o i v : W} {vo vi vv : V} {Q : Hp → Prop} (rel : Rel K w c H) (ro : Vr K w o vo) (ri : Vr K w i vi) (rv : Vr K w v vv) (e : putI c o i v = some c') (h : ∀ H', Rel K w c' H' → Q H') : kSet2 vo vi vv H Q := by
  cases o with
  | ref n =>
    obtain ⟨hn, eo⟩ := ro
    simp only [putI] at e
    cases hc : c[n]? with
    | none => rw [hc] at e; cases e
    | some ob =>
      rw [hc] at e
      cases ob with
      | ins C fs => cases e
      | dicF _ => cases e
      | lst xs =>
        obtain ⟨ho, h1, h2, h3, h4⟩ := rel.obj n _ hc rfl
        obtain ⟨vs, e2, r⟩ := h4
        subst e2
        cases i <;> first | (cases e; done) | skip
        cases (show _ = _ from ri)
        simp only at e
        cases hk : ixN xs.length ‹Int› with
        | none => rw [hk] at e; cases e
        | some k =>
          rw [hk] at e
          cases e
          exact .inl ⟨_, vs, _, k, eo, rfl, h1, by rw [r.length]; exact hk, h _ (rel.put hc (ob := ⟨_, rfl, r.set rv k⟩))⟩
      | dic kvs =>
        obtain ⟨ho, h1, h2, h3, h4⟩ := rel.obj n _ hc rfl
        obtain ⟨vs, e2, k1, k2⟩ := h4
        subst e2
        simp only at e
        cases hk : toKy i with
        | none => rw [hk] at e; cases e
        | some k =>
          rw [hk] at e
          simp only at e
          split at e
          · rename_i hl
            cases e
            have hlen : vs.length = kvs.length := by have := congrArg List.length k1; simpa using this
            refine .inr ⟨_, _, eo, by rw [toKy_ok ri hk]; exact DPut.k h1 (by rw [hlen]; exact len_lt hl), h _ (rel.put hc (ob := ⟨_, rfl, put_ok ky (fun _ _ => ky_inj) k rv k1 k2⟩))⟩
          · cases e
      | dit kvs =>
        obtain ⟨ho, h1, h2, h3, h4⟩ := rel.obj n _ hc rfl
        obtain ⟨vs, e2, k1, k2⟩ := h4
        subst e2
        cases i with
        | tup ks =>
          simp only at e
          cases hk : toKys ks with
          | none => rw [hk] at e; cases e
          | some ks' =>
            rw [hk] at e
            simp only at e
            split at e
            · rename_i hl
              cases e
              obtain ⟨b, us, eb, sb, rb⟩ := ri
              subst eb
              have e4 := toKys_ok rb hk
              subst e4
              have sb' := rel.k0 _ _ sb
              have hlen : vs.length = kvs.length := by have := congrArg List.length k1; simpa using this
              exact .inr ⟨_, _, eo, DPut.t h1 sb' (by rw [hlen]; exact len_lt hl), h _ (rel.put hc (ob := ⟨_, rfl, put_ok (fun l : List Ky => l.map ky) kyL_inj ks' rv k1 k2⟩))⟩
            · cases e
        | _ => cases e
  | _ => cases e
theorem le_setI (D : Ends) (σ : L2.St) (H : Hp) (h : tS K X (sSetI ev eo ei) D σ H) : tAsg (tE K X ev) (gSub (tE K X eo) (tE K X ei) kSet2) D σ H := by
  obtain ⟨w, c, ss, rel, sr, h⟩ := h
  refine ⟨w, c, ss, rel, sr, (SO.lift (R := Vr K) h sr).imp ?_⟩
  rintro v1 H1 ⟨w1, y, c1, l1, rel1, r1, h1⟩
  refine ⟨w1, c1, ss, rel1, sr.mono l1.v, (SO.lift (R := Vr K) h1 (sr.mono l1.v)).imp ?_⟩
  rintro v2 H2 ⟨w2, x, c2, l2, rel2, r2, h2⟩
  refine ⟨w2, c2, ss, rel2, sr.mono (l1.trans l2).v, (SO.lift (R := Vr K) h2 (sr.mono (l1.trans l2).v)).imp ?_⟩
  rintro v3 H3 ⟨w3, z, c3, l3, rel3, r3, h3⟩
  cases e : putI c3 x z y with
  | none => rw [e] at h3; exact h3.elim
  | some c4 =>
    rw [e] at h3
    exact putI_ok rel3 (r2.mono l3.v) r3 (r1.mono (l2.trans l3).v) e fun H' rel' => h3 w3 H' σ (Wd.Le.refl w3) rel' (sr.mono ((l1.trans l2).trans l3).v)
end
/-! ## methods of built-in types -/
def tyOk (T : String) (c : Conf) (x : W) : Bool := match x with
  | .str _ => T == "str"
  | .int _ => T == "int"
  | .lst _ => T == "list"
  | .wls _ => T == "list"
  | .ref i => (match c[i]? with | some (.lst _) => T == "list" | some (.dic _) => T == "dict" | some (.dit _) => T == "dict" | _ => false)
  | _ => false
def eBM (T : String) (f : W → List W → Conf → Out W) (eo : Ee) (a : Ea) : Ee := fun ss c => (eo ss c).bind fun x c1 => if tyOk T c1 x = true then (a ss c1).bind fun xs c2 => f x xs c2 else .bad
def eBM0 (T : String) (f : W → List W → Conf → Out W) (eo : Ee) : Ee := fun ss c => (eo ss c).bind fun x c1 => if tyOk T c1 x = true then f x [] c1 else .bad
def MtS (K : PySem.W.Frag) (r : V → List V → Hp → VK → Prop) (f : W → List W → Conf → Out W) : Prop := ∀ w c H x xs vx vs Ex Q, Rel K w c H → Vr K w x vx → VrL K w xs vs → OR K (Vr K) w Ex Q (f x xs c) → r vx vs H Q
def oAppend : W → List W → Conf → Out W := fun x xs c => match x, xs with
  | .ref i, [y] => (match c[i]? with | some (.lst ys) => if ys.length ≤ 1000000 then .ok .non (c.set i (.lst (ys ++ [y]))) else .bad | _ => .bad)
  | _, _ => .bad
def oStarts : W → List W → Conf → Out W := fun x xs c => match x, xs with
  | .str a, [.str b] => .ok (.bl (Txt.startswith (mk a) (mk b))) c
  | _, _ => .bad
def oGet : W → List W → Conf → Out W := fun x xs c => match xs with
  | [k] => (match dGet c x k with | some (some v) => .ok v c | some none => .ok .non c | none => .bad)
  | [k, z] => (match dGet c x k with | some (some v) => .ok v c | some none => .ok z c | none => .bad)
  | _ => .bad
section
variable {K : PySem.W.Frag} {X : Xx} {eo : Ee} {aa : Ea}
theorem tyOk_ok {w : Wd} {c : Conf} {H : Hp} {x : W} {v : V} {T : String} (rel : Rel K w c H) (r : Vr K w x v) (e : tyOk T c x = true) : tyV K T v H := by
  cases x with
  | str s => cases (show _ = _ from r); exact beq_iff_eq.mp e
  | int s => cases (show _ = _ from r); exact beq_iff_eq.mp e
  | lst xs => obtain ⟨a, vs, e1, s, q⟩ := r; subst e1; exact .inl ⟨beq_iff_eq.mp e, vs, SqL.of (rel.k0 _ _ s)⟩
  | wls xs => obtain ⟨a, vs, e1, s, q⟩ := r; subst e1; exact .inl ⟨beq_iff_eq.mp e, vs, sqL_mono rel.k0 s⟩
  | ref i =>
    obtain ⟨_, e1⟩ := r
    subst e1
    simp only [tyOk] at e
    cases hc : c[i]? with
    | none => rw [hc] at e; cases e
    | some ob =>
      rw [hc] at e
      cases ob with
      | lst xs => obtain ⟨ho, h1, _, _, h4⟩ := rel.obj i _ hc rfl; obtain ⟨vs, e2, q⟩ := h4; subst e2; exact .inl ⟨beq_iff_eq.mp e, vs, SqL.of h1⟩
      | dic xs => obtain ⟨ho, h1, _, _, h4⟩ := rel.obj i _ hc rfl; obtain ⟨vs, e2, q⟩ := h4; subst e2; exact .inr (.inr (.inl ⟨beq_iff_eq.mp e, .inl ⟨vs, h1⟩⟩))
      | dit xs => obtain ⟨ho, h1, _, _, h4⟩ := rel.obj i _ hc rfl; obtain ⟨vs, e2, q⟩ := h4; subst e2; exact .inr (.inr (.inl ⟨beq_iff_eq.mp e, .inr ⟨vs, h1⟩⟩))
      | ins C fs => cases e
      | dicF _ => cases e
  | _ => cases e
theorem le_bm {T : String} {r : V → List V → Hp → VK → Prop} {f : W → List W → Conf → Out W} (s : MtS K r f) (σ : L2.St) (H : Hp) (Q : VK) (h : tE K X (eBM T f eo aa) σ H Q) : tBM K T r (tE K X eo) (tA K X aa) σ H Q := by
  obtain ⟨w, c, ss, rel, sr, h⟩ := h
  refine ⟨w, c, ss, rel, sr, (OR.bind (R := Vr K) h).imp ?_⟩
  rintro v1 H1 ⟨w1, x, c1, l1, rel1, r1, h1⟩
  obtain ⟨ht, h1⟩ := ite_ok h1
  refine ⟨tyOk_ok rel1 r1 ht, w1, c1, ss, rel1, sr.mono l1.v, (OR.bind (R := VrL K) h1).imp ?_⟩
  rintro v2 H2 ⟨w2, y, c2, l2, rel2, r2, h2⟩
  exact s w2 c2 H2 x y v1 v2 _ Q rel2 (r1.mono l2.v) r2 h2
theorem le_bm0 {T : String} {r : V → List V → Hp → VK → Prop} {f : W → List W → Conf → Out W} (s : MtS K r f) (σ : L2.St) (H : Hp) (Q : VK) (h : tE K X (eBM0 T f eo) σ H Q) : tBM0 K T r (tE K X eo) σ H Q := by
  obtain ⟨w, c, ss, rel, sr, h⟩ := h
  refine ⟨w, c, ss, rel, sr, (OR.bind (R := Vr K) h).imp ?_⟩
  rintro v1 H1 ⟨w1, x, c1, l1, rel1, r1, h1⟩
  obtain ⟨ht, h1⟩ := ite_ok h1
  exact ⟨tyOk_ok rel1 r1 ht, s w1 c1 H1 x [] v1 [] _ Q rel1 r1 rfl h1⟩
theorem s_append : MtS K rAppend oAppend := by
  intro w c H x xs vx vs Ex Q rel rx r h
  unfold oAppend at h
  split at h
  · rename_i i y
    obtain ⟨v, rfl, ry⟩ := VrL.inv1 r
    cases hc : c[i]? with
    | none => rw [hc] at h; exact h.elim
    | some ob =>
      rw [hc] at h
      cases ob <;> first | exact h.elim | skip
      simp only at h
      obtain ⟨hl, h⟩ := ite_ok h
      obtain ⟨ho, h1, _, _, us, e2, q⟩ := rel.obj i _ hc rfl
      subst e2
      exact ⟨_, us, v, rx.2, rfl, h1, by rw [q.length]; exact len_lt hl, h.ok (Wd.Le.refl w) (rel.put hc ⟨_, rfl, q.app (VrL.one ry)⟩) rfl⟩
  · exact h.elim
theorem s_starts : MtS K kStarts oStarts := by
  intro w c H x xs vx vs Ex Q rel rx r h
  unfold oStarts at h
  split at h
  · obtain ⟨v, rfl, ry⟩ := VrL.inv1 r
    cases (show _ = _ from rx); cases (show _ = _ from ry)
    exact ⟨_, _, rfl, rfl, h.ok (Wd.Le.refl w) rel rfl⟩
  · exact h.elim
end
end Ev

set_option Elab.async false
set_option linter.all false
set_option maxRecDepth 100000
set_option maxHeartbeats 4000000
namespace Ev
open PySem PySem.Spec PyProof.Rows L2 Wf TL
/-! ## what the classes say -/
def plainTys : List Ty := [.non, .bool, .int, .str, .tuple, .list, .dict]
def plainCls : List Ty := [.bool, .int, .str, .tuple, .list, .dict]
def excTys : List Ty := [.exc, .valueError, .lookupError, .runtimeError, .overflowError, .keyError, .indexError, .notImplementedError, .zeroDivisionError]
def ktB (cs : List Nm) (xs : List (Nm × List Ty)) (K : PySem.W.Frag) : Bool :=
  (cs.all fun C => He.eqO (PySem.W.findIn K (.ref (He.ga K (mk C))) "__class__") (some (some (.builtin "object.__class__"))) && (He.eqO (PySem.W.specialIn K (.builtin "object.__class__") "__get__") (some (some (.builtin "getset_descriptor.__get__"))) && (decide (PySem.W.takesIn K (.builtin "object.__class__") = some true) && decide (PySem.W.mroIn K (He.ga K (mk C)) (.type "object") = some true)))) &&
  (((cs ++ xs.map (·.1)).all fun C => plainTys.all fun t => decide (PySem.W.kitOne K (.type t.s) (.ref (He.ga K (mk C))) = some false)) &&
  ((cs.all fun C => plainCls.all fun t => decide (PySem.W.kitOne K (.ref (He.ga K (mk C))) (.type t.s) = some false)) &&
  ((cs.all fun C => (cs ++ xs.map (·.1)).all fun D => decide (PySem.W.kitOne K (.ref (He.ga K (mk C))) (.ref (He.ga K (mk D))) = some (decide (C = D)))) &&
  ((xs.all fun p => isCB K (He.ga K (mk p.1))) &&
  ((xs.all fun p => excTys.all fun t => decide (PySem.W.kitOne K (.ref (He.ga K (mk p.1))) (.type t.s) = some (decide (t ∈ p.2)))) &&
  ((xs.all fun p => (cs ++ xs.map (·.1)).all fun D => decide (PySem.W.kitOne K (.ref (He.ga K (mk p.1))) (.ref (He.ga K (mk D))) = some (decide (p.1 = D)))) &&
  (xs.all fun p => xs.all fun q => decide (PySem.W.exmOne K (.ref (He.ga K (mk p.1))) (.ref (He.ga K (mk q.1))) = some (decide (p.1 = q.1))))))))))
structure Kt (cs : List Nm) (xs : List (Nm × List Ty)) (K : PySem.W.Frag) : Prop where
  cl : ∀ C ∈ cs, Cls K (He.ga K (mk C))
  ci : ∀ C ∈ cs, PySem.W.findIn K (.ref (He.ga K (mk C))) "__class__" = some (some (.builtin "object.__class__")) ∧ PySem.W.specialIn K (.builtin "object.__class__") "__get__" = some (some (.builtin "getset_descriptor.__get__")) ∧ PySem.W.takesIn K (.builtin "object.__class__") = some true ∧ PySem.W.mroIn K (He.ga K (mk C)) (.type "object") = some true
  tc : ∀ C ∈ cs ++ xs.map (·.1), ∀ t ∈ plainTys, PySem.W.kitOne K (.type t.s) (.ref (He.ga K (mk C))) = some false
  ct : ∀ C ∈ cs, ∀ t ∈ plainCls, PySem.W.kitOne K (.ref (He.ga K (mk C))) (.type t.s) = some false
  cc : ∀ C ∈ cs, ∀ D ∈ cs ++ xs.map (·.1), PySem.W.kitOne K (.ref (He.ga K (mk C))) (.ref (He.ga K (mk D))) = some (decide (C = D))
  xi : ∀ p ∈ xs, IsC K (He.ga K (mk p.1))
  xt : ∀ p ∈ xs, ∀ t ∈ excTys, PySem.W.kitOne K (.ref (He.ga K (mk p.1))) (.type t.s) = some (decide (t ∈ p.2))
  xx : ∀ p ∈ xs, ∀ D ∈ cs ++ xs.map (·.1), PySem.W.kitOne K (.ref (He.ga K (mk p.1))) (.ref (He.ga K (mk D))) = some (decide (p.1 = D))
  ex : ∀ p ∈ xs, ∀ q ∈ xs, PySem.W.exmOne K (.ref (He.ga K (mk p.1))) (.ref (He.ga K (mk q.1))) = some (decide (p.1 = q.1))
theorem kt_of {cs : List Nm} {xs : List (Nm × List Ty)} {K : PySem.W.Frag} (cl : ∀ C ∈ cs, Cls K (He.ga K (mk C))) (h : ktB cs xs K = true) : Kt cs xs K := by
  obtain ⟨h1, h⟩ := He.ba h
  obtain ⟨h2, h⟩ := He.ba h
  obtain ⟨h3, h⟩ := He.ba h
  obtain ⟨h4, h⟩ := He.ba h
  obtain ⟨h5, h⟩ := He.ba h
  obtain ⟨h6, h⟩ := He.ba h
  obtain ⟨h7, h8⟩ := He.ba h
  have A : ∀ {α : Type} {l : List α} {p : α → Bool}, l.all p = true → ∀ x ∈ l, p x = true := fun h => List.all_eq_true.mp h
  refine ⟨cl, fun C hC => ?_, fun C hC t ht => of_decide_eq_true (A (A h2 C hC) t ht), fun C hC t ht => of_decide_eq_true (A (A h3 C hC) t ht), fun C hC D hD => of_decide_eq_true (A (A h4 C hC) D hD), fun p hp => isCB_ok (A h5 p hp),
    fun p hp t ht => of_decide_eq_true (A (A h6 p hp) t ht), fun p hp D hD => of_decide_eq_true (A (A h7 p hp) D hD), fun p hp q hq => of_decide_eq_true (A (A h8 p hp) q hq)⟩
  obtain ⟨a, h⟩ := He.ba (A h1 C hC)
  obtain ⟨b, h⟩ := He.ba h
  obtain ⟨c, d⟩ := He.ba h
  exact ⟨He.eqO_ok a, He.eqO_ok b, of_decide_eq_true c, of_decide_eq_true d⟩
/-! ## isinstance -/
def tyTag (c : Conf) : W → Option (Ty ⊕ Nm)
  | .non => some (.inl .non)
  | .bl _ => some (.inl .bool)
  | .int _ => some (.inl .int)
  | .str _ => some (.inl .str)
  | .tup _ => some (.inl .tuple)
  | .wtp _ => some (.inl .tuple)
  | .lst _ => some (.inl .list)
  | .wls _ => some (.inl .list)
  | .ref i => (match c[i]? with | some (.lst _) => some (.inl .list) | some (.dic _) => some (.inl .dict) | some (.dit _) => some (.inl .dict) | some (.ins C _) => some (.inr C) | _ => none)
  | _ => none
def isi1 (cs : List Nm) (xs : List (Nm × List Ty)) (t : Ty ⊕ Nm) (c : W) : Option Bool := match t, c with
  | .inl t, .ty n => if n ∈ plainCls then some (decide (t = n) || (decide (t = .bool) && decide (n = .int))) else none
  | .inl _, .glo D => if D ∈ cs ++ xs.map (·.1) then some false else none
  | .inr C, .ty n => if C ∈ cs ∧ n ∈ plainCls then some false else none
  | .inr C, .glo D => if C ∈ cs ∧ D ∈ cs ++ xs.map (·.1) then some (decide (C = D)) else none
  | _, _ => none
def oIsi (cs : List Nm) (xs : List (Nm × List Ty)) : List W → Conf → Out W := fun ws c => match ws with
  | [x, y] => (match tyTag c x with | some t => blO (isi1 cs xs t y) c | none => .bad)
  | _ => .bad
section
variable {K : PySem.W.Frag} {X : Xx} {cs : List Nm} {xs : List (Nm × List Ty)}
def tagV (K : PySem.W.Frag) : Ty ⊕ Nm → Value
  | .inl t => .type t.s
  | .inr C => .ref (He.ga K (mk C))
theorem plain_kit : ∀ a ∈ plainTys, ∀ b ∈ plainCls, kitB a.s b.s = some (decide (a = b) || (decide (a = .bool) && decide (b = .int))) := by decide +kernel
theorem SqL.ty {H : Hp} {a : Addr} {vs : List V} (h : SqL K H a vs) : TyX K H (.ref a) (.type "list") := by
  rcases h with (h | ⟨o, h⟩) | ⟨o, its, n, h, c, _⟩
  · exact .base (.lst h)
  · exact .base (.frz h)
  · exact .kList h c
theorem SqT.ty {H : Hp} {a : Addr} {vs : List V} (h : SqT K H a vs) : TyX K H (.ref a) (.type "tuple") := by
  rcases h with (h | ⟨o, h⟩) | ⟨o, its, n, h, c, _⟩
  · exact .base (.tup h)
  · exact .fTuple h
  · exact .kTuple h c
/-- instances only of classes of cs -/
theorem tyTag_ok {w : Wd} {c : Conf} {H : Hp} {x : W} {v : V} {t : Ty ⊕ Nm} (T : Kt cs xs K) (rel : Rel K w c H) (r : Vr K w x v) (e : tyTag c x = some t) : (∀ C, t = .inr C → C ∈ cs) → TyX K H v (tagV K t) := by
  intro hC
  cases x with
  | non => cases e; cases (show _ = _ from r); exact .base .non
  | bl b => cases e; cases (show _ = _ from r); exact .base (.bl b)
  | int b => cases e; cases (show _ = _ from r); exact .base (.int b)
  | str b => cases e; cases (show _ = _ from r); exact .base (.str _)
  | tup ys => cases e; obtain ⟨a, vs, e1, s, _⟩ := r; subst e1; exact .base (.tup (rel.k0 _ _ s))
  | wtp ys => cases e; obtain ⟨a, vs, e1, s, _⟩ := r; subst e1; exact SqT.ty (sqT_mono rel.k0 s)
  | lst ys => cases e; obtain ⟨a, vs, e1, s, _⟩ := r; subst e1; exact .base (.lst (rel.k0 _ _ s))
  | wls ys => cases e; obtain ⟨a, vs, e1, s, _⟩ := r; subst e1; exact SqL.ty (sqL_mono rel.k0 s)
  | ref i =>
    obtain ⟨_, e1⟩ := r
    subst e1
    simp only [tyTag] at e
    cases hc : c[i]? with
    | none => rw [hc] at e; cases e
    | some ob =>
      rw [hc] at e
      cases ob with
      | lst ys => cases e; obtain ⟨ho, h1, _, _, h4⟩ := rel.obj i _ hc rfl; obtain ⟨vs, e2, _⟩ := h4; subst e2; exact .base (.lst h1)
      | dic ys => cases e; obtain ⟨ho, h1, _, _, h4⟩ := rel.obj i _ hc rfl; obtain ⟨vs, e2, _⟩ := h4; subst e2; exact .base (.dK h1)
      | dit ys => cases e; obtain ⟨ho, h1, _, _, h4⟩ := rel.obj i _ hc rfl; obtain ⟨vs, e2, _⟩ := h4; subst e2; exact .base (.dT h1)
      | dicF _ => cases e
      | ins C fs =>
        cases e
        obtain ⟨ho, h1, _, _, h4⟩ := rel.obj i _ hc rfl
        obtain ⟨dx, vs, e2, _⟩ := h4
        subst e2
        have hm := hC C rfl
        obtain ⟨a, b, c, d⟩ := T.ci C hm
        exact .base (.ins h1 (T.cl C hm) a b c d)
  | _ => cases e
theorem tag_plain {c : Conf} {x : W} {t : Ty} (e : tyTag c x = some (.inl t)) : t ∈ plainTys := by
  cases x with
  | ref i =>
    simp only [tyTag] at e
    split at e <;> first | (cases e; decide) | cases e
  | _ => cases e <;> decide
theorem ite_so {p : Prop} [Decidable p] {K : PySem.W.Frag} {w : Wd} {X : Xx} {D : Ends} {r : So} (h : SO K w X D (if p then r else .bad)) : p ∧ SO K w X D r := by
  by_cases hp : p
  · rw [if_pos hp] at h; exact ⟨hp, h⟩
  · rw [if_neg hp] at h; exact h.elim
theorem s_isi (T : Kt cs xs K) : CallS K (fIsi K) (oIsi cs xs) := by
  intro w c H ws vs Ex Q rel r h
  unfold oIsi at h
  split at h
  · rename_i x y
    obtain ⟨v, u, rfl, rx, ry⟩ := VrL.inv2 r
    cases et : tyTag c x with
    | none => rw [et] at h; exact h.elim
    | some t =>
      rw [et] at h
      obtain ⟨b, e, h⟩ := blO_ok (α := Unit) h
      have q : Q (.bl b) H := h.ok (Wd.Le.refl w) rel rfl
      show zIsi K v u H Q
      cases t with
      | inl t =>
        have hp := tag_plain et
        have ty := tyTag_ok T rel rx et (fun _ z => by cases z)
        cases y with
        | ty n =>
          simp only [isi1] at e
          split at e
          · rename_i hn
            cases e
            cases (show _ = _ from ry)
            exact z_isi ty (.ty _) (kit_ty (plain_kit t hp n hn)) q
          · cases e
        | glo D =>
          simp only [isi1] at e
          split at e
          · rename_i hn
            cases e
            cases (show _ = _ from ry)
            exact z_isi ty (.own _) (T.tc D hn t hp) q
          · cases e
        | _ => cases e
      | inr C =>
        cases y with
        | ty n =>
          simp only [isi1] at e
          split at e
          · rename_i hn
            cases e
            cases (show _ = _ from ry)
            exact z_isi (tyTag_ok T rel rx et (fun _ z => by cases z; exact hn.1)) (.ty _) (T.ct C hn.1 n hn.2) q
          · cases e
        | glo D =>
          simp only [isi1] at e
          split at e
          · rename_i hn
            cases e
            cases (show _ = _ from ry)
            exact z_isi (tyTag_ok T rel rx et (fun _ z => by cases z; exact hn.1)) (.own _) (T.cc C hn.1 D hn.2) q
          · cases e
        | _ => cases e
  · exact h.elim
end
/-! ## raise -/
def idxW (idx : List (Nm × Nat)) (ws : List W) : List (Nm × W) := idx.map fun p => (p.1, ws.getD p.2 .non)
def flV (idx : List (Str × Nat)) (us : List V) : List (Str × V) := idx.map fun p => (p.1, us.getD p.2 .non)
def sRaise (C : Nm) (n : Nat) (idx : List (Nm × Nat)) (a : Ea) : Es := fun ss c => So.lift ss (a ss c) fun ws c1 => if ws.length = n ∧ n ≤ 1000 ∧ (idx.all fun p => decide (p.2 < n)) = true then .exc (.own C (idxW idx ws)) ss c1 else .bad
section
variable {K : PySem.W.Frag} {X : Xx} {aa : Ea} {C : Nm} {Cs : Str} {n : Nat}
theorem idx_ok {w : Wd} {ws : List W} {vs : List V} (r : VrL K w ws vs) : ∀ {idx : List (Nm × Nat)} {ids : List (Str × Nat)}, ids = idx.map (fun p => (mk p.1, p.2)) → (∀ p ∈ idx, p.2 < ws.length) → FR K w (idxW idx ws) (flV ids vs)
  | [], _, e, _ => by subst e; exact ⟨rfl, rfl⟩
  | (f, i) :: idx, _, e, h => by
    subst e
    obtain ⟨a, b⟩ := idx_ok r (idx := idx) rfl fun p hp => h p (List.mem_cons_of_mem _ hp)
    have hi : i < ws.length := h (f, i) List.mem_cons_self
    obtain ⟨v, hv, rv⟩ := r.get (List.getElem?_eq_getElem hi)
    have e1 : vs.getD i .non = v := by rw [List.getD_eq_getElem?_getD, hv]; rfl
    have e2 : ws.getD i .non = ws[i] := by rw [List.getD_eq_getElem?_getD, List.getElem?_eq_getElem hi]; rfl
    refine ⟨by simp only [idxW, flV, List.map_cons, List.cons.injEq, true_and]; simpa [idxW, flV] using a, v, _, ?_, by show Vr K w (ws.getD i .non) v; rw [e2]; exact rv, b⟩
    simp only [flV, List.map_cons, e1]
theorem le_raise {idx : List (Nm × Nat)} {ids : List (Str × Nat)} (hC : mk C = Cs) (hi : idx.map (fun p => (mk p.1, p.2)) = ids) (D : Ends) (σ : L2.St) (H : Hp) (h : tS K X (sRaise C n idx aa) D σ H) : fRaise (He.ga K Cs) (spEx (He.ga K Cs) n (flV ids)) [] X.x (tA K X aa) D σ H := by
  subst hC
  obtain ⟨w, c, ss, rel, sr, h⟩ := h
  refine ⟨w, c, ss, rel, sr, (SO.lift (R := VrL K) h sr).imp ?_⟩
  rintro v1 H1 ⟨w1, ws, c1, l1, rel1, r1, h1⟩
  split at h1
  · rename_i hh
    obtain ⟨hl, hn, hx⟩ := hh
    unfold zRaise
    refine ⟨by rw [r1.length, hl]; exact hn, fun a ha => ?_⟩
    unfold spEx
    refine ⟨a, v1, by rw [List.append_nil], by rw [r1.length]; exact hl, upd_same, fun d hd ne => ⟨rfl, d, flV ids v1, upd_same, by rw [upd_ne ne, upd_same], by rw [upd_ne ne] at hd; exact hd, ?_⟩⟩
    rw [ex_gone (o2 := exo a (He.ga K (mk C)) none) ha ne]
    rw [upd_ne ne] at hd
    obtain ⟨le, rel2⟩ := rel1.frz1 hd (.xd (flV ids v1))
    refine h1 _ _ σ _ _ le rel2 ((sr.mono l1.v).mono le.v) ⟨rfl, d, _, rfl, upd_same, ?_⟩
    exact (idx_ok r1 hi.symm fun p hp => by rw [hl]; exact of_decide_eq_true (List.all_eq_true.mp hx p hp)).mono le.v
  · exact h1.elim
end
/-! ## try -/
def Xc.cls : Xc → Nm
  | .own C _ => C
  | .bare C => C
def Xc.w : Xc → W
  | .own C fs => .exn C fs
  | .bare C => .exb C
/-- behind a suite -/
def So.out1 (i : Option Nat) (r : So) : So := match r with
  | .ok (.nx ss) c => if noEx (unI i ss) = true then .ok (.nx (unI i ss)) c else .bad
  | .ok (.bk ss) c => if noEx (unI i ss) = true then .ok (.bk (unI i ss)) c else .bad
  | .ok (.ct ss) c => if noEx (unI i ss) = true then .ok (.ct (unI i ss)) c else .bad
  | .ok (.rt v) c => .ok (.rt v) c
  | _ => .bad
where unI (i : Option Nat) (ss : Sl) : Sl := match i with | some i => ss.set i none | none => ss
/-- try: b except C as (slot i): s -/
def sTry (es : List Nm) (C : Nm) (i : Option Nat) (b s : Es) : Es := fun ss c => match b ss c with
  | .exc x ss1 c1 => if x.cls ∈ es ∧ C ∈ es then (if x.cls = C then (if noEx ss1 = true then (s (match i with | some i => ss1.set i (some x.w) | none => ss1) c1).out1 i else .bad) else .exc x ss1 c1) else .bad
  | r => r
section
variable {K : PySem.W.Frag} {X : Xx} {b s : Es} {C : Nm} {Cs : Str} {cs : List Nm} {xs : List (Nm × List Ty)}
theorem Xc.clsOf {w : Wd} {x : Xc} {cls : Value} {d : Option Addr} (h : XcR K w x cls d) : cls = .ref (He.ga K (mk x.cls)) := by
  cases x with
  | own C fs => exact h.1
  | bare C => exact h
theorem SO.in1 {w : Wd} {S : Sx} {D : Ends} {r : So} {i : Nat} (h : SO K w X D (So.out1 (some i) r)) : SO K w (noX S) { nx := fun σ' H' => D.nx (σ'.set i none) H', rt := D.rt, bk := fun σ' H' => D.bk (σ'.set i none) H', ct := fun σ' H' => D.ct (σ'.set i none) H' } r := by
  cases r with
  | ok f c =>
    cases f with
    | nx ss =>
      simp only [So.out1, So.out1.unI] at h
      obtain ⟨hn, g⟩ := ite_so h
      exact fun w2 H2 σ2 l a sr => g w2 H2 _ l a (SR.other hn (sr.unset i))
    | bk ss =>
      simp only [So.out1, So.out1.unI] at h
      obtain ⟨hn, g⟩ := ite_so h
      exact fun w2 H2 σ2 l a sr => g w2 H2 _ l a (SR.other hn (sr.unset i))
    | ct ss =>
      simp only [So.out1, So.out1.unI] at h
      obtain ⟨hn, g⟩ := ite_so h
      exact fun w2 H2 σ2 l a sr => g w2 H2 _ l a (SR.other hn (sr.unset i))
    | rt v => exact h
  | exc x ss c => exact h.elim
  | bad => exact h.elim
theorem SO.in0 {w : Wd} {S : Sx} {D : Ends} {r : So} (h : SO K w X D (So.out1 none r)) : SO K w (noX S) D r := by
  cases r with
  | ok f c =>
    cases f with
    | nx ss =>
      simp only [So.out1, So.out1.unI] at h
      obtain ⟨hn, g⟩ := ite_so h
      exact fun w2 H2 σ2 l a sr => g w2 H2 _ l a (SR.other hn sr)
    | bk ss =>
      simp only [So.out1, So.out1.unI] at h
      obtain ⟨hn, g⟩ := ite_so h
      exact fun w2 H2 σ2 l a sr => g w2 H2 _ l a (SR.other hn sr)
    | ct ss =>
      simp only [So.out1, So.out1.unI] at h
      obtain ⟨hn, g⟩ := ite_so h
      exact fun w2 H2 σ2 l a sr => g w2 H2 _ l a (SR.other hn sr)
    | rt v => exact h
  | exc x ss c => exact h.elim
  | bad => exact h.elim
theorem Xc.slot {S : Sx} {w : Wd} {x : Xc} (h : XcR K w x S.cls S.d) : SlR K S w x.w (.ref S.a) := by
  cases x with
  | own C fs => exact ⟨rfl, h⟩
  | bare C => exact ⟨rfl, h⟩
theorem mem_fst {xs : List (Nm × List Ty)} {C : Nm} (h : C ∈ xs.map (·.1)) : ∃ p ∈ xs, p.1 = C := by simpa using h
theorem le_tryAs {i : Nat} (T : Kt cs xs K) (hC : mk C = Cs) (D : Ends) (σ : L2.St) (H : Hp) (h : tS K X (sTry (xs.map (·.1)) C (some i) b s) D σ H) :
    tS K ⟨wAs K (.ref (He.ga K Cs)) i (fun a cls d => tS K (noX ⟨a, cls, d⟩) s) X.x D, X.s⟩ b D σ H := by
  subst hC
  obtain ⟨w, c, ss, rel, sr, h⟩ := h
  refine ⟨w, c, ss, rel, sr, ?_⟩
  unfold sTry at h
  revert h
  cases b ss c with
  | ok f c1 =>
    cases f with
    | nx _ => exact fun h => h
    | bk _ => exact fun h => h
    | ct _ => exact fun h => h
    | rt _ => exact fun h => h
  | bad => exact fun h => h
  | exc x ss1 c1 =>
    simp only
    intro h
    obtain ⟨hm, g⟩ := ite_so h
    clear h
    have h := g
    clear g
    · obtain ⟨⟨p, hp, ep⟩, q, hq, eq⟩ := (⟨mem_fst hm.1, mem_fst hm.2⟩ : (∃ p ∈ xs, p.1 = x.cls) ∧ ∃ p ∈ xs, p.1 = C)
      have hx := T.ex p hp q hq
      rw [ep, eq] at hx
      intro w' H' σ' cls d l rel' sr' xr
      have e1 := Xc.clsOf xr
      refine ⟨decide (x.cls = C), by rw [e1]; exact hx, fun hb a ha => ?_, fun hb => ?_⟩
      · rw [if_pos (of_decide_eq_true hb)] at h
        obtain ⟨hn, g⟩ := ite_so h
        exact ⟨w', c1, _, rel', SR.put (Xc.slot (S := ⟨a, cls, d⟩) xr) i (SR.other hn sr'), SO.in1 (g.mono l)⟩
      · rw [if_neg (of_decide_eq_false hb)] at h
        exact h w' H' σ' cls d l rel' sr' xr
theorem le_tryOnly (T : Kt cs xs K) (hC : mk C = Cs) (D : Ends) (σ : L2.St) (H : Hp) (h : tS K X (sTry (xs.map (·.1)) C none b s) D σ H) :
    tS K ⟨wOnly K (.ref (He.ga K Cs)) (fun a cls d => tS K (noX ⟨a, cls, d⟩) s) X.x D, X.s⟩ b D σ H := by
  subst hC
  obtain ⟨w, c, ss, rel, sr, h⟩ := h
  refine ⟨w, c, ss, rel, sr, ?_⟩
  unfold sTry at h
  revert h
  cases b ss c with
  | ok f c1 =>
    cases f with
    | nx _ => exact fun h => h
    | bk _ => exact fun h => h
    | ct _ => exact fun h => h
    | rt _ => exact fun h => h
  | bad => exact fun h => h
  | exc x ss1 c1 =>
    simp only
    intro h
    obtain ⟨hm, g⟩ := ite_so h
    clear h
    have h := g
    clear g
    · obtain ⟨⟨p, hp, ep⟩, q, hq, eq⟩ := (⟨mem_fst hm.1, mem_fst hm.2⟩ : (∃ p ∈ xs, p.1 = x.cls) ∧ ∃ p ∈ xs, p.1 = C)
      have hx := T.ex p hp q hq
      rw [ep, eq] at hx
      intro w' H' σ' cls d l rel' sr' xr
      have e1 := Xc.clsOf xr
      refine ⟨decide (x.cls = C), by rw [e1]; exact hx, fun hb a ha => ?_, fun hb => ?_⟩
      · rw [if_pos (of_decide_eq_true hb)] at h
        obtain ⟨hn, g⟩ := ite_so h
        exact ⟨w', c1, _, rel', SR.other hn sr', SO.in0 (g.mono l)⟩
      · rw [if_neg (of_decide_eq_false hb)] at h
        exact h w' H' σ' cls d l rel' sr' xr
end
/-! ## in the suite -/
def eXf (C f : Nm) (i : Nat) : Ee := fun ss c => match ss[i]? with
  | some (some (.exn C' fs)) => if C' = C then (match lkp fs f with | some v => .ok v c | none => .bad) else .bad
  | _ => .bad
def isX1 (cs : List Nm) (xs : List (Nm × List Ty)) (C : Nm) : W → Option Bool
  | .ty t => (match xs.find? (fun p => decide (p.1 = C)) with | some p => if t ∈ excTys then some (decide (t ∈ p.2)) else none | none => none)
  | .glo D => (match xs.find? (fun p => decide (p.1 = C)) with | some _ => if D ∈ cs ++ xs.map (·.1) then some (decide (C = D)) else none | none => none)
  | _ => none
def isXL (cs : List Nm) (xs : List (Nm × List Ty)) (C : Nm) : List W → Option Bool
  | [] => some false
  | x :: r => (match isX1 cs xs C x with | some true => some true | some false => isXL cs xs C r | none => none)
def eIsE (cs : List Nm) (xs : List (Nm × List Ty)) (i : Nat) (ec : Ee) : Ee := fun ss c => match ss[i]? with
  | some (some (.exn C _)) => (ec ss c).bind fun y c1 => match y with
    | .tup ys => if (C ∈ xs.map (·.1)) ∧ (ys.all fun y => (isX1 cs xs C y).isSome) = true then blO (isXL cs xs C ys) c1 else .bad
    | .ty t => blO (isX1 cs xs C (.ty t)) c1
    | .glo D => blO (isX1 cs xs C (.glo D)) c1
    | _ => .bad
  | _ => .bad
section
variable {K : PySem.W.Frag} {W1 : WX} {S : Sx} {C f : Nm} {Cs fs : Str} {i : Nat} {ec : Ee} {cs : List Nm} {xs : List (Nm × List Ty)}
theorem le_xf (hC : mk C = Cs) (hf : mk f = fs) (σ : L2.St) (H : Hp) (Q : VK) (h : tE K ⟨W1, S⟩ (eXf C f i) σ H Q) : tXf S.a S.cls S.d (He.ga K Cs) fs (tVar i) σ H Q := by
  subst hC hf
  obtain ⟨w, c, ss, rel, sr, h⟩ := h
  unfold eXf at h
  split at h
  · rename_i C' fs hs
    obtain ⟨hc, g⟩ := ite_ok h
    clear h
    subst hc
    obtain ⟨v, ev, e1, e2, dd, vs, e3, e4, e5⟩ := sr.get hs
    refine ⟨v, ev, e1, e2, dd, vs, ?_⟩
    have e6 := e5.lk (f := f)
    cases el : lkp fs f with
    | none => rw [el] at g; exact g.elim
    | some z =>
      rw [el] at g e6
      cases ew : vs.lookup (mk f) with
      | none => rw [ew] at e6; exact e6.elim
      | some u =>
        rw [ew] at e6
        exact ⟨u, e3, rel.k0 _ _ e4, rfl, g.ok (Wd.Le.refl w) rel e6⟩
  · exact h.elim
theorem isX1_ok (T : Kt cs xs K) {w : Wd} {x : W} {v : V} {b : Bool} (r : Vr K w x v) (e : isX1 cs xs C x = some b) : ∃ u, ClsV v u ∧ PySem.W.kitOne K (.ref (He.ga K (mk C))) u = some b ∧ IsC K (He.ga K (mk C)) := by
  cases x with
  | ty t =>
    cases (show _ = _ from r)
    simp only [isX1] at e
    split at e
    · rename_i p hp
      have hm := List.mem_of_find?_eq_some hp
      have hk : p.1 = C := by have := List.find?_some hp; simpa using this
      split at e
      · rename_i ht
        cases e
        subst hk
        exact ⟨_, .ty _, T.xt p hm t ht, T.xi p hm⟩
      · cases e
    · cases e
  | glo D =>
    cases (show _ = _ from r)
    simp only [isX1] at e
    split at e
    · rename_i p hp
      have hm := List.mem_of_find?_eq_some hp
      have hk : p.1 = C := by have := List.find?_some hp; simpa using this
      split at e
      · rename_i ht
        cases e
        subst hk
        exact ⟨_, .own _, T.xx p hm D ht, T.xi p hm⟩
      · cases e
    · cases e
  | _ => cases e
theorem isXL_ok (T : Kt cs xs K) {w : Wd} : ∀ {ys : List W} {vs : List V} {b : Bool}, VrL K w ys vs → isXL cs xs C ys = some b → (∀ y ∈ ys, ∃ b, isX1 cs xs C y = some b) → ∃ us, Paired ClsV vs us ∧ PySem.W.kitAny K (.ref (He.ga K (mk C))) us = some b
  | [], _, _, r, e, _ => by cases (show _ = [] from r); cases e; exact ⟨[], .nil, rfl⟩
  | y :: ys, _, b, ⟨v, r', e1, h1, h2⟩, e, ha => by
    subst e1
    obtain ⟨b1, hb1⟩ := ha y List.mem_cons_self
    obtain ⟨u, k1, k2, _⟩ := isX1_ok T h1 hb1
    simp only [isXL, hb1] at e
    cases b1 with
    | true =>
      cases e
      have : ∃ us, Paired ClsV r' us := by
        clear k1 k2
        induction ys generalizing r' with
        | nil => cases (show _ = [] from h2); exact ⟨[], .nil⟩
        | cons z zs ih =>
          obtain ⟨v2, r2, e2, g1, g2⟩ := h2
          subst e2
          obtain ⟨b2, hb2⟩ := ha z (List.mem_cons_of_mem _ List.mem_cons_self)
          obtain ⟨u2, k3, _⟩ := isX1_ok T g1 hb2
          obtain ⟨us, k4⟩ := ih r2 g2 fun q hq => by
            rcases List.mem_cons.mp hq with rfl | hq
            · exact ha q List.mem_cons_self
            · exact ha q (List.mem_cons_of_mem _ (List.mem_cons_of_mem _ hq))
          exact ⟨u2 :: us, .cons k3 k4⟩
      obtain ⟨us, k3⟩ := this
      exact ⟨u :: us, .cons k1 k3, by unfold PySem.W.kitAny; rw [k2]⟩
    | false =>
      obtain ⟨us, k3, k4⟩ := isXL_ok T h2 e fun q hq => ha q (List.mem_cons_of_mem _ hq)
      exact ⟨u :: us, .cons k1 k3, by unfold PySem.W.kitAny; rw [k2]; exact k4⟩
theorem le_isE (T : Kt cs xs K) (σ : L2.St) (H : Hp) (Q : VK) (h : tE K ⟨W1, S⟩ (eIsE cs xs i ec) σ H Q) : tCB (fIsE K S.a S.cls S.d) (tCons (tVar i) (tCons (tE K ⟨W1, S⟩ ec) tNil)) σ H Q := by
  obtain ⟨w, c, ss, rel, sr, h⟩ := h
  unfold eIsE at h
  split at h
  · rename_i C fs hs
    obtain ⟨v, ev, e1, e2, dd, vs, e3, e4, e5⟩ := sr.get hs
    subst e1
    refine ⟨_, ev, w, c, ss, rel, sr, (OR.bind (R := Vr K) h).imp ?_⟩
    rintro v1 H1 ⟨w1, y, c1, l1, rel1, r1, h1⟩
    have e4' : H1 dd = some (.xd vs) := rel1.k0 _ _ (l1.k0 _ _ e4)
    show zIsE K S.a S.cls S.d (.ref S.a) v1 H1 Q
    unfold zIsE
    cases y with
    | tup ys =>
      simp only at h1
      obtain ⟨⟨hm, ha⟩, h1⟩ := ite_ok h1
      obtain ⟨b, e6, h1⟩ := blO_ok (α := Unit) h1
      obtain ⟨a, us, e7, s, r⟩ := r1
      obtain ⟨p, hp, ep⟩ := mem_fst hm
      obtain ⟨ws, k1, k2⟩ := isXL_ok T r e6 fun y hy => Option.isSome_iff_exists.mp (List.all_eq_true.mp ha y hy)
      exact ⟨rfl, _, dd, vs, e2, e3, e4', by rw [← ep]; exact T.xi p hp, .inr ⟨a, us, ws, b, e7, rel1.k0 _ _ s, k1, k2, h1.ok (Wd.Le.refl w1) rel1 rfl⟩⟩
    | ty t =>
      obtain ⟨b, e6, h1⟩ := blO_ok (α := Unit) h1
      obtain ⟨u, k1, k2, k3⟩ := isX1_ok T r1 e6
      exact ⟨rfl, _, dd, vs, e2, e3, e4', k3, .inl ⟨u, b, k1, k2, h1.ok (Wd.Le.refl w1) rel1 rfl⟩⟩
    | glo D =>
      obtain ⟨b, e6, h1⟩ := blO_ok (α := Unit) h1
      obtain ⟨u, k1, k2, k3⟩ := isX1_ok T r1 e6
      exact ⟨rfl, _, dd, vs, e2, e3, e4', k3, .inl ⟨u, b, k1, k2, h1.ok (Wd.Le.refl w1) rel1 rfl⟩⟩
    | _ => exact h1.elim
  · exact h.elim
end
/-! ## dicts that are made -/
def eDNew : Ee := fun _ c => .ok (.ref c.length) (c ++ [.dic []])
def eDNewT : Ee := fun _ c => .ok (.ref c.length) (c ++ [.dit []])
def goPs : List (Ee × Ee) → Sl → Conf → Out (List (Ky × W))
  | [], _, c => .ok [] c
  | (k, v) :: r, ss, c => (k ss c).bind fun x c1 => match toKy x with
    | some ky => (v ss c1).bind fun y c2 => (goPs r ss c2).bind fun l c3 => .ok ((ky, y) :: l) c3
    | none => .bad
def eDisp (ps : List (Ee × Ee)) : Ee := fun ss c => (goPs ps ss (c ++ [.dic []])).bind fun l c1 => match c1[c.length]? with
  | some (.dic []) => if l.length ≤ 15 then .ok (.ref c.length) (c1.set c.length (.dic (l.foldl (fun acc p => putD acc p.1 p.2) []))) else .bad
  | _ => .bad
def trsOf (K : PySem.W.Frag) (X : Xx) : List (Ee × Ee) → List (TE × TE)
  | [] => []
  | (a, b) :: r => (tE K X a, tE K X b) :: trsOf K X r
section
variable {K : PySem.W.Frag} {X : Xx}
theorem le_dnew (σ : L2.St) (H : Hp) (Q : VK) (h : tE K X eDNew σ H Q) : tDNewK σ H Q := by
  obtain ⟨w, c, ss, rel, sr, h⟩ := h
  exact fun p hp => new_own (o := .dic []) rel hp (same_upd hp) upd_same ⟨[], rfl, rfl, rfl⟩ h
theorem le_dnewT (σ : L2.St) (H : Hp) (Q : VK) (h : tE K X eDNewT σ H Q) : tDNewT σ H Q := by
  obtain ⟨w, c, ss, rel, sr, h⟩ := h
  exact fun p hp => new_own (o := .dit []) rel hp (same_upd hp) upd_same ⟨[], rfl, rfl, rfl⟩ h
theorem goPs_ok {Q : List (V × V) → Hp → Prop} {σ : L2.St} : ∀ {ps : List (Ee × Ee)} {w : Wd} {c : Conf} {ss : Sl} {H : Hp}, Rel K w c H → SR K X.s w ss σ →
    OR K (fun w (l : List (Ky × W)) (us : List (V × V)) => us.map (·.1) = l.map (fun p => kV (ky p.1)) ∧ VrL K w (l.map (·.2)) (us.map (·.2))) w (fun cls d H' => X.x cls d σ H') Q (goPs ps ss c) →
    tPairs (trsOf K X ps) σ H Q
  | [], w, c, ss, H, rel, sr, h => h.ok (Wd.Le.refl w) rel ⟨rfl, rfl⟩
  | (k, v) :: r, w, c, ss, H, rel, sr, h => by
    refine ⟨w, c, ss, rel, sr, (OR.bind (R := Vr K) h).imp ?_⟩
    rintro v1 H1 ⟨w1, x, c1, l1, rel1, r1, h1⟩
    cases hk : toKy x with
    | none => rw [hk] at h1; exact h1.elim
    | some kk =>
      rw [hk] at h1
      refine ⟨w1, c1, ss, rel1, sr.mono l1.v, (OR.bind (R := Vr K) h1).imp ?_⟩
      rintro v2 H2 ⟨w2, y, c2, l2, rel2, r2, h2⟩
      refine goPs_ok (ps := r) rel2 (sr.mono (l1.trans l2).v) ((OR.bind h2).imp ?_)
      rintro us H3 ⟨w3, l, c3, l3, rel3, ⟨r3, r4⟩, h3⟩
      refine h3.ok (Wd.Le.refl w3) rel3 ⟨?_, v2, _, rfl, r2.mono l3.v, r4⟩
      simp only [List.map_cons, r3]
      rw [toKy_ok r1 hk]
theorem merge_ok {w : Wd} : ∀ {l : List (Ky × W)} {us : List (V × V)} {kvs : List (Ky × W)} {vs : List (Key × V)}, us.map (·.1) = l.map (fun p => kV (ky p.1)) → VrL K w (l.map (·.2)) (us.map (·.2)) → KvR K w kvs vs →
    ∃ ks : List (Key × V), us = ks.map (fun kv => (kV kv.1, kv.2)) ∧ ks.length = l.length ∧ KvR K w (l.foldl (fun acc p => putD acc p.1 p.2) kvs) (ks.foldl (fun acc p => putK acc p.1 p.2) vs)
  | [], us, kvs, vs, h, g, kr => by
    have : us = [] := by simpa using h
    subst this
    exact ⟨[], rfl, rfl, kr⟩
  | (k, y) :: l, us, kvs, vs, h, g, kr => by
    cases us with
    | nil => simp at h
    | cons p us =>
      obtain ⟨a, v⟩ := p
      simp only [List.map_cons, List.cons.injEq] at h
      obtain ⟨v', r', e, g1, g2⟩ := g
      simp only [List.map_cons, List.cons.injEq] at e
      obtain ⟨e1, e2⟩ := e
      subst e1 e2
      have e3 : a = kV (ky k) := h.1
      subst e3
      obtain ⟨ks, k1, k2, k3⟩ := merge_ok (l := l) h.2 g2 (put_ok ky (fun _ _ => ky_inj) k g1 kr.1 kr.2)
      exact ⟨(ky k, v) :: ks, by rw [k1]; rfl, by simp [k2], k3⟩
theorem le_disp {ps : List (Ee × Ee)} (σ : L2.St) (H : Hp) (Q : VK) (h : tE K X (eDisp ps) σ H Q) : tDisp (trsOf K X ps) σ H Q := by
  obtain ⟨w, c, ss, rel, sr, h⟩ := h
  intro p hp
  obtain ⟨le, rel1⟩ := rel.new (o := .dic []) (ho := .dK []) hp (same_upd hp) upd_same ⟨[], rfl, rfl, rfl⟩
  have fn : (w.new p).φ c.length = p := by rw [rel.len]; exact if_pos rfl
  refine goPs_ok rel1 (sr.mono le.v) ((OR.bind (h.mono le)).imp ?_)
  rintro us H3 ⟨w3, l, c3, l3, rel3, ⟨r3, r4⟩, h3⟩
  cases hc : c3[c.length]? with
  | none => rw [hc] at h3; exact h3.elim
  | some ob =>
    rw [hc] at h3
    have hlt : c.length < (w.new p).n := by rw [rel.len]; exact Nat.lt_succ_self _
    have fn3 : w3.φ c.length = p := by rw [l3.φ _ hlt, fn]
    cases ob with
    | dic kvs =>
      cases kvs with
      | cons _ _ => exact h3.elim
      | nil =>
        obtain ⟨ho, k1, k2, k3, k4⟩ := rel3.obj _ _ hc rfl
        rw [fn3] at k1
        simp only at h3
        obtain ⟨hl, h3⟩ := ite_ok h3
        obtain ⟨vs, e1, e2, e3⟩ := k4
        have ev : vs = [] := by simpa using e2
        subst e1 ev
        obtain ⟨ks, m1, m2, m3⟩ := merge_ok r3 r4 (⟨rfl, rfl⟩ : KvR K w3 [] [])
        refine ⟨k1, ks, m1, by rw [m2]; exact hl, ?_⟩
        have rel4 := rel3.put (ho' := .dK (mergeK [] ks)) (o' := .dic (l.foldl (fun acc p => putD acc p.1 p.2) [])) hc (ob := ⟨_, rfl, m3⟩)
        rw [fn3] at rel4
        exact h3.ok (Wd.Le.refl w3) rel4 ⟨Nat.lt_of_lt_of_le hlt l3.n, by rw [fn3]⟩
    | _ => exact h3.elim
end
/-! ## a comprehension over a dict's keys -/
def kyW : Ky → W
  | .i n => .int n
  | .s x => .str x
/-- the items that a loop over a dict yields -/
def dkeys (kvs : List (Ky × W)) : List W := kvs.map fun kv => kyW kv.1
def eLcK (o : Bool) (ed : Ee) (p : Pat) (t : Et) (e : Ee) (vs : List Nat) : Ee := fun ss c => match ed ss c with
  | .ok (.ref i) _ => (match c[i]? with
    | some (.dic kvs) => (match ed ss (c.set i (.dicF kvs)) with
      | .ok (.ref j) c2 => if j = i then (match c2[i]? with
          | some (.dicF kvs') => (match goLc p t e (wipeW ss vs) (dkeys kvs') [] c2 with
            | .ok ys c3 => (match c3[i]? with
              | some (.dicF _) => if o = true then .ok (.ref c3.length) (c3.set i (.dic kvs) ++ [.lst ys]) else .ok (.lst ys) (c3.set i (.dic kvs))
              | _ => .bad)
            | _ => .bad)
          | _ => .bad) else .bad
      | _ => .bad)
    | _ => .bad)
  | _ => .bad
section
variable {K : PySem.W.Frag} {X : Xx} {p : Pat} {bt : Et} {e : Ee} {vs : List Nat} {ed : Ee} {o : Bool}
theorem Rel.lock {w : Wd} {c : Conf} {H : Hp} {i : Nat} {kvs : List (Ky × W)} (od : Obj) (r : Rel K w c H) (hi : c[i]? = some (.dic kvs)) :
    ∃ us, H (w.φ i) = some (.dK us) ∧ KvR K w kvs us ∧ w.hd (w.φ i) = none ∧ w.Le (w.hold (w.φ i) (.frz od (.dK us))) ∧ Rel K (w.hold (w.φ i) (.frz od (.dK us))) (c.set i (.dicF kvs)) (upd H (w.φ i) (.frz od (.dK us))) := by
  have lt := r.lt hi
  obtain ⟨h0, e1, e2, e3, us, e4, e5⟩ := r.obj i _ hi rfl
  subst e4
  have le : w.Le (w.hold (w.φ i) (.frz od (.dK us))) := Wd.le_hold e3
  refine ⟨us, e1, e5, e3, le, ⟨by rw [List.length_set]; exact r.len, fun b u q => ?_, fun b u q => ?_, fun b u q nt => ?_, fun j u q qf => ?_, fun j ks q => ?_, r.inj⟩⟩
  · rw [upd_ne (ne_of_none q e2)]; exact r.k0 _ _ q
  · by_cases hb : b = w.φ i
    · subst hb
      rw [show (w.hold (w.φ i) (.frz od (.dK us))).hd (w.φ i) = some _ from upd_same] at q
      rw [upd_same]; exact q
    · rw [show (w.hold (w.φ i) (.frz od (.dK us))).hd b = w.hd b from upd_ne hb] at q
      rw [upd_ne hb]; exact r.hd _ _ q
  · by_cases hb : b = w.φ i
    · subst hb; exact e2
    · rw [show (w.hold (w.φ i) (.frz od (.dK us))).hd b = w.hd b from upd_ne hb] at q
      exact r.dis _ _ q nt
  · by_cases ej : j = i
    · subst ej
      rw [List.getElem?_set_self (by rw [r.len]; exact lt)] at q
      cases q; cases qf
    · rw [List.getElem?_set_ne (Ne.symm ej)] at q
      obtain ⟨x, h1, h2, h3, h4⟩ := r.obj j u q qf
      have ne : w.φ j ≠ w.φ i := fun z => ej (r.inj j i (r.lt q) lt z)
      have nd : ∀ dx, H dx = some (.own (w.φ j)) → dx ≠ w.φ i := fun dx qq z => by subst z; rw [e1] at qq; cases qq
      exact ⟨x, (upd_ne ne).trans h1, h2, (upd_ne ne).trans h3, h4.mono le.v fun dx qq => ⟨(upd_ne (nd dx qq)).trans qq, id, fun z => (upd_ne (nd dx qq)).trans z⟩⟩
  · by_cases ej : j = i
    · subst ej
      rw [List.getElem?_set_self (by rw [r.len]; exact lt)] at q
      cases q
      exact ⟨od, us, upd_same, e5.mono le.v⟩
    · rw [List.getElem?_set_ne (Ne.symm ej)] at q
      obtain ⟨od2, vs2, h1, h2⟩ := r.lkd j ks q
      have ne : w.φ j ≠ w.φ i := fun z => ej (r.inj j i (r.lt q) lt z)
      exact ⟨od2, vs2, (upd_ne ne).trans h1, h2.mono le.v⟩
def Wd.free (w : Wd) (p : Addr) : Wd := { w with hd := fun b => if b = p then none else w.hd b }
theorem Rel.unlock {w w3 : Wd} {c3 : Conf} {H3 : Hp} {i : Nat} {kvs ks : List (Ky × W)} {us : List (Key × V)} {od : Obj} (l : (w.hold (w.φ i) (.frz od (.dK us))).Le w3) (hn : w.hd (w.φ i) = none) (hi : i < w.n) (kv : KvR K w kvs us) (r : Rel K w3 c3 H3) (hc : c3[i]? = some (.dicF ks)) :
    H3 (w.φ i) = some (.frz od (.dK us)) ∧ w.Le (w3.free (w.φ i)) ∧ w3.Lv (w3.free (w.φ i)) ∧ Rel K (w3.free (w.φ i)) (c3.set i (.dic kvs)) (upd H3 (w.φ i) (.dK us)) := by
  have lt := r.lt hc
  have fi : w3.φ i = w.φ i := l.φ i hi
  have hd3 : w3.hd (w.φ i) = some (.frz od (.dK us)) := l.hd _ _ upd_same
  have k0n := r.dis _ _ hd3 (fun _ => HO.noConfusion)
  have lv : w3.Lv (w3.free (w.φ i)) := ⟨Same.refl _, Nat.le_refl _, fun _ _ => rfl⟩
  have hdn : ∀ b, b ≠ w.φ i → (w3.free (w.φ i)).hd b = w3.hd b := fun b h => if_neg h
  refine ⟨r.hd _ _ hd3, ⟨l.k0, fun b u q => ?_, l.n, l.φ⟩, lv, ⟨by rw [List.length_set]; exact r.len, fun b u q => ?_, fun b u q => ?_, fun b u q nt => ?_, fun j u q qf => ?_, fun j ks q => ?_, r.inj⟩⟩
  · have ne := ne_of_none q hn
    rw [hdn b ne]
    exact l.hd _ _ ((upd_ne ne).trans q)
  · rw [upd_ne (ne_of_none q k0n)]; exact r.k0 _ _ q
  · by_cases hb : b = w.φ i
    · have : (if b = w.φ i then none else w3.hd b) = some u := q
      rw [if_pos hb] at this; cases this
    · rw [hdn b hb] at q
      rw [upd_ne hb]; exact r.hd _ _ q
  · by_cases hb : b = w.φ i
    · have : (if b = w.φ i then none else w3.hd b) = some u := q
      rw [if_pos hb] at this; cases this
    · rw [hdn b hb] at q
      exact r.dis _ _ q nt
  · by_cases ej : j = i
    · subst ej
      rw [List.getElem?_set_self (by rw [r.len]; exact lt)] at q
      cases q
      refine ⟨_, ?_, ?_, ?_, us, rfl, (kv.mono (show w.Lv w3 from ⟨l.k0, l.n, l.φ⟩)).mono lv⟩
      · show upd H3 _ _ (w3.φ j) = _
        rw [fi, upd_same]
      · show w3.k0 (w3.φ j) = none
        rw [fi]; exact k0n
      · show (if w3.φ j = w.φ j then none else w3.hd (w3.φ j)) = none
        rw [if_pos fi]
    · rw [List.getElem?_set_ne (Ne.symm ej)] at q
      obtain ⟨x, h1, h2, h3, h4⟩ := r.obj j u q qf
      have ne : w3.φ j ≠ w.φ i := fun z => ej (r.inj j i (r.lt q) lt (z.trans fi.symm))
      have nd : ∀ dx, H3 dx = some (.own (w3.φ j)) → dx ≠ w.φ i := fun dx qq z => by subst z; rw [r.hd _ _ hd3] at qq; cases qq
      refine ⟨x, (upd_ne ne).trans h1, h2, (hdn _ ne).trans h3, h4.mono lv fun dx qq => ⟨(upd_ne (nd dx qq)).trans qq, id, fun z => (hdn _ (nd dx qq)).trans z⟩⟩
  · by_cases ej : j = i
    · subst ej
      rw [List.getElem?_set_self (by rw [r.len]; exact lt)] at q
      cases q
    · rw [List.getElem?_set_ne (Ne.symm ej)] at q
      obtain ⟨od2, vs2, h1, h2⟩ := r.lkd j ks q
      have ne : w3.φ j ≠ w.φ i := fun z => ej (r.inj j i (r.lt q) lt (z.trans fi.symm))
      exact ⟨od2, vs2, (hdn _ ne).trans h1, h2.mono lv⟩
theorem kyW_ok {w : Wd} (k : Ky) : Vr K w (kyW k) (kV (ky k)) := by cases k <;> rfl
theorem le_lcK (hv : ∀ i ∈ p.slots, i ∈ vs) (σ : L2.St) (H : Hp) (Q : VK) (h : tE K X (eLcK o ed p bt e vs) σ H Q) : tLockE (tLc (iKeys (tE K X ed)) (gPat K p) (tT K (noX X.s) bt) (tE K (noX X.s) e) vs) σ H Q := by
  obtain ⟨w, c, ss, rel, sr, h⟩ := h
  unfold eLcK at h
  split at h
  · rename_i i c' hed
    split at h
    · rename_i kvs hc
      split at h
      · rename_i j c2 hed2
        obtain ⟨hji, h⟩ := ite_ok h
        subst hji
        split at h
        · rename_i kvs' hc2
          obtain ⟨us0, e1, e2, e3, _, _⟩ := rel.lock (K := K) default hc
          have hlt := rel.lt hc
          refine ⟨w.φ j, .dK us0, e1, True.intro, fun od => ?_⟩
          obtain ⟨us, e1', kv, hn, le, rel1⟩ := rel.lock (K := K) od hc
          have eu : us = us0 := by
            rw [e1] at e1'
            exact (HO.dK.inj (Option.some.inj e1')).symm
          subst eu
          refine ⟨_, _, ss, rel1, sr.mono le.v, ?_⟩
          rw [hed2]
          intro w2 H2 v l2 rel2 rv
          obtain ⟨_, ev⟩ := rv
          subst ev
          have fj : w2.φ j = w.φ j := l2.φ j hlt
          obtain ⟨od2, vs2, k1, k2⟩ := rel2.lkd j _ hc2
          rw [fj] at k1
          have k3 : w2.hd (w.φ j) = some (.frz od (.dK us)) := l2.hd _ _ upd_same
          rw [k3] at k1
          have ev2 : us = vs2 := by
            have := Option.some.inj k1
            injection this with _ h2
            exact HO.dK.inj h2
          rw [← ev2] at k2
          clear k1
          refine ⟨w.φ j, od, by rw [fj], .inl ⟨us, rel2.hd _ _ k3, ?_⟩⟩
          have lenk : (dkeys kvs').length = us.length := by
            have := congrArg List.length k2.1
            simp only [List.length_map] at this
            unfold dkeys
            rw [List.length_map, this]
          have hok : OR K (VrL K) w2 (fun _ _ _ => False) (fun us H' => True) (goLc p bt e (wipeW ss vs) (dkeys kvs') [] c2) := by
            split at h
            · rename_i ys c3 eg
              rw [eg]
              exact fun _ _ _ _ _ _ => True.intro
            · exact h.elim
          refine lc_base (Ex := fun _ _ _ => False) (J := Itk (w.φ j) od us) (Q := fun v H' => H' (w.φ j) = some (.frz od (.dK us)) ∧ Q v (upd H' (w.φ j) (.dK us))) hv rel2 ((sr.mono le.v).mono l2.v) hok ?_ ?_ ?_ ?_
          · intro w3 ys zs c3 H3 D l3 rel3 r3 hdD hd0 eg ah
            rw [eg] at h
            simp only at h
            have kn : w.φ j ≠ D := fun z => by rw [z, hd0] at k3; cases k3
            cases hc3 : c3[j]? with
            | none => rw [hc3] at h; exact h.elim
            | some ob =>
              rw [hc3] at h
              cases ob <;> first | exact h.elim | skip
              rename_i ks3
              simp only at h
              by_cases ho : o = true
              · rw [if_pos ho] at h
                obtain ⟨la, rela, lva, fna⟩ := rel3.adopt (o := .lst ys) hdD (fun _ => HO.noConfusion) (fun _ _ => HO.noConfusion) (fun _ => HO.noConfusion) ah ⟨zs, rfl, ys, rfl, r3⟩
                have hj3 : j < c3.length := (List.getElem?_eq_some_iff.mp hc3).1
                have hca : (c3 ++ [O.lst ys])[j]? = some (.dicF ks3) := by rw [List.getElem?_append_left hj3]; exact hc3
                obtain ⟨q1, q2, q3, q4⟩ := Rel.unlock (l2.trans la) hn hlt kv rela hca
                refine ⟨q1, ?_⟩
                rw [show (c3 ++ [O.lst ys]).set j (.dic kvs) = c3.set j (.dic kvs) ++ [O.lst ys] from List.set_append_left _ _ hj3] at q4
                exact h.ok q2 q4 (fna.mono q3)
              · rw [if_neg ho] at h
                obtain ⟨la, rela, lva⟩ := rel3.settle hdD (fun _ => HO.noConfusion) (fun _ _ => HO.noConfusion) (fun _ => HO.noConfusion) ah
                obtain ⟨q1, q2, q3, q4⟩ := Rel.unlock (l2.trans la) hn hlt kv rela hc3
                refine ⟨q1, h.ok q2 q4 ?_⟩
                exact ⟨D, zs, rfl, upd_same, (r3.mono lva).mono q3⟩
          · exact fun w' c' H' l' rel' => ⟨rel'.hd _ _ (l'.hd _ _ k3), by rw [lenk]; exact Nat.le_refl _⟩
          · exact fun i w' c' H' hi l' rel' => ⟨rel'.hd _ _ (l'.hd _ _ k3), by rw [lenk] at hi; exact hi⟩
          · rintro i y w' c' H' v H2 hy l' rel' ⟨e2, k, z, ek, ez⟩
            subst e2 ez
            refine ⟨w', Wd.Le.refl _, rel', ?_⟩
            unfold dkeys at hy
            rw [List.getElem?_map] at hy
            obtain ⟨kv0, hk0, ey⟩ := Option.map_eq_some_iff.mp hy
            subst ey
            have : (us.map (·.1))[i]? = some k := by rw [List.getElem?_map, ek]; rfl
            rw [k2.1, List.getElem?_map, hk0] at this
            cases this
            exact kyW_ok _
        · exact h.elim
      · exact h.elim
    · exact h.elim
  · exact h.elim
end
end Ev

set_option Elab.async false
set_option linter.all false
set_option maxRecDepth 100000
set_option maxHeartbeats 4000000
namespace Ev
open PySem PySem.Spec PyProof.Rows L2 Wf TL
/-! ## constants -/
section
variable {K : PySem.W.Frag}
theorem c_non : ∀ w, Vr K w .non .non := fun _ => rfl
theorem c_bl {b : Bool} : ∀ w, Vr K w (.bl b) (.bl b) := fun _ => rfl
theorem c_int {i : Int} : ∀ w, Vr K w (.int i) (.int i) := fun _ => rfl
theorem c_str {l : List Nat} {s : Str} (h : mk l = s) : ∀ w, Vr K w (.str l) (.str s) := fun _ => by subst h; rfl
theorem c_glo {n : Nm} {s : Str} (h : mk n = s) : ∀ w, Vr K w (.glo n) (.ref (He.ga K s)) := fun _ => by subst h; rfl
theorem c_ty {t : Ty} {s : String} (h : t.s = s := by rfl) : ∀ w, Vr K w (.ty t) (.ty s) := fun _ => by subst h; rfl
theorem c_nil : ∀ w, VrL K w [] [] := fun _ => rfl
theorem c_cons {x : W} {v : V} {xs : List W} {vs : List V} (h : ∀ w, Vr K w x v) (t : ∀ w, VrL K w xs vs) : ∀ w, VrL K w (x :: xs) (v :: vs) := fun w => ⟨v, vs, rfl, h w, t w⟩
theorem c_wtp {a : Addr} {xs : List W} {vs : List V} (h : ∀ H, SqT K H a vs) (t : ∀ w, VrL K w xs vs) : ∀ w, Vr K w (.wtp xs) (.ref a) := fun w => ⟨a, vs, rfl, h _, t w⟩
theorem c_wls {a : Addr} {xs : List W} {vs : List V} (h : ∀ H, SqL K H a vs) (t : ∀ w, VrL K w xs vs) : ∀ w, Vr K w (.wls xs) (.ref a) := fun w => ⟨a, vs, rfl, h _, t w⟩
/-! ## is None; chains -/
def oIsN : W → W → Conf → Out W := fun x y c => match y with
  | .non => (match x with | .non => .ok (.bl true) c | _ => .ok (.bl false) c)
  | _ => .bad
def oNotN : W → W → Conf → Out W := fun x y c => match y with
  | .non => (match x with | .non => .ok (.bl false) c | _ => .ok (.bl true) c)
  | _ => .bad
theorem nonV {w : Wd} {x : W} {v : V} (h : Vr K w x v) : (v = .non) ↔ x = .non := by
  cases x with
  | non => cases (show _ = _ from h); exact ⟨fun _ => rfl, fun _ => rfl⟩
  | bl b => cases (show _ = _ from h); exact ⟨fun z => V.noConfusion z, fun z => W.noConfusion z⟩
  | int b => cases (show _ = _ from h); exact ⟨fun z => V.noConfusion z, fun z => W.noConfusion z⟩
  | str b => cases (show _ = _ from h); exact ⟨fun z => V.noConfusion z, fun z => W.noConfusion z⟩
  | ty b => cases (show _ = _ from h); exact ⟨fun z => V.noConfusion z, fun z => W.noConfusion z⟩
  | glo b => cases (show _ = _ from h); exact ⟨fun z => V.noConfusion z, fun z => W.noConfusion z⟩
  | ref b => obtain ⟨_, e⟩ := h; subst e; exact ⟨fun z => V.noConfusion z, fun z => W.noConfusion z⟩
  | tup b => obtain ⟨a, vs, e, _⟩ := h; subst e; exact ⟨fun z => V.noConfusion z, fun z => W.noConfusion z⟩
  | lst b => obtain ⟨a, vs, e, _⟩ := h; subst e; exact ⟨fun z => V.noConfusion z, fun z => W.noConfusion z⟩
  | wls b => obtain ⟨a, vs, e, _⟩ := h; subst e; exact ⟨fun z => V.noConfusion z, fun z => W.noConfusion z⟩
  | wtp b => obtain ⟨a, vs, e, _⟩ := h; subst e; exact ⟨fun z => V.noConfusion z, fun z => W.noConfusion z⟩
  | exn _ _ => exact h.elim
  | exb _ => exact h.elim
theorem s_isN : OpS K rIsN oIsN := by
  intro w c H x y vx vy Ex Q rel rx ry h
  unfold oIsN at h
  split at h
  · cases (show _ = _ from ry)
    refine ⟨rfl, ?_⟩
    split at h
    · rw [decide_eq_true ((nonV rx).mpr rfl)]; exact h.ok (Wd.Le.refl w) rel rfl
    · rename_i hx
      rw [decide_eq_false fun z => hx ((nonV rx).mp z)]; exact h.ok (Wd.Le.refl w) rel rfl
  · exact h.elim
theorem s_notN : OpS K rNotN oNotN := by
  intro w c H x y vx vy Ex Q rel rx ry h
  unfold oNotN at h
  split at h
  · cases (show _ = _ from ry)
    refine ⟨rfl, ?_⟩
    split at h
    · rw [decide_eq_true ((nonV rx).mpr rfl)]; exact h.ok (Wd.Le.refl w) rel rfl
    · rename_i hx
      rw [decide_eq_false fun z => hx ((nonV rx).mp z)]; exact h.ok (Wd.Le.refl w) rel rfl
  · exact h.elim
def eChain (f g : W → W → Conf → Out W) (ea eb ec : Ee) : Ee := fun ss c => (ea ss c).bind fun x c1 => (eb ss c1).bind fun y c2 => (f x y c2).bind fun z c3 => match z with
  | .bl true => (ec ss c3).bind fun u c4 => g y u c4
  | .bl false => .ok (.bl false) c3
  | _ => .bad
end
section
variable {K : PySem.W.Frag} {X : Xx} {ea eb ec : Ee} {p : Pat}
theorem le_asgX {t : TE} (l : ∀ σ H Q, tE K X ea σ H Q → t σ H Q) (D : Ends) (σ : L2.St) (H : Hp) (h : tS K X (sAsg ea p) D σ H) : tAsg t (gPat K p) D σ H := l _ _ _ (le_asg D σ H h)
theorem le_asgK {td : TE} {tt : TT} {te : TE} {vs : List Nat} {i : Nat} {q : Pat} (l : ∀ σ H Q, tE K X ea σ H Q → tLockE (tLc (iKeys td) (gPat K q) tt te vs) σ H Q) (D : Ends) (σ : L2.St) (H : Hp) (h : tS K X (sAsg ea (.nm i)) D σ H) : tLock (tAsg (tLc (iKeys td) (gPat K q) tt te vs) (gName i)) D σ H := l _ _ _ (le_asg D σ H h)
end
section
variable {X : Cx} {e : Expr} {ifs : List Expr}
theorem pwm {t t' : TT} (h : ∀ σ H Q, t' σ H Q → t σ H Q) (p : PW X e t) : PW X e t' := ⟨fun wh a b c d Q I g => p.run wh a b c d Q I (h _ _ _ g)⟩
theorem ptsm {t t' : TT} (h : ∀ σ H Q, t' σ H Q → t σ H Q) (p : PTs X ifs t) : PTs X ifs t' := ⟨fun a b c d Q I g => p.run a b c d Q I (h _ _ _ g)⟩
end
/-! ## a, b = x, y -/
def sPar (i j : Nat) (a : Ea) : Es := fun ss c => So.lift ss (a ss c) fun xs c1 => match xs with | [x, y] => .ok (.nx ((ss.set i (some x)).set j (some y))) c1 | _ => .bad
section
variable {K : PySem.W.Frag} {X : Xx} {aa : Ea} {ea eb ec : Ee} {i j : Nat} {r r' : R2} {f g : W → W → Conf → Out W}
theorem le_par (D : Ends) (σ : L2.St) (H : Hp) (h : tS K X (sPar i j aa) D σ H) : tPar i j (tA K X aa) D σ H := by
  obtain ⟨w, c, ss, rel, sr, h⟩ := h
  refine ⟨w, c, ss, rel, sr, (SO.lift (R := VrL K) h sr).imp ?_⟩
  rintro v1 H1 ⟨w1, x, c1, l1, rel1, r1, h1⟩
  split at h1
  · obtain ⟨v, u, rfl, rx, ry⟩ := VrL.inv2 r1
    exact ⟨v, u, rfl, h1 w1 H1 _ (Wd.Le.refl w1) rel1 (((sr.mono l1.v).set rx i).set ry j)⟩
  · exact h1.elim
theorem le_chain (s : OpS K r f) (s' : OpS K r' g) (σ : L2.St) (H : Hp) (Q : VK) (h : tE K X (eChain f g ea eb ec) σ H Q) : tChain r r' (tE K X ea) (tE K X eb) (tE K X ec) σ H Q := by
  obtain ⟨w, c, ss, rel, sr, h⟩ := h
  refine ⟨w, c, ss, rel, sr, (OR.bind (R := Vr K) h).imp ?_⟩
  rintro v1 H1 ⟨w1, x, c1, l1, rel1, r1, h1⟩
  refine ⟨w1, c1, ss, rel1, sr.mono l1.v, (OR.bind (R := Vr K) h1).imp ?_⟩
  rintro v2 H2 ⟨w2, y, c2, l2, rel2, r2, h2⟩
  refine s w2 c2 H2 x y v1 v2 _ _ rel2 (r1.mono l2.v) r2 ((OR.bind (R := Vr K) h2).imp ?_)
  rintro v3 H3 ⟨w3, z, c3, l3, rel3, r3, h3⟩
  cases z <;> first | exact h3.elim | skip
  rename_i k
  cases (show _ = _ from r3)
  refine ⟨k, rfl, ?_⟩
  cases k with
  | false => rw [if_neg (by decide)]; exact h3.ok (Wd.Le.refl w3) rel3 rfl
  | true =>
    rw [if_pos rfl]
    refine ⟨w3, c3, ss, rel3, sr.mono ((l1.trans l2).trans l3).v, (OR.bind (R := Vr K) h3).imp ?_⟩
    rintro v4 H4 ⟨w4, u, c4, l4, rel4, r4, h4⟩
    exact s' w4 c4 H4 y u v2 v4 _ Q rel4 ((r2.mono l3.v).mono l4.v) r4 h4
end
/-! ## [*x, y] -/
def aStar (e : Ee) (a : Ea) : Ea := fun ss c => (e ss c).bind fun x c1 => match (match rdL c1 x with | some xs => some xs | none => rdT x) with
  | some xs => (a ss c1).bind fun ys c2 => .ok (xs ++ ys) c2
  | none => .bad
section
variable {K : PySem.W.Frag} {X : Xx} {aa : Ea} {ea : Ee}
theorem le_star (σ : L2.St) (H : Hp) (Q : List V → Hp → Prop) (h : tA K X (aStar ea aa) σ H Q) : StX.tStar K (tE K X ea) (tA K X aa) σ H Q := by
  obtain ⟨w, c, ss, rel, sr, h⟩ := h
  refine ⟨w, c, ss, rel, sr, (OR.bind (R := Vr K) h).imp ?_⟩
  rintro v1 H1 ⟨w1, x, c1, l1, rel1, r1, h1⟩
  have fin : ∀ (xs : List W) (us : List V), VrL K w1 xs us → OR K (VrL K) w1 (fun cls d H' => X.x cls d σ H') Q ((aa ss c1).bind fun ys c2 => .ok (xs ++ ys) c2) → tA K X aa σ H1 fun ys H2 => Q (us ++ ys) H2 := by
    intro xs us r h2
    refine ⟨w1, c1, ss, rel1, sr.mono l1.v, (OR.bind (R := VrL K) h2).imp ?_⟩
    rintro v2 H2 ⟨w2, y, c2, l2, rel2, r2, h3⟩
    exact h3.ok (Wd.Le.refl w2) rel2 ((r.mono l2.v).app r2)
  cases hL : rdL c1 x with
  | some xs =>
    rw [hL] at h1
    obtain ⟨a, us, e1, s, r⟩ := rdL_ok rel1 r1 hL
    exact ⟨a, us, e1, .inr s, fin xs us r h1⟩
  | none =>
    rw [hL] at h1
    cases hT : rdT x with
    | some xs =>
      rw [hT] at h1
      obtain ⟨a, us, e1, s, r⟩ := rdT_ok rel1 r1 hT
      exact ⟨a, us, e1, .inl s, fin xs us r h1⟩
    | none => rw [hT] at h1; exact h1.elim
end
/-! ## repr -/
def digW : Nat → Nat → List Nat
  | 0, _ => []
  | n + 1, k => if k < 10 then [48 + k] else digW n (k / 10) ++ [48 + k % 10]
def oRepr : List W → Conf → Out W := fun xs c => match xs with
  | [.non] => .ok (.str [78, 111, 110, 101]) c
  | [.bl b] => .ok (.str (if b then [84, 114, 117, 101] else [70, 97, 108, 115, 101])) c
  | [.int i] => if 0 ≤ i ∧ i < 10000 ∧ mk (digW 6 i.toNat) = (toString i : Str) then .ok (.str (digW 6 i.toNat)) c else .bad
  | [.str s] => if (reprText (mk s)).length ≤ 1000000 then .ok (.str (reprText (mk s)).cps.toList) c else .bad
  | _ => .bad
section
variable {K : PySem.W.Frag}
theorem s_repr : CallS K fRepr oRepr := by
  intro w c H xs vs Ex Q rel r h
  unfold oRepr at h
  split at h
  · obtain ⟨v, rfl, rx⟩ := VrL.inv1 r
    cases (show _ = _ from rx)
    exact h.ok (Wd.Le.refl w) rel (show V.str _ = V.str _ by congr 1)
  · obtain ⟨v, rfl, rx⟩ := VrL.inv1 r
    cases (show _ = _ from rx)
    rename_i b
    cases b <;> exact h.ok (Wd.Le.refl w) rel (show V.str _ = V.str _ by congr 1)
  · obtain ⟨v, rfl, rx⟩ := VrL.inv1 r
    cases (show _ = _ from rx)
    obtain ⟨hp, h⟩ := ite_ok h
    refine z_reprI ?_ (h.ok (Wd.Le.refl w) rel (show V.str _ = V.str _ by rw [hp.2.2]))
    have : (‹Int›).natAbs < 10000 := by omega
    by_cases hz : (‹Int›).natAbs = 0
    · rw [hz]; decide
    · refine (Nat.log2_lt hz).mpr (Nat.lt_of_lt_of_le this ?_)
      exact Nat.le_trans (show 10000 ≤ 2 ^ 14 by decide) (Nat.pow_le_pow_right (by decide) (by decide))
  · obtain ⟨v, rfl, rx⟩ := VrL.inv1 r
    cases (show _ = _ from rx)
    obtain ⟨hp, h⟩ := ite_ok h
    exact z_reprS (len_le hp) (h.ok (Wd.Le.refl w) rel (show V.str _ = V.str _ by simp [mk]))
  · exact h.elim
end
/-! ## the law's own end -/
def noS : Sx := ⟨0, .none, none⟩
def spE0 (K : PySem.W.Frag) (e : Fn) : Sp := fun vs H Q _ => ∃ w c ws, Rel K w c H ∧ VrL K w ws vs ∧ OR K (Vr K) w (fun _ _ _ => False) Q (e ws c)
section
variable {K : PySem.W.Frag} {n m : Nat} {s : Es} {vs : List V} {H : Hp} {Q : VK} {E : XK}
theorem def_len0 (h : spE0 K (eDef n m s) vs H Q E) : vs.length = n := def_len (E := fun _ _ _ => False) h
theorem def_ok0 {N : List Str} (hN : N.length = m) (h : spE0 K (eDef n m s) vs H Q E) : tS K (noX noS) s { nx := fun _ H1 => Q .non H1, rt := Q } (start N vs) H := def_ok (S := noS) hN (E := fun _ _ _ => False) h
theorem ints_ok {w : Wd} : ∀ ns : List Int, VrL K w (ns.map .int) (ns.map V.int)
  | [] => rfl
  | n :: ns => ⟨_, _, rfl, rfl, ints_ok ns⟩
/-- the law's call: it gives True -/
theorem law_end {e : Fn} {a : Addr} {ns : List Int} (h : ∃ c, e [.wls (ns.map .int)] [] = .ok (.bl true) c) (hs : SqL K H a (ns.map V.int)) : spE0 K e [.ref a] H (fun v _ => v = .bl true) E := by
  obtain ⟨c, h⟩ := h
  refine ⟨⟨H, fun _ => none, 0, fun _ => 0⟩, [], [.wls (ns.map .int)], ⟨rfl, Same.refl _, (fun _ _ z => by cases z), (fun _ _ z => by cases z), (fun _ _ z => by simp at z), (fun _ _ z => by simp at z), (fun _ _ z => by cases z)⟩,
    VrL.one ⟨a, _, rfl, hs, ints_ok ns⟩, ?_⟩
  rw [h]
  exact fun w' H' v _ _ r => r
end
end Ev

set_option Elab.async false
set_option linter.all false
set_option maxRecDepth 100000
set_option maxHeartbeats 4000000
namespace Ev
open PySem PySem.Spec PyProof.Rows L2 Wf TL
/-! # a call that sees the last objects only: it computes on them alone -/
mutual
def sh (n : Nat) : W → W
  | .non => .non
  | .bl b => .bl b
  | .int i => .int i
  | .str s => .str s
  | .ty t => .ty t
  | .tup xs => .tup (shL n xs)
  | .lst xs => .lst (shL n xs)
  | .wls xs => .wls (shL n xs)
  | .wtp xs => .wtp (shL n xs)
  | .ref i => .ref (i + n)
  | .glo g => .glo g
  | .exn C fs => .exn C fs
  | .exb C => .exb C
def shL (n : Nat) : List W → List W
  | [] => []
  | x :: xs => sh n x :: shL n xs
end
def shP {κ : Type} (n : Nat) (kvs : List (κ × W)) : List (κ × W) := kvs.map fun p => (p.1, sh n p.2)
def shO (n : Nat) : O → O
  | .lst xs => .lst (shL n xs)
  | .dic kvs => .dic (shP n kvs)
  | .dit kvs => .dit (shP n kvs)
  | .ins C fs => .ins C (shP n fs)
  | .dicF kvs => .dicF (shP n kvs)
def shX (n : Nat) : Xc → Xc
  | .own C fs => .own C (shP n fs)
  | .bare C => .bare C
theorem shO_fz {n : Nat} {o : O} : (shO n o).fz = o.fz := by cases o <;> rfl
theorem shL_map {n : Nat} : ∀ xs : List W, shL n xs = xs.map (sh n)
  | [] => rfl
  | x :: xs => by show sh n x :: shL n xs = _; rw [shL_map xs]; rfl
theorem shP_snd {κ : Type} {n : Nat} (kvs : List (κ × W)) : (shP n kvs).map (·.2) = shL n (kvs.map (·.2)) := by
  rw [shL_map]; simp [shP]
theorem shP_fst {κ : Type} {n : Nat} (kvs : List (κ × W)) : (shP n kvs).map (·.1) = kvs.map (·.1) := by simp [shP]
theorem shP_fst2 {κ α : Type} {n : Nat} (kvs : List (κ × W)) (g : κ → α) : (shP n kvs).map (fun p => g p.1) = kvs.map (fun p => g p.1) := by simp [shP]
/-- w' sees all of w0, moved by n -/
structure Wd.Up (w0 w' : Wd) (n : Nat) : Prop where
  k0 : Same w0.k0 w'.k0
  lt : ∀ i, i < w0.n → i + n < w'.n
  φ : ∀ i, i < w0.n → w'.φ (i + n) = w0.φ i
section
variable {K : PySem.W.Frag} {w w0 w' : Wd} {n : Nat}
mutual
theorem Vr.up (u : w0.Up w' n) : ∀ {x : W} {v : V}, Vr K w0 x v → Vr K w' (sh n x) v
  | .non, _, h => h
  | .bl _, _, h => h
  | .int _, _, h => h
  | .str _, _, h => h
  | .ty _, _, h => h
  | .tup xs, _, ⟨a, vs, e, s, r⟩ => ⟨a, vs, e, u.k0 _ _ s, VrL.up u r⟩
  | .wtp xs, _, ⟨a, vs, e, s, r⟩ => ⟨a, vs, e, sqT_mono u.k0 s, VrL.up u r⟩
  | .lst xs, _, ⟨a, vs, e, s, r⟩ => ⟨a, vs, e, u.k0 _ _ s, VrL.up u r⟩
  | .wls xs, _, ⟨a, vs, e, s, r⟩ => ⟨a, vs, e, sqL_mono u.k0 s, VrL.up u r⟩
  | .ref i, _, ⟨h, e⟩ => ⟨u.lt i h, by rw [e, u.φ i h]⟩
  | .glo _, _, h => h
  | .exn _ _, _, h => h
  | .exb _, _, h => h
theorem VrL.up (u : w0.Up w' n) : ∀ {xs : List W} {vs : List V}, VrL K w0 xs vs → VrL K w' (shL n xs) vs
  | [], _, h => h
  | x :: xs, _, ⟨v, r, e, h1, h2⟩ => ⟨v, r, e, Vr.up u h1, VrL.up u h2⟩
end
/-- back: w0 sees what of w lies behind n -/
structure Wd.Dn (w w0 : Wd) (n : Nat) : Prop where
  k0 : w0.k0 = w.k0
  lt : ∀ i, i + n < w.n → i < w0.n
  φ : ∀ i, w0.φ i = w.φ (i + n)
mutual
theorem Vr.dn (u : w.Dn w0 n) : ∀ {x : W} {v : V}, Vr K w (sh n x) v → Vr K w0 x v
  | .non, _, h => h
  | .bl _, _, h => h
  | .int _, _, h => h
  | .str _, _, h => h
  | .ty _, _, h => h
  | .tup xs, _, ⟨a, vs, e, s, r⟩ => ⟨a, vs, e, by rw [u.k0]; exact s, VrL.dn u r⟩
  | .wtp xs, _, ⟨a, vs, e, s, r⟩ => ⟨a, vs, e, by rw [u.k0]; exact s, VrL.dn u r⟩
  | .lst xs, _, ⟨a, vs, e, s, r⟩ => ⟨a, vs, e, by rw [u.k0]; exact s, VrL.dn u r⟩
  | .wls xs, _, ⟨a, vs, e, s, r⟩ => ⟨a, vs, e, by rw [u.k0]; exact s, VrL.dn u r⟩
  | .ref i, _, ⟨h, e⟩ => ⟨u.lt i h, by rw [e, u.φ i]⟩
  | .glo _, _, h => h
  | .exn _ _, _, h => h
  | .exb _, _, h => h
theorem VrL.dn (u : w.Dn w0 n) : ∀ {xs : List W} {vs : List V}, VrL K w (shL n xs) vs → VrL K w0 xs vs
  | [], _, h => h
  | x :: xs, _, ⟨v, r, e, h1, h2⟩ => ⟨v, r, e, Vr.dn u h1, VrL.dn u h2⟩
end
theorem FR.up (u : w0.Up w' n) {fs : List (Nm × W)} {vs : List (Str × V)} (h : FR K w0 fs vs) : FR K w' (shP n fs) vs := ⟨by rw [h.1, shP_fst2 fs mk], by rw [shP_snd]; exact h.2.up u⟩
theorem FR.dn (u : w.Dn w0 n) {fs : List (Nm × W)} {vs : List (Str × V)} (h : FR K w (shP n fs) vs) : FR K w0 fs vs := ⟨by rw [h.1, shP_fst2 fs mk], by have := h.2; rw [shP_snd] at this; exact this.dn u⟩
theorem KvR.up (u : w0.Up w' n) {fs : List (Ky × W)} {vs : List (Key × V)} (h : KvR K w0 fs vs) : KvR K w' (shP n fs) vs := ⟨by rw [h.1, shP_fst2 fs ky], by rw [shP_snd]; exact h.2.up u⟩
theorem KvR.dn (u : w.Dn w0 n) {fs : List (Ky × W)} {vs : List (Key × V)} (h : KvR K w (shP n fs) vs) : KvR K w0 fs vs := ⟨by rw [h.1, shP_fst2 fs ky], by have := h.2; rw [shP_snd] at this; exact this.dn u⟩
theorem KtR.up (u : w0.Up w' n) {fs : List (List Ky × W)} {vs : List (List Key × V)} (h : KtR K w0 fs vs) : KtR K w' (shP n fs) vs := ⟨by rw [h.1, shP_fst2 fs (fun k => k.map ky)], by rw [shP_snd]; exact h.2.up u⟩
theorem KtR.dn (u : w.Dn w0 n) {fs : List (List Ky × W)} {vs : List (List Key × V)} (h : KtR K w (shP n fs) vs) : KtR K w0 fs vs := ⟨by rw [h.1, shP_fst2 fs (fun k => k.map ky)], by have := h.2; rw [shP_snd] at this; exact this.dn u⟩
theorem XcR.up (u : w0.Up w' n) {x : Xc} {cls : Value} {d : Option Addr} (h : XcR K w0 x cls d) : XcR K w' (shX n x) cls d := by
  cases x with
  | own C fs => obtain ⟨e, dd, vs, e2, h, f⟩ := h; exact ⟨e, dd, vs, e2, u.k0 _ _ h, f.up u⟩
  | bare C => exact h
end
/-- the call's outcome, put behind c1 again -/
def unfr (c1 : Conf) : Out W → Out W
  | .ok x D => if (D.all fun o => !o.fz) = true then .ok (sh c1.length x) (c1 ++ D.map (shO c1.length)) else .bad
  | .exc x D => if (D.all fun o => !o.fz) = true then .exc (shX c1.length x) (c1 ++ D.map (shO c1.length)) else .bad
  | .bad => .bad
section
variable {K : PySem.W.Frag} {w : Wd} {c1 c2 : Conf} {H : Hp}
def InTail (w : Wd) (H : Hp) (n : Nat) (c2 : Conf) (a : Addr) : Prop := ∃ i, i < c2.length ∧ (a = w.φ (i + n) ∨ ∃ cls vs, H (w.φ (i + n)) = some (.ins cls a vs))
open Classical in
noncomputable def Wd.cut (w : Wd) (H : Hp) (n : Nat) (c2 : Conf) : Wd := { k0 := w.k0, hd := fun a => if w.k0 a = none ∧ ¬ InTail w H n c2 a then H a else none, n := c2.length, φ := fun i => w.φ (i + n) }
theorem tail_get {i : Nat} {n : Nat} (hn : n = c1.length) : (c1 ++ c2.map (shO n))[i + n]? = (c2[i]?).map (shO n) := by
  subst hn
  rw [List.getElem?_append_right (by omega), Nat.add_sub_cancel, List.getElem?_map]
theorem cut_hd {a : Addr} {u : HO} {n : Nat} : (w.cut H n c2).hd a = some u ↔ (w.k0 a = none ∧ ¬ InTail w H n c2 a) ∧ H a = some u := by
  unfold Wd.cut
  simp only
  constructor
  · intro h
    split at h
    · rename_i q; exact ⟨q, h⟩
    · cases h
  · rintro ⟨q, h⟩
    rw [if_pos q]; exact h
theorem cut_hd_none {a : Addr} {n : Nat} (h : InTail w H n c2 a) : (w.cut H n c2).hd a = none := by
  unfold Wd.cut
  simp only
  rw [if_neg fun q => q.2 h]
theorem cut_dn (rel : Rel K w (c1 ++ c2.map (shO c1.length)) H) : w.Dn (w.cut H c1.length c2) c1.length :=
  ⟨rfl, fun i hi => by
    have := rel.len
    simp only [List.length_append, List.length_map] at this
    show i < c2.length
    omega, fun _ => rfl⟩
theorem cut_rel (rel : Rel K w (c1 ++ c2.map (shO c1.length)) H) (hz : (c2.all fun o => !o.fz) = true) : Rel K (w.cut H c1.length c2) c2 H := by
  have len := rel.len
  simp only [List.length_append, List.length_map] at len
  refine ⟨rfl, rel.k0, fun a u h => (cut_hd.mp h).2, fun a u h _ => (cut_hd.mp h).1.1, fun i o e ef => ?_, fun i kvs e => ?_, fun i j hi hj e => ?_⟩
  · have hi : i < c2.length := (List.getElem?_eq_some_iff.mp e).1
    obtain ⟨ho, h1, h2, h3, h4⟩ := rel.obj (i + c1.length) (shO c1.length o) (by rw [tail_get rfl, e]; rfl) (by rw [shO_fz]; exact ef)
    refine ⟨ho, h1, h2, cut_hd_none ⟨i, hi, .inl rfl⟩, ?_⟩
    have dn := cut_dn rel
    cases o with
    | lst xs => obtain ⟨vs, e1, r⟩ := h4; exact ⟨vs, e1, r.dn dn⟩
    | dic kvs => obtain ⟨vs, e1, r⟩ := h4; exact ⟨vs, e1, KvR.dn dn r⟩
    | dit kvs => obtain ⟨vs, e1, r⟩ := h4; exact ⟨vs, e1, KtR.dn dn r⟩
    | dicF kvs => exact True.intro
    | ins C fs =>
      obtain ⟨dx, vs, e1, r, q1, q2, q3⟩ := h4
      exact ⟨dx, vs, e1, FR.dn dn r, q1, q2, cut_hd_none ⟨i, hi, .inr ⟨_, vs, by rw [h1, e1]⟩⟩⟩
  · have := List.all_eq_true.mp hz _ (List.mem_of_getElem? e)
    cases this
  · have hi' : i < c2.length := hi
    have hj' : j < c2.length := hj
    have := rel.inj (i + c1.length) (j + c1.length) (by omega) (by omega) e
    omega
/-- what is not of the tail stays -/
theorem not_tail_hd (rel : Rel K w (c1 ++ c2.map (shO c1.length)) H) (hz : (c2.all fun o => !o.fz) = true) {a : Addr} {u : HO} (h : w.hd a = some u) : ¬ InTail w H c1.length c2 a := by
  rintro ⟨i, hi, q⟩
  have e : c2[i]? = some c2[i] := List.getElem?_eq_getElem hi
  have ef : (c2[i]).fz = false := by have := List.all_eq_true.mp hz _ (List.getElem_mem hi); simpa using this
  obtain ⟨ho, h1, h2, h3, h4⟩ := rel.obj (i + c1.length) (shO c1.length c2[i]) (by rw [tail_get rfl, e]; rfl) (by rw [shO_fz]; exact ef)
  rcases q with q | ⟨cls, vs, q⟩
  · subst q; rw [h3] at h; cases h
  · rw [h1] at q
    cases q
    generalize c2[i] = o at h4 ef
    cases o with
    | lst xs => obtain ⟨_, e1, _⟩ := h4; cases e1
    | dic xs => obtain ⟨_, e1, _⟩ := h4; cases e1
    | dit xs => obtain ⟨_, e1, _⟩ := h4; cases e1
    | dicF xs => cases ef
    | ins C fs =>
      obtain ⟨dx, vs2, e1, r, q1, q2, q3⟩ := h4
      cases e1
      rw [q3] at h; cases h
theorem not_tail_ob (rel : Rel K w (c1 ++ c2.map (shO c1.length)) H) (hz : (c2.all fun o => !o.fz) = true) {i : Nat} (hi : i < c1.length) : ¬ InTail w H c1.length c2 (w.φ i) ∧ ∀ dx, H dx = some (.own (w.φ i)) → ¬ InTail w H c1.length c2 dx := by
  have len := rel.len
  simp only [List.length_append, List.length_map] at len
  have key : ∀ j, j < c2.length → ∃ ho, H (w.φ (j + c1.length)) = some ho ∧ (∀ x, ho ≠ .own x) ∧ ∀ cls a vs, ho = .ins cls a vs → H a = some (.own (w.φ (j + c1.length))) := by
    intro j hj
    have e : c2[j]? = some c2[j] := List.getElem?_eq_getElem hj
    have ef : (c2[j]).fz = false := by have := List.all_eq_true.mp hz _ (List.getElem_mem hj); simpa using this
    obtain ⟨ho, h1, h2, h3, h4⟩ := rel.obj (j + c1.length) (shO c1.length c2[j]) (by rw [tail_get rfl, e]; rfl) (by rw [shO_fz]; exact ef)
    refine ⟨ho, h1, fun x => ObR.notown (by rw [shO_fz]; exact ef) h4, fun cls a vs q => ?_⟩
    subst q
    generalize c2[j] = o at h4 ef
    cases o with
    | lst xs => obtain ⟨_, e1, _⟩ := h4; cases e1
    | dic xs => obtain ⟨_, e1, _⟩ := h4; cases e1
    | dit xs => obtain ⟨_, e1, _⟩ := h4; cases e1
    | dicF xs => cases ef
    | ins C fs =>
      obtain ⟨dx, vs2, e1, r, q1, q2, q3⟩ := h4
      cases e1
      exact q1
  -- what stands at an object ahead is no mark
  have hi2 : i < w.n := by omega
  constructor
  · rintro ⟨j, hj, q⟩
    obtain ⟨ho, k1, k2, k3⟩ := key j hj
    rcases q with q | ⟨cls, vs, q⟩
    · have := rel.inj i (j + c1.length) (by omega) (by omega) q
      omega
    · rw [k1] at q
      cases q
      have k4 := k3 _ _ _ rfl
      have hgi : i < (c1 ++ c2.map (shO c1.length)).length := by simp; omega
      cases hgo : ((c1 ++ c2.map (shO c1.length))[i]'hgi).fz with
      | true =>
        cases ho2 : ((c1 ++ c2.map (shO c1.length))[i]'hgi) with
        | dicF kvs =>
          obtain ⟨od, vs3, z1, _⟩ := rel.lkd i kvs (by rw [List.getElem?_eq_getElem hgi, ho2])
          have := rel.hd _ _ z1
          rw [k4] at this; cases this
        | _ => rw [ho2] at hgo; cases hgo
      | false =>
        obtain ⟨ho2, z1, z2, z3, z4⟩ := rel.obj i _ (List.getElem?_eq_getElem hgi) hgo
        rw [k4] at z1
        exact absurd (Option.some.inj z1).symm (z4.notown hgo)
  · rintro dx hdx ⟨j, hj, q⟩
    obtain ⟨ho, k1, k2, k3⟩ := key j hj
    rcases q with q | ⟨cls, vs, q⟩
    · subst q
      rw [k1] at hdx
      exact k2 _ (Option.some.inj hdx)
    · rw [k1] at q
      cases q
      have k4 := k3 _ _ _ rfl
      rw [hdx] at k4
      have e2 : w.φ i = w.φ (j + c1.length) := by injection k4 with z; injection z
      have := rel.inj i (j + c1.length) (by omega) (by omega) e2
      omega
def Wd.back (w w1 : Wd) (n : Nat) : Wd := { k0 := w1.k0, hd := w.hd, n := n + w1.n, φ := fun i => if i < n then w.φ i else w1.φ (i - n) }
theorem ObR.nottup {K : PySem.W.Frag} {w : Wd} {H : Hp} {a : Addr} : ∀ {o : O} {ho : HO}, ObR K w H a o ho → o.fz = false → ∀ vs, ho ≠ .tup vs
  | .lst xs, _, ⟨vs, e, h⟩, _, _ => by rw [e]; exact HO.noConfusion
  | .dic _, _, ⟨vs, e, h⟩, _, _ => by rw [e]; exact HO.noConfusion
  | .dit _, _, ⟨vs, e, h⟩, _, _ => by rw [e]; exact HO.noConfusion
  | .dicF _, _, _, h, _ => by cases h
  | .ins C fs, _, ⟨dx, vs, e, _⟩, _, _ => by rw [e]; exact HO.noConfusion
theorem frame_back (rel : Rel K w (c1 ++ c2.map (shO c1.length)) H) (hz : (c2.all fun o => !o.fz) = true) {w1 : Wd} {D : Conf} {H' : Hp} (l : (w.cut H c1.length c2).Le w1) (rel1 : Rel K w1 D H') (hD : (D.all fun o => !o.fz) = true) :
    w.Le (w.back w1 c1.length) ∧ Rel K (w.back w1 c1.length) (c1 ++ D.map (shO c1.length)) H' ∧ w1.Up (w.back w1 c1.length) c1.length := by
  have len := rel.len
  simp only [List.length_append, List.length_map] at len
  have hn1 : c2.length ≤ w1.n := l.n
  have up : w1.Up (w.back w1 c1.length) c1.length := ⟨Same.refl _, fun i hi => by show i + c1.length < c1.length + w1.n; omega, fun i hi => by
    show (if i + c1.length < c1.length then _ else w1.φ (i + c1.length - c1.length)) = _
    rw [if_neg (by omega), Nat.add_sub_cancel]⟩
  have le : w.Le (w.back w1 c1.length) := ⟨l.k0, Same.refl _, by show w.n ≤ c1.length + w1.n; omega, fun i hi => by
    show (if i < c1.length then _ else w1.φ (i - c1.length)) = _
    by_cases h : i < c1.length
    · rw [if_pos h]
    · rw [if_neg h, l.φ (i - c1.length) (by show i - c1.length < c2.length; omega)]
      show w.φ (i - c1.length + c1.length) = _
      rw [Nat.sub_add_cancel (by omega)]⟩
  have keep : ∀ a u, H a = some u → w.k0 a = none → ¬ InTail w H c1.length c2 a → H' a = some u ∧ ((∀ vs, u ≠ .tup vs) → w1.k0 a = none) ∧ w1.hd a = some u := by
    intro a u h1 h2 h3
    have := l.hd a u (cut_hd.mpr ⟨⟨h2, h3⟩, h1⟩)
    exact ⟨rel1.hd _ _ this, rel1.dis _ _ this, this⟩
  refine ⟨le, ⟨by simp only [List.length_append, List.length_map]; show _ = c1.length + w1.n; rw [rel1.len], rel1.k0, fun a u h => ?_, fun a u h nt => ?_, fun i o e ef => ?_, fun i kvs e => ?_, fun i j hi hj e => ?_⟩, up⟩
  · cases hk : w.k0 a with
    | none => exact (keep a u (rel.hd _ _ h) hk (not_tail_hd rel hz h)).1
    | some u' =>
      have e1 := rel.k0 _ _ hk
      rw [rel.hd _ _ h] at e1
      cases e1
      exact rel1.k0 _ _ (l.k0 _ _ hk)
  · exact (keep a u (rel.hd _ _ h) (rel.dis _ _ h nt) (not_tail_hd rel hz h)).2.1 nt
  · by_cases hi : i < c1.length
    · have e0 : (c1 ++ c2.map (shO c1.length))[i]? = some o := by rw [List.getElem?_append_left hi] at e ⊢; exact e
      obtain ⟨ho, h1, h2, h3, h4⟩ := rel.obj i o e0 ef
      obtain ⟨nt1, nt2⟩ := not_tail_ob rel hz hi
      have eφ : (w.back w1 c1.length).φ i = w.φ i := if_pos hi
      obtain ⟨k1, k2, _⟩ := keep _ _ h1 h2 nt1
      rw [eφ]
      refine ⟨ho, k1, k2 (h4.nottup ef), h3, h4.mono le.v fun dx hdx => ⟨?_, fun h => (keep _ _ hdx h (nt2 dx hdx)).2.1 (fun _ => HO.noConfusion), id⟩⟩
      cases hk : w.k0 dx with
      | none => exact (keep _ _ hdx hk (nt2 dx hdx)).1
      | some u =>
        have := rel.k0 _ _ hk
        rw [hdx] at this
        cases this
        exact rel1.k0 _ _ (l.k0 _ _ hk)
    · obtain ⟨j, rfl⟩ : ∃ j, i = j + c1.length := ⟨i - c1.length, by omega⟩
      rw [tail_get rfl] at e
      cases hd : D[j]? with
      | none => rw [hd] at e; cases e
      | some o2 =>
        rw [hd] at e
        cases e
        rw [shO_fz] at ef
        have hj : j < w1.n := by rw [← rel1.len]; exact (List.getElem?_eq_some_iff.mp hd).1
        obtain ⟨ho, h1, h2, h3, h4⟩ := rel1.obj j o2 hd ef
        have eφ : (w.back w1 c1.length).φ (j + c1.length) = w1.φ j := up.φ j hj
        have hdn : ∀ a, w1.k0 a = none → w1.hd a = none → w.hd a = none := fun a hk h => by
          have hk : w.k0 a = none := by
            cases q : w.k0 a with
            | none => rfl
            | some u => rw [l.k0 _ _ q] at hk; cases hk
          cases q : w.hd a with
          | none => rfl
          | some u =>
            have := (keep a u (rel.hd _ _ q) hk (not_tail_hd rel hz q)).2.2
            rw [h] at this; cases this
        rw [eφ]
        refine ⟨ho, h1, h2, hdn _ h2 h3, ?_⟩
        cases o2 with
        | lst xs => obtain ⟨vs, e1, r⟩ := h4; exact ⟨vs, e1, r.up up⟩
        | dic kvs => obtain ⟨vs, e1, r⟩ := h4; exact ⟨vs, e1, KvR.up up r⟩
        | dit kvs => obtain ⟨vs, e1, r⟩ := h4; exact ⟨vs, e1, KtR.up up r⟩
        | dicF kvs => exact True.intro
        | ins C fs =>
          obtain ⟨dx, vs, e1, r, q1, q2, q3⟩ := h4
          exact ⟨dx, vs, e1, FR.up up r, q1, q2, hdn _ q2 q3⟩
  · by_cases hi : i < c1.length
    · have e0 : (c1 ++ c2.map (shO c1.length))[i]? = some (.dicF kvs) := by rw [List.getElem?_append_left hi] at e ⊢; exact e
      obtain ⟨od, vs, h1, h2⟩ := rel.lkd i kvs e0
      have eφ : (w.back w1 c1.length).φ i = w.φ i := if_pos hi
      rw [eφ]
      exact ⟨od, vs, h1, h2.mono le.v⟩
    · obtain ⟨j, rfl⟩ : ∃ j, i = j + c1.length := ⟨i - c1.length, by omega⟩
      rw [tail_get rfl] at e
      cases hd : D[j]? with
      | none => rw [hd] at e; cases e
      | some o2 =>
        rw [hd] at e
        have h := List.all_eq_true.mp hD _ (List.mem_of_getElem? hd)
        have e2 : shO c1.length o2 = .dicF kvs := Option.some.inj e
        have : (shO c1.length o2).fz = true := by rw [e2]; rfl
        rw [shO_fz] at this
        rw [this] at h; cases h
  · have hi' : i < c1.length + w1.n := hi
    have hj' : j < c1.length + w1.n := hj
    have mixed : ∀ i j, i < c1.length → ¬ j < c1.length → j < c1.length + w1.n → (w.back w1 c1.length).φ i = (w.back w1 c1.length).φ j → False := by
      intro i j hi hj hj2 e
      have e1 : (w.back w1 c1.length).φ i = w.φ i := if_pos hi
      have e2 : (w.back w1 c1.length).φ j = w1.φ (j - c1.length) := if_neg hj
      rw [e1, e2] at e
      obtain ⟨nt1, _⟩ := not_tail_ob rel hz hi
      have hj3 : j - c1.length < w1.n := by omega
      have hjD : j - c1.length < D.length := by rw [rel1.len]; exact hj3
      have ef : (D[j - c1.length]).fz = false := by have := List.all_eq_true.mp hD _ (List.getElem_mem hjD); simpa using this
      obtain ⟨ho, h1, h2, h3, _⟩ := rel1.obj (j - c1.length) _ (List.getElem?_eq_getElem hjD) ef
      rw [← e] at h2 h3
      have hk0 : w.k0 (w.φ i) = none := by
        cases q : w.k0 (w.φ i) with
        | none => rfl
        | some u => rw [l.k0 _ _ q] at h2; cases h2
      have : i < w.n := by omega
      obtain ⟨u, hu⟩ := rel.isob this
      have := (keep _ _ hu hk0 nt1).2.2
      rw [h3] at this; cases this
    by_cases a : i < c1.length
    · by_cases b : j < c1.length
      · have e1 : (w.back w1 c1.length).φ i = w.φ i := if_pos a
        have e2 : (w.back w1 c1.length).φ j = w.φ j := if_pos b
        rw [e1, e2] at e
        exact rel.inj i j (by omega) (by omega) e
      · exact (mixed i j a b hj' e).elim
    · by_cases b : j < c1.length
      · exact (mixed j i b a hi' e.symm).elim
      · have e1 : (w.back w1 c1.length).φ i = w1.φ (i - c1.length) := if_neg a
        have e2 : (w.back w1 c1.length).φ j = w1.φ (j - c1.length) := if_neg b
        rw [e1, e2] at e
        have := rel1.inj _ _ (by omega) (by omega) e
        omega
theorem frame {f : Fn} {ws : List W} {vs : List V} {Q : VK} {E : XK} (rel : Rel K w (c1 ++ c2.map (shO c1.length)) H) (hz : (c2.all fun o => !o.fz) = true) (r : VrL K w (shL c1.length ws) vs)
    (h : OR K (Vr K) w (fun cls d H' => E cls d H') Q (unfr c1 (f ws c2))) : spE K f vs H Q E := by
  refine ⟨w.cut H c1.length c2, c2, ws, cut_rel rel hz, r.dn (cut_dn rel), ?_⟩
  revert h
  cases f ws c2 with
  | ok x D =>
    intro h w1 H' v l rel1 rv
    obtain ⟨hD, h⟩ := ite_ok h
    obtain ⟨le, rel2, up⟩ := frame_back rel hz l rel1 hD
    exact h _ H' v le rel2 (rv.up up)
  | exc x D =>
    intro h w1 H' cls d l rel1 rx
    obtain ⟨hD, h⟩ := ite_ok h
    obtain ⟨le, rel2, up⟩ := frame_back rel hz l rel1 hD
    exact h _ H' cls d le rel2 (rx.up up)
  | bad => exact fun h => h.elim
end
end Ev

set_option Elab.async false
set_option linter.all false
set_option maxRecDepth 100000
set_option maxHeartbeats 4000000
namespace Ev
open PySem PySem.Spec PyProof.Rows L2 Wf TL
/-! # more: bits, op=, match -/
def oBor : W → W → Conf → Out W := fun x y c => match x, y with | .int i, .int j => .ok (.int (Builtin.bitOr i j)) c | _, _ => .bad
def oBand : W → W → Conf → Out W := fun x y c => match x, y with | .int i, .int j => .ok (.int (Builtin.bitAnd i j)) c | _, _ => .bad
def oShl : W → W → Conf → Out W := fun x y c => match x, y with | .int i, .int j => if 0 ≤ j ∧ j ≤ 1000000 ∧ i.natAbs < 2 ^ 64 then .ok (.int (i * 2 ^ j.toNat)) c else .bad | _, _ => .bad
def oShr : W → W → Conf → Out W := fun x y c => match x, y with | .int i, .int j => if 0 ≤ j then .ok (.int (i / 2 ^ j.toNat)) c else .bad | _, _ => .bad
/-- a += of ints and of texts -/
def oIAdd : W → W → Conf → Out W := fun x y c => match x, y with
  | .int i, .int j => .ok (.int (i + j)) c
  | .str a, .str b => if a.length + b.length ≤ 1000000 then .ok (.str (a ++ b)) c else .bad
  | _, _ => .bad
def kIAdd : R2 := fun x y H Q => (∃ i j, x = .int i ∧ y = .int j ∧ Q (.int (i + j)) H) ∨ ∃ i j : Str, x = .str i ∧ y = .str j ∧ i.length + j.length ≤ sizeLine ∧ Q (.str (i ++ j)) H
section
variable {K : PySem.W.Frag} {X : Cx}
theorem s_bor : OpS K (rI0 fun i j => .int (Builtin.bitOr i j)) oBor := by
  intro w c H x y vx vy Ex Q rel rx ry h
  cases x <;> cases y <;> first | exact h.elim | skip
  cases (show _ = _ from rx); cases (show _ = _ from ry)
  exact ⟨_, _, rfl, rfl, h.ok (Wd.Le.refl w) rel rfl⟩
theorem s_band : OpS K (rI0 fun i j => .int (Builtin.bitAnd i j)) oBand := by
  intro w c H x y vx vy Ex Q rel rx ry h
  cases x <;> cases y <;> first | exact h.elim | skip
  cases (show _ = _ from rx); cases (show _ = _ from ry)
  exact ⟨_, _, rfl, rfl, h.ok (Wd.Le.refl w) rel rfl⟩
theorem s_shl : OpS K (rI CPow fun i j => .int (i * 2 ^ j.toNat)) oShl := by
  intro w c H x y vx vy Ex Q rel rx ry h
  cases x <;> cases y <;> first | exact h.elim | skip
  cases (show _ = _ from rx); cases (show _ = _ from ry)
  obtain ⟨hp, h⟩ := ite_ok h
  exact ⟨_, _, rfl, rfl, hp, h.ok (Wd.Le.refl w) rel rfl⟩
theorem s_shr : OpS K (rI (fun _ j => 0 ≤ j) fun i j => .int (i / 2 ^ j.toNat)) oShr := by
  intro w c H x y vx vy Ex Q rel rx ry h
  cases x <;> cases y <;> first | exact h.elim | skip
  cases (show _ = _ from rx); cases (show _ = _ from ry)
  obtain ⟨hp, h⟩ := ite_ok h
  exact ⟨_, _, rfl, rfl, hp, h.ok (Wd.Le.refl w) rel rfl⟩
theorem iop_iadd : OpR X (inplaceOp .Add) kIAdd := by
  intro pins s σ H x y v u Q I rx ry h
  rcases h with h | h
  · exact iop_add pins s σ H x y v u Q I rx ry h
  · exact iop_add_str pins s σ H x y v u Q I rx ry h
theorem s_iadd : OpS K kIAdd oIAdd := by
  intro w c H x y vx vy Ex Q rel rx ry h
  cases x <;> cases y <;> first | exact h.elim | skip
  · cases (show _ = _ from rx); cases (show _ = _ from ry)
    exact .inl ⟨_, _, rfl, rfl, h.ok (Wd.Le.refl w) rel rfl⟩
  · cases (show _ = _ from rx); cases (show _ = _ from ry)
    obtain ⟨hp, h⟩ := ite_ok h
    rename_i a b _
    refine .inr ⟨_, _, rfl, rfl, ?_, h.ok (Wd.Le.refl w) rel ?_⟩
    · show a.toArray.size + b.toArray.size ≤ _
      simp only [List.size_toArray]
      exact Nat.le_trans hp (by decide)
    · show V.str (mk a ++ mk b) = V.str (mk (a ++ b))
      congr 1
      show (⟨a.toArray ++ b.toArray⟩ : Str) = ⟨(a ++ b).toArray⟩
      simp
theorem iop_isub : OpR X (inplaceOp .Sub) (rI0 fun i j => .int (i - j)) := iop_sub
theorem s_isub : OpS K (rI0 fun i j => .int (i - j)) oSub := by
  intro w c H x y vx vy Ex Q rel rx ry h
  cases x <;> cases y <;> first | exact h.elim | skip
  cases (show _ = _ from rx); cases (show _ = _ from ry)
  exact ⟨_, _, rfl, rfl, h.ok (Wd.Le.refl w) rel rfl⟩
theorem s_imul : OpS K (rI CMul fun i j => .int (i * j)) (fun x y c => match x, y with | .int i, .int j => if (-(2 ^ 64) < i ∧ i < 2 ^ 64) ∨ (-(2 ^ 64) < j ∧ j < 2 ^ 64) then .ok (.int (i * j)) c else .bad | _, _ => .bad) := by
  intro w c H x y vx vy Ex Q rel rx ry h
  cases x <;> cases y <;> first | exact h.elim | skip
  cases (show _ = _ from rx); cases (show _ = _ from ry)
  obtain ⟨hp, h⟩ := ite_ok h
  exact ⟨_, _, rfl, rfl, hp, h.ok (Wd.Le.refl w) rel rfl⟩
end
/-! ## op= -/
def sAug (f : W → W → Conf → Out W) (i : Nat) (ea : Ee) : Es := fun ss c => match ss[i]? with
  | some (some x) => if isEx (some x) = true then .bad else So.lift ss (ea ss c) fun y c1 => So.lift ss (f x y c1) fun z c2 => .ok (.nx (ss.set i (some z))) c2
  | _ => .bad
def sAugF (C fl : Nm) (f : W → W → Conf → Out W) (eo ev : Ee) : Es := fun ss c => So.lift ss (eo ss c) fun x c1 => match insW c1 x with
  | some (C', fs) => if C' = C then (match lkp fs fl with
    | some v => So.lift ss (ev ss c1) fun y c2 => So.lift ss (f v y c2) fun z c3 => (match x with
      | .ref i => (match c3[i]? with
        | some (.ins C'' fs') => if C'' = C ∧ fs'.length < 1000 then .ok (.nx ss) (c3.set i (.ins C'' (putW fl z fs'))) else .bad
        | _ => .bad)
      | _ => .bad)
    | none => .bad) else .bad
  | none => .bad
def sAugI (f : W → W → Conf → Out W) (eo ei ev : Ee) : Es := fun ss c => So.lift ss (eo ss c) fun o c1 => So.lift ss (ei ss c1) fun i c2 => match o, i with
  | .ref n, .int j => (match c2[n]? with
    | some (.lst xs) => (match atW xs j with
      | some x => So.lift ss (ev ss c2) fun y c4 => So.lift ss (f x y c4) fun z c5 => (match putI c5 o i z with
        | some c6 => .ok (.nx ss) c6
        | none => .bad)
      | none => .bad)
    | _ => .bad)
  | _, _ => .bad
theorem SlR.val {K : PySem.W.Frag} {S : Sx} {w : Wd} {x : W} {v : V} (h : SlR K S w x v) (n : ¬ isEx (some x) = true) : Vr K w x v := by
  cases x <;> first | exact h | exact absurd rfl n
/-- the reading of a list's item, by values -/
def rGetL (K : PySem.W.Frag) : V → V → Hp → VK → Prop := fun x y H Q => ∃ (p : Addr) (xs : List V) (i : Int) (v : V), x = .ref p ∧ y = .int i ∧ SqL K H p xs ∧ atI xs i = some v ∧ Q v H
theorem fk_getL {X : Cx} : PGet X (rGetL X.K) := by
  intro pins s σ H x y v u Q I rx ry h
  obtain ⟨p, xs, i, z, rfl, rfl, hq, he, q⟩ := h
  cases rx
  obtain ⟨t, rfl⟩ := ry
  obtain ⟨its, r, pl, hz⟩ := I.list hq
  obtain ⟨j, h1, h2, h3, h4, h5⟩ := atI_get he
  obtain ⟨w, ew, rw'⟩ := r.get h2
  have hl := r.length
  have hn := line63
  by_cases h0 : 0 ≤ i
  · have hj : i.toNat = j := by
      rw [seqIndex_of h0 h5] at h1
      exact Option.some.inj h1
    exact PySem.wpAny_getItem_list pl.isList h0 (by omega) (by rw [hj]; simpa using ew) ⟨z, H, I, rw', q⟩
  · have hj : (i + (its.toArray.size : Int)).toNat = j := by
      rw [seqIndex_neg (by omega) h4] at h1
      rw [List.size_toArray, ← hl]
      exact Option.some.inj h1
    exact PySem.wpAny_getItem_list_neg pl.isList (by omega) (by rw [List.size_toArray] <;> omega) (by omega) (by rw [hj]; simpa using ew) ⟨z, H, I, rw', q⟩
section
variable {K : PySem.W.Frag} {X : Xx} {r : R2} {f : W → W → Conf → Out W} {ea eo ei ev : Ee} {C fl : Nm} {Cs fs : Str}
theorem le_aug (s : OpS K r f) {i : Nat} (D : Ends) (σ : L2.St) (H : Hp) (h : tS K X (sAug f i ea) D σ H) : tAug i (tE K X ea) r D σ H := by
  obtain ⟨w, c, ss, rel, sr, h⟩ := h
  unfold sAug at h
  cases e : ss[i]? with
  | none => rw [e] at h; exact h.elim
  | some o =>
    rw [e] at h
    cases o with
    | none => exact h.elim
    | some x =>
      simp only at h
      split at h
      · exact h.elim
      · rename_i ne
        obtain ⟨vx, e1, r1⟩ := sr.get e
        have rx := r1.val ne
        refine ⟨vx, e1, w, c, ss, rel, sr, (SO.lift (R := Vr K) h sr).imp ?_⟩
        rintro v1 H1 ⟨w1, y, c1, l1, rel1, ry, h1⟩
        refine s w1 c1 H1 x y vx v1 _ _ rel1 (rx.mono l1.v) ry ((SO.lift (R := Vr K) h1 (sr.mono l1.v)).imp ?_)
        rintro v2 H2 ⟨w2, z, c2, l2, rel2, rz, h2⟩
        exact h2 w2 H2 _ (Wd.Le.refl w2) rel2 ((sr.mono (l1.trans l2).v).set rz i)
theorem le_augF (s : OpS K r f) (hC : mk C = Cs) (hf : mk fl = fs) (c0 : Cls K (He.ga K Cs)) (n0 : NoAttr K (He.ga K Cs) fs) (D : Ends) (σ : L2.St) (H : Hp) (h : tS K X (sAugF C fl f eo ev) D σ H) : sFldAug K (tE K X eo) (tE K X ev) r fs D σ H := by
  subst hC hf
  obtain ⟨w, c, ss, rel, sr, h⟩ := h
  refine ⟨w, c, ss, rel, sr, (SO.lift (R := Vr K) h sr).imp ?_⟩
  rintro v1 H1 ⟨w1, x, c1, l1, rel1, r1, h1⟩
  cases e : insW c1 x with
  | none => rw [e] at h1; exact h1.elim
  | some q =>
    obtain ⟨C', fs⟩ := q
    rw [e] at h1
    simp only at h1
    split at h1
    · rename_i hC
      subst hC
      obtain ⟨a, dx, vs, e1, e2, e3⟩ := insW_ok rel1 r1 e
      have e4 := e3.lk (f := fl)
      cases el : lkp fs fl with
      | none => rw [el] at h1; exact h1.elim
      | some z =>
        rw [el] at h1 e4
        cases evl : vs.lookup (mk fl) with
        | none => rw [evl] at e4; exact e4.elim
        | some v =>
          rw [evl] at e4
          refine ⟨a, _, dx, vs, v, e1, e2, c0, n0, evl, w1, c1, ss, rel1, sr.mono l1.v, (SO.lift (R := Vr K) h1 (sr.mono l1.v)).imp ?_⟩
          rintro v2 H2 ⟨w2, y, c2, l2, rel2, r2, h2⟩
          refine s w2 c2 H2 z y v v2 _ _ rel2 (Vr.mono l2.v e4) r2 ((SO.lift (R := Vr K) h2 (sr.mono (l1.trans l2).v)).imp ?_)
          rintro v3 H3 ⟨w3, u, c3, l3, rel3, r3, h3⟩
          cases x <;> first | exact h3.elim | skip
          rename_i i
          simp only at h3
          cases hc : c3[i]? with
          | none => rw [hc] at h3; exact h3.elim
          | some ob =>
            rw [hc] at h3
            cases ob <;> first | exact h3.elim | skip
            rename_i C2 fs2
            simp only at h3
            split at h3
            · rename_i hh
              obtain ⟨hC2, hl⟩ := hh
              subst hC2
              obtain ⟨ho, k1, k2, k3, dx2, vs2, k4, k5, k6, k7, k8⟩ := rel3.obj i _ hc rfl
              subst k4
              have r1' := (r1.mono l2.v).mono l3.v
              obtain ⟨_, er⟩ := r1'
              rw [e1] at er
              cases er
              have ne : dx2 ≠ w3.φ i := fun z => by subst z; rw [k1] at k6; cases k6
              refine ⟨dx2, vs2, k1, by rw [k5.length]; exact hl, ?_⟩
              have rel4 := rel3.put (ho' := .ins (He.ga K (mk C2)) dx2 (putF (mk fl) v3 vs2)) (o' := .ins C2 (putW fl u fs2)) hc (ob := ⟨dx2, _, rfl, k5.put r3, by rw [upd_ne ne]; exact k6, k7, k8⟩)
              exact h3 w3 _ σ (Wd.Le.refl w3) rel4 (sr.mono ((l1.trans l2).trans l3).v)
            · exact h3.elim
    · exact h1.elim
theorem le_augI (s : OpS K r f) (D : Ends) (σ : L2.St) (H : Hp) (h : tS K X (sAugI f eo ei ev) D σ H) : tAugS (tE K X eo) (tE K X ei) (tE K X ev) (rGetL K) r kSet2 D σ H := by
  obtain ⟨w, c, ss, rel, sr, h⟩ := h
  refine ⟨w, c, ss, rel, sr, (SO.lift (R := Vr K) h sr).imp ?_⟩
  rintro v1 H1 ⟨w1, o, c1, l1, rel1, r1, h1⟩
  refine ⟨w1, c1, ss, rel1, sr.mono l1.v, (SO.lift (R := Vr K) h1 (sr.mono l1.v)).imp ?_⟩
  rintro v2 H2 ⟨w2, i, c2, l2, rel2, r2, h2⟩
  have r1 := r1.mono l2.v
  have sr2 := sr.mono (l1.trans l2).v
  cases o with
  | ref n => ?_
  | _ => exact h2.elim
  cases i with
  | int j => ?_
  | _ => exact h2.elim
  simp only at h2
  cases hc : c2[n]? with
  | none => rw [hc] at h2; exact h2.elim
  | some ob =>
    rw [hc] at h2
    cases ob <;> first | exact h2.elim | skip
    rename_i xs
    simp only at h2
    cases ha : atW xs j with
    | none => rw [ha] at h2; exact h2.elim
    | some x =>
      rw [ha] at h2
      simp only at h2
      obtain ⟨ho, k1, k2, k3, vs, k4, k5⟩ := rel2.obj n _ hc rfl
      subst k4
      obtain ⟨v, e1, rx⟩ := atW_ok k5 ha
      have r1c := r1
      obtain ⟨_, er⟩ := r1c
      cases (show _ = _ from r2)
      refine ⟨w2.φ n, vs, j, v, er, rfl, SqL.of k1, e1, w2, c2, ss, rel2, sr2, (SO.lift (R := Vr K) h2 sr2).imp ?_⟩
      rintro v4 H4 ⟨w4, y, c4, l4, rel4, r4, h4⟩
      refine s w4 c4 H4 x y v v4 _ _ rel4 (rx.mono l4.v) r4 ((SO.lift (R := Vr K) h4 (sr2.mono l4.v)).imp ?_)
      rintro v5 H5 ⟨w5, z, c5, l5, rel5, r5, h5⟩
      cases e : putI c5 (.ref n) (.int j) z with
      | none => rw [e] at h5; exact h5.elim
      | some c6 =>
        rw [e] at h5
        exact putI_ok rel5 (r1.mono (l4.trans l5).v) (show Vr K w5 (.int j) (.int j) from rfl) r5 e fun H' rel' => h5 w5 H' σ (Wd.Le.refl w5) rel' (sr2.mono (l4.trans l5).v)
end
/-! ## match on texts -/
/-- cases: a text each, at last perhaps _ -/
def tMatch (te : TE) (r : Str → TS) : TS := fun D σ H => te σ H fun x H1 => ∃ s : Str, x = .str s ∧ r s D σ H1
structure PMs (X : Cx) (cases : List MatchCase) (r : Str → TS) : Prop where
  run : ∀ (pins : List (Addr × Obj)) (s : Shared) (σ : L2.St) (H : Hp) (D : Ends) (x : Str) (v : Value) (b : Bool), Inv X pins σ H s → RelV (.str x) v → r x D σ H → wpAny (model X.prog X.w) X.A (matchCases cases X.env v b) (L2.SP X pins D) X.xe s
section
variable {X : Cx} {pos p1 p2 : Pos} {e : Expr} {te : TE} {r : Str → TS} {t : TS} {cases : List MatchCase} {body : List Stmt}
theorem pms_nil : PMs X [] (fun _ => tNext) := ⟨fun _ _ σ H _ _ _ _ I _ h => wpAny_matchCases_nil ⟨σ, H, I, h⟩⟩
theorem pms_str {k : Str} {j : Nat} (hb : PSs X body t) (hr : PMs X cases r) : PMs X (⟨.MatchValue (.Constant (.str k) j p1) p2, none, body⟩ :: cases) (fun s => if s = k then t else r s) := by
  refine ⟨fun pins s σ H D x v b I rx h => wpAny_matchCases_cons ?_⟩
  refine wpAny_matchPattern_Value ?_
  refine thn ((pe_str (X := X) (x := k) (j := j) (pos := p1)).run pins s σ H (fun y H1 => y = .str k ∧ H1 = H) I ⟨rfl, rfl⟩) ?_
  rintro u s1 ⟨y, H1, I1, ry, e1, e2⟩
  subst e1 e2
  refine thn (op_eq pins s1 σ H1 (.str x) (.str k) v u (fun y H2 => y = .bl (decide (V.str x = V.str k)) ∧ H2 = H1) I1 rx ry ⟨rfl, rfl, rfl⟩) ?_
  rintro z s2 ⟨y2, H2, I2, rz, e3, e4⟩
  subst e3 e4
  cases rz
  refine wpAny_truthy_bool ?_
  have ed : decide (V.str x = V.str k) = decide (x = k) := decide_eq_decide.mpr ⟨fun q => V.str.inj q, fun q => by rw [q]⟩
  rw [ed]
  by_cases hk : x = k
  · rw [decide_eq_true hk]
    simp only [if_true]
    have h2 : t D σ H2 := by simpa only [if_pos hk] using h
    exact wpAny_assignInOrder_none (hb.run pins s2 σ H2 D I2 h2)
  · rw [decide_eq_false hk]
    have h2 : r x D σ H2 := by simpa only [if_neg hk] using h
    exact hr.run pins s2 σ H2 D x v false I2 rx h2
theorem pms_any (hb : PSs X body t) : PMs X [⟨.MatchAs none none p1, none, body⟩] (fun _ => t) := by
  refine ⟨fun pins s σ H D x v b I rx h => wpAny_matchCases_cons ?_⟩
  exact wpAny_matchPattern_Capture (wpAny_assignInOrder_none (hb.run pins s σ H D I h))
theorem ps_match (he : PE X e te) (hc : PMs X cases r) : PS X (.Match e cases pos) (tMatch te r) := by
  refine ⟨fun pins s σ H D I h => wpAny_Match ?_⟩
  refine thn (he.run pins s σ H _ I h) ?_
  rintro v s1 ⟨x, H1, I1, rx, str, e1, q⟩
  subst e1
  exact hc.run pins s1 σ H1 D str v true I1 rx q
end
def sMatch (e : Ee) (cs : List (List Nat × Es)) (d : Es) : Es := fun ss c => So.lift ss (e ss c) fun x c1 => match x with
  | .str s => (match cs.find? (fun p => decide (p.1 = s)) with | some p => p.2 ss c1 | none => d ss c1)
  | _ => .bad
/-- the cases' readings, by the evaluators' -/
def rdM (K : PySem.W.Frag) (X : Xx) (d : Es) : List (List Nat × Es) → Str → TS
  | [] => fun _ => tS K X d
  | p :: cs => fun s => if s = mk p.1 then tS K X p.2 else rdM K X d cs s
section
variable {K : PySem.W.Frag} {X : Xx} {e : Ee} {cs : List (List Nat × Es)} {d : Es}
theorem rdM_ok {s : List Nat} {w : Wd} {c : Conf} {ss : Sl} {σ : L2.St} {H : Hp} {D : Ends} (rel : Rel K w c H) (sr : SR K X.s w ss σ) : ∀ cs : List (List Nat × Es), SO K w X D (match cs.find? (fun p => decide (p.1 = s)) with | some p => p.2 ss c | none => d ss c) → rdM K X d cs (mk s) D σ H
  | [], h => ⟨w, c, ss, rel, sr, h⟩
  | p :: cs, h => by
    by_cases hk : p.1 = s
    · rw [List.find?_cons_of_pos (by simpa using hk)] at h
      simp only [rdM]
      rw [if_pos (by rw [hk])]
      exact ⟨w, c, ss, rel, sr, h⟩
    · rw [List.find?_cons_of_neg (by simpa using hk)] at h
      simp only [rdM]
      rw [if_neg (fun q => hk (mk_inj q).symm)]
      exact rdM_ok rel sr cs h
theorem le_match (D : Ends) (σ : L2.St) (H : Hp) (h : tS K X (sMatch e cs d) D σ H) : tMatch (tE K X e) (rdM K X d cs) D σ H := by
  obtain ⟨w, c, ss, rel, sr, h⟩ := h
  refine ⟨w, c, ss, rel, sr, (SO.lift (R := Vr K) h sr).imp ?_⟩
  rintro v1 H1 ⟨w1, x, c1, l1, rel1, r1, h1⟩
  cases x <;> first | exact h1.elim | skip
  cases (show _ = _ from r1)
  exact ⟨_, rfl, rdM_ok rel1 (sr.mono l1.v) cs h1⟩
/-- the derivation of the cases -/
theorem pms_cons {Y : Cx} {k : List Nat} {ks : Str} {j : Nat} {p1 p2 : Pos} {body : List Stmt} {cases : List MatchCase} {b : Es} (hk : mk k = ks) (hb : PSs Y body (tS K X b)) (hr : PMs Y cases (rdM K X d cs)) :
    PMs Y (⟨.MatchValue (.Constant (.str ks) j p1) p2, none, body⟩ :: cases) (rdM K X d ((k, b) :: cs)) := by
  subst hk
  exact pms_str hb hr
end
end Ev

set_option Elab.async false
set_option linter.all false
set_option maxRecDepth 100000
set_option maxHeartbeats 4000000
namespace Ev
open PySem PySem.Spec PyProof.Rows L2 Wf TL
/-! # a, o.f = x, y; class constants -/
inductive Tg where
  | nm (i : Nat)
  | fld (C f : Nm) (o : Ee)
  | sub (o i : Ee)
def wTg (t : Tg) (x : W) : Es := fun ss c => match t with
  | .nm i => .ok (.nx (ss.set i (some x))) c
  | .fld C f o => So.lift ss (o ss c) fun y c2 => match y with
    | .ref i => (match c2[i]? with
      | some (.ins C' fs) => if C' = C ∧ fs.length < 1000 then .ok (.nx ss) (c2.set i (.ins C' (putW f x fs))) else .bad
      | _ => .bad)
    | _ => .bad
  | .sub o i => So.lift ss (o ss c) fun y c1 => So.lift ss (i ss c1) fun z c2 => match putI c2 y z x with
    | some c3 => .ok (.nx ss) c3
    | none => .bad
def sAsgT (e : Ee) (t u : Tg) : Es := fun ss c => So.lift ss (e ss c) fun x c1 => match rdT x with
  | some [y, z] => (wTg t y ss c1).thn fun ss2 c2 => wTg u z ss2 c2
  | _ => .bad
def gFld (to : TE) (C : Addr) (f : Str) : TG := fun v σ H Q => to σ H fun x H1 => ∃ a dx fs, x = .ref a ∧ H1 a = some (.ins C dx fs) ∧ fs.length < 1000 ∧ Q σ (upd H1 a (.ins C dx (putF f v fs)))
section
variable {X : Cx} {o : Expr} {f : Str} {pos : Pos} {to : TE} {C : Addr}
theorem pg_fldX (c : Cls X.K C) (n : NoAttr X.K C f) (ho : PE X o to)
    (ha : ∀ v, assign (.Attribute o f pos) X.env v = (do
      let ov ← holding [v] (eval o X.env)
      standAt pos.atName
      holding [v, ov] (setAttr ov f v)
      release [v, ov] []) := by intro _; rfl) : PG X (.Attribute o f pos) (gFld to C f) := by
  refine ⟨fun pins s σ H v u Q I r h => ?_⟩
  rw [ha]
  refine wpAny_bind (wpAny_holding (thn (ho.run pins s σ H _ I h) fun ov s1 ⟨x, H1, I1, r1, a, dx, fs, ex, e1, hl, q1⟩ => ?_))
  subst ex
  obtain rfl : ov = Value.ref a := r1
  refine wpAny_bind (wpAny_standAt (wpAny_bind (wpAny_holding (setattr_ok I1 e1 c n hl r fun s3 I3 => ?_))))
  exact wpAny_release ⟨σ, _, I3, q1⟩
end
def gT (K : PySem.W.Frag) (X : Xx) : Tg → TG
  | .nm i => gName i
  | .fld C f o => gFld (tE K X o) (He.ga K (mk C)) (mk f)
  | .sub o i => gSub (tE K X o) (tE K X i) kSet2
section
variable {K : PySem.W.Frag} {X : Xx} {e : Ee} {t u : Tg}
theorem gT_ok {w : Wd} {c : Conf} {ss : Sl} {σ : L2.St} {H : Hp} {x : W} {v : V} {D : Ends} {Q : L2.St → Hp → Prop} (rel : Rel K w c H) (sr : SR K X.s w ss σ) (rx : Vr K w x v) (h : SO K w X D (wTg t x ss c)) (hq : ∀ σ' H', D.nx σ' H' → Q σ' H') : gT K X t v σ H Q := by
  cases t with
  | nm i => exact hq _ _ (h w H _ (Wd.Le.refl w) rel (sr.set rx i))
  | fld C f o =>
    refine ⟨w, c, ss, rel, sr, (SO.lift (R := Vr K) h sr).imp ?_⟩
    rintro v2 H2 ⟨w2, y, c2, l2, rel2, r2, h2⟩
    cases y <;> first | exact h2.elim | skip
    rename_i i
    simp only at h2
    cases hc : c2[i]? with
    | none => rw [hc] at h2; exact h2.elim
    | some ob =>
      rw [hc] at h2
      cases ob <;> first | exact h2.elim | skip
      rename_i C' fs'
      simp only at h2
      split at h2
      · rename_i hh
        obtain ⟨hC, hl⟩ := hh
        subst hC
        obtain ⟨ho, k1, k2, k3, dx, vs, k4, k5, k6, k7, k8⟩ := rel2.obj i _ hc rfl
        subst k4
        obtain ⟨_, r2⟩ := r2
        subst r2
        have ne : dx ≠ w2.φ i := fun z => by subst z; rw [k1] at k6; cases k6
        refine ⟨_, dx, vs, rfl, k1, by rw [k5.length]; exact hl, hq _ _ ?_⟩
        have rel3 := rel2.put (ho' := .ins (He.ga K (mk C')) dx (putF (mk f) v vs)) (o' := .ins C' (putW f x fs')) hc (ob := ⟨dx, _, rfl, k5.put (rx.mono l2.v), by rw [upd_ne ne]; exact k6, k7, k8⟩)
        exact h2 w2 _ σ (Wd.Le.refl w2) rel3 (sr.mono l2.v)
      · exact h2.elim
  | sub o i =>
    refine ⟨w, c, ss, rel, sr, (SO.lift (R := Vr K) h sr).imp ?_⟩
    rintro v1 H1 ⟨w1, y, c1, l1, rel1, r1, h1⟩
    refine ⟨w1, c1, ss, rel1, sr.mono l1.v, (SO.lift (R := Vr K) h1 (sr.mono l1.v)).imp ?_⟩
    rintro v2 H2 ⟨w2, z, c2, l2, rel2, r2, h2⟩
    cases e : putI c2 y z x with
    | none => rw [e] at h2; exact h2.elim
    | some c3 =>
      rw [e] at h2
      exact putI_ok rel2 (r1.mono l2.v) r2 (rx.mono (l1.trans l2).v) e fun H' rel' => hq _ _ (h2 w2 H' σ (Wd.Le.refl w2) rel' (sr.mono (l1.trans l2).v))
theorem le_asgT (D : Ends) (σ : L2.St) (H : Hp) (h : tS K X (sAsgT e t u) D σ H) : tAsg (tE K X e) (gTup K 2 (gCons (gT K X t) (gCons (gT K X u) gNil))) D σ H := by
  obtain ⟨w, c, ss, rel, sr, h⟩ := h
  refine ⟨w, c, ss, rel, sr, (SO.lift (R := Vr K) h sr).imp ?_⟩
  rintro v1 H1 ⟨w1, x, c1, l1, rel1, r1, h1⟩
  cases hT : rdT x with
  | none => rw [hT] at h1; exact h1.elim
  | some xs =>
    rw [hT] at h1
    match xs, h1, hT with
    | [y, z], h1, hT =>
      obtain ⟨b, us, e5, s, rr⟩ := rdT_ok rel1 r1 hT
      subst e5
      obtain ⟨vy, r', e1, g1, g2⟩ := rr
      obtain ⟨vz, r'', e2, g3, g4⟩ := g2
      cases (show r'' = [] from g4)
      subst e2
      subst e1
      refine ⟨b, _, rfl, s, rfl, vy, _, rfl, ?_⟩
      refine gT_ok rel1 (sr.mono l1.v) g1 (SO.thn h1) ?_
      rintro σ2 H2 ⟨w2, c2, ss2, l2, rel2, sr2, h2⟩
      refine ⟨vz, _, rfl, ?_⟩
      exact gT_ok rel2 sr2 (g3.mono l2.v) h2 fun σ3 H3 q => ⟨rfl, q⟩
    | [], h1, _ => exact h1.elim
    | [_], h1, _ => exact h1.elim
    | _ :: _ :: _ :: _, h1, _ => exact h1.elim
theorem gT_nm {Y : Cx} {x : Expr} {i : Nat} (h : PG Y x (gName i)) : PG Y x (gT K X (.nm i)) := h
theorem gT_sub {Y : Cx} {x : Expr} {o i : Ee} (h : PG Y x (gSub (tE K X o) (tE K X i) kSet2)) : PG Y x (gT K X (.sub o i)) := h
theorem gT_fld {Y : Cx} {x : Expr} {C f : Nm} {Cs fs : Str} {o : Ee} (hC : mk C = Cs) (hf : mk f = fs) (h : PG Y x (gFld (tE K X o) (He.ga K Cs) fs)) : PG Y x (gT K X (.fld C f o)) := by
  subst hC hf; exact h
/-! ## class constants -/
theorem le_cval {C : Addr} {mc : Value} {f : Str} {v : V} {u0 : Value} {x0 : W} (r : ClX.CRead K C mc) (k : ClX.CVal K C mc f v u0) (hv : ∀ w, Vr K w x0 v) (σ : L2.St) (H : Hp) (Q : VK) (h : tE K X (eC x0) σ H Q) : ClX.tCVal K (tC (.ref C)) f σ H Q := by
  obtain ⟨w, c, ss, rel, sr, h⟩ := h
  exact ⟨C, mc, v, u0, rfl, r, k, h.ok (Wd.Le.refl w) rel (hv w)⟩
end
/-- where a class's constant (a tuple) stands -/
def cvAd (K : PySem.W.Frag) (C : Addr) (f : Str) : Addr := match PySem.W.findCls K (.ref C) (.type "type") f with
  | some (.val (.ref a)) => a
  | _ => 0
def cvB (K : PySem.W.Frag) (C : Addr) (f : Str) (vs : List He.Dv) : Bool := PySem.W.readsIn K C (.type "type") && (He.eqO (PySem.W.specialIn K (.ref C) "__getattribute__") (some (some (.builtin "type.__getattribute__"))) &&
  match PySem.W.findCls K (.ref C) (.type "type") f with
  | some (.val (.ref a)) => tupAt K a vs
  | _ => false)
structure CvOk (K : PySem.W.Frag) (C : Addr) (f : Str) (vs : List He.Dv) : Prop where
  rd : ClX.CRead K C (.type "type")
  v : ClX.CVal K C (.type "type") f (.ref (cvAd K C f)) (.ref (cvAd K C f))
  s : ∀ H, SqT K H (cvAd K C f) (vs.map (He.Dv.v K))
theorem cvB_ok {K : PySem.W.Frag} {C : Addr} {f : Str} {vs : List He.Dv} (h : cvB K C f vs = true) : CvOk K C f vs := by
  obtain ⟨h1, h2⟩ := He.ba h
  obtain ⟨h2, h3⟩ := He.ba h2
  split at h3
  · rename_i a e
    have ea : cvAd K C f = a := by unfold cvAd; rw [e]
    exact ⟨⟨h1, He.eqO_ok h2⟩, ⟨by rw [ea]; exact e, rfl⟩, fun H => by rw [ea]; exact tupAt_ok h3 H⟩
  · cases h3
end Ev

set_option Elab.async false
set_option linter.all false
set_option maxRecDepth 100000
set_option maxHeartbeats 4000000
namespace Ev
open PySem PySem.Spec PyProof.Rows L2 Wf TL
/-! # the head, with properties and written dicts -/
/-- the record of a property, its getter -/
def prAd (K : PySem.W.Frag) (p : Str × Option Str) : Addr := He.ma K (He.ga K p.1) (p.2.getD Str.empty)
def pgAd (K : PySem.W.Frag) (p : Str × Option Str) : Addr := match PySem.W.recIn K (prAd K p) "property" with
  | some (.ref g :: _) => g
  | _ => 0
def fnAt (K : PySem.W.Frag) (a : Addr) : He.FnW := match K.lookup a with
  | some ⟨_, _, .func fd, _⟩ => some (fd.name, fd.qualname, fd.params, fd.body, fd.scope, fd.globals, fd.closure, fd.builtins)
  | _ => none
def okAt (K : PySem.W.Frag) (a : Addr) (d : He.DefD) : Bool := PySem.W.keepIn K (.ref a) && (match K.lookup a with
  | some ⟨_, _, .func fd, _⟩ => PySem.W.codeIn K fd.code d.qual && (He.dflB K fd.defaults (d.dvs K) && He.kwdB K fd.kwdefaults (d.kws K))
  | _ => false)
theorem funAt {K : PySem.W.Frag} {a : Addr} {d : He.DefD} (e : fnAt K a = d.val) (c : okAt K a d = true) : ∃ fd, FunD K d.name d.qual d.params d.body d.scope (d.dvs K) (d.kws K) a fd := by
  obtain ⟨kp, c2⟩ := He.ba c
  unfold fnAt at e
  cases q : K.lookup a with
  | none =>
    rw [q] at c2
    cases c2
  | some o =>
    obtain ⟨oc, od, dt, osl⟩ := o
    rw [q] at c2 e
    cases dt with
    | func fd =>
      obtain ⟨n1, n2, n3, n4, n5, n6, n7, n8, n9, n10, n11, n12, n13, n14, n15⟩ := fd
      have e2 : (some (n1, n2, n3, n4, n5, n6, n7, n15) : He.FnW) = some (d.name, d.qual, d.params, .stmts d.body, d.scope, mainGlobals, [], builtinsNs) := e
      simp only [Option.some.injEq, Prod.mk.injEq] at e2
      obtain ⟨h1, h2, h3, h4, h5, h6, h7, h8⟩ := e2
      subst h1 h2 h3 h4 h5 h6 h7 h8
      have c3 : (PySem.W.codeIn K n13 d.qual && (He.dflB K n8 (d.dvs K) && He.kwdB K n9 (d.kws K))) = true := c2
      obtain ⟨k1, k2⟩ := He.ba c3
      obtain ⟨k3, k4⟩ := He.ba k2
      exact ⟨_, ⟨oc, od, n8, n9, n10, n11, n12, n13, n14, osl, rfl, q, k1, He.dflB_ok k3, He.kwdB_ok k4⟩, kp⟩
    | _ => cases c2
/-- C.f is a property -/
def propB (K : PySem.W.Frag) (p : Str × Option Str) : Bool :=
  He.eqO (PySem.W.findIn K (.ref (He.ga K p.1)) (p.2.getD Str.empty)) (some (some (.ref (prAd K p)))) && (He.eqO (PySem.W.specialIn K (.ref (prAd K p)) "__get__") (some (some (.builtin "property.__get__"))) &&
  (decide (PySem.W.takesIn K (.ref (prAd K p)) = some true) && match PySem.W.recIn K (prAd K p) "property" with
    | some (.ref g :: _) => true
    | _ => false))
theorem propB_ok {K : PySem.W.Frag} {C f : Str} (h : propB K (C, some f) = true) : PropOf K (He.ga K C) f (prAd K (C, some f)) (pgAd K (C, some f)) := by
  obtain ⟨h1, h2⟩ := He.ba h
  obtain ⟨h2, h3⟩ := He.ba h2
  obtain ⟨h3, h4⟩ := He.ba h3
  refine ⟨He.eqO_ok h1, He.eqO_ok h2, of_decide_eq_true h3, ?_⟩
  split at h4
  · rename_i g rest e
    exact ⟨rest, by unfold pgAd; rw [e]⟩
  · cases h4
abbrev AlX : Type := He.AlD × (List He.FnW × Bool × List (Option (List (Option (Str × Int)))))
def obsX (fa : List Fa) (fn fp : List He.DefD) (ts : List He.Tab) (K : PySem.W.Frag) : AlX := (obsW fa fn K, (fp.map fun d => fnAt K (pgAd K d.at_), (fp.all fun d => okAt K (pgAd K d.at_) d && propB K d.at_), ts.map fun t => He.dicW K (t.1 K)))
def valX (fn fp : List He.DefD) (ts : List He.Tab) (w : World) : AlX := (He.valD fn, (fp.map He.DefD.val, true, ts.map fun t => some (He.keysIn w.params t.2)))
def SaysX (fa : List Fa) (fn fp : List He.DefD) (ts : List He.Tab) (w : World) (K : PySem.W.Frag) : Prop := obsX fa fn fp ts K = valX fn fp ts w
/-- the code of a getter -/
def codeA (K : PySem.W.Frag) (p : Str × Option Str) : List Addr := match K.lookup (pgAd K p) with
  | some ⟨_, _, .func fd, _⟩ => (match fd.code with
    | .ref c => [c]
    | _ => [])
  | _ => []
/-- what is looked at: so many steps from the module, and the getters' codes behind -/
def asX (n : Nat) (fp : List He.DefD) (g : Addr → Option Obj) : List Addr := (PySem.cStatics :: He.asD g n) ++ (fp.flatMap fun d => codeA (He.frG g (PySem.cStatics :: He.asD g n)) d.at_)
def obsXG (n : Nat) (fa : List Fa) (fn fp : List He.DefD) (ts : List He.Tab) (g : Addr → Option Obj) : AlX := obsX fa fn fp ts (He.frG g (asX n fp g))
def hookX (n : Nat) (fa : List Fa) (fn fp : List He.DefD) (ts : List He.Tab) : PySem.W.Hook where
  α := AlX
  obs := fun s => obsXG n fa fn fp ts s.heap.get?
  val := fun w => valX fn fp ts w
  says := fun w h => ∃ K : PySem.W.Frag, K.In h ∧ SaysX fa fn fp ts w K
  of := fun _ _ e => ⟨_, He.frG_in, e⟩
  keeps := fun _ _ _ ⟨K, hK, c⟩ k => ⟨K, PySem.W.Frag.In.keeps hK k, c⟩
theorem obsXG_eq {n : Nat} {fa : List Fa} {fn fp : List He.DefD} {ts : List He.Tab} {g : Addr → Option Obj} {s : Shared} (h : ∀ a, g a = s.heap.get? a) : obsXG n fa fn fp ts g = (hookX n fa fn fp ts).obs s := by
  have e : g = s.heap.get? := funext h
  rw [e]; rfl
section
variable {fa : List Fa} {fn fp : List He.DefD} {ts : List He.Tab} {w : World} {K : PySem.W.Frag}
theorem SaysX.toW (c : SaysX fa fn fp ts w K) : SaysW fa fn K := congrArg (fun z : AlX => z.1) c
theorem SaysX.tab (c : SaysX fa fn fp ts w K) (i : Nat) {t : He.Tab} (h : ts[i]? = some t := by rfl) : ∃ es n, KDict K w (t.1 K) es n := by
  have e : ts.map (fun t => He.dicW K (t.1 K)) = ts.map fun t => some (He.keysIn w.params t.2) := congrArg (fun z : AlX => z.2.2.2) c
  have e2 : (ts.map fun t => He.dicW K (t.1 K))[i]? = (ts.map fun t => some (He.keysIn w.params t.2))[i]? := by rw [e]
  rw [List.getElem?_map, List.getElem?_map, h] at e2
  exact He.dicW_ok (Option.some.inj e2)
theorem SaysX.pok (c : SaysX fa fn fp ts w K) {d : He.DefD} (h : d ∈ fp) : okAt K (pgAd K d.at_) d = true ∧ propB K d.at_ = true := by
  have e : (fp.all fun d => okAt K (pgAd K d.at_) d && propB K d.at_) = true := congrArg (fun z : AlX => z.2.2.1) c
  exact He.ba (List.all_eq_true.mp e d h)
theorem SaysX.prop (c : SaysX fa fn fp ts w K) (i : Nat) {C f : Str} {d : He.DefD} (h : fp[i]? = some d) (e : d.at_ = (C, some f)) : PropOf K (He.ga K C) f (prAd K (C, some f)) (pgAd K (C, some f)) := by
  have := (c.pok (List.mem_of_getElem? h)).2
  rw [e] at this
  exact propB_ok this
theorem SaysX.pdef (c : SaysX fa fn fp ts w K) (i : Nat) {d : He.DefD} (h : fp[i]? = some d) : ∃ fd, FunD K d.name d.qual d.params d.body d.scope (d.dvs K) (d.kws K) (pgAd K d.at_) fd := by
  have e : fp.map (fun d => fnAt K (pgAd K d.at_)) = fp.map He.DefD.val := congrArg (fun z : AlX => z.2.1) c
  have e2 : (fp.map fun d => fnAt K (pgAd K d.at_))[i]? = (fp.map He.DefD.val)[i]? := by rw [e]
  rw [List.getElem?_map, List.getElem?_map, h] at e2
  exact funAt (Option.some.inj e2) (c.pok (List.mem_of_getElem? h)).1
end
/-! ## a property read -/
def noXc : Out W → Out W
  | .exc _ _ => .bad
  | o => o
def eProp (C : Nm) (f : Fn) (eo : Ee) : Ee := fun ss c => (eo ss c).bind fun x c1 => match insW c1 x with
  | some (C', _) => if C' = C then noXc (f [x] c1) else .bad
  | none => .bad
section
variable {K : PySem.W.Frag} {X : Xx} {C : Nm} {Cs : Str} {f : Fn} {eo : Ee}
theorem le_prop (hC : mk C = Cs) (σ : L2.St) (H : Hp) (Q : VK) (h : tE K X (eProp C f eo) σ H Q) : tProp (He.ga K Cs) (spE K f) [] E0 (tE K X eo) σ H Q := by
  subst hC
  obtain ⟨w, c, ss, rel, sr, h⟩ := h
  refine ⟨w, c, ss, rel, sr, (OR.bind (R := Vr K) h).imp ?_⟩
  rintro v1 H1 ⟨w1, x, c1, l1, rel1, r1, h1⟩
  cases e : insW c1 x with
  | none => rw [e] at h1; exact h1.elim
  | some q =>
    obtain ⟨C', fs⟩ := q
    rw [e] at h1
    obtain ⟨hC, h2⟩ := ite_ok h1
    subst hC
    obtain ⟨a, dx, vs, e1, e2, e3⟩ := insW_ok rel1 r1 e
    subst e1
    refine ⟨a, dx, vs, rfl, e2, w1, c1, [x], rel1, VrL.one r1, ?_⟩
    revert h2
    cases f [x] c1 with
    | ok y c2 => exact fun h => h
    | exc y c2 => exact fun h => h.elim
    | bad => exact fun h => h
end
section
variable {X : Cx} {CX : CXT} {k : Nat} {C g p : Addr} {fs : Str} {ps : List Str} {sp : Sp} {e : Expr} {ta : TE} {pos : Pos}
theorem pe_propX (he : PE X e ta) (c : Cls X.K C) (hp : PropOf X.K C fs p g) (D : OkD X.prog X.w X.K X.mg X.base CX k g ps sp) (hr : Room (k + 1) X.A) (hx : Passes CX X.nox E0) (hab : attributeBase e fs X.env (eval e X.env) = eval e X.env := by rfl) : PE X (.Attribute e fs pos) (tProp C sp [] E0 ta) := by
  obtain ⟨⟨fd, F, b, _⟩, kp⟩ := D
  exact pe_prop he c hp F hr b .nil hx hab
end
theorem passE0 {P : Program} {w : World} {X : Cx} : Passes (L2.CX P w) X E0 := by
  rintro _ _ _ _ _ _ _ ⟨_, _, _, _, _, _, _, _, _, _, _, _, z⟩
  exact z.elim
/-! ## an item of a written dict -/
def eKd (kvs : List (Nm × W)) (e : Ee) : Ee := fun ss c => (e ss c).bind fun x c1 => match x with
  | .str s => (match lkp kvs s with | some v => .ok v c1 | none => .bad)
  | _ => .bad
section
variable {K : PySem.W.Frag} {X : Xx} {e : Ee}
theorem fr_nil : ∀ w, FR K w [] [] := fun _ => ⟨rfl, rfl⟩
theorem fr_cons {k : Nm} {ks : Str} {x : W} {v : V} {kvs : List (Nm × W)} {vs : List (Str × V)} (hk : mk k = ks) (hv : ∀ w, Vr K w x v) (h : ∀ w, FR K w kvs vs) : ∀ w, FR K w ((k, x) :: kvs) ((ks, v) :: vs) := fun w =>
  ⟨by subst hk; show _ :: _ = _ :: _; rw [(h w).1], v, _, rfl, hv w, (h w).2⟩
theorem lookup_mem {k : Str} {v : V} : ∀ {vs : List (Str × V)}, vs.lookup k = some v → (k, v) ∈ vs
  | [], h => by cases h
  | (a, u) :: vs, h => by
    simp only [List.lookup] at h
    split at h
    · rename_i e
      cases h
      have := beq_iff_eq.mp e
      subst this
      exact List.mem_cons_self
    · exact List.mem_cons_of_mem _ (lookup_mem h)
theorem le_kd {w0 : World} {a : Addr} {kvs : List (Nm × W)} {vs : List (Str × V)} (hd : ∀ q ∈ vs, KDct K w0 a q.1 q.2) (hr : ∀ w, FR K w kvs vs) (σ : L2.St) (H : Hp) (Q : VK) (h : tE K X (eKd kvs e) σ H Q) : tOp (rIxD K w0) (tC (.ref a)) (tE K X e) σ H Q := by
  obtain ⟨w, c, ss, rel, sr, h⟩ := h
  refine ⟨w, c, ss, rel, sr, (OR.bind (R := Vr K) h).imp ?_⟩
  rintro v1 H1 ⟨w1, x, c1, l1, rel1, r1, h1⟩
  cases x <;> first | exact h1.elim | skip
  rename_i s
  cases (show _ = _ from r1)
  simp only at h1
  cases e1 : lkp kvs s with
  | none => rw [e1] at h1; exact h1.elim
  | some x =>
    rw [e1] at h1
    have e4 := (hr w1).lk (f := s)
    rw [e1] at e4
    cases e2 : vs.lookup (mk s) with
    | none => rw [e2] at e4; exact e4.elim
    | some v =>
      rw [e2] at e4
      exact ⟨a, mk s, v, rfl, rfl, hd _ (lookup_mem e2), h1.ok (Wd.Le.refl w1) rel1 e4⟩
end
theorem kd_of {K : PySem.W.Frag} {w : World} {a : Addr} {es : Array DictEntry} {n : Nat} {kvs : List (Str × He.Dv)} (D : KDict K w a es n) (h : He.valsB K a kvs = true) : ∀ q ∈ kvs.map (fun q => (q.1, q.2.v K)), KDct K w a q.1 q.2 := by
  intro q hq
  obtain ⟨p, hp, rfl⟩ := List.mem_map.mp hq
  obtain ⟨u, e, r⟩ := He.valsB_ok h hp
  exact ⟨es, n, u, D.1, D.2, e, r⟩
end Ev

set_option Elab.async false
set_option linter.all false
set_option maxRecDepth 100000
set_option maxHeartbeats 4000000
namespace Ev
open PySem PySem.Spec PyProof.Rows L2 Wf TL
/-! # calls with keywords and defaults -/
def fCallN (n m : Nat) (sp : Sp) (gV : List V → List V → List V) (E : L2.St → XK) (t tk : TA) : TE := fun σ H Q => t σ H fun vs H1 => tk σ H1 fun zs H2 => vs.length = n ∧ zs.length = m ∧ sp (gV vs zs) H2 Q (E σ)
def fMethN (C : Addr) (mm : Str) (n m : Nat) (sp : Sp) (gV : List V → List V → List V) (E : L2.St → XK) (ta : TE) (t tk : TA) : TE := fun σ H Q => ta σ H fun x H1 => ∃ a dx fs, x = .ref a ∧ H1 a = some (.ins C dx fs) ∧ fs.lookup mm = none ∧
  t σ H1 fun vs H2 => tk σ H2 fun zs H3 => vs.length = n ∧ zs.length = m ∧ sp (gV (.ref a :: vs) zs) H3 Q (E σ)
def fMakeN (C : Addr) (n m : Nat) (sp : Sp) (gV : List V → List V → List V) (E : L2.St → XK) (t tk : TA) : TE := fun σ H Q => t σ H fun vs H1 => tk σ H1 fun zs H2 => vs.length = n ∧ zs.length = m ∧
  ∀ x dx, H2 x = none → H2 dx = none → dx ≠ x → sp (gV (.ref x :: vs) zs) (upd (upd H2 dx (.own x)) x (.ins C dx [])) (fun v H3 => v = .non ∧ Q (.ref x) H3) (E σ)
section
variable {X : Cx} {CX : CXT} {k n : Nat} {C f : Addr} {fd : FuncData} {ps ks : List Str} {sp : Sp} {E : L2.St → XK} {x m : Str} {p pos apos : Pos} {e o : Expr} {es : List Expr} {kws : List Keyword} {ta : TE} {t tk : TA} {g : List Value → List Value → List Value} {gV : List V → List V → List V}
theorem run_fnNS {E : XK} {pins : List (Addr × Obj)} {σ : L2.St} {H : Hp} {s : Shared} {Q : VK} {us ws : List Value} {vs zs : List V} (F : FnOk X.prog X.w X.K X.mg X.base CX k f fd ps sp) (hr : Room k X.A) (hb : KBn X.K fd ps n ks g gV) (hx : PassesAt CX X σ E)
    (I : Inv X pins σ H s) (r : Vals vs us) (rz : Vals zs ws) (l1 : vs.length = n) (l2 : zs.length = ks.length) (h : sp (gV vs zs) H Q E) : wpAny (model X.prog X.w) X.A (call (.ref f) us (ks.zip ws)) (EP X pins σ Q) X.xe s := by
  have r2 := hb.rel r rz
  refine wpAny_call (codeAny_mono (F.run X.A X.stack s H ⟨us, ks.zip ws⟩ (g us ws) (gV vs zs) Q E hr I.env0 (hb.to s us ws I.kIn (r.length.symm.trans l1) (rz.length.symm.trans l2)) r2 h) fun r s' hq => ?_)
  cases r with
  | error e => exact hx pins H s e s' I hq
  | ok fl =>
    cases fl with
    | ret u => exact I.after hq
    | next => exact False.elim hq
    | brk => exact False.elim hq
    | cont => exact False.elim hq
theorem run_makeNS {E : XK} {pins : List (Addr × Obj)} {σ : L2.St} {H : Hp} {s : Shared} {Q : VK} {us ws : List Value} {vs zs : List V} (M : Mk X.K C f) (F : FnOk X.prog X.w X.K X.mg X.base CX k f fd ps sp) (hr : Room (k + 1) X.A) (hb : KBn X.K fd ps (n + 1) ks g gV) (hx : PassesAt CX X σ E)
    (I : Inv X pins σ H s) (r : Vals vs us) (rz : Vals zs ws) (l1 : vs.length = n) (l2 : zs.length = ks.length)
    (h : ∀ x dx, H x = none → H dx = none → dx ≠ x → sp (gV (.ref x :: vs) zs) (upd (upd H dx (.own x)) x (.ins C dx [])) (fun v H2 => v = .non ∧ Q (.ref x) H2) E) :
    wpAny (model X.prog X.w) X.A (call (.ref C) us (ks.zip ws)) (EP X pins σ Q) X.xe s := by
  have hq := h (s.heap.objs.size + 1) s.heap.objs.size (I.hok.fresh (Nat.le_succ _)) (I.hok.fresh (Nat.le_refl _)) (Nat.ne_of_lt (Nat.lt_succ_self _))
  have I2 := Inv.made (C := C) I
  have r1 : Vals (V.ref (s.heap.objs.size + 1) :: vs) (Value.ref (s.heap.objs.size + 1) :: us) := .cons rfl r
  have r2 := hb.rel r1 rz
  have n1 : (Value.ref (s.heap.objs.size + 1) :: us).length = n + 1 := by
    rw [List.length_cons, ← r.length, l1]
  refine wpAny_call (make_map (f := f) I.kIn M.makes M.init (beq_iff_eq.mp M.fn) (codeAny_mono (F.run _ X.stack _ _ ⟨Value.ref (s.heap.objs.size + 1) :: us, ks.zip ws⟩ (g (Value.ref (s.heap.objs.size + 1) :: us) ws) _ _ E (hr.make C us (ks.zip ws))
    (I2.env0.make C us (ks.zip ws)) (hb.to _ (Value.ref (s.heap.objs.size + 1) :: us) ws I2.kIn n1 (rz.length.symm.trans l2)) r2 hq) fun r s' hq' => ?_))
  cases r with
  | error e => exact hx pins _ _ e s' I2 hq'
  | ok fl =>
    cases fl with
    | ret u =>
      obtain ⟨v, H', I3, rv, ev, q3⟩ := I2.after hq'
      subst ev
      exact ⟨rv, ⟨V.ref (s.heap.objs.size + 1), H', I3, rfl, q3⟩⟩
    | next => exact False.elim hq'
    | brk => exact False.elim hq'
    | cont => exact False.elim hq'
theorem pe_callK (b : KB X.K f ps n ks gV) (D : OkM X.prog X.w X.K X.mg X.base CX k f ps sp) (hr : Room k X.A) (hg : Gl X x) (hm : X.mg x = some (.ref f)) (hx : ∀ σ, PassesAt CX X σ (E σ))
    (ha : PA X (e :: es) t) (hkw : PK X kws tk) (hall : (backToKw pos (keywordEach kws X.env)).all (·.1.isSome) = true := by rfl) (hks : (backToKw pos (keywordEach kws X.env)).filterMap (·.1) = ks := by rfl)
    (hdb : (x == ("__debug__" : Str)) = false := by decide) (he : starEach (e :: es) X.env = (false, eval e X.env) :: starEach es X.env := by rfl)
    (hpl : ((backTo pos (starEach (e :: es) X.env)).any (·.1) || (backToKw pos (keywordEach kws X.env)).any (·.1.isNone)) = false := by rfl) :
    PE X (.Call (.Name x p) (e :: es) kws pos) (fCallN n ks.length sp gV E t tk) := by
  obtain ⟨⟨fd, F, i⟩, kp⟩ := D
  obtain ⟨fd', g, i', b⟩ := b
  cases i.inj i'
  refine ⟨fun pins s σ H Q I h => ?_⟩
  refine wpAny_Call_Name_kw (ld_glob I hg hm ?_ hdb)
  refine PySem.W.callWith_KW (h₀ := X.base) I.ok.mod.kin kp hall (thn (ha.run pos pins s σ H _ I h) fun us s1 ⟨vs, H1, I1, r, q⟩ => ?_) hpl he
  refine thn (hkw.run pos pins s1 σ H1 _ I1 q) fun ws s2 ⟨zs, H2, I2, rz, l1, l2, q2⟩ => ⟨I2.kIn, ?_⟩
  rw [hks]
  exact run_fnNS F hr b (hx σ) I2 r rz l1 l2 q2
theorem pe_callK0 (b : KB X.K f ps 0 ks gV) (D : OkM X.prog X.w X.K X.mg X.base CX k f ps sp) (hr : Room k X.A) (hg : Gl X x) (hm : X.mg x = some (.ref f)) (hx : ∀ σ, PassesAt CX X σ (E σ))
    (hkw : PK X kws tk) (hall : (backToKw pos (keywordEach kws X.env)).all (·.1.isSome) = true := by rfl) (hks : (backToKw pos (keywordEach kws X.env)).filterMap (·.1) = ks := by rfl)
    (hdb : (x == ("__debug__" : Str)) = false := by decide)
    (hpl : ((backTo pos (starEach [] X.env)).any (·.1) || (backToKw pos (keywordEach kws X.env)).any (·.1.isNone)) = false := by rfl) :
    PE X (.Call (.Name x p) [] kws pos) (fCallN 0 ks.length sp gV E tNil tk) := by
  obtain ⟨⟨fd, F, i⟩, kp⟩ := D
  obtain ⟨fd', g, i', b⟩ := b
  cases i.inj i'
  refine ⟨fun pins s σ H Q I h => ?_⟩
  refine wpAny_Call_Name_kw (ld_glob I hg hm ?_ hdb)
  refine PySem.W.callWith_KW0 (h₀ := X.base) I.ok.mod.kin kp hall (thn (hkw.run pos pins s σ H _ I h) fun ws s2 ⟨zs, H2, I2, rz, l1, l2, q2⟩ => ⟨I2.kIn, ?_⟩) hpl
  rw [hks]
  exact run_fnNS (us := []) (vs := []) F hr b (hx σ) I2 .nil rz l1 l2 q2
theorem pe_makeNK (M : Mk X.K C f) (b : KB X.K f ps (n + 1) ks gV) (D : OkM X.prog X.w X.K X.mg X.base CX k f ps sp) (hr : Room (k + 1) X.A) (hg : Gl X x) (hm : X.mg x = some (.ref C)) (hx : ∀ σ, PassesAt CX X σ (E σ)) (ha : PA X (e :: es) t) (hkw : PK X kws tk)
    (hall : (backToKw pos (keywordEach kws X.env)).all (·.1.isSome) = true := by rfl) (hks : (backToKw pos (keywordEach kws X.env)).filterMap (·.1) = ks := by rfl) (hdb : (x == ("__debug__" : Str)) = false := by decide)
    (he : starEach (e :: es) X.env = (false, eval e X.env) :: starEach es X.env := by rfl) (hpl : ((backTo pos (starEach (e :: es) X.env)).any (·.1) || (backToKw pos (keywordEach kws X.env)).any (·.1.isNone)) = false := by rfl) :
    PE X (.Call (.Name x p) (e :: es) kws pos) (fMakeN C n ks.length sp gV E t tk) := by
  obtain ⟨⟨fd, F, i⟩, kp⟩ := D
  obtain ⟨fd', g, i', b⟩ := b
  cases i.inj i'
  refine ⟨fun pins s σ H Q I h => ?_⟩
  refine wpAny_Call_Name_kw (ld_glob I hg hm ?_ hdb)
  refine PySem.W.callWith_KW (h₀ := X.base) I.ok.mod.kin M.kp hall (thn (ha.run pos pins s σ H _ I h) fun us s1 ⟨vs, H1, I1, r, q⟩ => ?_) hpl he
  refine thn (hkw.run pos pins s1 σ H1 _ I1 q) fun ws s2 ⟨zs, H2, I2, rz, l1, l2, q2⟩ => ⟨I2.kIn, ?_⟩
  rw [hks]
  exact run_makeNS M F hr b (hx σ) I2 r rz l1 l2 q2
theorem pe_makeNK0 (M : Mk X.K C f) (b : KB X.K f ps 1 ks gV) (D : OkM X.prog X.w X.K X.mg X.base CX k f ps sp) (hr : Room (k + 1) X.A) (hg : Gl X x) (hm : X.mg x = some (.ref C)) (hx : ∀ σ, PassesAt CX X σ (E σ)) (hkw : PK X kws tk)
    (hall : (backToKw pos (keywordEach kws X.env)).all (·.1.isSome) = true := by rfl) (hks : (backToKw pos (keywordEach kws X.env)).filterMap (·.1) = ks := by rfl) (hdb : (x == ("__debug__" : Str)) = false := by decide)
    (hpl : ((backTo pos (starEach [] X.env)).any (·.1) || (backToKw pos (keywordEach kws X.env)).any (·.1.isNone)) = false := by rfl) :
    PE X (.Call (.Name x p) [] kws pos) (fMakeN C 0 ks.length sp gV E tNil tk) := by
  obtain ⟨⟨fd, F, i⟩, kp⟩ := D
  obtain ⟨fd', g, i', b⟩ := b
  cases i.inj i'
  refine ⟨fun pins s σ H Q I h => ?_⟩
  refine wpAny_Call_Name_kw (ld_glob I hg hm ?_ hdb)
  refine PySem.W.callWith_KW0 (h₀ := X.base) I.ok.mod.kin M.kp hall (thn (hkw.run pos pins s σ H _ I h) fun ws s2 ⟨zs, H2, I2, rz, l1, l2, q2⟩ => ⟨I2.kIn, ?_⟩) hpl
  rw [hks]
  exact run_makeNS (us := []) (vs := []) (n := 0) M F hr b (hx σ) I2 .nil rz l1 l2 q2
theorem pe_methNK {pl : Sem Bool} (he : PE X o ta) (c : Cls X.K C) (hm : Meth X.K C m f) (b : KB X.K f ps (n + 1) ks gV) (D : OkM X.prog X.w X.K X.mg X.base CX k f ps sp) (hr : Room k X.A) (hx : ∀ σ, PassesAt CX X σ (E σ)) (ha : PA X (e :: es) t) (hkw : PK X kws tk)
    (hall : (backToKw pos (keywordEach kws X.env)).all (·.1.isSome) = true := by rfl) (hks : (backToKw pos (keywordEach kws X.env)).filterMap (·.1) = ks := by rfl)
    (hst : starEach (e :: es) X.env = (false, eval e X.env) :: starEach es X.env := by rfl) (hpl : ((backTo pos (starEach (e :: es) X.env)).any (·.1) || (backToKw pos (keywordEach kws X.env)).any (·.1.isNone)) = false := by rfl)
    (ht : eval (.Call (.Attribute o m apos) (e :: es) kws pos) X.env = (do
      let ov ← eval o X.env
      standAt apos.atName
      let (f, first) ← holding [ov] (getMethod ov m pl)
      callWith pos f first (backTo pos (starEach (e :: es) X.env)) (backToKw pos (keywordEach kws X.env))) := by rfl) :
    PE X (.Call (.Attribute o m apos) (e :: es) kws pos) (fMethN C m n ks.length sp gV E ta t tk) := by
  obtain ⟨⟨fd, F, i⟩, kp⟩ := D
  obtain ⟨fd', g, i', b⟩ := b
  cases i.inj i'
  refine ⟨fun pins s σ H Q I h => ?_⟩
  refine PySem.W.methodCall_KW (pl := pl) (thn (he.run pins s σ H _ I h) fun u s1 ⟨x, H1, I1, rx, a, dx, fs, ex, ea, l, q⟩ => ?_) ht
  subst ex
  obtain rfl : u = Value.ref a := rx
  refine getmeth_ok I1 ea c hm l ?_
  refine PySem.W.callWith_KW (first := [.ref a]) (h₀ := X.base) I.ok.mod.kin hm.kp hall (thn (ha.run pos pins s1 σ H1 _ I1 q) fun us s2 ⟨vs, H2, I2, r, q2⟩ => ?_) hpl hst
  refine thn (hkw.run pos pins s2 σ H2 _ I2 q2) fun ws s3 ⟨zs, H3, I3, rz, l1, l2, q3⟩ => ⟨I3.kIn, ?_⟩
  rw [hks]
  exact run_fnNS (us := .ref a :: us) (vs := .ref a :: vs) F hr b (hx σ) I3 (.cons rfl r) rz (by rw [List.length_cons, l1]) l2 q3
theorem pe_methNK0 {pl : Sem Bool} (he : PE X o ta) (c : Cls X.K C) (hm : Meth X.K C m f) (b : KB X.K f ps 1 ks gV) (D : OkM X.prog X.w X.K X.mg X.base CX k f ps sp) (hr : Room k X.A) (hx : ∀ σ, PassesAt CX X σ (E σ)) (hkw : PK X kws tk)
    (hall : (backToKw pos (keywordEach kws X.env)).all (·.1.isSome) = true := by rfl) (hks : (backToKw pos (keywordEach kws X.env)).filterMap (·.1) = ks := by rfl)
    (hpl : ((backTo pos (starEach [] X.env)).any (·.1) || (backToKw pos (keywordEach kws X.env)).any (·.1.isNone)) = false := by rfl)
    (ht : eval (.Call (.Attribute o m apos) [] kws pos) X.env = (do
      let ov ← eval o X.env
      standAt apos.atName
      let (f, first) ← holding [ov] (getMethod ov m pl)
      callWith pos f first (backTo pos (starEach [] X.env)) (backToKw pos (keywordEach kws X.env))) := by rfl) :
    PE X (.Call (.Attribute o m apos) [] kws pos) (fMethN C m 0 ks.length sp gV E ta tNil tk) := by
  obtain ⟨⟨fd, F, i⟩, kp⟩ := D
  obtain ⟨fd', g, i', b⟩ := b
  cases i.inj i'
  refine ⟨fun pins s σ H Q I h => ?_⟩
  refine PySem.W.methodCall_KW (pl := pl) (thn (he.run pins s σ H _ I h) fun u s1 ⟨x, H1, I1, rx, a, dx, fs, ex, ea, l, q⟩ => ?_) ht
  subst ex
  obtain rfl : u = Value.ref a := rx
  refine getmeth_ok I1 ea c hm l ?_
  refine PySem.W.callWith_KW0 (first := [.ref a]) (h₀ := X.base) I.ok.mod.kin hm.kp hall (thn (hkw.run pos pins s1 σ H1 _ I1 q) fun ws s3 ⟨zs, H3, I3, rz, l1, l2, q3⟩ => ⟨I3.kIn, ?_⟩) hpl
  rw [hks]
  exact run_fnNS (us := [.ref a]) (vs := [.ref a]) F hr b (hx σ) I3 (.cons rfl .nil) rz (by rw [List.length_cons, l1]) l2 q3
end
/-! ## the evaluators -/
/-- n values, m keywords' values; g puts them in the parameters' order -/
def eCallK (n m : Nat) (f : Fn) (g : List W → List W → List W) (a ka : Ea) : Ee := fun ss c => (a ss c).bind fun xs c1 => (ka ss c1).bind fun zs c2 => if xs.length = n ∧ zs.length = m then f (g xs zs) c2 else .bad
def eMethK (C mm : Nm) (n m : Nat) (f : Fn) (g : List W → List W → List W) (eo : Ee) (a ka : Ea) : Ee := fun ss c => (eo ss c).bind fun x c1 => match insW c1 x with
  | some (C', fs) => if C' = C ∧ (lkp fs mm).isNone = true then (a ss c1).bind fun xs c2 => (ka ss c2).bind fun zs c3 => if xs.length = n ∧ zs.length = m then f (g (x :: xs) zs) c3 else .bad else .bad
  | none => .bad
def eMakeK (C : Nm) (n m : Nat) (f : Fn) (g : List W → List W → List W) (a ka : Ea) : Ee := fun ss c => (a ss c).bind fun xs c1 => (ka ss c1).bind fun zs c2 => if xs.length = n ∧ zs.length = m then (f (g (.ref c2.length :: xs) zs) (c2 ++ [.ins C []])).bind fun r c3 => (match r with
    | .non => .ok (.ref c2.length) c3
    | _ => .bad) else .bad
def GR (K : PySem.W.Frag) (g : List W → List W → List W) (gV : List V → List V → List V) : Prop := ∀ w xs zs vs us, VrL K w xs vs → VrL K w zs us → VrL K w (g xs zs) (gV vs us)
section
variable {K : PySem.W.Frag} {X : Xx} {f : Fn} {g : List W → List W → List W} {gV : List V → List V → List V} {n m : Nat} {aa ka : Ea} {eo : Ee} {C mm : Nm} {Cs ms : Str}
theorem pkm {Y : Cx} {kws : List Keyword} {t t' : TA} (h : ∀ σ H Q, t' σ H Q → t σ H Q) (p : PK Y kws t) : PK Y kws t' := ⟨fun a b c d e Q I q => p.run a b c d e Q I (h _ _ _ q)⟩
theorem le_callK (hg : GR K g gV) (σ : L2.St) (H : Hp) (Q : VK) (h : tE K X (eCallK n m f g aa ka) σ H Q) : fCallN n m (spE K f) gV (WE X.x) (tA K X aa) (tA K X ka) σ H Q := by
  obtain ⟨w, c, ss, rel, sr, h⟩ := h
  refine ⟨w, c, ss, rel, sr, (OR.bind (R := VrL K) h).imp ?_⟩
  rintro v1 H1 ⟨w1, xs, c1, l1, rel1, r1, h1⟩
  refine ⟨w1, c1, ss, rel1, sr.mono l1.v, (OR.bind (R := VrL K) h1).imp ?_⟩
  rintro v2 H2 ⟨w2, zs, c2, l2, rel2, r2, h2⟩
  obtain ⟨⟨e1, e2⟩, h3⟩ := ite_ok h2
  exact ⟨by rw [r1.length]; exact e1, by rw [r2.length]; exact e2, w2, c2, _, rel2, hg _ _ _ _ _ (r1.mono l2.v) r2, h3⟩
theorem le_methK (hC : mk C = Cs) (hm : mk mm = ms) (hg : GR K g gV) (σ : L2.St) (H : Hp) (Q : VK) (h : tE K X (eMethK C mm n m f g eo aa ka) σ H Q) : fMethN (He.ga K Cs) ms n m (spE K f) gV (WE X.x) (tE K X eo) (tA K X aa) (tA K X ka) σ H Q := by
  subst hC hm
  obtain ⟨w, c, ss, rel, sr, h⟩ := h
  refine ⟨w, c, ss, rel, sr, (OR.bind (R := Vr K) h).imp ?_⟩
  rintro v1 H1 ⟨w1, x, c1, l1, rel1, r1, h1⟩
  cases e : insW c1 x with
  | none => rw [e] at h1; exact h1.elim
  | some q =>
    obtain ⟨C', fs⟩ := q
    rw [e] at h1
    obtain ⟨⟨hC, hn⟩, h2⟩ := ite_ok h1
    subst hC
    obtain ⟨a, dx, vs, e1, e2, e3⟩ := insW_ok rel1 r1 e
    subst e1
    have e4 := e3.lk (f := mm)
    rw [Option.isNone_iff_eq_none.mp hn] at e4
    refine ⟨a, dx, vs, rfl, e2, ?_, w1, c1, ss, rel1, sr.mono l1.v, (OR.bind (R := VrL K) h2).imp ?_⟩
    · cases ev : vs.lookup (mk mm) with
      | none => rfl
      | some v => rw [ev] at e4; exact e4.elim
    · rintro v2 H2 ⟨w2, xs, c2, l2, rel2, r2, h2⟩
      refine ⟨w2, c2, ss, rel2, sr.mono (l1.trans l2).v, (OR.bind (R := VrL K) h2).imp ?_⟩
      rintro v3 H3 ⟨w3, zs, c3, l3, rel3, r3, h3⟩
      obtain ⟨⟨e5, e6⟩, h4⟩ := ite_ok h3
      exact ⟨by rw [r2.length]; exact e5, by rw [r3.length]; exact e6, w3, c3, _, rel3, hg w3 (x :: xs) zs (V.ref a :: v2) v3 ⟨_, _, rfl, r1.mono (l2.trans l3).v, r2.mono l3.v⟩ r3, h4⟩
theorem le_makeK (hC : mk C = Cs) (hg : GR K g gV) (σ : L2.St) (H : Hp) (Q : VK) (h : tE K X (eMakeK C n m f g aa ka) σ H Q) : fMakeN (He.ga K Cs) n m (spE K f) gV (WE X.x) (tA K X aa) (tA K X ka) σ H Q := by
  subst hC
  obtain ⟨w, c, ss, rel, sr, h⟩ := h
  refine ⟨w, c, ss, rel, sr, (OR.bind (R := VrL K) h).imp ?_⟩
  rintro v1 H1 ⟨w1, xs, c1, l1, rel1, r1, h1⟩
  refine ⟨w1, c1, ss, rel1, sr.mono l1.v, (OR.bind (R := VrL K) h1).imp ?_⟩
  rintro v2 H2 ⟨w2, zs, c2, l2, rel2, r2, h2⟩
  obtain ⟨⟨e1, e2⟩, h3⟩ := ite_ok h2
  refine ⟨by rw [r1.length]; exact e1, by rw [r2.length]; exact e2, ?_⟩
  intro p dx hp hdx ne
  have hp2 : upd H2 dx (.own p) p = none := by rw [upd_ne (Ne.symm ne)]; exact hp
  obtain ⟨le, rel3⟩ := rel2.new (o := .ins C []) (ho := .ins (He.ga K (mk C)) dx []) hp ((same_upd hdx).trans (same_upd hp2)) upd_same
    ⟨dx, [], rfl, ⟨rfl, rfl⟩, by rw [upd_ne ne]; exact upd_same, Same.free rel2.k0 hdx, Same.free rel2.hd hdx⟩
  have fn : (w2.new p).φ w2.n = p := if_pos rfl
  refine ⟨_, _, _, rel3, hg _ (W.ref c2.length :: xs) zs (V.ref p :: v1) v2 ⟨V.ref p, _, rfl, ⟨by rw [rel2.len]; exact Nat.lt_succ_self _, by rw [rel2.len, fn]⟩, (r1.mono l2.v).mono le.v⟩ (r2.mono le.v), ((OR.bind (R := Vr K) (h3.mono le))).imp ?_⟩
  rintro v3 H3 ⟨w3, r, c3, l3, rel4, r3, h4⟩
  cases r <;> first | exact h4.elim | skip
  cases (show _ = _ from r3)
  refine ⟨rfl, h4.ok (Wd.Le.refl w3) rel4 ⟨?_, ?_⟩⟩
  · rw [rel2.len]; exact Nat.lt_of_lt_of_le (Nat.lt_succ_self _) l3.n
  · rw [rel2.len, l3.φ w2.n (Nat.lt_succ_self _), fn]
end
end Ev

set_option Elab.async false
set_option linter.all false
set_option maxRecDepth 100000
set_option maxHeartbeats 4000000
namespace Ev
open PySem PySem.Spec PyProof.Rows L2 Wf TL
/-! # binds without defaults; framed defs; a promise that is never kept -/
theorem kbindsN {K : PySem.W.Frag} {x qual : Str} {params : Arguments} {body : List Stmt} {scope : Scope} {f : Addr} {fd : FuncData} {ps : List Str} (F : FunD K x qual params body scope [] [] f fd) (n : Nat) (ks : List Str) (g : {α : Type} → List α → List α → List α)
    (hrel : ∀ {vs zs : List V} {us ws : List Value}, Vals vs us → Vals zs ws → Vals (g vs zs) (g us ws))
    (h : ∀ (kV doc pm : Value) (an : Option Addr) (cdv ct : Value) (us ws : List Value), us.length = n → ws.length = ks.length → bindArgs (PySem.W.fnOf x qual params body scope .none kV doc pm an cdv ct) ⟨us, ks.zip ws⟩ = pure (ps.zip (g us ws))) :
    KBn K fd ps n ks (fun us ws => g us ws) (fun vs zs => g vs zs) := by
  obtain ⟨oc, od, dV, kV, doc, pm, an, cdv, ct, osl, rfl, lk, hcd, hD, hK⟩ := F.ex
  rcases hD with ⟨_, rfl⟩ | ⟨e, _⟩
  · exact ⟨fun s us ws X l1 l2 => .of_eq (h kV doc pm an cdv ct us ws l1 l2), fun r1 r2 => hrel r1 r2⟩
  · exact absurd rfl e
theorem OkD.m {P : Program} {w : World} {K : PySem.W.Frag} {mg : Str → Option Value} {base : Heap} {CX : CXT} {k : Nat} {f : Addr} {ps : List Str} {sp : Sp} (D : OkD P w K mg base CX k f ps sp) : OkM P w K mg base CX k f ps sp :=
  ⟨let ⟨fd, F, _, i⟩ := D.fn; ⟨fd, F, i⟩, D.kp⟩
/-! ## framed -/
mutual
def noRef : W → Bool
  | .ref _ => false
  | .tup xs => noRefL xs
  | .lst xs => noRefL xs
  | .wls xs => noRefL xs
  | .wtp xs => noRefL xs
  | .non => true
  | .bl _ => true
  | .int _ => true
  | .str _ => true
  | .ty _ => true
  | .glo _ => true
  | .exn _ _ => true
  | .exb _ => true
def noRefL : List W → Bool
  | [] => true
  | x :: xs => noRef x && noRefL xs
end
mutual
theorem sh_noRef {n : Nat} : ∀ {x : W}, noRef x = true → sh n x = x
  | .ref _, h => by cases h
  | .tup xs, h => by show W.tup (shL n xs) = _; rw [shL_noRef (xs := xs) h]
  | .lst xs, h => by show W.lst (shL n xs) = _; rw [shL_noRef (xs := xs) h]
  | .wls xs, h => by show W.wls (shL n xs) = _; rw [shL_noRef (xs := xs) h]
  | .wtp xs, h => by show W.wtp (shL n xs) = _; rw [shL_noRef (xs := xs) h]
  | .non, _ => rfl
  | .bl _, _ => rfl
  | .int _, _ => rfl
  | .str _, _ => rfl
  | .ty _, _ => rfl
  | .glo _, _ => rfl
  | .exn _ _, _ => rfl
  | .exb _, _ => rfl
theorem shL_noRef {n : Nat} : ∀ {xs : List W}, noRefL xs = true → shL n xs = xs
  | [], _ => rfl
  | x :: xs, h => by
    have h2 : (noRef x && noRefL xs) = true := h
    rw [Bool.and_eq_true] at h2
    show sh n x :: shL n xs = _
    rw [sh_noRef h2.1, shL_noRef h2.2]
end
/-- a call that is handed no object: it computes on nothing -/
def eFr (f : Fn) : Fn := fun ws c => if noRefL ws = true then unfr c (f ws []) else .bad
/-- an __init__ that is handed nothing but the new object: it computes on that alone -/
def eFrI (C : Nm) (f : Fn) : Fn := fun ws c => match ws with
  | .ref i :: xs => if i + 1 = c.length ∧ noRefL xs = true then (match c[i]? with
    | some (.ins C' []) => if C' = C then unfr (c.take i) (f (.ref 0 :: xs) [.ins C []]) else .bad
    | _ => .bad) else .bad
  | _ => .bad
section
variable {K : PySem.W.Frag} {f : Fn} {vs : List V} {H : Hp} {Q : VK} {E : XK} {C : Nm}
theorem fr_ok (h : spE K (eFr f) vs H Q E) : spE K f vs H Q E := by
  obtain ⟨w, c, ws, rel, r, h⟩ := h
  obtain ⟨hn, h⟩ := ite_ok h
  exact frame (c1 := c) (c2 := []) (by simpa using rel) rfl (by rw [shL_noRef hn]; exact r) h
theorem frI_ok (h : spE K (eFrI C f) vs H Q E) : spE K f vs H Q E := by
  obtain ⟨w, c, ws, rel, r, h⟩ := h
  unfold eFrI at h
  split at h
  · rename_i i xs
    obtain ⟨⟨hi, hn⟩, h⟩ := ite_ok h
    split at h
    · rename_i C' hc
      obtain ⟨hC, h⟩ := ite_ok h
      subst hC
      have hlen : (c.take i).length = i := by rw [List.length_take]; omega
      have ec : c = c.take i ++ [O.ins C' []].map (shO (c.take i).length) := by
        have e1 : c = c.take i ++ c.drop i := (List.take_append_drop i c).symm
        have e2 : c.drop i = [O.ins C' []] := by
          have hl : i < c.length := by omega
          rw [List.drop_eq_getElem_cons hl, List.drop_eq_nil_of_le (by omega)]
          rw [List.getElem?_eq_getElem hl] at hc
          rw [Option.some.inj hc]
        rw [e2] at e1
        exact e1
      refine frame (c1 := c.take i) (c2 := [.ins C' []]) (ws := .ref 0 :: xs) (by rw [← ec]; exact rel) rfl ?_ h
      show VrL K w (W.ref (0 + (c.take i).length) :: shL (c.take i).length xs) vs
      rw [shL_noRef hn, hlen, Nat.zero_add]
      exact r
    · exact h.elim
  · exact h.elim
theorem bad_sp {α : Prop} (h : spE K (fun _ _ => .bad) vs H Q E) : α := by
  obtain ⟨_, _, _, _, _, h⟩ := h
  exact h.elim
end
section
variable {K : PySem.W.Frag} {X : Xx} {f : Fn} {g : List W → List W → List W} {gV : List V → List V → List V} {m : Nat} {ka : Ea} {eo : Ee} {C mm : Nm} {Cs ms : Str}
theorem le_callK0 (hg : GR K g gV) (σ : L2.St) (H : Hp) (Q : VK) (h : tE K X (eCallK 0 m f g aNil ka) σ H Q) : fCallN 0 m (spE K f) gV (WE X.x) tNil (tA K X ka) σ H Q := le_nil σ H _ (le_callK hg σ H Q h)
theorem le_makeK0 (hC : mk C = Cs) (hg : GR K g gV) (σ : L2.St) (H : Hp) (Q : VK) (h : tE K X (eMakeK C 0 m f g aNil ka) σ H Q) : fMakeN (He.ga K Cs) 0 m (spE K f) gV (WE X.x) tNil (tA K X ka) σ H Q := le_nil σ H _ (le_makeK hC hg σ H Q h)
theorem le_methK0 (hC : mk C = Cs) (hm : mk mm = ms) (hg : GR K g gV) (σ : L2.St) (H : Hp) (Q : VK) (h : tE K X (eMethK C mm 0 m f g eo aNil ka) σ H Q) : fMethN (He.ga K Cs) ms 0 m (spE K f) gV (WE X.x) (tE K X eo) tNil (tA K X ka) σ H Q := by
  obtain ⟨w, c, ss, rel, sr, h⟩ := le_methK hC hm hg σ H Q h
  refine ⟨w, c, ss, rel, sr, h.imp ?_⟩
  rintro v1 H1 ⟨a, dx, fs, e1, e2, e3, h1⟩
  exact ⟨a, dx, fs, e1, e2, e3, le_nil σ H1 _ h1⟩
end
end Ev

set_option Elab.async false
set_option linter.all false
set_option maxRecDepth 100000
set_option maxHeartbeats 4000000
namespace Ev
open PySem PySem.Spec PyProof.Rows L2 Wf TL
/-! # texts: lower, upper, join, index, split; sums -/
def oLower : W → List W → Conf → Out W := fun x xs c => match x, xs with
  | .str a, [] => if a.length ≤ 1000000 ∧ (a.all fun n => decide (n < 128)) = true then .ok (.str (a.map lo1)) c else .bad
  | _, _ => .bad
def oUpper : W → List W → Conf → Out W := fun x xs c => match x, xs with
  | .str a, [] => if a.length ≤ 1000000 ∧ (a.all fun n => decide (n < 128)) = true then .ok (.str (a.map up1)) c else .bad
  | _, _ => .bad
def unStr : List W → Option (List (List Nat))
  | [] => some []
  | .str s :: r => (unStr r).map (s :: ·)
  | _ :: _ => none
def oJoin : W → List W → Conf → Out W := fun x xs c => match x, xs with
  | .str a, [y] => (match (match rdL c y with | some ys => some ys | none => rdT y) with
    | some ys => (match unStr ys with
      | some ps => if (ps.map (·.length)).sum + ps.length * a.length ≤ 1000000 then .ok (.str (joinL a ps)) c else .bad
      | none => .bad)
    | none => .bad)
  | _, _ => .bad
def oIndexS : W → List W → Conf → Out W := fun x xs c => match x, xs with
  | .str a, [.str b] => (match Builtin.Str.occurrences (mk a) (mk b) 0 (mk a).length 1 with
    | i :: _ => .ok (.int i) c
    | [] => .bad)
  | _, _ => .bad
/-- the pieces between the signs n -/
def splN (n : Nat) : List Nat → List (List Nat)
  | [] => [[]]
  | a :: r => if a = n then [] :: splN n r else (match splN n r with | p :: q => (a :: p) :: q | [] => [[a]])
section
variable {K : PySem.W.Frag} {X : Cx}
theorem all128 {a : List Nat} (h : (a.all fun n => decide (n < 128)) = true) : ∀ c ∈ (mk a).cps.toList, c < 128 := fun c hc => by
  have := List.all_eq_true.mp h c (by simpa [mk] using hc)
  exact of_decide_eq_true this
theorem s_lower : MtS K (fun x xs H Q => ∃ a, x = .str a ∧ xs = [] ∧ a.length ≤ 5592405 ∧ Q (.str (Txt.lower a)) H) oLower := by
  intro w c H x xs vx vs Ex Q rel rx rxs h
  cases x <;> first | exact h.elim | skip
  cases xs <;> first | exact h.elim | skip
  cases (show _ = _ from rx); cases (show _ = _ from rxs)
  obtain ⟨⟨h1, h2⟩, h⟩ := ite_ok h
  refine ⟨_, rfl, rfl, by rw [mk_len]; omega, h.ok (Wd.Le.refl w) rel ?_⟩
  rw [lower_ascii (all128 h2)]
  rename_i a _
  show V.str ⟨a.toArray.map lo1⟩ = V.str (mk (a.map lo1))
  simp [mk]
theorem s_upper : MtS K (fun x xs H Q => ∃ a, x = .str a ∧ xs = [] ∧ a.length ≤ 5592405 ∧ Q (.str (Txt.upper a)) H) oUpper := by
  intro w c H x xs vx vs Ex Q rel rx rxs h
  cases x <;> first | exact h.elim | skip
  cases xs <;> first | exact h.elim | skip
  cases (show _ = _ from rx); cases (show _ = _ from rxs)
  obtain ⟨⟨h1, h2⟩, h⟩ := ite_ok h
  refine ⟨_, rfl, rfl, by rw [mk_len]; omega, h.ok (Wd.Le.refl w) rel ?_⟩
  rw [upper_ascii (all128 h2)]
  rename_i a _
  show V.str ⟨a.toArray.map up1⟩ = V.str (mk (a.map up1))
  simp [mk]
theorem unStr_ok {w : Wd} : ∀ {ys : List W} {vs : List V} {ps : List (List Nat)}, VrL K w ys vs → unStr ys = some ps → vs = (ps.map mk).map V.str
  | [], vs, ps, r, e => by cases e; exact r
  | y :: ys, vs, ps, ⟨v, r', e1, h1, h2⟩, e => by
    cases y <;> first | (cases e; done) | skip
    cases (show _ = _ from h1)
    simp only [unStr] at e
    cases q : unStr ys with
    | none => rw [q] at e; cases e
    | some qs =>
      rw [q] at e
      cases e
      subst e1
      rw [unStr_ok h2 q]
      rfl
theorem mk_join (a : List Nat) (ps : List (List Nat)) : Txt.join (mk a) (ps.map mk) = mk (joinL a ps) := by
  rw [join_eq]
  have h := tl_join (mk a) (ps.map mk)
  have e1 : tl (mk a) = a := by simp [tl, mk]
  have e2 : (ps.map mk).map tl = ps := by rw [List.map_map]; exact List.map_id'' (fun p => by simp [tl, mk]) ps
  rw [e1, e2] at h
  have : Str.join (mk a) (ps.map mk) = mk (tl (Str.join (mk a) (ps.map mk))) := by
    cases Str.join (mk a) (ps.map mk) with
    | mk l => simp [mk, tl]
  rw [this, h]
theorem s_join : MtS K (fun x xs H Q => ∃ a p, ∃ ys : List Str, x = .str a ∧ xs = [.ref p] ∧ (SqL K H p (ys.map V.str) ∨ SqT K H p (ys.map V.str)) ∧ (ys.map (·.length)).sum + ys.length * a.length ≤ 16777216 ∧ Q (.str (Txt.join a ys)) H) oJoin := by
  intro w c H x xs vx vs Ex Q rel rx rxs h
  cases x <;> first | exact h.elim | skip
  rename_i a
  cases (show _ = _ from rx)
  match xs, rxs, h with
  | [y], ⟨vy, r', e1, ry, e2⟩, h =>
    cases (show r' = [] from e2)
    subst e1
    simp only [oJoin] at h
    have key : ∀ (ys : List W) (b : Addr) (us : List V), vy = .ref b → VrL K w ys us → (SqL K H b us ∨ SqT K H b us) → OR K (Vr K) w Ex Q (match unStr ys with | some ps => if (ps.map (·.length)).sum + ps.length * a.length ≤ 1000000 then .ok (.str (joinL a ps)) c else .bad | none => .bad) →
        ∃ a' p, ∃ ys : List Str, V.str (mk a) = .str a' ∧ [vy] = [.ref p] ∧ (SqL K H p (ys.map V.str) ∨ SqT K H p (ys.map V.str)) ∧ (ys.map (·.length)).sum + ys.length * a'.length ≤ 16777216 ∧ Q (.str (Txt.join a' ys)) H := by
      intro ys b us e ru hs h
      cases hu : unStr ys with
      | none => rw [hu] at h; exact h.elim
      | some ps =>
        rw [hu] at h
        obtain ⟨hl, h⟩ := ite_ok h
        subst e
        refine ⟨mk a, b, ps.map mk, rfl, rfl, by rw [← unStr_ok ru hu]; exact hs, ?_, ?_⟩
        · have e1 : (ps.map mk).map (·.length) = ps.map (·.length) := by rw [List.map_map]; exact List.map_congr_left fun p _ => mk_len p
          rw [e1, List.length_map, mk_len]
          omega
        · rw [mk_join]
          exact h.ok (Wd.Le.refl w) rel rfl
    cases hL : rdL c y with
    | some ys =>
      rw [hL] at h
      obtain ⟨b, us, e5, s, rr⟩ := rdL_ok rel ry hL
      exact key ys b us e5 rr (.inl s) h
    | none =>
      rw [hL] at h
      simp only at h
      cases hT : rdT y with
      | some ys =>
        rw [hT] at h
        obtain ⟨b, us, e5, s, rr⟩ := rdT_ok rel ry hT
        exact key ys b us e5 rr (.inr s) h
      | none => rw [hT] at h; exact h.elim
  | [], _, h => exact h.elim
  | _ :: _ :: _, _, h => exact h.elim
theorem s_indexS : MtS K (fun x xs H Q => ∃ a b i rest, x = .str a ∧ xs = [.str b] ∧ Builtin.Str.occurrences a b 0 a.length 1 = i :: rest ∧ Q (.int (i : Nat)) H) oIndexS := by
  intro w c H x xs vx vs Ex Q rel rx rxs h
  cases x <;> first | exact h.elim | skip
  rename_i a
  cases (show _ = _ from rx)
  cases xs with
  | nil => exact h.elim
  | cons y ys =>
    cases ys with
    | cons _ _ => cases y <;> exact h.elim
    | nil =>
      obtain ⟨vy, r', e1, ry, e2⟩ := rxs
      cases (show r' = [] from e2)
      subst e1
      cases y with
      | str b =>
        cases (show _ = _ from ry)
        unfold oIndexS at h
        simp only at h
        generalize ho : Builtin.Str.occurrences (mk a) (mk b) 0 (mk a).length 1 = oc at h
        cases oc with
        | nil => exact h.elim
        | cons i rest => exact ⟨_, _, i, rest, rfl, rfl, ho, h.ok (Wd.Le.refl w) rel rfl⟩
      | _ => exact h.elim
end
/-! ## sum -/
def unInt : List W → Option (List Int)
  | [] => some []
  | .int i :: r => (unInt r).map (i :: ·)
  | _ :: _ => none
def oSum : List W → Conf → Out W := fun xs c => match xs with
  | [x] => (match rdL c x with
    | some ys => (match unInt ys with | some ns => .ok (.int ns.sum) c | none => .bad)
    | none => .bad)
  | _ => .bad
section
variable {K : PySem.W.Frag}
theorem unInt_ok {w : Wd} : ∀ {ys : List W} {vs : List V} {ns : List Int}, VrL K w ys vs → unInt ys = some ns → vs = ns.map V.int
  | [], vs, ps, r, e => by cases e; exact r
  | y :: ys, vs, ps, ⟨v, r', e1, h1, h2⟩, e => by
    cases y <;> first | (cases e; done) | skip
    cases (show _ = _ from h1)
    simp only [unInt] at e
    cases q : unInt ys with
    | none => rw [q] at e; cases e
    | some qs =>
      rw [q] at e
      cases e
      subst e1
      rw [unInt_ok h2 q]
      rfl
theorem s_sum : CallS K (rSum K) oSum := by
  intro w c H xs vs Ex Q rel r h
  cases xs with
  | nil => exact h.elim
  | cons x ys =>
    cases ys with
    | cons _ _ => exact h.elim
    | nil =>
      obtain ⟨v, r', e1, rv, e2⟩ := r
      cases (show r' = [] from e2)
      subst e1
      unfold oSum at h
      simp only at h
      cases hL : rdL c x with
      | none => rw [hL] at h; exact h.elim
      | some ys =>
        rw [hL] at h
        simp only at h
        obtain ⟨b, us, e5, s, rr⟩ := rdL_ok rel rv hL
        cases hu : unInt ys with
        | none => rw [hu] at h; exact h.elim
        | some ns =>
          rw [hu] at h
          have e := unInt_ok rr hu
          subst e
          exact ⟨b, ns, by rw [e5], s, h.ok (Wd.Le.refl w) rel rfl⟩
end
end Ev

set_option Elab.async false
set_option linter.all false
set_option maxRecDepth 100000
set_option maxHeartbeats 1000000
namespace Ev
open PySem PySem.Spec PyProof.Rows L2 Wf TL
/-! # for over enumerate(text) -/
def sForES (a : Ea) (p : Pat) (b : Es) : Es := fun ss c => So.lift ss (a ss c) fun xs c1 => match xs with | [.str s] => goFor p b (enumW 0 (s.map fun n => .str [n])) ss c1 | _ => .bad
section
variable {K : PySem.W.Frag} {X : Xx} {aa : Ea} {p : Pat} {b : Es}
theorem le_forES (D : Ends) (σ : L2.St) (H : Hp) (h : tS K X (sForES aa p b) D σ H) : tFor (iEnumS (tA K X aa)) (gPat K p) (tS K X b) D σ H := by
  obtain ⟨w, c, ss, rel, sr, h⟩ := h
  refine ⟨w, c, ss, rel, sr, (SO.lift (R := VrL K) h sr).imp ?_⟩
  rintro v1 H1 ⟨w1, x, c1, l1, rel1, r1, h1⟩
  split at h1
  · rename_i s
    obtain ⟨v, rfl, rx⟩ := VrL.inv1 r1
    cases (show _ = _ from rx)
    have hs : (s.map fun n => W.str [n]).length = (mk s).cps.size := by simp [mk]
    refine ⟨mk s, rfl, for_base rel1 (sr.mono l1.v) h1 ?_ ?_ ?_⟩
    · exact fun w' c' H' l' rel' => by rw [enumW_len, hs]; exact Nat.le_refl _
    · exact fun i w' c' H' hi l' rel' => by rw [enumW_len, hs] at hi; exact hi
    · rintro i y w' c' H' v H2 hy l' rel' ⟨T, n, e1, e2, e3, en⟩
      subst e1 e3
      rw [enumW_get] at hy
      obtain ⟨x2, hx2, ey⟩ := Option.map_eq_some_iff.mp hy
      have en2 : s[i]? = some n := by simpa [mk] using en
      rw [List.getElem?_map, en2] at hx2
      cases hx2
      subst ey
      obtain ⟨le, rel2⟩ := rel'.frz1 e2 (.tup [.int (i : Nat), .str ⟨#[n]⟩])
      exact ⟨_, le, rel2, T, _, rfl, upd_same, _, _, rfl, by rw [Nat.zero_add]; rfl, _, _, rfl, rfl, rfl⟩
  · exact h1.elim
end
/-! ## d.get(k), d.get(k, z) -/
def isD2 (c : Conf) : W → Bool
  | .ref i => (match c[i]? with | some (.dic _) => true | some (.dit _) => true | _ => false)
  | _ => false
def eDGet1 (ed ey : Ee) : Ee := fun ss c => (ed ss c).bind fun x c1 => if isD2 c1 x = true then (ey ss c1).bind fun y c2 => (match dGet c2 x y with
  | some (some v) => .ok v c2
  | some none => .ok .non c2
  | none => .bad) else .bad
def eDGet2 (ed ey ez : Ee) : Ee := fun ss c => (ed ss c).bind fun x c1 => if isD2 c1 x = true then (ey ss c1).bind fun y c2 => (ez ss c2).bind fun z c3 => (match dGet c3 x y with
  | some (some v) => .ok v c3
  | some none => .ok z c3
  | none => .bad) else .bad
section
variable {K : PySem.W.Frag} {X : Xx} {ed ey ez : Ee}
theorem isD2_ok {w : Wd} {c : Conf} {H : Hp} {x : W} {v : V} (rel : Rel K w c H) (r : Vr K w x v) (e : isD2 c x = true) : ∃ a, v = .ref a ∧ IsD H a := by
  cases x <;> first | (cases e; done) | skip
  rename_i i
  obtain ⟨_, ev⟩ := r
  subst ev
  simp only [isD2] at e
  cases hc : c[i]? with
  | none => rw [hc] at e; cases e
  | some ob =>
    rw [hc] at e
    cases ob with
    | dic kvs => obtain ⟨ho, h1, _, _, vs, e2, _⟩ := rel.obj i _ hc rfl; subst e2; exact ⟨_, rfl, .inl ⟨vs, .inl h1⟩⟩
    | dit kvs => obtain ⟨ho, h1, _, _, vs, e2, _⟩ := rel.obj i _ hc rfl; subst e2; exact ⟨_, rfl, .inr ⟨vs, .inl h1⟩⟩
    | lst _ => cases e
    | ins _ _ => cases e
    | dicF _ => cases e
theorem le_dget1 (σ : L2.St) (H : Hp) (Q : VK) (h : tE K X (eDGet1 ed ey) σ H Q) : tDGet1 (tE K X ed) (tE K X ey) σ H Q := by
  obtain ⟨w, c, ss, rel, sr, h⟩ := h
  refine ⟨w, c, ss, rel, sr, (OR.bind (R := Vr K) h).imp ?_⟩
  rintro v1 H1 ⟨w1, x, c1, l1, rel1, r1, h1⟩
  obtain ⟨hd, h1⟩ := ite_ok h1
  obtain ⟨a, e1, d1⟩ := isD2_ok rel1 r1 hd
  refine ⟨a, e1, d1, w1, c1, ss, rel1, sr.mono l1.v, (OR.bind (R := Vr K) h1).imp ?_⟩
  rintro v2 H2 ⟨w2, y, c2, l2, rel2, r2, h2⟩
  cases e : dGet c2 x y with
  | none => rw [e] at h2; exact h2.elim
  | some o =>
    rw [e] at h2
    obtain ⟨a', ov, e2, e3, e4⟩ := dGet_ok rel2 (r1.mono l2.v) r2 e
    rw [e1] at e2
    cases e2
    refine ⟨ov, e3, ?_⟩
    cases o with
    | none =>
      cases ov with
      | none => exact h2.ok (Wd.Le.refl w2) rel2 rfl
      | some v => exact e4.elim
    | some q =>
      cases ov with
      | none => exact e4.elim
      | some v => exact h2.ok (Wd.Le.refl w2) rel2 e4
theorem le_dget2 (σ : L2.St) (H : Hp) (Q : VK) (h : tE K X (eDGet2 ed ey ez) σ H Q) : tDGet2 (tE K X ed) (tE K X ey) (tE K X ez) σ H Q := by
  obtain ⟨w, c, ss, rel, sr, h⟩ := h
  refine ⟨w, c, ss, rel, sr, (OR.bind (R := Vr K) h).imp ?_⟩
  rintro v1 H1 ⟨w1, x, c1, l1, rel1, r1, h1⟩
  obtain ⟨hd, h1⟩ := ite_ok h1
  obtain ⟨a, e1, d1⟩ := isD2_ok rel1 r1 hd
  refine ⟨a, e1, d1, w1, c1, ss, rel1, sr.mono l1.v, (OR.bind (R := Vr K) h1).imp ?_⟩
  rintro v2 H2 ⟨w2, y, c2, l2, rel2, r2, h2⟩
  refine ⟨w2, c2, ss, rel2, sr.mono (l1.trans l2).v, (OR.bind (R := Vr K) h2).imp ?_⟩
  rintro v3 H3 ⟨w3, z, c3, l3, rel3, r3, h3⟩
  cases e : dGet c3 x y with
  | none => rw [e] at h3; exact h3.elim
  | some o =>
    rw [e] at h3
    obtain ⟨a', ov, e2, e3, e4⟩ := dGet_ok rel3 (r1.mono (l2.trans l3).v) (r2.mono l3.v) e
    rw [e1] at e2
    cases e2
    refine ⟨ov, e3, ?_⟩
    cases o with
    | none =>
      cases ov with
      | none => exact h3.ok (Wd.Le.refl w3) rel3 r3
      | some v => exact e4.elim
    | some q =>
      cases ov with
      | none => exact e4.elim
      | some v => exact h3.ok (Wd.Le.refl w3) rel3 e4
end
section
variable {K : PySem.W.Frag} {X : Xx} {Y : Cx} {CX : CXT} {k : Nat} {C f : Addr} {ps : List Str} {sp : Sp} {E : L2.St → XK} {x m : Str} {p pos : Pos} {e : Expr} {eo : Ee} {dvs : List V} {Cn : Nm} {Cs : Str} {fn : Fn} {ds : List W}
theorem pe_makeX0 (M : Mk Y.K C f) (D : OkD Y.prog Y.w Y.K Y.mg Y.base CX k f ps sp) (hr : Room (k + 1) Y.A) (hg : Gl Y x) (hm : Y.mg x = some (.ref C)) (hx : ∀ σ, PassesAt CX Y σ (E σ)) (hdb : (x == ("__debug__" : Str)) = false := by decide) : PE Y (.Call (.Name x p) [] [] pos) (fMake C sp [] E tNil) := by
  obtain ⟨⟨fd, F, b, _⟩, kp⟩ := D
  exact pe_makeC0 M F hr hg hm b .nil hx hdb
theorem le_make0 (hC : mk Cn = Cs) (hd : ∀ w, VrL K w ds dvs) (σ : L2.St) (H : Hp) (Q : VK) (h : tE K X (eMake Cn fn ds aNil) σ H Q) : fMake (He.ga K Cs) (spE K fn) dvs (WE X.x) tNil σ H Q := le_nil σ H _ (le_make hC hd σ H Q h)
theorem pam0 (hn : ∀ σ H Q, tA K X aNil σ H Q → tNil σ H Q) (q : PE Y e (fMeth C m sp dvs E (tE K X eo) tNil)) : PE Y e (fMeth C m sp dvs E (tE K X eo) (tA K X aNil)) := by
  refine pm ?_ q
  rintro σ H Q ⟨w, c, ss, rel, sr, h⟩
  refine ⟨w, c, ss, rel, sr, h.imp ?_⟩
  intro v H1 h1
  unfold zMeth at h1 ⊢
  obtain ⟨a, dx, fs, e1, e2, e3, h1⟩ := h1
  exact ⟨a, dx, fs, e1, e2, e3, hn _ _ _ h1⟩
end
end Ev

set_option Elab.async false
set_option linter.all false
set_option maxRecDepth 100000
set_option maxHeartbeats 4000000
namespace Ev
open PySem PySem.Spec PyProof.Rows L2 Wf TL
/-! # tuples of any kind -/
def kAddA (K : PySem.W.Frag) : R2 := fun x y H Q => rCatA K x y H Q ∨ fAdd K x y H Q
theorem op_addA {X : Cx} : OpR X (binaryOp .Add) (kAddA X.K) := by
  intro pins s σ H x y v u Q I rx ry h
  rcases h with h | h
  · exact op_catA pins s σ H x y v u Q I rx ry h
  · exact fk_add pins s σ H x y v u Q I rx ry h
def oAddA : W → W → Conf → Out W := fun x y c => match rdT x, rdT y with
  | some a, some b => if a.length + b.length ≤ 1000000 then (if a.isEmpty = true then .ok y c else if b.isEmpty = true then .ok x c else .ok (.tup (a ++ b)) c) else .bad
  | _, _ => oAdd x y c
def oSlTA : W → Option Int → Option Int → Conf → Out W := fun x l u c => match rdT x with
  | some xs => if HT.sIx xs.length 0 l = 0 ∧ HT.sIx xs.length xs.length u = xs.length then .ok x c else .ok (.tup (cutW xs l u)) c
  | none => .bad
section
variable {K : PySem.W.Frag}
theorem s_addA : OpS K (kAddA K) oAddA := by
  intro w c H x y vx vy Ex Q rel rx ry h
  unfold oAddA at h
  split at h
  · rename_i a b ha hb
    obtain ⟨hl, h⟩ := ite_ok h
    obtain ⟨p, vs, e1, s1, r1⟩ := rdT_ok rel rx ha
    obtain ⟨q, us, e2, s2, r2⟩ := rdT_ok rel ry hb
    refine .inl ⟨p, q, vs, us, e1, e2, s1, s2, by rw [r1.length, r2.length]; exact len_le hl, fun z => ?_, fun z z2 => ?_, fun z z2 => ?_⟩
    · have : a.isEmpty = true := by rw [List.isEmpty_iff]; have := r1.length; rw [z] at this; exact List.length_eq_zero_iff.mp this.symm
      rw [if_pos this] at h
      rw [← e2]
      exact h w H vy (Wd.Le.refl w) rel ry
    · have n1 : ¬ a.isEmpty = true := by rw [List.isEmpty_iff]; rintro rfl; exact z (List.length_eq_zero_iff.mp r1.length)
      have : b.isEmpty = true := by rw [List.isEmpty_iff]; have := r2.length; rw [z2] at this; exact List.length_eq_zero_iff.mp this.symm
      rw [if_neg n1, if_pos this] at h
      rw [← e1]
      exact h w H vx (Wd.Le.refl w) rel rx
    · have n1 : ¬ a.isEmpty = true := by rw [List.isEmpty_iff]; rintro rfl; exact z (List.length_eq_zero_iff.mp r1.length)
      have n2 : ¬ b.isEmpty = true := by rw [List.isEmpty_iff]; rintro rfl; exact z2 (List.length_eq_zero_iff.mp r2.length)
      rw [if_neg n1, if_neg n2] at h
      exact fun p hp => new_tup rel (r1.app r2) h p hp
  · exact .inr (s_add w c H x y vx vy Ex Q rel rx ry h)
theorem s_slTA : SlS K (rSlA K) oSlTA := by
  intro w c H x vx l u Ex Q rel rx h
  unfold oSlTA at h
  cases hL : rdT x with
  | none => rw [hL] at h; exact h.elim
  | some xs =>
    rw [hL] at h
    obtain ⟨a, vs, e1, s, r⟩ := rdT_ok rel rx hL
    refine ⟨a, vs, e1, s, fun hz => ?_, fun hz => ?_⟩
    · rw [r.length] at hz
      simp only at h
      rw [if_pos hz] at h
      rw [← e1]
      exact h w H vx (Wd.Le.refl w) rel rx
    · rw [r.length] at hz
      simp only at h
      rw [if_neg hz] at h
      exact fun p hp => new_tup rel (cut_ok r) h p hp
end
/-! # text * int, any count -/
def rMulT : R2 := fun x y H Q => ∃ (a : Str) (n : Int), x = .str a ∧ y = .int n ∧ (-1000 ≤ n ∧ n ≤ 2000) ∧ a.length ≤ 500 ∧ Q (.str (repS a n)) H
theorem repS_nil {a : Str} {n : Int} (h : a.length = 0) : repS a n = a := by
  obtain ⟨cs⟩ := a
  have e : cs = #[] := Array.eq_empty_of_size_eq_zero h
  subst e
  unfold repS
  congr 1
  generalize n.toNat = m
  induction m with
  | zero => rfl
  | succ m ih => rw [List.replicate_succ, List.foldl_cons]; exact ih
theorem op_mulT {X : Cx} : OpR X (binaryOp .Mult) rMulT := by
  intro pins s σ H x y v u Q I rx ry h
  obtain ⟨a, n, rfl, rfl, ⟨h1, h1'⟩, h3, q⟩ := h
  obtain ⟨t, rfl⟩ := rx
  obtain ⟨t2, rfl⟩ := ry
  refine PySem.P.mul_str (by rw [decide_eq_false (by omega), decide_eq_false (by omega)]; rfl) (fun hn _ => ?_) (fun hn _ => ?_) ?_
  · have : (2 ^ 63 - 1) / n ≥ 2000 := by
      refine (Int.le_ediv_iff_mul_le (by omega)).mpr ?_
      omega
    omega
  · have b1 : n.toNat ≤ 2000 := by omega
    have b2 : a.length * n.toNat ≤ 500 * 2000 := Nat.mul_le_mul h3 b1
    exact decide_eq_false (by rw [sizeLine_eq]; omega)
  · by_cases hn : n < 1
    · rw [if_pos hn]
      have e : repS a n = Str.empty := by
        unfold repS
        rw [show n.toNat = 0 by omega]
        rfl
      rw [e] at q
      exact ⟨by decide, .str Str.empty, H, I.tok _, ⟨_, rfl⟩, q⟩
    rw [if_neg hn]
    by_cases e : (n == 1 || a.length == 0) = true
    · rw [if_pos e]
      have : repS a n = a := by
        rcases Bool.or_eq_true _ _ ▸ e with e | e
        · rw [beq_iff_eq.mp e]; exact repS_one
        · exact repS_nil (beq_iff_eq.mp e)
      rw [this] at q
      exact ⟨.str a, H, I, ⟨t, rfl⟩, q⟩
    · rw [if_neg e]
      refine ⟨?_, ⟨.str (repS a n), H, I.tok _, ⟨_, rfl⟩, q⟩⟩
      have b1 : n.toNat ≤ 2000 := by omega
      have b2 : n.toNat * a.length ≤ 2000 * 500 := Nat.mul_le_mul b1 h3
      have b3 := repS_len (a := a) (n := n)
      show (repS a n).length ≤ sizeLine
      rw [b3, sizeLine_eq]
      omega
def kMulA (K : PySem.W.Frag) : R2 := fun x y H Q => rMulT x y H Q ∨ fMul2 K x y H Q
theorem op_mulA {X : Cx} : OpR X (binaryOp .Mult) (kMulA X.K) := by
  intro pins s σ H x y v u Q I rx ry h
  rcases h with h | h
  · exact op_mulT pins s σ H x y v u Q I rx ry h
  · exact fk_mul2 pins s σ H x y v u Q I rx ry h
def oMulA : W → W → Conf → Out W := fun x y c => match x, y with
  | .str s, .int k => if (-1000 ≤ k ∧ k ≤ 2000) ∧ s.length ≤ 500 then .ok (.str (repN s k.toNat)) c else .bad
  | x, y => oMul x y c
theorem s_mulA {K : PySem.W.Frag} : OpS K (kMulA K) oMulA := by
  intro w c H x y vx vy Ex Q rel rx ry h
  unfold oMulA at h
  split at h
  · rename_i s k
    cases (show vx = _ from rx); cases (show vy = _ from ry)
    obtain ⟨⟨h1, h3⟩, h⟩ := ite_ok h
    refine .inl ⟨mk s, k, rfl, rfl, h1, by rw [mk_len]; exact h3, h.ok (Wd.Le.refl w) rel ?_⟩
    show V.str _ = V.str _
    congr 1
    unfold repS mk
    congr 1
    have := repS_mk s k.toNat []
    simpa using this
  · exact .inr (s_mul w c H x y vx vy Ex Q rel rx ry h)
/-! # the order of texts -/
def ltN : List Nat → List Nat → Bool
  | [], [] => false
  | [], _ :: _ => true
  | _ :: _, [] => false
  | a :: as, b :: bs => if a < b then true else if b < a then false else ltN as bs
theorem ltN_iff : ∀ a b : List Nat, (a < b) ↔ ltN a b = true
  | [], [] => by simp [ltN]
  | [], _ :: _ => by simp [ltN]
  | _ :: _, [] => by simp [ltN]
  | a :: as, b :: bs => by
    have ih := ltN_iff as bs
    unfold ltN
    rw [List.cons_lt_cons_iff]
    by_cases h1 : a < b
    · rw [if_pos h1]; exact ⟨fun _ => rfl, fun _ => .inl h1⟩
    · rw [if_neg h1]
      by_cases h2 : b < a
      · rw [if_pos h2]
        exact ⟨fun h => h.elim (fun h => absurd h h1) fun h => absurd h.1 (by omega), fun h => nomatch h⟩
      · rw [if_neg h2, ← ih]
        exact ⟨fun h => h.elim (fun h => absurd h h1) fun h => h.2, fun h => .inr ⟨by omega, h⟩⟩
theorem ltN_eq (a b : List Nat) : decide (a < b) = ltN a b := by
  by_cases h : a < b
  · rw [decide_eq_true h, (ltN_iff a b).mp h]
  · rw [decide_eq_false h]
    cases e : ltN a b with
    | false => rfl
    | true => exact absurd ((ltN_iff a b).mpr e) h
theorem lt_mk (s t : List Nat) : decide ((mk s).cps.toList < (mk t).cps.toList) = ltN s t := by
  rw [← ltN_eq]; rfl
def rStr2 (f : Str → Str → Bool) : R2 := fun x y H Q => ∃ i j, x = .str i ∧ y = .str j ∧ Q (.bl (f i j)) H
def kLtA : R2 := fun x y H Q => (∃ i j, x = .str i ∧ y = .str j ∧ Q (.bl (decide (i.cps.toList < j.cps.toList))) H) ∨ fLt x y H Q
def kGtA : R2 := fun x y H Q => (∃ i j, x = .str i ∧ y = .str j ∧ Q (.bl (decide (j.cps.toList < i.cps.toList))) H) ∨ fGt x y H Q
def kLeA : R2 := fun x y H Q => (∃ i j, x = .str i ∧ y = .str j ∧ Q (.bl (!decide (j.cps.toList < i.cps.toList))) H) ∨ fLe x y H Q
def kGeA : R2 := fun x y H Q => (∃ i j, x = .str i ∧ y = .str j ∧ Q (.bl (!decide (i.cps.toList < j.cps.toList))) H) ∨ fGe x y H Q
section
variable {X : Cx}
theorem op_ltA : OpR X (compareOp .Lt) kLtA := fun pins s σ H x y v u Q I rx ry h => h.elim (op_lt_str pins s σ H x y v u Q I rx ry) (fk_lt pins s σ H x y v u Q I rx ry)
theorem op_gtA : OpR X (compareOp .Gt) kGtA := fun pins s σ H x y v u Q I rx ry h => h.elim (op_gt_str pins s σ H x y v u Q I rx ry) (fk_gt pins s σ H x y v u Q I rx ry)
theorem op_leA : OpR X (compareOp .LtE) kLeA := fun pins s σ H x y v u Q I rx ry h => h.elim (op_le_str pins s σ H x y v u Q I rx ry) (fk_le pins s σ H x y v u Q I rx ry)
theorem op_geA : OpR X (compareOp .GtE) kGeA := fun pins s σ H x y v u Q I rx ry h => h.elim (op_ge_str pins s σ H x y v u Q I rx ry) (fk_ge pins s σ H x y v u Q I rx ry)
end
def oLtA : W → W → Conf → Out W := fun x y c => match x, y with | .str s, .str t => .ok (.bl (ltN s t)) c | x, y => oLt x y c
def oGtA : W → W → Conf → Out W := fun x y c => match x, y with | .str s, .str t => .ok (.bl (ltN t s)) c | x, y => oGt x y c
def oLeA : W → W → Conf → Out W := fun x y c => match x, y with | .str s, .str t => .ok (.bl (!ltN t s)) c | x, y => oLe x y c
def oGeA : W → W → Conf → Out W := fun x y c => match x, y with | .str s, .str t => .ok (.bl (!ltN s t)) c | x, y => oGe x y c
section
variable {K : PySem.W.Frag}
theorem s_ltA : OpS K kLtA oLtA := by
  intro w c H x y vx vy Ex Q rel rx ry h
  unfold oLtA at h
  split at h
  · cases (show vx = _ from rx); cases (show vy = _ from ry)
    exact .inl ⟨_, _, rfl, rfl, by rw [lt_mk]; exact h.ok (Wd.Le.refl w) rel rfl⟩
  · exact .inr (s_lt w c H x y vx vy Ex Q rel rx ry h)
theorem s_gtA : OpS K kGtA oGtA := by
  intro w c H x y vx vy Ex Q rel rx ry h
  unfold oGtA at h
  split at h
  · cases (show vx = _ from rx); cases (show vy = _ from ry)
    exact .inl ⟨_, _, rfl, rfl, by rw [lt_mk]; exact h.ok (Wd.Le.refl w) rel rfl⟩
  · exact .inr (s_gt w c H x y vx vy Ex Q rel rx ry h)
theorem s_leA : OpS K kLeA oLeA := by
  intro w c H x y vx vy Ex Q rel rx ry h
  unfold oLeA at h
  split at h
  · cases (show vx = _ from rx); cases (show vy = _ from ry)
    exact .inl ⟨_, _, rfl, rfl, by rw [lt_mk]; exact h.ok (Wd.Le.refl w) rel rfl⟩
  · exact .inr (s_le w c H x y vx vy Ex Q rel rx ry h)
theorem s_geA : OpS K kGeA oGeA := by
  intro w c H x y vx vy Ex Q rel rx ry h
  unfold oGeA at h
  split at h
  · cases (show vx = _ from rx); cases (show vy = _ from ry)
    exact .inl ⟨_, _, rfl, rfl, by rw [lt_mk]; exact h.ok (Wd.Le.refl w) rel rfl⟩
  · exact .inr (s_ge w c H x y vx vy Ex Q rel rx ry h)
end
end Ev

set_option Elab.async false
set_option linter.all false
set_option maxRecDepth 100000
set_option maxHeartbeats 4000000
namespace Ev
open PySem PySem.Spec PyProof.Rows L2 Wf TL
/-! # operators by an instance's own defs -/
section
open PySem.W
variable {prog : Program} {w : World} {A : Around} {E : Value → Shared → Prop} {s : Shared} {K : PySem.W.Frag} {x C L f : Addr} {h₀ : Heap} {m : Str → Option Value} {ox : Obj} {od : Option Obj} {b tb : Value}
theorem neSlot : Slot "object" "__ne__" "object.__ne__" := Slot.of (T := "object") (name := "__ne__") (owner := "object") (n := "__ne__") (by rw [typeLookup_type, builtinLookup_eq_fast]; kernel_rfl) (by decide +kernel) (by decide +kernel) (by decide +kernel)
    (.inl (by decide +kernel)) (by rw [isSubtype_type]; kernel_rfl)
theorem ne_K {Q : Value → Shared → Prop} (hu : A.units + 1 < cLine) (Fx : Fr h₀ L s.heap m) (X₀ : K.In h₀) (I : InstAt s.heap x ox C od) (hb : Looks (model prog w) s.heap (typeOf b) tb) (hn : notFirst K C tb = true)
    (hs : findIn K (.ref C) "__eq__" = some (some (.ref f))) (hf : isFn K (.ref f) = true) (hne : findIn K (.ref C) "__ne__" = some (some (.builtin "object.__ne__"))) (hsub : subIn K (.ref C) (.type "object") = some true)
    (h : wpAny (model prog w) A.in1 (call (.ref f) [.ref x, b]) (fun v s' => ∃ r, v = .bool r ∧ Q (.bool (!r)) s') E s) : wpAny (model prog w) A (richCompare .NotEq (.ref x) b) Q E s := by
  have X := X₀.keeps Fx.keep
  have body : wpAny (model prog w) A.in1 (Builtin.«object.__ne__» ⟨[.ref x, b], []⟩) (fun fin s' => match fin with | .done (.ret v) => (∃ r, v = .bool r ∧ Q (.bool r) s') | _ => False) E s := by
    unfold Builtin.«object.__ne__»
    repeat (first
      | with_reducible refine wpAny_cRoomFor (A := A.in1) hu ?_
      | (refine wpAny_bind (m := callSpecialIfBound? (.ref x) (Str.ofString "__eq__") [b])
          (ifBound_K X I hs hf (wpAny_mono h (fun r s' hr => by
            obtain ⟨q, rfl, hq⟩ := hr
            repeat (first | exact ⟨_, rfl, hq⟩ | exact wpAny_pure ⟨_, rfl, hq⟩ | exact wpAny_truthy_bool ⟨_, rfl, hq⟩ | (refine wpAny_bind (m := truthy (.bool _)) (wpAny_truthy_bool ?_)) | wp_step)) fun _ _ e => e)))
      | wp_step)
  have hi : Looks (model prog w) s.heap (isInstance (.ref x) (.type "object")) true := I.type.andThen (looks_subIn X hsub)
  have cal : wpAny (model prog w) A (call (.builtin "object.__ne__") [.ref x, b]) (fun v s' => ∃ r, v = .bool r ∧ Q (.bool r) s') E s :=
    wpAny_call (codeAny_call_builtin neSlot.plain PySem.F.cmpEntry_ne (check_slot PySem.F.cmpKind_ne PySem.F.cmpSplit_ne hi (PySem.F.cmpArgs_ne _ _) (wpAny_mono body (fun fin s' z => by
      cases fin with
      | done fl => cases fl <;> first | exact z | exact z.elim
      | again _ => exact z.elim) fun _ _ e => e)))
  have one : wpAny (model prog w) A (tryCompare (.ref x) "__ne__" b) (fun r s' => ∃ v, r = some v ∧ Q v s') E s := by
    have back : ∀ v s', (∃ r, v = Value.bool r ∧ Q (.bool r) s') → wpAny (model prog w) A (pure (some v) : Sem (Option Value)) (fun r s' => ∃ v, r = some v ∧ (v ≠ .notImplemented) ∧ Q v s') E s' := by
      rintro v s' ⟨r, rfl, q⟩
      exact wpAny_pure ⟨_, rfl, (fun z => nomatch z), q⟩
    unfold tryCompare
    refine wpAny_bind (m := callSpecialIfBound? (.ref x) (Str.ofString "__ne__") [b]) (wpAny_mono (Q := fun r s' => ∃ v, r = some v ∧ (v ≠ .notImplemented) ∧ Q v s') ?_ (fun r s' hr => ?_) fun _ _ e => e)
    · simp only [callSpecialIfBound?, bindSpecialIfBound?]
      refine wpAny_holding (wpAny_bind (wpAny_bind (wpAny_bind (I.type.here ((looks_findIn X hne).here ?_)))))
      refine wpAny_bind (wpAny_askSetting (wpAny_ite ?_))
      have fin : wpAny (model prog w) A (call (.builtin "object.__ne__") ([.ref x] ++ [b]) >>= fun v => pure (some v)) (fun r s' => ∃ v, r = some v ∧ (v ≠ .notImplemented) ∧ Q v s') E s := wpAny_bind (wpAny_mono cal (fun v s' h' => back v s' h') fun _ _ h' => h')
      rw [neSlot.bind]
      split
      · exact wpAny_bind (wpAny_pure (wpAny_pure (by exact fin)))
      · exact wpAny_tryCatch (wpAny_bind (wpAny_pure (wpAny_pure (by exact fin))))
    · obtain ⟨v, rfl, hv, q⟩ := hr
      cases v <;> first | exact absurd rfl hv | exact wpAny_pure ⟨_, rfl, q⟩
  unfold richCompare
  simp only [oneThing_ref]
  refine wpAny_holding (wpAny_bind (wpAny_cRoomFor (Nat.lt_of_succ_lt hu) ?_))
  refine wpAny_bind (I.type.here (wpAny_bind (hb.here ?_)))
  split
  · rename_i q
    have e : subIn K tb (.ref C) = some false := by
      rcases Bool.or_eq_true_iff.mp hn with e | e
      · rw [beq_iff_eq.mp e] at q; simp at q
      · exact beq_iff_eq.mp e
    refine wpAny_bind ((looks_subIn X e).here ?_)
    simp only [Bool.false_eq_true, if_false]
    refine wpAny_bind (wpAny_mono one (fun r s' z => ?_) fun _ _ e => e)
    obtain ⟨v, rfl, hq⟩ := z
    exact wpAny_pure hq
  · refine wpAny_bind (wpAny_pure ?_)
    simp only [Bool.false_eq_true, if_false]
    refine wpAny_bind (wpAny_mono one (fun r s' z => ?_) fun _ _ e => e)
    obtain ⟨v, rfl, hq⟩ := z
    exact wpAny_pure hq
theorem in_K {Q : Bool → Shared → Prop} {v : Value} (Fx : Fr h₀ L s.heap m) (X₀ : K.In h₀) (I : InstAt s.heap x ox C od) (hs : findIn K (.ref C) "__contains__" = some (some (.ref f))) (hf : isFn K (.ref f) = true)
    (h : wpAny (model prog w) A (call (.ref f) [.ref x, v]) (fun r s' => ∃ b, r = .bool b ∧ Q b s') E s) : wpAny (model prog w) A (contains (.ref x) v) Q E s := by
  have X := X₀.keeps Fx.keep
  have sp : Looks (model prog w) s.heap (specialOf (.ref x) (Str.ofString "__contains__")) (some (.ref f)) := I.type.andThen (looks_findIn X hs)
  unfold contains
  refine wpAny_holding ?_
  show wpAny _ _ (specialOf (.ref x) (Str.ofString "__contains__") >>= _) _ _ _
  refine wpAny_bind (sp.here ?_)
  rw [if_neg (by simp)]
  have one : wpAny (model prog w) A (callSpecialUnlessNone? (.ref x) (Str.ofString "__contains__") [v] (do rule "in.none"; raiseError "TypeError" s!"'{← typeNameOf (.ref x)}' object is not a container")) (fun r s' => ∃ b, r = some (.bool b) ∧ Q b s') E s := by
    unfold callSpecialUnlessNone?
    refine wpAny_bind (sp.here ?_)
    refine wpAny_holding ?_
    refine wpAny_bind ((bind_fn X _ (beq_iff_eq.mp hf)).here ?_)
    dsimp only
    rw [if_neg (by simp)]
    refine wpAny_bind (wpAny_mono h (fun r s' hr => ?_) fun _ _ e => e)
    obtain ⟨b, rfl, q⟩ := hr
    exact wpAny_pure ⟨_, rfl, q⟩
  refine wpAny_bind (wpAny_mono one (fun r s' z => ?_) fun _ _ e => e)
  obtain ⟨b, rfl, q⟩ := z
  exact wpAny_truthy_bool q
end
/-! ## over the layer -/
section
variable {X : Cx} {pins : List (Addr × Obj)} {σ : L2.St} {H : Hp} {s : Shared}
theorem ty_look {M : Model} {x : V} {u t : Value} (I : Inv X pins σ H s) (rx : RelV x u) (ty : TyX X.K H x t) : PySem.W.Looks M s.heap (typeOf u) t := by
  have at' : ∀ {a : Addr} {o : Obj}, s.heap.get? a = some o → PySem.W.Looks M s.heap (typeOf (.ref a)) o.cls := fun h1 A Q E s k q => wpAny_typeOf_ref (k _ _ h1) q
  cases ty with
  | base b =>
    cases b with
    | non => cases (show u = Value.none from rx); exact PySem.W.Looks.of_pure rfl
    | bl y => cases (show u = Value.bool y from rx); exact PySem.W.Looks.of_pure rfl
    | int i => obtain ⟨t, q⟩ := (show ∃ t, u = Value.int i t from rx); cases q; exact PySem.W.Looks.of_pure rfl
    | str y => obtain ⟨t, q⟩ := (show ∃ t, u = Value.str y t from rx); cases q; exact PySem.W.Looks.of_pure rfl
    | flt y => obtain ⟨t, q⟩ := (show ∃ t, u = Value.float y t from rx); cases q; exact PySem.W.Looks.of_pure rfl
    | @lst a xs ea =>
      cases (show u = Value.ref a from rx)
      obtain ⟨_, _, n, _, h1⟩ := (show ObjOk X.prog X.w H s.heap a (.lst xs) from I.hok a _ ea)
      exact at' h1
    | @frz a ob xs ea =>
      cases (show u = Value.ref a from rx)
      obtain ⟨_, _, _, n, _, h1⟩ := (show ObjOk X.prog X.w H s.heap a (.frz ob (.lst xs)) from I.hok a _ ea)
      exact at' h1
    | @tup a xs ea =>
      cases (show u = Value.ref a from rx)
      obtain ⟨_, _, _, o, h1, h2, _⟩ := (show ObjOk X.prog X.w H s.heap a (.tup xs) from I.hok a _ ea)
      rw [← h2]; exact at' h1
    | @dK a kvs ea =>
      cases (show u = Value.ref a from rx)
      obtain ⟨_, _, vs, _, o, es, ep, h1, h2, _⟩ := (show ObjOk X.prog X.w H s.heap a (.dK kvs) from I.hok a _ ea)
      rw [← h2.1]; exact at' h1
    | @dT a kvs ea =>
      cases (show u = Value.ref a from rx)
      obtain ⟨_, _, xs, _, o, es, ep, h1, h2, _⟩ := (show ObjOk X.prog X.w H s.heap a (.dT kvs) from I.hok a _ ea)
      rw [← h2.1]; exact at' h1
    | @ins a C dx fs ea cl ha hn htk hm =>
      cases (show u = Value.ref a from rx)
      obtain ⟨mA, O, _⟩ := ins_get I.hok ea
      obtain ⟨od, J, _⟩ := O.look
      exact J.type
  | byt y => obtain ⟨t, q⟩ := (show ∃ t, u = Value.bytes y t from rx); cases q; exact PySem.W.Looks.of_pure rfl
  | @set a S n ea =>
    cases (show u = Value.ref a from rx)
    obtain ⟨o, _, _, _, e, ex, _⟩ := I.hok a _ ea
    rw [← ex.1]; exact at' e
  | @kList a o e c =>
    cases (show u = Value.ref a from rx)
    rw [← c]; exact at' (I.kIn a o e)
  | @kTuple a o e c =>
    cases (show u = Value.ref a from rx)
    rw [← c]; exact at' (I.kIn a o e)
  | @kDict a o e c =>
    cases (show u = Value.ref a from rx)
    rw [← c]; exact at' (I.kIn a o e)
  | @fTuple a ob xs ea =>
    cases (show u = Value.ref a from rx)
    obtain ⟨_, _, _, _, o, h1, h2, _⟩ := (show ObjOk X.prog X.w H s.heap a (.frz ob (.tup xs)) from I.hok a _ ea)
    rw [← h2]; exact at' h1
  | @fDict a ob kvs ea =>
    cases (show u = Value.ref a from rx)
    obtain ⟨_, _, _, vs, _, o, es, ep, h1, h2, _⟩ := (show ObjOk X.prog X.w H s.heap a (.frz ob (.dK kvs)) from I.hok a _ ea)
    rw [← h2.1]; exact at' h1
end
/-- a class with its own __eq__ at g -/
structure OwnQ (K : PySem.W.Frag) (C g : Addr) : Prop where
  eq : PySem.W.findIn K (.ref C) "__eq__" = some (some (.ref g))
  fn : PySem.W.isFn K (.ref g) = true
  ne : PySem.W.findIn K (.ref C) "__ne__" = some (some (.builtin "object.__ne__"))
  sub : PySem.W.subIn K (.ref C) (.type "object") = some true
def ownQB (K : PySem.W.Frag) (C g : Addr) : Bool := He.eqO (PySem.W.findIn K (.ref C) "__eq__") (some (some (.ref g))) && (PySem.W.isFn K (.ref g) && (He.eqO (PySem.W.findIn K (.ref C) "__ne__") (some (some (.builtin "object.__ne__"))) && decide (PySem.W.subIn K (.ref C) (.type "object") = some true)))
/-- a class with its own special def at g -/
structure OwnS (K : PySem.W.Frag) (C g : Addr) (f : Str) : Prop where
  at_ : PySem.W.findIn K (.ref C) f = some (some (.ref g))
  fn : PySem.W.isFn K (.ref g) = true
def ownSB (K : PySem.W.Frag) (C g : Addr) (f : Str) : Bool := He.eqO (PySem.W.findIn K (.ref C) f) (some (some (.ref g))) && PySem.W.isFn K (.ref g)
theorem ownSB_ok {K : PySem.W.Frag} {C g : Addr} {f : Str} (h : ownSB K C g f = true) : OwnS K C g f := by
  unfold ownSB at h
  rw [Bool.and_eq_true] at h
  exact ⟨He.eqO_ok h.1, h.2⟩
theorem ownQB_ok {K : PySem.W.Frag} {C g : Addr} (h : ownQB K C g = true) : OwnQ K C g := by
  unfold ownQB at h
  simp only [Bool.and_eq_true, decide_eq_true_eq] at h
  exact ⟨He.eqO_ok h.1, h.2.1, He.eqO_ok h.2.2.1, h.2.2.2⟩
theorem OkD.fnR {P : Program} {w : World} {K : PySem.W.Frag} {mg : Str → Option Value} {base : Heap} {CX : CXT} {k : Nat} {f : Addr} {ps : List Str} {sp : Sp} (D : OkD P w K mg base CX k f ps sp) : FnR P w K mg base CX k f sp := by
  obtain ⟨⟨fd, F, b, _⟩, _⟩ := D
  have := F.raw b (dvs := []) .nil
  exact this.imp fun vs H Q E h => by rw [List.append_nil]; exact h
def rOwnE (K : PySem.W.Frag) (C : Addr) (sp : Sp) (neg : Bool) : R2 := fun x y H Q => ∃ a dx fs t, x = .ref a ∧ H a = some (.ins C dx fs) ∧ TyX K H y t ∧ PySem.W.notFirst K C t = true ∧ sp [x, y] H (fun v H' => ∃ b, v = .bl b ∧ Q (.bl (if neg then !b else b)) H') E0
def rOwnIn (C : Addr) (sp : Sp) (neg : Bool) : R2 := fun y x H Q => ∃ a dx fs, x = .ref a ∧ H a = some (.ins C dx fs) ∧ sp [x, y] H (fun v H' => ∃ b, v = .bl b ∧ Q (.bl (if neg then !b else b)) H') E0
def rOwnLen (C : Addr) (sp : Sp) : List V → Hp → VK → Prop := fun xs H Q => ∃ a dx fs, xs = [.ref a] ∧ H a = some (.ins C dx fs) ∧ sp [.ref a] H (fun v H' => ∃ n : Nat, v = .int n ∧ n ≤ 1000000 ∧ Q v H') E0
section
variable {X : Cx} {CX : CXT} {C g : Addr} {n : Nat} {sp : Sp}
theorem op_ownEq (q : OwnQ X.K C g) (F : FnR X.prog X.w X.K X.mg X.base CX n g sp) (hr : Room n X.A) (hx : Passes CX X E0) : OpR X (compareOp .Eq) (rOwnE X.K C sp false) := by
  intro pins s σ H x y v u Q I rx ry h
  obtain ⟨a, dx, fs, t, rfl, ha, ty, hn, h⟩ := h
  cases (show v = Value.ref a from rx)
  obtain ⟨mA, J, _⟩ := ins_get I.hok ha
  obtain ⟨od, J, _⟩ := J.look
  obtain ⟨m, hF⟩ := I.fr
  show wpAny (model X.prog X.w) X.A (richCompare .Eq (.ref a) u) (EP X pins σ Q) X.xe s
  refine PySem.W.cmp_K (op := .Eq) (tb := t) hr.units0 hF I.ok.mod.kin J (ty_look I ry ty) hn q.eq q.fn ?_
  refine wpAny_mono (wpAny_call (run_fnR (us := [.ref a, u]) (vs := [.ref a, y]) F hr hx I (.cons rx (.cons ry .nil)) h)) (fun w s' z => ?_) fun _ _ x => x
  obtain ⟨z', H', I', rz, b, rfl, qz⟩ := z
  exact SlX.cmpback (P := EP X pins σ Q) rz ⟨_, H', I', rz, qz⟩
theorem op_ownNe (q : OwnQ X.K C g) (F : FnR X.prog X.w X.K X.mg X.base CX n g sp) (hr : Room (n + 1) X.A) (hx : Passes CX X E0) : OpR X (compareOp .NotEq) (rOwnE X.K C sp true) := by
  intro pins s σ H x y v u Q I rx ry h
  obtain ⟨a, dx, fs, t, rfl, ha, ty, hn, h⟩ := h
  cases (show v = Value.ref a from rx)
  obtain ⟨mA, J, _⟩ := ins_get I.hok ha
  obtain ⟨od, J, _⟩ := J.look
  obtain ⟨m, hF⟩ := I.fr
  show wpAny (model X.prog X.w) X.A (richCompare .NotEq (.ref a) u) (EP X pins σ Q) X.xe s
  have hr1 : Room n X.A.in1 := hr.in1
  refine ne_K (tb := t) hr1.units0 hF I.ok.mod.kin J (ty_look I ry ty) hn q.eq q.fn q.ne q.sub ?_
  refine wpAny_mono (wpAny_call (SlX.run_at (us := [.ref a, u]) (ws := [.ref a, y]) F hr1 I.env0.in1 hx I (.cons rx (.cons ry .nil)) h)) (fun w s' z => ?_) fun _ _ x => x
  obtain ⟨z', H', I', rz, b, rfl, qz⟩ := z
  cases (show w = Value.bool b from rz)
  exact ⟨b, rfl, .bl (!b), H', I', rfl, qz⟩
theorem op_ownIn (q : OwnS X.K C g "__contains__") (F : FnR X.prog X.w X.K X.mg X.base CX n g sp) (hr : Room n X.A) (hx : Passes CX X E0) : OpR X (compareOp .In) (rOwnIn C sp false) := by
  intro pins s σ H y x u v Q I ry rx h
  obtain ⟨a, dx, fs, rfl, ha, h⟩ := h
  cases (show v = Value.ref a from rx)
  obtain ⟨mA, J, _⟩ := ins_get I.hok ha
  obtain ⟨od, J, _⟩ := J.look
  obtain ⟨m, hF⟩ := I.fr
  show wpAny (model X.prog X.w) X.A (contains (.ref a) u >>= fun r => pure (.bool r)) (EP X pins σ Q) X.xe s
  refine wpAny_bind (in_K hF I.ok.mod.kin J q.at_ q.fn ?_)
  refine wpAny_mono (wpAny_call (run_fnR (us := [.ref a, u]) (vs := [.ref a, y]) F hr hx I (.cons rx (.cons ry .nil)) h)) (fun w s' z => ?_) fun _ _ x => x
  obtain ⟨z', H', I', rz, b, rfl, qz⟩ := z
  cases (show w = Value.bool b from rz)
  exact ⟨b, rfl, wpAny_pure ⟨.bl b, H', I', rfl, qz⟩⟩
theorem op_ownNotIn (q : OwnS X.K C g "__contains__") (F : FnR X.prog X.w X.K X.mg X.base CX n g sp) (hr : Room n X.A) (hx : Passes CX X E0) : OpR X (compareOp .NotIn) (rOwnIn C sp true) := by
  intro pins s σ H y x u v Q I ry rx h
  obtain ⟨a, dx, fs, rfl, ha, h⟩ := h
  cases (show v = Value.ref a from rx)
  obtain ⟨mA, J, _⟩ := ins_get I.hok ha
  obtain ⟨od, J, _⟩ := J.look
  obtain ⟨m, hF⟩ := I.fr
  show wpAny (model X.prog X.w) X.A (contains (.ref a) u >>= fun r => pure (.bool (!r))) (EP X pins σ Q) X.xe s
  refine wpAny_bind (in_K hF I.ok.mod.kin J q.at_ q.fn ?_)
  refine wpAny_mono (wpAny_call (run_fnR (us := [.ref a, u]) (vs := [.ref a, y]) F hr hx I (.cons rx (.cons ry .nil)) h)) (fun w s' z => ?_) fun _ _ x => x
  obtain ⟨z', H', I', rz, b, rfl, qz⟩ := z
  cases (show w = Value.bool b from rz)
  exact ⟨b, rfl, wpAny_pure ⟨.bl (!b), H', I', rfl, qz⟩⟩
theorem call_ownLen (q : OwnS X.K C g "__len__") (F : FnR X.prog X.w X.K X.mg X.base CX n g sp) (hr : Room (n + 1) X.A) (hx : Passes CX X E0) : CallR X (.builtin "len") (rOwnLen C sp) := by
  intro pins s σ H xs us Q I r h
  obtain ⟨a, dx, fs, rfl, ha, h⟩ := h
  obtain ⟨u, rfl, ru⟩ := r.one
  cases (show u = Value.ref a from ru)
  obtain ⟨mA, J, _⟩ := ins_get I.hok ha
  obtain ⟨od, J, _⟩ := J.look
  obtain ⟨m, hF⟩ := I.fr
  refine PySem.W.len_K hF I.ok.mod.kin J q.at_ q.fn ?_
  refine wpAny_mono (wpAny_call (SlX.run_at (us := [.ref a]) (ws := [.ref a]) F hr.in1 I.env0.in1 hx I (.cons rfl .nil) h)) (fun w s' z => ?_) fun _ _ x => x
  obtain ⟨z', H', I', rz, k, rfl, hk, qz⟩ := z
  obtain ⟨t, rfl⟩ := rz
  exact ⟨⟨by omega, by omega⟩, ⟨.int k, H', I'.tok _, ⟨_, rfl⟩, qz⟩⟩
end
end Ev

set_option Elab.async false
set_option linter.all false
set_option maxRecDepth 100000
set_option maxHeartbeats 4000000
namespace Ev
open PySem PySem.Spec PyProof.Rows L2 Wf TL
/-! # the evaluators of own operators -/
def tagIn (cs : List Nm) (o : Option (Ty ⊕ Nm)) : Bool := match o with
  | some (.inl t) => decide (t ∈ plainTys)
  | some (.inr C) => decide (C ∈ cs)
  | none => false
/-- the class's __eq__, and that no other class goes ahead of it -/
structure OwnQX (K : PySem.W.Frag) (cs : List Nm) (C g : Addr) : Prop where
  q : OwnQ K C g
  nt : ∀ t ∈ plainTys, PySem.W.notFirst K C (.type t.s) = true
  nc : ∀ D ∈ cs, PySem.W.notFirst K C (.ref (He.ga K (mk D))) = true
def ownQXB (K : PySem.W.Frag) (cs : List Nm) (C g : Addr) : Bool := ownQB K C g && ((plainTys.all fun t => PySem.W.notFirst K C (.type t.s)) && cs.all fun D => PySem.W.notFirst K C (.ref (He.ga K (mk D))))
theorem ownQXB_ok {K : PySem.W.Frag} {cs : List Nm} {C g : Addr} (h : ownQXB K cs C g = true) : OwnQX K cs C g := by
  unfold ownQXB at h
  simp only [Bool.and_eq_true] at h
  exact ⟨ownQB_ok h.1, List.all_eq_true.mp h.2.1, List.all_eq_true.mp h.2.2⟩
/-- an answer that is a bool -/
def boN (neg : Bool) : Out W → Out W
  | .ok (.bl b) c => .ok (.bl (if neg then !b else b)) c
  | _ => .bad
def naN : Out W → Out W
  | .ok (.int i) c => if 0 ≤ i ∧ i ≤ 1000000 then .ok (.int i) c else .bad
  | _ => .bad
def oOwnE (cs : List Nm) (C : Nm) (f : Fn) (neg : Bool) (g : W → W → Conf → Out W) : W → W → Conf → Out W := fun x y c => match insW c x with
  | some (C', _) => if C' = C then (if tagIn cs (tyTag c y) = true then boN neg (f [x, y] c) else .bad) else g x y c
  | none => g x y c
def oOwnIn (C : Nm) (f : Fn) (neg : Bool) (g : W → W → Conf → Out W) : W → W → Conf → Out W := fun x y c => match insW c y with
  | some (C', _) => if C' = C then boN neg (f [y, x] c) else g x y c
  | none => g x y c
def oOwnLen (C : Nm) (f : Fn) (g : List W → Conf → Out W) : List W → Conf → Out W := fun xs c => match xs with
  | [x] => (match insW c x with
    | some (C', _) => if C' = C then naN (f [x] c) else g xs c
    | none => g xs c)
  | _ => g xs c
def kOr2 (r r' : R2) : R2 := fun x y H Q => r x y H Q ∨ r' x y H Q
def kOrL (r r' : List V → Hp → VK → Prop) : List V → Hp → VK → Prop := fun xs H Q => r xs H Q ∨ r' xs H Q
theorem op_alt {X : Cx} {op : Value → Value → Sem Value} {r r' : R2} (h : OpR X op r) (h' : OpR X op r') : OpR X op (kOr2 r r') := fun pins s σ H x y v u Q I rx ry q => q.elim (h pins s σ H x y v u Q I rx ry) (h' pins s σ H x y v u Q I rx ry)
theorem cr_or {X : Cx} {f : Value} {r r' : List V → Hp → VK → Prop} (h : CallR X f r) (h' : CallR X f r') : CallR X f (kOrL r r') := fun pins s σ H xs us Q I rx q => q.elim (h pins s σ H xs us Q I rx) (h' pins s σ H xs us Q I rx)
section
variable {K : PySem.W.Frag} {cs : List Nm} {xs : List (Nm × List Ty)} {C : Nm} {Cs : Str} {f : Fn} {neg : Bool} {r : R2} {rl : List V → Hp → VK → Prop} {g : W → W → Conf → Out W} {gl : List W → Conf → Out W} {ga : Addr}
theorem boN_ok {w : Wd} {Ex : Value → Option Addr → Hp → Prop} {Q : VK} {o : Out W} (h : OR K (Vr K) w Ex Q (boN neg o)) : OR K (Vr K) w (fun _ _ _ => False) (fun v H => ∃ b, v = V.bl b ∧ Q (.bl (if neg then !b else b)) H) o := by
  cases o with
  | ok x c =>
    cases x <;> first | exact h.elim | skip
    intro w' H' v l rel rv
    cases (show v = _ from rv)
    exact ⟨_, rfl, h w' H' _ l rel rfl⟩
  | exc x c => exact h.elim
  | bad => exact h
theorem naN_ok {w : Wd} {Ex : Value → Option Addr → Hp → Prop} {Q : VK} {o : Out W} (h : OR K (Vr K) w Ex Q (naN o)) : OR K (Vr K) w (fun _ _ _ => False) (fun v H => ∃ n : Nat, v = V.int n ∧ n ≤ 1000000 ∧ Q v H) o := by
  cases o with
  | ok x c =>
    cases x <;> first | exact h.elim | skip
    rename_i i
    obtain ⟨⟨h1, h2⟩, h⟩ := ite_ok h
    intro w' H' v l rel rv
    cases (show v = _ from rv)
    exact ⟨i.toNat, by rw [show ((i.toNat : Nat) : Int) = i by omega], by omega, h w' H' _ l rel rfl⟩
  | exc x c => exact h.elim
  | bad => exact h
theorem s_ownE (T : Kt cs xs K) (hC : mk C = Cs) (q : OwnQX K cs (He.ga K Cs) ga) (s : OpS K r g) : OpS K (kOr2 (rOwnE K (He.ga K Cs) (spE K f) neg) r) (oOwnE cs C f neg g) := by
  subst hC
  intro w c H x y vx vy Ex Q rel rx ry h
  unfold oOwnE at h
  split at h
  · rename_i C' fs e
    split at h
    · rename_i eC
      subst eC
      obtain ⟨ht, h⟩ := ite_ok h
      obtain ⟨a, dx, vs, rfl, ha, _⟩ := insW_ok rel rx e
      refine .inl ?_
      cases et : tyTag c y with
      | none => rw [et] at ht; cases ht
      | some t =>
        rw [et] at ht
        have hc : ∀ D, t = .inr D → D ∈ cs := by rintro D rfl; exact of_decide_eq_true ht
        refine ⟨a, dx, vs, tagV K t, rfl, ha, tyTag_ok T rel ry et hc, ?_, w, c, [x, y], rel, ⟨_, _, rfl, rx, VrL.one ry⟩, boN_ok h⟩
        cases t with
        | inl t => exact q.nt t (of_decide_eq_true ht)
        | inr D => exact q.nc D (hc D rfl)
    · exact .inr (s w c H x y vx vy Ex Q rel rx ry h)
  · exact .inr (s w c H x y vx vy Ex Q rel rx ry h)
theorem s_ownIn (hC : mk C = Cs) (s : OpS K r g) : OpS K (kOr2 (rOwnIn (He.ga K Cs) (spE K f) neg) r) (oOwnIn C f neg g) := by
  subst hC
  intro w c H x y vx vy Ex Q rel rx ry h
  unfold oOwnIn at h
  split at h
  · rename_i C' fs e
    split at h
    · rename_i eC
      subst eC
      obtain ⟨a, dx, vs, rfl, ha, _⟩ := insW_ok rel ry e
      exact .inl ⟨a, dx, vs, rfl, ha, w, c, [y, x], rel, ⟨_, _, rfl, ry, VrL.one rx⟩, boN_ok h⟩
    · exact .inr (s w c H x y vx vy Ex Q rel rx ry h)
  · exact .inr (s w c H x y vx vy Ex Q rel rx ry h)
theorem s_ownLen (hC : mk C = Cs) (s : CallS K rl gl) : CallS K (kOrL (rOwnLen (He.ga K Cs) (spE K f)) rl) (oOwnLen C f gl) := by
  subst hC
  intro w c H ys vs Ex Q rel rx h
  unfold oOwnLen at h
  split at h
  · rename_i x
    split at h
    · rename_i C' fs e
      split at h
      · rename_i eC
        subst eC
        obtain ⟨v, rfl, r1⟩ := rx.inv1
        obtain ⟨a, dx, us, rfl, ha, _⟩ := insW_ok rel r1 e
        exact .inl ⟨a, dx, us, rfl, ha, w, c, [x], rel, VrL.one r1, naN_ok h⟩
      · exact .inr (s w c H _ vs Ex Q rel rx h)
    · exact .inr (s w c H _ vs Ex Q rel rx h)
  · exact .inr (s w c H _ vs Ex Q rel rx h)
end
/-! # is, is not of bools; slices of any kind -/
def oIsB (neg : Bool) (g : W → W → Conf → Out W) : W → W → Conf → Out W := fun x y c => match x, y with
  | .bl a, .bl b => .ok (.bl (if neg then !decide (a = b) else decide (a = b))) c
  | _, _ => g x y c
def oIsA : W → W → Conf → Out W := oIsB false oIsN
def oNotA : W → W → Conf → Out W := oIsB true oNotN
def rSlU (K : PySem.W.Frag) : V → Option Int → Option Int → Hp → VK → Prop := fun x lo hi H Q => rSlS x lo hi H Q ∨ rSlA K x lo hi H Q ∨ rSlL K x lo hi H Q
def oSlU : W → Option Int → Option Int → Conf → Out W := fun x l u c => match x with
  | .str _ => oSlS x l u c
  | .tup _ => oSlTA x l u c
  | .wtp _ => oSlTA x l u c
  | _ => oSlL x l u c
section
variable {X : Cx} {K : PySem.W.Frag}
theorem sl_U : L2.SlR X (rSlU X.K) := fun pins s σ H x v vl vu lo hi sl Q I rx hs pl pu h => by
  rcases h with h | h | h
  · exact sl_str pins s σ H x v vl vu lo hi sl Q I rx hs pl pu h
  · exact sl_tupA pins s σ H x v vl vu lo hi sl Q I rx hs pl pu h
  · exact sl_list pins s σ H x v vl vu lo hi sl Q I rx hs pl pu h
theorem s_slU : SlS K (rSlU K) oSlU := by
  intro w c H x vx l u Ex Q rel rx h
  unfold oSlU at h
  split at h
  · exact .inl (s_slS w c H _ vx l u Ex Q rel rx h)
  · exact .inr (.inl (s_slTA w c H _ vx l u Ex Q rel rx h))
  · exact .inr (.inl (s_slTA w c H _ vx l u Ex Q rel rx h))
  · exact .inr (.inr (s_slL w c H x vx l u Ex Q rel rx h))
theorem op_isA : OpR X (compareOp .Is) (kOr2 rIsB rIsN) := op_alt op_isBl op_isN1
theorem op_notA : OpR X (compareOp .IsNot) (kOr2 rNotB rNotN) := op_alt op_notBl op_notN1
theorem s_isA : OpS K (kOr2 rIsB rIsN) oIsA := by
  intro w c H x y vx vy Ex Q rel rx ry h
  unfold oIsA oIsB at h
  split at h
  · cases (show vx = _ from rx); cases (show vy = _ from ry)
    exact .inl ⟨_, _, rfl, rfl, h.ok (Wd.Le.refl w) rel rfl⟩
  · exact .inr (s_isN w c H x y vx vy Ex Q rel rx ry h)
theorem s_notA : OpS K (kOr2 rNotB rNotN) oNotA := by
  intro w c H x y vx vy Ex Q rel rx ry h
  unfold oNotA oIsB at h
  split at h
  · cases (show vx = _ from rx); cases (show vy = _ from ry)
    exact .inl ⟨_, _, rfl, rfl, h.ok (Wd.Le.refl w) rel rfl⟩
  · exact .inr (s_notN w c H x y vx vy Ex Q rel rx ry h)
end
/-! # list of a dict -/
def oListA : List W → Conf → Out W := fun xs c => match xs with
  | [.ref i] => (match c[i]? with
    | some (.dic kvs) => .ok (.lst (dkeys kvs)) c
    | _ => oList xs c)
  | _ => oList xs c
theorem vr_keys {K : PySem.W.Frag} {w : Wd} : ∀ {kvs : List (Ky × W)} {us : List (Key × V)}, us.map (·.1) = kvs.map (fun p => ky p.1) → VrL K w (dkeys kvs) (us.map fun kv => kV kv.1)
  | [], us, h => by
    have : us = [] := by simpa using h
    subst this; rfl
  | (k, x) :: kvs, us, h => by
    cases us with
    | nil => simp at h
    | cons u us =>
      simp only [List.map_cons, List.cons.injEq] at h
      refine ⟨kV u.1, us.map fun kv => kV kv.1, rfl, ?_, vr_keys h.2⟩
      rw [h.1]
      cases k with
      | i n => rfl
      | s x => rfl
theorem cr_listA {X : Cx} (hc : X.calm = true) : CallR X (.type "list") (kOrL rListD (kList X.K)) := cr_or (call_list_dK hc) ok_list
theorem s_listA {K : PySem.W.Frag} : CallS K (kOrL rListD (kList K)) oListA := by
  intro w c H xs vs Ex Q rel r h
  unfold oListA at h
  split at h
  · rename_i i
    split at h
    · rename_i kvs hc
      obtain ⟨v, rfl, rx⟩ := r.inv1
      obtain ⟨_, rfl⟩ := rx
      obtain ⟨ho, h1, _, _, us, e2, q⟩ := rel.obj i _ hc rfl
      subst e2
      exact .inl ⟨_, us, rfl, h1, fun l hl => new_lst rel (vr_keys q.1) h l hl⟩
    · exact .inr (s_list w c H _ vs Ex Q rel r h)
  · exact .inr (s_list w c H xs vs Ex Q rel r h)
/-! # enumerate over a list that may change -/
def goForER (k : Nat) (p : Pat) (b : Es) : Nat → Nat → Sl → Conf → So
  | 0, _, _, _ => .bad
  | n + 1, i, ss, c => (match c[k]? with
    | some (.lst ys) => (match ys[i]? with
      | some y => (match wPat p (.tup [.int (i : Nat), y]) ss with | some ss1 => (b ss1 c).turn (goForER k p b n (i + 1)) | none => .bad)
      | none => .ok (.nx ss) c)
    | _ => .bad)
def sForEA (a : Ea) (p : Pat) (b : Es) : Es := fun ss c => match a ss c with
  | .ok [.ref k] c1 => goForER k p b (lenR k c1) 0 ss c1
  | _ => sForE a p b ss c
section
variable {K : PySem.W.Frag} {X : Xx} {p : Pat} {b : Es} {aa : Ea}
theorem for_baseER {w0 : Wd} {c : Conf} {ss : Sl} {σ : L2.St} {H : Hp} {D : Ends} {k n : Nat} (hk : k < w0.n) (rel : Rel K w0 c H) (sr : SR K X.s w0 ss σ) (h : SO K w0 X D (goForER k p b n 0 ss c)) :
    ∃ W : Nat → Nat → L2.St → Hp → Prop, (∃ m, W 0 m σ H) ∧ ∀ i m σ H, W i m σ H →
      ((Ite K (w0.φ k)).stop i H ∧ D.nx σ H) ∨ ((Ite K (w0.φ k)).go i H ∧ ∃ N : L2.St → Hp → Prop, (∀ σ' H', N σ' H' → ∃ m', m' < m ∧ W (i + 1) m' σ' H') ∧ ∀ x H', (Ite K (w0.φ k)).yld i H x H' → gPat K p x σ H' fun σ2 H2 => tS K X b { D with nx := N, ct := N, bk := D.nx } σ2 H2) := by
  refine ⟨fun i m σ' H' => ∃ w' c' ss', w0.Le w' ∧ Rel K w' c' H' ∧ SR K X.s w' ss' σ' ∧ SO K w' X D (goForER k p b m i ss' c'), ⟨n, w0, c, ss, Wd.Le.refl _, rel, sr, h⟩, ?_⟩
  rintro i m σ' H' ⟨w', c', ss', l', rel', sr', h'⟩
  cases m with
  | zero => exact h'.elim
  | succ m =>
    simp only [goForER] at h'
    cases hc : c'[k]? with
    | none => rw [hc] at h'; exact h'.elim
    | some ob =>
      rw [hc] at h'
      cases ob <;> first | exact h'.elim | skip
      rename_i ys
      obtain ⟨ho, h1, _, _, vs, e2, r⟩ := rel'.obj k _ hc rfl
      subst e2
      have fk : w'.φ k = w0.φ k := l'.φ k hk
      rw [fk] at h1
      simp only at h'
      cases hy : ys[i]? with
      | none =>
        rw [hy] at h'
        refine .inl ⟨⟨vs, SqL.of h1, ?_⟩, h' w' H' σ' (Wd.Le.refl w') rel' sr'⟩
        rw [r.length]; exact List.getElem?_eq_none_iff.mp hy
      | some y =>
        rw [hy] at h'
        simp only at h'
        obtain ⟨v, hv, rv⟩ := r.get hy
        refine .inr ⟨⟨vs, v, SqL.of h1, hv⟩, fun σ2 H2 => ∃ w2 c2 ss2, w0.Le w2 ∧ Rel K w2 c2 H2 ∧ SR K X.s w2 ss2 σ2 ∧ SO K w2 X D (goForER k p b m (i + 1) ss2 c2), fun σ2 H2 q => ⟨m, Nat.lt_succ_self m, q⟩, ?_⟩
        rintro v2 H2 ⟨T, z, e1, e2, e3, q⟩
        subst e1 e3
        have := q vs (SqL.of h1)
        rw [hv] at this
        cases this
        obtain ⟨le, rel2⟩ := rel'.frz1 e2 (.tup [.int (i : Nat), v])
        have rt : Vr K (w'.frz T (.tup [.int (i : Nat), v])) (.tup [.int (i : Nat), y]) (.ref T) := ⟨T, _, rfl, upd_same, _, _, rfl, rfl, _, _, rfl, rv.mono le.v, rfl⟩
        cases e : wPat p (.tup [.int (i : Nat), y]) ss' with
        | none => rw [e] at h'; exact h'.elim
        | some ss1 =>
          rw [e] at h'
          refine pat_ok rel2.k0 p _ (.ref T) ss' ss1 σ' _ rt (sr'.mono le.v) e fun σ3 sr3 _ => ⟨_, c', ss1, rel2, sr3, ((SO.turn h').mono le).imp ?_ (fun _ _ h => h) (fun _ _ h => h) ?_⟩
          · rintro σ4 H4 ⟨w4, c4, ss4, l4, rel4, sr4, h4⟩
            exact ⟨w4, c4, ss4, (l'.trans l4), rel4, sr4, h4⟩
          · rintro σ4 H4 ⟨w4, c4, ss4, l4, rel4, sr4, h4⟩
            exact ⟨w4, c4, ss4, (l'.trans l4), rel4, sr4, h4⟩
theorem le_forEA (D : Ends) (σ : L2.St) (H : Hp) (h : tS K X (sForEA aa p b) D σ H) : tFor (iEnum K (tA K X aa)) (gPat K p) (tS K X b) D σ H := by
  obtain ⟨w, c, ss, rel, sr, h⟩ := h
  unfold sForEA at h
  split at h
  · rename_i k c1 e
    refine ⟨w, c, ss, rel, sr, ?_⟩
    rw [e]
    intro w1 H1 v1 l1 rel1 r1
    obtain ⟨v, rfl, rx⟩ := VrL.inv1 r1
    obtain ⟨hk, rfl⟩ := rx
    have h1 := SO.mono l1 h
    have hl : ∃ xs, c1[k]? = some (.lst xs) := by
      cases hc : c1[k]? with
      | none => simp only [lenR, hc] at h1; exact h1.elim
      | some ob => cases ob <;> first | exact ⟨_, rfl⟩ | (simp only [lenR, hc] at h1; exact h1.elim)
    obtain ⟨xs, hc⟩ := hl
    obtain ⟨ho, h2, _, _, vs, e2, r⟩ := rel1.obj k _ hc rfl
    subst e2
    exact ⟨_, vs, rfl, SqL.of h2, for_baseER hk rel1 (sr.mono l1.v) h1⟩
  · exact le_forE D σ H ⟨w, c, ss, rel, sr, h⟩
end
/-! # a, b, c = x, y, z -/
def sPar3 (i j l : Nat) (a : Ea) : Es := fun ss c => So.lift ss (a ss c) fun xs c1 => match xs with | [x, y, z] => .ok (.nx (((ss.set i (some x)).set j (some y)).set l (some z))) c1 | _ => .bad
theorem le_par3 {K : PySem.W.Frag} {X : Xx} {aa : Ea} {i j l : Nat} (D : Ends) (σ : L2.St) (H : Hp) (h : tS K X (sPar3 i j l aa) D σ H) : tPar3 i j l (tA K X aa) D σ H := by
  obtain ⟨w, c, ss, rel, sr, h⟩ := h
  refine ⟨w, c, ss, rel, sr, (SO.lift (R := VrL K) h sr).imp ?_⟩
  rintro v1 H1 ⟨w1, x, c1, l1, rel1, r1, h1⟩
  split at h1
  · obtain ⟨v, r, rfl, rx, r1⟩ := r1
    obtain ⟨u, t, rfl, ry, rz⟩ := VrL.inv2 r1
    exact ⟨v, u, t, rfl, h1 w1 H1 _ (Wd.Le.refl w1) rel1 ((((sr.mono l1.v).set rx i).set ry j).set rz l)⟩
  · exact h1.elim
/-! ### a statement that the law never reaches -/
def sBad : Es := fun _ _ => .bad
theorem ps_bad {X : Cx} {Y : Xx} {K : PySem.W.Frag} {s : Stmt} : PS X s (tS K Y sBad) := ⟨fun _ _ _ _ D _ h => by
  obtain ⟨w, c, ss, _, _, h⟩ := h
  exact h.elim⟩
end Ev

set_option Elab.async false
set_option linter.all false
set_option maxRecDepth 100000
set_option maxHeartbeats 4000000
namespace Ev
open PySem PySem.Spec PyProof.Rows L2 Wf TL
/-! # split, extend, pop, setdefault -/
def oSplit : W → List W → Conf → Out W := fun x xs c => match x, xs with
  | .str a, [.str b] => if a.length ≤ 1000000 ∧ b.isEmpty = false ∧ b.all (· < 256) = true then .ok (.lst ((TL.spl b 0 [] a).map .str)) c else .bad
  | _, _ => .bad
def oExtend : W → List W → Conf → Out W := fun x xs c => match x, xs with
  | .ref i, [y] => (match c[i]? with
    | some (.lst ys) => (match rdH c y with
      | some zs => if ys.length + zs.length ≤ 1000000 then .ok .non (c.set i (.lst (ys ++ zs))) else .bad
      | none => .bad)
    | _ => .bad)
  | _, _ => .bad
def oPop : W → List W → Conf → Out W := fun x xs c => match x, xs with
  | .ref i, [] => (match c[i]? with
    | some (.lst ys) => (match ys[ys.length - 1]? with
      | some z => .ok z (c.set i (.lst ys.dropLast))
      | none => .bad)
    | _ => .bad)
  | _, _ => .bad
def eDSet (ed ey ez : Ee) : Ee := fun ss c => (ed ss c).bind fun x c1 => if isD2 c1 x = true then (ey ss c1).bind fun y c2 => (ez ss c2).bind fun z c3 => (match x with
  | .ref i => (match c3[i]? with
    | some (.dic kvs) => (match toKy y with
      | some k => if kvs.length ≤ 1000000 then (match lkp kvs k with
        | some v => .ok v c3
        | none => .ok z (c3.set i (.dic (putD kvs k z)))) else .bad
      | none => .bad)
    | _ => .bad)
  | _ => .bad) else .bad
section
variable {K : PySem.W.Frag} {X : Xx}
theorem vrl_strs {w : Wd} : ∀ ps : List (List Nat), VrL K w (ps.map W.str) ((ps.map mk).map V.str)
  | [] => rfl
  | p :: ps => ⟨_, _, rfl, rfl, vrl_strs ps⟩
theorem s_split : MtS K (fun x xs H Q => ∃ a b, x = .str a ∧ xs = [.str b] ∧ (b.length == 0) = false ∧ a.length + 2 ≤ sizeLine ∧ rNewStrs (Txt.split a b) H Q) oSplit := by
  intro w c H x xs vx vs Ex Q rel rx r h
  unfold oSplit at h
  split at h
  · rename_i a b
    obtain ⟨v, rfl, ry⟩ := VrL.inv1 r
    cases (show _ = _ from rx); cases (show _ = _ from ry)
    obtain ⟨⟨h1, h2, h3⟩, h⟩ := ite_ok h
    have hb : b ≠ [] := by rintro rfl; cases h2
    refine ⟨_, _, rfl, rfl, ?_, ?_, fun p hp => ?_⟩
    · rw [mk_len]
      cases b with
      | nil => exact absurd rfl hb
      | cons n b => rfl
    · rw [mk_len]; exact Nat.le_trans (Nat.add_le_add_right h1 2) (by decide)
    · rw [show Txt.split (mk a) (mk b) = (TL.spl b 0 [] a).map mk from SX.split_S hb h3]
      exact new_lst rel (vrl_strs _) h p hp
  · exact h.elim
theorem s_extend : MtS K rExtend oExtend := by
  intro w c H x xs vx vs Ex Q rel rx r h
  unfold oExtend at h
  split at h
  · rename_i i y
    obtain ⟨v, rfl, ry⟩ := VrL.inv1 r
    cases hc : c[i]? with
    | none => rw [hc] at h; exact h.elim
    | some ob =>
      rw [hc] at h
      cases ob <;> first | exact h.elim | skip
      simp only at h
      split at h
      · rename_i zs hz
        obtain ⟨hl, h⟩ := ite_ok h
        obtain ⟨ho, h1, _, _, us, e2, q⟩ := rel.obj i _ hc rfl
        subst e2
        obtain ⟨b, ws, eb, hb, rb⟩ := rdH_ok rel ry hz
        subst eb
        exact ⟨_, b, us, ws, rx.2, rfl, h1, hb, by rw [q.length, rb.length]; exact len_le hl, h.ok (Wd.Le.refl w) (rel.put hc ⟨_, rfl, q.app rb⟩) rfl⟩
      · exact h.elim
  · exact h.elim
theorem VrL.dropL {w : Wd} : ∀ {xs : List W} {vs : List V}, VrL K w xs vs → VrL K w xs.dropLast vs.dropLast
  | xs, vs, h => by
    rw [List.dropLast_eq_take, List.dropLast_eq_take, h.length]
    exact VrL.take _ h
theorem s_pop : MtS K rPop oPop := by
  intro w c H x xs vx vs Ex Q rel rx r h
  unfold oPop at h
  split at h
  · rename_i i
    cases (show vs = [] from r)
    cases hc : c[i]? with
    | none => rw [hc] at h; exact h.elim
    | some ob =>
      rw [hc] at h
      cases ob <;> first | exact h.elim | skip
      simp only at h
      split at h
      · rename_i z hz
        obtain ⟨ho, h1, _, _, us, e2, q⟩ := rel.obj i _ hc rfl
        subst e2
        obtain ⟨v, hv, rv⟩ := q.get hz
        exact ⟨_, us, v, rx.2, rfl, h1, by rw [q.length]; exact hv, h.ok (Wd.Le.refl w) (rel.put hc ⟨_, rfl, q.dropL⟩) rv⟩
      · exact h.elim
  · exact h.elim
theorem le_dsetd {ed ey ez : Ee} (σ : L2.St) (H : Hp) (Q : VK) (h : tE K X (eDSet ed ey ez) σ H Q) : tDSetd (tE K X ed) (tE K X ey) (tE K X ez) σ H Q := by
  obtain ⟨w, c, ss, rel, sr, h⟩ := h
  refine ⟨w, c, ss, rel, sr, (OR.bind (R := Vr K) h).imp ?_⟩
  rintro v1 H1 ⟨w1, x, c1, l1, rel1, r1, h1⟩
  obtain ⟨hd, h1⟩ := ite_ok h1
  obtain ⟨a, e1, d1⟩ := isD2_ok rel1 r1 hd
  refine ⟨a, e1, d1, w1, c1, ss, rel1, sr.mono l1.v, (OR.bind (R := Vr K) h1).imp ?_⟩
  rintro v2 H2 ⟨w2, y, c2, l2, rel2, r2, h2⟩
  refine ⟨w2, c2, ss, rel2, sr.mono (l1.trans l2).v, (OR.bind (R := Vr K) h2).imp ?_⟩
  rintro v3 H3 ⟨w3, z, c3, l3, rel3, r3, h3⟩
  have rx3 := r1.mono (l2.trans l3).v
  have ry3 := r2.mono l3.v
  clear h2 h1 hd h r1
  cases x <;> first | exact h3.elim | skip
  rename_i i
  have ex : v1 = V.ref (w3.φ i) := rx3.2
  rw [e1] at ex
  cases ex
  cases hc : c3[i]? with
  | none => simp only [hc] at h3; exact h3.elim
  | some ob =>
    simp only [hc] at h3
    cases ob <;> first | exact h3.elim | skip
    rename_i kvs
    simp only at h3
    cases hk : toKy y with
    | none => simp only [hk] at h3; exact h3.elim
    | some k =>
      simp only [hk] at h3
      obtain ⟨hl, h3⟩ := ite_ok h3
      obtain ⟨ho, g1, _, _, us, e2, k1, k2⟩ := rel3.obj i _ hc rfl
      subst e2
      have hlk := lkp_ok ky (fun _ _ => ky_inj) k k1 k2
      refine ⟨us, ky k, g1, toKy_ok ry3 hk, ?_, fun v hv => ?_, fun hn => ?_⟩
      · have := congrArg List.length k1
        simp only [List.length_map] at this
        rw [this]; exact len_lt hl
      · rw [hv] at hlk
        cases hq : lkp kvs k with
        | none => rw [hq] at hlk; exact hlk.elim
        | some q => rw [hq] at hlk; simp only [hq] at h3; exact h3.ok (Wd.Le.refl w3) rel3 hlk
      · rw [hn] at hlk
        cases hq : lkp kvs k with
        | some q => rw [hq] at hlk; exact hlk.elim
        | none =>
          simp only [hq] at h3
          exact h3.ok (Wd.Le.refl w3) (rel3.put hc ⟨_, rfl, put_ok ky (fun _ _ => ky_inj) k r3 k1 k2⟩) r3
end
/-! ## comprehensions over enumerate of a list that may change -/
def goLcER (k : Nat) (p : Pat) (t : Et) (e : Ee) (s0 : Sl) : Nat → Nat → List W → Conf → Out (List W)
  | 0, _, _, _ => .bad
  | n + 1, i, acc, c => (match c[k]? with
    | some (.lst xs) => (match xs[i]? with
      | some x => (match wPat p (.tup [.int (i : Nat), x]) s0 with
        | some ss1 => (t ss1 c).bind fun b c1 => match b with
          | true => (e ss1 c1).bind fun y c2 => if acc.length ≤ 1000000 then goLcER k p t e s0 n (i + 1) (acc ++ [y]) c2 else .bad
          | false => goLcER k p t e s0 n (i + 1) acc c1
        | none => .bad)
      | none => .ok acc c)
    | _ => .bad)
def eLcEA (o : Bool) (a : Ea) (p : Pat) (t : Et) (e : Ee) (vs : List Nat) : Ee := fun ss c => match a ss c with
  | .ok [.ref k] c1 => eLcF o (goLcER k p t e (wipeW ss vs) (lenR k c1) 0 [] c1)
  | _ => eLcE o a p t e vs ss c
section
variable {K : PySem.W.Frag} {X : Xx} {p : Pat} {bt : Et} {e : Ee} {vs : List Nat} {ea : Ee} {aa : Ea} {o : Bool}
/-- over enumerate of a list that may change -/
theorem lc_baseER {w0 : Wd} {c : Conf} {ss : Sl} {σ : L2.St} {H : Hp} {Q : VK} {k n : Nat} (hk : k < w0.n) (hv : ∀ i ∈ p.slots, i ∈ vs) (rel : Rel K w0 c H) (sr : SR K X.s w0 ss σ)
    (h : OR K (VrL K) w0 (fun _ _ _ => False) (fun us H' => True) (goLcER k p bt e (wipeW ss vs) n 0 [] c))
    (hend : ∀ w' ys us c' H' D, w0.Le w' → Rel K w' c' H' → VrL K w' ys us → w'.hd D = some (.lst us) → w0.hd D = none → goLcER k p bt e (wipeW ss vs) n 0 [] c = .ok ys c' → w0.Ahead w' D → Q (.ref D) H') :
    ∀ D, H D = none → ∃ W : Nat → Nat → Hp → Prop, (∃ m, W 0 m (upd H D (.lst []))) ∧ ∀ i m H, W i m H →
      ((Ite K (w0.φ k)).stop i H ∧ Q (.ref D) H) ∨ ((Ite K (w0.φ k)).go i H ∧ ∃ Nx : Hp → Prop, (∀ H', Nx H' → ∃ m', m' < m ∧ W (i + 1) m' H') ∧ ∀ x H', (Ite K (w0.φ k)).yld i H x H' → gPat K p x (L2.wipe σ vs) H' fun σ2 H2 => L2.wipe σ2 vs = L2.wipe σ vs ∧ tT K (noX X.s) bt σ2 H2 fun b H3 =>
        if b = true then tE K (noX X.s) e σ2 H3 fun y H4 => ∃ acc, H4 D = some (.lst acc) ∧ acc.length < sizeLine ∧ Nx (upd H4 D (.lst (acc ++ [y]))) else Nx H3) := by
  intro D hD
  obtain ⟨lw, relw⟩ := rel.hold hD (same_upd hD) (upd_same (o := .lst []))
  have hd0 : w0.hd D = none := Same.free rel.hd hD
  have ah0 : w0.Ahead (w0.hold D (.lst [])) D := ⟨Same.refl _, fun b u q => ⟨ne_of_none q hd0, lw.hd _ _ q⟩, Nat.le_refl _, fun _ _ => rfl⟩
  refine ⟨fun i m H' => ∃ w' c' acc us, w0.Le w' ∧ w0.Ahead w' D ∧ Rel K w' c' H' ∧ VrL K w' acc us ∧ w'.hd D = some (.lst us) ∧
    goLcER k p bt e (wipeW ss vs) n 0 [] c = goLcER k p bt e (wipeW ss vs) m i acc c', ⟨n, _, c, [], [], lw, ah0, relw, rfl, upd_same, rfl⟩, ?_⟩
  rintro i m H' ⟨w', c', acc, us, l', ah, rel', ra, hdD, eg⟩
  rw [eg] at h
  cases m with
  | zero => exact h.elim
  | succ m =>
  cases hc : c'[k]? with
  | none => simp only [goLcER, hc] at h; exact h.elim
  | some ob =>
    cases ob with
    | lst ys =>
      obtain ⟨ho, h1, _, _, ws, e2, r⟩ := rel'.obj k _ hc rfl
      subst e2
      have fk : w'.φ k = w0.φ k := l'.φ k hk
      rw [fk] at h1
      cases hy : ys[i]? with
      | none =>
        refine .inl ⟨⟨ws, SqL.of h1, ?_⟩, hend w' acc us c' H' D l' rel' ra hdD hd0 ?_ ah⟩
        · rw [r.length]; exact List.getElem?_eq_none_iff.mp hy
        · rw [eg]; simp only [goLcER, hc, hy]
      | some y =>
        obtain ⟨v, hvv, rv⟩ := r.get hy
        refine .inr ⟨⟨ws, v, SqL.of h1, hvv⟩, fun H2 => ∃ w2 c2 acc2 us2, w0.Le w2 ∧ w0.Ahead w2 D ∧ Rel K w2 c2 H2 ∧ VrL K w2 acc2 us2 ∧ w2.hd D = some (.lst us2) ∧
          goLcER k p bt e (wipeW ss vs) n 0 [] c = goLcER k p bt e (wipeW ss vs) m (i + 1) acc2 c2, fun H2 q => ⟨m, Nat.lt_succ_self m, q⟩, ?_⟩
        rintro v2 H2 ⟨T, z, e3, e4, e5, q⟩
        subst e3 e5
        have := q ws (SqL.of h1)
        rw [hvv] at this
        cases this
        have ahm : ∀ {a b : Wd}, w0.Ahead a D → a.Le b → w0.Ahead b D := fun q l => ⟨q.k0.trans l.k0, fun b u z => ⟨(q.hd b u z).1, l.hd _ _ (q.hd b u z).2⟩, Nat.le_trans q.n l.n, fun i hi => (l.φ i (Nat.lt_of_lt_of_le hi q.n)).trans (q.φ i hi)⟩
        obtain ⟨lf, relf⟩ := rel'.frz1 e4 (.tup [.int (i : Nat), v])
        have rt : Vr K (w'.frz T (.tup [.int (i : Nat), v])) (.tup [.int (i : Nat), y]) (.ref T) := ⟨T, _, rfl, upd_same, _, _, rfl, rfl, _, _, rfl, rv.mono lf.v, rfl⟩
        have l2 := l'.trans lf
        have hdD2 := lf.hd _ _ hdD
        have ra2 := ra.mono lf.v
        have ah2 := ahm ah lf
        generalize (w'.frz T (.tup [.int (i : Nat), v])) = w2 at lf relf rt l2 hdD2 ra2 ah2
        have srw : SR K X.s w2 (wipeW ss vs) (L2.wipe σ vs) := (sr.mono l2.v).wipe vs
        cases ep : wPat p (.tup [.int (i : Nat), y]) (wipeW ss vs) with
        | none => simp only [goLcER, hc, hy, ep] at h; exact h.elim
        | some ss1 =>
          have eg2 : goLcER k p bt e (wipeW ss vs) n 0 [] c = (bt ss1 c').bind fun b c1 => match b with
              | true => (e ss1 c1).bind fun y c2 => if acc.length ≤ 1000000 then goLcER k p bt e (wipeW ss vs) m (i + 1) (acc ++ [y]) c2 else .bad
              | false => goLcER k p bt e (wipeW ss vs) m (i + 1) acc c1 := by
            rw [eg]; simp only [goLcER, hc, hy, ep]
          rw [← eg, eg2] at h
          refine pat_ok relf.k0 p _ (.ref T) _ ss1 (L2.wipe σ vs) _ rt srw ep fun σ3 sr3 k3 => ⟨?_, w2, c', ss1, relf, sr3, ?_⟩
          · rw [k3 vs hv]
            have gen : ∀ (vs us : List Nat), (∀ i ∈ us, i ∈ vs) → L2.wipe (L2.wipe σ us) vs = L2.wipe σ vs := by
              intro vs us
              induction us with
              | nil => intro _; rfl
              | cons k us ih =>
                intro h
                show L2.wipe ((L2.wipe σ us).set k none) vs = _
                rw [wipe_set (h k List.mem_cons_self)]
                exact ih fun i hi => h i (List.mem_cons_of_mem _ hi)
            exact gen vs vs fun _ h => h
          cases et : bt ss1 c' with
          | bad => rw [et] at h; exact h.elim
          | exc x c3 => rw [et] at h; exact fun w'' H'' cls d a b c => h w'' H'' cls d (l2.trans a) b c
          | ok kk c3 =>
            rw [et] at h eg2
            intro w4 H4 b l4 rel4 eb
            cases eb
            simp only [Out.bind] at h eg2
            cases kk with
            | false =>
              rw [if_neg (by decide)]
              exact ⟨w4, c3, acc, us, l2.trans l4, ahm ah2 l4, rel4, ra2.mono l4.v, l4.hd _ _ hdD2, eg2⟩
            | true =>
              rw [if_pos rfl]
              refine ⟨w4, c3, ss1, rel4, sr3.mono l4.v, ?_⟩
              simp only at h eg2
              cases ee : e ss1 c3 with
              | bad => rw [ee] at h; exact h.elim
              | exc x c5 => rw [ee] at h; exact fun w'' H'' cls d a b c => h w'' H'' cls d ((l2.trans l4).trans a) b c
              | ok y c5 =>
                rw [ee] at h eg2
                simp only at h eg2
                obtain ⟨hl, h⟩ := ite_ok h
                rw [if_pos hl] at eg2
                intro w6 H6 v6 l6 rel6 r6
                have l06 := l4.trans l6
                have hd6 : w6.hd D = some (.lst us) := l06.hd _ _ hdD2
                have H6D : H6 D = some (.lst us) := rel6.hd _ _ hd6
                refine ⟨us, H6D, by rw [ra2.length]; exact len_lt hl, ?_⟩
                obtain ⟨relN, leN, ahN, hdN⟩ := rel6.rehold (ho' := .lst (us ++ [v6])) hd6 (fun _ => HO.noConfusion) (fun _ _ => HO.noConfusion) (fun _ => HO.noConfusion) (ahm ah2 l06)
                have lv : w6.Lv (w6.hold D (.lst (us ++ [v6]))) := ⟨Same.refl _, Nat.le_refl _, fun _ _ => rfl⟩
                exact ⟨_, c5, acc ++ [y], us ++ [v6], leN, ahN, relN, ((ra2.mono l06.v).app (VrL.one r6)).mono lv, hdN, eg2⟩
    | _ => simp only [goLcER, hc] at h; exact h.elim
theorem le_lcEA (hv : ∀ i ∈ p.slots, i ∈ vs) (σ : L2.St) (H : Hp) (Q : VK) (h : tE K X (eLcEA o aa p bt e vs) σ H Q) : tLc (iEnum K (tA K X aa)) (gPat K p) (tT K (noX X.s) bt) (tE K (noX X.s) e) vs σ H Q := by
  obtain ⟨w, c, ss, rel, sr, h⟩ := h
  unfold eLcEA at h
  split at h
  · rename_i k c1 ea1
    refine ⟨w, c, ss, rel, sr, ?_⟩
    rw [ea1]
    intro w1 H1 v1 l1 rel1 r1
    obtain ⟨v, rfl, rx⟩ := VrL.inv1 r1
    obtain ⟨hk, rfl⟩ := rx
    obtain ⟨hok, hend⟩ := fin_ok (OR.mono l1 h)
    have hl : ∃ xs, c1[k]? = some (.lst xs) := by
      simp only [lenR] at hok
      cases hc : c1[k]? with
      | none => rw [hc] at hok; exact hok.elim
      | some ob => cases ob <;> first | exact ⟨_, rfl⟩ | (rw [hc] at hok; exact hok.elim)
    obtain ⟨xs, hc⟩ := hl
    obtain ⟨ho, h2, _, _, us, e3, r⟩ := rel1.obj k _ hc rfl
    subst e3
    exact ⟨_, us, rfl, SqL.of h2, lc_baseER hk hv rel1 (sr.mono l1.v) hok hend⟩
  · exact le_lcE hv σ H Q ⟨w, c, ss, rel, sr, h⟩
end
/-! ## f(*x, y, ..) -/
section
open Calls PySem.W
theorem evalArgs_star2 {M : Model} {A : Around} {E : Value → Shared → Prop} {s : Shared} {f : Value} {x y : Sem Value} {b : Bool} {rest : List (Bool × Sem Value)} {Q : Args → Shared → Prop}
    (h : wpAny M A (spliced ((true, x) :: (b, y) :: rest)) (fun vs s' => Q ⟨vs, []⟩ s') E s) : wpAny M A (evalArgs f true ((true, x) :: (b, y) :: rest) []) Q E s := by
  unfold evalArgs
  show wpAny M A (spliced ((true, x) :: (b, y) :: rest) >>= _) Q E s
  refine wpAny_bind (wpAny_mono h (fun vs s' h' => ?_) fun _ _ x => x)
  refine wpAny_holding ?_
  exact wpAny_bind (wpAny_pure (wpAny_bind (wpAny_pure (wpAny_pure h'))))
theorem callWith_S3 {M : Model} {A : Around} {E : Value → Shared → Prop} {s : Shared} {K : Frag} {env : Env} {pos p : Pos} {f : Value} {first : List Value} {Q : Value → Shared → Prop} {e e2 : Expr} {es : List Expr} (hk : keepIn K f = true)
    (h : wpAny M A (spliced (backTo pos (starEach (.Starred e p :: e2 :: es) env))) (fun vs s₁ => K.In s₁.heap ∧ wpAny M A (call f (first ++ vs)) Q E s₁) E s)
    (he : starEach (.Starred e p :: e2 :: es) env = (true, eval e env) :: (false, eval e2 env) :: starEach es env := by rfl) :
    wpAny M A (callWith pos f first (backTo pos (starEach (.Starred e p :: e2 :: es) env)) []) Q E s := by
  rw [he] at h ⊢
  exact ks_call rfl (keeps_K hk) (evalArgs_star2 h)
end
section
variable {X : Cx} {CX : CXT} {k : Nat} {f C : Addr} {ps : List Str} {sp : Sp} {E : L2.St → XK} {x m : Str} {p pos apos sp_ : Pos} {e e2 o : Expr} {es : List Expr} {t : TA} {ta te : TE}
theorem pe_callXS (D : OkD X.prog X.w X.K X.mg X.base CX k f ps sp) (hr : Room k X.A) (hg : Gl X x) (hm : X.mg x = some (.ref f)) (hx : ∀ σ, PassesAt CX X σ (E σ)) (ha : PA X (.Starred e sp_ :: e2 :: es) t) (hdb : (x == ("__debug__" : Str)) = false := by decide)
    (he : starEach (.Starred e sp_ :: e2 :: es) X.env = (true, eval e X.env) :: (false, eval e2 X.env) :: starEach es X.env := by rfl) : PE X (.Call (.Name x p) (.Starred e sp_ :: e2 :: es) [] pos) (fCallS sp [] E t) := by
  obtain ⟨⟨fd, F, b, _⟩, kp⟩ := D
  refine ⟨fun pins s σ H Q I h => ?_⟩
  unfold fCallS at h
  simp only [fCat_eq] at h
  refine wpAny_Call_Name_kw (ld_glob I hg hm ?_ hdb)
  refine callWith_S3 (K := X.K) kp (thn (ha.run pos pins s σ H _ I h) fun us s1 ⟨vs, H1, I1, r, q⟩ => ⟨I1.kIn, ?_⟩) he
  exact run_fnD F hr b .nil (hx σ) I1 r q
end
end Ev

set_option Elab.async false
set_option linter.all false
set_option maxRecDepth 100000
set_option maxHeartbeats 4000000
namespace Ev
open PySem PySem.Spec PyProof.Rows L2 Wf TL
/-! # {True: a, False: b}[x], x a name -/
def tBd (i : Nat) (a b : Str) : TE := fun σ H Q => ∃ k, σ[i]? = some (some (V.bl k)) ∧ Q (V.str (if k = true then a else b)) H
def eBd (i : Nat) (a b : List Nat) : Ee := fun ss c => match ss[i]? with
  | some (some (.bl k)) => .ok (.str (if k = true then a else b)) c
  | _ => .bad
section
variable {X : Cx} {i : Nat} {x a b : Str}
theorem pe_bd {k1 k2 k3 k4 : Nat} {p1 p2 p3 p4 p5 p6 pos : Pos} (hN : X.N[i]? = some x) (hv : Vis X.env.scope x) (hd : (x == ("__debug__" : Str)) = false := by decide) (hcd : (x == ("__classdict__" : Str)) = false := by decide) :
    PE X (.Subscript (.Dict [some (.Constant (.bool true) k1 p1), some (.Constant (.bool false) k2 p2)] [.Constant (.str a) k3 p3, .Constant (.str b) k4 p4] p5) (.Name x p6) pos) (tBd i a b) := by
  refine ⟨fun pins s σ H Q I h => ?_⟩
  obtain ⟨k, e, q⟩ := h
  have I1 : Inv X pins σ H { s with heap := s.heap.push { cls := .type "dict", data := .dict #[] } } := I.kept (t' := s.toks) fun b o e => Heap.get?_push_of_some _ e
  refine subD_of PySem.F.slot_dict_getitem.lookup (fun _ _ => rfl) ?_
  refine wpAny_Dict_walk (knd := PpSet.boolK X.prog X.w) rfl rfl (by simp) (Nat.le_of_ble_eq_true rfl) ?_
  refine pairTrees_cons_walk (Constant_bool (Calls.Constant_str (pairTrees_cons_walk (Constant_bool (Calls.Constant_str (evalPairs_nil ?_))))))
  refine ⟨[(true, .str a _), (false, .str b _)], ⟨rfl, rfl, rfl, rfl, True.intro⟩, Heap.DictOf.new s.heap, fun h' dd hs => ?_⟩
  have I3 : ∀ t : Tok, Inv X pins σ H { s with heap := h', toks := t } := fun t => I.kept (t' := t) fun b o e => by
    have hb : b < s.heap.objs.size := Heap.lt_size e
    rw [hs.2 b (Nat.ne_of_lt hb)]
    exact Heap.get?_push_of_some _ e
  obtain ⟨m, hn, hl⟩ := (I3 0).loc
  obtain ⟨u, r, l⟩ := hl i x (.bl k) hN e hv
  obtain rfl : u = Value.bool k := r
  have hw : ∀ t1 t2 : Tok, ∃ w', valueAt (merged [] [(true, Value.str a t1), (false, Value.str b t2)]) k = some w' ∧ RelV (.str (if k = true then a else b)) w' := fun t1 t2 => by
    cases k
    · exact ⟨_, rfl, _, rfl⟩
    · exact ⟨_, rfl, _, rfl⟩
  obtain ⟨w', hw1, hw2⟩ := hw _ _
  have fin : ∀ t : Tok, (fun (iv : Value) (s₂ : Shared) => s₂.TypeIs (.ref s.heap.objs.size) "dict" ∧ wpAny (model X.prog X.w) X.A (getItem (.ref s.heap.objs.size) iv) (EP X pins σ Q) X.xe s₂) (.bool k) { s with heap := h', toks := t } := fun t =>
    ⟨dd.typeIs (s := { s with heap := h', toks := t }), wpAny_getItem_of (knd := PpSet.boolK X.prog X.w) (PpSet.boolK_is _ _ k) dd.mapOf hw1 ⟨.str (if k = true then a else b), H, I3 _, hw2, q⟩⟩
  rcases l with ⟨hk, hm⟩ | ⟨hk, c, hc, hcell⟩
  · exact wpAny_Name (wpAny_loadName_local I.ok.kind hk hn hm (fin _)) hd
  · rcases hk with hk | hk
    · exact wpAny_Name (wpAny_loadName_cell I.ok.kind hk hc hcell (fin _)) hd
    · exact wpAny_Name (wpAny_loadName_free I.ok.kind hk hc hcell (fin _) hcd) hd
theorem le_bd {K : PySem.W.Frag} {Y : Xx} {i : Nat} {sa sb : List Nat} {A B : Str} (ha : mk sa = A) (hb : mk sb = B) (σ : L2.St) (H : Hp) (Q : VK) (h : tE K Y (eBd i sa sb) σ H Q) : tBd i A B σ H Q := by
  subst ha hb
  obtain ⟨w, c, ss, rel, sr, h⟩ := h
  unfold eBd at h
  split at h
  · rename_i k e
    obtain ⟨v, e2, r⟩ := sr.get e
    cases (show v = V.bl k from r)
    refine ⟨k, e2, h.ok (Wd.Le.refl w) rel ?_⟩
    cases k <;> rfl
  · exact h.elim
end
/-! # sorted: lists and dicts of tuples of ints and texts -/
def toK : V → Int ⊕ List Nat
  | .int i => .inl i
  | .str s => .inr s.cps.toList
  | _ => .inl 0
def keyV (H : Hp) : V → List (Int ⊕ List Nat)
  | .ref t => (match H t with | some (.tup its) => its.map toK | _ => [])
  | _ => []
def ShOk (shape : Nat → Bool) : Nat → List V → Prop
  | _, [] => True
  | i, v :: r => ((shape i = false ∧ ∃ n, v = .int n) ∨ (shape i = true ∧ ∃ s, v = .str s)) ∧ ShOk shape (i + 1) r
def TpOk (H : Hp) (shape : Nat → Bool) (xs : List V) : Prop := ∀ x ∈ xs, ∃ t its, x = V.ref t ∧ H t = some (.tup its) ∧ ShOk shape 0 its ∧ its ≠ []
def ltK (H : Hp) (x y : V) : Bool := lexLt itemOrd (keyV H x) (keyV H y)
theorem swo_ord (O : KeyOrd) {α : Type} (k : α → O.α) : SrtO.Swo fun v u => O.blt (k v) (k u) := by
  refine ⟨fun x y h => ?_, fun x y z h1 h2 => ?_⟩
  · cases q : O.blt (k y) (k x) with
    | false => rfl
    | true =>
      have := O.trans _ _ _ h q
      rw [O.irrefl] at this
      cases this
  · cases q : O.blt (k z) (k x) with
    | false => rfl
    | true =>
      rcases O.negTrans (k z) (k y) (k x) q with h | h
      · rw [h2] at h; cases h
      · rw [h1] at h; cases h
theorem swo_key {α : Type} (k : α → List (Int ⊕ List Nat)) : SrtO.Swo fun v u => lexLt itemOrd (k v) (k u) := swo_ord (listOrd itemOrd) k
def rSortK (K : PySem.W.Frag) : List V → Hp → VK → Prop := fun vs H Q =>
  (∃ (a : Addr) (xs : List V) (shape : Nat → Bool), vs = [V.ref a] ∧ SqL K H a xs ∧ TpOk H shape xs ∧ ∀ ys p, SrtO.Srtd (ltK H) ys → SrtO.Stb (ltK H) ys xs → H p = none → Q (.ref p) (upd H p (.lst ys))) ∨
  (∃ (a : Addr) (kvs : List (List Key × V)) (shape : Nat → Bool), vs = [V.ref a] ∧ Rd H a (.dT kvs) ∧ (∀ k ∈ kvs, ShOk shape 0 (k.1.map kV) ∧ k.1 ≠ []) ∧
    ∀ bs ys p, IsKeys H kvs bs → SrtO.Srtd (ltK H) ys → SrtO.Stb (ltK H) ys (bs.map V.ref) → H p = none → Q (.ref p) (upd H p (.lst ys)))
theorem items_ok {shape : Nat → Bool} : ∀ {its : List V} {us : List Value} {i : Nat}, Vals its us → ShOk shape i its → tupItems shape i us = some (its.map toK)
  | _, _, _, .nil, _ => rfl
  | _, _, i, .cons r t, ⟨h1, h2⟩ => by
    rcases h1 with ⟨hs, n, rfl⟩ | ⟨hs, x, rfl⟩
    · obtain ⟨t', rfl⟩ := r
      simp only [tupItems, hs, items_ok t h2]
      rfl
    · obtain ⟨t', rfl⟩ := r
      simp only [tupItems, hs, items_ok t h2]
      rfl
section
variable {X : Cx} {pins : List (Addr × Obj)} {σ : L2.St} {H : Hp} {s : Shared}
theorem key_at {shape : Nat → Bool} {h' : Heap} {v : Value} {x : V} (I : Inv X pins σ H s) (kp : ∀ b o, s.heap.get? b = some o → h'.get? b = some o) (rv : RelV x v) (hx : ∃ t its, x = V.ref t ∧ H t = some (.tup its) ∧ ShOk shape 0 its ∧ its ≠ []) :
    (tupKind h' shape).keyOf v = some (keyV H x) ∧ ∃ f, TupOf h' shape v f := by
  obtain ⟨t, its, rfl, ht, hs, hne⟩ := hx
  obtain rfl : v = Value.ref t := rv
  obtain ⟨_, us, r2, o, ho, hc, n, hd⟩ := I.hok _ _ ht
  have e1 : keyV H (.ref t) = its.map toK := by simp only [keyV, ht]
  refine ⟨?_, ?_⟩
  · show tupKey h' shape (.ref t) = _
    unfold tupKey
    simp only [kp _ _ ho, hd, e1]
    exact items_ok (by simpa using r2) hs
  · cases r2 with
    | nil => exact absurd rfl hne
    | @cons a b as bs h1 h2 =>
      refine ⟨b, t, o, _, n, rfl, kp _ _ ho, hc, hd, by simp, fun hf => ?_, fun hf => ?_⟩
      · rcases hs.1 with ⟨_, n, rfl⟩ | ⟨hs1, _⟩
        · obtain ⟨t', rfl⟩ := h1; exact ⟨_, _, rfl⟩
        · rw [hf] at hs1; cases hs1
      · rcases hs.1 with ⟨hs1, _⟩ | ⟨_, n, rfl⟩
        · rw [hf] at hs1; cases hs1
        · obtain ⟨t', rfl⟩ := h1; exact ⟨_, _, rfl⟩
theorem tups_of {h' : Heap} {shape : Nat → Bool} : ∀ {vs : List Value}, (∀ v ∈ vs, ∃ f, TupOf h' shape v f) → ∃ fs, TupsOf h' shape vs fs ∧ fs.length = vs.length
  | [], _ => ⟨[], .nil, rfl⟩
  | v :: vs, h => by
    obtain ⟨f, hf⟩ := h v List.mem_cons_self
    obtain ⟨fs, h1, h2⟩ := tups_of fun u hu => h u (List.mem_cons_of_mem _ hu)
    exact ⟨f :: fs, .cons hf h1, by simp [h2]⟩
theorem tup_sortable {A : Around} {a : Addr} {us : List Value} {shape : Nat → Bool} {s2 : Shared} (I : Inv X pins σ H s) (h0 : 0 < us.length) (hx : ∀ u ∈ us, ∃ x, RelV x u ∧ backV u = x ∧ ∃ t its, x = V.ref t ∧ H t = some (.tup its) ∧ ShOk shape 0 its ∧ its ≠ [])
    (kp : ∀ b o, s.heap.get? b = some o → b ≠ a ∧ s2.heap.get? b = some o) : SrtO.SortableO X.prog X.w A s2 a us fun v u => ltK H (backV v) (backV u) := by
  intro h' keep
  have kp' : ∀ b o, s.heap.get? b = some o → h'.get? b = some o := fun b o e => keep b o (kp b o e).1 (kp b o e).2
  obtain ⟨fs, h1, h2⟩ := tups_of (h' := h') (shape := shape) (vs := us) fun u hu => by
    obtain ⟨x, r, _, hh⟩ := hx u hu
    exact (key_at I kp' r hh).2
  refine ⟨tuples' true, fun Q E hq => tup_kind (by omega) h1 hq, fun p q hp hq => ?_⟩
  obtain ⟨x, r1, e1, hh1⟩ := hx _ hp
  obtain ⟨y, r2, e2, hh2⟩ := hx _ hq
  refine tup_ltAt (s := { s2 with heap := h' }) (shape := shape) true A _ p.1 q.1 _ _ (key_at I kp' r1 hh1).1 (key_at I kp' r2 hh2).1 ⟨rfl, ?_⟩
  show lexLt itemOrd (keyV H x) (keyV H y) = ltK H (backV p.1) (backV q.1)
  rw [e1, e2]; rfl
end
section
variable {X : Cx}
theorem vals_ref {H : Hp} {shape : Nat → Bool} {xs : List V} {us : List Value} (rv : Vals xs us) (tp : TpOk H shape xs) : (∀ u ∈ us, ∃ x, RelV x u ∧ backV u = x ∧ ∃ t its, x = V.ref t ∧ H t = some (.tup its) ∧ ShOk shape 0 its ∧ its ≠ []) ∧ xs = us.map backV ∧ ∀ u ∈ us, ∃ a, u = Value.ref a := by
  obtain ⟨e1, e2⟩ := refs_back rv fun x m => by
    obtain ⟨t, its, e, _⟩ := tp x m
    exact ⟨t, e⟩
  refine ⟨fun u hu => ?_, e1, e2⟩
  obtain ⟨a, rfl⟩ := e2 u hu
  have hm : V.ref a ∈ xs := by rw [e1]; exact List.mem_map.mpr ⟨_, hu, rfl⟩
  exact ⟨.ref a, rfl, rfl, tp _ hm⟩
theorem cr_sortK (hcalm : X.calm = true) : CallR X (.builtin "sorted") (rSortK X.K) := by
  intro pins s σ H vs us Q I r h
  rcases h with ⟨a, xs, shape, rfl, hs, tp, q⟩ | ⟨a, kvs, shape, rfl, hd, tp, q⟩
  · obtain ⟨its, rv, hl, hz⟩ := I.list hs
    obtain ⟨u, rfl, ru⟩ := vals1 r
    obtain rfl : u = Value.ref a := ru
    obtain ⟨hx, e1, e2⟩ := vals_ref rv tp
    refine SrtO.sorted_ord (ltv := fun v u => ltK H (backV v) (backV u)) (swo_key fun u => keyV H (backV u)) hl.isList (by rw [← rv.length]; exact hz) (fun h2 h₁ b ha kk => ?_) fun out hs hb => ?_
    · exact tup_sortable (s2 := { s with heap := h₁ }) I (by omega) hx kk
    · have h3 : ∀ u ∈ out, ∃ a, u = Value.ref a := fun u hu => e2 u (hb.perm.mem_iff.mp hu)
      have hb2 : SrtO.Stb (ltK H) (out.map backV) xs := by
        rw [e1]
        exact SrtO.Stb.map (lt := ltK H) (swo_key (keyV H)) backV hb
      obtain ⟨n, hn⟩ := PyProof.Rows.sortedAll_at s.heap its out.toArray
      refine ⟨.ref _, upd H _ (.lst (out.map backV)), I.laid (t' := s.toks) (fun b o e => PyProof.Rows.sortedAll_old e) (Nat.le_succ _) ⟨?_, out, n, vals_back h3, hn⟩, rfl, q _ _ (SrtO.srtd_map hs) hb2 (I.hok.fresh (Nat.le_succ _))⟩
      rw [hb2.len]
      exact hz
  · obtain ⟨u, rfl, ru⟩ := vals1 r
    obtain rfl : u = Value.ref a := ru
    obtain ⟨z, hs, ks, pr, o, es, ep, ho, hx, hdt, he, hn⟩ := (show ObjOk X.prog X.w H s.heap a (.dT kvs) from hd.ok I.hok)
    have l1 : es.size = ks.length := size_of_entries he
    have l2 : kvs.length = ks.length := Paired.length pr
    refine Calls.call_function_entry PyProof.Rows.kind_sorted PyProof.Rows.plain_sorted PyProof.Rows.entry_sorted (PyProof.Rows.args_sorted1 _) ?_
    unfold Builtin.«sorted»
    refine wpAny_bind (m := checkCount "sorted" 1 1 _) (wpAny_pure ?_)
    refine wpAny_bind (PySem.W.kdu_collect (A := X.A.in1) (kdl_raw hs hx hdt) (I.ok.hd hcalm) ho (by omega) fun h' tk acc' kp it => ?_)
    have ea : acc'.toList = ks.map fun x => Value.ref x.2.1 := by
      have hl : acc'.toList.length = ks.length := by rw [Array.length_toList, it.1]; exact l1
      apply List.ext_getElem?
      intro j
      rw [List.getElem?_map]
      cases hj : acc'.toList[j]? with
      | none =>
        have h1 := List.getElem?_eq_none_iff.mp hj
        rw [List.getElem?_eq_none (by omega)]
        all_goals rfl
      | some v =>
        obtain ⟨en, hen, hv⟩ := it.2 j v (by rw [← Array.getElem?_toList]; exact hj)
        have qe := entry_at he j
        rw [hen] at qe
        cases hb : ks[j]? with
        | none =>
          rw [hb] at qe
          exact nomatch (show some en = none from qe)
        | some b =>
          rw [hb] at qe
          have e2 : en = entryOfKey (tupleKind (mixKind X.prog X.w)) b := Option.some.inj qe
          rw [hv, e2]
          all_goals rfl
    have eb : acc'.toList = (ks.map fun x => x.2.1).map Value.ref := by rw [ea, List.map_map]; all_goals rfl
    have rv : Vals ((ks.map fun x => x.2.1).map V.ref) acc'.toList := by rw [eb]; exact vals_refs _
    have isk : IsKeys H kvs (ks.map fun x => x.2.1) := isKeys_of pr
    have tp2 : TpOk H shape ((ks.map fun x => x.2.1).map V.ref) := by
      clear q
      have gen : ∀ {kvs : List (List Key × V)} {bs : List Addr}, IsKeys H kvs bs → (∀ k ∈ kvs, ShOk shape 0 (k.1.map kV) ∧ k.1 ≠ []) → TpOk H shape (bs.map V.ref) := by
        intro kvs bs hh
        unfold IsKeys at hh
        induction hh with
        | nil => intro _ x hx; cases hx
        | @cons k b ks bs h1 _ ih =>
          intro hk x hx
          rw [List.map_cons] at hx
          rcases List.mem_cons.mp hx with rfl | hx
          · obtain ⟨g1, g2⟩ := hk k List.mem_cons_self
            exact ⟨b, _, rfl, h1, g1, by simpa using g2⟩
          · exact ih (fun k hk' => hk k (List.mem_cons_of_mem _ hk')) x hx
      exact gen isk tp
    have hz : acc'.toList.length ≤ sizeLine := by rw [ea, List.length_map]; omega
    have I1 : Inv X pins σ H { s with heap := h', toks := tk } := I.kept kp
    obtain ⟨hx2, e1, e2⟩ := vals_ref rv tp2
    refine wpAny_bind (wpAny_newList ?_ hz)
    have hoL : (h'.push (seqObj "list" acc'.toList.toArray 0)).get? h'.objs.size = some (seqObj "list" acc'.toList.toArray 0) := Heap.get?_push_size _ rfl
    have kk : ∀ b o, h'.get? b = some o → b ≠ h'.objs.size ∧ (h'.push (seqObj "list" acc'.toList.toArray 0)).get? b = some o := fun b o e => ⟨Nat.ne_of_lt (Heap.lt_size e), Heap.get?_push_of_some _ e⟩
    show wpAny _ _ _ _ _ { s with heap := h'.push (seqObj "list" acc'.toList.toArray 0), toks := tk }
    refine wpAny_bind (wpAny_holding (wpAny_call_entry PyProof.Rows.slot_list_sort ⟨_, hoL, rfl⟩ PyProof.Rows.entry_list_sort
      (SrtO.list_sort_ord (s := { s with heap := h'.push (seqObj "list" acc'.toList.toArray 0), toks := tk }) (ltv := fun v u => ltK H (backV v) (backV u)) (swo_key fun u => keyV H (backV u)) hoL hz
        (fun h2 => tup_sortable (s2 := { s with heap := h'.push (seqObj "list" acc'.toList.toArray 0), toks := tk }) I1 (by omega) hx2 kk) fun out hs2 hb => ⟨_, rfl, ?_⟩) (PyProof.Rows.args_list_sort _)))
    have h3 : ∀ u ∈ out, ∃ a, u = Value.ref a := fun u hu => e2 u (hb.perm.mem_iff.mp hu)
    have hb2 : SrtO.Stb (ltK H) (out.map backV) ((ks.map fun x => x.2.1).map V.ref) := by
      rw [e1]
      exact SrtO.Stb.map (lt := ltK H) (swo_key (keyV H)) backV hb
    obtain ⟨e', he'⟩ := PyProof.Rows.sortedHeap_at (vs := acc'.toList) (out := out.toArray) hoL
    refine wpAny_pure ⟨_, rfl, .ref h'.objs.size, upd H h'.objs.size (.lst (out.map backV)), I1.laid (t' := tk) (fun b u e => ?_) (Nat.le_refl _)
      (show ObjOk X.prog X.w _ _ _ (.lst (out.map backV)) from ⟨?_, out, e', vals_back h3, he'⟩), rfl, q _ _ _ isk (SrtO.srtd_map hs2) hb2 (I1.hok.fresh (Nat.le_refl _))⟩
    · have hb : b < h'.objs.size := Heap.lt_size e
      rw [PyProof.Rows.sortedHeap_old (Nat.ne_of_lt hb) (by rw [size_push']; exact Nat.lt_succ_of_lt hb)]
      exact Heap.get?_push_of_some _ e
    · rw [hb2.len, List.length_map, List.length_map]; omega
end
/-! ## the evaluator -/
section
variable {α β : Type}
def insO (lt : α → α → Bool) (x : α) : List α → List α
  | [] => [x]
  | y :: l => if lt y x = true then y :: insO lt x l else x :: y :: l
def isortO (lt : α → α → Bool) : List α → List α
  | [] => []
  | x :: l => insO lt x (isortO lt l)
theorem insO_stb {lt : α → α → Bool} (O : SrtO.Swo lt) (x : α) : ∀ l : List α, SrtO.Stb lt (insO lt x l) (x :: l)
  | [] => SrtO.Stb.refl _
  | y :: l => by
    unfold insO
    by_cases h : lt y x = true
    · rw [if_pos h]
      have h1 : SrtO.Stb lt (y :: insO lt x l) (y :: x :: l) := SrtO.Stb.app (SrtO.Stb.refl [y]) (insO_stb O x l)
      have h2 : SrtO.Stb lt ([y] ++ [x]) ([x] ++ [y]) := SrtO.Stb.swap O fun a ha b hb => by rw [List.mem_singleton.mp ha, List.mem_singleton.mp hb]; exact h
      exact h1.trans (SrtO.Stb.app h2 (SrtO.Stb.refl l))
    · rw [if_neg h]; exact SrtO.Stb.refl _
theorem isortO_stb {lt : α → α → Bool} (O : SrtO.Swo lt) : ∀ l : List α, SrtO.Stb lt (isortO lt l) l
  | [] => SrtO.Stb.refl _
  | x :: l => (insO_stb O x _).trans (SrtO.Stb.app (SrtO.Stb.refl [x]) (isortO_stb O l))
theorem insO_srtd {lt : α → α → Bool} (O : SrtO.Swo lt) (x : α) : ∀ l : List α, SrtO.Srtd lt l → SrtO.Srtd lt (insO lt x l)
  | [], _ => SrtO.srtd_one x
  | y :: l, h => by
    unfold insO
    obtain ⟨h1, h2⟩ := List.pairwise_cons.mp h
    by_cases q : lt y x = true
    · rw [if_pos q]
      refine List.pairwise_cons.mpr ⟨fun z hz => ?_, insO_srtd O x l h2⟩
      rcases List.mem_cons.mp ((insO_stb O x l).perm.mem_iff.mp hz) with rfl | hz
      · exact O.asym _ _ q
      · exact h1 z hz
    · rw [if_neg q]
      have q' : lt y x = false := by simpa using q
      refine List.pairwise_cons.mpr ⟨fun z hz => ?_, h⟩
      rcases List.mem_cons.mp hz with rfl | hz
      · exact q'
      · exact O.tr _ _ _ q' (h1 z hz)
theorem isortO_srtd {lt : α → α → Bool} (O : SrtO.Swo lt) : ∀ l : List α, SrtO.Srtd lt (isortO lt l)
  | [] => List.Pairwise.nil
  | x :: l => insO_srtd O x _ (isortO_srtd O l)
theorem insO_map {lt : α → α → Bool} {lt' : β → β → Bool} (f : α → β) (x : α) : ∀ l : List α, (∀ y ∈ l, lt' (f y) (f x) = lt y x) → (insO lt x l).map f = insO lt' (f x) (l.map f)
  | [], _ => rfl
  | y :: l, h => by
    show (if lt y x = true then y :: insO lt x l else x :: y :: l).map f = if lt' (f y) (f x) = true then f y :: insO lt' (f x) (l.map f) else f x :: f y :: l.map f
    rw [h y List.mem_cons_self]
    by_cases q : lt y x = true
    · rw [if_pos q, if_pos q, List.map_cons, insO_map f x l fun z hz => h z (List.mem_cons_of_mem _ hz)]
    · rw [if_neg q, if_neg q]; rfl
theorem isortO_map {lt : α → α → Bool} {lt' : β → β → Bool} (f : α → β) (O : SrtO.Swo lt) : ∀ l : List α, (∀ x ∈ l, ∀ y ∈ l, lt' (f y) (f x) = lt y x) → (isortO lt l).map f = isortO lt' (l.map f)
  | [], _ => rfl
  | x :: l, h => by
    show (insO lt x (isortO lt l)).map f = insO lt' (f x) (isortO lt' (l.map f))
    rw [← isortO_map f O l fun a ha b hb => h a (List.mem_cons_of_mem _ ha) b (List.mem_cons_of_mem _ hb)]
    exact insO_map f x _ fun y hy => h x List.mem_cons_self y (List.mem_cons_of_mem _ ((isortO_stb O l).perm.mem_iff.mp hy))
theorem Stb.symm {lt : α → α → Bool} {l m : List α} (h : SrtO.Stb lt l m) : SrtO.Stb lt m l := ⟨h.perm.symm, fun x => (h.cls x).symm⟩
end
def kindsW : List W → Option (List Bool)
  | [] => some []
  | .int _ :: r => (kindsW r).map (false :: ·)
  | .str _ :: r => (kindsW r).map (true :: ·)
  | _ :: _ => none
def tupK : W → Option (List Bool)
  | .tup its => kindsW its
  | _ => none
def okTs (ys : List W) : Bool := match ys with
  | [] => true
  | y :: _ => (match tupK y with
    | some (b :: bs) => ys.all fun y => decide (tupK y = some (b :: bs))
    | _ => false)
def toKW : W → Int ⊕ List Nat
  | .int i => .inl i
  | .str s => .inr s
  | _ => .inl 0
def keyWs : W → List (Int ⊕ List Nat)
  | .tup its => its.map toKW
  | _ => []
def ltW (x y : W) : Bool := lexLt itemOrd (keyWs x) (keyWs y)
def sortW (ys : List W) : List W := isortO ltW ys
def dkeysT (kvs : List (List Ky × W)) : List W := kvs.map fun kv => .tup (kv.1.map kyW)
def srcW (c : Conf) : W → Option (List W)
  | .ref i => (match c[i]? with
    | some (.dit kvs) => some (dkeysT kvs)
    | _ => rdL c (.ref i))
  | x => rdL c x
def oSorted : List W → Conf → Out W := fun xs c => match xs with
  | [x] => (match srcW c x with
    | some ys => if okTs ys = true then .ok (.lst (sortW ys)) c else .bad
    | none => .bad)
  | _ => .bad
section
variable {K : PySem.W.Frag} {w : Wd} {H : Hp}
theorem kinds_ok : ∀ {its : List W} {us : List V} {bs : List Bool} {i : Nat} {shape : Nat → Bool}, VrL K w its us → kindsW its = some bs → (∀ j, j < bs.length → bs[j]? = some (shape (i + j))) → ShOk shape i us ∧ us.map toK = its.map toKW ∧ us.length = bs.length
  | [], us, bs, i, shape, r, e, h => by
    cases (show us = [] from r)
    cases e
    exact ⟨True.intro, rfl, rfl⟩
  | x :: its, us, bs, i, shape, ⟨v, r', e1, h1, h2⟩, e, h => by
    subst e1
    have step : ∀ {b : Bool} {bs' : List Bool}, bs = b :: bs' → kindsW its = some bs' → ShOk shape (i + 1) r' ∧ r'.map toK = its.map toKW ∧ r'.length = bs'.length ∧ shape i = b := by
      rintro b bs' rfl e2
      obtain ⟨g1, g2, g3⟩ := kinds_ok (i := i + 1) (shape := shape) h2 e2 fun j hj => by
        have := h (j + 1) (by simpa using hj)
        simp only [List.getElem?_cons_succ] at this
        rw [this]; congr 2; omega
      have := h 0 (by simp)
      simp only [List.getElem?_cons_zero, Option.some.injEq] at this
      exact ⟨g1, g2, g3, this.symm⟩
    cases x with
    | int n =>
      cases (show v = .int n from h1)
      cases e2 : kindsW its with
      | none => rw [kindsW, e2] at e; cases e
      | some bs' =>
        rw [kindsW, e2] at e
        cases e
        obtain ⟨g1, g2, g3, g4⟩ := step rfl e2
        exact ⟨⟨.inl ⟨g4, _, rfl⟩, g1⟩, by rw [List.map_cons, List.map_cons, g2]; rfl, by simp [g3]⟩
    | str s =>
      cases (show v = .str (mk s) from h1)
      cases e2 : kindsW its with
      | none => rw [kindsW, e2] at e; cases e
      | some bs' =>
        rw [kindsW, e2] at e
        cases e
        obtain ⟨g1, g2, g3, g4⟩ := step rfl e2
        exact ⟨⟨.inr ⟨g4, _, rfl⟩, g1⟩, by rw [List.map_cons, List.map_cons, g2]; simp [toK, toKW, mk], by simp [g3]⟩
    | _ => simp only [kindsW] at e; cases e
/-- what okTs tells of values -/
theorem okTs_ok {c : Conf} (rel : Rel K w c H) : ∀ {ys : List W} {vs : List V}, VrL K w ys vs → okTs ys = true → ∃ shape, TpOk H shape vs ∧ ∀ p ∈ ys.zip vs, keyV H p.2 = keyWs p.1 := by
  intro ys vs r e
  have key : ∀ {b : Bool} {bs : List Bool} {x : W} {v : V}, Vr K w x v → tupK x = some (b :: bs) → (∃ t its, v = V.ref t ∧ H t = some (.tup its) ∧ ShOk (fun i => (b :: bs).getD i false) 0 its ∧ its ≠ []) ∧ keyV H v = keyWs x := by
    intro b bs x v hv hk
    cases x with
    | tup its =>
      obtain ⟨t, us, rfl, ht, hr⟩ := hv
      obtain ⟨g1, g2, g3⟩ := kinds_ok (i := 0) (shape := fun i => (b :: bs).getD i false) hr hk fun j hj => by
        rw [Nat.zero_add, List.getElem?_eq_getElem hj, List.getD_eq_getElem?_getD, List.getElem?_eq_getElem hj]; rfl
      have hH := rel.k0 _ _ ht
      refine ⟨⟨t, us, rfl, hH, g1, fun z => by rw [z] at g3; simp at g3⟩, ?_⟩
      unfold keyV
      simp only [hH]
      exact g2
    | _ => simp only [tupK] at hk; cases hk
  cases ys with
  | nil =>
    cases (show vs = [] from r)
    exact ⟨fun _ => false, (fun x hx => by cases hx), (fun p hp => by cases hp)⟩
  | cons y ys =>
    unfold okTs at e
    simp only at e
    split at e
    · rename_i b bs _
      refine ⟨fun i => (b :: bs).getD i false, ?_⟩
      have gen : ∀ {ys : List W} {vs : List V}, VrL K w ys vs → (ys.all fun y => decide (tupK y = some (b :: bs))) = true → TpOk H (fun i => (b :: bs).getD i false) vs ∧ ∀ p ∈ ys.zip vs, keyV H p.2 = keyWs p.1 := by
        intro ys
        induction ys with
        | nil =>
          intro vs r _
          cases (show vs = [] from r)
          exact ⟨(fun x hx => by cases hx), (fun p hp => by cases hp)⟩
        | cons y ys ih =>
          rintro vs ⟨v, r', rfl, h1, h2⟩ ha
          rw [List.all_cons, Bool.and_eq_true] at ha
          obtain ⟨i1, i2⟩ := ih h2 ha.2
          obtain ⟨k1, k2⟩ := key h1 (of_decide_eq_true ha.1)
          refine ⟨fun x hx => ?_, fun p hp => ?_⟩
          · rcases List.mem_cons.mp hx with rfl | hx
            · exact k1
            · exact i1 x hx
          · rw [List.zip_cons_cons] at hp
            rcases List.mem_cons.mp hp with rfl | hp
            · exact k2
            · exact i2 p hp
      exact gen r e
    · cases e
theorem zip_fst : ∀ {ys : List W} {vs : List V}, vs.length = ys.length → (ys.zip vs).map Prod.fst = ys ∧ (ys.zip vs).map Prod.snd = vs
  | [], [], _ => ⟨rfl, rfl⟩
  | y :: ys, v :: vs, h => by
    obtain ⟨h1, h2⟩ := zip_fst (ys := ys) (vs := vs) (by simpa using h)
    simp [h1, h2]
  | [], _ :: _, h => by simp at h
  | _ :: _, [], h => by simp at h
theorem zip_vr : ∀ {ys : List W} {vs : List V}, VrL K w ys vs → ∀ p ∈ ys.zip vs, Vr K w p.1 p.2
  | [], vs, r, p, hp => by simp at hp
  | y :: ys, vs, ⟨v, r', e, h1, h2⟩, p, hp => by
    subst e
    rw [List.zip_cons_cons] at hp
    rcases List.mem_cons.mp hp with rfl | hp
    · exact h1
    · exact zip_vr h2 p hp
theorem vrl_pairs : ∀ (ps : List (W × V)), (∀ p ∈ ps, Vr K w p.1 p.2) → VrL K w (ps.map Prod.fst) (ps.map Prod.snd)
  | [], _ => rfl
  | p :: ps, h => ⟨_, _, rfl, h p List.mem_cons_self, vrl_pairs ps fun q hq => h q (List.mem_cons_of_mem _ hq)⟩
/-- the sorted list stands for the sorted values -/
theorem sort_vr {c : Conf} (rel : Rel K w c H) {ys : List W} {vs zs : List V} (r : VrL K w ys vs) (hk : ∀ p ∈ ys.zip vs, keyV H p.2 = keyWs p.1) (s1 : SrtO.Srtd (ltK H) zs) (s2 : SrtO.Stb (ltK H) zs vs) : VrL K w (sortW ys) zs := by
  obtain ⟨z1, z2⟩ := zip_fst r.length
  have O : SrtO.Swo fun (p q : W × V) => ltK H p.2 q.2 := swo_ord (listOrd itemOrd) fun p : W × V => keyV H p.2
  have OV : SrtO.Swo (ltK H) := swo_key (keyV H)
  have m1 : (isortO (fun (p q : W × V) => ltK H p.2 q.2) (ys.zip vs)).map Prod.fst = sortW ys := by
    have := isortO_map (lt := fun (p q : W × V) => ltK H p.2 q.2) (lt' := ltW) Prod.fst O (ys.zip vs) fun x hx y hy => by
      show lexLt itemOrd (keyWs y.1) (keyWs x.1) = lexLt itemOrd (keyV H y.2) (keyV H x.2)
      rw [hk x hx, hk y hy]
    rw [this, z1]; rfl
  have t1 := SrtO.srtd_map (lt := ltK H) (f := Prod.snd) (isortO_srtd O (ys.zip vs))
  have t2 := SrtO.Stb.map (lt := ltK H) OV Prod.snd (isortO_stb O (ys.zip vs))
  rw [z2] at t2
  have e : zs = (isortO (fun (p q : W × V) => ltK H p.2 q.2) (ys.zip vs)).map Prod.snd := SrtO.stb_uniq OV s1 t1 (s2.trans (Stb.symm t2))
  rw [e, ← m1]
  exact vrl_pairs _ fun p hp => zip_vr r p ((isortO_stb O (ys.zip vs)).perm.mem_iff.mp hp)
/-- the keys' tuples are known from here on -/
theorem keys_know {c : Conf} : ∀ {kvs : List (List Ky × W)} {us : List (List Key × V)} {bs : List Addr} {w : Wd}, Rel K w c H → us.map (·.1) = kvs.map (fun p => p.1.map ky) → IsKeys H us bs → ∃ w', w.Le w' ∧ Rel K w' c H ∧ VrL K w' (dkeysT kvs) (bs.map V.ref)
  | [], us, bs, w, rel, e, hk => by
    have : us = [] := by simpa using e
    subst this
    cases hk
    exact ⟨w, Wd.Le.refl w, rel, rfl⟩
  | kv :: kvs, us, bs, w, rel, e, hk => by
    cases us with
    | nil => simp at e
    | cons u us =>
      simp only [List.map_cons, List.cons.injEq] at e
      unfold IsKeys at hk
      cases hk with
      | @cons _ b _ bs h1 h2 =>
      obtain ⟨w1, l1, r1, k1⟩ := rel.knowT h1
      obtain ⟨w2, l2, r2, k2⟩ := keys_know r1 e.2 h2
      refine ⟨w2, l1.trans l2, r2, .ref b, bs.map V.ref, rfl, ⟨b, _, rfl, l2.k0 _ _ k1, ?_⟩, k2⟩
      rw [e.1]
      have gen : ∀ ks : List Ky, VrL K w2 (ks.map kyW) ((ks.map ky).map kV) := fun ks => by
        induction ks with
        | nil => rfl
        | cons k ks ih =>
          refine ⟨_, _, rfl, ?_, ih⟩
          cases k <;> rfl
      exact gen kv.1
theorem s_sortK : CallS K (rSortK K) oSorted := by
  intro w c H xs vs Ex Q rel r h
  unfold oSorted at h
  split at h
  · rename_i x
    obtain ⟨v, rfl, rx⟩ := r.inv1
    split at h
    · rename_i ys hys
      by_cases hok : okTs ys = true
      · rw [if_pos hok] at h
        have lists : rdL c x = some ys → rSortK K [v] H Q := fun e => by
          obtain ⟨a, us, rfl, hs, hr⟩ := rdL_ok rel rx e
          obtain ⟨shape, tp, hk⟩ := okTs_ok rel hr hok
          refine .inl ⟨a, us, shape, rfl, hs, tp, fun zs p s1 s2 hp => ?_⟩
          exact new_lst rel (sort_vr rel hr hk s1 s2) h p hp
        cases x with
        | ref i =>
          cases hc : c[i]? with
          | none => exact lists (by simpa only [srcW, hc] using hys)
          | some o =>
          cases o with
          | dit kvs =>
            simp only [srcW, hc] at hys
            cases hys
            obtain ⟨_, rfl⟩ := rx
            obtain ⟨ho, h1, _, _, us, e2, q1, q2⟩ := rel.obj i _ hc rfl
            subst e2
            have fl : ∀ ks : List Ky, VrL K w (ks.map kyW) ((ks.map ky).map kV) := fun ks => by
              induction ks with
              | nil => rfl
              | cons k ks ih =>
                refine ⟨_, _, rfl, ?_, ih⟩
                cases k <;> rfl
            have shp : ∃ shape : Nat → Bool, ∀ k ∈ us, ShOk shape 0 (k.1.map kV) ∧ k.1 ≠ [] := by
              cases kvs with
              | nil =>
                have : us = [] := by simpa using q1
                subst this
                exact ⟨fun _ => false, (fun k hk => by cases hk)⟩
              | cons kv kvs =>
                unfold okTs dkeysT at hok
                rw [List.map_cons] at hok
                simp only at hok
                split at hok
                · rename_i b bs _
                  refine ⟨fun i => (b :: bs).getD i false, fun u hu => ?_⟩
                  have hm : u.1 ∈ (kv :: kvs).map (fun p => p.1.map ky) := by rw [← q1]; exact List.mem_map.mpr ⟨u, hu, rfl⟩
                  obtain ⟨p, hp, e⟩ := List.mem_map.mp hm
                  have hb := List.all_eq_true.mp hok (.tup (p.1.map kyW)) (by rw [← List.map_cons (f := fun kv : List Ky × W => W.tup (kv.1.map kyW))]; exact List.mem_map.mpr ⟨p, hp, rfl⟩)
                  have hb := of_decide_eq_true hb
                  obtain ⟨g1, g2, g3⟩ := kinds_ok (i := 0) (shape := fun i => (b :: bs).getD i false) (fl p.1) hb fun j hj => by
                    rw [Nat.zero_add, List.getElem?_eq_getElem hj, List.getD_eq_getElem?_getD, List.getElem?_eq_getElem hj]; rfl
                  rw [← e]
                  refine ⟨g1, fun z => ?_⟩
                  rw [z] at g3; simp at g3
                · cases hok
            obtain ⟨shape, hsh⟩ := shp
            refine .inr ⟨_, us, shape, rfl, Rd.of h1, hsh, fun bs zs p isk s1 s2 hp => ?_⟩
            obtain ⟨w2, l2, rel2, r2⟩ := keys_know rel q1 isk
            obtain ⟨_, _, hk⟩ := okTs_ok rel2 r2 hok
            obtain ⟨le, rel3⟩ := rel2.frz1 hp (.lst zs)
            exact h.ok (l2.trans le) rel3 ⟨p, zs, rfl, upd_same, (sort_vr rel2 r2 hk s1 s2).mono le.v⟩
          | _ => exact lists (by simpa only [srcW, hc] using hys)
        | _ => exact lists hys
      · rw [if_neg hok] at h; exact h.elim
    · exact h.elim
  · exact h.elim
end
/-! # the head's hook, with the addresses written -/
def obsXL (as : List Addr) (fa : List Fa) (fn fp : List He.DefD) (ts : List He.Tab) (g : Addr → Option Obj) : AlX := obsX fa fn fp ts (He.frG g as)
def hookL (as : List Addr) (fa : List Fa) (fn fp : List He.DefD) (ts : List He.Tab) : PySem.W.Hook where
  α := AlX
  obs := fun s => obsXL as fa fn fp ts s.heap.get?
  val := fun w => valX fn fp ts w
  says := fun w h => ∃ K : PySem.W.Frag, K.In h ∧ SaysX fa fn fp ts w K
  of := fun _ _ e => ⟨_, He.frG_in, e⟩
  keeps := fun _ _ _ ⟨K, hK, c⟩ k => ⟨K, PySem.W.Frag.In.keeps hK k, c⟩
theorem obsXL_eq {as : List Addr} {fa : List Fa} {fn fp : List He.DefD} {ts : List He.Tab} {g : Addr → Option Obj} {s : Shared} (h : ∀ a, g a = s.heap.get? a) : obsXL as fa fn fp ts g = (hookL as fa fn fp ts).obs s := by
  have e : g = s.heap.get? := funext h
  rw [e]; rfl
end Ev
/-! # the head's run, in two parts -/
namespace HandSHeadRun
open PySem PySem.W PySem.Calls PyProof.Rows
def RunA (r : OpenRow) (q : Program) (M : Nat) (loose : List PySem.Str) (w : World) : Prop :=
  ∀ os : OsState, (endF (stepQ (denQ tabQ) r.prog w) M r.prog w os).map (fun s => (looksF r.prog (boot_heap w.params) s.abs, seenQ q loose (importedModules r.prog.main.body) (fun s => xlAt q [] s && recOk r.toRowW.records s) s.abs)) = some (true, openGood q loose)
def RunB {β : Type} (r : OpenRow) (ob : SharedT → β) (v : β) (M : Nat) (w : World) : Prop :=
  ∀ os : OsState, (endF (stepQ (denQ tabQ) r.prog w) M r.prog w os).map ob = some v
theorem run_join {r : OpenRow} {q : Program} {H : Hook} {ob : SharedT → H.α} {M : Nat} {loose : List PySem.Str} {w : World} (a : RunA r q M loose w) (b : RunB r ob (H.val w) M w) : RunEq r q H ob M loose w := by
  intro os
  have a := a os
  have b := b os
  revert a b
  cases endF (stepQ (denQ tabQ) r.prog w) M r.prog w os with
  | none => intro a; cases a
  | some s =>
    intro a b
    simp only [Option.map_some, Option.some.injEq, Prod.mk.injEq] at a b ⊢
    exact ⟨a.1, a.2, b⟩
end HandSHeadRun
namespace Ev
open PySem PySem.Spec PyProof.Rows L2 Wf TL
def KofL (as : List Addr) (s : PySem.W.SharedT) : PySem.W.Frag := He.frG (HandSHeadRun.getT s) as
theorem runB_join {r : PySem.W.OpenRow} {as : List Addr} {fa : List Fa} {fn fp : List He.DefD} {ts : List He.Tab} {M : Nat} {w w' : World}
    (h1 : HandSHeadRun.RunB r (fun s => fa.all fun f => f.ok (KofL as s)) true M w)
    (h2 : HandSHeadRun.RunB r (fun s => (fn.all fun d => d.ok (KofL as s), fn.map fun d => He.fnW (KofL as s) d.at_)) (true, fn.map He.DefD.val) M w)
    (h3 : HandSHeadRun.RunB r (fun s => (fp.map fun d => fnAt (KofL as s) (pgAd (KofL as s) d.at_), (fp.all fun d => okAt (KofL as s) (pgAd (KofL as s) d.at_) d && propB (KofL as s) d.at_), ts.map fun t => He.dicW (KofL as s) (t.1 (KofL as s)))) (fp.map He.DefD.val, true, ts.map fun t => some (He.keysIn w'.params t.2)) M w) :
    HandSHeadRun.RunB r (fun s => obsXL as fa fn fp ts (HandSHeadRun.getT s)) (valX fn fp ts w') M w := by
  intro os
  have h1 := h1 os
  have h2 := h2 os
  have h3 := h3 os
  revert h1 h2 h3
  cases HandSHeadRun.endF (HandSHeadRun.stepQ (HandSHeadRun.denQ HandSHeadRun.tabQ) r.prog w) M r.prog w os with
  | none => intro h1; cases h1
  | some s =>
    intro h1 h2 h3
    simp only [Option.map_some, Option.some.injEq, Prod.mk.injEq] at h1 h2 h3
    show some (obsX fa fn fp ts (KofL as s)) = some (valX fn fp ts w')
    unfold obsX obsW valX He.valD
    rw [h1, h2.1, h2.2, h3.1, h3.2.1, h3.2.2]
    rfl
end Ev

set_option Elab.async false
set_option linter.all false
set_option maxRecDepth 100000
set_option maxHeartbeats 4000000
namespace Ev
open PySem PySem.Spec PyProof.Rows L2 Wf TL
/-! # == and != of lists that hold the same objects -/
def AllP (E : V → V → Prop) : List V → List V → Prop
  | [], [] => True
  | x :: xs, y :: ys => E x y ∧ AllP E xs ys
  | _, _ => False
theorem AllP.len {E : V → V → Prop} : ∀ {xs ys : List V}, AllP E xs ys → xs.length = ys.length
  | [], [], _ => rfl
  | _ :: _, _ :: _, h => congrArg (· + 1) (AllP.len h.2)
  | [], _ :: _, h => h.elim
  | _ :: _, [], h => h.elim
/-- the same plain value, the same object, lists or tuples of such -/
def EqG (K : PySem.W.Frag) (H : Hp) : Nat → V → V → Prop
  | 0 => fun _ _ => False
  | n + 1 => fun x y => (x = y ∧ flatB x = true) ∨ (∃ a, x = .ref a ∧ y = .ref a) ∨ (∃ a b xs ys, x = .ref a ∧ y = .ref b ∧ SqL K H a xs ∧ SqL K H b ys ∧ AllP (EqG K H n) xs ys) ∨ ∃ a b xs ys, x = .ref a ∧ y = .ref b ∧ SqT K H a xs ∧ SqT K H b ys ∧ AllP (EqG K H n) xs ys
theorem eqG_items {A : Around} {s : Shared} {F : V → V → Prop} (ih : ∀ x y v u, F x y → RelV x v → RelV y u → SeqAt.EqAt A s v u true) : ∀ {xs ys : List V} (hp : AllP F xs ys) {us ws : List Value}, Vals xs us → Vals ys ws → ∀ j (h1 : j < us.length) (h2 : j < ws.length), SeqAt.EqAt A s us[j] ws[j] true
  | [], [], _, us, ws, r1, r2, j, h1, h2 => by
    cases r1
    exact absurd h1 (Nat.not_lt_zero j)
  | x :: xs, y :: ys, hp, us, ws, r1, r2, j, h1, h2 => by
    cases r1 with
    | cons a1 b1 =>
      cases r2 with
      | cons a2 b2 =>
        cases j with
        | zero => exact ih _ _ _ _ hp.1 a1 a2
        | succ j => exact eqG_items ih hp.2 b1 b2 j (Nat.lt_of_succ_lt_succ h1) (Nat.lt_of_succ_lt_succ h2)
  | [], _ :: _, hp, _, _, _, _, _, _, _ => hp.elim
  | _ :: _, [], hp, _, _, _, _, _, _, _ => hp.elim
section
variable {X : Cx} {pins : List (Addr × Obj)} {s : Shared} {σ : L2.St} {H : Hp}
theorem allTrueN (n : Nat) : ((List.range n).all fun _ => true) = true := List.all_eq_true.mpr fun _ _ => rfl
theorem eqG_lists (I : Inv X pins σ H s) {A : Around} {F : V → V → Prop} (ih : ∀ x y v u, F x y → RelV x v → RelV y u → SeqAt.EqAt A.in1 s v u true) {a b : Addr} {xs ys : List V} (ha : SqL X.K H a xs) (hb : SqL X.K H b ys) (hp : AllP F xs ys) :
    ∃ us ws : Array Value, s.heap.IsList a us ∧ s.heap.IsList b ws ∧ us.size = ws.size ∧ ∀ j (h1 : j < us.size) (h2 : j < ws.size), SeqAt.EqAt A.in1 s us[j] ws[j] true := by
  obtain ⟨us, r1, p1, _⟩ := I.list ha
  obtain ⟨ws, r2, p2, _⟩ := I.list hb
  refine ⟨us.toArray, ws.toArray, p1.isList, p2.isList, ?_, fun j h1 h2 => ?_⟩
  · rw [List.size_toArray, List.size_toArray, ← r1.length, ← r2.length]
    exact hp.len
  · have k := eqG_items ih hp r1 r2 j (by simpa using h1) (by simpa using h2)
    simpa using k
theorem eqG_run (I : Inv X pins σ H s) : ∀ (n : Nat) (A : Around), A.units + n < cLine → ∀ (x y : V) (v u : Value), EqG X.K H n x y → RelV x v → RelV y u → SeqAt.EqAt A s v u true
  | 0, _, _, _, _, _, _, h, _, _ => (show False from h).elim
  | n + 1, A, hu, x, y, v, u, h, rx, ry => by
    have ih := eqG_run I n A.in1 (by show A.units + 1 + n < cLine; omega)
    rcases h with ⟨rfl, f⟩ | ⟨a, rfl, rfl⟩ | ⟨a, b, xs, ys, rfl, rfl, ha, hb, hp⟩ | ⟨a, b, xs, ys, rfl, rfl, ha, hb, hp⟩
    · exact eqAt_same rx ry f
    · cases (show v = Value.ref a from rx)
      cases (show u = Value.ref a from ry)
      exact SeqAt.EqAt.same _
    · cases (show v = Value.ref a from rx)
      cases (show u = Value.ref b from ry)
      by_cases e : a = b
      · subst e; exact SeqAt.EqAt.same _
      · obtain ⟨us, ws, h1, h2, hsz, he⟩ := eqG_lists I (A := A) ih ha hb hp
        have := SeqAt.EqAt.of_refs e (SeqAt.RcAt.lists (e := fun _ => true) h1 h2 hsz (by omega) he)
        rwa [allTrueN] at this
    · cases (show v = Value.ref a from rx)
      cases (show u = Value.ref b from ry)
      by_cases e : a = b
      · subst e; exact SeqAt.EqAt.same _
      · obtain ⟨us, r1, p1, _⟩ := I.tuple ha
        obtain ⟨ws, r2, p2, _⟩ := I.tuple hb
        have hsz : us.toArray.size = ws.toArray.size := by
          rw [List.size_toArray, List.size_toArray, ← r1.length, ← r2.length]
          exact hp.len
        have := SeqAt.EqAt.of_refs e (SeqAt.RcAt.tuples (e := fun _ => true) (A := A) (s := s) p1 p2 (by omega) fun j h1 h2 => by
          have k := eqG_items ih hp r1 r2 j (by simpa using h1) (by simpa using h2)
          simpa using k)
        rw [allTrueN, hsz] at this
        simpa using this
end
/-- the two lists, their items equal -/
def EqT (K : PySem.W.Frag) (H : Hp) (x y : V) : Prop := ∃ n a b xs ys, n ≤ 60 ∧ x = .ref a ∧ y = .ref b ∧ SqL K H a xs ∧ SqL K H b ys ∧ AllP (EqG K H n) xs ys
def rSame (K : PySem.W.Frag) (neg : Bool) : R2 := fun x y H Q => EqT K H x y ∧ Q (.bl (!neg)) H
section
variable {X : Cx}
theorem op_sameEq (hu : X.A.units + 64 < cLine) : OpR X (compareOp .Eq) (rSame X.K false) := by
  intro pins s σ H x y v u Q I rx ry ⟨⟨n, a, b, xs, ys, hn, ex, ey, ha, hb, hp⟩, q⟩
  subst ex ey
  cases (show v = Value.ref a from rx)
  cases (show u = Value.ref b from ry)
  obtain ⟨us, ws, h1, h2, hsz, he⟩ := eqG_lists I (A := X.A) (eqG_run I n X.A.in1 (by show X.A.units + 1 + n < cLine; omega)) ha hb hp
  have := SeqAt.RcAt.lists (e := fun _ => true) h1 h2 hsz (by omega) he
  rw [allTrueN] at this
  exact this _ _ _ _ ⟨.bl true, H, I, rfl, q⟩
theorem op_sameNe (hu : X.A.units + 64 < cLine) : OpR X (compareOp .NotEq) (rSame X.K true) := by
  intro pins s σ H x y v u Q I rx ry ⟨⟨n, a, b, xs, ys, hn, ex, ey, ha, hb, hp⟩, q⟩
  subst ex ey
  cases (show v = Value.ref a from rx)
  cases (show u = Value.ref b from ry)
  obtain ⟨us, ws, h1, h2, hsz, he⟩ := eqG_lists I (A := X.A) (eqG_run I n X.A.in1 (by show X.A.units + 1 + n < cLine; omega)) ha hb hp
  have := SeqAt.RcNeAt.lists (e := fun _ => true) h1 h2 hsz (by omega) he
  rw [allTrueN] at this
  exact this _ _ _ _ ⟨.bl false, H, I, rfl, q⟩
end
/-! ## in the evaluator: lists that read the same -/
def isN : W → Bool | .non => true | _ => false
def asB : W → Option Bool | .bl b => some b | _ => none
def asI : W → Option Int | .int b => some b | _ => none
def asS : W → Option (List Nat) | .str b => some b | _ => none
def asR : W → Option Nat | .ref b => some b | _ => none
def asT : W → Option (List W) | .tup b => some b | _ => none
def asL : W → Option (List W) | .lst b => some b | _ => none
mutual
def idW (n : Nat) (x y : W) : Bool := match x with
  | .non => isN y
  | .bl a => decide (asB y = some a)
  | .int a => decide (asI y = some a)
  | .str a => decide (asS y = some a)
  | .ref a => decide (asR y = some a)
  | .tup xs => (match n, asT y with | n + 1, some ys => idL n xs ys | _, _ => false)
  | .lst xs => (match n, asL y with | n + 1, some ys => idL n xs ys | _, _ => false)
  | _ => false
termination_by (sizeOf x, n)
def idL (n : Nat) (xs ys : List W) : Bool := match xs with
  | [] => ys.isEmpty
  | x :: xs => (match ys with | y :: ys => idW n x y && idL n xs ys | [] => false)
termination_by (sizeOf xs, n)
end
def oSame (neg : Bool) (f : W → W → Conf → Out W) : W → W → Conf → Out W := fun x y c => match x, y with
  | .lst xs, .lst ys => if idL 50 xs ys = true then .ok (.bl (!neg)) c else f x y c
  | x, y => f x y c
section
variable {K : PySem.W.Frag} {w : Wd} {c : Conf} {H : Hp}
theorem isN_e {y : W} (h : isN y = true) : y = .non := by cases y <;> first | rfl | cases h
theorem asB_e {y : W} {b : Bool} (h : asB y = some b) : y = .bl b := by cases y <;> first | (cases h; rfl) | cases h
theorem asI_e {y : W} {b : Int} (h : asI y = some b) : y = .int b := by cases y <;> first | (cases h; rfl) | cases h
theorem asS_e {y : W} {b : List Nat} (h : asS y = some b) : y = .str b := by cases y <;> first | (cases h; rfl) | cases h
theorem asR_e {y : W} {b : Nat} (h : asR y = some b) : y = .ref b := by cases y <;> first | (cases h; rfl) | cases h
theorem asT_e {y : W} {b : List W} (h : asT y = some b) : y = .tup b := by cases y <;> first | (cases h; rfl) | cases h
theorem asL_e {y : W} {b : List W} (h : asL y = some b) : y = .lst b := by cases y <;> first | (cases h; rfl) | cases h
mutual
theorem idW_ok (rel : Rel K w c H) (n : Nat) (x y : W) (vx vy : V) (h : idW n x y = true) (h1 : Vr K w x vx) (h2 : Vr K w y vy) : EqG K H (n + 1) vx vy := by
  unfold idW at h
  cases x with
  | non =>
    have e := isN_e h
    subst e
    exact .inl ⟨by rw [show _ = V.non from h1, show _ = V.non from h2], by rw [show _ = V.non from h1]; rfl⟩
  | bl a =>
    have e := asB_e (of_decide_eq_true h)
    subst e
    exact .inl ⟨by rw [show _ = V.bl a from h1, show _ = V.bl a from h2], by rw [show _ = V.bl a from h1]; rfl⟩
  | int a =>
    have e := asI_e (of_decide_eq_true h)
    subst e
    exact .inl ⟨by rw [show _ = V.int a from h1, show _ = V.int a from h2], by rw [show _ = V.int a from h1]; rfl⟩
  | str a =>
    have e := asS_e (of_decide_eq_true h)
    subst e
    exact .inl ⟨by rw [show _ = V.str (mk a) from h1, show _ = V.str (mk a) from h2], by rw [show _ = V.str (mk a) from h1]; rfl⟩
  | ref a =>
    have e := asR_e (of_decide_eq_true h)
    subst e
    exact .inr (.inl ⟨w.φ a, h1.2, h2.2⟩)
  | tup xs =>
    simp only at h
    split at h
    · rename_i m ys e
      have e := asT_e e
      subst e
      obtain ⟨a, us, e1, k1, r1⟩ := h1
      obtain ⟨b, vs, e2, k2, r2⟩ := h2
      exact .inr (.inr (.inr ⟨a, b, us, vs, e1, e2, .inl (.inl (rel.k0 _ _ k1)), .inl (.inl (rel.k0 _ _ k2)), idL_ok rel m xs ys us vs h r1 r2⟩))
    · cases h
  | lst xs =>
    simp only at h
    split at h
    · rename_i m ys e
      have e := asL_e e
      subst e
      obtain ⟨a, us, e1, k1, r1⟩ := h1
      obtain ⟨b, vs, e2, k2, r2⟩ := h2
      exact .inr (.inr (.inl ⟨a, b, us, vs, e1, e2, .inl (.inl (rel.k0 _ _ k1)), .inl (.inl (rel.k0 _ _ k2)), idL_ok rel m xs ys us vs h r1 r2⟩))
    · cases h
  | wtp _ => cases h
  | wls _ => cases h
  | ty _ => cases h
  | glo _ => cases h
  | exn _ _ => cases h
  | exb _ => cases h
termination_by (sizeOf x, n)
theorem idL_ok (rel : Rel K w c H) (n : Nat) (xs ys : List W) (us vs : List V) (h : idL n xs ys = true) (h1 : VrL K w xs us) (h2 : VrL K w ys vs) : AllP (EqG K H (n + 1)) us vs := by
  unfold idL at h
  cases xs with
  | nil =>
    cases ys with
    | nil => cases (show _ = _ from h1); cases (show _ = _ from h2); trivial
    | cons y ys => cases h
  | cons x xs =>
    cases ys with
    | nil => cases h
    | cons y ys =>
      simp only [Bool.and_eq_true] at h
      obtain ⟨v1, r1, e1, a1, b1⟩ := h1
      obtain ⟨v2, r2, e2, a2, b2⟩ := h2
      subst e1 e2
      exact ⟨idW_ok rel n x y v1 v2 h.1 a1 a2, idL_ok rel n xs ys r1 r2 h.2 b1 b2⟩
termination_by (sizeOf xs, n)
end
theorem s_same {neg : Bool} {r : R2} {f : W → W → Conf → Out W} (hf : OpS K r f) : OpS K (kOr2 (rSame K neg) r) (oSame neg f) := by
  intro w c H x y vx vy Ex Q rel rx ry h
  unfold oSame at h
  split at h
  · rename_i xs ys
    split at h
    · rename_i hi
      obtain ⟨a, us, e1, k1, r1⟩ := rx
      obtain ⟨b, vs, e2, k2, r2⟩ := ry
      exact .inl ⟨⟨51, a, b, us, vs, by omega, e1, e2, .inl (.inl (rel.k0 _ _ k1)), .inl (.inl (rel.k0 _ _ k2)), idL_ok rel 50 xs ys us vs hi r1 r2⟩, h.ok (Wd.Le.refl w) rel rfl⟩
    · exact .inr (hf w c H _ _ vx vy Ex Q rel rx ry h)
  · exact .inr (hf w c H _ _ vx vy Ex Q rel rx ry h)
end
end Ev

set_option Elab.async false
set_option linter.all false
set_option maxRecDepth 100000
set_option maxHeartbeats 4000000
namespace Ev
/-! # what an evaluator reaches, backwards -/
def OP {α : Type} (o : Out α) (P : α → Conf → Prop) (E : Xc → Conf → Prop) : Prop := match o with
  | .ok x c => P x c
  | .exc x c => E x c
  | .bad => False
structure Kn where
  nx : Sl → Conf → Prop
  rt : W → Conf → Prop
  bk : Sl → Conf → Prop
  ct : Sl → Conf → Prop
  xc : Xc → Sl → Conf → Prop
def SP (r : So) (k : Kn) : Prop := match r with
  | .ok (.nx ss) c => k.nx ss c
  | .ok (.rt v) c => k.rt v c
  | .ok (.bk ss) c => k.bk ss c
  | .ok (.ct ss) c => k.ct ss c
  | .exc x ss c => k.xc x ss c
  | .bad => False
def noE : Xc → Conf → Prop := fun _ _ => False
section
variable {α β : Type} {o : Out α} {P P' : α → Conf → Prop} {E E' : Xc → Conf → Prop} {f : α → Conf → Out β} {Q : β → Conf → Prop} {x : α} {c c' : Conf}
theorem OP.imp (h : OP o P E) (i : ∀ x c, P x c → P' x c) (j : ∀ x c, E x c → E' x c) : OP o P' E' := by
  cases o with
  | ok x c => exact i _ _ h
  | exc x c => exact j _ _ h
  | bad => exact h
theorem OP.of (e : o = .ok x c) (h : P x c) : OP o P E := by rw [e]; exact h
theorem w_bind (h : OP o (fun x c1 => OP (f x c1) Q E) E) : OP (o.bind f) Q E := by
  cases o with
  | ok x c => exact h
  | exc x c => exact h
  | bad => exact h
theorem OP.ok (h : OP o P noE) : ∃ x c, o = .ok x c ∧ P x c := by
  cases o with
  | ok x c => exact ⟨x, c, rfl, h⟩
  | exc x c => exact h.elim
  | bad => exact h.elim
theorem w_ite {p : Prop} [Decidable p] {o' : Out α} (hp : p) (h : OP o P E) : OP (if p then o else o') P E := by rw [if_pos hp]; exact h
end
section
variable {P : W → Conf → Prop} {PB : Bool → Conf → Prop} {PL : List W → Conf → Prop} {PI : Option Int → Conf → Prop} {E : Xc → Conf → Prop} {c : Conf} {ss : Sl} {k : Kn} {f g : W → W → Conf → Out W} {ea eb ec eo ei ev : Ee} {aa : Ea} {ba bb : Et} {sa sb : Es} {x y v : W} {xs ys : List W} {i j : Int} {n m q : Nat} {s t : List Nat} {b : Bool}
  {p : Pat} {C fl mm : Nm} {ef : Fn} {ds : List W} {fs : List (Nm × W)}
theorem w_var (h : ss[n]? = some (some x)) (hx : isEx (some x) = false) (k : P x c) : OP (eVar n ss c) P E := by
  unfold eVar; rw [h]; simp only [hx]; exact k
theorem w_c (k : P x c) : OP (eC x ss c) P E := k
theorem w_bin (h : OP (ea ss c) (fun x c1 => OP (eb ss c1) (fun y c2 => OP (f x y c2) P E) E) E) : OP (eBin f ea eb ss c) P E :=
  w_bind (h.imp (fun _ _ h => w_bind h) fun _ _ h => h)
theorem w_un {f : W → Conf → Out W} (h : OP (ea ss c) (fun x c1 => OP (f x c1) P E) E) : OP (eUn f ea ss c) P E := w_bind h
theorem w_and (h : OP (ea ss c) (fun x c1 => ∃ b, x = .bl b ∧ (b = true → OP (eb ss c1) P E) ∧ (b = false → P (.bl false) c1)) E) : OP (eAnd ea eb ss c) P E := by
  refine w_bind (h.imp ?_ fun _ _ h => h)
  rintro x c1 ⟨b, rfl, h1, h2⟩
  cases b
  · exact h2 rfl
  · exact h1 rfl
theorem w_or (h : OP (ea ss c) (fun x c1 => ∃ b, x = .bl b ∧ (b = true → P (.bl true) c1) ∧ (b = false → OP (eb ss c1) P E)) E) : OP (eOr ea eb ss c) P E := by
  refine w_bind (h.imp ?_ fun _ _ h => h)
  rintro x c1 ⟨b, rfl, h1, h2⟩
  cases b
  · exact h2 rfl
  · exact h1 rfl
theorem w_not (h : OP (ea ss c) (fun x c1 => ∃ b, x = .bl b ∧ P (.bl (!b)) c1) E) : OP (eNot ea ss c) P E := by
  refine w_bind (h.imp ?_ fun _ _ h => h)
  rintro x c1 ⟨b, rfl, h1⟩
  exact h1
theorem w_if (h : OP (ba ss c) (fun b c1 => (b = true → OP (ea ss c1) P E) ∧ (b = false → OP (eb ss c1) P E)) E) : OP (eIf ba ea eb ss c) P E := by
  refine w_bind (h.imp ?_ fun _ _ h => h)
  rintro b c1 ⟨h1, h2⟩
  cases b
  · exact h2 rfl
  · exact h1 rfl
theorem w_bB (h : OP (ea ss c) (fun x c1 => ∃ b, x = .bl b ∧ PB b c1) E) : OP (bB ea ss c) PB E := by
  refine w_bind (h.imp ?_ fun _ _ h => h)
  rintro x c1 ⟨b, rfl, h1⟩
  exact h1
theorem w_bl {P : Bool → Prop} (h : P b) : ∃ b', W.bl b = .bl b' ∧ P b' := ⟨b, rfl, h⟩
theorem w_bAnd (h : OP (ba ss c) (fun b c1 => (b = true → OP (bb ss c1) PB E) ∧ (b = false → PB false c1)) E) : OP (bAnd ba bb ss c) PB E := by
  refine w_bind (h.imp ?_ fun _ _ h => h)
  rintro b c1 ⟨h1, h2⟩
  cases b
  · exact h2 rfl
  · exact h1 rfl
theorem w_bOr (h : OP (ba ss c) (fun b c1 => (b = true → PB true c1) ∧ (b = false → OP (bb ss c1) PB E)) E) : OP (bOr ba bb ss c) PB E := by
  refine w_bind (h.imp ?_ fun _ _ h => h)
  rintro b c1 ⟨h1, h2⟩
  cases b
  · exact h2 rfl
  · exact h1 rfl
theorem w_bNot (h : OP (ba ss c) (fun b c1 => PB (!b) c1) E) : OP (bNot ba ss c) PB E := w_bind h
theorem w_bYes (h : PB true c) : OP (bYes ss c) PB E := h
theorem w_nil (h : PL [] c) : OP (aNil ss c) PL E := h
theorem w_cons (h : OP (ea ss c) (fun x c1 => OP (aa ss c1) (fun xs c2 => PL (x :: xs) c2) E) E) : OP (aCons ea aa ss c) PL E :=
  w_bind (h.imp (fun _ _ h => w_bind h) fun _ _ h => h)
theorem w_tup (h : OP (aa ss c) (fun xs c1 => xs.length ≤ 1000000 ∧ P (.tup xs) c1) E) : OP (eTup aa ss c) P E := w_bind (h.imp (fun _ _ h => w_ite h.1 h.2) fun _ _ h => h)
theorem w_lst (h : OP (aa ss c) (fun xs c1 => xs.length ≤ 1000000 ∧ P (.lst xs) c1) E) : OP (eLst aa ss c) P E := w_bind (h.imp (fun _ _ h => w_ite h.1 h.2) fun _ _ h => h)
theorem w_lstO (h : OP (aa ss c) (fun xs c1 => xs.length ≤ 1000000 ∧ P (.ref c1.length) (c1 ++ [.lst xs])) E) : OP (eLstO aa ss c) P E := w_bind (h.imp (fun _ _ h => w_ite h.1 h.2) fun _ _ h => h)
theorem w_cb {f : List W → Conf → Out W} (h : OP (aa ss c) (fun xs c1 => OP (f xs c1) P E) E) : OP (eCB f aa ss c) P E := w_bind h
theorem w_call (h : OP (aa ss c) (fun xs c1 => OP (ef (xs ++ ds) c1) P E) E) : OP (eCall ef ds aa ss c) P E := w_bind h
theorem w_call0 (h : OP (aa ss c) (fun xs c1 => OP (ef xs c1) P E) E) : OP (eCall ef [] aa ss c) P E := w_bind (h.imp (fun _ _ h => by rw [List.append_nil]; exact h) fun _ _ h => h)
theorem w_bm {T : String} {f : W → List W → Conf → Out W} (h : OP (eo ss c) (fun x c1 => tyOk T c1 x = true ∧ OP (aa ss c1) (fun xs c2 => OP (f x xs c2) P E) E) E) : OP (eBM T f eo aa ss c) P E :=
  w_bind (h.imp (fun _ _ h => w_ite h.1 (w_bind h.2)) fun _ _ h => h)
theorem w_bm0 {T : String} {f : W → List W → Conf → Out W} (h : OP (eo ss c) (fun x c1 => tyOk T c1 x = true ∧ OP (f x [] c1) P E) E) : OP (eBM0 T f eo ss c) P E :=
  w_bind (h.imp (fun _ _ h => w_ite h.1 h.2) fun _ _ h => h)
theorem w_sl {f : W → Option Int → Option Int → Conf → Out W} {el eu : Eo} (h : OP (ea ss c) (fun x c1 => OP (el ss c1) (fun lo c2 => OP (eu ss c2) (fun hi c3 => OP (f x lo hi c3) P E) E) E) E) : OP (eSl f ea el eu ss c) P E :=
  w_bind (h.imp (fun _ _ h => w_bind (h.imp (fun _ _ h => w_bind h) fun _ _ h => h)) fun _ _ h => h)
theorem w_noPart (h : PI none c) : OP (eNoPart ss c) PI E := h
theorem w_part (h : OP (ea ss c) (fun x c1 => ∃ i, x = .int i ∧ PI (some i) c1) E) : OP (ePart ea ss c) PI E := by
  refine w_bind (h.imp ?_ fun _ _ h => h)
  rintro x c1 ⟨b, rfl, h1⟩
  exact h1
theorem w_int {P : Int → Prop} (h : P i) : ∃ i', W.int i = .int i' ∧ P i' := ⟨i, rfl, h⟩
theorem w_chain (h : OP (ea ss c) (fun x c1 => OP (eb ss c1) (fun y c2 => OP (f x y c2) (fun z c3 => ∃ b, z = .bl b ∧ (b = true → OP (ec ss c3) (fun u c4 => OP (g y u c4) P E) E) ∧ (b = false → P (.bl false) c3)) E) E) E) : OP (eChain f g ea eb ec ss c) P E := by
  refine w_bind (h.imp (fun _ _ h => w_bind (h.imp (fun _ _ h => w_bind (h.imp ?_ fun _ _ h => h)) fun _ _ h => h)) fun _ _ h => h)
  rintro x c1 ⟨b, rfl, h1, h2⟩
  cases b
  · exact h2 rfl
  · exact w_bind (h1 rfl)
theorem w_fld (h : OP (eo ss c) (fun x c1 => ∃ fs z, insW c1 x = some (C, fs) ∧ lkp fs fl = some z ∧ P z c1) E) : OP (eFld C fl eo ss c) P E := by
  refine w_bind (h.imp ?_ fun _ _ h => h)
  rintro x c1 ⟨fs, z, h1, h2, h3⟩
  rw [h1]
  simp only [if_true, h2]
  exact h3
theorem w_meth (h : OP (eo ss c) (fun x c1 => ∃ fs, insW c1 x = some (C, fs) ∧ lkp fs mm = none ∧ OP (aa ss c1) (fun xs c2 => OP (ef (x :: (xs ++ ds)) c2) P E) E) E) : OP (eMeth C mm ef ds eo aa ss c) P E := by
  refine w_bind (h.imp ?_ fun _ _ h => h)
  rintro x c1 ⟨fs, h1, h2, h3⟩
  rw [h1]
  simp only [h2]
  exact w_ite ⟨trivial, rfl⟩ (w_bind h3)
theorem w_methB (h : OP (eo ss c) (fun x c1 => ∃ fs, insW c1 x = some (C, fs) ∧ lkp fs mm = none ∧ OP (ea ss c1) (fun y c2 => ∃ ys, (rdL c2 y = some ys ∨ (rdL c2 y = none ∧ rdT y = some ys)) ∧ OP (ef (x :: ys) c2) P E) E) E) : OP (eMethB C mm ef eo ea ss c) P E := by
  refine w_bind (h.imp ?_ fun _ _ h => h)
  rintro x c1 ⟨fs, h1, h2, h3⟩
  rw [h1]
  simp only [h2]
  refine w_ite ⟨trivial, rfl⟩ (w_bind (h3.imp ?_ fun _ _ h => h))
  rintro y c2 ⟨ys, h4 | ⟨h4, h5⟩, h6⟩
  · rw [h4]; exact h6
  · rw [h4]; simp only [h5]; exact h6
theorem w_make (h : OP (aa ss c) (fun xs c1 => OP (ef (.ref c1.length :: (xs ++ ds)) (c1 ++ [.ins C []])) (fun r c2 => r = .non ∧ P (.ref c1.length) c2) E) E) : OP (eMake C ef ds aa ss c) P E := by
  refine w_bind (h.imp (fun xs c1 h => w_bind (h.imp ?_ fun _ _ h => h)) fun _ _ h => h)
  rintro r c2 ⟨rfl, h⟩
  exact h
/-! ## statements -/
theorem w_lift {α : Type} {o : Out α} {f : α → Conf → So} (h : OP o (fun r c1 => SP (f r c1) k) fun x c1 => k.xc x ss c1) : SP (So.lift ss o f) k := by
  cases o with
  | ok x c => exact h
  | exc x c => exact h
  | bad => exact h
theorem w_thn {r : So} {f : Sl → Conf → So} (h : SP r ⟨fun ss1 c1 => SP (f ss1 c1) k, k.rt, k.bk, k.ct, k.xc⟩) : SP (r.thn f) k := by
  cases r with
  | ok fl c => cases fl <;> exact h
  | exc x ss c => exact h
  | bad => exact h
theorem w_seq {nx bk ct : Sl → Conf → Prop} {rt : W → Conf → Prop} {xc : Xc → Sl → Conf → Prop} (h : SP (sa ss c) ⟨fun ss1 c1 => SP (sb ss1 c1) ⟨nx, rt, bk, ct, xc⟩, rt, bk, ct, xc⟩) : SP (sSeq sa sb ss c) ⟨nx, rt, bk, ct, xc⟩ := w_thn h
theorem w_next {nx bk ct : Sl → Conf → Prop} {rt : W → Conf → Prop} {xc : Xc → Sl → Conf → Prop} (h : nx ss c) : SP (sNext ss c) ⟨nx, rt, bk, ct, xc⟩ := h
theorem w_ret {nx bk ct : Sl → Conf → Prop} {rt : W → Conf → Prop} {xc : Xc → Sl → Conf → Prop} (h : OP (ea ss c) rt fun x c1 => xc x ss c1) : SP (sRet ea ss c) ⟨nx, rt, bk, ct, xc⟩ := w_lift h
theorem w_retN {nx bk ct : Sl → Conf → Prop} {rt : W → Conf → Prop} {xc : Xc → Sl → Conf → Prop} (h : rt .non c) : SP (sRetN ss c) ⟨nx, rt, bk, ct, xc⟩ := h
theorem w_drop {nx bk ct : Sl → Conf → Prop} {rt : W → Conf → Prop} {xc : Xc → Sl → Conf → Prop} (h : OP (ea ss c) (fun _ c1 => nx ss c1) fun x c1 => xc x ss c1) : SP (sDrop ea ss c) ⟨nx, rt, bk, ct, xc⟩ := w_lift h
theorem w_break {nx bk ct : Sl → Conf → Prop} {rt : W → Conf → Prop} {xc : Xc → Sl → Conf → Prop} (h : bk ss c) : SP (sBreak ss c) ⟨nx, rt, bk, ct, xc⟩ := h
theorem w_cont {nx bk ct : Sl → Conf → Prop} {rt : W → Conf → Prop} {xc : Xc → Sl → Conf → Prop} (h : ct ss c) : SP (sCont ss c) ⟨nx, rt, bk, ct, xc⟩ := h
theorem w_ifS (h : OP (ba ss c) (fun b c1 => (b = true → SP (sa ss c1) k) ∧ (b = false → SP (sb ss c1) k)) fun x c1 => k.xc x ss c1) : SP (sIf ba sa sb ss c) k := by
  refine w_lift (h.imp ?_ fun _ _ h => h)
  rintro b c1 ⟨h1, h2⟩
  cases b
  · exact h2 rfl
  · exact h1 rfl
theorem w_asg {nx bk ct : Sl → Conf → Prop} {rt : W → Conf → Prop} {xc : Xc → Sl → Conf → Prop} (h : OP (ea ss c) (fun x c1 => nx (ss.set n (some x)) c1) fun x c1 => xc x ss c1) : SP (sAsg ea (.nm n) ss c) ⟨nx, rt, bk, ct, xc⟩ := w_lift h
theorem w_asgP {nx bk ct : Sl → Conf → Prop} {rt : W → Conf → Prop} {xc : Xc → Sl → Conf → Prop} (h : OP (ea ss c) (fun x c1 => ∃ ss1, wPat p x ss = some ss1 ∧ nx ss1 c1) fun x c1 => xc x ss c1) : SP (sAsg ea p ss c) ⟨nx, rt, bk, ct, xc⟩ := by
  refine w_lift (h.imp ?_ fun _ _ h => h)
  rintro x c1 ⟨ss1, h1, h2⟩
  rw [h1]; exact h2
theorem w_par {nx bk ct : Sl → Conf → Prop} {rt : W → Conf → Prop} {xc : Xc → Sl → Conf → Prop} (h : OP (aa ss c) (fun xs c1 => ∃ x y, xs = [x, y] ∧ nx ((ss.set n (some x)).set m (some y)) c1) fun x c1 => xc x ss c1) : SP (sPar n m aa ss c) ⟨nx, rt, bk, ct, xc⟩ := by
  refine w_lift (h.imp ?_ fun _ _ h => h)
  rintro x c1 ⟨x, y, rfl, h2⟩
  exact h2
theorem w_setI {nx bk ct : Sl → Conf → Prop} {rt : W → Conf → Prop} {xc : Xc → Sl → Conf → Prop} (h : OP (ev ss c) (fun v c1 => OP (eo ss c1) (fun o c2 => OP (ei ss c2) (fun i c3 => ∃ c4, putI c3 o i v = some c4 ∧ nx ss c4) fun x c1 => xc x ss c1) fun x c1 => xc x ss c1) fun x c1 => xc x ss c1) : SP (sSetI ev eo ei ss c) ⟨nx, rt, bk, ct, xc⟩ := by
  refine w_lift (h.imp (fun _ _ h => w_lift (h.imp (fun _ _ h => w_lift (h.imp ?_ fun _ _ h => h)) fun _ _ h => h)) fun _ _ h => h)
  rintro x c1 ⟨c4, h1, h2⟩
  rw [h1]; exact h2
theorem w_putF {nx bk ct : Sl → Conf → Prop} {rt : W → Conf → Prop} {xc : Xc → Sl → Conf → Prop} (h : OP (ev ss c) (fun y c1 => OP (eo ss c1) (fun x c2 => ∃ i fs, x = .ref i ∧ c2[i]? = some (.ins C fs) ∧ fs.length < 1000 ∧ nx ss (c2.set i (.ins C (putW fl y fs)))) fun x c1 => xc x ss c1) fun x c1 => xc x ss c1) : SP (sPutF C fl eo ev ss c) ⟨nx, rt, bk, ct, xc⟩ := by
  refine w_lift (h.imp (fun _ _ h => w_lift (h.imp ?_ fun _ _ h => h)) fun _ _ h => h)
  rintro x c1 ⟨i, fs, rfl, h1, h2, h3⟩
  simp only [h1]
  rw [if_pos ⟨trivial, h2⟩]; exact h3
theorem w_raise {nx bk ct : Sl → Conf → Prop} {rt : W → Conf → Prop} {xc : Xc → Sl → Conf → Prop} {idx : List (Nm × Nat)} (h : OP (aa ss c) (fun ws c1 => (ws.length = n ∧ n ≤ 1000 ∧ (idx.all fun p => decide (p.2 < n)) = true) ∧ xc (.own C (idxW idx ws)) ss c1) fun x c1 => xc x ss c1) : SP (sRaise C n idx aa ss c) ⟨nx, rt, bk, ct, xc⟩ := by
  refine w_lift (h.imp ?_ fun _ _ h => h)
  rintro ws c1 ⟨h1, h2⟩
  rw [if_pos h1]; exact h2
/-! ## a def -/
theorem w_def (hl : xs.length = n) (h : SP (sa (xs.map some ++ List.replicate (m - n) none) c) ⟨fun _ c => P .non c, P, fun _ _ => False, fun _ _ => False, fun x _ c => E x c⟩) : OP (eDef n m sa xs c) P E := by
  unfold eDef
  rw [if_pos hl]
  revert h
  cases sa (xs.map some ++ List.replicate (m - n) none) c with
  | ok fl c => cases fl <;> exact fun h => h
  | exc x ss c => exact fun h => h
  | bad => exact fun h => h
/-! ## loops -/
theorem w_turn {r : So} {f : Sl → Conf → So} (h : SP r ⟨fun ss1 c1 => SP (f ss1 c1) k, k.rt, k.nx, fun ss1 c1 => SP (f ss1 c1) k, k.xc⟩) : SP (r.turn f) k := by
  cases r with
  | ok fl c => cases fl <;> exact h
  | exc x ss c => exact h
  | bad => exact h
/-- by what holds before each turn: Inv done rest slots objects -/
theorem w_goFor {nx bk ct : Sl → Conf → Prop} {rt : W → Conf → Prop} {xc : Xc → Sl → Conf → Prop} (Inv : List W → List W → Sl → Conf → Prop)
    (hs : ∀ a x r ss c, Inv a (x :: r) ss c → ∃ ss1, wPat p x ss = some ss1 ∧ SP (sa ss1 c) ⟨Inv (a ++ [x]) r, rt, nx, Inv (a ++ [x]) r, xc⟩) (hd : ∀ a ss c, Inv a [] ss c → nx ss c) : ∀ (r a : List W) (ss : Sl) (c : Conf), Inv a r ss c → SP (goFor p sa r ss c) ⟨nx, rt, bk, ct, xc⟩
  | [], a, ss, c, h => hd a ss c h
  | x :: r, a, ss, c, h => by
    obtain ⟨ss1, h1, h2⟩ := hs a x r ss c h
    simp only [goFor, h1]
    refine w_turn ?_
    revert h2
    cases sa ss1 c with
    | ok fl c1 =>
      cases fl with
      | nx ss2 => exact fun h2 => w_goFor Inv hs hd r _ ss2 c1 h2
      | ct ss2 => exact fun h2 => w_goFor Inv hs hd r _ ss2 c1 h2
      | bk ss2 => exact fun h2 => h2
      | rt v => exact fun h2 => h2
    | exc x ss c => exact fun h2 => h2
    | bad => exact fun h2 => h2
theorem w_forL (h : OP (ea ss c) (fun x c1 => ∃ xs, itL x = some xs ∧ SP (goFor p sa xs ss c1) k) fun x c1 => k.xc x ss c1) : SP (sForL ea p sa ss c) k := by
  refine w_lift (h.imp ?_ fun _ _ h => h)
  rintro x c1 ⟨xs, h1, h2⟩
  rw [h1]; exact h2
theorem w_forT (h : OP (ea ss c) (fun x c1 => ∃ xs, rdT x = some xs ∧ SP (goFor p sa xs ss c1) k) fun x c1 => k.xc x ss c1) : SP (sForT ea p sa ss c) k := by
  refine w_lift (h.imp ?_ fun _ _ h => h)
  rintro x c1 ⟨xs, h1, h2⟩
  rw [h1]; exact h2
theorem w_forS (h : OP (ea ss c) (fun x c1 => ∃ s, x = .str s ∧ SP (goFor p sa (s.map fun n => .str [n]) ss c1) k) fun x c1 => k.xc x ss c1) : SP (sForS ea p sa ss c) k := by
  refine w_lift (h.imp ?_ fun _ _ h => h)
  rintro x c1 ⟨xs, rfl, h2⟩
  exact h2
theorem w_forR (h : OP (aa ss c) (fun xs c1 => ∃ n, xs = [.int n] ∧ (n ≤ 1000000 ∧ -1000000 ≤ n) ∧ SP (goFor p sa (rangeW 0 n.toNat) ss c1) k) fun x c1 => k.xc x ss c1) : SP (sForR aa p sa ss c) k := by
  refine w_lift (h.imp ?_ fun _ _ h => h)
  rintro x c1 ⟨n, rfl, h1, h2⟩
  simp only [if_pos h1]; exact h2
theorem w_forE (h : OP (aa ss c) (fun xs c1 => ∃ x ys, xs = [x] ∧ itL x = some ys ∧ SP (goFor p sa (enumW 0 ys) ss c1) k) fun x c1 => k.xc x ss c1) : SP (sForE aa p sa ss c) k := by
  refine w_lift (h.imp ?_ fun _ _ h => h)
  rintro x c1 ⟨n, ys, rfl, h1, h2⟩
  simp only [h1]; exact h2
theorem w_forET (h : OP (aa ss c) (fun xs c1 => ∃ x ys, xs = [x] ∧ rdT x = some ys ∧ SP (goFor p sa (enumW 0 ys) ss c1) k) fun x c1 => k.xc x ss c1) : SP (sForET aa p sa ss c) k := by
  refine w_lift (h.imp ?_ fun _ _ h => h)
  rintro x c1 ⟨n, ys, rfl, h1, h2⟩
  simp only [h1]; exact h2
/-! ## comprehensions -/
theorem w_goLc {s0 : Sl} (Inv : List W → List W → List W → Conf → Prop)
    (hs : ∀ a x r acc c, Inv a (x :: r) acc c → acc.length ≤ a.length → ∃ ss1, wPat p x s0 = some ss1 ∧ OP (ba ss1 c) (fun b c1 => (b = true → OP (ea ss1 c1) (fun y c2 => Inv (a ++ [x]) r (acc ++ [y]) c2) noE) ∧ (b = false → Inv (a ++ [x]) r acc c1)) noE)
    (hd : ∀ a acc c, Inv a [] acc c → PL acc c) : ∀ (r a acc : List W) (c : Conf), Inv a r acc c → acc.length ≤ a.length → a.length + r.length ≤ 1000000 → OP (goLc p ba ea s0 r acc c) PL E
  | [], a, acc, c, h, _, _ => hd a acc c h
  | x :: r, a, acc, c, h, hl, hm => by
    obtain ⟨ss1, h1, h2⟩ := hs a x r acc c h hl
    simp only [goLc, h1]
    obtain ⟨b, c1, e1, h3, h4⟩ := h2.ok
    rw [e1]
    simp only [Out.bind]
    have hm' : (a ++ [x]).length + r.length ≤ 1000000 := by simp at hm ⊢; omega
    cases b with
    | false => exact w_goLc Inv hs hd r _ acc c1 (h4 rfl) (by simp; omega) hm'
    | true =>
      obtain ⟨y, c2, e2, h5⟩ := (h3 rfl).ok
      simp only [e2]
      have : acc.length ≤ 1000000 := by simp at hm; omega
      rw [if_pos this]
      exact w_goLc Inv hs hd r _ _ c2 h5 (by simp; omega) hm'
theorem w_lcF {o : Bool} {r : Out (List W)} (h : OP r (fun ys c1 => (o = true → P (.ref c1.length) (c1 ++ [.lst ys])) ∧ (o = false → P (.lst ys) c1)) noE) : OP (eLcF o r) P E := by
  obtain ⟨ys, c1, e1, h1, h2⟩ := h.ok
  rw [e1]
  simp only [eLcF]
  cases o with
  | true => rw [if_pos rfl]; exact h1 rfl
  | false => rw [if_neg (by decide)]; exact h2 rfl
theorem w_lcL {o : Bool} {vs : List Nat} {e : Ee} (h : OP (ea ss c) (fun x c1 => ∃ xs, itL x = some xs ∧ OP (eLcF o (goLc p ba e (wipeW ss vs) xs [] c1)) P E) E) : OP (eLcL o ea p ba e vs ss c) P E := by
  refine w_bind (h.imp ?_ fun _ _ h => h)
  rintro x c1 ⟨xs, h1, h2⟩
  rw [h1]; exact h2
theorem w_lcT {o : Bool} {vs : List Nat} {e : Ee} (h : OP (ea ss c) (fun x c1 => ∃ xs, rdT x = some xs ∧ OP (eLcF o (goLc p ba e (wipeW ss vs) xs [] c1)) P E) E) : OP (eLcT o ea p ba e vs ss c) P E := by
  refine w_bind (h.imp ?_ fun _ _ h => h)
  rintro x c1 ⟨xs, h1, h2⟩
  rw [h1]; exact h2
theorem w_lcS {o : Bool} {vs : List Nat} {e : Ee} (h : OP (ea ss c) (fun x c1 => ∃ s, x = .str s ∧ OP (eLcF o (goLc p ba e (wipeW ss vs) (s.map fun n => .str [n]) [] c1)) P E) E) : OP (eLcS o ea p ba e vs ss c) P E := by
  refine w_bind (h.imp ?_ fun _ _ h => h)
  rintro x c1 ⟨xs, rfl, h2⟩
  exact h2
theorem w_lcR {o : Bool} {vs : List Nat} {e : Ee} (h : OP (aa ss c) (fun xs c1 => ∃ n, xs = [.int n] ∧ (n ≤ 1000000 ∧ -1000000 ≤ n) ∧ OP (eLcF o (goLc p ba e (wipeW ss vs) (rangeW 0 n.toNat) [] c1)) P E) E) : OP (eLcR o aa p ba e vs ss c) P E := by
  refine w_bind (h.imp ?_ fun _ _ h => h)
  rintro x c1 ⟨n, rfl, h1, h2⟩
  simp only [if_pos h1]; exact h2
/-! ## leaves -/
theorem w_rfl {α : Type} {o : Out α} {P : α → Conf → Prop} {E : Xc → Conf → Prop} {x : α} {c : Conf} (e : o = .ok x c) (h : P x c) : OP o P E := OP.of e h
theorem w_lt (h : P (.bl (decide (i < j))) c) : OP (oLt (.int i) (.int j) c) P E := h
theorem w_le (h : P (.bl (decide (i ≤ j))) c) : OP (oLe (.int i) (.int j) c) P E := h
theorem w_gt (h : P (.bl (decide (j < i))) c) : OP (oGt (.int i) (.int j) c) P E := h
theorem w_ge (h : P (.bl (decide (j ≤ i))) c) : OP (oGe (.int i) (.int j) c) P E := h
theorem w_sub (h : P (.int (i - j)) c) : OP (oSub (.int i) (.int j) c) P E := h
theorem w_addI (h : P (.int (i + j)) c) : OP (oAdd (.int i) (.int j) c) P E := h
theorem w_addS (hl : s.length + t.length ≤ 1000000) (h : P (.str (s ++ t)) c) : OP (oAdd (.str s) (.str t) c) P E := w_ite hl h
theorem w_addL (hl : xs.length + ys.length ≤ 1000000) (h : P (.lst (xs ++ ys)) c) : OP (oAdd (.lst xs) (.lst ys) c) P E := w_ite hl h
theorem w_addT (hl : xs.length + ys.length ≤ 1000000) (hn : xs ≠ []) (h : P (.tup (xs ++ ys)) c) : OP (oAdd (.tup xs) (.tup ys) c) P E := w_ite ⟨hl, hn⟩ h
theorem w_mulI (hc : (-(2 ^ 64) < i ∧ i < 2 ^ 64) ∨ (-(2 ^ 64) < j ∧ j < 2 ^ 64)) (h : P (.int (i * j)) c) : OP (oMul (.int i) (.int j) c) P E := w_ite hc h
theorem w_div (hc : 0 < j ∧ j < 1073741824) (h : P (.int (i / j)) c) : OP (oDiv (.int i) (.int j) c) P E := w_ite hc h
theorem w_mod (hc : 0 < j) (h : P (.int (i % j)) c) : OP (oMod (.int i) (.int j) c) P E := w_ite hc h
theorem w_pow (hc : 0 ≤ j ∧ j ≤ 1000000 ∧ i.natAbs < 2 ^ 64) (h : P (.int (i ^ j.toNat)) c) : OP (oPow (.int i) (.int j) c) P E := w_ite hc h
theorem w_neg (h : P (.int (-i)) c) : OP (oNeg (.int i) c) P E := h
theorem w_eq (e : eqC c x y = some b) (h : P (.bl b) c) : OP (oEq x y c) P E := by unfold oEq; rw [e]; exact h
theorem w_ne (e : eqC c x y = some b) (h : P (.bl (!b)) c) : OP (oNe x y c) P E := by unfold oNe; rw [e]; exact h
theorem eqC_i : eqC c (.int i) (.int j) = some (decide (i = j)) := rfl
theorem eqC_s (hs : (s.all fun c => decide (c < 0x110000)) = true) (ht : (t.all fun c => decide (c < 0x110000)) = true) : eqC c (.str s) (.str t) = some (decide (s = t)) := by
  unfold eqC
  simp only [rdD, dataW, hs, ht, Bool.and_self, if_true, eqD]
theorem w_len (e : lenC c x = some n) (h : P (.int n) c) : OP (oLen [x] c) P E := by unfold oLen; simp only [e]; exact h
theorem w_lenS (hl : s.length ≤ 1000000) (h : P (.int s.length) c) : OP (oLen [.str s] c) P E := w_len (n := s.length) (by simp only [lenC, if_pos hl]) h
theorem w_lenL (h : P (.int xs.length) c) : OP (oLen [.lst xs] c) P E := h
theorem w_lenW (h : P (.int xs.length) c) : OP (oLen [.wls xs] c) P E := h
theorem w_lenT (h : P (.int xs.length) c) : OP (oLen [.tup xs] c) P E := h
theorem w_ixL (e : atW xs i = some v) (h : P v c) : OP (oIx (.lst xs) (.int i) c) P E := by
  unfold oIx; simp only [rdL, e, optO]; exact h
theorem w_ixW (e : atW xs i = some v) (h : P v c) : OP (oIx (.wls xs) (.int i) c) P E := by
  unfold oIx; simp only [rdL, e, optO]; exact h
theorem w_ixT (e : atW xs i = some v) (h : P v c) : OP (oIx (.tup xs) (.int i) c) P E := by
  unfold oIx; simp only [rdL, rdT, e, optO]; exact h
theorem w_ixR (hc : c[q]? = some (.lst xs)) (e : atW xs i = some v) (h : P v c) : OP (oIx (.ref q) (.int i) c) P E := by
  unfold oIx; simp only [rdL, hc, e, optO]; exact h
theorem w_ixD (hd : rdL c (.ref q) = none) (e : dGet c (.ref q) y = some (some v)) (h : P v c) : OP (oIx (.ref q) y c) P E := by
  unfold oIx; simp only [hd, rdT, e]; exact h
theorem w_ixS (hl : s.length ≤ 1000000) (e : atW s i = some n) (h : P (.str [n]) c) : OP (oIx (.str s) (.int i) c) P E := by
  unfold oIx; simp only [if_pos hl, e]; exact h
theorem w_inS (h : P (.bl (decide (n ∈ t))) c) : OP (oIn2 (.str [n]) (.str t) c) P E := h
theorem w_notInS (h : P (.bl (!decide (n ∈ t))) c) : OP (oNotIn2 (.str [n]) (.str t) c) P E := h
theorem w_inD {o : Option W} (hd : isDict c y = true) (e : dGet c y x = some o) (h : P (.bl o.isSome) c) : OP (oIn2 x y c) P E := by unfold oIn2; rw [if_pos hd, e]; exact h
theorem w_notInD {o : Option W} (hd : isDict c y = true) (e : dGet c y x = some o) (h : P (.bl (!o.isSome)) c) : OP (oNotIn2 x y c) P E := by unfold oNotIn2; rw [if_pos hd, e]; exact h
theorem w_in (hd : isDict c y = false) (e : inC c x y = some b) (h : P (.bl b) c) : OP (oIn2 x y c) P E := by unfold oIn2 oIn; rw [if_neg (by rw [hd]; decide), e]; exact h
theorem w_notIn (hd : isDict c y = false) (e : inC c x y = some b) (h : P (.bl (!b)) c) : OP (oNotIn2 x y c) P E := by unfold oNotIn2 oNotIn; rw [if_neg (by rw [hd]; decide), e]; exact h
theorem w_isi {cs : List Nm} {xs : List (Nm × List Ty)} {t : Ty ⊕ Nm} (e : tyTag c x = some t) (e2 : isi1 cs xs t y = some b) (h : P (.bl b) c) : OP (oIsi cs xs [x, y] c) P E := by
  unfold oIsi; simp only [e, e2, blO]; exact h
theorem w_append (hc : c[q]? = some (.lst xs)) (hl : xs.length ≤ 1000000) (h : P .non (c.set q (.lst (xs ++ [y])))) : OP (oAppend (.ref q) [y] c) P E := by
  unfold oAppend; simp only [hc]; exact w_ite hl h
theorem w_slL {l u : Option Int} (e : rdL c x = some xs) (h : P (.lst (cutW xs l u)) c) : OP (oSlL x l u c) P E := by unfold oSlL; rw [e]; exact h
theorem w_slT {l u : Option Int} (e : rdT x = some xs) (hn : ¬ (HT.sIx xs.length 0 l = 0 ∧ HT.sIx xs.length xs.length u = xs.length)) (h : P (.tup (cutW xs l u)) c) : OP (oSlT x l u c) P E := by unfold oSlT; simp only [e]; exact w_ite hn h
theorem w_star (h : OP (ea ss c) (fun x c1 => ∃ xs, (rdL c1 x = some xs ∨ (rdL c1 x = none ∧ rdT x = some xs)) ∧ OP (aa ss c1) (fun ys c2 => PL (xs ++ ys) c2) E) E) : OP (aStar ea aa ss c) PL E := by
  refine w_bind (h.imp ?_ fun _ _ h => h)
  rintro x c1 ⟨xs, h1 | ⟨h1, h2⟩, h3⟩
  · simp only [h1]; exact w_bind h3
  · simp only [h1, h2]; exact w_bind h3
theorem w_any {bs : List Bool} (e : rdL c x = some xs) (e2 : blsW xs = some bs) (h : P (.bl (bs.any id)) c) : OP (oAny [x] c) P E := by unfold oAny; simp only [e, e2]; exact h
theorem w_all {bs : List Bool} (e : rdL c x = some xs) (e2 : blsW xs = some bs) (h : P (.bl (bs.all id)) c) : OP (oAll [x] c) P E := by unfold oAll; simp only [e, e2]; exact h
theorem w_tupleL (e : rdL c x = some xs) (h : P (.tup xs) c) : OP (oTuple [x] c) P E := by unfold oTuple; simp only [e]; exact h
theorem w_listL (e : rdL c x = some xs) (h : P (.lst xs) c) : OP (oList [x] c) P E := by unfold oList; simp only [e]; exact h
theorem w_listT (e0 : rdL c x = none) (e : rdT x = some xs) (h : P (.lst xs) c) : OP (oList [x] c) P E := by unfold oList; simp only [e0, e]; exact h
theorem w_abs (h : P (.int (if i < 0 then -i else i)) c) : OP (oAbs [.int i] c) P E := h
theorem w_toInt (h : P (.int i) c) : OP (oInt [.int i] c) P E := h
theorem w_min2 (h : P (.int (if j < i then j else i)) c) : OP (oMin2 [.int i, .int j] c) P E := h
theorem w_max2 (h : P (.int (if j > i then j else i)) c) : OP (oMax2 [.int i, .int j] c) P E := h
theorem w_isNT (h : P (.bl true) c) : OP (oIsN .non .non c) P E := h
end
theorem putI_l {c : Conf} {n : Nat} {xs : List W} {j : Int} {k : Nat} {v : W} (h : c[n]? = some (.lst xs)) (e : L2.ixN xs.length j = some k) : putI c (.ref n) (.int j) v = some (c.set n (.lst (xs.set k v))) := by
  simp only [putI, h, e]
theorem putI_d {c : Conf} {n : Nat} {kvs : List (Ky × W)} {x v : W} {k : Ky} (h : c[n]? = some (.dic kvs)) (e : toKy x = some k) (hl : kvs.length ≤ 1000000) : putI c (.ref n) x v = some (c.set n (.dic (putD kvs k v))) := by
  simp only [putI, h, e, if_pos hl]
theorem putI_t {c : Conf} {n : Nat} {kvs : List (List Ky × W)} {xs : List W} {v : W} {k : List Ky} (h : c[n]? = some (.dit kvs)) (e : toKys xs = some k) (hl : kvs.length ≤ 1000000) : putI c (.ref n) (.tup xs) v = some (c.set n (.dit (putD kvs k v))) := by
  simp only [putI, h, e, if_pos hl]
theorem len6 {α : Type} {xs : List α} {n : Nat} (h : xs.length = n) (h2 : Nat.ble n 1000000 = true) : xs.length ≤ 1000000 := by rw [h]; exact Nat.le_of_ble_eq_true h2
/-! ## what grows only -/
def Gr (c c' : Conf) : Prop := ∃ t, c' = c ++ t
theorem Gr.refl (c : Conf) : Gr c c := ⟨[], by simp⟩
theorem Gr.trans {a b c : Conf} (h : Gr a b) (g : Gr b c) : Gr a c := by
  obtain ⟨t, rfl⟩ := h
  obtain ⟨u, rfl⟩ := g
  exact ⟨t ++ u, by simp⟩
theorem Gr.get {c c' : Conf} {i : Nat} {o : O} (h : Gr c c') (e : c[i]? = some o) : c'[i]? = some o := by
  obtain ⟨t, rfl⟩ := h
  rw [List.getElem?_append_left (List.getElem?_eq_some_iff.mp e).1]; exact e
/-! ## comprehensions that change nothing -/
section
variable {P : W → Conf → Prop} {PL : List W → Conf → Prop} {E : Xc → Conf → Prop} {c : Conf} {ss s0 : Sl} {ba : Et} {ea ed : Ee} {p : Pat}
theorem w_goLcP {f : W → Bool} {g : W → W} : ∀ (xs acc : List W), (∀ x ∈ xs, ∃ ss1, wPat p x s0 = some ss1 ∧ OP (ba ss1 c) (fun b c1 => c1 = c ∧ b = f x ∧ (b = true → OP (ea ss1 c) (fun y c2 => c2 = c ∧ y = g x) noE)) noE) → acc.length + xs.length ≤ 1000000 →
    PL (acc ++ (xs.filter f).map g) c → OP (goLc p ba ea s0 xs acc c) PL E
  | [], acc, _, _, h => by rw [List.filter_nil, List.map_nil, List.append_nil] at h; exact h
  | x :: xs, acc, hs, hl, h => by
    obtain ⟨ss1, h1, h2⟩ := hs x List.mem_cons_self
    simp only [goLc, h1]
    obtain ⟨b, c1, e1, hc1, h3, h4⟩ := h2.ok
    rw [e1, hc1]
    simp only [Out.bind]
    cases b with
    | false =>
      simp only
      rw [List.filter_cons_of_neg (by rw [← h3]; decide)] at h
      exact w_goLcP xs acc (fun y hy => hs y (List.mem_cons_of_mem _ hy)) (by simp at hl; omega) h
    | true =>
      obtain ⟨y, c2, e2, hc2, hy2⟩ := (h4 rfl).ok
      simp only [e2, hc2, hy2]
      rw [if_pos (by simp at hl; omega)]
      rw [List.filter_cons_of_pos h3.symm, List.map_cons] at h
      exact w_goLcP xs (acc ++ [g x]) (fun y hy => hs y (List.mem_cons_of_mem _ hy)) (by simp at hl ⊢; omega) (by rw [List.append_assoc]; exact h)
/-- a comprehension that changes nothing; its list stays -/
theorem w_lcP {xs : List W} (f : W → Bool) (g : W → W) (hs : ∀ x ∈ xs, ∃ ss1, wPat p x s0 = some ss1 ∧ OP (ba ss1 c) (fun b c1 => c1 = c ∧ b = f x ∧ (b = true → OP (ea ss1 c) (fun y c2 => c2 = c ∧ y = g x) noE)) noE) (hl : xs.length ≤ 1000000)
    (h : P (.lst ((xs.filter f).map g)) c) : OP (eLcF false (goLc p ba ea s0 xs [] c)) P E :=
  w_lcF (w_goLcP (PL := fun ys c1 => (false = true → P (.ref c1.length) (c1 ++ [.lst ys])) ∧ (false = false → P (.lst ys) c1)) xs [] hs (by simpa using hl) ⟨(fun z => nomatch z), fun _ => h⟩)
theorem w_lcM {xs : List W} (g : W → W) (hs : ∀ x ∈ xs, ∃ ss1, wPat p x s0 = some ss1 ∧ OP (ea ss1 c) (fun y c2 => c2 = c ∧ y = g x) noE) (hl : xs.length ≤ 1000000)
    (h : P (.lst (xs.map g)) c) : OP (eLcF false (goLc p bYes ea s0 xs [] c)) P E :=
  w_lcP (fun _ => true) g (fun x hx => by
    obtain ⟨ss1, h1, h2⟩ := hs x hx
    exact ⟨ss1, h1, w_bYes ⟨rfl, rfl, fun _ => h2⟩⟩) hl (by rw [List.filter_eq_self.mpr fun _ _ => rfl]; exact h)
theorem set_get {c : Conf} {i : Nat} {o : O} (h : c[i]? = some o) : c.set i o = c := by
  obtain ⟨hi, e⟩ := List.getElem?_eq_some_iff.mp h
  rw [← e]
  exact List.set_getElem_self hi
theorem w_lcK {i : Nat} {kvs : List (Ky × W)} {vs : List Nat} (h1 : OP (ed ss c) (fun x c1 => x = .ref i) noE) (hc : c[i]? = some (.dic kvs)) (h2 : OP (ed ss (c.set i (.dicF kvs))) (fun x c1 => x = .ref i ∧ c1 = c.set i (.dicF kvs)) noE)
    (f : W → Bool) (g : W → W) (hs : ∀ x ∈ dkeys kvs, ∃ ss1, wPat p x (wipeW ss vs) = some ss1 ∧ OP (ba ss1 (c.set i (.dicF kvs))) (fun b c1 => c1 = c.set i (.dicF kvs) ∧ b = f x ∧ (b = true → OP (ea ss1 (c.set i (.dicF kvs))) (fun y c2 => c2 = c.set i (.dicF kvs) ∧ y = g x) noE)) noE) (hl : kvs.length ≤ 1000000)
    (h : P (.lst (((dkeys kvs).filter f).map g)) c) : OP (eLcK false ed p ba ea vs ss c) P E := by
  obtain ⟨x, c1, e1, hx1⟩ := h1.ok
  obtain ⟨y, c2, e2, hy1, hy2⟩ := h2.ok
  subst hx1 hy1 hy2
  have hci : (c.set i (.dicF kvs))[i]? = some (.dicF kvs) := List.getElem?_set_self (List.getElem?_eq_some_iff.mp hc).1
  obtain ⟨ys, c3, e3, h3, h4⟩ := (w_goLcP (PL := fun ys c3 => ys = ((dkeys kvs).filter f).map g ∧ c3 = c.set i (.dicF kvs)) (E := noE) (dkeys kvs) [] hs (by unfold dkeys; simpa using hl) ⟨rfl, rfl⟩).ok
  subst h3 h4
  unfold eLcK
  rw [e1]
  simp only [hc, e2, if_true, hci, e3]
  rw [if_neg (by decide), List.set_set, set_get hc]
  exact h
end
/-! ## try -/
section
variable {P : W → Conf → Prop} {E : Xc → Conf → Prop} {c : Conf} {ss : Sl} {k : Kn} {sa sb : Es} {es : List Nm} {C fl : Nm} {i : Option Nat} {n : Nat} {ek ev ec : Ee} {fs : List (Nm × W)} {cs : List Nm} {xs : List (Nm × List Ty)} {b : Bool} {y : W}
theorem w_out1 {r : So} {nx bk ct : Sl → Conf → Prop} {rt : W → Conf → Prop} {xc : Xc → Sl → Conf → Prop} (h : SP r ⟨fun ss c => noEx (So.out1.unI i ss) = true ∧ nx (So.out1.unI i ss) c, rt, fun ss c => noEx (So.out1.unI i ss) = true ∧ bk (So.out1.unI i ss) c, fun ss c => noEx (So.out1.unI i ss) = true ∧ ct (So.out1.unI i ss) c, fun _ _ _ => False⟩) : SP (r.out1 i) ⟨nx, rt, bk, ct, xc⟩ := by
  cases r with
  | ok f c =>
    cases f with
    | nx ss => obtain ⟨h1, h2⟩ := h; simp only [So.out1]; rw [if_pos h1]; exact h2
    | bk ss => obtain ⟨h1, h2⟩ := h; simp only [So.out1]; rw [if_pos h1]; exact h2
    | ct ss => obtain ⟨h1, h2⟩ := h; simp only [So.out1]; rw [if_pos h1]; exact h2
    | rt v => exact h
  | exc x ss c => exact h.elim
  | bad => exact h.elim
theorem w_try {nx bk ct : Sl → Conf → Prop} {rt : W → Conf → Prop} {xc : Xc → Sl → Conf → Prop} (h : SP (sa ss c) ⟨nx, rt, bk, ct, fun x ss1 c1 => (x.cls ∈ es ∧ C ∈ es) ∧ (x.cls = C → noEx ss1 = true ∧ SP (sb (match i with | some i => ss1.set i (some x.w) | none => ss1) c1) ⟨fun ss c => noEx (So.out1.unI i ss) = true ∧ nx (So.out1.unI i ss) c, rt, fun ss c => noEx (So.out1.unI i ss) = true ∧ bk (So.out1.unI i ss) c, fun ss c => noEx (So.out1.unI i ss) = true ∧ ct (So.out1.unI i ss) c, fun _ _ _ => False⟩) ∧ (x.cls ≠ C → xc x ss1 c1)⟩) :
    SP (sTry es C i sa sb ss c) ⟨nx, rt, bk, ct, xc⟩ := by
  unfold sTry
  revert h
  cases sa ss c with
  | ok f c1 => cases f <;> exact fun h => h
  | bad => exact fun h => h
  | exc x ss1 c1 =>
    rintro ⟨h1, h2, h3⟩
    simp only
    rw [if_pos h1]
    by_cases e : x.cls = C
    · rw [if_pos e]
      obtain ⟨h4, h5⟩ := h2 e
      rw [if_pos h4]
      exact w_out1 h5
    · rw [if_neg e]; exact h3 e
theorem w_xf {m : Nat} (h : ss[m]? = some (some (.exn C fs))) (e : lkp fs fl = some y) (k : P y c) : OP (eXf C fl m ss c) P E := by
  unfold eXf
  simp only [h, if_true, e]
  exact k
theorem w_isE1 {m : Nat} {C : Nm} (h : ss[m]? = some (some (.exn C fs))) (h2 : OP (ec ss c) (fun y c1 => ((∃ t, y = .ty t) ∨ ∃ D, y = .glo D) ∧ ∃ b, isX1 cs xs C y = some b ∧ P (.bl b) c1) E) : OP (eIsE cs xs m ec ss c) P E := by
  unfold eIsE
  simp only [h]
  refine w_bind (h2.imp ?_ fun _ _ h => h)
  rintro y c1 ⟨⟨t, rfl⟩ | ⟨D, rfl⟩, b, h3, h4⟩
  · simp only [h3, blO]; exact h4
  · simp only [h3, blO]; exact h4
theorem w_isEL {m : Nat} {C : Nm} (h : ss[m]? = some (some (.exn C fs))) (h2 : OP (ec ss c) (fun y c1 => ∃ ys, y = .tup ys ∧ (C ∈ xs.map (·.1) ∧ (ys.all fun y => (isX1 cs xs C y).isSome) = true) ∧ ∃ b, isXL cs xs C ys = some b ∧ P (.bl b) c1) E) : OP (eIsE cs xs m ec ss c) P E := by
  unfold eIsE
  simp only [h]
  refine w_bind (h2.imp ?_ fun _ _ h => h)
  rintro y c1 ⟨ys, rfl, h3, b, h4, h5⟩
  simp only
  refine w_ite h3 ?_
  rw [h4]; exact h5
theorem w_disp1 (h : OP (ek ss (c ++ [.dic []])) (fun x c1 => ∃ ky, toKy x = some ky ∧ OP (ev ss c1) (fun y c2 => c2 = c ++ [.dic []] ∧ P (.ref c.length) (c ++ [.dic [(ky, y)]])) noE) noE) : OP (eDisp [(ek, ev)] ss c) P E := by
  obtain ⟨x, c1, e1, ky, e2, h2⟩ := h.ok
  obtain ⟨y, c2, e3, e4, h3⟩ := h2.ok
  subst e4
  unfold eDisp
  simp only [goPs, e1, Out.bind, e2, e3]
  rw [List.getElem?_append_right (Nat.le_refl _), Nat.sub_self]
  simp only [List.getElem?_cons_zero]
  rw [if_pos (by simp)]
  rw [List.set_append_right _ _ (Nat.le_refl _), Nat.sub_self]
  exact h3
theorem w_dnew (h : P (.ref c.length) (c ++ [.dic []])) : OP (eDNew ss c) P E := h
theorem w_dnewT (h : P (.ref c.length) (c ++ [.dit []])) : OP (eDNewT ss c) P E := h
end
/-! ## over a list that may change, but does not meanwhile -/
section
variable {P : W → Conf → Prop} {PL : List W → Conf → Prop} {E : Xc → Conf → Prop} {c : Conf} {ss s0 : Sl} {ba : Et} {ea e : Ee} {p : Pat} {sb : Es} {k : Nat} {xs : List W}
theorem w_goLcR (Inv : Nat → List W → Conf → Prop) (hk : ∀ i acc c, Inv i acc c → c[k]? = some (.lst xs)) (hb : ∀ i acc c, Inv i acc c → i ≤ xs.length)
    (hs : ∀ i x acc c, xs[i]? = some x → Inv i acc c → acc.length ≤ i → ∃ ss1, wPat p x s0 = some ss1 ∧ OP (ba ss1 c) (fun b c1 => (b = true → OP (ea ss1 c1) (fun y c2 => Inv (i + 1) (acc ++ [y]) c2) noE) ∧ (b = false → Inv (i + 1) acc c1)) noE)
    (hd : ∀ acc c, Inv xs.length acc c → PL acc c) (hx : xs.length ≤ 1000000) : ∀ (n i : Nat) (acc : List W) (c : Conf), n + i = xs.length + 1 → Inv i acc c → acc.length ≤ i → OP (goLcR k p ba ea s0 n i acc c) PL E
  | 0, i, acc, c, hn, h, hl => absurd hn (by have := hb i acc c h; omega)
  | n + 1, i, acc, c, hn, h, hl => by
    simp only [goLcR, hk i acc c h]
    cases hx' : xs[i]? with
    | none =>
      have := List.getElem?_eq_none_iff.mp hx'
      have : i = xs.length := by omega
      subst this
      exact hd acc c h
    | some x =>
      obtain ⟨ss1, h1, h2⟩ := hs i x acc c hx' h hl
      simp only [h1]
      obtain ⟨b, c1, e1, h3, h4⟩ := h2.ok
      rw [e1]
      simp only [Out.bind]
      have hi := (List.getElem?_eq_some_iff.mp hx').1
      cases b with
      | false => exact w_goLcR Inv hk hb hs hd hx n (i + 1) acc c1 (by omega) (h4 rfl) (by omega)
      | true =>
        obtain ⟨y, c2, e2, h5⟩ := (h3 rfl).ok
        simp only [e2]
        rw [if_pos (by omega)]
        exact w_goLcR Inv hk hb hs hd hx n (i + 1) _ c2 (by omega) h5 (by simp; omega)
theorem w_lcLR {o : Bool} {vs : List Nat} (h : OP (ea ss c) (fun x c1 => ∃ k, x = .ref k ∧ OP (eLcF o (goLcR k p ba e (wipeW ss vs) (lenR k c1) 0 [] c1)) P E) E) : OP (eLcL o ea p ba e vs ss c) P E := by
  refine w_bind (h.imp ?_ fun _ _ h => h)
  rintro x c1 ⟨xs, rfl, h2⟩
  exact h2
theorem lenR_eq (h : c[k]? = some (.lst xs)) : lenR k c = xs.length + 1 := by simp only [lenR, h]
end
/-! ## what is closed, by the kernel -/
theorem thn_seq {r : So} {b f : Es} : r.thn (sSeq b f) = (r.thn b).thn f := by
  cases r with
  | ok fl c => cases fl <;> rfl
  | exc x ss c => rfl
  | bad => rfl
def slN (r : So) : Option (Option W) × Nat := match r with | .ok (.nx ss) _ => (ss[0]?, ss.length) | _ => (none, 0)
theorem w_pre {r : So} {f : Sl → Conf → So} {k : Kn} {v : W} {n : Nat} (h : slN r = (some (some v), n)) (q : ∀ ss c, ss.length = n → ss[0]? = some (some v) → SP (f ss c) k) : SP (r.thn f) k := by
  cases r with
  | ok fl c =>
    cases fl with
    | nx ss =>
      have h2 : (ss[0]?, ss.length) = (some (some v), n) := h
      injection h2 with h3 h4
      exact q ss c h4 h3
    | _ => cases h
  | exc x ss c => cases h
  | bad => cases h
theorem law_of {e : Fn} {x : W} (h : OP (e [x] []) (fun r _ => r = .bl true) noE) : ∃ c, e [x] [] = .ok (.bl true) c := by
  obtain ⟨r, c, e1, rfl⟩ := h.ok
  exact ⟨c, e1⟩
end Ev

set_option Elab.async false
set_option linter.all false
set_option maxRecDepth 100000
set_option maxHeartbeats 4000000
namespace Ev
/-! # what is known of the objects: facts that stay, and cells that change, all apart -/
abbrev OPr := O → Prop
abbrev GM := Nat → Option OPr
abbrev PA := GM → Prop
def GM.le (G G' : GM) : Prop := ∀ i g, G i = some g → G' i = some g
theorem GM.le.refl (G : GM) : G.le G := fun _ _ h => h
theorem GM.le.trans {a b c : GM} (h : a.le b) (g : b.le c) : a.le c := fun i p e => g i p (h i p e)
abbrev Cell := Nat × OPr
/-- this object -/
def iz (o : O) : OPr := fun o' => o' = o
/-- at i stands what g says, for ever -/
def pat (i : Nat) (g : OPr) : PA := fun G => G i = some g
structure SatG (G : GM) (Ps : List PA) (L : List Cell) (c : Conf) : Prop where
  pers : ∀ P ∈ Ps, ∀ G', G.le G' → P G'
  glob : ∀ i g, G i = some g → (∃ o, c[i]? = some o ∧ g o) ∧ ∀ p ∈ L, p.1 ≠ i
  cell : ∀ p ∈ L, ∃ o, c[p.1]? = some o ∧ p.2 o
  nd : (L.map (·.1)).Nodup
def Sat (Ps : List PA) (L : List Cell) (c : Conf) : Prop := ∃ G, SatG G Ps L c
section
variable {Ps : List PA} {L : List Cell} {c D : Conf} {a : Nat} {g g' : OPr} {o o' : O} {P Q : PA}
theorem Sat.rd (h : Sat Ps L c) (m : (a, g) ∈ L) : ∃ o, c[a]? = some o ∧ g o := let ⟨_, h⟩ := h; h.cell _ m
theorem Sat.rdI (h : Sat Ps L c) (m : (a, iz o) ∈ L) : c[a]? = some o := by
  obtain ⟨o', e, rfl⟩ := h.rd m
  exact e
theorem Sat.use (h : Sat Ps L c) : ∃ G : GM, (∀ P ∈ Ps, P G) ∧ ∀ i g, G i = some g → ∃ o, c[i]? = some o ∧ g o := by
  obtain ⟨G, h⟩ := h
  exact ⟨G, fun P m => h.pers P m G (GM.le.refl G), fun i g e => (h.glob i g e).1⟩
theorem Sat.rdP (h : Sat Ps L c) (m : pat a g ∈ Ps) : ∃ o, c[a]? = some o ∧ g o := by
  obtain ⟨G, h1, h2⟩ := h.use
  exact h2 a g (h1 _ m)
theorem Sat.rdPI (h : Sat Ps L c) (m : pat a (iz o) ∈ Ps) : c[a]? = some o := by
  obtain ⟨o', e, rfl⟩ := h.rdP m
  exact e
theorem Sat.lt (h : Sat Ps L c) (m : (a, g) ∈ L) : a < c.length := by
  obtain ⟨o, e, _⟩ := h.rd m
  exact (List.getElem?_eq_some_iff.mp e).1
theorem Sat.nil : Sat [] [] c := ⟨fun _ => none, ⟨fun _ m => (List.not_mem_nil m).elim, (fun _ _ e => nomatch e), fun _ m => (List.not_mem_nil m).elim, List.nodup_nil⟩⟩
/-- more objects behind -/
theorem Sat.grow (h : Sat Ps L c) : Sat Ps L (c ++ D) := by
  obtain ⟨G, h⟩ := h
  refine ⟨G, h.pers, fun i g e => ?_, fun p m => ?_, h.nd⟩
  · obtain ⟨⟨o, e1, e2⟩, h2⟩ := h.glob i g e
    exact ⟨⟨o, by rw [List.getElem?_append_left (List.getElem?_eq_some_iff.mp e1).1]; exact e1, e2⟩, h2⟩
  · obtain ⟨o, e1, e2⟩ := h.cell p m
    exact ⟨o, by rw [List.getElem?_append_left (List.getElem?_eq_some_iff.mp e1).1]; exact e1, e2⟩
theorem Sat.new (h : Sat Ps L c) (e : g o) : Sat Ps ((c.length, g) :: L) (c ++ [o]) := by
  obtain ⟨G, h⟩ := h
  have hlt : ∀ p ∈ L, p.1 < c.length := fun p m => by
    obtain ⟨o, e1, _⟩ := h.cell p m
    exact (List.getElem?_eq_some_iff.mp e1).1
  obtain ⟨G', h'⟩ := Sat.grow (D := [o]) ⟨G, h⟩
  refine ⟨G, h.pers, fun i g e => ?_, fun p m => ?_, ?_⟩
  · obtain ⟨⟨o, e1, e2⟩, h2⟩ := h.glob i g e
    have hi := (List.getElem?_eq_some_iff.mp e1).1
    refine ⟨⟨o, by rw [List.getElem?_append_left hi]; exact e1, e2⟩, fun p m => ?_⟩
    rcases List.mem_cons.mp m with rfl | m
    · exact fun z => absurd z (Nat.ne_of_gt hi)
    · exact h2 p m
  · rcases List.mem_cons.mp m with rfl | m
    · exact ⟨o, by simp, e⟩
    · obtain ⟨o, e1, e2⟩ := h.cell p m
      exact ⟨o, by rw [List.getElem?_append_left (List.getElem?_eq_some_iff.mp e1).1]; exact e1, e2⟩
  · rw [List.map_cons, List.nodup_cons]
    refine ⟨fun m => ?_, h.nd⟩
    obtain ⟨p, m, e⟩ := List.mem_map.mp m
    have := hlt p m
    omega
theorem Sat.newI (h : Sat Ps L c) : Sat Ps ((c.length, iz o) :: L) (c ++ [o]) := h.new rfl
/-- it stays from now on -/
theorem Sat.frz (h : Sat Ps ((a, g) :: L) c) : Sat (pat a g :: Ps) L c := by
  obtain ⟨G, h⟩ := h
  have hn : ∀ p ∈ L, p.1 ≠ a := fun p m e => by
    have := h.nd
    rw [List.map_cons, List.nodup_cons] at this
    exact this.1 (List.mem_map.mpr ⟨p, m, e⟩)
  have hGa : G a = none := by
    cases e : G a with
    | none => rfl
    | some g' => exact absurd rfl ((h.glob a g' e).2 (a, g) List.mem_cons_self)
  have le : GM.le G (fun i => if i = a then some g else G i) := fun i g' e => by
    have : i ≠ a := fun z => by subst z; rw [hGa] at e; cases e
    show (if i = a then some g else G i) = some g'
    rw [if_neg this]; exact e
  refine ⟨fun i => if i = a then some g else G i, fun P m => ?_, fun i g' e => ?_, fun p m => h.cell p (List.mem_cons_of_mem _ m), ?_⟩
  · rcases List.mem_cons.mp m with rfl | m
    · exact fun G' l => l a g (if_pos rfl)
    · exact fun G' l => h.pers P m G' (le.trans l)
  · by_cases ei : i = a
    · subst ei
      rw [if_pos rfl] at e
      cases e
      exact ⟨h.cell (i, g) List.mem_cons_self, hn⟩
    · rw [if_neg ei] at e
      obtain ⟨h1, h2⟩ := h.glob i g' e
      exact ⟨h1, fun p m => h2 p (List.mem_cons_of_mem _ m)⟩
  · have := h.nd
    rw [List.map_cons, List.nodup_cons] at this
    exact this.2
theorem Sat.newP (h : Sat Ps L c) (e : g o) : Sat (pat c.length g :: Ps) L (c ++ [o]) := (h.new e).frz
theorem Sat.newPI (h : Sat Ps L c) : Sat (pat c.length (iz o) :: Ps) L (c ++ [o]) := h.newI.frz
theorem Sat.perm {L' : List Cell} (h : Sat Ps L c) (p : L.Perm L') : Sat Ps L' c := by
  obtain ⟨G, h⟩ := h
  exact ⟨G, h.pers, fun i g e => ⟨(h.glob i g e).1, fun q m => (h.glob i g e).2 q (p.mem_iff.mpr m)⟩, fun q m => h.cell q (p.mem_iff.mpr m), ((p.map _).nodup_iff).mp h.nd⟩
theorem Sat.drop (h : Sat Ps ((a, g) :: L) c) : Sat Ps L c := by
  obtain ⟨G, h⟩ := h
  have := h.nd
  rw [List.map_cons, List.nodup_cons] at this
  exact ⟨G, h.pers, fun i g e => ⟨(h.glob i g e).1, fun q m => (h.glob i g e).2 q (List.mem_cons_of_mem _ m)⟩, fun q m => h.cell q (List.mem_cons_of_mem _ m), this.2⟩
theorem Sat.sub {Ps' : List PA} (h : Sat Ps L c) (s : ∀ P ∈ Ps', P ∈ Ps) : Sat Ps' L c := by
  obtain ⟨G, h⟩ := h
  exact ⟨G, fun P m => h.pers P (s P m), h.glob, h.cell, h.nd⟩
theorem Sat.subL {L' : List Cell} (h : Sat Ps L c) (s : L'.Sublist L) : Sat Ps L' c := by
  obtain ⟨G, h⟩ := h
  exact ⟨G, h.pers, fun i g e => ⟨(h.glob i g e).1, fun p m => (h.glob i g e).2 p (s.subset m)⟩, fun p m => h.cell p (s.subset m), (s.map _).nodup h.nd⟩
/-- what follows -/
theorem Sat.der (h : Sat Ps L c) (k : ∀ G : GM, (∀ P ∈ Ps, P G) → Q G) : Sat (Q :: Ps) L c := by
  obtain ⟨G, h⟩ := h
  refine ⟨G, fun P m => ?_, h.glob, h.cell, h.nd⟩
  rcases List.mem_cons.mp m with rfl | m
  · exact fun G' l => k G' fun P m => h.pers P m G' l
  · exact h.pers P m
/-- a cell is written -/
theorem Sat.wr (h : Sat Ps ((a, g) :: L) c) (e : g' o) : Sat Ps ((a, g') :: L) (c.set a o) := by
  have lt := h.lt List.mem_cons_self
  obtain ⟨G, h⟩ := h
  have nd := h.nd
  rw [List.map_cons, List.nodup_cons] at nd
  refine ⟨G, h.pers, fun i g e => ?_, fun p m => ?_, h.nd⟩
  · obtain ⟨⟨o, e1, e2⟩, h2⟩ := h.glob i g e
    have ne := h2 _ List.mem_cons_self
    refine ⟨⟨o, by rw [List.getElem?_set_ne ne]; exact e1, e2⟩, fun p m => ?_⟩
    rcases List.mem_cons.mp m with rfl | m
    · exact ne
    · exact h2 p (List.mem_cons_of_mem _ m)
  · rcases List.mem_cons.mp m with rfl | m
    · exact ⟨o, List.getElem?_set_self lt, e⟩
    · obtain ⟨o, e1, e2⟩ := h.cell p (List.mem_cons_of_mem _ m)
      have ne : a ≠ p.1 := fun z => nd.1 (List.mem_map.mpr ⟨p, m, z.symm⟩)
      exact ⟨o, by rw [List.getElem?_set_ne ne]; exact e1, e2⟩
theorem Sat.wrI (h : Sat Ps ((a, g) :: L) c) : Sat Ps ((a, iz o) :: L) (c.set a o) := h.wr rfl
theorem Sat.wrM (h : Sat Ps L c) (m : (a, g) ∈ L) (e : g o) : Sat Ps L (c.set a o) := by
  obtain ⟨L1, L2, rfl⟩ := List.append_of_mem m
  have p : (L1 ++ (a, g) :: L2).Perm ((a, g) :: (L1 ++ L2)) := List.perm_middle
  exact ((h.perm p).wr e).perm p.symm
theorem Sat.wrP (h : Sat Ps L c) (m : pat a g ∈ Ps) (e : g o) : Sat Ps L (c.set a o) := by
  obtain ⟨G, h⟩ := h
  have ea := h.pers _ m G (GM.le.refl G)
  obtain ⟨⟨o1, e1, _⟩, h1⟩ := h.glob a g ea
  have lt := (List.getElem?_eq_some_iff.mp e1).1
  refine ⟨G, h.pers, fun i g2 e2 => ⟨?_, (h.glob i g2 e2).2⟩, fun p m => ?_, h.nd⟩
  · by_cases ei : a = i
    · subst ei
      rw [show G a = some g from ea] at e2
      cases e2
      exact ⟨o, List.getElem?_set_self lt, e⟩
    · rw [List.getElem?_set_ne ei]; exact (h.glob i g2 e2).1
  · rw [List.getElem?_set_ne (Ne.symm (h1 p m))]; exact h.cell p m
/-! writes at the places of a written row of cells -/
variable {x0 x1 x2 x3 x4 : Cell}
theorem Sat.wr1 (h : Sat Ps (x0 :: (a, g) :: L) c) (e : g' o) : Sat Ps (x0 :: (a, g') :: L) (c.set a o) := ((h.perm (.swap ..)).wr e).perm (.swap ..)
theorem Sat.wrI1 (h : Sat Ps (x0 :: (a, g) :: L) c) : Sat Ps (x0 :: (a, iz o) :: L) (c.set a o) := h.wr1 rfl
theorem Sat.wr2 (h : Sat Ps (x0 :: x1 :: (a, g) :: L) c) (e : g' o) : Sat Ps (x0 :: x1 :: (a, g') :: L) (c.set a o) := ((h.perm (List.perm_middle (l₁ := [x0, x1]))).wr e).perm (List.perm_middle (l₁ := [x0, x1])).symm
theorem Sat.wr3 (h : Sat Ps (x0 :: x1 :: x2 :: (a, g) :: L) c) (e : g' o) : Sat Ps (x0 :: x1 :: x2 :: (a, g') :: L) (c.set a o) := ((h.perm (List.perm_middle (l₁ := [x0, x1, x2]))).wr e).perm (List.perm_middle (l₁ := [x0, x1, x2])).symm
theorem Sat.wr4 (h : Sat Ps (x0 :: x1 :: x2 :: x3 :: (a, g) :: L) c) (e : g' o) : Sat Ps (x0 :: x1 :: x2 :: x3 :: (a, g') :: L) (c.set a o) := ((h.perm (List.perm_middle (l₁ := [x0, x1, x2, x3]))).wr e).perm (List.perm_middle (l₁ := [x0, x1, x2, x3])).symm
end
end Ev

set_option Elab.async false
set_option linter.all false
set_option maxRecDepth 100000
set_option maxHeartbeats 4000000
namespace Ev
section
variable {P : W → Conf → Prop} {E : Xc → Conf → Prop} {c : Conf} {i j : Int} {s t : List Nat} {xs ys : List W} {n : Nat}
theorem w_addIA (h : P (.int (i + j)) c) : OP (oAddA (.int i) (.int j) c) P E := h
theorem w_ltA (h : P (.bl (decide (i < j))) c) : OP (oLtA (.int i) (.int j) c) P E := h
theorem w_leA (h : P (.bl (decide (i ≤ j))) c) : OP (oLeA (.int i) (.int j) c) P E := h
theorem w_gtA (h : P (.bl (decide (j < i))) c) : OP (oGtA (.int i) (.int j) c) P E := h
theorem w_geA (h : P (.bl (decide (j ≤ i))) c) : OP (oGeA (.int i) (.int j) c) P E := h
theorem w_ltS (h : P (.bl (ltN s t)) c) : OP (oLtA (.str s) (.str t) c) P E := h
theorem w_gtS (h : P (.bl (ltN t s)) c) : OP (oGtA (.str s) (.str t) c) P E := h
theorem w_addSA (hl : s.length + t.length ≤ 1000000) (h : P (.str (s ++ t)) c) : OP (oAddA (.str s) (.str t) c) P E := w_addS hl h
theorem w_addLA (hl : xs.length + ys.length ≤ 1000000) (h : P (.lst (xs ++ ys)) c) : OP (oAddA (.lst xs) (.lst ys) c) P E := w_addL hl h
theorem oAddA_t (hl : xs.length + ys.length ≤ 1000000) : oAddA (.tup xs) (.tup ys) c = .ok (.tup (xs ++ ys)) c := by
  unfold oAddA
  simp only [rdT]
  rw [if_pos hl]
  cases xs with
  | nil => rfl
  | cons x xs =>
    cases ys with
    | nil => simp
    | cons y ys => simp
theorem w_addTA (hl : xs.length + ys.length ≤ 1000000) (h : P (.tup (xs ++ ys)) c) : OP (oAddA (.tup xs) (.tup ys) c) P E := OP.of (oAddA_t hl) h
theorem w_mulIA (hc : (-(2 ^ 64) < i ∧ i < 2 ^ 64) ∨ (-(2 ^ 64) < j ∧ j < 2 ^ 64)) (h : P (.int (i * j)) c) : OP (oMulA (.int i) (.int j) c) P E := w_mulI hc h
theorem w_mulSA (hc : (-1000 ≤ i ∧ i ≤ 2000) ∧ s.length ≤ 500) (h : P (.str (repN s i.toNat)) c) : OP (oMulA (.str s) (.int i) c) P E := w_ite hc h
theorem cut_take0 (h : n ≤ xs.length) : cutW xs none (some (n : Int)) = xs.take n := by
  unfold cutW HT.sIx
  simp only
  rw [if_neg (by omega)]
  rw [show min (n : Int).toNat xs.length = n by omega]
  simp
theorem cut_drop0 (h : n ≤ xs.length) : cutW xs (some (n : Int)) none = xs.drop n := by
  unfold cutW HT.sIx
  simp only
  rw [if_neg (by omega)]
  rw [show min (n : Int).toNat xs.length = n by omega]
  exact List.take_of_length_le (by simp)
theorem slTA_take (h : n ≤ xs.length) : oSlTA (.tup xs) none (some (n : Int)) c = .ok (.tup (xs.take n)) c := by
  unfold oSlTA
  simp only [rdT]
  split
  · rename_i q
    have q2 := q.2
    unfold HT.sIx at q2
    simp only at q2
    rw [if_neg (by omega)] at q2
    have : n = xs.length := by omega
    rw [this, List.take_length]
  · rw [cut_take0 h]
theorem slTA_drop (h : n ≤ xs.length) : oSlTA (.tup xs) (some (n : Int)) none c = .ok (.tup (xs.drop n)) c := by
  unfold oSlTA
  simp only [rdT]
  split
  · rename_i q
    have q2 := q.1
    unfold HT.sIx at q2
    simp only at q2
    rw [if_neg (by omega)] at q2
    have : n = 0 := by omega
    rw [this, List.drop_zero]
  · rw [cut_drop0 h]
theorem w_slTt (h : n ≤ xs.length) (k : P (.tup (xs.take n)) c) : OP (oSlTA (.tup xs) none (some (n : Int)) c) P E := OP.of (slTA_take h) k
theorem w_slTd (h : n ≤ xs.length) (k : P (.tup (xs.drop n)) c) : OP (oSlTA (.tup xs) (some (n : Int)) none c) P E := OP.of (slTA_drop h) k
end
theorem lt1k {n k : Nat} (h : n = k) (h2 : Nat.ble (k + 1) 1000 = true) : n < 1000 := by rw [h]; exact Nat.le_of_ble_eq_true h2
section
variable {P : W → Conf → Prop} {E : Xc → Conf → Prop} {c : Conf} {ss : Sl} {C mm : Nm} {n m : Nat} {f : Fn} {g : List W → List W → List W} {a ka : Ea} {eo : Ee}
theorem w_makeK (h : OP (a ss c) (fun xs c1 => OP (ka ss c1) (fun zs c2 => (xs.length = n ∧ zs.length = m) ∧ OP (f (g (.ref c2.length :: xs) zs) (c2 ++ [.ins C []])) (fun r c3 => r = .non ∧ P (.ref c2.length) c3) E) E) E) : OP (eMakeK C n m f g a ka ss c) P E := by
  refine w_bind (h.imp (fun xs c1 h => w_bind (h.imp (fun zs c2 h => w_ite h.1 (w_bind (h.2.imp ?_ fun _ _ h => h))) fun _ _ h => h)) fun _ _ h => h)
  rintro r c3 ⟨rfl, h⟩
  exact h
theorem w_mid {nx bk ct : Sl → Conf → Prop} {rt : W → Conf → Prop} {xc : Xc → Sl → Conf → Prop} {sa sb : Es} (M : Sl → Conf → Prop) (h1 : SP (sa ss c) ⟨M, rt, bk, ct, xc⟩) (h2 : ∀ ss c, M ss c → SP (sb ss c) ⟨nx, rt, bk, ct, xc⟩) : SP (sSeq sa sb ss c) ⟨nx, rt, bk, ct, xc⟩ := by
  refine w_seq ?_
  revert h1
  cases sa ss c with
  | ok f c => cases f <;> first | exact fun h => h2 _ _ h | exact fun h => h
  | exc x ss c => exact fun h => h
  | bad => exact fun h => h
theorem w_par3 {nx bk ct : Sl → Conf → Prop} {rt : W → Conf → Prop} {xc : Xc → Sl → Conf → Prop} {i j l : Nat} (h : OP (a ss c) (fun xs c1 => ∃ x y z, xs = [x, y, z] ∧ nx (((ss.set i (some x)).set j (some y)).set l (some z)) c1) fun x c1 => xc x ss c1) : SP (sPar3 i j l a ss c) ⟨nx, rt, bk, ct, xc⟩ := by
  refine w_lift (h.imp ?_ fun _ _ h => h)
  rintro x c1 ⟨x, y, z, rfl, h2⟩
  exact h2
theorem insW_at {i : Nat} {fs : List (Nm × W)} (e : c[i]? = some (.ins C fs)) : insW c (.ref i) = some (C, fs) := by simp only [insW, e]
theorem w_listD {i : Nat} {kvs : List (Ky × W)} (e : c[i]? = some (.dic kvs)) (h : P (.lst (dkeys kvs)) c) : OP (oListA [.ref i] c) P E := by
  unfold oListA; simp only [e]; exact h
theorem w_listAL {xs : List W} (h : P (.lst xs) c) : OP (oListA [.lst xs] c) P E := h
theorem w_prop (h : OP (eo ss c) (fun x c1 => ∃ fs, insW c1 x = some (C, fs) ∧ OP (f [x] c1) P noE) E) : OP (eProp C f eo ss c) P E := by
  refine w_bind (h.imp ?_ fun _ _ h => h)
  rintro x c1 ⟨fs, h1, h2⟩
  rw [h1]
  refine w_ite rfl ?_
  revert h2
  cases f [x] c1 <;> exact fun h => h
theorem w_augF {nx bk ct : Sl → Conf → Prop} {rt : W → Conf → Prop} {xc : Xc → Sl → Conf → Prop} {fl : Nm} {o : W → W → Conf → Out W} {ev : Ee}
    (h : OP (eo ss c) (fun x c1 => ∃ i fs v, x = .ref i ∧ c1[i]? = some (.ins C fs) ∧ lkp fs fl = some v ∧ OP (ev ss c1) (fun y c2 => OP (o v y c2) (fun z c3 => ∃ fs', c3[i]? = some (.ins C fs') ∧ fs'.length < 1000 ∧ nx ss (c3.set i (.ins C (putW fl z fs')))) fun x c => xc x ss c) fun x c => xc x ss c) fun x c => xc x ss c) :
    SP (sAugF C fl o eo ev ss c) ⟨nx, rt, bk, ct, xc⟩ := by
  refine w_lift (h.imp ?_ fun _ _ h => h)
  rintro x c1 ⟨i, fs, v, rfl, h1, h2, h3⟩
  simp only [insW, h1, if_true, h2]
  refine w_lift (h3.imp (fun y c2 h3 => w_lift (h3.imp ?_ fun _ _ h => h)) fun _ _ h => h)
  rintro z c3 ⟨fs', h4, h5, h6⟩
  simp only [h4]
  rw [if_pos ⟨trivial, h5⟩]
  exact h6
theorem w_ownE {cs : List Nm} {neg : Bool} {x y : W} {g : W → W → Conf → Out W} {fs : List (Nm × W)} (h1 : insW c x = some (C, fs)) (h2 : tagIn cs (tyTag c y) = true) (h : OP (f [x, y] c) (fun r c' => ∃ b, r = .bl b ∧ P (.bl (if neg then !b else b)) c') noE) : OP (oOwnE cs C f neg g x y c) P E := by
  unfold oOwnE
  rw [h1]
  simp only [if_true, h2]
  obtain ⟨r, c', e, b, rfl, h⟩ := h.ok
  rw [e]; exact h
theorem w_ownIn {neg : Bool} {x y : W} {g : W → W → Conf → Out W} {fs : List (Nm × W)} (h1 : insW c y = some (C, fs)) (h : OP (f [y, x] c) (fun r c' => ∃ b, r = .bl b ∧ P (.bl (if neg then !b else b)) c') noE) : OP (oOwnIn C f neg g x y c) P E := by
  unfold oOwnIn
  rw [h1]
  simp only [if_true]
  obtain ⟨r, c', e, b, rfl, h⟩ := h.ok
  rw [e]; exact h
theorem w_callK (h : OP (a ss c) (fun xs c1 => OP (ka ss c1) (fun zs c2 => (xs.length = n ∧ zs.length = m) ∧ OP (f (g xs zs) c2) P E) E) E) : OP (eCallK n m f g a ka ss c) P E :=
  w_bind (h.imp (fun xs c1 h => w_bind (h.imp (fun zs c2 h => w_ite h.1 h.2) fun _ _ h => h)) fun _ _ h => h)
theorem w_methK (h : OP (eo ss c) (fun x c1 => ∃ fs, insW c1 x = some (C, fs) ∧ lkp fs mm = none ∧ OP (a ss c1) (fun xs c2 => OP (ka ss c2) (fun zs c3 => (xs.length = n ∧ zs.length = m) ∧ OP (f (g (x :: xs) zs) c3) P E) E) E) E) : OP (eMethK C mm n m f g eo a ka ss c) P E := by
  refine w_bind (h.imp ?_ fun _ _ h => h)
  rintro x c1 ⟨fs, h1, h2, h3⟩
  rw [h1]
  simp only [h2]
  exact w_ite ⟨trivial, rfl⟩ (w_bind (h3.imp (fun xs c1 h => w_bind (h.imp (fun zs c2 h => w_ite h.1 h.2) fun _ _ h => h)) fun _ _ h => h))
end
/-! ### for over a list of the heap that the body leaves as it is -/
section
variable {k : Nat} {p : Pat} {sa : Es} {xs : List W} {nx bk ct : Sl → Conf → Prop} {rt : W → Conf → Prop} {xc : Xc → Sl → Conf → Prop}
theorem w_goForR (Inv : Nat → Sl → Conf → Prop) (hk : ∀ i ss c, Inv i ss c → c[k]? = some (.lst xs))
    (hs : ∀ i x ss c, xs[i]? = some x → Inv i ss c → ∃ ss1, wPat p x ss = some ss1 ∧ SP (sa ss1 c) ⟨Inv (i + 1), rt, nx, Inv (i + 1), xc⟩) (hd : ∀ ss c, Inv xs.length ss c → nx ss c) :
    ∀ (n i : Nat) (ss : Sl) (c : Conf), Inv i ss c → xs.length < i + n → i ≤ xs.length → SP (goForR k p sa n i ss c) ⟨nx, rt, bk, ct, xc⟩
  | 0, i, ss, c, _, hn, hi => absurd hn (by omega)
  | n + 1, i, ss, c, h, hn, hi => by
    simp only [goForR, hk i ss c h]
    cases hx : xs[i]? with
    | none =>
      have := List.getElem?_eq_none_iff.mp hx
      have e : i = xs.length := by omega
      subst e
      exact hd ss c h
    | some x =>
      have lt := (List.getElem?_eq_some_iff.mp hx).1
      obtain ⟨ss1, h1, h2⟩ := hs i x ss c hx h
      simp only [h1]
      refine w_turn ?_
      revert h2
      cases sa ss1 c with
      | ok fl c1 =>
        cases fl with
        | nx ss2 => exact fun h2 => w_goForR Inv hk hs hd n (i + 1) ss2 c1 h2 (by omega) (by omega)
        | ct ss2 => exact fun h2 => w_goForR Inv hk hs hd n (i + 1) ss2 c1 h2 (by omega) (by omega)
        | bk ss2 => exact fun h2 => h2
        | rt v => exact fun h2 => h2
      | exc x ss c => exact fun h2 => h2
      | bad => exact fun h2 => h2
theorem w_forLR {ea : Ee} {ss : Sl} {c : Conf} (h : OP (ea ss c) (fun x c1 => ∃ k xs, x = .ref k ∧ c1[k]? = some (.lst xs) ∧ SP (goForR k p sa (xs.length + 1) 0 ss c1) ⟨nx, rt, bk, ct, xc⟩) fun x c1 => xc x ss c1) : SP (sForL ea p sa ss c) ⟨nx, rt, bk, ct, xc⟩ := by
  refine w_lift (h.imp ?_ fun _ _ h => h)
  rintro x c1 ⟨k, xs, rfl, h1, h2⟩
  show SP (goForR k p sa (lenR k c1) 0 ss c1) _
  simp only [lenR, h1]
  exact h2
end
end Ev

set_option Elab.async false
set_option linter.all false
set_option maxRecDepth 100000
set_option maxHeartbeats 4000000
namespace Ev
open PySem PySem.Spec PyProof.Rows L2 Wf TL
abbrev n_Looker : Nm := [76, 111, 111, 107, 101, 114]
abbrev n_needed : Nm := [110, 101, 101, 100, 101, 100]
abbrev n_take : Nm := [116, 97, 107, 101]
abbrev n_first : Nm := [102, 105, 114, 115, 116]
abbrev n_is_split : Nm := [105, 115, 95, 115, 112, 108, 105, 116]
abbrev n_is_piece : Nm := [105, 115, 95, 112, 105, 101, 99, 101]
abbrev n_nesting : Nm := [110, 101, 115, 116, 105, 110, 103]
abbrev n_special : Nm := [115, 112, 101, 99, 105, 97, 108]
abbrev n_count : Nm := [99, 111, 117, 110, 116]
abbrev n_mode : Nm := [109, 111, 100, 101]
abbrev n_take_in_mode : Nm := [116, 97, 107, 101, 95, 105, 110, 95, 109, 111, 100, 101]
abbrev n_take_in_class : Nm := [116, 97, 107, 101, 95, 105, 110, 95, 99, 108, 97, 115, 115]
abbrev n_close_atom : Nm := [99, 108, 111, 115, 101, 95, 97, 116, 111, 109]
abbrev n_take_sign : Nm := [116, 97, 107, 101, 95, 115, 105, 103, 110]
abbrev n_take_atom : Nm := [116, 97, 107, 101, 95, 97, 116, 111, 109]
abbrev z_0 : List Nat := []
abbrev z_1 : List Nat := [92]
abbrev z_2 : List Nat := [97]
abbrev z_3 : List Nat := [97, 124, 40]
abbrev z_4 : List Nat := [91]
abbrev z_5 : List Nat := [40, 97]
abbrev z_6 : List Nat := [40]
abbrev z_7 : List Nat := [40, 98, 41]
abbrev z_8 : List Nat := [92, 46]
abbrev z_9 : List Nat := [93]
abbrev z_10 : List Nat := [97, 9, 98]
abbrev z_11 : List Nat := [97, 10]
abbrev z_12 : List Nat := [114, 111, 119]
abbrev z_13 : List Nat := [111, 112, 101, 110]
abbrev z_14 : List Nat := [98, 97, 114, 101]
abbrev z_15 : List Nat := [116, 111]
abbrev z_16 : List Nat := [105, 116, 101, 109]
abbrev z_17 : List Nat := [100, 111, 110, 101]
abbrev z_18 : List Nat := [115, 108, 97, 115, 104]
abbrev z_19 : List Nat := [124]
abbrev z_20 : List Nat := [40, 41]
abbrev z_21 : List Nat := [41]
abbrev z_22 : List Nat := [36]
abbrev z_23 : List Nat := [101, 110, 100]
abbrev z_24 : List Nat := [42, 43, 63]
abbrev z_25 : List Nat := [94, 123, 125, 93]
abbrev z_26 : List Nat := [46, 42, 43, 63, 124, 40, 91]
abbrev z_27 : List Nat := [46, 94, 36, 42, 43, 63, 123, 125, 91, 93, 92, 124, 40, 41]
abbrev z_28 : List Nat := [32]
abbrev z_29 : List Nat := [126]
abbrev z_30 : List Nat := [32, 95, 46, 44]
abbrev z_31 : List Nat := [45]
abbrev z_32 : List Nat := [94]
abbrev z_33 : List Nat := [48, 49, 50, 51, 52, 53, 54, 55, 56, 57]
abbrev z_34 : List Nat := [65, 66, 67, 68, 69, 70, 71, 72, 73, 74, 75, 76, 77, 78, 79, 80, 81, 82, 83, 84, 85, 86, 87, 88, 89, 90]
abbrev z_35 : List Nat := [97, 98, 99, 100, 101, 102, 103, 104, 105, 106, 107, 108, 109, 110, 111, 112, 113, 114, 115, 116, 117, 118, 119, 120, 121, 122]
abbrev z_36 : List Nat := [42]
abbrev z_37 : List Nat := [120, 121, 122]
abbrev z_38 : List Nat := [91, 57]
abbrev z_39 : List Nat := [46]
abbrev z_40 : List Nat := [97, 42]
abbrev z_41 : List Nat := [91, 94, 32, 93]
abbrev z_42 : List Nat := [91, 97, 45, 99, 93]
abbrev z_43 : List Nat := [98]
abbrev z_44 : List Nat := [97, 98, 91, 93, 40, 41, 124, 42, 43, 63, 46, 94, 45, 36, 92, 123, 125, 122, 65, 90, 48, 57, 32, 95, 44]
abbrev z_45 : List Nat := [115, 105, 103, 110, 115]
abbrev z_46 : List Nat := [63]
abbrev z_47 : List Nat := [43]
abbrev z_48 : List Nat := [64]
abbrev z_49 : List Nat := [96]
abbrev z_50 : List Nat := [95]
abbrev z_51 : List Nat := [65]
abbrev z_52 : List Nat := [91, 94]
abbrev z_53 : List Nat := [32, 98, 50, 45, 55]
abbrev z_54 : List Nat := [32, 98, 50, 51, 52, 53, 54, 55]
abbrev z_55 : List Nat := [120, 45, 122, 65, 45, 68]
abbrev z_56 : List Nat := [120, 121, 122, 65, 66, 67, 68]
abbrev z_57 : List Nat := [95, 65, 45, 66]
abbrev z_58 : List Nat := [95, 65, 66]
abbrev z_59 : List Nat := [97, 45, 99, 48, 45, 57]
abbrev z_60 : List Nat := [97, 98, 99, 48, 49, 50, 51, 52, 53, 54, 55, 56, 57]
abbrev z_61 : List Nat := [98, 53, 44, 95]
abbrev z_62 : List Nat := [65, 45, 68]
abbrev z_63 : List Nat := [65, 66, 67, 68]
abbrev z_64 : List Nat := [50, 45, 55]
abbrev z_65 : List Nat := [50, 51, 52, 53, 54, 55]
abbrev z_66 : List Nat := [48, 45, 57]
abbrev z_67 : List Nat := [65, 45, 66, 95]
abbrev z_68 : List Nat := [65, 66, 95]
abbrev z_69 : List Nat := [97, 46]
abbrev z_70 : List Nat := [97, 45, 99]
abbrev z_71 : List Nat := [97, 98, 99]
abbrev z_72 : List Nat := [97, 98]
abbrev z_73 : List Nat := [103, 114, 111, 117, 112]
abbrev z_74 : List Nat := [112, 105, 101, 99, 101]
abbrev z_75 : List Nat := [114, 97, 110, 103, 101]
abbrev z_76 : List Nat := [114, 97, 110, 103, 101, 100]
abbrev z_77 : List Nat := [105, 116, 101, 109, 115]
abbrev z_78 : List Nat := [110, 101, 103, 97, 116, 101, 100]
abbrev z_79 : List Nat := [99, 108, 97, 115, 115]
abbrev z_80 : List Nat := [101, 115, 99, 97, 112, 101]
abbrev z_81 : List Nat := [32, 33, 34, 35, 36, 38, 39, 40, 41, 42, 43, 44, 45, 46, 47, 48, 49, 50, 51, 52, 53, 54, 55, 56, 57, 58, 59, 60, 61, 62, 63, 64, 65, 66, 67, 68, 69, 70, 71, 72, 73, 74, 75, 76, 77, 78, 79, 80, 81, 82, 83, 84, 85, 86, 87, 88, 89, 90, 91, 92, 93, 94, 95, 96, 97, 98, 99, 100, 101, 102, 103, 104, 105, 106, 107, 108, 109, 110, 111, 112, 113, 114, 115, 116, 117, 118, 119, 120, 121, 122, 123, 124, 125, 126]
abbrev z_82 : List Nat := [97, 98, 99, 100, 101, 102, 103, 104, 105, 106, 107, 108, 109, 110, 111, 112, 113, 114, 115, 116, 117, 118, 119, 120, 121, 122, 65, 66, 67, 68, 69, 70, 71, 72, 73, 74, 75, 76, 77, 78, 79, 80, 81, 82, 83, 84, 85, 86, 87, 88, 89, 90, 48, 49, 50, 51, 52, 53, 54, 55, 56, 57, 32, 95, 46, 44]
def cs0 : List Nm := []
def xs0 : List (Nm × List Ty) := []
def b__law_bag : Es :=
  (sSeq (sAsg (eC (.int 0)) (.nm 2))
    (sSeq (sIf (bB (eBin oLtA (eVar 1) (eCB oLen (aCons (eVar 0) aNil)))) (sAsg (eBin oIx (eVar 0) (eVar 1)) (.nm 2)) sNext)
    (sSeq (sAsg (eC (.int 0)) (.nm 3))
    (sSeq (sIf (bB (eBin oGeA (eCB oAbs (aCons (eVar 2) aNil)) (eBin oPow (eC (.int 10)) (eC (.int 18))))) (sAsg (eCB oAbs (aCons (eVar 2) aNil)) (.nm 3)) sNext)
    (sSeq (sAsg (eLst (aCons (eC (.int 2147483629)) (aCons (eC (.int 2147483587)) (aCons (eC (.int 2147483579)) (aCons (eC (.int 2147483563)) (aCons (eC (.int 2147483549)) (aCons (eC (.int 2147483543)) (aCons (eC (.int 2147483497)) (aCons (eC (.int 2147483489)) aNil))))))))) (.nm 4))
    (sRet (eLstO (aCons (eVar 3) (aCons (eBin oMod (eCB oInt (aCons (eBin oPow (eBin oAddA (eBin oAddA (eBin oMod (eCB oInt (aCons (eVar 2) aNil)) (eC (.int 2147483647))) (eBin oMulA (eC (.int 104711)) (eVar 1))) (eC (.int 23))) (eC (.int 5))) aNil)) (eBin oIx (eVar 4) (eBin oMod (eVar 1) (eC (.int 8))))) (aCons (eC (.int 0)) aNil))))))))))
def e__law_bag : Fn := eDef 2 5 b__law_bag
def b__law_kin : Es :=
  (sSeq (sForL (eLst (aCons (eC (.str z_35)) (aCons (eC (.str z_34)) (aCons (eC (.str z_33)) aNil)))) (.nm 1) (sIf (bB (eBin oIn2 (eVar 0) (eVar 1))) (sRet (eVar 1)) sNext))
    (sRet (eC (.str z_0))))
def e__law_kin : Fn := eDef 1 2 b__law_kin
def b__law_in_class : Es :=
  (sSeq (sAsg (eVar 0) (.tup (.cons (.nm 2) (.cons (.nm 3) (.cons (.nm 4) (.cons (.nm 5) (.cons (.nm 6) (.cons (.nm 7) .nil))))))))
    (sSeq (sIf (bAnd (bB (eBin oEq (eVar 2) (eC (.str z_13)))) (bB (eBin oEq (eVar 1) (eC (.str z_32))))) (sRet (eTup (aCons (eC (.str z_14)) (aCons (eVar 3) (aCons (eVar 4) (aCons (eVar 5) (aCons (eVar 6) (aCons (eC (.str z_0)) aNil)))))))) sNext)
    (sSeq (sIf (bAnd (bB (eBin oIn2 (eVar 2) (eLst (aCons (eC (.str z_16)) (aCons (eC (.str z_17)) aNil))))) (bB (eBin oEq (eVar 1) (eC (.str z_9))))) (sRet (eTup (aCons (eC (.str z_12)) (aCons (eVar 3) (aCons (eVar 4) (aCons (eC (.bl true)) (aCons (eVar 6) (aCons (eC (.str z_0)) aNil)))))))) sNext)
    (sSeq (sIf (bAnd (bB (eBin oEq (eVar 2) (eC (.str z_16)))) (bB (eBin oEq (eVar 1) (eC (.str z_31))))) (sSeq (sAsg (eCall e__law_kin [] (aCons (eVar 7) aNil)) (.nm 8))
    (sRet (eIf (bAnd (bB (eBin oNe (eVar 8) (eC (.str z_0)))) (bB (eBin oNe (eBin oIx (eVar 8) (eUn oNeg (eC (.int 1)))) (eVar 7)))) (eTup (aCons (eC (.str z_15)) (aCons (eVar 3) (aCons (eVar 4) (aCons (eVar 5) (aCons (eVar 6) (aCons (eVar 7) aNil))))))) (eC .non)))) sNext)
    (sSeq (sIf (bB (eBin oEq (eVar 2) (eC (.str z_15)))) (sSeq (sAsg (eCall e__law_kin [] (aCons (eVar 7) aNil)) (.nm 8))
    (sSeq (sAsg (eAnd (eBin oIn2 (eVar 1) (eVar 8)) (eBin oGtA (eBM "str" oIndexS (eVar 8) (aCons (eVar 1) aNil)) (eBM "str" oIndexS (eVar 8) (aCons (eVar 7) aNil)))) (.nm 9))
    (sRet (eIf (bB (eVar 9)) (eTup (aCons (eC (.str z_17)) (aCons (eVar 3) (aCons (eVar 4) (aCons (eVar 5) (aCons (eVar 6) (aCons (eC (.str z_0)) aNil))))))) (eC .non))))) sNext)
    (sSeq (sAsg (eOr (eBin oNe (eCall e__law_kin [] (aCons (eVar 1) aNil)) (eC (.str z_0))) (eBin oIn2 (eVar 1) (eC (.str z_30)))) (.nm 9))
    (sRet (eIf (bB (eVar 9)) (eTup (aCons (eC (.str z_16)) (aCons (eVar 3) (aCons (eVar 4) (aCons (eVar 5) (aCons (eVar 6) (aCons (eVar 1) aNil))))))) (eC .non)))))))))
def e__law_in_class : Fn := eDef 2 10 b__law_in_class
def b__law_behind : Es :=
  (sSeq (sAsg (eVar 0) (.tup (.cons (.nm 2) (.cons (.nm 3) (.cons (.nm 4) (.cons (.nm 5) (.cons (.nm 6) (.cons (.nm 7) .nil))))))))
    (sSeq (sIf (bOr (bB (eBin oEq (eVar 2) (eC (.str z_23)))) (bOr (bB (eBin oLtA (eVar 1) (eC (.str z_28)))) (bB (eBin oGtA (eVar 1) (eC (.str z_29)))))) (sRet (eC .non)) sNext)
    (sSeq (sIf (bB (eBin oIn2 (eVar 2) (eLst (aCons (eC (.str z_13)) (aCons (eC (.str z_14)) (aCons (eC (.str z_16)) (aCons (eC (.str z_17)) (aCons (eC (.str z_15)) aNil)))))))) (sRet (eCall e__law_in_class [] (aCons (eVar 0) (aCons (eVar 1) aNil)))) sNext)
    (sSeq (sIf (bB (eBin oEq (eVar 2) (eC (.str z_18)))) (sRet (eIf (bB (eBin oIn2 (eVar 1) (eC (.str z_27)))) (eTup (aCons (eC (.str z_12)) (aCons (eVar 3) (aCons (eVar 4) (aCons (eC (.bl true)) (aCons (eVar 6) (aCons (eC (.str z_0)) aNil))))))) (eC .non))) sNext)
    (sSeq (sAsg (eBin oAddA (eVar 4) (eCB oInt (aCons (eBin oIn2 (eVar 1) (eC (.str z_26))) aNil))) (.nm 4))
    (sSeq (sIf (bOr (bB (eBin oGtA (eVar 4) (eC (.int 10)))) (bB (eBin oIn2 (eVar 1) (eC (.str z_25))))) (sRet (eC .non)) sNext)
    (sSeq (sIf (bB (eBin oIn2 (eVar 1) (eC (.str z_24)))) (sRet (eIf (bB (eVar 5)) (eTup (aCons (eC (.str z_12)) (aCons (eVar 3) (aCons (eVar 4) (aCons (eC (.bl false)) (aCons (eVar 6) (aCons (eC (.str z_0)) aNil))))))) (eC .non))) sNext)
    (sSeq (sIf (bB (eBin oEq (eVar 1) (eC (.str z_22)))) (sRet (eIf (bAnd (bB (eBin oEq (eVar 3) (eC (.int 0)))) (bNot (bB (eVar 6)))) (eTup (aCons (eC (.str z_23)) (aCons (eC (.int 0)) (aCons (eVar 4) (aCons (eC (.bl false)) (aCons (eVar 6) (aCons (eC (.str z_0)) aNil))))))) (eC .non))) sNext)
    (sSeq (sIf (bB (eBin oIn2 (eVar 1) (eC (.str z_20)))) (sSeq (sAsg (eBin oAddA (eVar 3) (eBin oIx (eLst (aCons (eC (.int 1)) (aCons (eUn oNeg (eC (.int 1))) aNil))) (eBM "str" oIndexS (eC (.str z_20)) (aCons (eVar 1) aNil)))) (.nm 3))
    (sRet (eIf (bB (eChain oLeA oLtA (eC (.int 0)) (eVar 3) (eC (.int 5)))) (eTup (aCons (eC (.str z_12)) (aCons (eVar 3) (aCons (eVar 4) (aCons (eBin oEq (eVar 1) (eC (.str z_21))) (aCons (eVar 6) (aCons (eC (.str z_0)) aNil))))))) (eC .non)))) sNext)
    (sSeq (sAsg (eDisp [((eC (.str z_19)), (eTup (aCons (eC (.str z_12)) (aCons (eC (.bl false)) (aCons (eOr (eVar 6) (eBin oEq (eVar 3) (eC (.int 0)))) aNil))))), ((eC (.str z_4)), (eTup (aCons (eC (.str z_13)) (aCons (eC (.bl true)) (aCons (eVar 6) aNil))))), ((eC (.str z_1)), (eTup (aCons (eC (.str z_18)) (aCons (eC (.bl true)) (aCons (eVar 6) aNil)))))]) (.nm 8))
    (sSeq (sAsg (eDGet2 (eVar 8) (eVar 1) (eTup (aCons (eC (.str z_12)) (aCons (eC (.bl true)) (aCons (eVar 6) aNil))))) (.tup (.cons (.nm 2) (.cons (.nm 5) (.cons (.nm 6) .nil)))))
    (sRet (eTup (aCons (eVar 2) (aCons (eVar 3) (aCons (eVar 4) (aCons (eVar 5) (aCons (eVar 6) (aCons (eC (.str z_0)) aNil)))))))))))))))))))
def e__law_behind : Fn := eFr (eDef 2 9 b__law_behind)
def b__law_due : Es :=
  (sSeq (sPar 1 2 (aCons (eTup (aCons (eC (.str z_12)) (aCons (eC (.int 0)) (aCons (eC (.int 0)) (aCons (eC (.bl false)) (aCons (eC (.bl false)) (aCons (eC (.str z_0)) aNil))))))) (aCons (eDisp [((eC (.str z_13)), (eC (.int 2))), ((eC (.str z_14)), (eC (.int 2))), ((eC (.str z_15)), (eC (.int 2))), ((eC (.str z_16)), (eC (.int 1))), ((eC (.str z_17)), (eC (.int 1))), ((eC (.str z_18)), (eC (.int 1)))]) aNil)))
    (sSeq (sForR (aCons (eCB oLen (aCons (eVar 0) aNil)) aNil) (.nm 3) (sSeq (sAsg (eCall e__law_behind [] (aCons (eVar 1) (aCons (eBin oIx (eVar 0) (eVar 3)) aNil))) (.nm 1))
    (sIf (bOr (bB (eBin oIsA (eVar 1) (eC .non))) (bB (eBin oEq (eVar 3) (eC (.int 60))))) (sRet (eVar 3)) sNext)))
    (sRet (eIf (bB (eBin oEq (eBin oAddA (eBin oIx (eVar 1) (eC (.int 1))) (eDGet2 (eVar 2) (eBin oIx (eVar 1) (eC (.int 0))) (eC (.int 0)))) (eC (.int 0)))) (eC .non) (eCB oLen (aCons (eVar 0) aNil))))))
def e__law_due : Fn := eFr (eDef 1 4 b__law_due)
def b__law_take : Es :=
  (sSeq (sIf (bB (eBin oGtA (eBin oIx (eVar 0) (eC (.int 0))) (eC (.int 0)))) (sSeq (sAsg (eBin oMod (eCB oInt (aCons (eBin oIx (eVar 0) (eC (.int 0))) aNil)) (eVar 1)) (.nm 2))
    (sSeq (sSetI (eBin oDiv (eBin oIx (eVar 0) (eC (.int 0))) (eVar 1)) (eVar 0) (eC (.int 0)))
    (sRet (eVar 2)))) sNext)
    (sSeq (sSetI (eBin oAddA (eBin oIx (eVar 0) (eC (.int 2))) (eC (.int 1))) (eVar 0) (eC (.int 2)))
    (sSeq (sSetI (eBin oMod (eCB oInt (aCons (eBin oAddA (eBin oAddA (eBin oMulA (eBin oIx (eVar 0) (eC (.int 1))) (eC (.int 69621))) (eBin oMulA (eC (.int 6007)) (eBin oIx (eVar 0) (eC (.int 2))))) (eC (.int 19))) aNil)) (eC (.int 2147483647))) (eVar 0) (eC (.int 1)))
    (sRet (eBin oMod (eBin oMod (eCB oInt (aCons (eBin oPow (eBin oDiv (eBin oIx (eVar 0) (eC (.int 1))) (eC (.int 8))) (eC (.int 3))) aNil)) (eC (.int 2147483629))) (eVar 1))))))
def e__law_take : Fn := eDef 2 3 b__law_take
def b__law_pick : Es :=
  (sRet (eBin oIx (eVar 1) (eCall e__law_take [] (aCons (eVar 0) (aCons (eCB oLen (aCons (eVar 1) aNil)) aNil)))))
def e__law_pick : Fn := eDef 2 2 b__law_pick
def b__law_piece (ch : Fn) : Es :=
  (sSeq (sPar 2 3 (aCons (eCall e__law_take [] (aCons (eVar 0) (aCons (eC (.int 8)) aNil))) (aCons (eC .non) aNil)))
    (sSeq (sIf (bB (eBin oLtA (eVar 2) (eC (.int 4)))) (sSeq (sAsg (eCall e__law_pick [] (aCons (eVar 0) (aCons (eLst (aCons (eC (.str z_2)) (aCons (eC (.str z_43)) (aCons (eC (.str z_51)) (aCons (eC (.str z_28)) (aCons (eC (.str z_50)) (aCons (eC (.str z_2)) (aCons (eC (.str z_43)) (aCons (eC (.str z_49)) (aCons (eC (.str z_48)) (aCons (eC (.str z_29)) aNil))))))))))) aNil))) (.nm 4))
    (sAsg (eTup (aCons (eC (.str z_45)) (aCons (eVar 4) (aCons (eC (.bl false)) (aCons (eVar 4) aNil))))) (.nm 3))) (sIf (bB (eBin oEq (eVar 2) (eC (.int 4)))) (sSeq (sAsg (eCall e__law_pick [] (aCons (eVar 0) (aCons (eC (.str z_27)) aNil))) (.nm 4))
    (sAsg (eTup (aCons (eC (.str z_45)) (aCons (eVar 4) (aCons (eC (.bl false)) (aCons (eBin oAddA (eC (.str z_1)) (eVar 4)) aNil))))) (.nm 3))) (sIf (bB (eBin oEq (eVar 2) (eC (.int 5)))) (sAsg (eTup (aCons (eC (.str z_45)) (aCons (eC (.str z_0)) (aCons (eC (.bl true)) (aCons (eC (.str z_39)) aNil))))) (.nm 3)) (sIf (bOr (bB (eBin oEq (eVar 2) (eC (.int 6)))) (bB (eBin oEq (eVar 1) (eC (.int 0))))) (sSeq (sAsg (eLst (aCons (eTup (aCons (eC (.str z_72)) (aCons (eC (.str z_72)) aNil))) (aCons (eTup (aCons (eC (.str z_71)) (aCons (eC (.str z_70)) aNil))) (aCons (eTup (aCons (eC (.str z_69)) (aCons (eC (.str z_69)) aNil))) (aCons (eTup (aCons (eC (.str z_68)) (aCons (eC (.str z_67)) aNil))) (aCons (eTup (aCons (eC (.str z_28)) (aCons (eC (.str z_28)) aNil))) (aCons (eTup (aCons (eC (.str z_33)) (aCons (eC (.str z_66)) aNil))) aNil))))))) (.nm 5))
    (sSeq (sAsg (eBin oAddA (eVar 5) (eLst (aCons (eTup (aCons (eC (.str z_65)) (aCons (eC (.str z_64)) aNil))) (aCons (eTup (aCons (eC (.str z_63)) (aCons (eC (.str z_62)) aNil))) (aCons (eTup (aCons (eC (.str z_61)) (aCons (eC (.str z_61)) aNil))) (aCons (eTup (aCons (eC (.str z_60)) (aCons (eC (.str z_59)) aNil))) aNil)))))) (.nm 5))
    (sSeq (sAsg (eCall e__law_pick [] (aCons (eVar 0) (aCons (eBin oAddA (eVar 5) (eLst (aCons (eTup (aCons (eC (.str z_58)) (aCons (eC (.str z_57)) aNil))) (aCons (eTup (aCons (eC (.str z_56)) (aCons (eC (.str z_55)) aNil))) (aCons (eTup (aCons (eC (.str z_54)) (aCons (eC (.str z_53)) aNil))) aNil))))) aNil))) (.nm 6))
    (sSeq (sAsg (eTup (aCons (eC (.str z_45)) (aCons (eBin oIx (eVar 6) (eC (.int 0))) (aCons (eBin oEq (eCall e__law_take [] (aCons (eVar 0) (aCons (eC (.int 2)) aNil))) (eC (.int 0))) (aCons (eBin oIx (eVar 6) (eC (.int 1))) aNil))))) (.nm 3))
    (sAsg (eBin oAddA (eSl oSlU (eVar 3) eNoPart (ePart (eC (.int 3)))) (eTup (aCons (eBin oAddA (eBin oAddA (eBin oIx (eLst (aCons (eC (.str z_4)) (aCons (eC (.str z_52)) aNil))) (eCB oInt (aCons (eBin oIx (eVar 3) (eC (.int 2))) aNil))) (eBin oIx (eVar 6) (eC (.int 1)))) (eC (.str z_9))) aNil))) (.nm 3)))))) (sAsg (eTup (aCons (eC (.str z_73)) (aCons (eCall ch [] (aCons (eVar 0) (aCons (eBin oSub (eVar 1) (eC (.int 1))) aNil))) aNil))) (.nm 3))))))
    (sRet (eTup (aCons (eVar 3) (aCons (eCall e__law_pick [] (aCons (eVar 0) (aCons (eLst (aCons (eC (.str z_0)) (aCons (eC (.str z_0)) (aCons (eC (.str z_0)) (aCons (eC (.str z_36)) (aCons (eC (.str z_47)) (aCons (eC (.str z_46)) aNil))))))) aNil))) aNil))))))
def e__law_piece (ch : Fn) : Fn := eDef 2 7 (b__law_piece ch)
def b__law_rows_of (ch : Fn) : Es :=
  (sSeq (sAsg (eLstO aNil) (.nm 2))
    (sSeq (sForR (aCons (eBin oAddA (eC (.int 1)) (eCall e__law_take [] (aCons (eVar 0) (aCons (eC (.int 2)) aNil)))) aNil) (.nm 3) (sDrop (eBM "list" oAppend (eVar 2) (aCons (eLcR false (aCons (eCall e__law_take [] (aCons (eVar 0) (aCons (eC (.int 4)) aNil))) aNil) (.nm 4) bYes (eCall (e__law_piece ch) [] (aCons (eVar 0) (aCons (eVar 1) aNil))) [4]) aNil))))
    (sRet (eVar 2))))
def e__law_rows_of1 (ch : Fn) : Fn := eDef 2 5 (b__law_rows_of ch)
def e__law_rows_of : Nat → Fn
  | 0 => fun _ _ => .bad
  | n + 1 => e__law_rows_of1 (e__law_rows_of n)
def b__law_special (ch : Fn) : Es :=
  (sSeq (sAsg (eBin oSub (eCB oLen (aCons (eVar 0) aNil)) (eC (.int 1))) (.nm 1))
    (sSeq (sForL (eVar 0) (.nm 2) (sForL (eVar 2) (.tup (.cons (.nm 3) (.cons (.nm 4) .nil))) (sSeq (sAsg (eBin oAddA (eVar 1) (eCB oLen (aCons (eVar 4) aNil))) (.nm 1))
    (sIf (bB (eBin oEq (eBin oIx (eVar 3) (eC (.int 0))) (eC (.str z_73)))) (sAsg (eBin oAddA (eBin oAddA (eVar 1) (eC (.int 1))) (eCall ch [] (aCons (eBin oIx (eVar 3) (eC (.int 1))) aNil))) (.nm 1)) (sIf (bOr (bB (eBin oEq (eBin oIx (eVar 3) (eC (.int 3))) (eC (.str z_39)))) (bB (eBin oEq (eSl oSlU (eBin oIx (eVar 3) (eC (.int 3))) eNoPart (ePart (eC (.int 1)))) (eC (.str z_4))))) (sAsg (eBin oAddA (eVar 1) (eC (.int 1))) (.nm 1)) sNext)))))
    (sRet (eVar 1))))
def e__law_special1 (ch : Fn) : Fn := eDef 1 5 (b__law_special ch)
def e__law_special : Nat → Fn
  | 0 => fun _ _ => .bad
  | n + 1 => e__law_special1 (e__law_special n)
def b__law_written (ch : Fn) : Es :=
  (sSeq (sAsg (eLstO aNil) (.nm 1))
    (sSeq (sForL (eVar 0) (.nm 2) (sSeq (sAsg (eC (.str z_0)) (.nm 3))
    (sSeq (sForL (eVar 2) (.tup (.cons (.nm 4) (.cons (.nm 5) .nil))) (sSeq (sAsg (eIf (bB (eBin oEq (eBin oIx (eVar 4) (eC (.int 0))) (eC (.str z_45)))) (eBin oIx (eVar 4) (eC (.int 3))) (eBin oAddA (eBin oAddA (eC (.str z_6)) (eCall ch [] (aCons (eBin oIx (eVar 4) (eC (.int 1))) aNil))) (eC (.str z_21)))) (.nm 6))
    (sAsg (eBin oAddA (eBin oAddA (eVar 3) (eVar 6)) (eVar 5)) (.nm 3))))
    (sDrop (eBM "list" oAppend (eVar 1) (aCons (eVar 3) aNil))))))
    (sRet (eBM "str" oJoin (eC (.str z_19)) (aCons (eVar 1) aNil)))))
def e__law_written1 (ch : Fn) : Fn := eDef 1 7 (b__law_written ch)
def e__law_written : Nat → Fn
  | 0 => fun _ _ => .bad
  | n + 1 => e__law_written1 (e__law_written n)
def b__law_pattern : Es :=
  (sSeq (sAsg (eCall (e__law_rows_of 8) [] (aCons (eVar 0) (aCons (eC (.int 2)) aNil))) (.nm 1))
    (sSeq (sIf (bOr (bB (eBin oGtA (eCall (e__law_special 8) [] (aCons (eVar 1) aNil)) (eC (.int 10)))) (bB (eBin oGtA (eCB oLen (aCons (eCall (e__law_written 8) [] (aCons (eVar 1) aNil)) aNil)) (eC (.int 59))))) (sAsg (eLst (aCons (eLst (aCons (eTup (aCons (eTup (aCons (eC (.str z_45)) (aCons (eC (.str z_2)) (aCons (eC (.bl false)) (aCons (eC (.str z_2)) aNil))))) (aCons (eC (.str z_36)) aNil))) (aCons (eTup (aCons (eTup (aCons (eC (.str z_45)) (aCons (eC (.str z_43)) (aCons (eC (.bl false)) (aCons (eC (.str z_43)) aNil))))) (aCons (eC (.str z_0)) aNil))) aNil))) aNil)) (.nm 1)) sNext)
    (sSeq (sAsg (eAnd (eBin oEq (eCB oLen (aCons (eVar 1) aNil)) (eC (.int 1))) (eBin oEq (eCall e__law_take [] (aCons (eVar 0) (aCons (eC (.int 2)) aNil))) (eC (.int 0)))) (.nm 2))
    (sRet (eTup (aCons (eVar 1) (aCons (eVar 2) (aCons (eBin oAddA (eCall (e__law_written 8) [] (aCons (eVar 1) aNil)) (eBin oMulA (eC (.str z_22)) (eCB oInt (aCons (eVar 2) aNil)))) aNil))))))))
def e__law_pattern : Fn := eDef 1 3 b__law_pattern
def b__law_string : Es :=
  (sSeq (sPar 1 2 (aCons (eCall e__law_take [] (aCons (eVar 0) (aCons (eC (.int 4)) aNil))) (aCons (eC (.str z_0)) aNil)))
    (sSeq (sIf (bB (eBin oEq (eVar 1) (eC (.int 0)))) (sSeq (sForR (aCons (eCall e__law_take [] (aCons (eVar 0) (aCons (eC (.int 71)) aNil))) aNil) (.nm 3) (sAsg (eBin oAddA (eVar 2) (eCall e__law_pick [] (aCons (eVar 0) (aCons (eC (.str z_44)) aNil)))) (.nm 2)))
    (sRet (eVar 2))) sNext)
    (sSeq (sIf (bB (eBin oEq (eVar 1) (eC (.int 1)))) (sSeq (sForR (aCons (eCall e__law_take [] (aCons (eVar 0) (aCons (eC (.int 30)) aNil))) aNil) (.nm 3) (sAsg (eBin oAddA (eVar 2) (eCall e__law_pick [] (aCons (eVar 0) (aCons (eLst (aCons (eC (.str z_2)) (aCons (eC (.str z_43)) (aCons (eC (.str z_42)) (aCons (eC (.str z_41)) (aCons (eC (.str z_6)) (aCons (eC (.str z_21)) (aCons (eC (.str z_19)) (aCons (eC (.str z_40)) (aCons (eC (.str z_8)) (aCons (eC (.str z_39)) (aCons (eC (.str z_38)) (aCons (eC (.str z_37)) aNil))))))))))))) aNil)))) (.nm 2)))
    (sRet (eVar 2))) sNext)
    (sSeq (sAsg (eBin oIx (eCall e__law_pattern [] (aCons (eVar 0) aNil)) (eC (.int 2))) (.nm 2))
    (sSeq (sAsg (eCall e__law_take [] (aCons (eVar 0) (aCons (eBin oAddA (eCB oLen (aCons (eVar 2) aNil)) (eC (.int 1))) aNil))) (.nm 4))
    (sSeq (sAsg (eCall e__law_pick [] (aCons (eVar 0) (aCons (eLst (aCons (eC (.str z_0)) (aCons (eC (.str z_6)) (aCons (eC (.str z_21)) (aCons (eC (.str z_36)) (aCons (eC (.str z_22)) (aCons (eC (.str z_4)) (aCons (eC (.str z_9)) (aCons (eC (.str z_19)) (aCons (eC (.str z_2)) (aCons (eC (.str z_31)) (aCons (eC (.str z_32)) (aCons (eC (.str z_1)) aNil))))))))))))) aNil))) (.nm 5))
    (sRet (eBin oAddA (eBin oAddA (eSl oSlU (eVar 2) eNoPart (ePart (eVar 4))) (eVar 5)) (eSl oSlU (eVar 2) (ePart (eBin oAddA (eVar 4) (eCall e__law_take [] (aCons (eVar 0) (aCons (eC (.int 2)) aNil))))) eNoPart)))))))))
def e__law_string : Fn := eDef 1 6 b__law_string
def b_Looker___init__ : Es :=
  (sSeq (sPutF n_Looker n_mode (eVar 0) (eC (.str z_74)))
    (sSeq (sPutF n_Looker n_count (eVar 0) (eC (.int 0)))
    (sSeq (sPutF n_Looker n_special (eVar 0) (eC (.int 0)))
    (sSeq (sPutF n_Looker n_nesting (eVar 0) (eC (.int 0)))
    (sSeq (sPutF n_Looker n_is_piece (eVar 0) (eC (.bl false)))
    (sSeq (sPutF n_Looker n_is_split (eVar 0) (eC (.bl false)))
    (sPutF n_Looker n_first (eVar 0) (eC (.str z_0)))))))))
def e_Looker___init__ : Fn := eDef 1 1 b_Looker___init__
def b_Looker_needed : Es :=
  (sRet (eBin oAddA (eFld n_Looker n_nesting (eVar 0)) (eKd [(z_74, (.int 0)), (z_80, (.int 1)), (z_79, (.int 2)), (z_78, (.int 2)), (z_77, (.int 1)), (z_76, (.int 1)), (z_75, (.int 2)), (z_23, (.int 0))] (eFld n_Looker n_mode (eVar 0)))))
def e_Looker_needed : Fn := eDef 1 1 b_Looker_needed
def b_Looker_close_atom : Es :=
  (sSeq (sPutF n_Looker n_mode (eVar 0) (eVar 1))
    (sSeq (sPutF n_Looker n_is_piece (eVar 0) (eC (.bl true)))
    (sRet (eVar 2))))
def e_Looker_close_atom : Fn := eDef 3 3 b_Looker_close_atom
def b_run_of : Es :=
  (sSeq (sForT (eC (.wtp [(.str z_35), (.str z_34), (.str z_33)])) (.nm 1) (sIf (bB (eBin oIn2 (eVar 0) (eVar 1))) (sRet (eVar 1)) sNext))
    (sRet (eC (.str z_0))))
def e_run_of : Fn := eDef 1 2 b_run_of
def b_Looker_take_in_class : Es :=
  (sSeq (sIf (bAnd (bB (eBin oEq (eFld n_Looker n_mode (eVar 0)) (eC (.str z_79)))) (bB (eBin oEq (eVar 1) (eC (.str z_32))))) (sSeq (sPutF n_Looker n_mode (eVar 0) (eC (.str z_78)))
    (sRet (eC (.bl true)))) sNext)
    (sSeq (sIf (bAnd (bB (eBin oIn2 (eFld n_Looker n_mode (eVar 0)) (eTup (aCons (eC (.str z_77)) (aCons (eC (.str z_76)) aNil))))) (bB (eBin oEq (eVar 1) (eC (.str z_9))))) (sRet (eMeth n_Looker n_close_atom e_Looker_close_atom [] (eVar 0) (aCons (eC (.str z_74)) (aCons (eC (.bl true)) aNil)))) sNext)
    (sSeq (sIf (bAnd (bB (eBin oEq (eFld n_Looker n_mode (eVar 0)) (eC (.str z_77)))) (bB (eBin oEq (eVar 1) (eC (.str z_31))))) (sSeq (sPutF n_Looker n_mode (eVar 0) (eC (.str z_75)))
    (sRet (eAnd (eBin oNe (eCall e_run_of [] (aCons (eFld n_Looker n_first (eVar 0)) aNil)) (eC (.str z_0))) (eBin oNe (eBin oIx (eCall e_run_of [] (aCons (eFld n_Looker n_first (eVar 0)) aNil)) (eUn oNeg (eC (.int 1)))) (eFld n_Looker n_first (eVar 0)))))) sNext)
    (sSeq (sAsgT (eTup (aCons (eC (.str z_77)) (aCons (eVar 1) aNil))) (.fld n_Looker n_mode (eVar 0)) (.fld n_Looker n_first (eVar 0)))
    (sRet (eBin oIn2 (eVar 1) (eC (.str z_82))))))))
def e_Looker_take_in_class : Fn := eDef 2 2 b_Looker_take_in_class
def b_Looker_take_atom : Es :=
  (sSeq (sIf (bB (eBin oIn2 (eVar 1) (eTup (aCons (eC (.str z_4)) (aCons (eC (.str z_1)) aNil))))) (sSeq (sPutF n_Looker n_mode (eVar 0) (eIf (bB (eBin oEq (eVar 1) (eC (.str z_4)))) (eC (.str z_79)) (eC (.str z_80))))
    (sRet (eC (.bl true)))) sNext)
    (sSeq (sIf (bB (eBin oEq (eVar 1) (eC (.str z_6)))) (sSeq (sAugF n_Looker n_nesting oIAdd (eVar 0) (eC (.int 1)))
    (sSeq (sPutF n_Looker n_is_piece (eVar 0) (eC (.bl false)))
    (sRet (eBin oLeA (eFld n_Looker n_nesting (eVar 0)) (eC (.int 4)))))) sNext)
    (sSeq (sIf (bB (eBin oEq (eVar 1) (eC (.str z_21)))) (sSeq (sAugF n_Looker n_nesting oSub (eVar 0) (eC (.int 1)))
    (sRet (eMeth n_Looker n_close_atom e_Looker_close_atom [] (eVar 0) (aCons (eC (.str z_74)) (aCons (eBin oGeA (eFld n_Looker n_nesting (eVar 0)) (eC (.int 0))) aNil))))) sNext)
    (sRet (eMeth n_Looker n_close_atom e_Looker_close_atom [] (eVar 0) (aCons (eC (.str z_74)) (aCons (eOr (eBin oEq (eVar 1) (eC (.str z_39))) (eBin oNotIn2 (eVar 1) (eC (.str z_27)))) aNil)))))))
def e_Looker_take_atom : Fn := eDef 2 2 b_Looker_take_atom
def b_Looker_take_sign : Es :=
  (sSeq (sIf (bB (eBin oIn2 (eVar 1) (eC (.str z_26)))) (sSeq (sAugF n_Looker n_special oIAdd (eVar 0) (eC (.int 1)))
    (sIf (bB (eBin oGtA (eFld n_Looker n_special (eVar 0)) (eC (.int 10)))) (sRet (eC (.bl false))) sNext)) sNext)
    (sSeq (sIf (bB (eBin oIn2 (eVar 1) (eC (.str z_24)))) (sSeq (sAsgT (eTup (aCons (eFld n_Looker n_is_piece (eVar 0)) (aCons (eC (.bl false)) aNil))) (.nm 2) (.fld n_Looker n_is_piece (eVar 0)))
    (sRet (eVar 2))) sNext)
    (sSeq (sIf (bB (eBin oEq (eVar 1) (eC (.str z_19)))) (sSeq (sPutF n_Looker n_is_split (eVar 0) (eOr (eFld n_Looker n_is_split (eVar 0)) (eBin oEq (eFld n_Looker n_nesting (eVar 0)) (eC (.int 0)))))
    (sSeq (sPutF n_Looker n_is_piece (eVar 0) (eC (.bl false)))
    (sRet (eC (.bl true))))) sNext)
    (sSeq (sIf (bB (eBin oEq (eVar 1) (eC (.str z_22)))) (sSeq (sPutF n_Looker n_mode (eVar 0) (eC (.str z_23)))
    (sRet (eAnd (eBin oEq (eFld n_Looker n_nesting (eVar 0)) (eC (.int 0))) (eNot (eFld n_Looker n_is_split (eVar 0)))))) sNext)
    (sRet (eMeth n_Looker n_take_atom e_Looker_take_atom [] (eVar 0) (aCons (eVar 1) aNil)))))))
def e_Looker_take_sign : Fn := eDef 2 3 b_Looker_take_sign
def b_Looker_take_in_mode : Es :=
  (sMatch (eFld n_Looker n_mode (eVar 0)) [(z_74, (sRet (eMeth n_Looker n_take_sign e_Looker_take_sign [] (eVar 0) (aCons (eVar 1) aNil)))),
    (z_80, (sRet (eMeth n_Looker n_close_atom e_Looker_close_atom [] (eVar 0) (aCons (eC (.str z_74)) (aCons (eBin oIn2 (eVar 1) (eC (.str z_27))) aNil))))),
    (z_23, (sRet (eC (.bl false)))),
    (z_75, (sSeq (sAsg (eCall e_run_of [] (aCons (eFld n_Looker n_first (eVar 0)) aNil)) (.nm 2))
    (sRet (eMeth n_Looker n_close_atom e_Looker_close_atom [] (eVar 0) (aCons (eC (.str z_76)) (aCons (eAnd (eBin oIn2 (eVar 1) (eVar 2)) (eBin oLtA (eFld n_Looker n_first (eVar 0)) (eVar 1))) aNil))))))] (sRet (eMeth n_Looker n_take_in_class e_Looker_take_in_class [] (eVar 0) (aCons (eVar 1) aNil))))
def e_Looker_take_in_mode : Fn := eDef 2 3 b_Looker_take_in_mode
def b_Looker_take : Es :=
  (sSeq (sAugF n_Looker n_count oIAdd (eVar 0) (eC (.int 1)))
    (sRet (eAnd (eBin oLeA (eFld n_Looker n_count (eVar 0)) (eC (.int 60))) (eAnd (eBin oIn2 (eVar 1) (eC (.str z_81))) (eMeth n_Looker n_take_in_mode e_Looker_take_in_mode [] (eVar 0) (aCons (eVar 1) aNil))))))
def e_Looker_take : Fn := eDef 2 2 b_Looker_take
def b_pattern_error : Es :=
  (sSeq (sAsg (eMake n_Looker e_Looker___init__ [] aNil) (.nm 1))
    (sSeq (sForES (aCons (eVar 0) aNil) (.tup (.cons (.nm 2) (.cons (.nm 3) .nil))) (sIf (bNot (bB (eMeth n_Looker n_take e_Looker_take [] (eVar 1) (aCons (eVar 3) aNil)))) (sRet (eVar 2)) sNext))
    (sRet (eIf (bB (eBin oEq (eMeth n_Looker n_needed e_Looker_needed [] (eVar 1) aNil) (eC (.int 0)))) (eC .non) (eCB oLen (aCons (eVar 0) aNil))))))
def e_pattern_error : Fn := eFr (eDef 1 4 b_pattern_error)
def b_is_pattern : Es :=
  (sRet (eAnd (eCB (oIsi cs0 xs0) (aCons (eVar 0) (aCons (eC (.ty .str)) aNil))) (eBin oIsA (eCall e_pattern_error [] (aCons (eVar 0) aNil)) (eC .non))))
def e_is_pattern : Fn := eDef 1 1 b_is_pattern
def b_law : Es :=
  (sSeq (sForR (aCons (eBin oAddA (eC (.int 1)) (eCB oMin2 (aCons (eC (.int 4)) (aCons (eCB oLen (aCons (eVar 0) aNil)) aNil)))) aNil) (.nm 1) (sSeq (sAsg (eCall e__law_bag [] (aCons (eVar 0) (aCons (eVar 1) aNil))) (.nm 2))
    (sSeq (sForR (aCons (eC (.int 25)) aNil) (.nm 3) (sSeq (sAsg (eCall e__law_string [] (aCons (eVar 2) aNil)) (.nm 4))
    (sSeq (sAsg (eCall e__law_due [] (aCons (eVar 4) aNil)) (.nm 5))
    (sIf (bOr (bB (eBin oNe (eCB oRepr (aCons (eCall e_pattern_error [] (aCons (eVar 4) aNil)) aNil)) (eCB oRepr (aCons (eVar 5) aNil)))) (bB (eBin oNe (eCall e_is_pattern [] (aCons (eVar 4) aNil)) (eBin oIsA (eVar 5) (eC .non))))) (sRet (eC (.bl false))) sNext))))
    (sSeq (sForL (eLst (aCons (eC .non) (aCons (eC (.int 0)) (aCons (eC (.bl true)) (aCons (eLst (aCons (eC (.str z_2)) aNil)) (aCons (eTup (aCons (eC (.str z_2)) aNil)) (aCons eDNew (aCons (eC (.str z_11)) (aCons (eC (.str z_10)) aNil))))))))) (.nm 6) (sIf (bB (eBin oNotA (eCall e_is_pattern [] (aCons (eVar 6) aNil)) (eC (.bl false)))) (sRet (eC (.bl false))) sNext))
    (sSeq (sAsg (eCall e__law_take [] (aCons (eVar 2) (aCons (eC (.int 71)) aNil))) (.nm 7))
    (sSeq (sAsg (eLst (aCons (eBin oMulA (eC (.str z_2)) (eVar 7)) (aCons (eBin oAddA (eBin oMulA (eC (.str z_6)) (eC (.int 4))) (eBin oMulA (eC (.str z_2)) (eVar 7))) (aCons (eBin oAddA (eBin oAddA (eC (.str z_4)) (eBin oMulA (eC (.str z_2)) (eVar 7))) (eC (.str z_9))) (aCons (eBin oMulA (eC (.str z_8)) (eVar 7)) (aCons (eBin oAddA (eBin oMulA (eC (.str z_2)) (eVar 7)) (eC (.str z_7))) aNil)))))) (.nm 8))
    (sSeq (sAsg (eBin oAddA (eVar 8) (eLst (aCons (eBin oMulA (eC (.str z_6)) (eC (.int 1200))) (aCons (eBin oMulA (eC (.str z_5)) (eC (.int 600))) (aCons (eBin oMulA (eC (.str z_4)) (eC (.int 1200))) (aCons (eBin oMulA (eC (.str z_3)) (eC (.int 500))) (aCons (eBin oAddA (eBin oMulA (eC (.str z_1)) (eC (.int 1200))) (eBin oMulA (eC (.str z_2)) (eVar 7))) aNil))))))) (.nm 8))
    (sForL (eVar 8) (.nm 4) (sIf (bOr (bB (eBin oNe (eCB oRepr (aCons (eCall e_pattern_error [] (aCons (eVar 4) aNil)) aNil)) (eCB oRepr (aCons (eCall e__law_due [] (aCons (eVar 4) aNil)) aNil)))) (bAnd (bB (eBin oGtA (eCB oLen (aCons (eVar 4) aNil)) (eC (.int 1000)))) (bB (eBin oNotA (eCall e_is_pattern [] (aCons (eVar 4) aNil)) (eC (.bl false)))))) (sRet (eC (.bl false))) sNext)))))))))
    (sRet (eBin oIsA (eCall e_pattern_error [] (aCons (eC (.str z_0)) aNil)) (eC .non))))
def e_law : Fn := eDef 1 9 b_law
end Ev

set_option Elab.async false
set_option linter.all false
set_option maxRecDepth 100000
set_option maxHeartbeats 4000000
namespace Ev
open PySem PySem.Spec PyProof.Rows L2 Wf TL
theorem q_Looker : mk n_Looker = "Looker" := by decide +kernel
theorem q_needed : mk n_needed = "needed" := by decide +kernel
theorem q_take : mk n_take = "take" := by decide +kernel
theorem q_first : mk n_first = "first" := by decide +kernel
theorem q_is_split : mk n_is_split = "is_split" := by decide +kernel
theorem q_is_piece : mk n_is_piece = "is_piece" := by decide +kernel
theorem q_nesting : mk n_nesting = "nesting" := by decide +kernel
theorem q_special : mk n_special = "special" := by decide +kernel
theorem q_count : mk n_count = "count" := by decide +kernel
theorem q_mode : mk n_mode = "mode" := by decide +kernel
theorem q_take_in_mode : mk n_take_in_mode = "take_in_mode" := by decide +kernel
theorem q_take_in_class : mk n_take_in_class = "take_in_class" := by decide +kernel
theorem q_close_atom : mk n_close_atom = "close_atom" := by decide +kernel
theorem q_take_sign : mk n_take_sign = "take_sign" := by decide +kernel
theorem q_take_atom : mk n_take_atom = "take_atom" := by decide +kernel
theorem k_0 : mk z_0 = ("" : Str) := by decide +kernel
theorem k_1 : mk z_1 = ("\\" : Str) := by decide +kernel
theorem k_2 : mk z_2 = ("a" : Str) := by decide +kernel
theorem k_3 : mk z_3 = ("a|(" : Str) := by decide +kernel
theorem k_4 : mk z_4 = ("[" : Str) := by decide +kernel
theorem k_5 : mk z_5 = ("(a" : Str) := by decide +kernel
theorem k_6 : mk z_6 = ("(" : Str) := by decide +kernel
theorem k_7 : mk z_7 = ("(b)" : Str) := by decide +kernel
theorem k_8 : mk z_8 = ("\\." : Str) := by decide +kernel
theorem k_9 : mk z_9 = ("]" : Str) := by decide +kernel
theorem k_10 : mk z_10 = ("a\tb" : Str) := by decide +kernel
theorem k_11 : mk z_11 = ("a\n" : Str) := by decide +kernel
theorem k_12 : mk z_12 = ("row" : Str) := by decide +kernel
theorem k_13 : mk z_13 = ("open" : Str) := by decide +kernel
theorem k_14 : mk z_14 = ("bare" : Str) := by decide +kernel
theorem k_15 : mk z_15 = ("to" : Str) := by decide +kernel
theorem k_16 : mk z_16 = ("item" : Str) := by decide +kernel
theorem k_17 : mk z_17 = ("done" : Str) := by decide +kernel
theorem k_18 : mk z_18 = ("slash" : Str) := by decide +kernel
theorem k_19 : mk z_19 = ("|" : Str) := by decide +kernel
theorem k_20 : mk z_20 = ("()" : Str) := by decide +kernel
theorem k_21 : mk z_21 = (")" : Str) := by decide +kernel
theorem k_22 : mk z_22 = ("$" : Str) := by decide +kernel
theorem k_23 : mk z_23 = ("end" : Str) := by decide +kernel
theorem k_24 : mk z_24 = ("*+?" : Str) := by decide +kernel
theorem k_25 : mk z_25 = ("^{}]" : Str) := by decide +kernel
theorem k_26 : mk z_26 = (".*+?|([" : Str) := by decide +kernel
theorem k_27 : mk z_27 = (".^$*+?{}[]\\|()" : Str) := by decide +kernel
theorem k_28 : mk z_28 = (" " : Str) := by decide +kernel
theorem k_29 : mk z_29 = ("~" : Str) := by decide +kernel
theorem k_30 : mk z_30 = (" _.," : Str) := by decide +kernel
theorem k_31 : mk z_31 = ("-" : Str) := by decide +kernel
theorem k_32 : mk z_32 = ("^" : Str) := by decide +kernel
theorem k_33 : mk z_33 = ("0123456789" : Str) := by decide +kernel
theorem k_34 : mk z_34 = ("ABCDEFGHIJKLMNOPQRSTUVWXYZ" : Str) := by decide +kernel
theorem k_35 : mk z_35 = ("abcdefghijklmnopqrstuvwxyz" : Str) := by decide +kernel
theorem k_36 : mk z_36 = ("*" : Str) := by decide +kernel
theorem k_37 : mk z_37 = ("xyz" : Str) := by decide +kernel
theorem k_38 : mk z_38 = ("[9" : Str) := by decide +kernel
theorem k_39 : mk z_39 = ("." : Str) := by decide +kernel
theorem k_40 : mk z_40 = ("a*" : Str) := by decide +kernel
theorem k_41 : mk z_41 = ("[^ ]" : Str) := by decide +kernel
theorem k_42 : mk z_42 = ("[a-c]" : Str) := by decide +kernel
theorem k_43 : mk z_43 = ("b" : Str) := by decide +kernel
theorem k_44 : mk z_44 = ("ab[]()|*+?.^-$\\{}zAZ09 _," : Str) := by decide +kernel
theorem k_45 : mk z_45 = ("signs" : Str) := by decide +kernel
theorem k_46 : mk z_46 = ("?" : Str) := by decide +kernel
theorem k_47 : mk z_47 = ("+" : Str) := by decide +kernel
theorem k_48 : mk z_48 = ("@" : Str) := by decide +kernel
theorem k_49 : mk z_49 = ("`" : Str) := by decide +kernel
theorem k_50 : mk z_50 = ("_" : Str) := by decide +kernel
theorem k_51 : mk z_51 = ("A" : Str) := by decide +kernel
theorem k_52 : mk z_52 = ("[^" : Str) := by decide +kernel
theorem k_53 : mk z_53 = (" b2-7" : Str) := by decide +kernel
theorem k_54 : mk z_54 = (" b234567" : Str) := by decide +kernel
theorem k_55 : mk z_55 = ("x-zA-D" : Str) := by decide +kernel
theorem k_56 : mk z_56 = ("xyzABCD" : Str) := by decide +kernel
theorem k_57 : mk z_57 = ("_A-B" : Str) := by decide +kernel
theorem k_58 : mk z_58 = ("_AB" : Str) := by decide +kernel
theorem k_59 : mk z_59 = ("a-c0-9" : Str) := by decide +kernel
theorem k_60 : mk z_60 = ("abc0123456789" : Str) := by decide +kernel
theorem k_61 : mk z_61 = ("b5,_" : Str) := by decide +kernel
theorem k_62 : mk z_62 = ("A-D" : Str) := by decide +kernel
theorem k_63 : mk z_63 = ("ABCD" : Str) := by decide +kernel
theorem k_64 : mk z_64 = ("2-7" : Str) := by decide +kernel
theorem k_65 : mk z_65 = ("234567" : Str) := by decide +kernel
theorem k_66 : mk z_66 = ("0-9" : Str) := by decide +kernel
theorem k_67 : mk z_67 = ("A-B_" : Str) := by decide +kernel
theorem k_68 : mk z_68 = ("AB_" : Str) := by decide +kernel
theorem k_69 : mk z_69 = ("a." : Str) := by decide +kernel
theorem k_70 : mk z_70 = ("a-c" : Str) := by decide +kernel
theorem k_71 : mk z_71 = ("abc" : Str) := by decide +kernel
theorem k_72 : mk z_72 = ("ab" : Str) := by decide +kernel
theorem k_73 : mk z_73 = ("group" : Str) := by decide +kernel
theorem k_74 : mk z_74 = ("piece" : Str) := by decide +kernel
theorem k_75 : mk z_75 = ("range" : Str) := by decide +kernel
theorem k_76 : mk z_76 = ("ranged" : Str) := by decide +kernel
theorem k_77 : mk z_77 = ("items" : Str) := by decide +kernel
theorem k_78 : mk z_78 = ("negated" : Str) := by decide +kernel
theorem k_79 : mk z_79 = ("class" : Str) := by decide +kernel
theorem k_80 : mk z_80 = ("escape" : Str) := by decide +kernel
theorem k_81 : mk z_81 = (" !\"#$&'()*+,-./0123456789:;<=>?@ABCDEFGHIJKLMNOPQRSTUVWXYZ[\\]^_`abcdefghijklmnopqrstuvwxyz{|}~" : Str) := by decide +kernel
theorem k_82 : mk z_82 = ("abcdefghijklmnopqrstuvwxyzABCDEFGHIJKLMNOPQRSTUVWXYZ0123456789 _.," : Str) := by decide +kernel
def top (i : Nat) : Stmt := PySem.Challenge.pw_warnfilters_k83_where_patterns_end.main.body.getD i (.Pass ⟨0, 0, 0, 0⟩)
abbrev s__law_bag : Stmt := top 20
abbrev s__law_kin : Stmt := top 28
abbrev s__law_in_class : Stmt := top 29
abbrev s__law_behind : Stmt := top 30
abbrev s__law_due : Stmt := top 31
abbrev s__law_take : Stmt := top 21
abbrev s__law_pick : Stmt := top 22
abbrev s__law_piece : Stmt := top 23
abbrev s__law_rows_of : Stmt := top 24
abbrev s__law_special : Stmt := top 26
abbrev s__law_written : Stmt := top 25
abbrev s__law_pattern : Stmt := top 27
abbrev s__law_string : Stmt := top 32
abbrev s_Looker___init__ : Stmt := inClass (top 16) 0
abbrev s_Looker_needed : Stmt := inClass (top 16) 1
abbrev s_Looker_close_atom : Stmt := inClass (top 16) 4
abbrev s_run_of : Stmt := top 15
abbrev s_Looker_take_in_class : Stmt := inClass (top 16) 5
abbrev s_Looker_take_atom : Stmt := inClass (top 16) 7
abbrev s_Looker_take_sign : Stmt := inClass (top 16) 6
abbrev s_Looker_take_in_mode : Stmt := inClass (top 16) 3
abbrev s_Looker_take : Stmt := inClass (top 16) 2
abbrev s_pattern_error : Stmt := top 17
abbrev s_is_pattern : Stmt := top 18
abbrev s_law : Stmt := top 33
theorem sc__law_bag : FnScope ["_law_script", "_law_at", "_law_cell", "_law_great", "_law_primes"] ["_law_script", "_law_at"] (defScope s__law_bag) := ⟨rfl, rfl, rfl, by decide +kernel, rfl, by decide +kernel, by decide +kernel⟩
theorem sc__law_kin : FnScope ["_law_sign", "_law_run"] ["_law_sign"] (defScope s__law_kin) := ⟨rfl, rfl, rfl, by decide +kernel, rfl, by decide +kernel, by decide +kernel⟩
theorem sc__law_in_class : FnScope ["_law_state", "_law_sign", "_law_where", "_law_depth", "_law_special_here", "_law_piece_here", "_law_split", "_law_first", "_law_run", "_law_good"] ["_law_state", "_law_sign"] (defScope s__law_in_class) := ⟨rfl, rfl, rfl, by decide +kernel, rfl, by decide +kernel, by decide +kernel⟩
theorem sc__law_behind : FnScope ["_law_state", "_law_sign", "_law_where", "_law_depth", "_law_special_here", "_law_piece_here", "_law_split", "_law_first", "_law_kinds"] ["_law_state", "_law_sign"] (defScope s__law_behind) := ⟨rfl, rfl, rfl, by decide +kernel, rfl, by decide +kernel, by decide +kernel⟩
theorem sc__law_due : FnScope ["_law_text", "_law_state", "_law_needs", "_law_at"] ["_law_text"] (defScope s__law_due) := ⟨rfl, rfl, rfl, by decide +kernel, rfl, by decide +kernel, by decide +kernel⟩
theorem sc__law_take : FnScope ["_law_bag_here", "_law_count", "_law_digit"] ["_law_bag_here", "_law_count"] (defScope s__law_take) := ⟨rfl, rfl, rfl, by decide +kernel, rfl, by decide +kernel, by decide +kernel⟩
theorem sc__law_pick : FnScope ["_law_bag_here", "_law_menu"] ["_law_bag_here", "_law_menu"] (defScope s__law_pick) := ⟨rfl, rfl, rfl, by decide +kernel, rfl, by decide +kernel, by decide +kernel⟩
theorem sc__law_piece : FnScope ["_law_bag_here", "_law_depth", "_law_way", "_law_found", "_law_sign", "_law_some", "_law_items"] ["_law_bag_here", "_law_depth"] (defScope s__law_piece) := ⟨rfl, rfl, rfl, by decide +kernel, rfl, by decide +kernel, by decide +kernel⟩
theorem sc__law_rows_of : FnScope ["_law_bag_here", "_law_depth", "_law_rows", "_law_turn", "_law_k"] ["_law_bag_here", "_law_depth"] (defScope s__law_rows_of) := ⟨rfl, rfl, rfl, by decide +kernel, rfl, by decide +kernel, by decide +kernel⟩
theorem sc__law_special : FnScope ["_law_rows", "_law_count", "_law_row", "_law_part", "_law_often"] ["_law_rows"] (defScope s__law_special) := ⟨rfl, rfl, rfl, by decide +kernel, rfl, by decide +kernel, by decide +kernel⟩
theorem sc__law_written : FnScope ["_law_rows", "_law_found", "_law_row", "_law_text", "_law_part", "_law_often", "_law_inner"] ["_law_rows"] (defScope s__law_written) := ⟨rfl, rfl, rfl, by decide +kernel, rfl, by decide +kernel, by decide +kernel⟩
theorem sc__law_pattern : FnScope ["_law_bag_here", "_law_rows", "_law_is_whole"] ["_law_bag_here"] (defScope s__law_pattern) := ⟨rfl, rfl, rfl, by decide +kernel, rfl, by decide +kernel, by decide +kernel⟩
theorem sc__law_string : FnScope ["_law_bag_here", "_law_way", "_law_found", "_law_k", "_law_at", "_law_more"] ["_law_bag_here"] (defScope s__law_string) := ⟨rfl, rfl, rfl, by decide +kernel, rfl, by decide +kernel, by decide +kernel⟩
theorem sc_Looker___init__ : FnScope ["self"] ["self"] (defScope s_Looker___init__) := ⟨rfl, rfl, rfl, by decide +kernel, rfl, by decide +kernel, by decide +kernel⟩
theorem sc_Looker_needed : FnScope ["self"] ["self"] (defScope s_Looker_needed) := ⟨rfl, rfl, rfl, by decide +kernel, rfl, by decide +kernel, by decide +kernel⟩
theorem sc_Looker_close_atom : FnScope ["self", "mode", "is_right"] ["self", "mode", "is_right"] (defScope s_Looker_close_atom) := ⟨rfl, rfl, rfl, by decide +kernel, rfl, by decide +kernel, by decide +kernel⟩
theorem sc_run_of : FnScope ["sign", "run"] ["sign"] (defScope s_run_of) := ⟨rfl, rfl, rfl, by decide +kernel, rfl, by decide +kernel, by decide +kernel⟩
theorem sc_Looker_take_in_class : FnScope ["self", "sign"] ["self", "sign"] (defScope s_Looker_take_in_class) := ⟨rfl, rfl, rfl, by decide +kernel, rfl, by decide +kernel, by decide +kernel⟩
theorem sc_Looker_take_atom : FnScope ["self", "sign"] ["self", "sign"] (defScope s_Looker_take_atom) := ⟨rfl, rfl, rfl, by decide +kernel, rfl, by decide +kernel, by decide +kernel⟩
theorem sc_Looker_take_sign : FnScope ["self", "sign", "was_piece"] ["self", "sign"] (defScope s_Looker_take_sign) := ⟨rfl, rfl, rfl, by decide +kernel, rfl, by decide +kernel, by decide +kernel⟩
theorem sc_Looker_take_in_mode : FnScope ["self", "sign", "run"] ["self", "sign"] (defScope s_Looker_take_in_mode) := ⟨rfl, rfl, rfl, by decide +kernel, rfl, by decide +kernel, by decide +kernel⟩
theorem sc_Looker_take : FnScope ["self", "sign"] ["self", "sign"] (defScope s_Looker_take) := ⟨rfl, rfl, rfl, by decide +kernel, rfl, by decide +kernel, by decide +kernel⟩
theorem sc_pattern_error : FnScope ["text", "looker", "index", "sign"] ["text"] (defScope s_pattern_error) := ⟨rfl, rfl, rfl, by decide +kernel, rfl, by decide +kernel, by decide +kernel⟩
theorem sc_is_pattern : FnScope ["thing"] ["thing"] (defScope s_is_pattern) := ⟨rfl, rfl, rfl, by decide +kernel, rfl, by decide +kernel, by decide +kernel⟩
theorem sc_law : FnScope ["_law_script", "_law_k", "_law_bag_here", "_law_turn", "_law_text", "_law_due_here", "_law_thing", "_law_size", "_law_some"] ["_law_script"] (defScope s_law) := ⟨rfl, rfl, rfl, by decide +kernel, rfl, by decide +kernel, by decide +kernel⟩
structure Txt (K : PySem.W.Frag) (w : World) (mg : Str → Option Value) : Prop where
  c_ALPHABET : ∃ t, mg "ALPHABET" = some (.str " !\"#$&'()*+,-./0123456789:;<=>?@ABCDEFGHIJKLMNOPQRSTUVWXYZ[\\]^_`abcdefghijklmnopqrstuvwxyz{|}~" t)
  c_MOST_SIGNS : ∃ t, mg "MOST_SIGNS" = some (.int 60 t)
  c_MOST_SPECIAL : ∃ t, mg "MOST_SPECIAL" = some (.int 10 t)
  c_MOST_DEPTH : ∃ t, mg "MOST_DEPTH" = some (.int 4 t)
  c_REPEATS : ∃ t, mg "REPEATS" = some (.str "*+?" t)
  c_MARKED : ∃ t, mg "MARKED" = some (.str ".^$*+?{}[]\\|()" t)
  c_SPECIAL : ∃ t, mg "SPECIAL" = some (.str ".*+?|([" t)
  c_CLASS_SIGNS : ∃ t, mg "CLASS_SIGNS" = some (.str "abcdefghijklmnopqrstuvwxyzABCDEFGHIJKLMNOPQRSTUVWXYZ0123456789 _.," t)
  g_RUNS : mg "RUNS" = some (.ref (He.ga K "RUNS"))
  c_WHOLE_END : ∃ t, mg "WHOLE_END" = some (.str "$" t)
  g_NEEDED : mg "NEEDED" = some (.ref (He.ga K "NEEDED"))
  g_run_of : mg "run_of" = some (.ref (He.ga K "run_of"))
  g_pattern_error : mg "pattern_error" = some (.ref (He.ga K "pattern_error"))
  g_is_pattern : mg "is_pattern" = some (.ref (He.ga K "is_pattern"))
  g__law_bag : mg "_law_bag" = some (.ref (He.ga K "_law_bag"))
  g__law_take : mg "_law_take" = some (.ref (He.ga K "_law_take"))
  g__law_pick : mg "_law_pick" = some (.ref (He.ga K "_law_pick"))
  g__law_piece : mg "_law_piece" = some (.ref (He.ga K "_law_piece"))
  g__law_rows_of : mg "_law_rows_of" = some (.ref (He.ga K "_law_rows_of"))
  g__law_written : mg "_law_written" = some (.ref (He.ga K "_law_written"))
  g__law_special : mg "_law_special" = some (.ref (He.ga K "_law_special"))
  g__law_pattern : mg "_law_pattern" = some (.ref (He.ga K "_law_pattern"))
  g__law_kin : mg "_law_kin" = some (.ref (He.ga K "_law_kin"))
  g__law_in_class : mg "_law_in_class" = some (.ref (He.ga K "_law_in_class"))
  g__law_behind : mg "_law_behind" = some (.ref (He.ga K "_law_behind"))
  g__law_due : mg "_law_due" = some (.ref (He.ga K "_law_due"))
  g__law_string : mg "_law_string" = some (.ref (He.ga K "_law_string"))
  g_law : mg "law" = some (.ref (He.ga K "law"))
  g_Looker : mg "Looker" = some (.ref (He.ga K "Looker"))
  na_Looker_count : NoAttr K (He.ga K "Looker") "count"
  na_Looker_first : NoAttr K (He.ga K "Looker") "first"
  na_Looker_is_piece : NoAttr K (He.ga K "Looker") "is_piece"
  na_Looker_is_split : NoAttr K (He.ga K "Looker") "is_split"
  na_Looker_mode : NoAttr K (He.ga K "Looker") "mode"
  na_Looker_nesting : NoAttr K (He.ga K "Looker") "nesting"
  na_Looker_special : NoAttr K (He.ga K "Looker") "special"
  cl_Looker : Cls K (He.ga K "Looker")
  mk_Looker : Mk K (He.ga K "Looker") (He.ma K (He.ga K "Looker") "__init__")
  me_Looker_needed : Meth K (He.ga K "Looker") "needed" (He.ma K (He.ga K "Looker") "needed")
  me_Looker_close_atom : Meth K (He.ga K "Looker") "close_atom" (He.ma K (He.ga K "Looker") "close_atom")
  me_Looker_take_in_class : Meth K (He.ga K "Looker") "take_in_class" (He.ma K (He.ga K "Looker") "take_in_class")
  me_Looker_take_atom : Meth K (He.ga K "Looker") "take_atom" (He.ma K (He.ga K "Looker") "take_atom")
  me_Looker_take_sign : Meth K (He.ga K "Looker") "take_sign" (He.ma K (He.ga K "Looker") "take_sign")
  me_Looker_take_in_mode : Meth K (He.ga K "Looker") "take_in_mode" (He.ma K (He.ga K "Looker") "take_in_mode")
  me_Looker_take : Meth K (He.ga K "Looker") "take" (He.ma K (He.ga K "Looker") "take")
  kt : ktB cs0 xs0 K = true
  n_abs : mg "abs" = none
  n_enumerate : mg "enumerate" = none
  n_int : mg "int" = none
  n_isinstance : mg "isinstance" = none
  n_len : mg "len" = none
  n_min : mg "min" = none
  n_range : mg "range" = none
  n_repr : mg "repr" = none
  n_str : mg "str" = none
  f__law_bag : ∃ fd, FunD K "_law_bag" "_law_bag" (defArgs s__law_bag) (defBody s__law_bag) (defScope s__law_bag) [] [] (He.ga K "_law_bag") fd
  f__law_kin : ∃ fd, FunD K "_law_kin" "_law_kin" (defArgs s__law_kin) (defBody s__law_kin) (defScope s__law_kin) [] [] (He.ga K "_law_kin") fd
  f__law_in_class : ∃ fd, FunD K "_law_in_class" "_law_in_class" (defArgs s__law_in_class) (defBody s__law_in_class) (defScope s__law_in_class) [] [] (He.ga K "_law_in_class") fd
  f__law_behind : ∃ fd, FunD K "_law_behind" "_law_behind" (defArgs s__law_behind) (defBody s__law_behind) (defScope s__law_behind) [] [] (He.ga K "_law_behind") fd
  f__law_due : ∃ fd, FunD K "_law_due" "_law_due" (defArgs s__law_due) (defBody s__law_due) (defScope s__law_due) [] [] (He.ga K "_law_due") fd
  f__law_take : ∃ fd, FunD K "_law_take" "_law_take" (defArgs s__law_take) (defBody s__law_take) (defScope s__law_take) [] [] (He.ga K "_law_take") fd
  f__law_pick : ∃ fd, FunD K "_law_pick" "_law_pick" (defArgs s__law_pick) (defBody s__law_pick) (defScope s__law_pick) [] [] (He.ga K "_law_pick") fd
  f__law_piece : ∃ fd, FunD K "_law_piece" "_law_piece" (defArgs s__law_piece) (defBody s__law_piece) (defScope s__law_piece) [] [] (He.ga K "_law_piece") fd
  f__law_rows_of : ∃ fd, FunD K "_law_rows_of" "_law_rows_of" (defArgs s__law_rows_of) (defBody s__law_rows_of) (defScope s__law_rows_of) [] [] (He.ga K "_law_rows_of") fd
  f__law_special : ∃ fd, FunD K "_law_special" "_law_special" (defArgs s__law_special) (defBody s__law_special) (defScope s__law_special) [] [] (He.ga K "_law_special") fd
  f__law_written : ∃ fd, FunD K "_law_written" "_law_written" (defArgs s__law_written) (defBody s__law_written) (defScope s__law_written) [] [] (He.ga K "_law_written") fd
  f__law_pattern : ∃ fd, FunD K "_law_pattern" "_law_pattern" (defArgs s__law_pattern) (defBody s__law_pattern) (defScope s__law_pattern) [] [] (He.ga K "_law_pattern") fd
  f__law_string : ∃ fd, FunD K "_law_string" "_law_string" (defArgs s__law_string) (defBody s__law_string) (defScope s__law_string) [] [] (He.ga K "_law_string") fd
  f_Looker___init__ : ∃ fd, FunD K "__init__" "Looker.__init__" (defArgs s_Looker___init__) (defBody s_Looker___init__) (defScope s_Looker___init__) [] [] (He.ma K (He.ga K "Looker") "__init__") fd
  f_Looker_needed : ∃ fd, FunD K "needed" "Looker.needed" (defArgs s_Looker_needed) (defBody s_Looker_needed) (defScope s_Looker_needed) [] [] (He.ma K (He.ga K "Looker") "needed") fd
  f_Looker_close_atom : ∃ fd, FunD K "close_atom" "Looker.close_atom" (defArgs s_Looker_close_atom) (defBody s_Looker_close_atom) (defScope s_Looker_close_atom) [] [] (He.ma K (He.ga K "Looker") "close_atom") fd
  f_run_of : ∃ fd, FunD K "run_of" "run_of" (defArgs s_run_of) (defBody s_run_of) (defScope s_run_of) [] [] (He.ga K "run_of") fd
  f_Looker_take_in_class : ∃ fd, FunD K "take_in_class" "Looker.take_in_class" (defArgs s_Looker_take_in_class) (defBody s_Looker_take_in_class) (defScope s_Looker_take_in_class) [] [] (He.ma K (He.ga K "Looker") "take_in_class") fd
  f_Looker_take_atom : ∃ fd, FunD K "take_atom" "Looker.take_atom" (defArgs s_Looker_take_atom) (defBody s_Looker_take_atom) (defScope s_Looker_take_atom) [] [] (He.ma K (He.ga K "Looker") "take_atom") fd
  f_Looker_take_sign : ∃ fd, FunD K "take_sign" "Looker.take_sign" (defArgs s_Looker_take_sign) (defBody s_Looker_take_sign) (defScope s_Looker_take_sign) [] [] (He.ma K (He.ga K "Looker") "take_sign") fd
  f_Looker_take_in_mode : ∃ fd, FunD K "take_in_mode" "Looker.take_in_mode" (defArgs s_Looker_take_in_mode) (defBody s_Looker_take_in_mode) (defScope s_Looker_take_in_mode) [] [] (He.ma K (He.ga K "Looker") "take_in_mode") fd
  f_Looker_take : ∃ fd, FunD K "take" "Looker.take" (defArgs s_Looker_take) (defBody s_Looker_take) (defScope s_Looker_take) [] [] (He.ma K (He.ga K "Looker") "take") fd
  f_pattern_error : ∃ fd, FunD K "pattern_error" "pattern_error" (defArgs s_pattern_error) (defBody s_pattern_error) (defScope s_pattern_error) [] [] (He.ga K "pattern_error") fd
  f_is_pattern : ∃ fd, FunD K "is_pattern" "is_pattern" (defArgs s_is_pattern) (defBody s_is_pattern) (defScope s_is_pattern) [] [] (He.ga K "is_pattern") fd
  f_law : ∃ fd, FunD K "law" "law" (defArgs s_law) (defBody s_law) (defScope s_law) [] [] (He.ga K "law") fd
  t_RUNS : ∀ H, SqT K H (He.ga K "RUNS") [V.str "abcdefghijklmnopqrstuvwxyz", V.str "ABCDEFGHIJKLMNOPQRSTUVWXYZ", V.str "0123456789"]
  kd_NEEDED : ∀ q ∈ ([("piece", V.int 0), ("escape", V.int 1), ("class", V.int 2), ("negated", V.int 2), ("items", V.int 1), ("ranged", V.int 1), ("range", V.int 2), ("end", V.int 0)] : List (Str × V)), KDct K w (He.ga K "NEEDED") q.1 q.2
theorem Txt.kts {K : PySem.W.Frag} {w : World} {mg : Str → Option Value} (T : Txt K w mg) : Kt cs0 xs0 K := kt_of (List.forall_mem_nil _) T.kt
theorem ok__law_bag {P : Program} {w : World} {K : PySem.W.Frag} {mg : Str → Option Value} {base : Heap} (T : Txt K w mg) (KT : Kt cs0 xs0 K) :
    OkD P w K mg base (L2.CX P w) 1 (He.ga K "_law_bag") ["_law_script", "_law_at"] (spE K e__law_bag) := by
  obtain ⟨fd, F⟩ := T.f__law_bag
  exact ⟨⟨fd, F.ok sc__law_bag (fun vs H Q E h => def_len h) fun cdv A outer s H vs Q E hr h => ⟨tS K ⟨fun cls d _ H => E cls d H, noS⟩ b__law_bag, (pssm le_seq (pss_cons (psm (le_asg (p := .nm 2)) (pset 2 sc__law_bag.nd (pm (le_c c_int) pe_int)))
    (pssm le_seq (pss_cons (psm le_ifS (ps_if (ptm (fun σ H Q h => le_op s_ltA σ H _ (le_Test σ H Q h)) (pt_cmpR op_ltA (pm (le_var 1) (pv 1)) (pm (le_cb s_len) (pe_callB fk_lenB rfl T.n_len (by decide +kernel) (pam le_cons (pa_cons (pm (le_var 0) (pv 0)) (pam le_nil pa_nil))))) (nomark _))) (pss_one (psm (le_asg (p := .nm 2)) (pset 2 sc__law_bag.nd (pm (le_op s_ix) (pe_ix (fk_ixB hr.u1) (pm (le_var 0) (pv 0)) (pm (le_var 1) (pv 1)) (fun _ _ => rfl)))))) (pssm le_next pss_nil)))
    (pssm le_seq (pss_cons (psm (le_asg (p := .nm 3)) (pset 3 sc__law_bag.nd (pm (le_c c_int) pe_int)))
    (pssm le_seq (pss_cons (psm le_ifS (ps_if (ptm (fun σ H Q h => le_op s_geA σ H _ (le_Test σ H Q h)) (pt_cmpR op_geA (pm (le_cb s_abs) (pe_callB ok_abs rfl T.n_abs (by decide +kernel) (pam le_cons (pa_cons (pm (le_var 2) (pv 2)) (pam le_nil pa_nil))))) (pm (le_op s_pow) (pe_op fk_pow (pm (le_c c_int) pe_int) (pm (le_c c_int) pe_int))) (nomark _))) (pss_one (psm (le_asg (p := .nm 3)) (pset 3 sc__law_bag.nd (pm (le_cb s_abs) (pe_callB ok_abs rfl T.n_abs (by decide +kernel) (pam le_cons (pa_cons (pm (le_var 2) (pv 2)) (pam le_nil pa_nil)))))))) (pssm le_next pss_nil)))
    (pssm le_seq (pss_cons (psm (le_asg (p := .nm 4)) (pset 4 sc__law_bag.nd (pm le_lst (pe_lst (pam le_cons (pa_cons (pm (le_c c_int) pe_int) (pam le_cons (pa_cons (pm (le_c c_int) pe_int) (pam le_cons (pa_cons (pm (le_c c_int) pe_int) (pam le_cons (pa_cons (pm (le_c c_int) pe_int) (pam le_cons (pa_cons (pm (le_c c_int) pe_int) (pam le_cons (pa_cons (pm (le_c c_int) pe_int) (pam le_cons (pa_cons (pm (le_c c_int) pe_int) (pam le_cons (pa_cons (pm (le_c c_int) pe_int) (pam le_nil pa_nil)))))))))))))))))))))
    (pss_one (psm le_ret (ps_ret (pm le_lstO (pe_lst (pam le_cons (pa_cons (pm (le_var 3) (pv 3)) (pam le_cons (pa_cons (pm (le_op s_mod) (pe_op fk_mod (pm (le_cb s_int) (pe_callTy fk_int rfl T.n_int (by decide +kernel) (pam le_cons (pa_cons (pm (le_op s_pow) (pe_op fk_pow (pm (le_op s_addA) (pe_op op_addA (pm (le_op s_addA) (pe_op op_addA (pm (le_op s_mod) (pe_op fk_mod (pm (le_cb s_int) (pe_callTy fk_int rfl T.n_int (by decide +kernel) (pam le_cons (pa_cons (pm (le_var 2) (pv 2)) (pam le_nil pa_nil))))) (pm (le_c c_int) pe_int))) (pm (le_op s_mulA) (pe_op op_mulA (pm (le_c c_int) pe_int) (pm (le_var 1) (pv 1)))))) (pm (le_c c_int) pe_int))) (pm (le_c c_int) pe_int))) (pam le_nil pa_nil))))) (pm (le_op s_ix) (pe_ix (fk_ixB hr.u1) (pm (le_var 4) (pv 4)) (pm (le_op s_mod) (pe_op fk_mod (pm (le_var 1) (pv 1)) (pm (le_c c_int) pe_int))) (fun _ _ => rfl))))) (pam le_cons (pa_cons (pm (le_c c_int) pe_int) (pam le_nil pa_nil)))))))))))))))))))))), def_ok rfl h⟩, F.bindsN fun _ _ _ _ _ _ us hl => match us, hl with | [_, _], _ => rfl, isFd_of F⟩, F.kp⟩
theorem ok__law_kin {P : Program} {w : World} {K : PySem.W.Frag} {mg : Str → Option Value} {base : Heap} (T : Txt K w mg) (KT : Kt cs0 xs0 K) :
    OkD P w K mg base (L2.CX P w) 1 (He.ga K "_law_kin") ["_law_sign"] (spE K e__law_kin) := by
  obtain ⟨fd, F⟩ := T.f__law_kin
  exact ⟨⟨fd, F.ok sc__law_kin (fun vs H Q E h => def_len h) fun cdv A outer s H vs Q E hr h => ⟨tS K ⟨fun cls d _ H => E cls d H, noS⟩ b__law_kin, (pssm le_seq (pss_cons (psm (le_forL (p := (.nm 1))) (ps_for (passes_of rfl) rfl (pi_list (pm le_lst (pe_lst (pam le_cons (pa_cons (pm (le_c (c_str k_35)) pe_str) (pam le_cons (pa_cons (pm (le_c (c_str k_34)) pe_str) (pam le_cons (pa_cons (pm (le_c (c_str k_33)) pe_str) (pam le_nil pa_nil)))))))))) (gn 1 sc__law_kin.nd) (pss_one (psm le_ifS (ps_if (ptm (fun σ H Q h => le_op s_in2 σ H _ (le_Test σ H Q h)) (pt_cmpR (fk_inB hr.u65) (pm (le_var 0) (pv 0)) (pm (le_var 1) (pv 1)) rfl)) (pss_one (psm le_ret (ps_ret (pm (le_var 1) (pv 1))))) (pssm le_next pss_nil))))))
    (pss_one (psm le_ret (ps_ret (pm (le_c (c_str k_0)) pe_str)))))), def_ok rfl h⟩, F.bindsN fun _ _ _ _ _ _ us hl => match us, hl with | [_], _ => rfl, isFd_of F⟩, F.kp⟩
theorem ok__law_in_class {P : Program} {w : World} {K : PySem.W.Frag} {mg : Str → Option Value} {base : Heap} (T : Txt K w mg) (KT : Kt cs0 xs0 K) (D__law_kin : OkD P w K mg base (L2.CX P w) 1 (He.ga K "_law_kin") ["_law_sign"] (spE K e__law_kin)) :
    OkD P w K mg base (L2.CX P w) 2 (He.ga K "_law_in_class") ["_law_state", "_law_sign"] (spE K e__law_in_class) := by
  obtain ⟨fd, F⟩ := T.f__law_in_class
  exact ⟨⟨fd, F.ok sc__law_in_class (fun vs H Q E h => def_len h) fun cdv A outer s H vs Q E hr h => ⟨tS K ⟨fun cls d _ H => E cls d H, noS⟩ b__law_in_class, (pssm le_seq (pss_cons (psm (le_asg (p := (.tup (.cons (.nm 2) (.cons (.nm 3) (.cons (.nm 4) (.cons (.nm 5) (.cons (.nm 6) (.cons (.nm 7) .nil))))))))) (ps_asg (pm (le_var 0) (pv 0)) (pg_tup rfl (pgs_cons (gn 2 sc__law_in_class.nd) (pgs_cons (gn 3 sc__law_in_class.nd) (pgs_cons (gn 4 sc__law_in_class.nd) (pgs_cons (gn 5 sc__law_in_class.nd) (pgs_cons (gn 6 sc__law_in_class.nd) (pgs_cons (gn 7 sc__law_in_class.nd) pgs_nil)))))))))
    (pssm le_seq (pss_cons (psm le_ifS (ps_if (PW.pt (pwm le_and (pw_and (ptm (fun σ H Q h => le_op s_eq σ H _ (le_Test σ H Q h)) (pt_cmpR (ok_eq hr.units) (pm (le_var 2) (pv 2)) (pm (le_c (c_str k_13)) pe_str) (nomark _))) (pw_and1 (ptm (fun σ H Q h => le_op s_eq σ H _ (le_Test σ H Q h)) (pt_cmpR (ok_eq hr.units) (pm (le_var 1) (pv 1)) (pm (le_c (c_str k_32)) pe_str) (nomark _))))))) (pss_one (psm le_ret (ps_ret (pm le_tup (pe_tup (pam le_cons (pa_cons (pm (le_c (c_str k_14)) pe_str) (pam le_cons (pa_cons (pm (le_var 3) (pv 3)) (pam le_cons (pa_cons (pm (le_var 4) (pv 4)) (pam le_cons (pa_cons (pm (le_var 5) (pv 5)) (pam le_cons (pa_cons (pm (le_var 6) (pv 6)) (pam le_cons (pa_cons (pm (le_c (c_str k_0)) pe_str) (pam le_nil pa_nil)))))))))))))))))) (pssm le_next pss_nil)))
    (pssm le_seq (pss_cons (psm le_ifS (ps_if (PW.pt (pwm le_and (pw_and (ptm (fun σ H Q h => le_op s_in2 σ H _ (le_Test σ H Q h)) (pt_cmpR (fk_inB hr.u65) (pm (le_var 2) (pv 2)) (pm le_lst (pe_lst (pam le_cons (pa_cons (pm (le_c (c_str k_16)) pe_str) (pam le_cons (pa_cons (pm (le_c (c_str k_17)) pe_str) (pam le_nil pa_nil))))))) rfl)) (pw_and1 (ptm (fun σ H Q h => le_op s_eq σ H _ (le_Test σ H Q h)) (pt_cmpR (ok_eq hr.units) (pm (le_var 1) (pv 1)) (pm (le_c (c_str k_9)) pe_str) (nomark _))))))) (pss_one (psm le_ret (ps_ret (pm le_tup (pe_tup (pam le_cons (pa_cons (pm (le_c (c_str k_12)) pe_str) (pam le_cons (pa_cons (pm (le_var 3) (pv 3)) (pam le_cons (pa_cons (pm (le_var 4) (pv 4)) (pam le_cons (pa_cons (pm (le_c c_bl) pe_bl) (pam le_cons (pa_cons (pm (le_var 6) (pv 6)) (pam le_cons (pa_cons (pm (le_c (c_str k_0)) pe_str) (pam le_nil pa_nil)))))))))))))))))) (pssm le_next pss_nil)))
    (pssm le_seq (pss_cons (psm le_ifS (ps_if (PW.pt (pwm le_and (pw_and (ptm (fun σ H Q h => le_op s_eq σ H _ (le_Test σ H Q h)) (pt_cmpR (ok_eq hr.units) (pm (le_var 2) (pv 2)) (pm (le_c (c_str k_16)) pe_str) (nomark _))) (pw_and1 (ptm (fun σ H Q h => le_op s_eq σ H _ (le_Test σ H Q h)) (pt_cmpR (ok_eq hr.units) (pm (le_var 1) (pv 1)) (pm (le_c (c_str k_31)) pe_str) (nomark _))))))) (pssm le_seq (pss_cons (psm (le_asg (p := .nm 8)) (pset 8 sc__law_in_class.nd (pm (le_call c_nil) (pe_callX D__law_kin (hr.mono (by decide)) rfl T.g__law_kin (fun σ => passAt (takes_of rfl rfl rfl rfl) σ) (pam le_cons (pa_cons (pm (le_var 7) (pv 7)) (pam le_nil pa_nil)))))))
    (pss_one (psm le_ret (ps_ret (pm le_if (pe_ifExp (PW.pt (pwm le_and (pw_and (ptm (fun σ H Q h => le_op s_ne σ H _ (le_Test σ H Q h)) (pt_cmpR (ok_ne hr.units) (pm (le_var 8) (pv 8)) (pm (le_c (c_str k_0)) pe_str) (nomark _))) (pw_and1 (ptm (fun σ H Q h => le_op s_ne σ H _ (le_Test σ H Q h)) (pt_cmpR (ok_ne hr.units) (pm (le_op s_ix) (pe_ix (fk_ixB hr.u1) (pm (le_var 8) (pv 8)) (pm (le_un s_neg) (pe_un un_neg (pm (le_c c_int) pe_int))) (fun _ _ => rfl))) (pm (le_var 7) (pv 7)) (nomark _))))))) (pm le_tup (pe_tup (pam le_cons (pa_cons (pm (le_c (c_str k_15)) pe_str) (pam le_cons (pa_cons (pm (le_var 3) (pv 3)) (pam le_cons (pa_cons (pm (le_var 4) (pv 4)) (pam le_cons (pa_cons (pm (le_var 5) (pv 5)) (pam le_cons (pa_cons (pm (le_var 6) (pv 6)) (pam le_cons (pa_cons (pm (le_var 7) (pv 7)) (pam le_nil pa_nil))))))))))))))) (pm (le_c c_non) pe_non)))))))) (pssm le_next pss_nil)))
    (pssm le_seq (pss_cons (psm le_ifS (ps_if (ptm (fun σ H Q h => le_op s_eq σ H _ (le_Test σ H Q h)) (pt_cmpR (ok_eq hr.units) (pm (le_var 2) (pv 2)) (pm (le_c (c_str k_15)) pe_str) (nomark _))) (pssm le_seq (pss_cons (psm (le_asg (p := .nm 8)) (pset 8 sc__law_in_class.nd (pm (le_call c_nil) (pe_callX D__law_kin (hr.mono (by decide)) rfl T.g__law_kin (fun σ => passAt (takes_of rfl rfl rfl rfl) σ) (pam le_cons (pa_cons (pm (le_var 7) (pv 7)) (pam le_nil pa_nil)))))))
    (pssm le_seq (pss_cons (psm (le_asg (p := .nm 9)) (pset 9 sc__law_in_class.nd (pm le_andV (pe_and (pm (le_op s_in2) (pe_cmpR (fk_inB hr.u65) (pm (le_var 1) (pv 1)) (pm (le_var 8) (pv 8)) rfl)) (pe_one (pm (le_op s_gtA) (pe_cmpR op_gtA (pm (le_bm s_indexS) (pe_bm PySem.F.plainAttrs_str PySem.F.slot_str_index PySem.F.type_str_index mt_sindex (pm (le_var 8) (pv 8)) (pam le_cons (pa_cons (pm (le_var 1) (pv 1)) (pam le_nil pa_nil))))) (pm (le_bm s_indexS) (pe_bm PySem.F.plainAttrs_str PySem.F.slot_str_index PySem.F.type_str_index mt_sindex (pm (le_var 8) (pv 8)) (pam le_cons (pa_cons (pm (le_var 7) (pv 7)) (pam le_nil pa_nil))))) (nomark _))))))))
    (pss_one (psm le_ret (ps_ret (pm le_if (pe_ifExp (ptm le_B (pt_val (pm (le_var 9) (pv 9)))) (pm le_tup (pe_tup (pam le_cons (pa_cons (pm (le_c (c_str k_17)) pe_str) (pam le_cons (pa_cons (pm (le_var 3) (pv 3)) (pam le_cons (pa_cons (pm (le_var 4) (pv 4)) (pam le_cons (pa_cons (pm (le_var 5) (pv 5)) (pam le_cons (pa_cons (pm (le_var 6) (pv 6)) (pam le_cons (pa_cons (pm (le_c (c_str k_0)) pe_str) (pam le_nil pa_nil))))))))))))))) (pm (le_c c_non) pe_non)))))))))) (pssm le_next pss_nil)))
    (pssm le_seq (pss_cons (psm (le_asg (p := .nm 9)) (pset 9 sc__law_in_class.nd (pm le_orV (pe_or (pm (le_op s_ne) (pe_cmpR (ok_ne hr.units) (pm (le_call c_nil) (pe_callX D__law_kin (hr.mono (by decide)) rfl T.g__law_kin (fun σ => passAt (takes_of rfl rfl rfl rfl) σ) (pam le_cons (pa_cons (pm (le_var 1) (pv 1)) (pam le_nil pa_nil))))) (pm (le_c (c_str k_0)) pe_str) (nomark _))) (pe_one (pm (le_op s_in2) (pe_cmpR (fk_inB hr.u65) (pm (le_var 1) (pv 1)) (pm (le_c (c_str k_30)) pe_str) rfl)))))))
    (pss_one (psm le_ret (ps_ret (pm le_if (pe_ifExp (ptm le_B (pt_val (pm (le_var 9) (pv 9)))) (pm le_tup (pe_tup (pam le_cons (pa_cons (pm (le_c (c_str k_16)) pe_str) (pam le_cons (pa_cons (pm (le_var 3) (pv 3)) (pam le_cons (pa_cons (pm (le_var 4) (pv 4)) (pam le_cons (pa_cons (pm (le_var 5) (pv 5)) (pam le_cons (pa_cons (pm (le_var 6) (pv 6)) (pam le_cons (pa_cons (pm (le_var 1) (pv 1)) (pam le_nil pa_nil))))))))))))))) (pm (le_c c_non) pe_non)))))))))))))))))), def_ok rfl h⟩, F.bindsN fun _ _ _ _ _ _ us hl => match us, hl with | [_, _], _ => rfl, isFd_of F⟩, F.kp⟩
theorem ok__law_behind {P : Program} {w : World} {K : PySem.W.Frag} {mg : Str → Option Value} {base : Heap} (T : Txt K w mg) (KT : Kt cs0 xs0 K) (D__law_in_class : OkD P w K mg base (L2.CX P w) 2 (He.ga K "_law_in_class") ["_law_state", "_law_sign"] (spE K e__law_in_class)) :
    OkD P w K mg base (L2.CX P w) 3 (He.ga K "_law_behind") ["_law_state", "_law_sign"] (spE K e__law_behind) := by
  obtain ⟨fd, F⟩ := T.f__law_behind
  exact ⟨⟨fd, F.ok sc__law_behind (fun vs H Q E h => def_len (fr_ok h)) fun cdv A outer s H vs Q E hr h => ⟨tS K ⟨fun cls d _ H => E cls d H, noS⟩ b__law_behind, (pssm le_seq (pss_cons (psm (le_asg (p := (.tup (.cons (.nm 2) (.cons (.nm 3) (.cons (.nm 4) (.cons (.nm 5) (.cons (.nm 6) (.cons (.nm 7) .nil))))))))) (ps_asg (pm (le_var 0) (pv 0)) (pg_tup rfl (pgs_cons (gn 2 sc__law_behind.nd) (pgs_cons (gn 3 sc__law_behind.nd) (pgs_cons (gn 4 sc__law_behind.nd) (pgs_cons (gn 5 sc__law_behind.nd) (pgs_cons (gn 6 sc__law_behind.nd) (pgs_cons (gn 7 sc__law_behind.nd) pgs_nil)))))))))
    (pssm le_seq (pss_cons (psm le_ifS (ps_if (PW.pt (pwm le_or (pw_or (ptm (fun σ H Q h => le_op s_eq σ H _ (le_Test σ H Q h)) (pt_cmpR (ok_eq hr.units) (pm (le_var 2) (pv 2)) (pm (le_c (c_str k_23)) pe_str) (nomark _))) (pwm le_or (pw_or (ptm (fun σ H Q h => le_op s_ltA σ H _ (le_Test σ H Q h)) (pt_cmpR op_ltA (pm (le_var 1) (pv 1)) (pm (le_c (c_str k_28)) pe_str) (nomark _))) (pw_or1 (ptm (fun σ H Q h => le_op s_gtA σ H _ (le_Test σ H Q h)) (pt_cmpR op_gtA (pm (le_var 1) (pv 1)) (pm (le_c (c_str k_29)) pe_str) (nomark _))))))))) (pss_one (psm le_ret (ps_ret (pm (le_c c_non) pe_non)))) (pssm le_next pss_nil)))
    (pssm le_seq (pss_cons (psm le_ifS (ps_if (ptm (fun σ H Q h => le_op s_in2 σ H _ (le_Test σ H Q h)) (pt_cmpR (fk_inB hr.u65) (pm (le_var 2) (pv 2)) (pm le_lst (pe_lst (pam le_cons (pa_cons (pm (le_c (c_str k_13)) pe_str) (pam le_cons (pa_cons (pm (le_c (c_str k_14)) pe_str) (pam le_cons (pa_cons (pm (le_c (c_str k_16)) pe_str) (pam le_cons (pa_cons (pm (le_c (c_str k_17)) pe_str) (pam le_cons (pa_cons (pm (le_c (c_str k_15)) pe_str) (pam le_nil pa_nil))))))))))))) rfl)) (pss_one (psm le_ret (ps_ret (pm (le_call c_nil) (pe_callX D__law_in_class (hr.mono (by decide)) rfl T.g__law_in_class (fun σ => passAt (takes_of rfl rfl rfl rfl) σ) (pam le_cons (pa_cons (pm (le_var 0) (pv 0)) (pam le_cons (pa_cons (pm (le_var 1) (pv 1)) (pam le_nil pa_nil)))))))))) (pssm le_next pss_nil)))
    (pssm le_seq (pss_cons (psm le_ifS (ps_if (ptm (fun σ H Q h => le_op s_eq σ H _ (le_Test σ H Q h)) (pt_cmpR (ok_eq hr.units) (pm (le_var 2) (pv 2)) (pm (le_c (c_str k_18)) pe_str) (nomark _))) (pss_one (psm le_ret (ps_ret (pm le_if (pe_ifExp (ptm (fun σ H Q h => le_op s_in2 σ H _ (le_Test σ H Q h)) (pt_cmpR (fk_inB hr.u65) (pm (le_var 1) (pv 1)) (pm (le_c (c_str k_27)) pe_str) rfl)) (pm le_tup (pe_tup (pam le_cons (pa_cons (pm (le_c (c_str k_12)) pe_str) (pam le_cons (pa_cons (pm (le_var 3) (pv 3)) (pam le_cons (pa_cons (pm (le_var 4) (pv 4)) (pam le_cons (pa_cons (pm (le_c c_bl) pe_bl) (pam le_cons (pa_cons (pm (le_var 6) (pv 6)) (pam le_cons (pa_cons (pm (le_c (c_str k_0)) pe_str) (pam le_nil pa_nil))))))))))))))) (pm (le_c c_non) pe_non)))))) (pssm le_next pss_nil)))
    (pssm le_seq (pss_cons (psm (le_asg (p := .nm 4)) (pset 4 sc__law_behind.nd (pm (le_op s_addA) (pe_op op_addA (pm (le_var 4) (pv 4)) (pm (le_cb s_int) (pe_callTy fk_int rfl T.n_int (by decide +kernel) (pam le_cons (pa_cons (pm (le_op s_in2) (pe_cmpR (fk_inB hr.u65) (pm (le_var 1) (pv 1)) (pm (le_c (c_str k_26)) pe_str) rfl)) (pam le_nil pa_nil)))))))))
    (pssm le_seq (pss_cons (psm le_ifS (ps_if (PW.pt (pwm le_or (pw_or (ptm (fun σ H Q h => le_op s_gtA σ H _ (le_Test σ H Q h)) (pt_cmpR op_gtA (pm (le_var 4) (pv 4)) (pm (le_c c_int) pe_int) (nomark _))) (pw_or1 (ptm (fun σ H Q h => le_op s_in2 σ H _ (le_Test σ H Q h)) (pt_cmpR (fk_inB hr.u65) (pm (le_var 1) (pv 1)) (pm (le_c (c_str k_25)) pe_str) rfl)))))) (pss_one (psm le_ret (ps_ret (pm (le_c c_non) pe_non)))) (pssm le_next pss_nil)))
    (pssm le_seq (pss_cons (psm le_ifS (ps_if (ptm (fun σ H Q h => le_op s_in2 σ H _ (le_Test σ H Q h)) (pt_cmpR (fk_inB hr.u65) (pm (le_var 1) (pv 1)) (pm (le_c (c_str k_24)) pe_str) rfl)) (pss_one (psm le_ret (ps_ret (pm le_if (pe_ifExp (ptm le_B (pt_val (pm (le_var 5) (pv 5)))) (pm le_tup (pe_tup (pam le_cons (pa_cons (pm (le_c (c_str k_12)) pe_str) (pam le_cons (pa_cons (pm (le_var 3) (pv 3)) (pam le_cons (pa_cons (pm (le_var 4) (pv 4)) (pam le_cons (pa_cons (pm (le_c c_bl) pe_bl) (pam le_cons (pa_cons (pm (le_var 6) (pv 6)) (pam le_cons (pa_cons (pm (le_c (c_str k_0)) pe_str) (pam le_nil pa_nil))))))))))))))) (pm (le_c c_non) pe_non)))))) (pssm le_next pss_nil)))
    (pssm le_seq (pss_cons (psm le_ifS (ps_if (ptm (fun σ H Q h => le_op s_eq σ H _ (le_Test σ H Q h)) (pt_cmpR (ok_eq hr.units) (pm (le_var 1) (pv 1)) (pm (le_c (c_str k_22)) pe_str) (nomark _))) (pss_one (psm le_ret (ps_ret (pm le_if (pe_ifExp (PW.pt (pwm le_and (pw_and (ptm (fun σ H Q h => le_op s_eq σ H _ (le_Test σ H Q h)) (pt_cmpR (ok_eq hr.units) (pm (le_var 3) (pv 3)) (pm (le_c c_int) pe_int) (nomark _))) (pw_and1 (ptm le_not (pt_not (ptm le_B (pt_val (pm (le_var 6) (pv 6)))))))))) (pm le_tup (pe_tup (pam le_cons (pa_cons (pm (le_c (c_str k_23)) pe_str) (pam le_cons (pa_cons (pm (le_c c_int) pe_int) (pam le_cons (pa_cons (pm (le_var 4) (pv 4)) (pam le_cons (pa_cons (pm (le_c c_bl) pe_bl) (pam le_cons (pa_cons (pm (le_var 6) (pv 6)) (pam le_cons (pa_cons (pm (le_c (c_str k_0)) pe_str) (pam le_nil pa_nil))))))))))))))) (pm (le_c c_non) pe_non)))))) (pssm le_next pss_nil)))
    (pssm le_seq (pss_cons (psm le_ifS (ps_if (ptm (fun σ H Q h => le_op s_in2 σ H _ (le_Test σ H Q h)) (pt_cmpR (fk_inB hr.u65) (pm (le_var 1) (pv 1)) (pm (le_c (c_str k_20)) pe_str) rfl)) (pssm le_seq (pss_cons (psm (le_asg (p := .nm 3)) (pset 3 sc__law_behind.nd (pm (le_op s_addA) (pe_op op_addA (pm (le_var 3) (pv 3)) (pm (le_op s_ix) (pe_ix (fk_ixB hr.u1) (pm le_lst (pe_lst (pam le_cons (pa_cons (pm (le_c c_int) pe_int) (pam le_cons (pa_cons (pm (le_un s_neg) (pe_un un_neg (pm (le_c c_int) pe_int))) (pam le_nil pa_nil))))))) (pm (le_bm s_indexS) (pe_bm PySem.F.plainAttrs_str PySem.F.slot_str_index PySem.F.type_str_index mt_sindex (pm (le_c (c_str k_20)) pe_str) (pam le_cons (pa_cons (pm (le_var 1) (pv 1)) (pam le_nil pa_nil))))) (fun _ _ => rfl)))))))
    (pss_one (psm le_ret (ps_ret (pm le_if (pe_ifExp (ptm (fun σ H Q h => le_chain s_leA s_ltA σ H _ (le_Test σ H Q h)) (pt_chain op_leA op_ltA (pm (le_c c_int) pe_int) (pm (le_var 3) (pv 3)) (pm (le_c c_int) pe_int))) (pm le_tup (pe_tup (pam le_cons (pa_cons (pm (le_c (c_str k_12)) pe_str) (pam le_cons (pa_cons (pm (le_var 3) (pv 3)) (pam le_cons (pa_cons (pm (le_var 4) (pv 4)) (pam le_cons (pa_cons (pm (le_op s_eq) (pe_cmpR (ok_eq hr.units) (pm (le_var 1) (pv 1)) (pm (le_c (c_str k_21)) pe_str) (nomark _))) (pam le_cons (pa_cons (pm (le_var 6) (pv 6)) (pam le_cons (pa_cons (pm (le_c (c_str k_0)) pe_str) (pam le_nil pa_nil))))))))))))))) (pm (le_c c_non) pe_non)))))))) (pssm le_next pss_nil)))
    (pssm le_seq (pss_cons (psm (le_asg (p := .nm 8)) (pset 8 sc__law_behind.nd (pm le_disp (pe_disp (by exact (pps_cons (pm (le_c (c_str k_19)) pe_str) (pm le_tup (pe_tup (pam le_cons (pa_cons (pm (le_c (c_str k_12)) pe_str) (pam le_cons (pa_cons (pm (le_c c_bl) pe_bl) (pam le_cons (pa_cons (pm le_orV (pe_or (pm (le_var 6) (pv 6)) (pe_one (pm (le_op s_eq) (pe_cmpR (ok_eq hr.units) (pm (le_var 3) (pv 3)) (pm (le_c c_int) pe_int) (nomark _)))))) (pam le_nil pa_nil))))))))) (pps_cons (pm (le_c (c_str k_4)) pe_str) (pm le_tup (pe_tup (pam le_cons (pa_cons (pm (le_c (c_str k_13)) pe_str) (pam le_cons (pa_cons (pm (le_c c_bl) pe_bl) (pam le_cons (pa_cons (pm (le_var 6) (pv 6)) (pam le_nil pa_nil))))))))) (pps_cons (pm (le_c (c_str k_1)) pe_str) (pm le_tup (pe_tup (pam le_cons (pa_cons (pm (le_c (c_str k_18)) pe_str) (pam le_cons (pa_cons (pm (le_c c_bl) pe_bl) (pam le_cons (pa_cons (pm (le_var 6) (pv 6)) (pam le_nil pa_nil))))))))) pps_nil)))) (by rfl) (by rfl) (by simp) (by decide)))))
    (pssm le_seq (pss_cons (psm (le_asg (p := (.tup (.cons (.nm 2) (.cons (.nm 5) (.cons (.nm 6) .nil)))))) (ps_asg (pm le_dget2 (pe_dget2 hr.u1 (pm (le_var 8) (pv 8)) (pm (le_var 1) (pv 1)) (pm le_tup (pe_tup (pam le_cons (pa_cons (pm (le_c (c_str k_12)) pe_str) (pam le_cons (pa_cons (pm (le_c c_bl) pe_bl) (pam le_cons (pa_cons (pm (le_var 6) (pv 6)) (pam le_nil pa_nil))))))))) ⟨rfl, rfl, rfl, rfl⟩)) (pg_tup rfl (pgs_cons (gn 2 sc__law_behind.nd) (pgs_cons (gn 5 sc__law_behind.nd) (pgs_cons (gn 6 sc__law_behind.nd) pgs_nil))))))
    (pss_one (psm le_ret (ps_ret (pm le_tup (pe_tup (pam le_cons (pa_cons (pm (le_var 2) (pv 2)) (pam le_cons (pa_cons (pm (le_var 3) (pv 3)) (pam le_cons (pa_cons (pm (le_var 4) (pv 4)) (pam le_cons (pa_cons (pm (le_var 5) (pv 5)) (pam le_cons (pa_cons (pm (le_var 6) (pv 6)) (pam le_cons (pa_cons (pm (le_c (c_str k_0)) pe_str) (pam le_nil pa_nil)))))))))))))))))))))))))))))))))))))))), def_ok rfl (fr_ok h)⟩, F.bindsN fun _ _ _ _ _ _ us hl => match us, hl with | [_, _], _ => rfl, isFd_of F⟩, F.kp⟩
theorem ok__law_due {P : Program} {w : World} {K : PySem.W.Frag} {mg : Str → Option Value} {base : Heap} (T : Txt K w mg) (KT : Kt cs0 xs0 K) (D__law_behind : OkD P w K mg base (L2.CX P w) 3 (He.ga K "_law_behind") ["_law_state", "_law_sign"] (spE K e__law_behind)) :
    OkD P w K mg base (L2.CX P w) 4 (He.ga K "_law_due") ["_law_text"] (spE K e__law_due) := by
  obtain ⟨fd, F⟩ := T.f__law_due
  exact ⟨⟨fd, F.ok sc__law_due (fun vs H Q E h => def_len (fr_ok h)) fun cdv A outer s H vs Q E hr h => ⟨tS K ⟨fun cls d _ H => E cls d H, noS⟩ b__law_due, (pssm le_seq (pss_cons (psm le_par (ps_par (i := 1) (j := 2) rfl sc__law_due.nd rfl rfl (by decide) rfl rfl (pam le_cons (pa_cons (pm le_tup (pe_tup (pam le_cons (pa_cons (pm (le_c (c_str k_12)) pe_str) (pam le_cons (pa_cons (pm (le_c c_int) pe_int) (pam le_cons (pa_cons (pm (le_c c_int) pe_int) (pam le_cons (pa_cons (pm (le_c c_bl) pe_bl) (pam le_cons (pa_cons (pm (le_c c_bl) pe_bl) (pam le_cons (pa_cons (pm (le_c (c_str k_0)) pe_str) (pam le_nil pa_nil))))))))))))))) (pam le_cons (pa_cons (pm le_disp (pe_disp (by exact (pps_cons (pm (le_c (c_str k_13)) pe_str) (pm (le_c c_int) pe_int) (pps_cons (pm (le_c (c_str k_14)) pe_str) (pm (le_c c_int) pe_int) (pps_cons (pm (le_c (c_str k_15)) pe_str) (pm (le_c c_int) pe_int) (pps_cons (pm (le_c (c_str k_16)) pe_str) (pm (le_c c_int) pe_int) (pps_cons (pm (le_c (c_str k_17)) pe_str) (pm (le_c c_int) pe_int) (pps_cons (pm (le_c (c_str k_18)) pe_str) (pm (le_c c_int) pe_int) pps_nil))))))) (by rfl) (by rfl) (by simp) (by decide))) (pam le_nil pa_nil))))) (by rfl)))
    (pssm le_seq (pss_cons (psm (le_forR (p := (.nm 3))) (ps_for (passes_of rfl) rfl (pi_range1 rfl T.n_range (pam le_cons (pa_cons (pm (le_cb s_len) (pe_callB fk_lenB rfl T.n_len (by decide +kernel) (pam le_cons (pa_cons (pm (le_var 0) (pv 0)) (pam le_nil pa_nil))))) (pam le_nil pa_nil)))) (gn 3 sc__law_due.nd) (pssm le_seq (pss_cons (psm (le_asg (p := .nm 1)) (pset 1 sc__law_due.nd (pm (le_call c_nil) (pe_callX D__law_behind (hr.mono (by decide)) rfl T.g__law_behind (fun σ => passAt (takes_of rfl rfl rfl rfl) σ) (pam le_cons (pa_cons (pm (le_var 1) (pv 1)) (pam le_cons (pa_cons (pm (le_op s_ix) (pe_ix (fk_ixB hr.u1) (pm (le_var 0) (pv 0)) (pm (le_var 3) (pv 3)) (fun _ _ => rfl))) (pam le_nil pa_nil)))))))))
    (pss_one (psm le_ifS (ps_if (PW.pt (pwm le_or (pw_or (ptm (fun σ H Q h => le_op s_isA σ H _ (le_Test σ H Q h)) (pt_cmpR op_isA (pm (le_var 1) (pv 1)) (pm (le_c c_non) pe_non) (nomark _))) (pw_or1 (ptm (fun σ H Q h => le_op s_eq σ H _ (le_Test σ H Q h)) (pt_cmpR (ok_eq hr.units) (pm (le_var 3) (pv 3)) (pm (le_c c_int) pe_int) (nomark _))))))) (pss_one (psm le_ret (ps_ret (pm (le_var 3) (pv 3))))) (pssm le_next pss_nil))))))))
    (pss_one (psm le_ret (ps_ret (pm le_if (pe_ifExp (ptm (fun σ H Q h => le_op s_eq σ H _ (le_Test σ H Q h)) (pt_cmpR (ok_eq hr.units) (pm (le_op s_addA) (pe_op op_addA (pm (le_op s_ix) (pe_ix (fk_ixB hr.u1) (pm (le_var 1) (pv 1)) (pm (le_c c_int) pe_int) (fun _ _ => rfl))) (pm le_dget2 (pe_dget2 hr.u1 (pm (le_var 2) (pv 2)) (pm (le_op s_ix) (pe_ix (fk_ixB hr.u1) (pm (le_var 1) (pv 1)) (pm (le_c c_int) pe_int) (fun _ _ => rfl))) (pm (le_c c_int) pe_int) ⟨rfl, rfl, rfl, rfl⟩)))) (pm (le_c c_int) pe_int) (nomark _))) (pm (le_c c_non) pe_non) (pm (le_cb s_len) (pe_callB fk_lenB rfl T.n_len (by decide +kernel) (pam le_cons (pa_cons (pm (le_var 0) (pv 0)) (pam le_nil pa_nil)))))))))))))), def_ok rfl (fr_ok h)⟩, F.bindsN fun _ _ _ _ _ _ us hl => match us, hl with | [_], _ => rfl, isFd_of F⟩, F.kp⟩
theorem ok__law_take {P : Program} {w : World} {K : PySem.W.Frag} {mg : Str → Option Value} {base : Heap} (T : Txt K w mg) (KT : Kt cs0 xs0 K) :
    OkD P w K mg base (L2.CX P w) 1 (He.ga K "_law_take") ["_law_bag_here", "_law_count"] (spE K e__law_take) := by
  obtain ⟨fd, F⟩ := T.f__law_take
  exact ⟨⟨fd, F.ok sc__law_take (fun vs H Q E h => def_len h) fun cdv A outer s H vs Q E hr h => ⟨tS K ⟨fun cls d _ H => E cls d H, noS⟩ b__law_take, (pssm le_seq (pss_cons (psm le_ifS (ps_if (ptm (fun σ H Q h => le_op s_gtA σ H _ (le_Test σ H Q h)) (pt_cmpR op_gtA (pm (le_op s_ix) (pe_ix (fk_ixB hr.u1) (pm (le_var 0) (pv 0)) (pm (le_c c_int) pe_int) (fun _ _ => rfl))) (pm (le_c c_int) pe_int) (nomark _))) (pssm le_seq (pss_cons (psm (le_asg (p := .nm 2)) (pset 2 sc__law_take.nd (pm (le_op s_mod) (pe_op fk_mod (pm (le_cb s_int) (pe_callTy fk_int rfl T.n_int (by decide +kernel) (pam le_cons (pa_cons (pm (le_op s_ix) (pe_ix (fk_ixB hr.u1) (pm (le_var 0) (pv 0)) (pm (le_c c_int) pe_int) (fun _ _ => rfl))) (pam le_nil pa_nil))))) (pm (le_var 1) (pv 1))))))
    (pssm le_seq (pss_cons (psm le_setI (ps_asg (pm (le_op s_div) (pe_op fk_div (pm (le_op s_ix) (pe_ix (fk_ixB hr.u1) (pm (le_var 0) (pv 0)) (pm (le_c c_int) pe_int) (fun _ _ => rfl))) (pm (le_var 1) (pv 1)))) (pg_sub (pm (le_var 0) (pv 0)) (pm (le_c c_int) pe_int) (fk_setB hr.u1))))
    (pss_one (psm le_ret (ps_ret (pm (le_var 2) (pv 2))))))))) (pssm le_next pss_nil)))
    (pssm le_seq (pss_cons (psm le_setI (ps_asg (pm (le_op s_addA) (pe_op op_addA (pm (le_op s_ix) (pe_ix (fk_ixB hr.u1) (pm (le_var 0) (pv 0)) (pm (le_c c_int) pe_int) (fun _ _ => rfl))) (pm (le_c c_int) pe_int))) (pg_sub (pm (le_var 0) (pv 0)) (pm (le_c c_int) pe_int) (fk_setB hr.u1))))
    (pssm le_seq (pss_cons (psm le_setI (ps_asg (pm (le_op s_mod) (pe_op fk_mod (pm (le_cb s_int) (pe_callTy fk_int rfl T.n_int (by decide +kernel) (pam le_cons (pa_cons (pm (le_op s_addA) (pe_op op_addA (pm (le_op s_addA) (pe_op op_addA (pm (le_op s_mulA) (pe_op op_mulA (pm (le_op s_ix) (pe_ix (fk_ixB hr.u1) (pm (le_var 0) (pv 0)) (pm (le_c c_int) pe_int) (fun _ _ => rfl))) (pm (le_c c_int) pe_int))) (pm (le_op s_mulA) (pe_op op_mulA (pm (le_c c_int) pe_int) (pm (le_op s_ix) (pe_ix (fk_ixB hr.u1) (pm (le_var 0) (pv 0)) (pm (le_c c_int) pe_int) (fun _ _ => rfl))))))) (pm (le_c c_int) pe_int))) (pam le_nil pa_nil))))) (pm (le_c c_int) pe_int))) (pg_sub (pm (le_var 0) (pv 0)) (pm (le_c c_int) pe_int) (fk_setB hr.u1))))
    (pss_one (psm le_ret (ps_ret (pm (le_op s_mod) (pe_op fk_mod (pm (le_op s_mod) (pe_op fk_mod (pm (le_cb s_int) (pe_callTy fk_int rfl T.n_int (by decide +kernel) (pam le_cons (pa_cons (pm (le_op s_pow) (pe_op fk_pow (pm (le_op s_div) (pe_op fk_div (pm (le_op s_ix) (pe_ix (fk_ixB hr.u1) (pm (le_var 0) (pv 0)) (pm (le_c c_int) pe_int) (fun _ _ => rfl))) (pm (le_c c_int) pe_int))) (pm (le_c c_int) pe_int))) (pam le_nil pa_nil))))) (pm (le_c c_int) pe_int))) (pm (le_var 1) (pv 1))))))))))))), def_ok rfl h⟩, F.bindsN fun _ _ _ _ _ _ us hl => match us, hl with | [_, _], _ => rfl, isFd_of F⟩, F.kp⟩
theorem ok__law_pick {P : Program} {w : World} {K : PySem.W.Frag} {mg : Str → Option Value} {base : Heap} (T : Txt K w mg) (KT : Kt cs0 xs0 K) (D__law_take : OkD P w K mg base (L2.CX P w) 1 (He.ga K "_law_take") ["_law_bag_here", "_law_count"] (spE K e__law_take)) :
    OkD P w K mg base (L2.CX P w) 2 (He.ga K "_law_pick") ["_law_bag_here", "_law_menu"] (spE K e__law_pick) := by
  obtain ⟨fd, F⟩ := T.f__law_pick
  exact ⟨⟨fd, F.ok sc__law_pick (fun vs H Q E h => def_len h) fun cdv A outer s H vs Q E hr h => ⟨tS K ⟨fun cls d _ H => E cls d H, noS⟩ b__law_pick, (pss_one (psm le_ret (ps_ret (pm (le_op s_ix) (pe_ix (fk_ixB hr.u1) (pm (le_var 1) (pv 1)) (pm (le_call c_nil) (pe_callX D__law_take (hr.mono (by decide)) rfl T.g__law_take (fun σ => passAt (takes_of rfl rfl rfl rfl) σ) (pam le_cons (pa_cons (pm (le_var 0) (pv 0)) (pam le_cons (pa_cons (pm (le_cb s_len) (pe_callB fk_lenB rfl T.n_len (by decide +kernel) (pam le_cons (pa_cons (pm (le_var 1) (pv 1)) (pam le_nil pa_nil))))) (pam le_nil pa_nil))))))) (fun _ _ => rfl)))))), def_ok rfl h⟩, F.bindsN fun _ _ _ _ _ _ us hl => match us, hl with | [_, _], _ => rfl, isFd_of F⟩, F.kp⟩
theorem ok__law_piece {P : Program} {w : World} {K : PySem.W.Frag} {mg : Str → Option Value} {base : Heap} {l : Nat} (hl : 2 ≤ l) {ch : Fn} (T : Txt K w mg) (KT : Kt cs0 xs0 K) (D__law_pick : OkD P w K mg base (L2.CX P w) 2 (He.ga K "_law_pick") ["_law_bag_here", "_law_menu"] (spE K e__law_pick)) (D_ch : OkD P w K mg base (L2.CX P w) l (He.ga K "_law_rows_of") ["_law_bag_here", "_law_depth"] (spE K ch)) (D__law_take : OkD P w K mg base (L2.CX P w) 1 (He.ga K "_law_take") ["_law_bag_here", "_law_count"] (spE K e__law_take)) :
    OkD P w K mg base (L2.CX P w) (l + 1) (He.ga K "_law_piece") ["_law_bag_here", "_law_depth"] (spE K (e__law_piece ch)) := by
  obtain ⟨fd, F⟩ := T.f__law_piece
  exact ⟨⟨fd, F.ok sc__law_piece (fun vs H Q E h => def_len h) fun cdv A outer s H vs Q E hr h => ⟨tS K ⟨fun cls d _ H => E cls d H, noS⟩ (b__law_piece ch), (pssm le_seq (pss_cons (psm le_par (ps_par (i := 2) (j := 3) rfl sc__law_piece.nd rfl rfl (by decide) rfl rfl (pam le_cons (pa_cons (pm (le_call c_nil) (pe_callX D__law_take (hr.mono (by omega)) rfl T.g__law_take (fun σ => passAt (takes_of rfl rfl rfl rfl) σ) (pam le_cons (pa_cons (pm (le_var 0) (pv 0)) (pam le_cons (pa_cons (pm (le_c c_int) pe_int) (pam le_nil pa_nil))))))) (pam le_cons (pa_cons (pm (le_c c_non) pe_non) (pam le_nil pa_nil))))) (by rfl)))
    (pssm le_seq (pss_cons (psm le_ifS (ps_if (ptm (fun σ H Q h => le_op s_ltA σ H _ (le_Test σ H Q h)) (pt_cmpR op_ltA (pm (le_var 2) (pv 2)) (pm (le_c c_int) pe_int) (nomark _))) (pssm le_seq (pss_cons (psm (le_asg (p := .nm 4)) (pset 4 sc__law_piece.nd (pm (le_call c_nil) (pe_callX D__law_pick (hr.mono (by omega)) rfl T.g__law_pick (fun σ => passAt (takes_of rfl rfl rfl rfl) σ) (pam le_cons (pa_cons (pm (le_var 0) (pv 0)) (pam le_cons (pa_cons (pm le_lst (pe_lst (pam le_cons (pa_cons (pm (le_c (c_str k_2)) pe_str) (pam le_cons (pa_cons (pm (le_c (c_str k_43)) pe_str) (pam le_cons (pa_cons (pm (le_c (c_str k_51)) pe_str) (pam le_cons (pa_cons (pm (le_c (c_str k_28)) pe_str) (pam le_cons (pa_cons (pm (le_c (c_str k_50)) pe_str) (pam le_cons (pa_cons (pm (le_c (c_str k_2)) pe_str) (pam le_cons (pa_cons (pm (le_c (c_str k_43)) pe_str) (pam le_cons (pa_cons (pm (le_c (c_str k_49)) pe_str) (pam le_cons (pa_cons (pm (le_c (c_str k_48)) pe_str) (pam le_cons (pa_cons (pm (le_c (c_str k_29)) pe_str) (pam le_nil pa_nil))))))))))))))))))))))) (pam le_nil pa_nil)))))))))
    (pss_one (psm (le_asg (p := .nm 3)) (pset 3 sc__law_piece.nd (pm le_tup (pe_tup (pam le_cons (pa_cons (pm (le_c (c_str k_45)) pe_str) (pam le_cons (pa_cons (pm (le_var 4) (pv 4)) (pam le_cons (pa_cons (pm (le_c c_bl) pe_bl) (pam le_cons (pa_cons (pm (le_var 4) (pv 4)) (pam le_nil pa_nil)))))))))))))))) (pss_one (psm le_ifS (ps_if (ptm (fun σ H Q h => le_op s_eq σ H _ (le_Test σ H Q h)) (pt_cmpR (ok_eq hr.units) (pm (le_var 2) (pv 2)) (pm (le_c c_int) pe_int) (nomark _))) (pssm le_seq (pss_cons (psm (le_asg (p := .nm 4)) (pset 4 sc__law_piece.nd (pm (le_call c_nil) (pe_callX D__law_pick (hr.mono (by omega)) rfl T.g__law_pick (fun σ => passAt (takes_of rfl rfl rfl rfl) σ) (pam le_cons (pa_cons (pm (le_var 0) (pv 0)) (pam le_cons (pa_cons (pm (le_c (c_str k_27)) pe_str) (pam le_nil pa_nil)))))))))
    (pss_one (psm (le_asg (p := .nm 3)) (pset 3 sc__law_piece.nd (pm le_tup (pe_tup (pam le_cons (pa_cons (pm (le_c (c_str k_45)) pe_str) (pam le_cons (pa_cons (pm (le_var 4) (pv 4)) (pam le_cons (pa_cons (pm (le_c c_bl) pe_bl) (pam le_cons (pa_cons (pm (le_op s_addA) (pe_op op_addA (pm (le_c (c_str k_1)) pe_str) (pm (le_var 4) (pv 4)))) (pam le_nil pa_nil)))))))))))))))) (pss_one (psm le_ifS (ps_if (ptm (fun σ H Q h => le_op s_eq σ H _ (le_Test σ H Q h)) (pt_cmpR (ok_eq hr.units) (pm (le_var 2) (pv 2)) (pm (le_c c_int) pe_int) (nomark _))) (pss_one (psm (le_asg (p := .nm 3)) (pset 3 sc__law_piece.nd (pm le_tup (pe_tup (pam le_cons (pa_cons (pm (le_c (c_str k_45)) pe_str) (pam le_cons (pa_cons (pm (le_c (c_str k_0)) pe_str) (pam le_cons (pa_cons (pm (le_c c_bl) pe_bl) (pam le_cons (pa_cons (pm (le_c (c_str k_39)) pe_str) (pam le_nil pa_nil)))))))))))))) (pss_one (psm le_ifS (ps_if (PW.pt (pwm le_or (pw_or (ptm (fun σ H Q h => le_op s_eq σ H _ (le_Test σ H Q h)) (pt_cmpR (ok_eq hr.units) (pm (le_var 2) (pv 2)) (pm (le_c c_int) pe_int) (nomark _))) (pw_or1 (ptm (fun σ H Q h => le_op s_eq σ H _ (le_Test σ H Q h)) (pt_cmpR (ok_eq hr.units) (pm (le_var 1) (pv 1)) (pm (le_c c_int) pe_int) (nomark _))))))) (pssm le_seq (pss_cons (psm (le_asg (p := .nm 5)) (pset 5 sc__law_piece.nd (pm le_lst (pe_lst (pam le_cons (pa_cons (pm le_tup (pe_tup (pam le_cons (pa_cons (pm (le_c (c_str k_72)) pe_str) (pam le_cons (pa_cons (pm (le_c (c_str k_72)) pe_str) (pam le_nil pa_nil))))))) (pam le_cons (pa_cons (pm le_tup (pe_tup (pam le_cons (pa_cons (pm (le_c (c_str k_71)) pe_str) (pam le_cons (pa_cons (pm (le_c (c_str k_70)) pe_str) (pam le_nil pa_nil))))))) (pam le_cons (pa_cons (pm le_tup (pe_tup (pam le_cons (pa_cons (pm (le_c (c_str k_69)) pe_str) (pam le_cons (pa_cons (pm (le_c (c_str k_69)) pe_str) (pam le_nil pa_nil))))))) (pam le_cons (pa_cons (pm le_tup (pe_tup (pam le_cons (pa_cons (pm (le_c (c_str k_68)) pe_str) (pam le_cons (pa_cons (pm (le_c (c_str k_67)) pe_str) (pam le_nil pa_nil))))))) (pam le_cons (pa_cons (pm le_tup (pe_tup (pam le_cons (pa_cons (pm (le_c (c_str k_28)) pe_str) (pam le_cons (pa_cons (pm (le_c (c_str k_28)) pe_str) (pam le_nil pa_nil))))))) (pam le_cons (pa_cons (pm le_tup (pe_tup (pam le_cons (pa_cons (pm (le_c (c_str k_33)) pe_str) (pam le_cons (pa_cons (pm (le_c (c_str k_66)) pe_str) (pam le_nil pa_nil))))))) (pam le_nil pa_nil)))))))))))))))))
    (pssm le_seq (pss_cons (psm (le_asg (p := .nm 5)) (pset 5 sc__law_piece.nd (pm (le_op s_addA) (pe_op op_addA (pm (le_var 5) (pv 5)) (pm le_lst (pe_lst (pam le_cons (pa_cons (pm le_tup (pe_tup (pam le_cons (pa_cons (pm (le_c (c_str k_65)) pe_str) (pam le_cons (pa_cons (pm (le_c (c_str k_64)) pe_str) (pam le_nil pa_nil))))))) (pam le_cons (pa_cons (pm le_tup (pe_tup (pam le_cons (pa_cons (pm (le_c (c_str k_63)) pe_str) (pam le_cons (pa_cons (pm (le_c (c_str k_62)) pe_str) (pam le_nil pa_nil))))))) (pam le_cons (pa_cons (pm le_tup (pe_tup (pam le_cons (pa_cons (pm (le_c (c_str k_61)) pe_str) (pam le_cons (pa_cons (pm (le_c (c_str k_61)) pe_str) (pam le_nil pa_nil))))))) (pam le_cons (pa_cons (pm le_tup (pe_tup (pam le_cons (pa_cons (pm (le_c (c_str k_60)) pe_str) (pam le_cons (pa_cons (pm (le_c (c_str k_59)) pe_str) (pam le_nil pa_nil))))))) (pam le_nil pa_nil)))))))))))))))
    (pssm le_seq (pss_cons (psm (le_asg (p := .nm 6)) (pset 6 sc__law_piece.nd (pm (le_call c_nil) (pe_callX D__law_pick (hr.mono (by omega)) rfl T.g__law_pick (fun σ => passAt (takes_of rfl rfl rfl rfl) σ) (pam le_cons (pa_cons (pm (le_var 0) (pv 0)) (pam le_cons (pa_cons (pm (le_op s_addA) (pe_op op_addA (pm (le_var 5) (pv 5)) (pm le_lst (pe_lst (pam le_cons (pa_cons (pm le_tup (pe_tup (pam le_cons (pa_cons (pm (le_c (c_str k_58)) pe_str) (pam le_cons (pa_cons (pm (le_c (c_str k_57)) pe_str) (pam le_nil pa_nil))))))) (pam le_cons (pa_cons (pm le_tup (pe_tup (pam le_cons (pa_cons (pm (le_c (c_str k_56)) pe_str) (pam le_cons (pa_cons (pm (le_c (c_str k_55)) pe_str) (pam le_nil pa_nil))))))) (pam le_cons (pa_cons (pm le_tup (pe_tup (pam le_cons (pa_cons (pm (le_c (c_str k_54)) pe_str) (pam le_cons (pa_cons (pm (le_c (c_str k_53)) pe_str) (pam le_nil pa_nil))))))) (pam le_nil pa_nil))))))))))) (pam le_nil pa_nil)))))))))
    (pssm le_seq (pss_cons (psm (le_asg (p := .nm 3)) (pset 3 sc__law_piece.nd (pm le_tup (pe_tup (pam le_cons (pa_cons (pm (le_c (c_str k_45)) pe_str) (pam le_cons (pa_cons (pm (le_op s_ix) (pe_ix (fk_ixB hr.u1) (pm (le_var 6) (pv 6)) (pm (le_c c_int) pe_int) (fun _ _ => rfl))) (pam le_cons (pa_cons (pm (le_op s_eq) (pe_cmpR (ok_eq hr.units) (pm (le_call c_nil) (pe_callX D__law_take (hr.mono (by omega)) rfl T.g__law_take (fun σ => passAt (takes_of rfl rfl rfl rfl) σ) (pam le_cons (pa_cons (pm (le_var 0) (pv 0)) (pam le_cons (pa_cons (pm (le_c c_int) pe_int) (pam le_nil pa_nil))))))) (pm (le_c c_int) pe_int) (nomark _))) (pam le_cons (pa_cons (pm (le_op s_ix) (pe_ix (fk_ixB hr.u1) (pm (le_var 6) (pv 6)) (pm (le_c c_int) pe_int) (fun _ _ => rfl))) (pam le_nil pa_nil)))))))))))))
    (pss_one (psm (le_asg (p := .nm 3)) (pset 3 sc__law_piece.nd (pm (le_op s_addA) (pe_op op_addA (pm (le_sl s_slU) (pe_slice sl_U (pm (le_var 3) (pv 3)) (pom le_noPart po_none) (pom le_part (po_some (pm (le_c c_int) pe_int))))) (pm le_tup (pe_tup (pam le_cons (pa_cons (pm (le_op s_addA) (pe_op op_addA (pm (le_op s_addA) (pe_op op_addA (pm (le_op s_ix) (pe_ix (fk_ixB hr.u1) (pm le_lst (pe_lst (pam le_cons (pa_cons (pm (le_c (c_str k_4)) pe_str) (pam le_cons (pa_cons (pm (le_c (c_str k_52)) pe_str) (pam le_nil pa_nil))))))) (pm (le_cb s_int) (pe_callTy fk_int rfl T.n_int (by decide +kernel) (pam le_cons (pa_cons (pm (le_op s_ix) (pe_ix (fk_ixB hr.u1) (pm (le_var 3) (pv 3)) (pm (le_c c_int) pe_int) (fun _ _ => rfl))) (pam le_nil pa_nil))))) (fun _ _ => rfl))) (pm (le_op s_ix) (pe_ix (fk_ixB hr.u1) (pm (le_var 6) (pv 6)) (pm (le_c c_int) pe_int) (fun _ _ => rfl))))) (pm (le_c (c_str k_9)) pe_str))) (pam le_nil pa_nil)))))))))))))))))) (pss_one (psm (le_asg (p := .nm 3)) (pset 3 sc__law_piece.nd (pm le_tup (pe_tup (pam le_cons (pa_cons (pm (le_c (c_str k_73)) pe_str) (pam le_cons (pa_cons (pm (le_call c_nil) (pe_callX D_ch (hr.mono (by omega)) rfl T.g__law_rows_of (fun σ => passAt (takes_of rfl rfl rfl rfl) σ) (pam le_cons (pa_cons (pm (le_var 0) (pv 0)) (pam le_cons (pa_cons (pm (le_op s_sub) (pe_op fk_sub (pm (le_var 1) (pv 1)) (pm (le_c c_int) pe_int))) (pam le_nil pa_nil))))))) (pam le_nil pa_nil)))))))))))))))))))))
    (pss_one (psm le_ret (ps_ret (pm le_tup (pe_tup (pam le_cons (pa_cons (pm (le_var 3) (pv 3)) (pam le_cons (pa_cons (pm (le_call c_nil) (pe_callX D__law_pick (hr.mono (by omega)) rfl T.g__law_pick (fun σ => passAt (takes_of rfl rfl rfl rfl) σ) (pam le_cons (pa_cons (pm (le_var 0) (pv 0)) (pam le_cons (pa_cons (pm le_lst (pe_lst (pam le_cons (pa_cons (pm (le_c (c_str k_0)) pe_str) (pam le_cons (pa_cons (pm (le_c (c_str k_0)) pe_str) (pam le_cons (pa_cons (pm (le_c (c_str k_0)) pe_str) (pam le_cons (pa_cons (pm (le_c (c_str k_36)) pe_str) (pam le_cons (pa_cons (pm (le_c (c_str k_47)) pe_str) (pam le_cons (pa_cons (pm (le_c (c_str k_46)) pe_str) (pam le_nil pa_nil))))))))))))))) (pam le_nil pa_nil))))))) (pam le_nil pa_nil)))))))))))))), def_ok rfl h⟩, F.bindsN fun _ _ _ _ _ _ us hl => match us, hl with | [_, _], _ => rfl, isFd_of F⟩, F.kp⟩
theorem ok__law_rows_of1 {P : Program} {w : World} {K : PySem.W.Frag} {mg : Str → Option Value} {base : Heap} {l : Nat} (hl : 2 ≤ l) {ch : Fn} (T : Txt K w mg) (KT : Kt cs0 xs0 K) (D__law_piece : OkD P w K mg base (L2.CX P w) (l + 1) (He.ga K "_law_piece") ["_law_bag_here", "_law_depth"] (spE K (e__law_piece ch))) (D__law_take : OkD P w K mg base (L2.CX P w) 1 (He.ga K "_law_take") ["_law_bag_here", "_law_count"] (spE K e__law_take)) :
    OkD P w K mg base (L2.CX P w) (l + 2) (He.ga K "_law_rows_of") ["_law_bag_here", "_law_depth"] (spE K (e__law_rows_of1 ch)) := by
  obtain ⟨fd, F⟩ := T.f__law_rows_of
  exact ⟨⟨fd, F.ok sc__law_rows_of (fun vs H Q E h => def_len h) fun cdv A outer s H vs Q E hr h => ⟨tS K ⟨fun cls d _ H => E cls d H, noS⟩ (b__law_rows_of ch), (pssm le_seq (pss_cons (psm (le_asg (p := .nm 2)) (pset 2 sc__law_rows_of.nd (pm le_lstO (pe_lst (pam le_nil pa_nil)))))
    (pssm le_seq (pss_cons (psm (le_forR (p := (.nm 3))) (ps_for (passes_of rfl) rfl (pi_range1 rfl T.n_range (pam le_cons (pa_cons (pm (le_op s_addA) (pe_op op_addA (pm (le_c c_int) pe_int) (pm (le_call c_nil) (pe_callX D__law_take (hr.mono (by omega)) rfl T.g__law_take (fun σ => passAt (takes_of rfl rfl rfl rfl) σ) (pam le_cons (pa_cons (pm (le_var 0) (pv 0)) (pam le_cons (pa_cons (pm (le_c c_int) pe_int) (pam le_nil pa_nil))))))))) (pam le_nil pa_nil)))) (gn 3 sc__law_rows_of.nd) (pss_one (psm le_drop (ps_expr (pm (le_bm s_append) (pe_bm PySem.F.plainAttrs_list PySem.F.slot_list_append PySem.F.type_list_append mt_append (pm (le_var 2) (pv 2)) (pam le_cons (pa_cons (pm (le_lcR (o := false) (by decide)) (pe_lc (own := [("_law_k", 4)]) rfl sc__law_rows_of.nd  (pi_range1 rfl T.n_range (pam le_cons (pa_cons (pm (le_call c_nil) (pe_callX D__law_take (hr.mono (by omega)) rfl T.g__law_take (fun σ => passAt (takes_of rfl rfl rfl rfl) σ) (pam le_cons (pa_cons (pm (le_var 0) (pv 0)) (pam le_cons (pa_cons (pm (le_c c_int) pe_int) (pam le_nil pa_nil))))))) (pam le_nil pa_nil)))) (blkOk_by (own := [("_law_k", 4)]) (N := ["_law_bag_here", "_law_depth", "_law_rows", "_law_turn", "_law_k"]) (sc := defScope s__law_rows_of) (by decide +kernel)) (fun _ _ _ _ _ => (gn 4 sc__law_rows_of.nd)) (fun _ _ _ _ _ => (ptsm le_yes pts_nil)) (fun _ _ _ _ _ => (pm (le_call c_nil) (pe_callX D__law_piece (hr.mono (by omega)) rfl T.g__law_piece (fun σ => passAt takes0 σ) (pam le_cons (pa_cons (pm (le_var 0) (pv 0)) (pam le_cons (pa_cons (pm (le_var 1) (pv 1)) (pam le_nil pa_nil)))))))))) (pam le_nil pa_nil))))))))))
    (pss_one (psm le_ret (ps_ret (pm (le_var 2) (pv 2))))))))), def_ok rfl h⟩, F.bindsN fun _ _ _ _ _ _ us hl => match us, hl with | [_, _], _ => rfl, isFd_of F⟩, F.kp⟩
theorem ok__law_rows_of {P : Program} {w : World} {K : PySem.W.Frag} {mg : Str → Option Value} {base : Heap} (T : Txt K w mg) (KT : Kt cs0 xs0 K) (D__law_pick : OkD P w K mg base (L2.CX P w) 2 (He.ga K "_law_pick") ["_law_bag_here", "_law_menu"] (spE K e__law_pick)) (D__law_take : OkD P w K mg base (L2.CX P w) 1 (He.ga K "_law_take") ["_law_bag_here", "_law_count"] (spE K e__law_take)) : ∀ n : Nat, OkD P w K mg base (L2.CX P w) (2 + 2 * n) (He.ga K "_law_rows_of") ["_law_bag_here", "_law_depth"] (spE K (e__law_rows_of n))
  | 0 => by
    obtain ⟨fd, F⟩ := T.f__law_rows_of
    exact ⟨⟨fd, F.ok sc__law_rows_of (fun vs H Q E h => bad_sp h) (fun cdv A outer s H vs Q E hr h => bad_sp h), F.bindsN fun _ _ _ _ _ _ us hl => match us, hl with | [_, _], _ => rfl, isFd_of F⟩, F.kp⟩
  | n + 1 => by
    have D_ch := ok__law_rows_of (P := P) (w := w) (base := base) T KT D__law_pick D__law_take n
    have D__law_piece := ok__law_piece (l := 2 + 2 * n) (by omega) T KT D__law_pick D_ch D__law_take
    have D := ok__law_rows_of1 (l := 2 + 2 * n) (by omega) T KT D__law_piece D__law_take
    rw [show 2 + 2 * n + 2 = 2 + 2 * (n + 1) by omega] at D
    exact D
theorem ok__law_special1 {P : Program} {w : World} {K : PySem.W.Frag} {mg : Str → Option Value} {base : Heap} {l : Nat} (hl : 1 ≤ l) {ch : Fn} (T : Txt K w mg) (KT : Kt cs0 xs0 K) (D_ch : OkD P w K mg base (L2.CX P w) l (He.ga K "_law_special") ["_law_rows"] (spE K ch)) :
    OkD P w K mg base (L2.CX P w) (l + 1) (He.ga K "_law_special") ["_law_rows"] (spE K (e__law_special1 ch)) := by
  obtain ⟨fd, F⟩ := T.f__law_special
  exact ⟨⟨fd, F.ok sc__law_special (fun vs H Q E h => def_len h) fun cdv A outer s H vs Q E hr h => ⟨tS K ⟨fun cls d _ H => E cls d H, noS⟩ (b__law_special ch), (pssm le_seq (pss_cons (psm (le_asg (p := .nm 1)) (pset 1 sc__law_special.nd (pm (le_op s_sub) (pe_op fk_sub (pm (le_cb s_len) (pe_callB fk_lenB rfl T.n_len (by decide +kernel) (pam le_cons (pa_cons (pm (le_var 0) (pv 0)) (pam le_nil pa_nil))))) (pm (le_c c_int) pe_int)))))
    (pssm le_seq (pss_cons (psm (le_forL (p := (.nm 2))) (ps_for (passes_of rfl) rfl (pi_list (pm (le_var 0) (pv 0))) (gn 2 sc__law_special.nd) (pss_one (psm (le_forL (p := (.tup (.cons (.nm 3) (.cons (.nm 4) .nil))))) (ps_for (passes_of rfl) rfl (pi_list (pm (le_var 2) (pv 2))) (pg_tup rfl (pgs_cons (gn 3 sc__law_special.nd) (pgs_cons (gn 4 sc__law_special.nd) pgs_nil))) (pssm le_seq (pss_cons (psm (le_asg (p := .nm 1)) (pset 1 sc__law_special.nd (pm (le_op s_addA) (pe_op op_addA (pm (le_var 1) (pv 1)) (pm (le_cb s_len) (pe_callB fk_lenB rfl T.n_len (by decide +kernel) (pam le_cons (pa_cons (pm (le_var 4) (pv 4)) (pam le_nil pa_nil)))))))))
    (pss_one (psm le_ifS (ps_if (ptm (fun σ H Q h => le_op s_eq σ H _ (le_Test σ H Q h)) (pt_cmpR (ok_eq hr.units) (pm (le_op s_ix) (pe_ix (fk_ixB hr.u1) (pm (le_var 3) (pv 3)) (pm (le_c c_int) pe_int) (fun _ _ => rfl))) (pm (le_c (c_str k_73)) pe_str) (nomark _))) (pss_one (psm (le_asg (p := .nm 1)) (pset 1 sc__law_special.nd (pm (le_op s_addA) (pe_op op_addA (pm (le_op s_addA) (pe_op op_addA (pm (le_var 1) (pv 1)) (pm (le_c c_int) pe_int))) (pm (le_call c_nil) (pe_callX D_ch (hr.mono (by omega)) rfl T.g__law_special (fun σ => passAt (takes_of rfl rfl rfl rfl) σ) (pam le_cons (pa_cons (pm (le_op s_ix) (pe_ix (fk_ixB hr.u1) (pm (le_var 3) (pv 3)) (pm (le_c c_int) pe_int) (fun _ _ => rfl))) (pam le_nil pa_nil)))))))))) (pss_one (psm le_ifS (ps_if (PW.pt (pwm le_or (pw_or (ptm (fun σ H Q h => le_op s_eq σ H _ (le_Test σ H Q h)) (pt_cmpR (ok_eq hr.units) (pm (le_op s_ix) (pe_ix (fk_ixB hr.u1) (pm (le_var 3) (pv 3)) (pm (le_c c_int) pe_int) (fun _ _ => rfl))) (pm (le_c (c_str k_39)) pe_str) (nomark _))) (pw_or1 (ptm (fun σ H Q h => le_op s_eq σ H _ (le_Test σ H Q h)) (pt_cmpR (ok_eq hr.units) (pm (le_sl s_slU) (pe_slice sl_U (pm (le_op s_ix) (pe_ix (fk_ixB hr.u1) (pm (le_var 3) (pv 3)) (pm (le_c c_int) pe_int) (fun _ _ => rfl))) (pom le_noPart po_none) (pom le_part (po_some (pm (le_c c_int) pe_int))))) (pm (le_c (c_str k_4)) pe_str) (nomark _))))))) (pss_one (psm (le_asg (p := .nm 1)) (pset 1 sc__law_special.nd (pm (le_op s_addA) (pe_op op_addA (pm (le_var 1) (pv 1)) (pm (le_c c_int) pe_int)))))) (pssm le_next pss_nil))))))))))))))
    (pss_one (psm le_ret (ps_ret (pm (le_var 1) (pv 1))))))))), def_ok rfl h⟩, F.bindsN fun _ _ _ _ _ _ us hl => match us, hl with | [_], _ => rfl, isFd_of F⟩, F.kp⟩
theorem ok__law_special {P : Program} {w : World} {K : PySem.W.Frag} {mg : Str → Option Value} {base : Heap} (T : Txt K w mg) (KT : Kt cs0 xs0 K) : ∀ n : Nat, OkD P w K mg base (L2.CX P w) (1 + 1 * n) (He.ga K "_law_special") ["_law_rows"] (spE K (e__law_special n))
  | 0 => by
    obtain ⟨fd, F⟩ := T.f__law_special
    exact ⟨⟨fd, F.ok sc__law_special (fun vs H Q E h => bad_sp h) (fun cdv A outer s H vs Q E hr h => bad_sp h), F.bindsN fun _ _ _ _ _ _ us hl => match us, hl with | [_], _ => rfl, isFd_of F⟩, F.kp⟩
  | n + 1 => by
    have D_ch := ok__law_special (P := P) (w := w) (base := base) T KT n
    have D := ok__law_special1 (l := 1 + 1 * n) (by omega) T KT D_ch
    rw [show 1 + 1 * n + 1 = 1 + 1 * (n + 1) by omega] at D
    exact D
theorem ok__law_written1 {P : Program} {w : World} {K : PySem.W.Frag} {mg : Str → Option Value} {base : Heap} {l : Nat} (hl : 1 ≤ l) {ch : Fn} (T : Txt K w mg) (KT : Kt cs0 xs0 K) (D_ch : OkD P w K mg base (L2.CX P w) l (He.ga K "_law_written") ["_law_rows"] (spE K ch)) :
    OkD P w K mg base (L2.CX P w) (l + 1) (He.ga K "_law_written") ["_law_rows"] (spE K (e__law_written1 ch)) := by
  obtain ⟨fd, F⟩ := T.f__law_written
  exact ⟨⟨fd, F.ok sc__law_written (fun vs H Q E h => def_len h) fun cdv A outer s H vs Q E hr h => ⟨tS K ⟨fun cls d _ H => E cls d H, noS⟩ (b__law_written ch), (pssm le_seq (pss_cons (psm (le_asg (p := .nm 1)) (pset 1 sc__law_written.nd (pm le_lstO (pe_lst (pam le_nil pa_nil)))))
    (pssm le_seq (pss_cons (psm (le_forL (p := (.nm 2))) (ps_for (passes_of rfl) rfl (pi_list (pm (le_var 0) (pv 0))) (gn 2 sc__law_written.nd) (pssm le_seq (pss_cons (psm (le_asg (p := .nm 3)) (pset 3 sc__law_written.nd (pm (le_c (c_str k_0)) pe_str)))
    (pssm le_seq (pss_cons (psm (le_forL (p := (.tup (.cons (.nm 4) (.cons (.nm 5) .nil))))) (ps_for (passes_of rfl) rfl (pi_list (pm (le_var 2) (pv 2))) (pg_tup rfl (pgs_cons (gn 4 sc__law_written.nd) (pgs_cons (gn 5 sc__law_written.nd) pgs_nil))) (pssm le_seq (pss_cons (psm (le_asg (p := .nm 6)) (pset 6 sc__law_written.nd (pm le_if (pe_ifExp (ptm (fun σ H Q h => le_op s_eq σ H _ (le_Test σ H Q h)) (pt_cmpR (ok_eq hr.units) (pm (le_op s_ix) (pe_ix (fk_ixB hr.u1) (pm (le_var 4) (pv 4)) (pm (le_c c_int) pe_int) (fun _ _ => rfl))) (pm (le_c (c_str k_45)) pe_str) (nomark _))) (pm (le_op s_ix) (pe_ix (fk_ixB hr.u1) (pm (le_var 4) (pv 4)) (pm (le_c c_int) pe_int) (fun _ _ => rfl))) (pm (le_op s_addA) (pe_op op_addA (pm (le_op s_addA) (pe_op op_addA (pm (le_c (c_str k_6)) pe_str) (pm (le_call c_nil) (pe_callX D_ch (hr.mono (by omega)) rfl T.g__law_written (fun σ => passAt (takes_of rfl rfl rfl rfl) σ) (pam le_cons (pa_cons (pm (le_op s_ix) (pe_ix (fk_ixB hr.u1) (pm (le_var 4) (pv 4)) (pm (le_c c_int) pe_int) (fun _ _ => rfl))) (pam le_nil pa_nil))))))) (pm (le_c (c_str k_21)) pe_str)))))))
    (pss_one (psm (le_asg (p := .nm 3)) (pset 3 sc__law_written.nd (pm (le_op s_addA) (pe_op op_addA (pm (le_op s_addA) (pe_op op_addA (pm (le_var 3) (pv 3)) (pm (le_var 6) (pv 6)))) (pm (le_var 5) (pv 5)))))))))))
    (pss_one (psm le_drop (ps_expr (pm (le_bm s_append) (pe_bm PySem.F.plainAttrs_list PySem.F.slot_list_append PySem.F.type_list_append mt_append (pm (le_var 1) (pv 1)) (pam le_cons (pa_cons (pm (le_var 3) (pv 3)) (pam le_nil pa_nil))))))))))))))
    (pss_one (psm le_ret (ps_ret (pm (le_bm s_join) (pe_bm PySem.F.plainAttrs_str PySem.F.slot_str_join PySem.F.type_str_join mt_join (pm (le_c (c_str k_19)) pe_str) (pam le_cons (pa_cons (pm (le_var 1) (pv 1)) (pam le_nil pa_nil)))))))))))), def_ok rfl h⟩, F.bindsN fun _ _ _ _ _ _ us hl => match us, hl with | [_], _ => rfl, isFd_of F⟩, F.kp⟩
theorem ok__law_written {P : Program} {w : World} {K : PySem.W.Frag} {mg : Str → Option Value} {base : Heap} (T : Txt K w mg) (KT : Kt cs0 xs0 K) : ∀ n : Nat, OkD P w K mg base (L2.CX P w) (1 + 1 * n) (He.ga K "_law_written") ["_law_rows"] (spE K (e__law_written n))
  | 0 => by
    obtain ⟨fd, F⟩ := T.f__law_written
    exact ⟨⟨fd, F.ok sc__law_written (fun vs H Q E h => bad_sp h) (fun cdv A outer s H vs Q E hr h => bad_sp h), F.bindsN fun _ _ _ _ _ _ us hl => match us, hl with | [_], _ => rfl, isFd_of F⟩, F.kp⟩
  | n + 1 => by
    have D_ch := ok__law_written (P := P) (w := w) (base := base) T KT n
    have D := ok__law_written1 (l := 1 + 1 * n) (by omega) T KT D_ch
    rw [show 1 + 1 * n + 1 = 1 + 1 * (n + 1) by omega] at D
    exact D
theorem ok__law_pattern {P : Program} {w : World} {K : PySem.W.Frag} {mg : Str → Option Value} {base : Heap} (T : Txt K w mg) (KT : Kt cs0 xs0 K) (D__law_rows_of : OkD P w K mg base (L2.CX P w) 18 (He.ga K "_law_rows_of") ["_law_bag_here", "_law_depth"] (spE K (e__law_rows_of 8))) (D__law_special : OkD P w K mg base (L2.CX P w) 9 (He.ga K "_law_special") ["_law_rows"] (spE K (e__law_special 8))) (D__law_take : OkD P w K mg base (L2.CX P w) 1 (He.ga K "_law_take") ["_law_bag_here", "_law_count"] (spE K e__law_take)) (D__law_written : OkD P w K mg base (L2.CX P w) 9 (He.ga K "_law_written") ["_law_rows"] (spE K (e__law_written 8))) :
    OkD P w K mg base (L2.CX P w) 19 (He.ga K "_law_pattern") ["_law_bag_here"] (spE K e__law_pattern) := by
  obtain ⟨fd, F⟩ := T.f__law_pattern
  exact ⟨⟨fd, F.ok sc__law_pattern (fun vs H Q E h => def_len h) fun cdv A outer s H vs Q E hr h => ⟨tS K ⟨fun cls d _ H => E cls d H, noS⟩ b__law_pattern, (pssm le_seq (pss_cons (psm (le_asg (p := .nm 1)) (pset 1 sc__law_pattern.nd (pm (le_call c_nil) (pe_callX D__law_rows_of (hr.mono (by decide)) rfl T.g__law_rows_of (fun σ => passAt (takes_of rfl rfl rfl rfl) σ) (pam le_cons (pa_cons (pm (le_var 0) (pv 0)) (pam le_cons (pa_cons (pm (le_c c_int) pe_int) (pam le_nil pa_nil)))))))))
    (pssm le_seq (pss_cons (psm le_ifS (ps_if (PW.pt (pwm le_or (pw_or (ptm (fun σ H Q h => le_op s_gtA σ H _ (le_Test σ H Q h)) (pt_cmpR op_gtA (pm (le_call c_nil) (pe_callX D__law_special (hr.mono (by decide)) rfl T.g__law_special (fun σ => passAt (takes_of rfl rfl rfl rfl) σ) (pam le_cons (pa_cons (pm (le_var 1) (pv 1)) (pam le_nil pa_nil))))) (pm (le_c c_int) pe_int) (nomark _))) (pw_or1 (ptm (fun σ H Q h => le_op s_gtA σ H _ (le_Test σ H Q h)) (pt_cmpR op_gtA (pm (le_cb s_len) (pe_callB fk_lenB rfl T.n_len (by decide +kernel) (pam le_cons (pa_cons (pm (le_call c_nil) (pe_callX D__law_written (hr.mono (by decide)) rfl T.g__law_written (fun σ => passAt (takes_of rfl rfl rfl rfl) σ) (pam le_cons (pa_cons (pm (le_var 1) (pv 1)) (pam le_nil pa_nil))))) (pam le_nil pa_nil))))) (pm (le_c c_int) pe_int) (nomark _))))))) (pss_one (psm (le_asg (p := .nm 1)) (pset 1 sc__law_pattern.nd (pm le_lst (pe_lst (pam le_cons (pa_cons (pm le_lst (pe_lst (pam le_cons (pa_cons (pm le_tup (pe_tup (pam le_cons (pa_cons (pm le_tup (pe_tup (pam le_cons (pa_cons (pm (le_c (c_str k_45)) pe_str) (pam le_cons (pa_cons (pm (le_c (c_str k_2)) pe_str) (pam le_cons (pa_cons (pm (le_c c_bl) pe_bl) (pam le_cons (pa_cons (pm (le_c (c_str k_2)) pe_str) (pam le_nil pa_nil))))))))))) (pam le_cons (pa_cons (pm (le_c (c_str k_36)) pe_str) (pam le_nil pa_nil))))))) (pam le_cons (pa_cons (pm le_tup (pe_tup (pam le_cons (pa_cons (pm le_tup (pe_tup (pam le_cons (pa_cons (pm (le_c (c_str k_45)) pe_str) (pam le_cons (pa_cons (pm (le_c (c_str k_43)) pe_str) (pam le_cons (pa_cons (pm (le_c c_bl) pe_bl) (pam le_cons (pa_cons (pm (le_c (c_str k_43)) pe_str) (pam le_nil pa_nil))))))))))) (pam le_cons (pa_cons (pm (le_c (c_str k_0)) pe_str) (pam le_nil pa_nil))))))) (pam le_nil pa_nil))))))) (pam le_nil pa_nil)))))))) (pssm le_next pss_nil)))
    (pssm le_seq (pss_cons (psm (le_asg (p := .nm 2)) (pset 2 sc__law_pattern.nd (pm le_andV (pe_and (pm (le_op s_eq) (pe_cmpR (ok_eq hr.units) (pm (le_cb s_len) (pe_callB fk_lenB rfl T.n_len (by decide +kernel) (pam le_cons (pa_cons (pm (le_var 1) (pv 1)) (pam le_nil pa_nil))))) (pm (le_c c_int) pe_int) (nomark _))) (pe_one (pm (le_op s_eq) (pe_cmpR (ok_eq hr.units) (pm (le_call c_nil) (pe_callX D__law_take (hr.mono (by decide)) rfl T.g__law_take (fun σ => passAt (takes_of rfl rfl rfl rfl) σ) (pam le_cons (pa_cons (pm (le_var 0) (pv 0)) (pam le_cons (pa_cons (pm (le_c c_int) pe_int) (pam le_nil pa_nil))))))) (pm (le_c c_int) pe_int) (nomark _))))))))
    (pss_one (psm le_ret (ps_ret (pm le_tup (pe_tup (pam le_cons (pa_cons (pm (le_var 1) (pv 1)) (pam le_cons (pa_cons (pm (le_var 2) (pv 2)) (pam le_cons (pa_cons (pm (le_op s_addA) (pe_op op_addA (pm (le_call c_nil) (pe_callX D__law_written (hr.mono (by decide)) rfl T.g__law_written (fun σ => passAt (takes_of rfl rfl rfl rfl) σ) (pam le_cons (pa_cons (pm (le_var 1) (pv 1)) (pam le_nil pa_nil))))) (pm (le_op s_mulA) (pe_op op_mulA (pm (le_c (c_str k_22)) pe_str) (pm (le_cb s_int) (pe_callTy fk_int rfl T.n_int (by decide +kernel) (pam le_cons (pa_cons (pm (le_var 2) (pv 2)) (pam le_nil pa_nil))))))))) (pam le_nil pa_nil)))))))))))))))))), def_ok rfl h⟩, F.bindsN fun _ _ _ _ _ _ us hl => match us, hl with | [_], _ => rfl, isFd_of F⟩, F.kp⟩
theorem ok__law_string {P : Program} {w : World} {K : PySem.W.Frag} {mg : Str → Option Value} {base : Heap} (T : Txt K w mg) (KT : Kt cs0 xs0 K) (D__law_pattern : OkD P w K mg base (L2.CX P w) 19 (He.ga K "_law_pattern") ["_law_bag_here"] (spE K e__law_pattern)) (D__law_pick : OkD P w K mg base (L2.CX P w) 2 (He.ga K "_law_pick") ["_law_bag_here", "_law_menu"] (spE K e__law_pick)) (D__law_take : OkD P w K mg base (L2.CX P w) 1 (He.ga K "_law_take") ["_law_bag_here", "_law_count"] (spE K e__law_take)) :
    OkD P w K mg base (L2.CX P w) 20 (He.ga K "_law_string") ["_law_bag_here"] (spE K e__law_string) := by
  obtain ⟨fd, F⟩ := T.f__law_string
  exact ⟨⟨fd, F.ok sc__law_string (fun vs H Q E h => def_len h) fun cdv A outer s H vs Q E hr h => ⟨tS K ⟨fun cls d _ H => E cls d H, noS⟩ b__law_string, (pssm le_seq (pss_cons (psm le_par (ps_par (i := 1) (j := 2) rfl sc__law_string.nd rfl rfl (by decide) rfl rfl (pam le_cons (pa_cons (pm (le_call c_nil) (pe_callX D__law_take (hr.mono (by decide)) rfl T.g__law_take (fun σ => passAt (takes_of rfl rfl rfl rfl) σ) (pam le_cons (pa_cons (pm (le_var 0) (pv 0)) (pam le_cons (pa_cons (pm (le_c c_int) pe_int) (pam le_nil pa_nil))))))) (pam le_cons (pa_cons (pm (le_c (c_str k_0)) pe_str) (pam le_nil pa_nil))))) (by rfl)))
    (pssm le_seq (pss_cons (psm le_ifS (ps_if (ptm (fun σ H Q h => le_op s_eq σ H _ (le_Test σ H Q h)) (pt_cmpR (ok_eq hr.units) (pm (le_var 1) (pv 1)) (pm (le_c c_int) pe_int) (nomark _))) (pssm le_seq (pss_cons (psm (le_forR (p := (.nm 3))) (ps_for (passes_of rfl) rfl (pi_range1 rfl T.n_range (pam le_cons (pa_cons (pm (le_call c_nil) (pe_callX D__law_take (hr.mono (by decide)) rfl T.g__law_take (fun σ => passAt (takes_of rfl rfl rfl rfl) σ) (pam le_cons (pa_cons (pm (le_var 0) (pv 0)) (pam le_cons (pa_cons (pm (le_c c_int) pe_int) (pam le_nil pa_nil))))))) (pam le_nil pa_nil)))) (gn 3 sc__law_string.nd) (pss_one (psm (le_asg (p := .nm 2)) (pset 2 sc__law_string.nd (pm (le_op s_addA) (pe_op op_addA (pm (le_var 2) (pv 2)) (pm (le_call c_nil) (pe_callX D__law_pick (hr.mono (by decide)) rfl T.g__law_pick (fun σ => passAt (takes_of rfl rfl rfl rfl) σ) (pam le_cons (pa_cons (pm (le_var 0) (pv 0)) (pam le_cons (pa_cons (pm (le_c (c_str k_44)) pe_str) (pam le_nil pa_nil))))))))))))))
    (pss_one (psm le_ret (ps_ret (pm (le_var 2) (pv 2))))))) (pssm le_next pss_nil)))
    (pssm le_seq (pss_cons (psm le_ifS (ps_if (ptm (fun σ H Q h => le_op s_eq σ H _ (le_Test σ H Q h)) (pt_cmpR (ok_eq hr.units) (pm (le_var 1) (pv 1)) (pm (le_c c_int) pe_int) (nomark _))) (pssm le_seq (pss_cons (psm (le_forR (p := (.nm 3))) (ps_for (passes_of rfl) rfl (pi_range1 rfl T.n_range (pam le_cons (pa_cons (pm (le_call c_nil) (pe_callX D__law_take (hr.mono (by decide)) rfl T.g__law_take (fun σ => passAt (takes_of rfl rfl rfl rfl) σ) (pam le_cons (pa_cons (pm (le_var 0) (pv 0)) (pam le_cons (pa_cons (pm (le_c c_int) pe_int) (pam le_nil pa_nil))))))) (pam le_nil pa_nil)))) (gn 3 sc__law_string.nd) (pss_one (psm (le_asg (p := .nm 2)) (pset 2 sc__law_string.nd (pm (le_op s_addA) (pe_op op_addA (pm (le_var 2) (pv 2)) (pm (le_call c_nil) (pe_callX D__law_pick (hr.mono (by decide)) rfl T.g__law_pick (fun σ => passAt (takes_of rfl rfl rfl rfl) σ) (pam le_cons (pa_cons (pm (le_var 0) (pv 0)) (pam le_cons (pa_cons (pm le_lst (pe_lst (pam le_cons (pa_cons (pm (le_c (c_str k_2)) pe_str) (pam le_cons (pa_cons (pm (le_c (c_str k_43)) pe_str) (pam le_cons (pa_cons (pm (le_c (c_str k_42)) pe_str) (pam le_cons (pa_cons (pm (le_c (c_str k_41)) pe_str) (pam le_cons (pa_cons (pm (le_c (c_str k_6)) pe_str) (pam le_cons (pa_cons (pm (le_c (c_str k_21)) pe_str) (pam le_cons (pa_cons (pm (le_c (c_str k_19)) pe_str) (pam le_cons (pa_cons (pm (le_c (c_str k_40)) pe_str) (pam le_cons (pa_cons (pm (le_c (c_str k_8)) pe_str) (pam le_cons (pa_cons (pm (le_c (c_str k_39)) pe_str) (pam le_cons (pa_cons (pm (le_c (c_str k_38)) pe_str) (pam le_cons (pa_cons (pm (le_c (c_str k_37)) pe_str) (pam le_nil pa_nil))))))))))))))))))))))))))) (pam le_nil pa_nil))))))))))))))
    (pss_one (psm le_ret (ps_ret (pm (le_var 2) (pv 2))))))) (pssm le_next pss_nil)))
    (pssm le_seq (pss_cons (psm (le_asg (p := .nm 2)) (pset 2 sc__law_string.nd (pm (le_op s_ix) (pe_ix (fk_ixB hr.u1) (pm (le_call c_nil) (pe_callX D__law_pattern (hr.mono (by decide)) rfl T.g__law_pattern (fun σ => passAt (takes_of rfl rfl rfl rfl) σ) (pam le_cons (pa_cons (pm (le_var 0) (pv 0)) (pam le_nil pa_nil))))) (pm (le_c c_int) pe_int) (fun _ _ => rfl)))))
    (pssm le_seq (pss_cons (psm (le_asg (p := .nm 4)) (pset 4 sc__law_string.nd (pm (le_call c_nil) (pe_callX D__law_take (hr.mono (by decide)) rfl T.g__law_take (fun σ => passAt (takes_of rfl rfl rfl rfl) σ) (pam le_cons (pa_cons (pm (le_var 0) (pv 0)) (pam le_cons (pa_cons (pm (le_op s_addA) (pe_op op_addA (pm (le_cb s_len) (pe_callB fk_lenB rfl T.n_len (by decide +kernel) (pam le_cons (pa_cons (pm (le_var 2) (pv 2)) (pam le_nil pa_nil))))) (pm (le_c c_int) pe_int))) (pam le_nil pa_nil)))))))))
    (pssm le_seq (pss_cons (psm (le_asg (p := .nm 5)) (pset 5 sc__law_string.nd (pm (le_call c_nil) (pe_callX D__law_pick (hr.mono (by decide)) rfl T.g__law_pick (fun σ => passAt (takes_of rfl rfl rfl rfl) σ) (pam le_cons (pa_cons (pm (le_var 0) (pv 0)) (pam le_cons (pa_cons (pm le_lst (pe_lst (pam le_cons (pa_cons (pm (le_c (c_str k_0)) pe_str) (pam le_cons (pa_cons (pm (le_c (c_str k_6)) pe_str) (pam le_cons (pa_cons (pm (le_c (c_str k_21)) pe_str) (pam le_cons (pa_cons (pm (le_c (c_str k_36)) pe_str) (pam le_cons (pa_cons (pm (le_c (c_str k_22)) pe_str) (pam le_cons (pa_cons (pm (le_c (c_str k_4)) pe_str) (pam le_cons (pa_cons (pm (le_c (c_str k_9)) pe_str) (pam le_cons (pa_cons (pm (le_c (c_str k_19)) pe_str) (pam le_cons (pa_cons (pm (le_c (c_str k_2)) pe_str) (pam le_cons (pa_cons (pm (le_c (c_str k_31)) pe_str) (pam le_cons (pa_cons (pm (le_c (c_str k_32)) pe_str) (pam le_cons (pa_cons (pm (le_c (c_str k_1)) pe_str) (pam le_nil pa_nil))))))))))))))))))))))))))) (pam le_nil pa_nil)))))))))
    (pss_one (psm le_ret (ps_ret (pm (le_op s_addA) (pe_op op_addA (pm (le_op s_addA) (pe_op op_addA (pm (le_sl s_slU) (pe_slice sl_U (pm (le_var 2) (pv 2)) (pom le_noPart po_none) (pom le_part (po_some (pm (le_var 4) (pv 4)))))) (pm (le_var 5) (pv 5)))) (pm (le_sl s_slU) (pe_slice sl_U (pm (le_var 2) (pv 2)) (pom le_part (po_some (pm (le_op s_addA) (pe_op op_addA (pm (le_var 4) (pv 4)) (pm (le_call c_nil) (pe_callX D__law_take (hr.mono (by decide)) rfl T.g__law_take (fun σ => passAt (takes_of rfl rfl rfl rfl) σ) (pam le_cons (pa_cons (pm (le_var 0) (pv 0)) (pam le_cons (pa_cons (pm (le_c c_int) pe_int) (pam le_nil pa_nil))))))))))) (pom le_noPart po_none)))))))))))))))))))), def_ok rfl h⟩, F.bindsN fun _ _ _ _ _ _ us hl => match us, hl with | [_], _ => rfl, isFd_of F⟩, F.kp⟩
theorem ok_Looker___init__ {P : Program} {w : World} {K : PySem.W.Frag} {mg : Str → Option Value} {base : Heap} (T : Txt K w mg) (KT : Kt cs0 xs0 K) :
    OkD P w K mg base (L2.CX P w) 1 (He.ma K (He.ga K "Looker") "__init__") ["self"] (spE K e_Looker___init__) := by
  obtain ⟨fd, F⟩ := T.f_Looker___init__
  exact ⟨⟨fd, F.ok sc_Looker___init__ (fun vs H Q E h => def_len h) fun cdv A outer s H vs Q E hr h => ⟨tS K ⟨fun cls d _ H => E cls d H, noS⟩ b_Looker___init__, (pssm le_seq (pss_cons (psm (le_putF q_Looker q_mode) (ps_fldC T.cl_Looker T.na_Looker_mode (pm (le_var 0) (pv 0)) (pm (le_c (c_str k_74)) pe_str)))
    (pssm le_seq (pss_cons (psm (le_putF q_Looker q_count) (ps_fldC T.cl_Looker T.na_Looker_count (pm (le_var 0) (pv 0)) (pm (le_c c_int) pe_int)))
    (pssm le_seq (pss_cons (psm (le_putF q_Looker q_special) (ps_fldC T.cl_Looker T.na_Looker_special (pm (le_var 0) (pv 0)) (pm (le_c c_int) pe_int)))
    (pssm le_seq (pss_cons (psm (le_putF q_Looker q_nesting) (ps_fldC T.cl_Looker T.na_Looker_nesting (pm (le_var 0) (pv 0)) (pm (le_c c_int) pe_int)))
    (pssm le_seq (pss_cons (psm (le_putF q_Looker q_is_piece) (ps_fldC T.cl_Looker T.na_Looker_is_piece (pm (le_var 0) (pv 0)) (pm (le_c c_bl) pe_bl)))
    (pssm le_seq (pss_cons (psm (le_putF q_Looker q_is_split) (ps_fldC T.cl_Looker T.na_Looker_is_split (pm (le_var 0) (pv 0)) (pm (le_c c_bl) pe_bl)))
    (pss_one (psm (le_putF q_Looker q_first) (ps_fldC T.cl_Looker T.na_Looker_first (pm (le_var 0) (pv 0)) (pm (le_c (c_str k_0)) pe_str)))))))))))))))), def_ok rfl h⟩, F.bindsN fun _ _ _ _ _ _ us hl => match us, hl with | [_], _ => rfl, isFd_of F⟩, F.kp⟩
theorem ok_Looker_needed {P : Program} {w : World} {K : PySem.W.Frag} {mg : Str → Option Value} {base : Heap} (T : Txt K w mg) (KT : Kt cs0 xs0 K) :
    OkD P w K mg base (L2.CX P w) 1 (He.ma K (He.ga K "Looker") "needed") ["self"] (spE K e_Looker_needed) := by
  obtain ⟨fd, F⟩ := T.f_Looker_needed
  exact ⟨⟨fd, F.ok sc_Looker_needed (fun vs H Q E h => def_len h) fun cdv A outer s H vs Q E hr h => ⟨tS K ⟨fun cls d _ H => E cls d H, noS⟩ b_Looker_needed, (pss_one (psm le_ret (ps_ret (pm (le_op s_addA) (pe_op op_addA (pm (le_fld q_Looker q_nesting) (pe_fldC T.cl_Looker T.na_Looker_nesting (pm (le_var 0) (pv 0)))) (pm (le_kd T.kd_NEEDED (fr_cons k_74 c_int (fr_cons k_80 c_int (fr_cons k_79 c_int (fr_cons k_78 c_int (fr_cons k_77 c_int (fr_cons k_76 c_int (fr_cons k_75 c_int (fr_cons k_23 c_int fr_nil))))))))) (pe_ix ix_kdict (pe_gr rfl T.g_NEEDED) (pm (le_fld q_Looker q_mode) (pe_fldC T.cl_Looker T.na_Looker_mode (pm (le_var 0) (pv 0)))) (fun _ _ => rfl)))))))), def_ok rfl h⟩, F.bindsN fun _ _ _ _ _ _ us hl => match us, hl with | [_], _ => rfl, isFd_of F⟩, F.kp⟩
theorem ok_Looker_close_atom {P : Program} {w : World} {K : PySem.W.Frag} {mg : Str → Option Value} {base : Heap} (T : Txt K w mg) (KT : Kt cs0 xs0 K) :
    OkD P w K mg base (L2.CX P w) 1 (He.ma K (He.ga K "Looker") "close_atom") ["self", "mode", "is_right"] (spE K e_Looker_close_atom) := by
  obtain ⟨fd, F⟩ := T.f_Looker_close_atom
  exact ⟨⟨fd, F.ok sc_Looker_close_atom (fun vs H Q E h => def_len h) fun cdv A outer s H vs Q E hr h => ⟨tS K ⟨fun cls d _ H => E cls d H, noS⟩ b_Looker_close_atom, (pssm le_seq (pss_cons (psm (le_putF q_Looker q_mode) (ps_fldC T.cl_Looker T.na_Looker_mode (pm (le_var 0) (pv 0)) (pm (le_var 1) (pv 1))))
    (pssm le_seq (pss_cons (psm (le_putF q_Looker q_is_piece) (ps_fldC T.cl_Looker T.na_Looker_is_piece (pm (le_var 0) (pv 0)) (pm (le_c c_bl) pe_bl)))
    (pss_one (psm le_ret (ps_ret (pm (le_var 2) (pv 2))))))))), def_ok rfl h⟩, F.bindsN fun _ _ _ _ _ _ us hl => match us, hl with | [_, _, _], _ => rfl, isFd_of F⟩, F.kp⟩
theorem ok_run_of {P : Program} {w : World} {K : PySem.W.Frag} {mg : Str → Option Value} {base : Heap} (T : Txt K w mg) (KT : Kt cs0 xs0 K) :
    OkD P w K mg base (L2.CX P w) 1 (He.ga K "run_of") ["sign"] (spE K e_run_of) := by
  obtain ⟨fd, F⟩ := T.f_run_of
  exact ⟨⟨fd, F.ok sc_run_of (fun vs H Q E h => def_len h) fun cdv A outer s H vs Q E hr h => ⟨tS K ⟨fun cls d _ H => E cls d H, noS⟩ b_run_of, (pssm le_seq (pss_cons (psm (le_forT (p := (.nm 1))) (ps_for (passes_of rfl) rfl (pi_tup (pm (le_c (c_wtp T.t_RUNS (c_cons (c_str k_35) (c_cons (c_str k_34) (c_cons (c_str k_33) c_nil))))) (pe_gr rfl T.g_RUNS))) (gn 1 sc_run_of.nd) (pss_one (psm le_ifS (ps_if (ptm (fun σ H Q h => le_op s_in2 σ H _ (le_Test σ H Q h)) (pt_cmpR (fk_inB hr.u65) (pm (le_var 0) (pv 0)) (pm (le_var 1) (pv 1)) rfl)) (pss_one (psm le_ret (ps_ret (pm (le_var 1) (pv 1))))) (pssm le_next pss_nil))))))
    (pss_one (psm le_ret (ps_ret (pm (le_c (c_str k_0)) pe_str)))))), def_ok rfl h⟩, F.bindsN fun _ _ _ _ _ _ us hl => match us, hl with | [_], _ => rfl, isFd_of F⟩, F.kp⟩
theorem ok_Looker_take_in_class {P : Program} {w : World} {K : PySem.W.Frag} {mg : Str → Option Value} {base : Heap} (T : Txt K w mg) (KT : Kt cs0 xs0 K) (D_Looker_close_atom : OkD P w K mg base (L2.CX P w) 1 (He.ma K (He.ga K "Looker") "close_atom") ["self", "mode", "is_right"] (spE K e_Looker_close_atom)) (D_run_of : OkD P w K mg base (L2.CX P w) 1 (He.ga K "run_of") ["sign"] (spE K e_run_of)) :
    OkD P w K mg base (L2.CX P w) 2 (He.ma K (He.ga K "Looker") "take_in_class") ["self", "sign"] (spE K e_Looker_take_in_class) := by
  obtain ⟨fd, F⟩ := T.f_Looker_take_in_class
  exact ⟨⟨fd, F.ok sc_Looker_take_in_class (fun vs H Q E h => def_len h) fun cdv A outer s H vs Q E hr h => ⟨tS K ⟨fun cls d _ H => E cls d H, noS⟩ b_Looker_take_in_class, (pssm le_seq (pss_cons (psm le_ifS (ps_if (PW.pt (pwm le_and (pw_and (ptm (fun σ H Q h => le_op s_eq σ H _ (le_Test σ H Q h)) (pt_cmpR (ok_eq hr.units) (pm (le_fld q_Looker q_mode) (pe_fldC T.cl_Looker T.na_Looker_mode (pm (le_var 0) (pv 0)))) (pm (le_c (c_str k_79)) pe_str) (nomark _))) (pw_and1 (ptm (fun σ H Q h => le_op s_eq σ H _ (le_Test σ H Q h)) (pt_cmpR (ok_eq hr.units) (pm (le_var 1) (pv 1)) (pm (le_c (c_str k_32)) pe_str) (nomark _))))))) (pssm le_seq (pss_cons (psm (le_putF q_Looker q_mode) (ps_fldC T.cl_Looker T.na_Looker_mode (pm (le_var 0) (pv 0)) (pm (le_c (c_str k_78)) pe_str)))
    (pss_one (psm le_ret (ps_ret (pm (le_c c_bl) pe_bl)))))) (pssm le_next pss_nil)))
    (pssm le_seq (pss_cons (psm le_ifS (ps_if (PW.pt (pwm le_and (pw_and (ptm (fun σ H Q h => le_op s_in2 σ H _ (le_Test σ H Q h)) (pt_cmpR (fk_inB hr.u65) (pm (le_fld q_Looker q_mode) (pe_fldC T.cl_Looker T.na_Looker_mode (pm (le_var 0) (pv 0)))) (pm le_tup (pe_tup (pam le_cons (pa_cons (pm (le_c (c_str k_77)) pe_str) (pam le_cons (pa_cons (pm (le_c (c_str k_76)) pe_str) (pam le_nil pa_nil))))))) rfl)) (pw_and1 (ptm (fun σ H Q h => le_op s_eq σ H _ (le_Test σ H Q h)) (pt_cmpR (ok_eq hr.units) (pm (le_var 1) (pv 1)) (pm (le_c (c_str k_9)) pe_str) (nomark _))))))) (pss_one (psm le_ret (ps_ret (pm (le_meth q_Looker q_close_atom c_nil) (pe_methX (pm (le_var 0) (pv 0)) T.cl_Looker T.me_Looker_close_atom D_Looker_close_atom (hr.mono (by decide)) (fun σ => passAt (takes_of rfl rfl rfl rfl) σ) (pam le_cons (pa_cons (pm (le_c (c_str k_74)) pe_str) (pam le_cons (pa_cons (pm (le_c c_bl) pe_bl) (pam le_nil pa_nil)))))))))) (pssm le_next pss_nil)))
    (pssm le_seq (pss_cons (psm le_ifS (ps_if (PW.pt (pwm le_and (pw_and (ptm (fun σ H Q h => le_op s_eq σ H _ (le_Test σ H Q h)) (pt_cmpR (ok_eq hr.units) (pm (le_fld q_Looker q_mode) (pe_fldC T.cl_Looker T.na_Looker_mode (pm (le_var 0) (pv 0)))) (pm (le_c (c_str k_77)) pe_str) (nomark _))) (pw_and1 (ptm (fun σ H Q h => le_op s_eq σ H _ (le_Test σ H Q h)) (pt_cmpR (ok_eq hr.units) (pm (le_var 1) (pv 1)) (pm (le_c (c_str k_31)) pe_str) (nomark _))))))) (pssm le_seq (pss_cons (psm (le_putF q_Looker q_mode) (ps_fldC T.cl_Looker T.na_Looker_mode (pm (le_var 0) (pv 0)) (pm (le_c (c_str k_75)) pe_str)))
    (pss_one (psm le_ret (ps_ret (pm le_andV (pe_and (pm (le_op s_ne) (pe_cmpR (ok_ne hr.units) (pm (le_call c_nil) (pe_callX D_run_of (hr.mono (by decide)) rfl T.g_run_of (fun σ => passAt (takes_of rfl rfl rfl rfl) σ) (pam le_cons (pa_cons (pm (le_fld q_Looker q_first) (pe_fldC T.cl_Looker T.na_Looker_first (pm (le_var 0) (pv 0)))) (pam le_nil pa_nil))))) (pm (le_c (c_str k_0)) pe_str) (nomark _))) (pe_one (pm (le_op s_ne) (pe_cmpR (ok_ne hr.units) (pm (le_op s_ix) (pe_ix (fk_ixB hr.u1) (pm (le_call c_nil) (pe_callX D_run_of (hr.mono (by decide)) rfl T.g_run_of (fun σ => passAt (takes_of rfl rfl rfl rfl) σ) (pam le_cons (pa_cons (pm (le_fld q_Looker q_first) (pe_fldC T.cl_Looker T.na_Looker_first (pm (le_var 0) (pv 0)))) (pam le_nil pa_nil))))) (pm (le_un s_neg) (pe_un un_neg (pm (le_c c_int) pe_int))) (fun _ _ => rfl))) (pm (le_fld q_Looker q_first) (pe_fldC T.cl_Looker T.na_Looker_first (pm (le_var 0) (pv 0)))) (nomark _))))))))))) (pssm le_next pss_nil)))
    (pssm le_seq (pss_cons (psm le_asgT (ps_asg (pm le_tup (pe_tup (pam le_cons (pa_cons (pm (le_c (c_str k_77)) pe_str) (pam le_cons (pa_cons (pm (le_var 1) (pv 1)) (pam le_nil pa_nil))))))) (pg_tup rfl (pgs_cons (gT_fld q_Looker q_mode (pg_fldX T.cl_Looker T.na_Looker_mode (pm (le_var 0) (pv 0)))) (pgs_cons (gT_fld q_Looker q_first (pg_fldX T.cl_Looker T.na_Looker_first (pm (le_var 0) (pv 0)))) pgs_nil)))))
    (pss_one (psm le_ret (ps_ret (pm (le_op s_in2) (pe_cmpR (fk_inB hr.u65) (pm (le_var 1) (pv 1)) (pm (le_c (c_str k_82)) (pe_gs rfl T.c_CLASS_SIGNS)) rfl))))))))))))), def_ok rfl h⟩, F.bindsN fun _ _ _ _ _ _ us hl => match us, hl with | [_, _], _ => rfl, isFd_of F⟩, F.kp⟩
theorem ok_Looker_take_atom {P : Program} {w : World} {K : PySem.W.Frag} {mg : Str → Option Value} {base : Heap} (T : Txt K w mg) (KT : Kt cs0 xs0 K) (D_Looker_close_atom : OkD P w K mg base (L2.CX P w) 1 (He.ma K (He.ga K "Looker") "close_atom") ["self", "mode", "is_right"] (spE K e_Looker_close_atom)) :
    OkD P w K mg base (L2.CX P w) 2 (He.ma K (He.ga K "Looker") "take_atom") ["self", "sign"] (spE K e_Looker_take_atom) := by
  obtain ⟨fd, F⟩ := T.f_Looker_take_atom
  exact ⟨⟨fd, F.ok sc_Looker_take_atom (fun vs H Q E h => def_len h) fun cdv A outer s H vs Q E hr h => ⟨tS K ⟨fun cls d _ H => E cls d H, noS⟩ b_Looker_take_atom, (pssm le_seq (pss_cons (psm le_ifS (ps_if (ptm (fun σ H Q h => le_op s_in2 σ H _ (le_Test σ H Q h)) (pt_cmpR (fk_inB hr.u65) (pm (le_var 1) (pv 1)) (pm le_tup (pe_tup (pam le_cons (pa_cons (pm (le_c (c_str k_4)) pe_str) (pam le_cons (pa_cons (pm (le_c (c_str k_1)) pe_str) (pam le_nil pa_nil))))))) rfl)) (pssm le_seq (pss_cons (psm (le_putF q_Looker q_mode) (ps_fldC T.cl_Looker T.na_Looker_mode (pm (le_var 0) (pv 0)) (pm le_if (pe_ifExp (ptm (fun σ H Q h => le_op s_eq σ H _ (le_Test σ H Q h)) (pt_cmpR (ok_eq hr.units) (pm (le_var 1) (pv 1)) (pm (le_c (c_str k_4)) pe_str) (nomark _))) (pm (le_c (c_str k_79)) pe_str) (pm (le_c (c_str k_80)) pe_str)))))
    (pss_one (psm le_ret (ps_ret (pm (le_c c_bl) pe_bl)))))) (pssm le_next pss_nil)))
    (pssm le_seq (pss_cons (psm le_ifS (ps_if (ptm (fun σ H Q h => le_op s_eq σ H _ (le_Test σ H Q h)) (pt_cmpR (ok_eq hr.units) (pm (le_var 1) (pv 1)) (pm (le_c (c_str k_6)) pe_str) (nomark _))) (pssm le_seq (pss_cons (psm (le_augF s_iadd q_Looker q_nesting T.cl_Looker T.na_Looker_nesting) (ps_fldaug (pm (le_var 0) (pv 0)) (pm (le_c c_int) pe_int) iop_iadd))
    (pssm le_seq (pss_cons (psm (le_putF q_Looker q_is_piece) (ps_fldC T.cl_Looker T.na_Looker_is_piece (pm (le_var 0) (pv 0)) (pm (le_c c_bl) pe_bl)))
    (pss_one (psm le_ret (ps_ret (pm (le_op s_leA) (pe_cmpR op_leA (pm (le_fld q_Looker q_nesting) (pe_fldC T.cl_Looker T.na_Looker_nesting (pm (le_var 0) (pv 0)))) (pm (le_c c_int) (pe_gi rfl T.c_MOST_DEPTH)) (nomark _)))))))))) (pssm le_next pss_nil)))
    (pssm le_seq (pss_cons (psm le_ifS (ps_if (ptm (fun σ H Q h => le_op s_eq σ H _ (le_Test σ H Q h)) (pt_cmpR (ok_eq hr.units) (pm (le_var 1) (pv 1)) (pm (le_c (c_str k_21)) pe_str) (nomark _))) (pssm le_seq (pss_cons (psm (le_augF s_isub q_Looker q_nesting T.cl_Looker T.na_Looker_nesting) (ps_fldaug (pm (le_var 0) (pv 0)) (pm (le_c c_int) pe_int) iop_isub))
    (pss_one (psm le_ret (ps_ret (pm (le_meth q_Looker q_close_atom c_nil) (pe_methX (pm (le_var 0) (pv 0)) T.cl_Looker T.me_Looker_close_atom D_Looker_close_atom (hr.mono (by decide)) (fun σ => passAt (takes_of rfl rfl rfl rfl) σ) (pam le_cons (pa_cons (pm (le_c (c_str k_74)) pe_str) (pam le_cons (pa_cons (pm (le_op s_geA) (pe_cmpR op_geA (pm (le_fld q_Looker q_nesting) (pe_fldC T.cl_Looker T.na_Looker_nesting (pm (le_var 0) (pv 0)))) (pm (le_c c_int) pe_int) (nomark _))) (pam le_nil pa_nil)))))))))))) (pssm le_next pss_nil)))
    (pss_one (psm le_ret (ps_ret (pm (le_meth q_Looker q_close_atom c_nil) (pe_methX (pm (le_var 0) (pv 0)) T.cl_Looker T.me_Looker_close_atom D_Looker_close_atom (hr.mono (by decide)) (fun σ => passAt (takes_of rfl rfl rfl rfl) σ) (pam le_cons (pa_cons (pm (le_c (c_str k_74)) pe_str) (pam le_cons (pa_cons (pm le_orV (pe_or (pm (le_op s_eq) (pe_cmpR (ok_eq hr.units) (pm (le_var 1) (pv 1)) (pm (le_c (c_str k_39)) pe_str) (nomark _))) (pe_one (pm (le_op s_notIn2) (pe_cmpR (fk_notInB hr.u65) (pm (le_var 1) (pv 1)) (pm (le_c (c_str k_27)) (pe_gs rfl T.c_MARKED)) rfl))))) (pam le_nil pa_nil)))))))))))))))), def_ok rfl h⟩, F.bindsN fun _ _ _ _ _ _ us hl => match us, hl with | [_, _], _ => rfl, isFd_of F⟩, F.kp⟩
theorem ok_Looker_take_sign {P : Program} {w : World} {K : PySem.W.Frag} {mg : Str → Option Value} {base : Heap} (T : Txt K w mg) (KT : Kt cs0 xs0 K) (D_Looker_take_atom : OkD P w K mg base (L2.CX P w) 2 (He.ma K (He.ga K "Looker") "take_atom") ["self", "sign"] (spE K e_Looker_take_atom)) :
    OkD P w K mg base (L2.CX P w) 3 (He.ma K (He.ga K "Looker") "take_sign") ["self", "sign"] (spE K e_Looker_take_sign) := by
  obtain ⟨fd, F⟩ := T.f_Looker_take_sign
  exact ⟨⟨fd, F.ok sc_Looker_take_sign (fun vs H Q E h => def_len h) fun cdv A outer s H vs Q E hr h => ⟨tS K ⟨fun cls d _ H => E cls d H, noS⟩ b_Looker_take_sign, (pssm le_seq (pss_cons (psm le_ifS (ps_if (ptm (fun σ H Q h => le_op s_in2 σ H _ (le_Test σ H Q h)) (pt_cmpR (fk_inB hr.u65) (pm (le_var 1) (pv 1)) (pm (le_c (c_str k_26)) (pe_gs rfl T.c_SPECIAL)) rfl)) (pssm le_seq (pss_cons (psm (le_augF s_iadd q_Looker q_special T.cl_Looker T.na_Looker_special) (ps_fldaug (pm (le_var 0) (pv 0)) (pm (le_c c_int) pe_int) iop_iadd))
    (pss_one (psm le_ifS (ps_if (ptm (fun σ H Q h => le_op s_gtA σ H _ (le_Test σ H Q h)) (pt_cmpR op_gtA (pm (le_fld q_Looker q_special) (pe_fldC T.cl_Looker T.na_Looker_special (pm (le_var 0) (pv 0)))) (pm (le_c c_int) (pe_gi rfl T.c_MOST_SPECIAL)) (nomark _))) (pss_one (psm le_ret (ps_ret (pm (le_c c_bl) pe_bl)))) (pssm le_next pss_nil)))))) (pssm le_next pss_nil)))
    (pssm le_seq (pss_cons (psm le_ifS (ps_if (ptm (fun σ H Q h => le_op s_in2 σ H _ (le_Test σ H Q h)) (pt_cmpR (fk_inB hr.u65) (pm (le_var 1) (pv 1)) (pm (le_c (c_str k_24)) (pe_gs rfl T.c_REPEATS)) rfl)) (pssm le_seq (pss_cons (psm le_asgT (ps_asg (pm le_tup (pe_tup (pam le_cons (pa_cons (pm (le_fld q_Looker q_is_piece) (pe_fldC T.cl_Looker T.na_Looker_is_piece (pm (le_var 0) (pv 0)))) (pam le_cons (pa_cons (pm (le_c c_bl) pe_bl) (pam le_nil pa_nil))))))) (pg_tup rfl (pgs_cons (gT_nm (gn 2 sc_Looker_take_sign.nd)) (pgs_cons (gT_fld q_Looker q_is_piece (pg_fldX T.cl_Looker T.na_Looker_is_piece (pm (le_var 0) (pv 0)))) pgs_nil)))))
    (pss_one (psm le_ret (ps_ret (pm (le_var 2) (pv 2))))))) (pssm le_next pss_nil)))
    (pssm le_seq (pss_cons (psm le_ifS (ps_if (ptm (fun σ H Q h => le_op s_eq σ H _ (le_Test σ H Q h)) (pt_cmpR (ok_eq hr.units) (pm (le_var 1) (pv 1)) (pm (le_c (c_str k_19)) pe_str) (nomark _))) (pssm le_seq (pss_cons (psm (le_putF q_Looker q_is_split) (ps_fldC T.cl_Looker T.na_Looker_is_split (pm (le_var 0) (pv 0)) (pm le_orV (pe_or (pm (le_fld q_Looker q_is_split) (pe_fldC T.cl_Looker T.na_Looker_is_split (pm (le_var 0) (pv 0)))) (pe_one (pm (le_op s_eq) (pe_cmpR (ok_eq hr.units) (pm (le_fld q_Looker q_nesting) (pe_fldC T.cl_Looker T.na_Looker_nesting (pm (le_var 0) (pv 0)))) (pm (le_c c_int) pe_int) (nomark _))))))))
    (pssm le_seq (pss_cons (psm (le_putF q_Looker q_is_piece) (ps_fldC T.cl_Looker T.na_Looker_is_piece (pm (le_var 0) (pv 0)) (pm (le_c c_bl) pe_bl)))
    (pss_one (psm le_ret (ps_ret (pm (le_c c_bl) pe_bl)))))))) (pssm le_next pss_nil)))
    (pssm le_seq (pss_cons (psm le_ifS (ps_if (ptm (fun σ H Q h => le_op s_eq σ H _ (le_Test σ H Q h)) (pt_cmpR (ok_eq hr.units) (pm (le_var 1) (pv 1)) (pm (le_c (c_str k_22)) (pe_gs rfl T.c_WHOLE_END)) (nomark _))) (pssm le_seq (pss_cons (psm (le_putF q_Looker q_mode) (ps_fldC T.cl_Looker T.na_Looker_mode (pm (le_var 0) (pv 0)) (pm (le_c (c_str k_23)) pe_str)))
    (pss_one (psm le_ret (ps_ret (pm le_andV (pe_and (pm (le_op s_eq) (pe_cmpR (ok_eq hr.units) (pm (le_fld q_Looker q_nesting) (pe_fldC T.cl_Looker T.na_Looker_nesting (pm (le_var 0) (pv 0)))) (pm (le_c c_int) pe_int) (nomark _))) (pe_one (pm le_notV (pe_not (pm (le_fld q_Looker q_is_split) (pe_fldC T.cl_Looker T.na_Looker_is_split (pm (le_var 0) (pv 0)))))))))))))) (pssm le_next pss_nil)))
    (pss_one (psm le_ret (ps_ret (pm (le_meth q_Looker q_take_atom c_nil) (pe_methX (pm (le_var 0) (pv 0)) T.cl_Looker T.me_Looker_take_atom D_Looker_take_atom (hr.mono (by decide)) (fun σ => passAt (takes_of rfl rfl rfl rfl) σ) (pam le_cons (pa_cons (pm (le_var 1) (pv 1)) (pam le_nil pa_nil)))))))))))))))), def_ok rfl h⟩, F.bindsN fun _ _ _ _ _ _ us hl => match us, hl with | [_, _], _ => rfl, isFd_of F⟩, F.kp⟩
theorem ok_Looker_take_in_mode {P : Program} {w : World} {K : PySem.W.Frag} {mg : Str → Option Value} {base : Heap} (T : Txt K w mg) (KT : Kt cs0 xs0 K) (D_Looker_close_atom : OkD P w K mg base (L2.CX P w) 1 (He.ma K (He.ga K "Looker") "close_atom") ["self", "mode", "is_right"] (spE K e_Looker_close_atom)) (D_Looker_take_in_class : OkD P w K mg base (L2.CX P w) 2 (He.ma K (He.ga K "Looker") "take_in_class") ["self", "sign"] (spE K e_Looker_take_in_class)) (D_Looker_take_sign : OkD P w K mg base (L2.CX P w) 3 (He.ma K (He.ga K "Looker") "take_sign") ["self", "sign"] (spE K e_Looker_take_sign)) (D_run_of : OkD P w K mg base (L2.CX P w) 1 (He.ga K "run_of") ["sign"] (spE K e_run_of)) :
    OkD P w K mg base (L2.CX P w) 4 (He.ma K (He.ga K "Looker") "take_in_mode") ["self", "sign"] (spE K e_Looker_take_in_mode) := by
  obtain ⟨fd, F⟩ := T.f_Looker_take_in_mode
  exact ⟨⟨fd, F.ok sc_Looker_take_in_mode (fun vs H Q E h => def_len h) fun cdv A outer s H vs Q E hr h => ⟨tS K ⟨fun cls d _ H => E cls d H, noS⟩ b_Looker_take_in_mode, (pss_one (psm le_match (ps_match (pm (le_fld q_Looker q_mode) (pe_fldC T.cl_Looker T.na_Looker_mode (pm (le_var 0) (pv 0)))) (pms_cons k_74 (pss_one (psm le_ret (ps_ret (pm (le_meth q_Looker q_take_sign c_nil) (pe_methX (pm (le_var 0) (pv 0)) T.cl_Looker T.me_Looker_take_sign D_Looker_take_sign (hr.mono (by decide)) (fun σ => passAt (takes_of rfl rfl rfl rfl) σ) (pam le_cons (pa_cons (pm (le_var 1) (pv 1)) (pam le_nil pa_nil))))))))
    (pms_cons k_80 (pss_one (psm le_ret (ps_ret (pm (le_meth q_Looker q_close_atom c_nil) (pe_methX (pm (le_var 0) (pv 0)) T.cl_Looker T.me_Looker_close_atom D_Looker_close_atom (hr.mono (by decide)) (fun σ => passAt (takes_of rfl rfl rfl rfl) σ) (pam le_cons (pa_cons (pm (le_c (c_str k_74)) pe_str) (pam le_cons (pa_cons (pm (le_op s_in2) (pe_cmpR (fk_inB hr.u65) (pm (le_var 1) (pv 1)) (pm (le_c (c_str k_27)) (pe_gs rfl T.c_MARKED)) rfl)) (pam le_nil pa_nil))))))))))
    (pms_cons k_23 (pss_one (psm le_ret (ps_ret (pm (le_c c_bl) pe_bl))))
    (pms_cons k_75 (pssm le_seq (pss_cons (psm (le_asg (p := .nm 2)) (pset 2 sc_Looker_take_in_mode.nd (pm (le_call c_nil) (pe_callX D_run_of (hr.mono (by decide)) rfl T.g_run_of (fun σ => passAt (takes_of rfl rfl rfl rfl) σ) (pam le_cons (pa_cons (pm (le_fld q_Looker q_first) (pe_fldC T.cl_Looker T.na_Looker_first (pm (le_var 0) (pv 0)))) (pam le_nil pa_nil)))))))
    (pss_one (psm le_ret (ps_ret (pm (le_meth q_Looker q_close_atom c_nil) (pe_methX (pm (le_var 0) (pv 0)) T.cl_Looker T.me_Looker_close_atom D_Looker_close_atom (hr.mono (by decide)) (fun σ => passAt (takes_of rfl rfl rfl rfl) σ) (pam le_cons (pa_cons (pm (le_c (c_str k_76)) pe_str) (pam le_cons (pa_cons (pm le_andV (pe_and (pm (le_op s_in2) (pe_cmpR (fk_inB hr.u65) (pm (le_var 1) (pv 1)) (pm (le_var 2) (pv 2)) rfl)) (pe_one (pm (le_op s_ltA) (pe_cmpR op_ltA (pm (le_fld q_Looker q_first) (pe_fldC T.cl_Looker T.na_Looker_first (pm (le_var 0) (pv 0)))) (pm (le_var 1) (pv 1)) (nomark _)))))) (pam le_nil pa_nil))))))))))))
    (pms_any (pss_one (psm le_ret (ps_ret (pm (le_meth q_Looker q_take_in_class c_nil) (pe_methX (pm (le_var 0) (pv 0)) T.cl_Looker T.me_Looker_take_in_class D_Looker_take_in_class (hr.mono (by decide)) (fun σ => passAt (takes_of rfl rfl rfl rfl) σ) (pam le_cons (pa_cons (pm (le_var 1) (pv 1)) (pam le_nil pa_nil)))))))))))))))), def_ok rfl h⟩, F.bindsN fun _ _ _ _ _ _ us hl => match us, hl with | [_, _], _ => rfl, isFd_of F⟩, F.kp⟩
theorem ok_Looker_take {P : Program} {w : World} {K : PySem.W.Frag} {mg : Str → Option Value} {base : Heap} (T : Txt K w mg) (KT : Kt cs0 xs0 K) (D_Looker_take_in_mode : OkD P w K mg base (L2.CX P w) 4 (He.ma K (He.ga K "Looker") "take_in_mode") ["self", "sign"] (spE K e_Looker_take_in_mode)) :
    OkD P w K mg base (L2.CX P w) 5 (He.ma K (He.ga K "Looker") "take") ["self", "sign"] (spE K e_Looker_take) := by
  obtain ⟨fd, F⟩ := T.f_Looker_take
  exact ⟨⟨fd, F.ok sc_Looker_take (fun vs H Q E h => def_len h) fun cdv A outer s H vs Q E hr h => ⟨tS K ⟨fun cls d _ H => E cls d H, noS⟩ b_Looker_take, (pssm le_seq (pss_cons (psm (le_augF s_iadd q_Looker q_count T.cl_Looker T.na_Looker_count) (ps_fldaug (pm (le_var 0) (pv 0)) (pm (le_c c_int) pe_int) iop_iadd))
    (pss_one (psm le_ret (ps_ret (pm le_andV (pe_and (pm (le_op s_leA) (pe_cmpR op_leA (pm (le_fld q_Looker q_count) (pe_fldC T.cl_Looker T.na_Looker_count (pm (le_var 0) (pv 0)))) (pm (le_c c_int) (pe_gi rfl T.c_MOST_SIGNS)) (nomark _))) (pm le_andV (pe_and (pm (le_op s_in2) (pe_cmpR (fk_inB hr.u65) (pm (le_var 1) (pv 1)) (pm (le_c (c_str k_81)) (pe_gs rfl T.c_ALPHABET)) rfl)) (pe_one (pm (le_meth q_Looker q_take_in_mode c_nil) (pe_methX (pm (le_var 0) (pv 0)) T.cl_Looker T.me_Looker_take_in_mode D_Looker_take_in_mode (hr.mono (by decide)) (fun σ => passAt (takes_of rfl rfl rfl rfl) σ) (pam le_cons (pa_cons (pm (le_var 1) (pv 1)) (pam le_nil pa_nil))))))))))))))), def_ok rfl h⟩, F.bindsN fun _ _ _ _ _ _ us hl => match us, hl with | [_, _], _ => rfl, isFd_of F⟩, F.kp⟩
theorem ok_pattern_error {P : Program} {w : World} {K : PySem.W.Frag} {mg : Str → Option Value} {base : Heap} (T : Txt K w mg) (KT : Kt cs0 xs0 K) (D_Looker___init__ : OkD P w K mg base (L2.CX P w) 1 (He.ma K (He.ga K "Looker") "__init__") ["self"] (spE K e_Looker___init__)) (D_Looker_needed : OkD P w K mg base (L2.CX P w) 1 (He.ma K (He.ga K "Looker") "needed") ["self"] (spE K e_Looker_needed)) (D_Looker_take : OkD P w K mg base (L2.CX P w) 5 (He.ma K (He.ga K "Looker") "take") ["self", "sign"] (spE K e_Looker_take)) :
    OkD P w K mg base (L2.CX P w) 6 (He.ga K "pattern_error") ["text"] (spE K e_pattern_error) := by
  obtain ⟨fd, F⟩ := T.f_pattern_error
  exact ⟨⟨fd, F.ok sc_pattern_error (fun vs H Q E h => def_len (fr_ok h)) fun cdv A outer s H vs Q E hr h => ⟨tS K ⟨fun cls d _ H => E cls d H, noS⟩ b_pattern_error, (pssm le_seq (pss_cons (psm (le_asg (p := .nm 1)) (pset 1 sc_pattern_error.nd (pm (le_make0 q_Looker c_nil) (pe_makeX0 T.mk_Looker D_Looker___init__ (hr.mono (by decide)) rfl T.g_Looker (fun σ => passAt (takes_of rfl rfl rfl rfl) σ)))))
    (pssm le_seq (pss_cons (psm (le_forES (p := (.tup (.cons (.nm 2) (.cons (.nm 3) .nil))))) (ps_for (passes_of rfl) rfl (pi_enumS rfl T.n_enumerate (pam le_cons (pa_cons (pm (le_var 0) (pv 0)) (pam le_nil pa_nil)))) (pg_tup rfl (pgs_cons (gn 2 sc_pattern_error.nd) (pgs_cons (gn 3 sc_pattern_error.nd) pgs_nil))) (pss_one (psm le_ifS (ps_if (ptm le_not (pt_not (ptm le_B (pt_val (pm (le_meth q_Looker q_take c_nil) (pe_methX (pm (le_var 1) (pv 1)) T.cl_Looker T.me_Looker_take D_Looker_take (hr.mono (by decide)) (fun σ => passAt (takes_of rfl rfl rfl rfl) σ) (pam le_cons (pa_cons (pm (le_var 3) (pv 3)) (pam le_nil pa_nil))))))))) (pss_one (psm le_ret (ps_ret (pm (le_var 2) (pv 2))))) (pssm le_next pss_nil))))))
    (pss_one (psm le_ret (ps_ret (pm le_if (pe_ifExp (ptm (fun σ H Q h => le_op s_eq σ H _ (le_Test σ H Q h)) (pt_cmpR (ok_eq hr.units) (pm (le_meth q_Looker q_needed c_nil) (pam0 le_nil (pe_methX0 (pm (le_var 1) (pv 1)) T.cl_Looker T.me_Looker_needed D_Looker_needed (hr.mono (by decide)) (fun σ => passAt (takes_of rfl rfl rfl rfl) σ)))) (pm (le_c c_int) pe_int) (nomark _))) (pm (le_c c_non) pe_non) (pm (le_cb s_len) (pe_callB fk_lenB rfl T.n_len (by decide +kernel) (pam le_cons (pa_cons (pm (le_var 0) (pv 0)) (pam le_nil pa_nil)))))))))))))), def_ok rfl (fr_ok h)⟩, F.bindsN fun _ _ _ _ _ _ us hl => match us, hl with | [_], _ => rfl, isFd_of F⟩, F.kp⟩
theorem ok_is_pattern {P : Program} {w : World} {K : PySem.W.Frag} {mg : Str → Option Value} {base : Heap} (T : Txt K w mg) (KT : Kt cs0 xs0 K) (D_pattern_error : OkD P w K mg base (L2.CX P w) 6 (He.ga K "pattern_error") ["text"] (spE K e_pattern_error)) :
    OkD P w K mg base (L2.CX P w) 7 (He.ga K "is_pattern") ["thing"] (spE K e_is_pattern) := by
  obtain ⟨fd, F⟩ := T.f_is_pattern
  exact ⟨⟨fd, F.ok sc_is_pattern (fun vs H Q E h => def_len h) fun cdv A outer s H vs Q E hr h => ⟨tS K ⟨fun cls d _ H => E cls d H, noS⟩ b_is_pattern, (pss_one (psm le_ret (ps_ret (pm le_andV (pe_and (pm (le_cb (s_isi KT)) (pe_callB fk_isi rfl T.n_isinstance (by decide +kernel) (pam le_cons (pa_cons (pm (le_var 0) (pv 0)) (pam le_cons (pa_cons (pm (le_c (c_ty (t := .str))) (pe_ty rfl T.n_str)) (pam le_nil pa_nil))))))) (pe_one (pm (le_op s_isA) (pe_cmpR op_isA (pm (le_call c_nil) (pe_callX D_pattern_error (hr.mono (by decide)) rfl T.g_pattern_error (fun σ => passAt (takes_of rfl rfl rfl rfl) σ) (pam le_cons (pa_cons (pm (le_var 0) (pv 0)) (pam le_nil pa_nil))))) (pm (le_c c_non) pe_non) (nomark _))))))))), def_ok rfl h⟩, F.bindsN fun _ _ _ _ _ _ us hl => match us, hl with | [_], _ => rfl, isFd_of F⟩, F.kp⟩
theorem ok_law {P : Program} {w : World} {K : PySem.W.Frag} {mg : Str → Option Value} {base : Heap} (T : Txt K w mg) (KT : Kt cs0 xs0 K) (D__law_bag : OkD P w K mg base (L2.CX P w) 1 (He.ga K "_law_bag") ["_law_script", "_law_at"] (spE K e__law_bag)) (D__law_due : OkD P w K mg base (L2.CX P w) 4 (He.ga K "_law_due") ["_law_text"] (spE K e__law_due)) (D__law_string : OkD P w K mg base (L2.CX P w) 20 (He.ga K "_law_string") ["_law_bag_here"] (spE K e__law_string)) (D__law_take : OkD P w K mg base (L2.CX P w) 1 (He.ga K "_law_take") ["_law_bag_here", "_law_count"] (spE K e__law_take)) (D_is_pattern : OkD P w K mg base (L2.CX P w) 7 (He.ga K "is_pattern") ["thing"] (spE K e_is_pattern)) (D_pattern_error : OkD P w K mg base (L2.CX P w) 6 (He.ga K "pattern_error") ["text"] (spE K e_pattern_error)) :
    OkD P w K mg base CX0 21 (He.ga K "law") ["_law_script"] (spE0 K e_law) := by
  obtain ⟨fd, F⟩ := T.f_law
  exact ⟨⟨fd, F.ok sc_law (fun vs H Q E h => def_len0 h) fun cdv A outer s H vs Q E hr h => ⟨tS K (noX noS) b_law, PSs.nox (pssm le_seq (pss_cons (psm (le_forR (p := (.nm 1))) (ps_for PassesOwn.never rfl (pi_range1 rfl T.n_range (pam le_cons (pa_cons (pm (le_op s_addA) (pe_op op_addA (pm (le_c c_int) pe_int) (pm (le_cb s_min2) (pe_callB (ok_min2 rfl) rfl T.n_min (by decide +kernel) (pam le_cons (pa_cons (pm (le_c c_int) pe_int) (pam le_cons (pa_cons (pm (le_cb s_len) (pe_callB fk_lenB rfl T.n_len (by decide +kernel) (pam le_cons (pa_cons (pm (le_var 0) (pv 0)) (pam le_nil pa_nil))))) (pam le_nil pa_nil))))))))) (pam le_nil pa_nil)))) (gn 1 sc_law.nd) (pssm le_seq (pss_cons (psm (le_asg (p := .nm 2)) (pset 2 sc_law.nd (pm (le_call c_nil) (pe_callX D__law_bag (hr.mono (by decide)) rfl T.g__law_bag (fun σ => passAt takes0 σ) (pam le_cons (pa_cons (pm (le_var 0) (pv 0)) (pam le_cons (pa_cons (pm (le_var 1) (pv 1)) (pam le_nil pa_nil)))))))))
    (pssm le_seq (pss_cons (psm (le_forR (p := (.nm 3))) (ps_for PassesOwn.never rfl (pi_range1 rfl T.n_range (pam le_cons (pa_cons (pm (le_c c_int) pe_int) (pam le_nil pa_nil)))) (gn 3 sc_law.nd) (pssm le_seq (pss_cons (psm (le_asg (p := .nm 4)) (pset 4 sc_law.nd (pm (le_call c_nil) (pe_callX D__law_string (hr.mono (by decide)) rfl T.g__law_string (fun σ => passAt takes0 σ) (pam le_cons (pa_cons (pm (le_var 2) (pv 2)) (pam le_nil pa_nil)))))))
    (pssm le_seq (pss_cons (psm (le_asg (p := .nm 5)) (pset 5 sc_law.nd (pm (le_call c_nil) (pe_callX D__law_due (hr.mono (by decide)) rfl T.g__law_due (fun σ => passAt takes0 σ) (pam le_cons (pa_cons (pm (le_var 4) (pv 4)) (pam le_nil pa_nil)))))))
    (pss_one (psm le_ifS (ps_if (PW.pt (pwm le_or (pw_or (ptm (fun σ H Q h => le_op s_ne σ H _ (le_Test σ H Q h)) (pt_cmpR (ok_ne hr.units) (pm (le_cb s_repr) (pe_callB fk_repr rfl T.n_repr (by decide +kernel) (pam le_cons (pa_cons (pm (le_call c_nil) (pe_callX D_pattern_error (hr.mono (by decide)) rfl T.g_pattern_error (fun σ => passAt takes0 σ) (pam le_cons (pa_cons (pm (le_var 4) (pv 4)) (pam le_nil pa_nil))))) (pam le_nil pa_nil))))) (pm (le_cb s_repr) (pe_callB fk_repr rfl T.n_repr (by decide +kernel) (pam le_cons (pa_cons (pm (le_var 5) (pv 5)) (pam le_nil pa_nil))))) (nomark _))) (pw_or1 (ptm (fun σ H Q h => le_op s_ne σ H _ (le_Test σ H Q h)) (pt_cmpR (ok_ne hr.units) (pm (le_call c_nil) (pe_callX D_is_pattern (hr.mono (by decide)) rfl T.g_is_pattern (fun σ => passAt takes0 σ) (pam le_cons (pa_cons (pm (le_var 4) (pv 4)) (pam le_nil pa_nil))))) (pm (le_op s_isA) (pe_cmpR op_isA (pm (le_var 5) (pv 5)) (pm (le_c c_non) pe_non) (nomark _))) (nomark _))))))) (pss_one (psm le_ret (ps_ret (pm (le_c c_bl) pe_bl)))) (pssm le_next pss_nil))))))))))
    (pssm le_seq (pss_cons (psm (le_forL (p := (.nm 6))) (ps_for PassesOwn.never rfl (pi_list (pm le_lst (pe_lst (pam le_cons (pa_cons (pm (le_c c_non) pe_non) (pam le_cons (pa_cons (pm (le_c c_int) pe_int) (pam le_cons (pa_cons (pm (le_c c_bl) pe_bl) (pam le_cons (pa_cons (pm le_lst (pe_lst (pam le_cons (pa_cons (pm (le_c (c_str k_2)) pe_str) (pam le_nil pa_nil))))) (pam le_cons (pa_cons (pm le_tup (pe_tup (pam le_cons (pa_cons (pm (le_c (c_str k_2)) pe_str) (pam le_nil pa_nil))))) (pam le_cons (pa_cons (pm le_dnew pe_dnewK) (pam le_cons (pa_cons (pm (le_c (c_str k_11)) pe_str) (pam le_cons (pa_cons (pm (le_c (c_str k_10)) pe_str) (pam le_nil pa_nil)))))))))))))))))))) (gn 6 sc_law.nd) (pss_one (psm le_ifS (ps_if (ptm (fun σ H Q h => le_op s_notA σ H _ (le_Test σ H Q h)) (pt_cmpR op_notA (pm (le_call c_nil) (pe_callX D_is_pattern (hr.mono (by decide)) rfl T.g_is_pattern (fun σ => passAt takes0 σ) (pam le_cons (pa_cons (pm (le_var 6) (pv 6)) (pam le_nil pa_nil))))) (pm (le_c c_bl) pe_bl) (nomark _))) (pss_one (psm le_ret (ps_ret (pm (le_c c_bl) pe_bl)))) (pssm le_next pss_nil))))))
    (pssm le_seq (pss_cons (psm (le_asg (p := .nm 7)) (pset 7 sc_law.nd (pm (le_call c_nil) (pe_callX D__law_take (hr.mono (by decide)) rfl T.g__law_take (fun σ => passAt takes0 σ) (pam le_cons (pa_cons (pm (le_var 2) (pv 2)) (pam le_cons (pa_cons (pm (le_c c_int) pe_int) (pam le_nil pa_nil)))))))))
    (pssm le_seq (pss_cons (psm (le_asg (p := .nm 8)) (pset 8 sc_law.nd (pm le_lst (pe_lst (pam le_cons (pa_cons (pm (le_op s_mulA) (pe_op op_mulA (pm (le_c (c_str k_2)) pe_str) (pm (le_var 7) (pv 7)))) (pam le_cons (pa_cons (pm (le_op s_addA) (pe_op op_addA (pm (le_op s_mulA) (pe_op op_mulA (pm (le_c (c_str k_6)) pe_str) (pm (le_c c_int) pe_int))) (pm (le_op s_mulA) (pe_op op_mulA (pm (le_c (c_str k_2)) pe_str) (pm (le_var 7) (pv 7)))))) (pam le_cons (pa_cons (pm (le_op s_addA) (pe_op op_addA (pm (le_op s_addA) (pe_op op_addA (pm (le_c (c_str k_4)) pe_str) (pm (le_op s_mulA) (pe_op op_mulA (pm (le_c (c_str k_2)) pe_str) (pm (le_var 7) (pv 7)))))) (pm (le_c (c_str k_9)) pe_str))) (pam le_cons (pa_cons (pm (le_op s_mulA) (pe_op op_mulA (pm (le_c (c_str k_8)) pe_str) (pm (le_var 7) (pv 7)))) (pam le_cons (pa_cons (pm (le_op s_addA) (pe_op op_addA (pm (le_op s_mulA) (pe_op op_mulA (pm (le_c (c_str k_2)) pe_str) (pm (le_var 7) (pv 7)))) (pm (le_c (c_str k_7)) pe_str))) (pam le_nil pa_nil)))))))))))))))
    (pssm le_seq (pss_cons (psm (le_asg (p := .nm 8)) (pset 8 sc_law.nd (pm (le_op s_addA) (pe_op op_addA (pm (le_var 8) (pv 8)) (pm le_lst (pe_lst (pam le_cons (pa_cons (pm (le_op s_mulA) (pe_op op_mulA (pm (le_c (c_str k_6)) pe_str) (pm (le_c c_int) pe_int))) (pam le_cons (pa_cons (pm (le_op s_mulA) (pe_op op_mulA (pm (le_c (c_str k_5)) pe_str) (pm (le_c c_int) pe_int))) (pam le_cons (pa_cons (pm (le_op s_mulA) (pe_op op_mulA (pm (le_c (c_str k_4)) pe_str) (pm (le_c c_int) pe_int))) (pam le_cons (pa_cons (pm (le_op s_mulA) (pe_op op_mulA (pm (le_c (c_str k_3)) pe_str) (pm (le_c c_int) pe_int))) (pam le_cons (pa_cons (pm (le_op s_addA) (pe_op op_addA (pm (le_op s_mulA) (pe_op op_mulA (pm (le_c (c_str k_1)) pe_str) (pm (le_c c_int) pe_int))) (pm (le_op s_mulA) (pe_op op_mulA (pm (le_c (c_str k_2)) pe_str) (pm (le_var 7) (pv 7)))))) (pam le_nil pa_nil)))))))))))))))))
    (pss_one (psm (le_forL (p := (.nm 4))) (ps_for PassesOwn.never rfl (pi_list (pm (le_var 8) (pv 8))) (gn 4 sc_law.nd) (pss_one (psm le_ifS (ps_if (PW.pt (pwm le_or (pw_or (ptm (fun σ H Q h => le_op s_ne σ H _ (le_Test σ H Q h)) (pt_cmpR (ok_ne hr.units) (pm (le_cb s_repr) (pe_callB fk_repr rfl T.n_repr (by decide +kernel) (pam le_cons (pa_cons (pm (le_call c_nil) (pe_callX D_pattern_error (hr.mono (by decide)) rfl T.g_pattern_error (fun σ => passAt takes0 σ) (pam le_cons (pa_cons (pm (le_var 4) (pv 4)) (pam le_nil pa_nil))))) (pam le_nil pa_nil))))) (pm (le_cb s_repr) (pe_callB fk_repr rfl T.n_repr (by decide +kernel) (pam le_cons (pa_cons (pm (le_call c_nil) (pe_callX D__law_due (hr.mono (by decide)) rfl T.g__law_due (fun σ => passAt takes0 σ) (pam le_cons (pa_cons (pm (le_var 4) (pv 4)) (pam le_nil pa_nil))))) (pam le_nil pa_nil))))) (nomark _))) (pw_or1 (PW.pt (pwm le_and (pw_and (ptm (fun σ H Q h => le_op s_gtA σ H _ (le_Test σ H Q h)) (pt_cmpR op_gtA (pm (le_cb s_len) (pe_callB fk_lenB rfl T.n_len (by decide +kernel) (pam le_cons (pa_cons (pm (le_var 4) (pv 4)) (pam le_nil pa_nil))))) (pm (le_c c_int) pe_int) (nomark _))) (pw_and1 (ptm (fun σ H Q h => le_op s_notA σ H _ (le_Test σ H Q h)) (pt_cmpR op_notA (pm (le_call c_nil) (pe_callX D_is_pattern (hr.mono (by decide)) rfl T.g_is_pattern (fun σ => passAt takes0 σ) (pam le_cons (pa_cons (pm (le_var 4) (pv 4)) (pam le_nil pa_nil))))) (pm (le_c c_bl) pe_bl) (nomark _))))))))))) (pss_one (psm le_ret (ps_ret (pm (le_c c_bl) pe_bl)))) (pssm le_next pss_nil)))))))))))))))))))))
    (pss_one (psm le_ret (ps_ret (pm (le_op s_isA) (pe_cmpR op_isA (pm (le_call c_nil) (pe_callX D_pattern_error (hr.mono (by decide)) rfl T.g_pattern_error (fun σ => passAt takes0 σ) (pam le_cons (pa_cons (pm (le_c (c_str k_0)) pe_str) (pam le_nil pa_nil))))) (pm (le_c c_non) pe_non) (nomark _)))))))), def_ok0 rfl h⟩, F.bindsN fun _ _ _ _ _ _ us hl => match us, hl with | [_], _ => rfl, isFd_of F⟩, F.kp⟩
def d__law_bag : He.DefD := ⟨("_law_bag", none), "_law_bag", "_law_bag", defArgs s__law_bag, defBody s__law_bag, defScope s__law_bag, [], []⟩
def d__law_kin : He.DefD := ⟨("_law_kin", none), "_law_kin", "_law_kin", defArgs s__law_kin, defBody s__law_kin, defScope s__law_kin, [], []⟩
def d__law_in_class : He.DefD := ⟨("_law_in_class", none), "_law_in_class", "_law_in_class", defArgs s__law_in_class, defBody s__law_in_class, defScope s__law_in_class, [], []⟩
def d__law_behind : He.DefD := ⟨("_law_behind", none), "_law_behind", "_law_behind", defArgs s__law_behind, defBody s__law_behind, defScope s__law_behind, [], []⟩
def d__law_due : He.DefD := ⟨("_law_due", none), "_law_due", "_law_due", defArgs s__law_due, defBody s__law_due, defScope s__law_due, [], []⟩
def d__law_take : He.DefD := ⟨("_law_take", none), "_law_take", "_law_take", defArgs s__law_take, defBody s__law_take, defScope s__law_take, [], []⟩
def d__law_pick : He.DefD := ⟨("_law_pick", none), "_law_pick", "_law_pick", defArgs s__law_pick, defBody s__law_pick, defScope s__law_pick, [], []⟩
def d__law_piece : He.DefD := ⟨("_law_piece", none), "_law_piece", "_law_piece", defArgs s__law_piece, defBody s__law_piece, defScope s__law_piece, [], []⟩
def d__law_rows_of : He.DefD := ⟨("_law_rows_of", none), "_law_rows_of", "_law_rows_of", defArgs s__law_rows_of, defBody s__law_rows_of, defScope s__law_rows_of, [], []⟩
def d__law_special : He.DefD := ⟨("_law_special", none), "_law_special", "_law_special", defArgs s__law_special, defBody s__law_special, defScope s__law_special, [], []⟩
def d__law_written : He.DefD := ⟨("_law_written", none), "_law_written", "_law_written", defArgs s__law_written, defBody s__law_written, defScope s__law_written, [], []⟩
def d__law_pattern : He.DefD := ⟨("_law_pattern", none), "_law_pattern", "_law_pattern", defArgs s__law_pattern, defBody s__law_pattern, defScope s__law_pattern, [], []⟩
def d__law_string : He.DefD := ⟨("_law_string", none), "_law_string", "_law_string", defArgs s__law_string, defBody s__law_string, defScope s__law_string, [], []⟩
def d_Looker___init__ : He.DefD := ⟨("Looker", some "__init__"), "__init__", "Looker.__init__", defArgs s_Looker___init__, defBody s_Looker___init__, defScope s_Looker___init__, [], []⟩
def d_Looker_needed : He.DefD := ⟨("Looker", some "needed"), "needed", "Looker.needed", defArgs s_Looker_needed, defBody s_Looker_needed, defScope s_Looker_needed, [], []⟩
def d_Looker_close_atom : He.DefD := ⟨("Looker", some "close_atom"), "close_atom", "Looker.close_atom", defArgs s_Looker_close_atom, defBody s_Looker_close_atom, defScope s_Looker_close_atom, [], []⟩
def d_run_of : He.DefD := ⟨("run_of", none), "run_of", "run_of", defArgs s_run_of, defBody s_run_of, defScope s_run_of, [], []⟩
def d_Looker_take_in_class : He.DefD := ⟨("Looker", some "take_in_class"), "take_in_class", "Looker.take_in_class", defArgs s_Looker_take_in_class, defBody s_Looker_take_in_class, defScope s_Looker_take_in_class, [], []⟩
def d_Looker_take_atom : He.DefD := ⟨("Looker", some "take_atom"), "take_atom", "Looker.take_atom", defArgs s_Looker_take_atom, defBody s_Looker_take_atom, defScope s_Looker_take_atom, [], []⟩
def d_Looker_take_sign : He.DefD := ⟨("Looker", some "take_sign"), "take_sign", "Looker.take_sign", defArgs s_Looker_take_sign, defBody s_Looker_take_sign, defScope s_Looker_take_sign, [], []⟩
def d_Looker_take_in_mode : He.DefD := ⟨("Looker", some "take_in_mode"), "take_in_mode", "Looker.take_in_mode", defArgs s_Looker_take_in_mode, defBody s_Looker_take_in_mode, defScope s_Looker_take_in_mode, [], []⟩
def d_Looker_take : He.DefD := ⟨("Looker", some "take"), "take", "Looker.take", defArgs s_Looker_take, defBody s_Looker_take, defScope s_Looker_take, [], []⟩
def d_pattern_error : He.DefD := ⟨("pattern_error", none), "pattern_error", "pattern_error", defArgs s_pattern_error, defBody s_pattern_error, defScope s_pattern_error, [], []⟩
def d_is_pattern : He.DefD := ⟨("is_pattern", none), "is_pattern", "is_pattern", defArgs s_is_pattern, defBody s_is_pattern, defScope s_is_pattern, [], []⟩
def d_law : He.DefD := ⟨("law", none), "law", "law", defArgs s_law, defBody s_law, defScope s_law, [], []⟩
def fn : List He.DefD := [d__law_bag, d__law_kin, d__law_in_class, d__law_behind, d__law_due, d__law_take, d__law_pick, d__law_piece, d__law_rows_of, d__law_special, d__law_written, d__law_pattern, d__law_string, d_Looker___init__, d_Looker_needed, d_Looker_close_atom, d_run_of, d_Looker_take_in_class, d_Looker_take_atom, d_Looker_take_sign, d_Looker_take_in_mode, d_Looker_take, d_pattern_error, d_is_pattern, d_law]
def fp : List He.DefD := []
def ts : List He.Tab := [(fun K => He.ga K "NEEDED", ["piece", "escape", "class", "negated", "items", "ranged", "range", "end"])]
def fa : List Fa := [.he (.str "ALPHABET" " !\"#$&'()*+,-./0123456789:;<=>?@ABCDEFGHIJKLMNOPQRSTUVWXYZ[\\]^_`abcdefghijklmnopqrstuvwxyz{|}~"), .he (.int "MOST_SIGNS" 60), .he (.int "MOST_SPECIAL" 10), .he (.int "MOST_DEPTH" 4), .he (.str "REPEATS" "*+?"), .he (.str "MARKED" ".^$*+?{}[]\\|()"), .he (.str "SPECIAL" ".*+?|(["), .he (.str "CLASS_SIGNS" "abcdefghijklmnopqrstuvwxyzABCDEFGHIJKLMNOPQRSTUVWXYZ0123456789 _.,"), .he (.glo "RUNS"), .he (.str "WHOLE_END" "$"), .he (.glo "NEEDED"), .he (.glo "run_of"), .he (.glo "pattern_error"), .he (.glo "is_pattern"), .he (.glo "_law_bag"), .he (.glo "_law_take"), .he (.glo "_law_pick"), .he (.glo "_law_piece"), .he (.glo "_law_rows_of"), .he (.glo "_law_written"), .he (.glo "_law_special"), .he (.glo "_law_pattern"), .he (.glo "_law_kin"), .he (.glo "_law_in_class"), .he (.glo "_law_behind"), .he (.glo "_law_due"), .he (.glo "_law_string"), .he (.glo "law"), .he (.glo "Looker"), .he (.noat "Looker" "count"), .he (.noat "Looker" "first"), .he (.noat "Looker" "is_piece"), .he (.noat "Looker" "is_split"), .he (.noat "Looker" "mode"), .he (.noat "Looker" "nesting"), .he (.noat "Looker" "special"), .he (.cls "Looker"), .he (.mkr "Looker"), .he (.meth "Looker" "needed"), .he (.meth "Looker" "close_atom"), .he (.meth "Looker" "take_in_class"), .he (.meth "Looker" "take_atom"), .he (.meth "Looker" "take_sign"), .he (.meth "Looker" "take_in_mode"), .he (.meth "Looker" "take"), .chk (fun K => ktB cs0 xs0 K), .he (.free "abs"), .he (.free "enumerate"), .he (.free "int"), .he (.free "isinstance"), .he (.free "len"), .he (.free "min"), .he (.free "range"), .he (.free "repr"), .he (.free "str"), .tup "RUNS" [(.str "abcdefghijklmnopqrstuvwxyz"), (.str "ABCDEFGHIJKLMNOPQRSTUVWXYZ"), (.str "0123456789")], .chk (fun K => He.valsB K (He.ga K "NEEDED") [("piece", (.int 0)), ("escape", (.int 1)), ("class", (.int 2)), ("negated", (.int 2)), ("items", (.int 1)), ("ranged", (.int 1)), ("range", (.int 2)), ("end", (.int 0))])]
def loose0 : List Str := ["SMALL", "CAPITALS", "DIGITS", "ALPHABET", "MOST_SIGNS", "MOST_SPECIAL", "MOST_DEPTH", "REPEATS", "MARKED", "SPECIAL", "CLASS_SIGNS", "RUNS", "WHOLE_END", "NEEDED", "run_of", "pattern_error", "is_pattern", "_law_bag", "_law_take", "_law_pick"]
def loose1 : List Str := ["_law_piece", "_law_rows_of", "_law_written", "_law_special", "_law_pattern", "_law_kin", "_law_in_class", "_law_behind", "_law_due", "_law_string", "Looker"]
def loose : List Str := loose0 ++ loose1
def as0 : List Addr := [2, 3, 6, 4, 15, 16, 23, 87, 98, 105, 112, 119, 126, 133, 138, 145, 152, 159, 166, 173, 180, 187, 194, 201, 0, 22, 86, 97, 104, 111, 118, 125, 132, 137, 144, 151, 158, 165, 172, 179, 186, 193, 200, 17, 18, 19, 20, 21, 37, 44, 51, 56, 63, 70, 77, 84, 85, 88, 89, 92, 93, 94, 95, 96, 99, 100, 101, 102, 103, 106, 107, 108, 109, 110, 113, 114, 115, 116, 117, 120, 121, 122, 123, 124, 127, 128, 129, 130, 131, 134, 135, 136, 139, 140, 141, 142, 143, 146, 147, 148, 149, 150, 153, 154, 155, 156, 157, 160, 161, 162, 163, 164, 167, 168, 169, 170, 171, 174, 175, 176, 177, 178, 181, 182, 183, 184, 185, 188, 189, 190, 191, 192, 195, 196, 197, 198, 199, 36, 43, 50, 55, 62, 69, 76, 83]
abbrev R : PySem.W.OpenRow := PySem.W.OpenLaw.row PySem.Challenge.rw_warnfilters_k83_where_patterns_end
abbrev hk : PySem.W.Hook := hookL as0 fa fn fp ts
def ob (s : PySem.W.SharedT) : AlX := obsXL as0 fa fn fp ts (HandSHeadRun.getT s)
theorem ob_eq (s : PySem.W.SharedT) : ob s = hk.obs s.abs := obsXL_eq (HandSHeadRun.getT_eq s)
theorem run_tA (w : World) : HandSHeadRun.RunA R (PySem.W.view R.prog [33]) 20000 loose (w.withFollow "special-get-raises" true) := by
  intro os
  kernel_rfl
theorem run_t1 (w : World) : HandSHeadRun.RunB R (fun s => fa.all fun f => f.ok (KofL as0 s)) true 20000 (w.withFollow "special-get-raises" true) := by
  intro os
  kernel_rfl
theorem run_t2 (w : World) : HandSHeadRun.RunB R (fun s => (fn.all fun d => d.ok (KofL as0 s), fn.map fun d => He.fnW (KofL as0 s) d.at_)) (true, fn.map He.DefD.val) 20000 (w.withFollow "special-get-raises" true) := by
  intro os
  kernel_rfl
theorem run_t3 (w : World) : HandSHeadRun.RunB R (fun s => (fp.map fun d => fnAt (KofL as0 s) (pgAd (KofL as0 s) d.at_), (fp.all fun d => okAt (KofL as0 s) (pgAd (KofL as0 s) d.at_) d && propB (KofL as0 s) d.at_), ts.map fun t => He.dicW (KofL as0 s) (t.1 (KofL as0 s)))) (fp.map He.DefD.val, true, ts.map fun t => some (He.keysIn (w.withFollow "special-get-raises" true).params t.2)) 20000 (w.withFollow "special-get-raises" true) := by
  intro os
  kernel_rfl
theorem run_tB (w : World) : HandSHeadRun.RunB R ob (hk.val (w.withFollow "special-get-raises" true)) 20000 (w.withFollow "special-get-raises" true) := runB_join (run_t1 w) (run_t2 w) (run_t3 w)
theorem run_t (w : World) : HandSHeadRun.RunEq R (PySem.W.view R.prog [33]) hk ob 20000 loose (w.withFollow "special-get-raises" true) := HandSHeadRun.run_join (run_tA w) (run_tB w)
theorem run_fA (w : World) : HandSHeadRun.RunA R (PySem.W.view R.prog [33]) 20000 loose (w.withFollow "special-get-raises" false) := by
  intro os
  kernel_rfl
theorem run_f1 (w : World) : HandSHeadRun.RunB R (fun s => fa.all fun f => f.ok (KofL as0 s)) true 20000 (w.withFollow "special-get-raises" false) := by
  intro os
  kernel_rfl
theorem run_f2 (w : World) : HandSHeadRun.RunB R (fun s => (fn.all fun d => d.ok (KofL as0 s), fn.map fun d => He.fnW (KofL as0 s) d.at_)) (true, fn.map He.DefD.val) 20000 (w.withFollow "special-get-raises" false) := by
  intro os
  kernel_rfl
theorem run_f3 (w : World) : HandSHeadRun.RunB R (fun s => (fp.map fun d => fnAt (KofL as0 s) (pgAd (KofL as0 s) d.at_), (fp.all fun d => okAt (KofL as0 s) (pgAd (KofL as0 s) d.at_) d && propB (KofL as0 s) d.at_), ts.map fun t => He.dicW (KofL as0 s) (t.1 (KofL as0 s)))) (fp.map He.DefD.val, true, ts.map fun t => some (He.keysIn (w.withFollow "special-get-raises" false).params t.2)) 20000 (w.withFollow "special-get-raises" false) := by
  intro os
  kernel_rfl
theorem run_fB (w : World) : HandSHeadRun.RunB R ob (hk.val (w.withFollow "special-get-raises" false)) 20000 (w.withFollow "special-get-raises" false) := runB_join (run_f1 w) (run_f2 w) (run_f3 w)
theorem run_f (w : World) : HandSHeadRun.RunEq R (PySem.W.view R.prog [33]) hk ob 20000 loose (w.withFollow "special-get-raises" false) := HandSHeadRun.run_join (run_fA w) (run_fB w)
theorem run (w : World) : HandSHeadRun.RunEq R (PySem.W.view R.prog [33]) hk ob 20000 loose w := by
  have h : ∀ b, HandSHeadRun.RunEq R (PySem.W.view R.prog [33]) hk ob 20000 loose (w.withFollow "special-get-raises" b) := fun b => by
    cases b
    · exact run_f w
    · exact run_t w
  have e := h (w.params.followText "special-get-raises")
  rw [World.withFollow_self] at e
  exact e
theorem txt {K : PySem.W.Frag} {w : World} {h : Heap} {mg : Str → Option Value} (X : K.In h) (G : h.Ns mainGlobals mg) (c : SaysX fa fn fp ts w K) : Txt K w mg := by
  refine ⟨He.str_ok X G (c.toW.fact 0 rfl),
    He.int_ok X G (c.toW.fact 1 rfl),
    He.int_ok X G (c.toW.fact 2 rfl),
    He.int_ok X G (c.toW.fact 3 rfl),
    He.str_ok X G (c.toW.fact 4 rfl),
    He.str_ok X G (c.toW.fact 5 rfl),
    He.str_ok X G (c.toW.fact 6 rfl),
    He.str_ok X G (c.toW.fact 7 rfl),
    He.glo_ok X G (c.toW.fact 8 rfl),
    He.str_ok X G (c.toW.fact 9 rfl),
    He.glo_ok X G (c.toW.fact 10 rfl),
    He.glo_ok X G (c.toW.fact 11 rfl),
    He.glo_ok X G (c.toW.fact 12 rfl),
    He.glo_ok X G (c.toW.fact 13 rfl),
    He.glo_ok X G (c.toW.fact 14 rfl),
    He.glo_ok X G (c.toW.fact 15 rfl),
    He.glo_ok X G (c.toW.fact 16 rfl),
    He.glo_ok X G (c.toW.fact 17 rfl),
    He.glo_ok X G (c.toW.fact 18 rfl),
    He.glo_ok X G (c.toW.fact 19 rfl),
    He.glo_ok X G (c.toW.fact 20 rfl),
    He.glo_ok X G (c.toW.fact 21 rfl),
    He.glo_ok X G (c.toW.fact 22 rfl),
    He.glo_ok X G (c.toW.fact 23 rfl),
    He.glo_ok X G (c.toW.fact 24 rfl),
    He.glo_ok X G (c.toW.fact 25 rfl),
    He.glo_ok X G (c.toW.fact 26 rfl),
    He.glo_ok X G (c.toW.fact 27 rfl),
    He.glo_ok X G (c.toW.fact 28 rfl),
    He.noat_ok (c.toW.fact 29 rfl),
    He.noat_ok (c.toW.fact 30 rfl),
    He.noat_ok (c.toW.fact 31 rfl),
    He.noat_ok (c.toW.fact 32 rfl),
    He.noat_ok (c.toW.fact 33 rfl),
    He.noat_ok (c.toW.fact 34 rfl),
    He.noat_ok (c.toW.fact 35 rfl),
    He.cls_ok (c.toW.fact 36 rfl),
    He.mkr_ok (c.toW.fact 37 rfl),
    He.meth_ok (c.toW.fact 38 rfl),
    He.meth_ok (c.toW.fact 39 rfl),
    He.meth_ok (c.toW.fact 40 rfl),
    He.meth_ok (c.toW.fact 41 rfl),
    He.meth_ok (c.toW.fact 42 rfl),
    He.meth_ok (c.toW.fact 43 rfl),
    He.meth_ok (c.toW.fact 44 rfl),
    id (c.toW.chk 45 rfl),
    He.free_ok X G (c.toW.fact 46 rfl),
    He.free_ok X G (c.toW.fact 47 rfl),
    He.free_ok X G (c.toW.fact 48 rfl),
    He.free_ok X G (c.toW.fact 49 rfl),
    He.free_ok X G (c.toW.fact 50 rfl),
    He.free_ok X G (c.toW.fact 51 rfl),
    He.free_ok X G (c.toW.fact 52 rfl),
    He.free_ok X G (c.toW.fact 53 rfl),
    He.free_ok X G (c.toW.fact 54 rfl),
    c.toW.def_ 0 rfl,
    c.toW.def_ 1 rfl,
    c.toW.def_ 2 rfl,
    c.toW.def_ 3 rfl,
    c.toW.def_ 4 rfl,
    c.toW.def_ 5 rfl,
    c.toW.def_ 6 rfl,
    c.toW.def_ 7 rfl,
    c.toW.def_ 8 rfl,
    c.toW.def_ 9 rfl,
    c.toW.def_ 10 rfl,
    c.toW.def_ 11 rfl,
    c.toW.def_ 12 rfl,
    c.toW.def_ 13 rfl,
    c.toW.def_ 14 rfl,
    c.toW.def_ 15 rfl,
    c.toW.def_ 16 rfl,
    c.toW.def_ 17 rfl,
    c.toW.def_ 18 rfl,
    c.toW.def_ 19 rfl,
    c.toW.def_ 20 rfl,
    c.toW.def_ 21 rfl,
    c.toW.def_ 22 rfl,
    c.toW.def_ 23 rfl,
    c.toW.def_ 24 rfl,
    c.toW.tup 55 rfl,
    (let ⟨_, _, D⟩ := c.tab 0 rfl; kd_of (a := He.ga K "NEEDED") (kvs := [("piece", (.int 0)), ("escape", (.int 1)), ("class", (.int 2)), ("negated", (.int 2)), ("items", (.int 1)), ("ranged", (.int 1)), ("range", (.int 2)), ("end", (.int 0))]) D (c.toW.chk 56 rfl))⟩
theorem facts {P : Program} {w : World} {K : PySem.W.Frag} {h : Heap} {mg : Str → Option Value} {f : Addr} (X : K.In h) (G : h.Ns mainGlobals mg) (hfa : mg ("law" : Str) = some (.ref f)) (c : SaysX fa fn fp ts w K) :
    ∃ fd : FuncData, (∀ (s : Shared) (v : Value), BindsTo s fd ⟨[v], []⟩ [("_law_script", v)]) ∧ ∀ base : Heap, K.In base → base.Ns mainGlobals mg → FnOk P w K mg base CX0 21 f fd ["_law_script"] (spE0 K e_law) := by
  have T := txt X G c
  have KT := T.kts
  obtain ⟨fd0, F0⟩ := T.f_law
  have e := hfa.symm.trans T.g_law
  cases e
  refine ⟨fd0, fun s v => FunD.bindsA (ps := ["_law_script"]) F0 (fun _ _ _ _ _ _ us hl => match us, hl with | [_], _ => rfl) s [v] rfl, fun base _ _ => ?_⟩
  have D__law_bag := ok__law_bag (P := P) (w := w) (base := base) T KT
  have D__law_kin := ok__law_kin (P := P) (w := w) (base := base) T KT
  have D__law_in_class := ok__law_in_class (P := P) (w := w) (base := base) T KT D__law_kin
  have D__law_behind := ok__law_behind (P := P) (w := w) (base := base) T KT D__law_in_class
  have D__law_due := ok__law_due (P := P) (w := w) (base := base) T KT D__law_behind
  have D__law_take := ok__law_take (P := P) (w := w) (base := base) T KT
  have D__law_pick := ok__law_pick (P := P) (w := w) (base := base) T KT D__law_take
  have D__law_rows_of := ok__law_rows_of (P := P) (w := w) (base := base) T KT D__law_pick D__law_take 8
  have D__law_special := ok__law_special (P := P) (w := w) (base := base) T KT 8
  have D__law_written := ok__law_written (P := P) (w := w) (base := base) T KT 8
  have D__law_pattern := ok__law_pattern (P := P) (w := w) (base := base) T KT D__law_rows_of D__law_special D__law_take D__law_written
  have D__law_string := ok__law_string (P := P) (w := w) (base := base) T KT D__law_pattern D__law_pick D__law_take
  have D_Looker___init__ := ok_Looker___init__ (P := P) (w := w) (base := base) T KT
  have D_Looker_needed := ok_Looker_needed (P := P) (w := w) (base := base) T KT
  have D_Looker_close_atom := ok_Looker_close_atom (P := P) (w := w) (base := base) T KT
  have D_run_of := ok_run_of (P := P) (w := w) (base := base) T KT
  have D_Looker_take_in_class := ok_Looker_take_in_class (P := P) (w := w) (base := base) T KT D_Looker_close_atom D_run_of
  have D_Looker_take_atom := ok_Looker_take_atom (P := P) (w := w) (base := base) T KT D_Looker_close_atom
  have D_Looker_take_sign := ok_Looker_take_sign (P := P) (w := w) (base := base) T KT D_Looker_take_atom
  have D_Looker_take_in_mode := ok_Looker_take_in_mode (P := P) (w := w) (base := base) T KT D_Looker_close_atom D_Looker_take_in_class D_Looker_take_sign D_run_of
  have D_Looker_take := ok_Looker_take (P := P) (w := w) (base := base) T KT D_Looker_take_in_mode
  have D_pattern_error := ok_pattern_error (P := P) (w := w) (base := base) T KT D_Looker___init__ D_Looker_needed D_Looker_take
  have D_is_pattern := ok_is_pattern (P := P) (w := w) (base := base) T KT D_pattern_error
  have D_law := ok_law (P := P) (w := w) (base := base) T KT D__law_bag D__law_due D__law_string D__law_take D_is_pattern D_pattern_error
  obtain ⟨⟨fd, Fn, _, i⟩, _⟩ := D_law
  cases i.inj (isFd_of F0)
  exact Fn
end Ev

set_option Elab.async false
set_option linter.all false
set_option maxRecDepth 100000
set_option maxHeartbeats 4000000
namespace Ev
/-! ### tactics -/
local macro_rules | `(tactic| wtm_at "num") => `(tactic| first | assumption | decide | omega | exact Or.inl (by omega) | exact Or.inr (by omega))
local macro_rules | `(tactic| wtm_at "st1") => `(tactic| first
  | with_reducible refine w_seq ?_ | with_reducible refine w_asg ?_ | with_reducible refine w_var (by with_unfolding_all rfl) (by with_unfolding_all rfl) ?_ | with_reducible refine w_c ?_ | with_reducible refine w_cons ?_ | with_reducible refine w_nil ?_
  | with_reducible refine w_bin ?_ | with_reducible refine w_un ?_ | with_reducible refine w_ret ?_ | with_reducible refine w_ifS ?_ | with_reducible refine w_if ?_ | with_reducible refine w_bB ?_ | with_reducible refine w_cb ?_ | with_reducible refine w_call0 ?_ | with_reducible refine w_next ?_
  | with_reducible refine w_and ?_ | with_reducible refine w_or ?_ | with_reducible refine w_not ?_ | with_reducible refine w_bAnd ?_ | with_reducible refine w_bOr ?_ | with_reducible refine w_bNot ?_ | with_reducible refine w_bYes ?_
  | with_reducible refine w_bl ?_ | with_reducible refine w_int ?_ | with_reducible refine w_tup ?_ | with_reducible refine w_lst ?_ | with_reducible refine w_lstO ?_
  | with_reducible refine w_drop ?_ | with_reducible refine w_setI ?_ | with_reducible refine w_putF ?_ | with_reducible refine w_par ?_ | with_reducible refine w_asgP ?_ | with_reducible refine w_raise ?_ | with_reducible refine w_retN ?_
  | with_reducible refine w_fld ?_ | with_reducible refine w_meth ?_ | with_reducible refine w_methB ?_ | with_reducible refine w_make ?_ | with_reducible refine w_bm ?_ | with_reducible refine w_sl ?_ | with_reducible refine w_noPart ?_ | with_reducible refine w_part ?_ | with_reducible refine w_chain ?_
  | with_reducible refine w_forL ?_ | with_reducible refine w_forT ?_ | with_reducible refine w_forS ?_ | with_reducible refine w_forR ?_ | with_reducible refine w_forE ?_ | with_reducible refine w_forET ?_
  | with_reducible refine w_lcL ?_ | with_reducible refine w_lcT ?_ | with_reducible refine w_lcS ?_ | with_reducible refine w_lcR ?_
  | with_reducible refine w_ltA ?_ | with_reducible refine w_leA ?_ | with_reducible refine w_gtA ?_ | with_reducible refine w_geA ?_ | with_reducible refine w_sub ?_ | with_reducible refine w_addIA ?_ | with_reducible refine w_neg ?_
  | with_reducible refine w_mulIA (by wtm_at "num") ?_ | with_reducible refine w_div (by wtm_at "num") ?_ | with_reducible refine w_mod (by wtm_at "num") ?_ | with_reducible refine w_pow (by wtm_at "num") ?_
  | with_reducible refine w_addSA (by wtm_at "num") ?_ | with_reducible refine w_addLA (by wtm_at "num") ?_
  | with_reducible refine w_eq eqC_i ?_ | with_reducible refine w_ne eqC_i ?_
  | with_reducible refine w_lenS (by wtm_at "num") ?_ | with_reducible refine w_lenL ?_ | with_reducible refine w_lenW ?_ | with_reducible refine w_lenT ?_
  | with_reducible refine w_inS ?_ | with_reducible refine w_notInS ?_
  | with_reducible refine w_abs ?_ | with_reducible refine w_toInt ?_ | with_reducible refine w_min2 ?_ | with_reducible refine w_max2 ?_)
local macro_rules | `(tactic| wtm_at "go") => `(tactic| repeat' wtm_at "st1")
/-! ### one sign: the Looker and the law's state, side by side -/
/-- the Looker's fields -/
def lkO (m : List Nat) (cnt sp ns : Int) (pc st : Bool) (f : List Nat) : O := .ins n_Looker [(n_mode, .str m), (n_count, .int cnt), (n_special, .int sp), (n_nesting, .int ns), (n_is_piece, .bl pc), (n_is_split, .bl st), (n_first, .str f)]
/-- the law's state -/
def stW (wh : List Nat) (d sp : Int) (pc st : Bool) (f : List Nat) : W := .tup [.str wh, .int d, .int sp, .bl pc, .bl st, .str f]
/-- the two names of a place; the first sign counts, the piece counts -/
def modeS : List (List Nat × List Nat × Bool × Bool) := [([114, 111, 119], [112, 105, 101, 99, 101], false, true), ([115, 108, 97, 115, 104], [101, 115, 99, 97, 112, 101], false, false), ([111, 112, 101, 110], [99, 108, 97, 115, 115], false, false), ([98, 97, 114, 101], [110, 101, 103, 97, 116, 101, 100], false, false), ([105, 116, 101, 109], [105, 116, 101, 109, 115], true, false), ([100, 111, 110, 101], [114, 97, 110, 103, 101, 100], false, false), ([116, 111], [114, 97, 110, 103, 101], true, false), ([101, 110, 100], [101, 110, 100], false, false)]
abbrev Vw := Option (Option (List Nat × Int × Int × Bool × Option Bool × Option (List Nat)))
/-- what counts of the law's next state -/
def lawV : Out W → Vw
  | .ok .non _ => some none
  | .ok (.tup [.str wh, .int d, .int sp, .bl pc, .bl st, .str f]) _ => (match modeS.find? (fun q => decide (q.1 = wh)) with
    | some q => some (some (q.2.1, d, sp, st, if q.2.2.2 = true then some pc else none, if q.2.2.1 = true then some f else none))
    | none => none)
  | _ => none
/-- no state -/
def badV : Vw := some (some ([], 0, 0, false, none, none))
/-- what counts of the Looker's next state -/
def lookV : Out W → Vw
  | .ok (.bl false) _ => some none
  | .ok (.bl true) [.ins _ [(_, .str m), (_, .int _), (_, .int sp), (_, .int d), (_, .bl pc), (_, .bl st), (_, .str f)]] => (match modeS.find? (fun q => decide (q.2.1 = m)) with
    | some q => some (some (m, d, sp, st, if q.2.2.2 = true then some pc else none, if q.2.2.1 = true then some f else none))
    | none => badV)
  | _ => badV
def lawSide (wh : List Nat) (d sp : Int) (pc st : Bool) (f : List Nat) (ch : Nat) : Vw := lawV (e__law_behind [stW wh d sp pc st f, .str [ch]] [])
def lookSide (m : List Nat) (cnt d sp : Int) (pc st : Bool) (f : List Nat) (ch : Nat) : Vw := lookV (e_Looker_take_in_mode [.ref 0, .str [ch]] [lkO m cnt sp d pc st f])

def signs : List Nat := (List.range 95).map (· + 32) |>.filter (· ≠ 37)
def signsA : List Nat := signs.filter fun c => !decide (c ∈ [40, 41, 124, 36, 42, 43, 63])
def signsB : List Nat := [40, 41, 124, 36]
def signsC : List Nat := [42, 43, 63]
def sp11 : List Nat := [0, 1, 2, 3, 4, 5, 6, 7, 8, 9, 10]
def clsS : List Nat := [97, 98, 99, 100, 101, 102, 103, 104, 105, 106, 107, 108, 109, 110, 111, 112, 113, 114, 115, 116, 117, 118, 119, 120, 121, 122, 65, 66, 67, 68, 69, 70, 71, 72, 73, 74, 75, 76, 77, 78, 79, 80, 81, 82, 83, 84, 85, 86, 87, 88, 89, 90, 48, 49, 50, 51, 52, 53, 54, 55, 56, 57, 32, 95, 46, 44]
def ranS : List Nat := [97, 98, 99, 100, 101, 102, 103, 104, 105, 106, 107, 108, 109, 110, 111, 112, 113, 114, 115, 116, 117, 118, 119, 120, 121, 65, 66, 67, 68, 69, 70, 71, 72, 73, 74, 75, 76, 77, 78, 79, 80, 81, 82, 83, 84, 85, 86, 87, 88, 89, 48, 49, 50, 51, 52, 53, 54, 55, 56]
/-- the Looker's step -/
def rawS (m : List Nat) (cnt d sp : Int) (pc st : Bool) (f : List Nat) (ch : Nat) : Out W := e_Looker_take_in_mode [.ref 0, .str [ch]] [lkO m cnt sp d pc st f]
/-- the same outcome with these numbers laid in -/
def nrm (cnt : Int) (D S : Option Int) : Out W → Out W
  | .ok (.bl true) [.ins _ [(_, .str m), (_, .int _), (_, .int s), (_, .int n), (_, .bl pc), (_, .bl st), (_, .str f)]] => .ok (.bl true) [lkO m cnt (S.getD s) (D.getD n) pc st f]
  | o => o
def isOne (l : List Nat) : List Nat → Bool
  | [c] => decide (c ∈ l)
  | _ => false
def firstOk (m f : List Nat) : Bool := if m = [105, 116, 101, 109, 115] then isOne clsS f else if m = [114, 97, 110, 103, 101] then isOne ranS f else true
def okF : Out W → Bool
  | .ok (.bl true) [.ins _ [(_, .str m), (_, .int _), (_, .int _), (_, .int _), (_, .bl _), (_, .bl _), (_, .str f)]] => firstOk m f
  | .ok (.bl false) c => c.all fun o => !o.fz
  | _ => true
def okD : Out W → Bool
  | .ok (.bl true) [.ins _ [(_, .str _), (_, .int _), (_, .int _), (_, .int n), (_, .bl _), (_, .bl _), (_, .str _)]] => decide (0 ≤ n) && decide (n ≤ 4)
  | _ => true
def okS : Out W → Bool
  | .ok (.bl true) [.ins _ [(_, .str _), (_, .int _), (_, .int s), (_, .int _), (_, .bl _), (_, .bl _), (_, .str _)]] => decide (0 ≤ s) && decide (s ≤ 10)
  | _ => true
abbrev T3 := Vw × Out W × Bool
def triA (cnt : Int) (D S : Option Int) (wh m : List Nat) (d sp : Int) (pc pc2 st : Bool) (f f2 : List Nat) (ch : Nat) : T3 := (lawSide wh d sp pc st f ch, nrm cnt D S (rawS m cnt d sp pc2 st f2 ch), okF (rawS m cnt d sp pc2 st f2 ch) && ((D.isSome || okD (rawS m cnt d sp pc2 st f2 ch)) && (S.isSome || okS (rawS m cnt d sp pc2 st f2 ch))))
def triB (cnt : Int) (m : List Nat) (d sp : Int) (pc2 st : Bool) (f2 : List Nat) (ch : Nat) : T3 := (lookV (rawS m cnt d sp pc2 st f2 ch), rawS m cnt d sp pc2 st f2 ch, true)

theorem row_a_false_0 (cnt d : Int) (pc : Bool) (f f2 : List Nat) : ([0, 1, 2, 3].map fun (sp : Nat) => signsA.map fun ch => triA cnt (some d) none [114, 111, 119] [112, 105, 101, 99, 101] d (sp : Nat) pc pc false f f2 ch) = ([0, 1, 2, 3].map fun (sp : Nat) => signsA.map fun ch => triB cnt [112, 105, 101, 99, 101] d (sp : Nat) pc false f2 ch) := by kernel_rfl
theorem row_a_false_1 (cnt d : Int) (pc : Bool) (f f2 : List Nat) : ([4, 5, 6, 7].map fun (sp : Nat) => signsA.map fun ch => triA cnt (some d) none [114, 111, 119] [112, 105, 101, 99, 101] d (sp : Nat) pc pc false f f2 ch) = ([4, 5, 6, 7].map fun (sp : Nat) => signsA.map fun ch => triB cnt [112, 105, 101, 99, 101] d (sp : Nat) pc false f2 ch) := by kernel_rfl
theorem row_a_false_2 (cnt d : Int) (pc : Bool) (f f2 : List Nat) : ([8, 9, 10].map fun (sp : Nat) => signsA.map fun ch => triA cnt (some d) none [114, 111, 119] [112, 105, 101, 99, 101] d (sp : Nat) pc pc false f f2 ch) = ([8, 9, 10].map fun (sp : Nat) => signsA.map fun ch => triB cnt [112, 105, 101, 99, 101] d (sp : Nat) pc false f2 ch) := by kernel_rfl
theorem row_b_false_0 (cnt : Int) (pc : Bool) (f f2 : List Nat) : (sp11.map fun (sp : Nat) => signsB.map fun ch => triA cnt none none [114, 111, 119] [112, 105, 101, 99, 101] 0 (sp : Nat) pc pc false f f2 ch) = (sp11.map fun (sp : Nat) => signsB.map fun ch => triB cnt [112, 105, 101, 99, 101] 0 (sp : Nat) pc false f2 ch) := by kernel_rfl
theorem row_b_false_1 (cnt : Int) (pc : Bool) (f f2 : List Nat) : (sp11.map fun (sp : Nat) => signsB.map fun ch => triA cnt none none [114, 111, 119] [112, 105, 101, 99, 101] 1 (sp : Nat) pc pc false f f2 ch) = (sp11.map fun (sp : Nat) => signsB.map fun ch => triB cnt [112, 105, 101, 99, 101] 1 (sp : Nat) pc false f2 ch) := by kernel_rfl
theorem row_b_false_2 (cnt : Int) (pc : Bool) (f f2 : List Nat) : (sp11.map fun (sp : Nat) => signsB.map fun ch => triA cnt none none [114, 111, 119] [112, 105, 101, 99, 101] 2 (sp : Nat) pc pc false f f2 ch) = (sp11.map fun (sp : Nat) => signsB.map fun ch => triB cnt [112, 105, 101, 99, 101] 2 (sp : Nat) pc false f2 ch) := by kernel_rfl
theorem row_b_false_3 (cnt : Int) (pc : Bool) (f f2 : List Nat) : (sp11.map fun (sp : Nat) => signsB.map fun ch => triA cnt none none [114, 111, 119] [112, 105, 101, 99, 101] 3 (sp : Nat) pc pc false f f2 ch) = (sp11.map fun (sp : Nat) => signsB.map fun ch => triB cnt [112, 105, 101, 99, 101] 3 (sp : Nat) pc false f2 ch) := by kernel_rfl
theorem row_b_false_4 (cnt : Int) (pc : Bool) (f f2 : List Nat) : (sp11.map fun (sp : Nat) => signsB.map fun ch => triA cnt none none [114, 111, 119] [112, 105, 101, 99, 101] 4 (sp : Nat) pc pc false f f2 ch) = (sp11.map fun (sp : Nat) => signsB.map fun ch => triB cnt [112, 105, 101, 99, 101] 4 (sp : Nat) pc false f2 ch) := by kernel_rfl
theorem row_a_true_0 (cnt d : Int) (pc : Bool) (f f2 : List Nat) : ([0, 1, 2, 3].map fun (sp : Nat) => signsA.map fun ch => triA cnt (some d) none [114, 111, 119] [112, 105, 101, 99, 101] d (sp : Nat) pc pc true f f2 ch) = ([0, 1, 2, 3].map fun (sp : Nat) => signsA.map fun ch => triB cnt [112, 105, 101, 99, 101] d (sp : Nat) pc true f2 ch) := by kernel_rfl
theorem row_a_true_1 (cnt d : Int) (pc : Bool) (f f2 : List Nat) : ([4, 5, 6, 7].map fun (sp : Nat) => signsA.map fun ch => triA cnt (some d) none [114, 111, 119] [112, 105, 101, 99, 101] d (sp : Nat) pc pc true f f2 ch) = ([4, 5, 6, 7].map fun (sp : Nat) => signsA.map fun ch => triB cnt [112, 105, 101, 99, 101] d (sp : Nat) pc true f2 ch) := by kernel_rfl
theorem row_a_true_2 (cnt d : Int) (pc : Bool) (f f2 : List Nat) : ([8, 9, 10].map fun (sp : Nat) => signsA.map fun ch => triA cnt (some d) none [114, 111, 119] [112, 105, 101, 99, 101] d (sp : Nat) pc pc true f f2 ch) = ([8, 9, 10].map fun (sp : Nat) => signsA.map fun ch => triB cnt [112, 105, 101, 99, 101] d (sp : Nat) pc true f2 ch) := by kernel_rfl
theorem row_b_true_0 (cnt : Int) (pc : Bool) (f f2 : List Nat) : (sp11.map fun (sp : Nat) => signsB.map fun ch => triA cnt none none [114, 111, 119] [112, 105, 101, 99, 101] 0 (sp : Nat) pc pc true f f2 ch) = (sp11.map fun (sp : Nat) => signsB.map fun ch => triB cnt [112, 105, 101, 99, 101] 0 (sp : Nat) pc true f2 ch) := by kernel_rfl
theorem row_b_true_1 (cnt : Int) (pc : Bool) (f f2 : List Nat) : (sp11.map fun (sp : Nat) => signsB.map fun ch => triA cnt none none [114, 111, 119] [112, 105, 101, 99, 101] 1 (sp : Nat) pc pc true f f2 ch) = (sp11.map fun (sp : Nat) => signsB.map fun ch => triB cnt [112, 105, 101, 99, 101] 1 (sp : Nat) pc true f2 ch) := by kernel_rfl
theorem row_b_true_2 (cnt : Int) (pc : Bool) (f f2 : List Nat) : (sp11.map fun (sp : Nat) => signsB.map fun ch => triA cnt none none [114, 111, 119] [112, 105, 101, 99, 101] 2 (sp : Nat) pc pc true f f2 ch) = (sp11.map fun (sp : Nat) => signsB.map fun ch => triB cnt [112, 105, 101, 99, 101] 2 (sp : Nat) pc true f2 ch) := by kernel_rfl
theorem row_b_true_3 (cnt : Int) (pc : Bool) (f f2 : List Nat) : (sp11.map fun (sp : Nat) => signsB.map fun ch => triA cnt none none [114, 111, 119] [112, 105, 101, 99, 101] 3 (sp : Nat) pc pc true f f2 ch) = (sp11.map fun (sp : Nat) => signsB.map fun ch => triB cnt [112, 105, 101, 99, 101] 3 (sp : Nat) pc true f2 ch) := by kernel_rfl
theorem row_b_true_4 (cnt : Int) (pc : Bool) (f f2 : List Nat) : (sp11.map fun (sp : Nat) => signsB.map fun ch => triA cnt none none [114, 111, 119] [112, 105, 101, 99, 101] 4 (sp : Nat) pc pc true f f2 ch) = (sp11.map fun (sp : Nat) => signsB.map fun ch => triB cnt [112, 105, 101, 99, 101] 4 (sp : Nat) pc true f2 ch) := by kernel_rfl
theorem row_c_false (cnt d : Int) (st : Bool) (f f2 : List Nat) : (sp11.map fun (sp : Nat) => signsC.map fun ch => triA cnt (some d) none [114, 111, 119] [112, 105, 101, 99, 101] d (sp : Nat) false false st f f2 ch) = (sp11.map fun (sp : Nat) => signsC.map fun ch => triB cnt [112, 105, 101, 99, 101] d (sp : Nat) false st f2 ch) := by kernel_rfl
theorem row_c_true (cnt d : Int) (st : Bool) (f f2 : List Nat) : (sp11.map fun (sp : Nat) => signsC.map fun ch => triA cnt (some d) none [114, 111, 119] [112, 105, 101, 99, 101] d (sp : Nat) true true st f f2 ch) = (sp11.map fun (sp : Nat) => signsC.map fun ch => triB cnt [112, 105, 101, 99, 101] d (sp : Nat) true st f2 ch) := by kernel_rfl
theorem m_slash (cnt d sp : Int) (pc pc2 st : Bool) (f f2 : List Nat) : (signs.map fun ch => triA cnt (some d) (some sp) [115, 108, 97, 115, 104] [101, 115, 99, 97, 112, 101] d sp pc pc2 st f f2 ch) = (signs.map fun ch => triB cnt [101, 115, 99, 97, 112, 101] d sp pc2 st f2 ch) := by kernel_rfl
theorem m_open (cnt d sp : Int) (pc pc2 st : Bool) (f f2 : List Nat) : (signs.map fun ch => triA cnt (some d) (some sp) [111, 112, 101, 110] [99, 108, 97, 115, 115] d sp pc pc2 st f f2 ch) = (signs.map fun ch => triB cnt [99, 108, 97, 115, 115] d sp pc2 st f2 ch) := by kernel_rfl
theorem m_bare (cnt d sp : Int) (pc pc2 st : Bool) (f f2 : List Nat) : (signs.map fun ch => triA cnt (some d) (some sp) [98, 97, 114, 101] [110, 101, 103, 97, 116, 101, 100] d sp pc pc2 st f f2 ch) = (signs.map fun ch => triB cnt [110, 101, 103, 97, 116, 101, 100] d sp pc2 st f2 ch) := by kernel_rfl
theorem m_done (cnt d sp : Int) (pc pc2 st : Bool) (f f2 : List Nat) : (signs.map fun ch => triA cnt (some d) (some sp) [100, 111, 110, 101] [114, 97, 110, 103, 101, 100] d sp pc pc2 st f f2 ch) = (signs.map fun ch => triB cnt [114, 97, 110, 103, 101, 100] d sp pc2 st f2 ch) := by kernel_rfl
theorem m_end (cnt d sp : Int) (pc pc2 st : Bool) (f f2 : List Nat) : (signs.map fun ch => triA cnt (some d) (some sp) [101, 110, 100] [101, 110, 100] d sp pc pc2 st f f2 ch) = (signs.map fun ch => triB cnt [101, 110, 100] d sp pc2 st f2 ch) := by kernel_rfl
theorem m_item (cnt d sp : Int) (pc pc2 st : Bool) (f : List Nat) : ((signs.filter fun c => !decide (c = 45)).map fun ch => triA cnt (some d) (some sp) [105, 116, 101, 109] [105, 116, 101, 109, 115] d sp pc pc2 st f f ch) = ((signs.filter fun c => !decide (c = 45)).map fun ch => triB cnt [105, 116, 101, 109, 115] d sp pc2 st f ch) := by kernel_rfl
theorem m_dash (cnt d sp : Int) (pc pc2 st : Bool) : (clsS.map fun g => triA cnt (some d) (some sp) [105, 116, 101, 109] [105, 116, 101, 109, 115] d sp pc pc2 st [g] [g] 45) = (clsS.map fun g => triB cnt [105, 116, 101, 109, 115] d sp pc2 st [g] 45) := by kernel_rfl
theorem m_to_0 (cnt d sp : Int) (pc pc2 st : Bool) : ([97, 98, 99, 100, 101, 102].map fun g => signs.map fun ch => triA cnt (some d) (some sp) [116, 111] [114, 97, 110, 103, 101] d sp pc pc2 st [g] [g] ch) = ([97, 98, 99, 100, 101, 102].map fun g => signs.map fun ch => triB cnt [114, 97, 110, 103, 101] d sp pc2 st [g] ch) := by kernel_rfl
theorem m_to_1 (cnt d sp : Int) (pc pc2 st : Bool) : ([103, 104, 105, 106, 107, 108].map fun g => signs.map fun ch => triA cnt (some d) (some sp) [116, 111] [114, 97, 110, 103, 101] d sp pc pc2 st [g] [g] ch) = ([103, 104, 105, 106, 107, 108].map fun g => signs.map fun ch => triB cnt [114, 97, 110, 103, 101] d sp pc2 st [g] ch) := by kernel_rfl
theorem m_to_2 (cnt d sp : Int) (pc pc2 st : Bool) : ([109, 110, 111, 112, 113, 114].map fun g => signs.map fun ch => triA cnt (some d) (some sp) [116, 111] [114, 97, 110, 103, 101] d sp pc pc2 st [g] [g] ch) = ([109, 110, 111, 112, 113, 114].map fun g => signs.map fun ch => triB cnt [114, 97, 110, 103, 101] d sp pc2 st [g] ch) := by kernel_rfl
theorem m_to_3 (cnt d sp : Int) (pc pc2 st : Bool) : ([115, 116, 117, 118, 119, 120].map fun g => signs.map fun ch => triA cnt (some d) (some sp) [116, 111] [114, 97, 110, 103, 101] d sp pc pc2 st [g] [g] ch) = ([115, 116, 117, 118, 119, 120].map fun g => signs.map fun ch => triB cnt [114, 97, 110, 103, 101] d sp pc2 st [g] ch) := by kernel_rfl
theorem m_to_4 (cnt d sp : Int) (pc pc2 st : Bool) : ([121, 65, 66, 67, 68, 69].map fun g => signs.map fun ch => triA cnt (some d) (some sp) [116, 111] [114, 97, 110, 103, 101] d sp pc pc2 st [g] [g] ch) = ([121, 65, 66, 67, 68, 69].map fun g => signs.map fun ch => triB cnt [114, 97, 110, 103, 101] d sp pc2 st [g] ch) := by kernel_rfl
theorem m_to_5 (cnt d sp : Int) (pc pc2 st : Bool) : ([70, 71, 72, 73, 74, 75].map fun g => signs.map fun ch => triA cnt (some d) (some sp) [116, 111] [114, 97, 110, 103, 101] d sp pc pc2 st [g] [g] ch) = ([70, 71, 72, 73, 74, 75].map fun g => signs.map fun ch => triB cnt [114, 97, 110, 103, 101] d sp pc2 st [g] ch) := by kernel_rfl
theorem m_to_6 (cnt d sp : Int) (pc pc2 st : Bool) : ([76, 77, 78, 79, 80, 81].map fun g => signs.map fun ch => triA cnt (some d) (some sp) [116, 111] [114, 97, 110, 103, 101] d sp pc pc2 st [g] [g] ch) = ([76, 77, 78, 79, 80, 81].map fun g => signs.map fun ch => triB cnt [114, 97, 110, 103, 101] d sp pc2 st [g] ch) := by kernel_rfl
theorem m_to_7 (cnt d sp : Int) (pc pc2 st : Bool) : ([82, 83, 84, 85, 86, 87].map fun g => signs.map fun ch => triA cnt (some d) (some sp) [116, 111] [114, 97, 110, 103, 101] d sp pc pc2 st [g] [g] ch) = ([82, 83, 84, 85, 86, 87].map fun g => signs.map fun ch => triB cnt [114, 97, 110, 103, 101] d sp pc2 st [g] ch) := by kernel_rfl
theorem m_to_8 (cnt d sp : Int) (pc pc2 st : Bool) : ([88, 89, 48, 49, 50, 51].map fun g => signs.map fun ch => triA cnt (some d) (some sp) [116, 111] [114, 97, 110, 103, 101] d sp pc pc2 st [g] [g] ch) = ([88, 89, 48, 49, 50, 51].map fun g => signs.map fun ch => triB cnt [114, 97, 110, 103, 101] d sp pc2 st [g] ch) := by kernel_rfl
theorem m_to_9 (cnt d sp : Int) (pc pc2 st : Bool) : ([52, 53, 54, 55, 56].map fun g => signs.map fun ch => triA cnt (some d) (some sp) [116, 111] [114, 97, 110, 103, 101] d sp pc pc2 st [g] [g] ch) = ([52, 53, 54, 55, 56].map fun g => signs.map fun ch => triB cnt [114, 97, 110, 103, 101] d sp pc2 st [g] ch) := by kernel_rfl
/-! ### one step keeps the two side by side -/
structure Q6 where
  (wh m : List Nat) (fi pi : Bool) (d sp : Int) (pc pc2 st : Bool) (f f2 : List Nat)
/-- the law's state and the Looker say the same -/
structure RelS (s : W) (o : O) (cnt : Int) (q : Q6) : Prop where
  hm : (q.wh, q.m, q.fi, q.pi) ∈ modeS
  hs : s = stW q.wh q.d q.sp q.pc q.st q.f
  ho : o = lkO q.m cnt q.sp q.d q.pc2 q.st q.f2
  hd : 0 ≤ q.d ∧ q.d ≤ 4
  hp : 0 ≤ q.sp ∧ q.sp ≤ 10
  hpc : q.pi = true → q.pc = q.pc2
  hfi : q.fi = true → q.f = q.f2
  hok : firstOk q.m q.f2 = true
theorem lawV_none {L : Out W} (h : lawV L = some none) : ∃ c, L = .ok .non c := by
  unfold lawV at h
  split at h
  · exact ⟨_, rfl⟩
  · split at h
    · cases h
    · cases h
  · cases h
theorem find_mode {wh : List Nat} {q : List Nat × List Nat × Bool × Bool} (h : modeS.find? (fun q => decide (q.1 = wh)) = some q) : q ∈ modeS ∧ q.1 = wh := ⟨List.mem_of_find?_eq_some h, by simpa using List.find?_some h⟩
theorem find_mode2 {m : List Nat} {q : List Nat × List Nat × Bool × Bool} (h : modeS.find? (fun q => decide (q.2.1 = m)) = some q) : q ∈ modeS ∧ q.2.1 = m := ⟨List.mem_of_find?_eq_some h, by simpa using List.find?_some h⟩
theorem mode_ne {q : List Nat × List Nat × Bool × Bool} (h : q ∈ modeS) : q.2.1 ≠ [] := by
  revert q
  decide
theorem mode_inj {q q2 : List Nat × List Nat × Bool × Bool} (h : q ∈ modeS) (h2 : q2 ∈ modeS) (e : q.2.1 = q2.2.1) : q = q2 := by
  have : ∀ q ∈ modeS, ∀ q2 ∈ modeS, q.2.1 = q2.2.1 → q = q2 := by decide
  exact this q h q2 h2 e
theorem bad_no (L : Out W) : lawV L ≠ badV := by
  intro hv
  unfold lawV badV at hv
  split at hv
  · cases hv
  · split at hv
    · rename_i q hq
      simp only [Option.some.injEq, Prod.mk.injEq] at hv
      exact mode_ne (find_mode hq).1 hv.1
    · cases hv
  · cases hv
theorem fin83 {L R : Out W} {cnt : Int} {D S : Option Int} (hv : lawV L = lookV R) (hn : nrm cnt D S R = R) (h1 : okF R = true) (h2 : (D.isSome || okD R) = true) (h3 : (S.isSome || okS R) = true)
    (hD : ∀ x, D = some x → 0 ≤ x ∧ x ≤ 4) (hS : ∀ x, S = some x → 0 ≤ x ∧ x ≤ 10) :
    (∃ c c2, L = .ok .non c ∧ R = .ok (.bl false) c2 ∧ (c2.all fun o => !o.fz) = true) ∨ ∃ s o c q, L = .ok s c ∧ R = .ok (.bl true) [o] ∧ RelS s o cnt q := by
  unfold lookV at hv
  split at hv
  · rename_i c2
    obtain ⟨c, e⟩ := lawV_none hv
    exact Or.inl ⟨c, c2, e, rfl, h1⟩
  · rename_i C k1 m k2 i0 k3 s2 k4 n k5 pc2 k6 st k7 f2
    have hn' : Out.ok (W.bl true) [lkO m cnt (S.getD s2) (D.getD n) pc2 st f2] = Out.ok (W.bl true) [.ins C [(k1, .str m), (k2, .int i0), (k3, .int s2), (k4, .int n), (k5, .bl pc2), (k6, .bl st), (k7, .str f2)]] := hn
    have en : D.getD n = n ∧ S.getD s2 = s2 := by
      simp only [lkO, Out.ok.injEq, List.cons.injEq, and_true, true_and, O.ins.injEq, Prod.mk.injEq, W.int.injEq] at hn'
      simp only [hn', and_self]
    have hd : 0 ≤ n ∧ n ≤ 4 := by
      cases D with
      | some x => exact en.1 ▸ hD x rfl
      | none => simpa [okD] using h2
    have hp : 0 ≤ s2 ∧ s2 ≤ 10 := by
      cases S with
      | some x => exact en.2 ▸ hS x rfl
      | none => simpa [okS] using h3
    rw [en.1, en.2] at hn'
    split at hv
    · rename_i q hq
      obtain ⟨hq1, hq2⟩ := find_mode2 hq
      unfold lawV at hv
      split at hv
      · cases hv
      · rename_i wh d sp pc st' f c
        split at hv
        · rename_i q' hq'
          obtain ⟨hq3, hq4⟩ := find_mode hq'
          simp only [Option.some.injEq, Prod.mk.injEq] at hv
          obtain ⟨e1, e2, e3, e4, e5, e6⟩ := hv
          have eq : q' = q := mode_inj hq3 hq1 (e1.trans hq2.symm)
          subst eq
          subst e2 e3 e4
          refine Or.inr ⟨_, _, c, ⟨wh, m, q'.2.2.1, q'.2.2.2, d, sp, pc, pc2, st', f, f2⟩, rfl, hn'.symm, ?_, rfl, rfl, hd, hp, ?_, ?_, h1⟩
          · show (wh, m, q'.2.2.1, q'.2.2.2) ∈ modeS
            rw [← hq4, ← hq2]
            exact hq1
          · intro hpi
            have : q'.2.2.2 = true := hpi
            simpa [this] using e5
          · intro hfi
            have : q'.2.2.1 = true := hfi
            simpa [this] using e6
        · cases hv
      · cases hv
    · exact absurd hv (bad_no L)
  · exact absurd hv (bad_no L)
/-! ### the step, whole -/
theorem map_at {α β : Type} {l : List α} {F G : α → β} (h : l.map F = l.map G) : ∀ a ∈ l, F a = G a := List.map_inj_left.mp h
abbrev Step83 (cnt : Int) (L R : Out W) : Prop := (∃ c c2, L = .ok .non c ∧ R = .ok (.bl false) c2 ∧ (c2.all fun o => !o.fz) = true) ∨ ∃ s o c q, L = .ok s c ∧ R = .ok (.bl true) [o] ∧ RelS s o cnt q
theorem tri_fin {cnt : Int} {D S : Option Int} {wh m : List Nat} {d sp : Int} {pc pc2 st : Bool} {f f2 : List Nat} {ch : Nat} (h : triA cnt D S wh m d sp pc pc2 st f f2 ch = triB cnt m d sp pc2 st f2 ch)
    (hD : ∀ x, D = some x → 0 ≤ x ∧ x ≤ 4) (hS : ∀ x, S = some x → 0 ≤ x ∧ x ≤ 10) : Step83 cnt (e__law_behind [stW wh d sp pc st f, .str [ch]] []) (rawS m cnt d sp pc2 st f2 ch) := by
  unfold triA triB at h
  simp only [Prod.mk.injEq, Bool.and_eq_true] at h
  obtain ⟨h1, h2, h3, h4, h5⟩ := h
  exact fin83 h1 h2 h3 h4 h5 hD hS
theorem sp_nat {sp : Int} (h : 0 ≤ sp ∧ sp ≤ 10) : ∃ n ∈ sp11, sp = ((n : Nat) : Int) := by
  refine ⟨sp.toNat, ?_, by omega⟩
  have h1 : sp.toNat < 11 := by omega
  have h2 : ∀ k, k < 11 → k ∈ sp11 := by decide
  exact h2 _ h1
theorem one_of {l f : List Nat} (h : isOne l f = true) : ∃ g ∈ l, f = [g] := by
  unfold isOne at h
  split at h
  · exact ⟨_, of_decide_eq_true h, rfl⟩
  · cases h
theorem step83 {s : W} {o : O} {cnt : Int} {q : Q6} {ch : Nat} (h : RelS s o cnt q) (hch : ch ∈ signs) :
    Step83 cnt (e__law_behind [s, .str [ch]] []) (e_Looker_take_in_mode [.ref 0, .str [ch]] [o]) := by
  obtain ⟨wh, m, fi, pi, d, sp, pc, pc2, st, f, f2⟩ := q
  obtain ⟨hm, rfl, rfl, hd, hp, hpc, hfi, hok⟩ := h
  simp only at hm hd hp hpc hfi hok ⊢
  have n2 : ∀ (v lo hi : Int), lo ≤ v ∧ v ≤ hi → ∀ x, some v = some x → lo ≤ x ∧ x ≤ hi := by
    intro v lo hi hv x e
    cases e
    exact hv
  have n0 : ∀ (lo hi : Int) (x : Int), (none : Option Int) = some x → lo ≤ x ∧ x ≤ hi := fun _ _ _ e => nomatch e
  simp only [modeS, List.mem_cons, Prod.mk.injEq, List.not_mem_nil, or_false] at hm
  rcases hm with ⟨rfl, rfl, rfl, rfl⟩ | ⟨rfl, rfl, rfl, rfl⟩ | ⟨rfl, rfl, rfl, rfl⟩ | ⟨rfl, rfl, rfl, rfl⟩ | ⟨rfl, rfl, rfl, rfl⟩ | ⟨rfl, rfl, rfl, rfl⟩ | ⟨rfl, rfl, rfl, rfl⟩ | ⟨rfl, rfl, rfl, rfl⟩
  · have e := hpc rfl
    subst e
    obtain ⟨n, hn, rfl⟩ := sp_nat hp
    have hc : ch ∈ signsA ∨ ch ∈ signsB ∨ ch ∈ signsC := (by decide : ∀ ch ∈ signs, ch ∈ signsA ∨ ch ∈ signsB ∨ ch ∈ signsC) ch hch
    have hn3 : n ∈ [0, 1, 2, 3] ∨ n ∈ [4, 5, 6, 7] ∨ n ∈ [8, 9, 10] := (by decide : ∀ n ∈ sp11, n ∈ [0, 1, 2, 3] ∨ n ∈ [4, 5, 6, 7] ∨ n ∈ [8, 9, 10]) n hn
    rcases hc with hc | hc | hc
    · cases st with
      | false =>
        rcases hn3 with h3 | h3 | h3
        · exact tri_fin (map_at (map_at (row_a_false_0 cnt d pc f f2) n h3) ch hc) (n2 _ _ _ hd) (n0 _ _)
        · exact tri_fin (map_at (map_at (row_a_false_1 cnt d pc f f2) n h3) ch hc) (n2 _ _ _ hd) (n0 _ _)
        · exact tri_fin (map_at (map_at (row_a_false_2 cnt d pc f f2) n h3) ch hc) (n2 _ _ _ hd) (n0 _ _)
      | true =>
        rcases hn3 with h3 | h3 | h3
        · exact tri_fin (map_at (map_at (row_a_true_0 cnt d pc f f2) n h3) ch hc) (n2 _ _ _ hd) (n0 _ _)
        · exact tri_fin (map_at (map_at (row_a_true_1 cnt d pc f f2) n h3) ch hc) (n2 _ _ _ hd) (n0 _ _)
        · exact tri_fin (map_at (map_at (row_a_true_2 cnt d pc f f2) n h3) ch hc) (n2 _ _ _ hd) (n0 _ _)
    · have hd5 : d = 0 ∨ d = 1 ∨ d = 2 ∨ d = 3 ∨ d = 4 := by omega
      cases st with
      | false =>
        rcases hd5 with rfl | rfl | rfl | rfl | rfl
        · exact tri_fin (map_at (map_at (row_b_false_0 cnt pc f f2) n hn) ch hc) (n0 _ _) (n0 _ _)
        · exact tri_fin (map_at (map_at (row_b_false_1 cnt pc f f2) n hn) ch hc) (n0 _ _) (n0 _ _)
        · exact tri_fin (map_at (map_at (row_b_false_2 cnt pc f f2) n hn) ch hc) (n0 _ _) (n0 _ _)
        · exact tri_fin (map_at (map_at (row_b_false_3 cnt pc f f2) n hn) ch hc) (n0 _ _) (n0 _ _)
        · exact tri_fin (map_at (map_at (row_b_false_4 cnt pc f f2) n hn) ch hc) (n0 _ _) (n0 _ _)
      | true =>
        rcases hd5 with rfl | rfl | rfl | rfl | rfl
        · exact tri_fin (map_at (map_at (row_b_true_0 cnt pc f f2) n hn) ch hc) (n0 _ _) (n0 _ _)
        · exact tri_fin (map_at (map_at (row_b_true_1 cnt pc f f2) n hn) ch hc) (n0 _ _) (n0 _ _)
        · exact tri_fin (map_at (map_at (row_b_true_2 cnt pc f f2) n hn) ch hc) (n0 _ _) (n0 _ _)
        · exact tri_fin (map_at (map_at (row_b_true_3 cnt pc f f2) n hn) ch hc) (n0 _ _) (n0 _ _)
        · exact tri_fin (map_at (map_at (row_b_true_4 cnt pc f f2) n hn) ch hc) (n0 _ _) (n0 _ _)
    · cases pc with
      | false => exact tri_fin (map_at (map_at (row_c_false cnt d st f f2) n hn) ch hc) (n2 _ _ _ hd) (n0 _ _)
      | true => exact tri_fin (map_at (map_at (row_c_true cnt d st f f2) n hn) ch hc) (n2 _ _ _ hd) (n0 _ _)
  · exact tri_fin (map_at (m_slash cnt d sp pc pc2 st f f2) ch hch) (n2 _ _ _ hd) (n2 _ _ _ hp)
  · exact tri_fin (map_at (m_open cnt d sp pc pc2 st f f2) ch hch) (n2 _ _ _ hd) (n2 _ _ _ hp)
  · exact tri_fin (map_at (m_bare cnt d sp pc pc2 st f f2) ch hch) (n2 _ _ _ hd) (n2 _ _ _ hp)
  · have e := hfi rfl
    subst e
    by_cases h45 : ch = 45
    · subst h45
      have hk : isOne clsS f = true := hok
      obtain ⟨g, hg, rfl⟩ := one_of hk
      exact tri_fin (map_at (m_dash cnt d sp pc pc2 st) g hg) (n2 _ _ _ hd) (n2 _ _ _ hp)
    · exact tri_fin (map_at (m_item cnt d sp pc pc2 st f) ch (List.mem_filter.mpr ⟨hch, by simp [h45]⟩)) (n2 _ _ _ hd) (n2 _ _ _ hp)
  · exact tri_fin (map_at (m_done cnt d sp pc pc2 st f f2) ch hch) (n2 _ _ _ hd) (n2 _ _ _ hp)
  · have e := hfi rfl
    subst e
    have hk : isOne ranS f = true := hok
    obtain ⟨g, hg, rfl⟩ := one_of hk
    have hc : g ∈ [97, 98, 99, 100, 101, 102] ∨ g ∈ [103, 104, 105, 106, 107, 108] ∨ g ∈ [109, 110, 111, 112, 113, 114] ∨ g ∈ [115, 116, 117, 118, 119, 120] ∨ g ∈ [121, 65, 66, 67, 68, 69] ∨ g ∈ [70, 71, 72, 73, 74, 75] ∨ g ∈ [76, 77, 78, 79, 80, 81] ∨ g ∈ [82, 83, 84, 85, 86, 87] ∨ g ∈ [88, 89, 48, 49, 50, 51] ∨ g ∈ [52, 53, 54, 55, 56] := (by decide : ∀ g ∈ ranS, g ∈ [97, 98, 99, 100, 101, 102] ∨ g ∈ [103, 104, 105, 106, 107, 108] ∨ g ∈ [109, 110, 111, 112, 113, 114] ∨ g ∈ [115, 116, 117, 118, 119, 120] ∨ g ∈ [121, 65, 66, 67, 68, 69] ∨ g ∈ [70, 71, 72, 73, 74, 75] ∨ g ∈ [76, 77, 78, 79, 80, 81] ∨ g ∈ [82, 83, 84, 85, 86, 87] ∨ g ∈ [88, 89, 48, 49, 50, 51] ∨ g ∈ [52, 53, 54, 55, 56]) g hg
    rcases hc with hc | hc | hc | hc | hc | hc | hc | hc | hc | hc
    · exact tri_fin (map_at (map_at (m_to_0 cnt d sp pc pc2 st) g hc) ch hch) (n2 _ _ _ hd) (n2 _ _ _ hp)
    · exact tri_fin (map_at (map_at (m_to_1 cnt d sp pc pc2 st) g hc) ch hch) (n2 _ _ _ hd) (n2 _ _ _ hp)
    · exact tri_fin (map_at (map_at (m_to_2 cnt d sp pc pc2 st) g hc) ch hch) (n2 _ _ _ hd) (n2 _ _ _ hp)
    · exact tri_fin (map_at (map_at (m_to_3 cnt d sp pc pc2 st) g hc) ch hch) (n2 _ _ _ hd) (n2 _ _ _ hp)
    · exact tri_fin (map_at (map_at (m_to_4 cnt d sp pc pc2 st) g hc) ch hch) (n2 _ _ _ hd) (n2 _ _ _ hp)
    · exact tri_fin (map_at (map_at (m_to_5 cnt d sp pc pc2 st) g hc) ch hch) (n2 _ _ _ hd) (n2 _ _ _ hp)
    · exact tri_fin (map_at (map_at (m_to_6 cnt d sp pc pc2 st) g hc) ch hch) (n2 _ _ _ hd) (n2 _ _ _ hp)
    · exact tri_fin (map_at (map_at (m_to_7 cnt d sp pc pc2 st) g hc) ch hch) (n2 _ _ _ hd) (n2 _ _ _ hp)
    · exact tri_fin (map_at (map_at (m_to_8 cnt d sp pc pc2 st) g hc) ch hch) (n2 _ _ _ hd) (n2 _ _ _ hp)
    · exact tri_fin (map_at (map_at (m_to_9 cnt d sp pc pc2 st) g hc) ch hch) (n2 _ _ _ hd) (n2 _ _ _ hp)
  · exact tri_fin (map_at (m_end cnt d sp pc pc2 st f f2) ch hch) (n2 _ _ _ hd) (n2 _ _ _ hp)
/-! ### both runs -/
mutual
theorem sh_zero : ∀ x : W, sh 0 x = x
  | .ref _ => rfl
  | .tup xs => by show W.tup (shL 0 xs) = _; rw [shL_zero xs]
  | .lst xs => by show W.lst (shL 0 xs) = _; rw [shL_zero xs]
  | .wls xs => by show W.wls (shL 0 xs) = _; rw [shL_zero xs]
  | .wtp xs => by show W.wtp (shL 0 xs) = _; rw [shL_zero xs]
  | .non => rfl
  | .bl _ => rfl
  | .int _ => rfl
  | .str _ => rfl
  | .ty _ => rfl
  | .glo _ => rfl
  | .exn _ _ => rfl
  | .exb _ => rfl
theorem shL_zero : ∀ xs : List W, shL 0 xs = xs
  | [] => rfl
  | x :: xs => by show sh 0 x :: shL 0 xs = _; rw [sh_zero x, shL_zero xs]
end
theorem fr_up {f : Fn} {ws : List W} {s : W} {c0 : Conf} (h : eFr f ws [] = .ok s c0) (hs : noRef s = true) (c : Conf) : ∃ D, eFr f ws c = .ok s (c ++ D) ∧ (D.all fun o => !o.fz) = true := by
  unfold eFr at h ⊢
  split at h
  · rename_i hn
    rw [if_pos hn]
    revert h
    cases f ws [] with
    | ok x D0 =>
      intro h
      have h' : (if (D0.all fun o => !o.fz) = true then Out.ok (sh 0 x) ([] ++ D0.map (shO 0)) else .bad) = Out.ok s c0 := h
      show ∃ D, (if (D0.all fun o => !o.fz) = true then Out.ok (sh c.length x) (c ++ D0.map (shO c.length)) else .bad) = Out.ok s (c ++ D) ∧ _
      by_cases hd : (D0.all fun o => !o.fz) = true
      · rw [if_pos hd] at h' ⊢
        have e : sh 0 x = s := by
          simp only [Out.ok.injEq] at h'
          exact h'.1
        rw [sh_zero] at e
        subst e
        refine ⟨D0.map (shO c.length), by rw [sh_noRef hs], ?_⟩
        rw [List.all_map]
        refine List.all_eq_true.mpr fun o ho => ?_
        show (!(shO c.length o).fz) = true
        rw [shO_fz]
        exact List.all_eq_true.mp hd o ho
      · rw [if_neg hd] at h'
        cases h'
    | exc x D0 =>
      intro h
      have h' : (if (D0.all fun o => !o.fz) = true then Out.exc (shX 0 x) ([] ++ D0.map (shO 0)) else .bad) = Out.ok s c0 := h
      split at h' <;> cases h'
    | bad => intro h; cases h
  · cases h
theorem fr_dn {f : Fn} {ws : List W} {s : W} (hn : noRefL ws = true) (hs : noRef s = true) (h : OP (f ws []) (fun r c => r = s ∧ (c.all fun o => !o.fz) = true) noE) : ∃ c0, eFr f ws [] = .ok s c0 := by
  obtain ⟨x, c, e, rfl, hc⟩ := h.ok
  unfold eFr
  rw [if_pos hn, e]
  show ∃ c0, (if (c.all fun o => !o.fz) = true then Out.ok (sh 0 x) ([] ++ c.map (shO 0)) else .bad) = Out.ok x c0
  rw [if_pos hc, sh_noRef hs]
  exact ⟨_, rfl⟩
/-- the law's run, from a state on -/
def dueR : Nat → W → List Nat → Int ⊕ W
  | _, s, [] => .inr s
  | i, s, ch :: t => match e__law_behind [s, .str [ch]] [] with
    | .ok .non _ => .inl i
    | .ok s' _ => if i = 60 then .inl i else dueR (i + 1) s' t
    | _ => .inl i
def needs83 : List (List Nat × W) := [([111, 112, 101, 110], .int 2), ([98, 97, 114, 101], .int 2), ([116, 111], .int 2), ([105, 116, 101, 109], .int 1), ([100, 111, 110, 101], .int 1), ([115, 108, 97, 115, 104], .int 1)]
def needI (wh : List Nat) : Int := if wh = [111, 112, 101, 110] ∨ wh = [98, 97, 114, 101] ∨ wh = [116, 111] then 2 else if wh = [105, 116, 101, 109] ∨ wh = [100, 111, 110, 101] ∨ wh = [115, 108, 97, 115, 104] then 1 else 0
def endOk : W → Bool
  | .tup (.str wh :: .int d :: _) => decide (d + needI wh = 0)
  | _ => false
def s083 : W := stW [114, 111, 119] 0 0 false false []
def dueV (t : List Nat) : W := match dueR 0 s083 t with
  | .inl i => .int i
  | .inr s => if endOk s = true then .non else .int t.length
def Rl83 (s : W) : Prop := ∃ o cnt q, RelS s o cnt q
theorem rl_st {s : W} (h : Rl83 s) : ∃ wh d sp pc st f, s = stW wh d sp pc st f ∧ (∃ m fi pi, (wh, m, fi, pi) ∈ modeS) := by
  obtain ⟨o, cnt, q, h⟩ := h
  exact ⟨_, _, _, _, _, _, h.hs, _, _, _, h.hm⟩
/-- one step of the law's run -/
theorem dueR_step {s : W} {ch : Nat} (h : Rl83 s) (hch : ch ∈ signs) : (∃ c, e__law_behind [s, .str [ch]] [] = .ok .non c ∧ ∀ i t, dueR i s (ch :: t) = .inl (i : Nat)) ∨ ∃ s' c, e__law_behind [s, .str [ch]] [] = .ok s' c ∧ Rl83 s' ∧ ∀ i t, dueR i s (ch :: t) = if i = 60 then .inl (i : Nat) else dueR (i + 1) s' t := by
  obtain ⟨o, cnt, q, h⟩ := h
  rcases step83 h hch with ⟨c, c2, e, _, _⟩ | ⟨s', o', c, q', e, _, h'⟩
  · refine Or.inl ⟨c, e, fun i t => ?_⟩
    show (match e__law_behind [s, .str [ch]] [] with
      | .ok .non _ => Sum.inl (i : Int)
      | .ok s' _ => if i = 60 then .inl (i : Int) else dueR (i + 1) s' t
      | _ => .inl i) = _
    rw [e]
  · refine Or.inr ⟨s', c, e, ⟨o', cnt, q', h'⟩, fun i t => ?_⟩
    show (match e__law_behind [s, .str [ch]] [] with
      | .ok .non _ => Sum.inl (i : Int)
      | .ok s' _ => if i = 60 then .inl (i : Int) else dueR (i + 1) s' t
      | _ => .inl i) = _
    rw [e, h'.hs]
    rfl
theorem goPs_c (ss : Sl) : ∀ (ps : List (List Nat × W)) (c : Conf), goPs (ps.map fun p => (eC (.str p.1), eC p.2)) ss c = .ok (ps.map fun p => (Ky.s p.1, p.2)) c
  | [], c => rfl
  | p :: ps, c => by
    show ((eC (.str p.1) ss c).bind fun x c1 => _) = _
    simp only [eC, Out.bind, toKy, goPs_c ss ps c]
    rfl
theorem w_dispC (ps : List (List Nat × W)) {ss : Sl} {c : Conf} {P : W → Conf → Prop} {E : Xc → Conf → Prop} (hl : ps.length ≤ 15) (h : P (.ref c.length) (c ++ [.dic ((ps.map fun p => (Ky.s p.1, p.2)).foldl (fun acc p => putD acc p.1 p.2) [])])) : OP (eDisp (ps.map fun p => (eC (.str p.1), eC p.2)) ss c) P E := by
  unfold eDisp
  rw [goPs_c]
  simp only [Out.bind]
  rw [List.getElem?_append_right (Nat.le_refl _), Nat.sub_self]
  simp only [List.getElem?_cons_zero]
  rw [if_pos (by rw [List.length_map]; exact hl), List.set_append_right _ _ (Nat.le_refl _), Nat.sub_self]
  exact h
theorem atW_mid83 {pre u : List Nat} {ch : Nat} : atW (pre ++ ch :: u) ((pre.length : Nat) : Int) = some ch := by
  unfold atW L2.ixN
  rw [if_pos (by omega), if_pos (by simp; omega)]
  simp
def N83 : O := .dic ((needs83.map fun p => (Ky.s p.1, p.2)).foldl (fun acc p => putD acc p.1 p.2) [])
theorem rl83_0 : Rl83 s083 := ⟨lkO [112, 105, 101, 99, 101] 0 0 0 false false [], 0, ⟨[114, 111, 119], [112, 105, 101, 99, 101], false, true, 0, 0, false, false, false, [], []⟩, by decide, rfl, rfl, by decide, by decide, fun _ => rfl, (fun z => nomatch z), rfl⟩
theorem due_core {t : List Nat} (ht : ∀ ch ∈ t, ch ∈ signs) (hl : t.length ≤ 100000) : OP (eDef 1 4 b__law_due [.str t] []) (fun r c => r = dueV t ∧ (c.all fun o => !o.fz) = true) noE := by
  unfold b__law_due
  refine w_def rfl (w_seq (w_par ?_))
  refine w_cons (w_tup (w_cons (w_c (w_cons (w_c (w_cons (w_c (w_cons (w_c (w_cons (w_c (w_cons (w_c (w_nil ⟨by decide, ?_⟩))))))))))))))
  refine w_cons (w_dispC needs83 (by decide) (w_nil ⟨_, _, rfl, ?_⟩))
  refine w_seq (w_forR (w_cons (w_cb (w_cons (w_var rfl rfl (w_nil (w_lenS (by omega) (w_nil ⟨_, rfl, ⟨by omega, by omega⟩, ?_⟩))))))))
  refine w_goFor (fun a r ss c => ∃ (i : Nat) (s : W) (u : List Nat) (x3 : Option W) (D : Conf), r = rangeW i u.length ∧ (∃ pre, t = pre ++ u ∧ pre.length = i) ∧ Rl83 s ∧ dueR 0 s083 t = dueR i s u ∧ ss = [some (.str t), some s, some (.ref 0), x3] ∧ c = N83 :: D ∧ (D.all fun o => !o.fz) = true) ?_ ?_ _ [] _ _ ⟨0, s083, t, none, [], rfl, ⟨[], rfl, rfl⟩, rl83_0, rfl, rfl, rfl, rfl⟩
  · rintro a x r ss c ⟨i, s, u, x3, D, hr, ⟨pre, rfl, hi⟩, h, hd, rfl, rfl, hD⟩
    cases u with
    | nil => cases hr
    | cons ch u =>
    obtain ⟨rfl, rfl⟩ := List.cons.inj hr
    have hch : ch ∈ signs := ht ch (by simp)
    obtain ⟨wh, d, sp, pc, st, f, rfl, _⟩ := rl_st h
    refine ⟨_, rfl, ?_⟩
    refine w_seq (w_asg (w_call0 (w_cons (w_var rfl rfl (w_cons (w_bin (w_var rfl rfl (w_var rfl rfl (w_ixS (by omega) (n := ch) (by rw [← hi]; exact atW_mid83) (w_nil ?_))))))))))
    rcases dueR_step h hch with ⟨c0, e, hs⟩ | ⟨s', c0, e, h', hs⟩
    · obtain ⟨D', e', hD'⟩ := fr_up (f := eDef 2 9 b__law_behind) e rfl (N83 :: D)
      refine w_rfl e' ?_
      refine w_ifS (w_bOr (w_bB (w_bin (w_var rfl rfl (w_c (w_rfl (x := .bl true) rfl ⟨_, rfl, ⟨fun _ => ⟨fun _ => ?_, (fun z => nomatch z)⟩, (fun z => nomatch z)⟩⟩))))))
      refine w_ret (w_var rfl rfl ⟨?_, ?_⟩)
      · unfold dueV
        rw [hd, hs]
      · simp [hD, hD']
        rfl
    · obtain ⟨wh', d', sp', pc', st', f', rfl, _⟩ := rl_st h'
      obtain ⟨D', e', hD'⟩ := fr_up (f := eDef 2 9 b__law_behind) e rfl (N83 :: D)
      refine w_rfl e' ?_
      refine w_ifS (w_bOr (w_bB (w_bin (w_var rfl rfl (w_c (w_rfl (x := .bl false) rfl ⟨_, rfl, ⟨(fun z => nomatch z), fun _ => ?_⟩⟩))))))
      refine w_bB (w_bin (w_var rfl rfl (w_c (w_eq eqC_i (w_bl ⟨fun hb => ?_, fun hb => ?_⟩)))))
      · have h60 : i = 60 := by have := of_decide_eq_true hb; omega
        refine w_ret (w_var rfl rfl ⟨?_, ?_⟩)
        · unfold dueV
          rw [hd, hs, if_pos h60]
        · simp [hD, hD']
          rfl
      · have h60 : ¬ i = 60 := by have := of_decide_eq_false hb; omega
        refine w_next ⟨i + 1, _, u, _, D ++ D', rfl, ⟨pre ++ [ch], by simp, by simp [hi]⟩, h', ?_, rfl, rfl, by simp [hD, hD']⟩
        rw [hd, hs, if_neg h60]
  · rintro a ss c ⟨i, s, u, x3, D, hr, ⟨pre, rfl, hi⟩, h, hd, rfl, rfl, hD⟩
    cases u with
    | cons ch u => cases hr
    | nil =>
    obtain ⟨wh, d, sp, pc, st, f, rfl, m, fi, pi, hm⟩ := rl_st h
    have hfz : ((N83 :: D).all fun o => !o.fz) = true := by
      simp [hD]
      rfl
    have fin : ∀ k, d + needI wh = d + k → OP (eBin oAddA (eBin oIx (eVar 1) (eC (.int 1))) (eDGet2 (eVar 2) (eBin oIx (eVar 1) (eC (.int 0))) (eC (.int 0))) [some (W.str (pre ++ [])), some (stW wh d sp pc st f), some (W.ref 0), x3] (N83 :: D)) (fun x c => x = .int (d + k) ∧ c = N83 :: D) noE →
        SP (sRet (eIf (bB (eBin oEq (eBin oAddA (eBin oIx (eVar 1) (eC (.int 1))) (eDGet2 (eVar 2) (eBin oIx (eVar 1) (eC (.int 0))) (eC (.int 0)))) (eC (.int 0)))) (eC .non) (eCB oLen (aCons (eVar 0) aNil))) [some (W.str (pre ++ [])), some (stW wh d sp pc st f), some (W.ref 0), x3] (N83 :: D)) ⟨fun _ c => W.non = dueV (pre ++ []) ∧ (c.all fun o => !o.fz) = true, fun r c => r = dueV (pre ++ []) ∧ (c.all fun o => !o.fz) = true, fun _ _ => False, fun _ _ => False, fun x _ c => noE x c⟩ := by
      intro k hk ho
      obtain ⟨x, c, e, rfl, rfl⟩ := ho.ok
      have ev : dueV (pre ++ []) = if endOk (stW wh d sp pc st f) = true then .non else .int (pre ++ []).length := by
        unfold dueV
        rw [hd]
        rfl
      have ek : endOk (stW wh d sp pc st f) = decide (d + k = 0) := by
        show decide (d + needI wh = 0) = _
        rw [hk]
      refine w_ret (w_if (w_bB (w_bin (w_rfl e (w_c (w_eq eqC_i (w_bl ⟨fun hb => ?_, fun hb => ?_⟩)))))))
      · refine w_c ⟨?_, hfz⟩
        rw [ev, ek, if_pos hb]
      · refine w_cb (w_cons (w_var rfl rfl (w_nil (w_lenS (by omega) ⟨?_, hfz⟩))))
        rw [ev, ek, hb]
        rfl
    simp only [modeS, List.mem_cons, Prod.mk.injEq, List.not_mem_nil, or_false] at hm
    rcases hm with ⟨rfl, _⟩ | ⟨rfl, _⟩ | ⟨rfl, _⟩ | ⟨rfl, _⟩ | ⟨rfl, _⟩ | ⟨rfl, _⟩ | ⟨rfl, _⟩ | ⟨rfl, _⟩
    · exact fin 0 rfl (w_rfl rfl ⟨rfl, rfl⟩)
    · exact fin 1 rfl (w_rfl rfl ⟨rfl, rfl⟩)
    · exact fin 2 rfl (w_rfl rfl ⟨rfl, rfl⟩)
    · exact fin 2 rfl (w_rfl rfl ⟨rfl, rfl⟩)
    · exact fin 1 rfl (w_rfl rfl ⟨rfl, rfl⟩)
    · exact fin 1 rfl (w_rfl rfl ⟨rfl, rfl⟩)
    · exact fin 2 rfl (w_rfl rfl ⟨rfl, rfl⟩)
    · exact fin 0 rfl (w_rfl rfl ⟨rfl, rfl⟩)
theorem w_forES {k : Kn} {ss : Sl} {c : Conf} {aa : Ea} {p : Pat} {sa : Es} (h : OP (aa ss c) (fun xs c1 => ∃ s, xs = [.str s] ∧ SP (goFor p sa (enumW 0 (s.map fun n => .str [n])) ss c1) k) fun x c1 => k.xc x ss c1) : SP (sForES aa p sa ss c) k := by
  refine w_lift (h.imp ?_ fun _ _ h => h)
  rintro x c1 ⟨xs, rfl, h2⟩
  exact h2
theorem signs_al : ∀ ch ∈ signs, ch ∈ z_81 := by decide
theorem dueR_eq {i : Nat} {s : W} {ch : Nat} {u : List Nat} : dueR i s (ch :: u) = (match e__law_behind [s, .str [ch]] [] with
      | .ok .non _ => Sum.inl (i : Int)
      | .ok s' _ => if i = 60 then .inl (i : Int) else dueR (i + 1) s' u
      | _ => .inl i) := rfl
theorem looker_take {s : W} {o : O} {i : Nat} {q : Q6} {ch : Nat} (h : RelS s o (i : Nat) q) (hi : i ≤ 60) (hch : ch ∈ signs) : OP (e_Looker_take [.ref 0, .str [ch]] [o]) (fun r c => (r = .bl false ∧ (c.all fun o => !o.fz) = true ∧ ∀ u, dueR i s (ch :: u) = .inl (i : Nat)) ∨
    (r = .bl true ∧ i < 60 ∧ ∃ s' o' q', c = [o'] ∧ RelS s' o' ((i + 1 : Nat) : Int) q' ∧ ∀ u, dueR i s (ch :: u) = dueR (i + 1) s' u)) noE := by
  have ho := h.ho
  subst ho
  have h2 : RelS s (lkO q.m ((i + 1 : Nat) : Int) q.sp q.d q.pc2 q.st q.f2) ((i + 1 : Nat) : Int) q := { h with ho := rfl }
  have hst := step83 h2 hch
  refine w_def rfl (w_seq (w_augF (w_var rfl rfl ⟨0, _, .int (i : Nat), rfl, rfl, rfl, w_c (w_rfl (x := .int ((i : Nat) + 1 : Int)) rfl ⟨_, rfl, by show 7 < 1000; decide, ?_⟩)⟩)))
  show SP (sRet _ _ [lkO q.m ((i + 1 : Nat) : Int) q.sp q.d q.pc2 q.st q.f2]) _
  refine w_ret (w_and (w_bin (w_fld (w_var rfl rfl ⟨_, .int ((i + 1 : Nat) : Int), rfl, rfl, w_c (w_leA (w_bl ⟨fun hb => ?_, fun hb => ?_⟩))⟩))))
  · have hlt : i < 60 := by have := of_decide_eq_true hb; omega
    refine w_and (w_bin (w_var rfl rfl (w_c (w_inS (w_bl ⟨fun _ => ?_, fun hb2 => absurd (signs_al ch hch) (of_decide_eq_false hb2)⟩)))))
    refine w_meth (w_var rfl rfl ⟨_, rfl, rfl, w_cons (w_var rfl rfl (w_nil ?_))⟩)
    show OP (e_Looker_take_in_mode [.ref 0, .str [ch]] [lkO q.m ((i + 1 : Nat) : Int) q.sp q.d q.pc2 q.st q.f2]) _ _
    rcases hst with ⟨c, c2, e, e2, hz⟩ | ⟨s', o', c, q', e, e2, h'⟩
    · refine w_rfl e2 (Or.inl ⟨rfl, hz, fun u => ?_⟩)
      rw [dueR_eq, e]
    · refine w_rfl e2 (Or.inr ⟨rfl, hlt, s', o', q', rfl, h', fun u => ?_⟩)
      rw [dueR_eq, e, h'.hs]
      show (if i = 60 then _ else _) = _
      rw [if_neg (by omega)]
  · have hlt : i = 60 := by have := of_decide_eq_false hb; omega
    refine Or.inl ⟨rfl, rfl, fun u => ?_⟩
    subst hlt
    rcases hst with ⟨c, c2, e, e2, hz⟩ | ⟨s', o', c, q', e, e2, h'⟩
    · rw [dueR_eq, e]
    · rw [dueR_eq, e, h'.hs]
      rfl
theorem per_core {t : List Nat} (ht : ∀ ch ∈ t, ch ∈ signs) (hl : t.length ≤ 100000) : OP (eDef 1 4 b_pattern_error [.str t] []) (fun r c => r = dueV t ∧ (c.all fun o => !o.fz) = true) noE := by
  unfold b_pattern_error
  refine w_def rfl (w_seq (w_asg (w_make (w_nil (w_rfl (x := .non) (c := [lkO [112, 105, 101, 99, 101] 0 0 0 false false []]) rfl ⟨rfl, ?_⟩)))))
  refine w_seq (w_forES (w_cons (w_var rfl rfl (w_nil ⟨t, rfl, ?_⟩))))
  refine w_goFor (fun a r ss c => ∃ (i : Nat) (s : W) (u : List Nat) (o : O) (q : Q6) (x2 x3 : Option W), r = enumW i (u.map fun n => .str [n]) ∧ (∃ pre, t = pre ++ u ∧ pre.length = i) ∧ i ≤ 60 ∧ RelS s o (i : Nat) q ∧ dueR 0 s083 t = dueR i s u ∧ ss = [some (.str t), some (.ref 0), x2, x3] ∧ c = [o]) ?_ ?_ _ [] _ _ ⟨0, s083, t, _, ⟨[114, 111, 119], [112, 105, 101, 99, 101], false, true, 0, 0, false, false, false, [], []⟩, none, none, rfl, ⟨[], rfl, rfl⟩, by omega, ⟨by decide, rfl, rfl, by decide, by decide, fun _ => rfl, (fun z => nomatch z), rfl⟩, rfl, rfl, rfl⟩
  · rintro a x r ss c ⟨i, s, u, o, q, x2, x3, hr, ⟨pre, rfl, hi⟩, h60, h, hd, rfl, rfl⟩
    cases u with
    | nil => cases hr
    | cons ch u =>
    obtain ⟨rfl, rfl⟩ := List.cons.inj hr
    have hch : ch ∈ signs := ht ch (by simp)
    refine ⟨_, rfl, ?_⟩
    have ho := h.ho
    subst ho
    refine w_ifS (w_bNot (w_bB (w_meth (w_var rfl rfl ⟨_, rfl, rfl, w_cons (w_var rfl rfl (w_nil ?_))⟩))))
    refine OP.imp (looker_take h h60 hch) ?_ fun _ _ z => z.elim
    rintro r c (⟨rfl, hz, hdu⟩ | ⟨rfl, hlt, s', o', q', rfl, h', hdu⟩)
    · refine ⟨_, rfl, ⟨fun _ => ?_, (fun z => nomatch z)⟩⟩
      refine w_ret (w_var rfl rfl ⟨?_, hz⟩)
      unfold dueV
      rw [hd, hdu]
    · refine ⟨_, rfl, ⟨(fun z => nomatch z), fun _ => ?_⟩⟩
      exact w_next ⟨i + 1, s', u, o', q', _, _, rfl, ⟨pre ++ [ch], by simp, by simp [hi]⟩, by omega, h', by rw [hd, hdu], rfl, rfl⟩
  · rintro a ss c ⟨i, s, u, o, q, x2, x3, hr, ⟨pre, rfl, hi⟩, h60, h, hd, rfl, rfl⟩
    cases u with
    | cons ch u => cases hr
    | nil =>
    obtain ⟨wh, m, fi, pi, d, sp, pc, pc2, st, f, f2⟩ := q
    obtain ⟨hm, rfl, rfl, _, _, _, _, _⟩ := h
    simp only at hm ⊢
    have fin : ∀ k, d + needI wh = d + k → OP (eMeth n_Looker n_needed e_Looker_needed [] (eVar 1) aNil [some (W.str (pre ++ [])), some (W.ref 0), x2, x3] [lkO m (i : Nat) sp d pc2 st f2]) (fun x c => x = .int (d + k) ∧ c = [lkO m (i : Nat) sp d pc2 st f2]) noE →
        SP (sRet (eIf (bB (eBin oEq (eMeth n_Looker n_needed e_Looker_needed [] (eVar 1) aNil) (eC (.int 0)))) (eC .non) (eCB oLen (aCons (eVar 0) aNil))) [some (W.str (pre ++ [])), some (W.ref 0), x2, x3] [lkO m (i : Nat) sp d pc2 st f2]) ⟨fun _ c => W.non = dueV (pre ++ []) ∧ (c.all fun o => !o.fz) = true, fun r c => r = dueV (pre ++ []) ∧ (c.all fun o => !o.fz) = true, fun _ _ => False, fun _ _ => False, fun x _ c => noE x c⟩ := by
      intro k hk ho
      obtain ⟨x, c, e, rfl, rfl⟩ := ho.ok
      have ev : dueV (pre ++ []) = if endOk (stW wh d sp pc st f) = true then .non else .int (pre ++ []).length := by
        unfold dueV
        rw [hd]
        rfl
      have ek : endOk (stW wh d sp pc st f) = decide (d + k = 0) := by
        show decide (d + needI wh = 0) = _
        rw [hk]
      refine w_ret (w_if (w_bB (w_bin (w_rfl e (w_c (w_eq eqC_i (w_bl ⟨fun hb => ?_, fun hb => ?_⟩)))))))
      · refine w_c ⟨?_, rfl⟩
        rw [ev, ek, if_pos hb]
      · refine w_cb (w_cons (w_var rfl rfl (w_nil (w_lenS (by omega) ⟨?_, rfl⟩))))
        rw [ev, ek, hb]
        rfl
    simp only [modeS, List.mem_cons, Prod.mk.injEq, List.not_mem_nil, or_false] at hm
    rcases hm with ⟨rfl, rfl, _⟩ | ⟨rfl, rfl, _⟩ | ⟨rfl, rfl, _⟩ | ⟨rfl, rfl, _⟩ | ⟨rfl, rfl, _⟩ | ⟨rfl, rfl, _⟩ | ⟨rfl, rfl, _⟩ | ⟨rfl, rfl, _⟩
    · exact fin 0 rfl (w_rfl rfl ⟨rfl, rfl⟩)
    · exact fin 1 rfl (w_rfl rfl ⟨rfl, rfl⟩)
    · exact fin 2 rfl (w_rfl rfl ⟨rfl, rfl⟩)
    · exact fin 2 rfl (w_rfl rfl ⟨rfl, rfl⟩)
    · exact fin 1 rfl (w_rfl rfl ⟨rfl, rfl⟩)
    · exact fin 1 rfl (w_rfl rfl ⟨rfl, rfl⟩)
    · exact fin 2 rfl (w_rfl rfl ⟨rfl, rfl⟩)
    · exact fin 0 rfl (w_rfl rfl ⟨rfl, rfl⟩)
theorem dueV_noRef (t : List Nat) : noRef (dueV t) = true := by
  unfold dueV
  split
  · rfl
  · split <;> rfl
theorem due_s {t : List Nat} {c : Conf} (ht : ∀ ch ∈ t, ch ∈ signs) (hl : t.length ≤ 100000) : ∃ D, e__law_due [.str t] c = .ok (dueV t) (c ++ D) := by
  obtain ⟨c0, e⟩ := fr_dn (f := eDef 1 4 b__law_due) rfl (dueV_noRef t) (due_core ht hl)
  obtain ⟨D, e2, _⟩ := fr_up e (dueV_noRef t) c
  exact ⟨D, e2⟩
theorem per_s {t : List Nat} {c : Conf} (ht : ∀ ch ∈ t, ch ∈ signs) (hl : t.length ≤ 100000) : ∃ D, e_pattern_error [.str t] c = .ok (dueV t) (c ++ D) := by
  obtain ⟨c0, e⟩ := fr_dn (f := eDef 1 4 b_pattern_error) rfl (dueV_noRef t) (per_core ht hl)
  obtain ⟨D, e2, _⟩ := fr_up e (dueV_noRef t) c
  exact ⟨D, e2⟩
/-! ### the draws -/
def bagO (a b n : Int) : O := .lst [.int a, .int b, .int n]
def BagAt (c : Conf) (i : Nat) : Prop := ∃ a b n, c[i]? = some (bagO a b n) ∧ 0 ≤ b ∧ b < 2147483648
theorem get_set_self {c : Conf} {i : Nat} {o o' : O} (h : c[i]? = some o) : (c.set i o')[i]? = some o' := List.getElem?_set_self (List.getElem?_eq_some_iff.mp h).1
theorem BagAt.set {c : Conf} {i : Nat} {a b n : Int} (h : BagAt c i) (hb : 0 ≤ b ∧ b < 2147483648) : BagAt (c.set i (bagO a b n)) i := by
  obtain ⟨_, _, _, e, _⟩ := h
  exact ⟨a, b, n, get_set_self e, hb.1, hb.2⟩
theorem take_spec {c : Conf} {i : Nat} {m : Int} {P : W → Conf → Prop} {E : Xc → Conf → Prop} (h : BagAt c i) (hm : 0 < m ∧ m < 1073741824)
    (k : ∀ d a b n, 0 ≤ d → d < m → 0 ≤ b ∧ b < 2147483648 → P (.int d) (c.set i (bagO a b n))) : OP (e__law_take [.ref i, .int m] c) P E := by
  obtain ⟨a, b, n, e, hb1, hb2⟩ := h
  refine w_def rfl ?_
  refine w_seq (w_ifS (w_bB (w_bin ?_)))
  refine w_bin (w_var rfl rfl (w_c (w_ixR e rfl ?_)))
  refine w_c (w_gtA (w_bl ⟨fun _ => ?_, fun _ => ?_⟩))
  · wtm_at "go"
    refine w_ixR e rfl ?_
    wtm_at "go"
    refine w_ixR e rfl ?_
    wtm_at "go"
    refine ⟨c.set i (bagO (a / m) b n), putI_l (k := 0) e rfl, ?_⟩
    wtm_at "go"
    exact k _ _ _ _ (Int.emod_nonneg _ (by omega)) (Int.emod_lt_of_pos _ hm.1) ⟨hb1, hb2⟩
  · wtm_at "go"
    refine w_ixR e rfl ?_
    wtm_at "go"
    refine ⟨c.set i (bagO a b (n + 1)), putI_l (k := 2) e rfl, ?_⟩
    have e1 := get_set_self (o' := bagO a b (n + 1)) e
    wtm_at "go"
    refine w_ixR e1 rfl ?_
    wtm_at "go"
    refine w_ixR e1 rfl ?_
    wtm_at "go"
    refine ⟨c.set i (bagO a ((b * 69621 + 6007 * (n + 1) + 19) % 2147483647) (n + 1)), (putI_l (k := 1) e1 rfl).trans (by rw [List.set_set]; rfl), ?_⟩
    have hb : 0 ≤ (b * 69621 + 6007 * (n + 1) + 19) % 2147483647 ∧ (b * 69621 + 6007 * (n + 1) + 19) % 2147483647 < 2147483647 := ⟨Int.emod_nonneg _ (by decide), Int.emod_lt_of_pos _ (by decide)⟩
    generalize (b * 69621 + 6007 * (n + 1) + 19) % 2147483647 = b2 at hb ⊢
    have e2 := get_set_self (o' := bagO a b2 (n + 1)) e
    wtm_at "go"
    refine w_ixR e2 rfl ?_
    wtm_at "go"
    exact k _ _ _ _ (Int.emod_nonneg _ (by omega)) (Int.emod_lt_of_pos _ hm.1) ⟨hb.1, by omega⟩
theorem at_mem {xs : List W} {d n : Nat} (hd : (d : Int) < (n : Int)) (hn : xs.length = n) : ∃ v, atW xs (d : Int) = some v ∧ v ∈ xs := by
  have : d < xs.length := by omega
  refine ⟨xs[d], ?_, List.getElem_mem _⟩
  unfold atW L2.ixN
  rw [if_pos (by omega), if_pos (by omega)]
  simp [this]
theorem at_str {xs : List (List Nat)} {d n : Nat} (hd : (d : Int) < (n : Int)) (hn : xs.length = n) : ∃ v, atW (xs.map W.str) (d : Int) = some (.str v) ∧ v ∈ xs := by
  obtain ⟨v, e, m⟩ := at_mem (xs := xs.map W.str) hd (by simpa using hn)
  obtain ⟨s, ms, rfl⟩ := List.mem_map.mp m
  exact ⟨s, e, ms⟩
theorem at_int {xs : List Int} {d n : Nat} (hd : (d : Int) < (n : Int)) (hn : xs.length = n) : ∃ v, atW (xs.map W.int) (d : Int) = some (.int v) ∧ v ∈ xs := by
  obtain ⟨v, e, m⟩ := at_mem (xs := xs.map W.int) hd (by simpa using hn)
  obtain ⟨s, ms, rfl⟩ := List.mem_map.mp m
  exact ⟨s, e, ms⟩
theorem bag_spec {c : Conf} {ns : List Int} {j : Nat} {P : W → Conf → Prop} {E : Xc → Conf → Prop} (hj0 : j < 1000) (k : ∀ a b n, 0 ≤ b ∧ b < 2147483648 → P (.ref c.length) (c ++ [bagO a b n])) : OP (e__law_bag [.wls (ns.map .int), .int j] c) P E := by
  refine w_def rfl ?_
  refine w_seq (w_asg (w_c ?_))
  refine w_mid (fun ss1 c1 => c1 = c ∧ ∃ v : Int, ss1 = [some (.wls (ns.map .int)), some (.int j), some (.int v), none, none]) ?_ ?_
  · refine w_ifS (w_bB (w_bin ?_))
    wtm_at "go"
    refine ⟨fun h => ?_, fun _ => w_next ⟨rfl, 0, rfl⟩⟩
    have hj : j < ns.length := by simpa using h
    refine w_asg (w_bin (w_var rfl rfl (w_var rfl rfl (w_ixW (v := .int ns[j]) ?_ ⟨rfl, ns[j], rfl⟩))))
    unfold atW L2.ixN
    simp only [List.length_map]
    rw [if_pos (by omega), if_pos (by omega)]
    simp [hj]
  · rintro ss1 c1 ⟨rfl, v, rfl⟩
    refine w_seq (w_asg (w_c ?_))
    refine w_mid (fun ss1 c2 => c2 = c1 ∧ ∃ g : Int, ss1 = [some (.wls (ns.map .int)), some (.int j), some (.int v), some (.int g), none]) ?_ ?_
    · refine w_ifS (w_bB ?_)
      wtm_at "go"
      refine ⟨fun _ => ?_, fun _ => w_next ⟨rfl, _, rfl⟩⟩
      wtm_at "go"
      exact ⟨rfl, _, rfl⟩
    · rintro ss2 c2 ⟨rfl, g, rfl⟩
      have hm0 := Int.emod_nonneg v (b := 2147483647) (by decide)
      have hm1 := Int.emod_lt_of_pos v (b := 2147483647) (by decide)
      obtain ⟨p, ep, mp⟩ := at_int (xs := [2147483629, 2147483587, 2147483579, 2147483563, 2147483549, 2147483543, 2147483497, 2147483489]) (d := j % 8) (n := 8) (by omega) rfl
      have hp : 0 < p ∧ p < 2147483648 := (by decide : ∀ p ∈ ([2147483629, 2147483587, 2147483579, 2147483563, 2147483549, 2147483543, 2147483497, 2147483489] : List Int), 0 < p ∧ p < 2147483648) p mp
      have ej : ((j % 8 : Nat) : Int) = (j : Int) % 8 := by omega
      rw [ej] at ep
      wtm_at "go"
      refine ⟨by decide, ?_⟩
      wtm_at "go"
      refine w_ixL ep (w_mod hp.1 ?_)
      have hb0 := Int.emod_nonneg ((v % 2147483647 + 104711 * (j : Int) + 23) ^ Int.toNat 5) (b := p) (by omega)
      have hb1 := Int.emod_lt_of_pos ((v % 2147483647 + 104711 * (j : Int) + 23) ^ Int.toNat 5) hp.1
      generalize (v % 2147483647 + 104711 * (j : Int) + 23) ^ Int.toNat 5 % p = b at hb0 hb1 ⊢
      wtm_at "go"
      refine ⟨len6 rfl rfl, ?_⟩
      exact k _ _ _ ⟨hb0, by omega⟩
/-! ### the draws, over what is known -/
def IsBag : OPr := fun o => ∃ a b n, o = bagO a b n ∧ 0 ≤ b ∧ b < 2147483648
section
variable {Ps : List PA} {L : List Cell} {c : Conf} {i : Nat} {P : W → Conf → Prop} {E : Xc → Conf → Prop}
theorem Sat.bag (h : Sat Ps L c) (m : (i, IsBag) ∈ L) : BagAt c i := by
  obtain ⟨o, e, a, b, n, rfl, hb⟩ := h.rd m
  exact ⟨a, b, n, e, hb⟩
theorem take_s {n : Int} (h : Sat Ps L c) (m : (i, IsBag) ∈ L) (hn : 0 < n ∧ n < 1073741824) (k : ∀ (d : Nat) c', (d : Int) < n → Sat Ps L c' → P (.int d) c') : OP (e__law_take [.ref i, .int n] c) P E :=
  take_spec (h.bag m) hn fun d a b n' h1 h2 hb => by
    obtain ⟨dn, rfl⟩ : ∃ dn : Nat, d = dn := ⟨d.toNat, by omega⟩
    exact k dn _ h2 (h.wrM m ⟨a, b, n', rfl, hb⟩)
theorem bag_s {ns : List Int} {j : Nat} (h : Sat Ps L c) (hj0 : j < 1000) (k : ∀ r c', Sat Ps ((r, IsBag) :: L) c' → P (.ref r) c') : OP (e__law_bag [.wls (ns.map .int), .int j] c) P E :=
  bag_spec hj0 fun a b n hb => k _ _ (h.new ⟨a, b, n, rfl, hb⟩)
end
/-! ### what is picked -/
theorem at_memG {α : Type} {xs : List α} {d n : Nat} (hd : (d : Int) < (n : Int)) (hn : xs.length = n) : ∃ v, atW xs (d : Int) = some v ∧ v ∈ xs := by
  have : d < xs.length := by omega
  refine ⟨xs[d], ?_, List.getElem_mem _⟩
  unfold atW L2.ixN
  rw [if_pos (by omega), if_pos (by omega)]
  simp [this]
section
variable {Ps : List PA} {L : List Cell} {c : Conf} {i : Nat} {P : W → Conf → Prop} {E : Xc → Conf → Prop}
theorem pick_str {menu : List Nat} (h : Sat Ps L c) (m : (i, IsBag) ∈ L) (hn : 0 < menu.length ∧ menu.length < 1000) (k : ∀ ch c', ch ∈ menu → Sat Ps L c' → P (.str [ch]) c') : OP (e__law_pick [.ref i, .str menu] c) P E := by
  refine w_def rfl (w_ret (w_bin (w_var rfl rfl (w_call0 (w_cons (w_var rfl rfl (w_cons (w_cb (w_cons (w_var rfl rfl (w_nil (w_lenS (by omega) (w_nil ?_)))))))))))))
  refine take_s h m ⟨by omega, by omega⟩ fun d c' hd h' => ?_
  obtain ⟨v, e, hv⟩ := at_memG hd rfl
  exact w_ixS (by omega) e (k v c' hv h')
theorem pick_lst {xs : List W} (h : Sat Ps L c) (m : (i, IsBag) ∈ L) (hn : 0 < xs.length ∧ xs.length < 1000) (k : ∀ x c', x ∈ xs → Sat Ps L c' → P x c') : OP (e__law_pick [.ref i, .lst xs] c) P E := by
  refine w_def rfl (w_ret (w_bin (w_var rfl rfl (w_call0 (w_cons (w_var rfl rfl (w_cons (w_cb (w_cons (w_var rfl rfl (w_nil (w_lenL (w_nil ?_)))))))))))))
  refine take_s h m ⟨by omega, by omega⟩ fun d c' hd h' => ?_
  obtain ⟨v, e, hv⟩ := at_memG hd rfl
  exact w_ixL e (k v c' hv h')
end
/-! ### rows of a drawn pattern -/
def goodT (n : Nat) (w : List Nat) : Prop := w.length ≤ n ∧ ∀ ch ∈ w, ch ∈ signs
instance {n : Nat} {w : List Nat} : Decidable (goodT n w) := inferInstanceAs (Decidable (_ ∧ _))
def PartG (R : Nat → PA) (x : W) : PA := fun G => (∃ s b w, goodT 9 w ∧ x = .tup [.str [115, 105, 103, 110, 115], .str s, .bl b, .str w]) ∨ ∃ r, R r G ∧ x = .tup [.str [103, 114, 111, 117, 112], .ref r]
def PieceG (R : Nat → PA) (x : W) : PA := fun G => ∃ part o, PartG R part G ∧ goodT 1 o ∧ x = .tup [part, .str o]
def RowG (R : Nat → PA) (x : W) : PA := fun G => ∃ ps, x = .lst ps ∧ ps.length ≤ 3 ∧ ∀ y ∈ ps, PieceG R y G
def RowsOf (R : Nat → PA) (r : Nat) : PA := fun G => ∃ rows : List W, G r = some (iz (.lst rows)) ∧ rows.length ≤ 2 ∧ ∀ x ∈ rows, RowG R x G
def RowsG : Nat → Nat → PA
  | 0 => RowsOf fun _ _ => False
  | n + 1 => RowsOf (RowsG n)
def menuP : List (List Nat) := [[97], [98], [65], [32], [95], [97], [98], [96], [64], [126]]
theorem menuP_ok : ∀ w ∈ menuP, goodT 9 w := by decide
theorem menuQ_ok : ∀ x ∈ z_27, goodT 9 (z_1 ++ [x]) := by decide
def menuO : List (List Nat) := [[], [], [], [42], [43], [63]]
theorem menuO_ok : ∀ w ∈ menuO, goodT 1 w := by decide
def menuI : List (List Nat × List Nat) := [([97, 98], [97, 98]), ([97, 98, 99], [97, 45, 99]), ([97, 46], [97, 46]), ([65, 66, 95], [65, 45, 66, 95]), ([32], [32]), ([48, 49, 50, 51, 52, 53, 54, 55, 56, 57], [48, 45, 57]), ([50, 51, 52, 53, 54, 55], [50, 45, 55]), ([65, 66, 67, 68], [65, 45, 68]), ([98, 53, 44, 95], [98, 53, 44, 95]), ([97, 98, 99, 48, 49, 50, 51, 52, 53, 54, 55, 56, 57], [97, 45, 99, 48, 45, 57]), ([95, 65, 66], [95, 65, 45, 66]), ([120, 121, 122, 65, 66, 67, 68], [120, 45, 122, 65, 45, 68]), ([32, 98, 50, 51, 52, 53, 54, 55], [32, 98, 50, 45, 55])]
theorem menuI_ok : ∀ p ∈ menuI, goodT 9 (z_4 ++ p.2 ++ z_9) ∧ goodT 9 (z_52 ++ p.2 ++ z_9) := by decide
/-- what a drawing of rows promises -/
def DrawOk (f : Fn) (d : Nat) (R : Nat → PA) : Prop := ∀ (Ps : List PA) (L : List Cell) (c : Conf) (i : Nat), Sat Ps L c → (i, IsBag) ∈ L → OP (f [.ref i, .int (d : Nat)] c) (fun x c' => ∃ r, x = .ref r ∧ Sat (R r :: Ps) L c') noE
section
variable {Ps : List PA} {L : List Cell} {c : Conf} {i : Nat}
theorem piece_s {ch : Fn} {d : Nat} {R : Nat → PA} (hd : d ≤ 2) (hch : 0 < d → DrawOk ch (d - 1) R) (h : Sat Ps L c) (m : (i, IsBag) ∈ L) :
    OP (e__law_piece ch [.ref i, .int (d : Nat)] c) (fun x c' => Sat (PieceG R x :: Ps) L c') noE := by
  unfold e__law_piece b__law_piece
  refine w_def rfl (w_seq (w_par (w_cons (w_call0 (w_cons (w_var rfl rfl (w_cons (w_c (w_nil (take_s h m (by decide) fun way c1 hway h1 => ?_))))))))))
  refine w_cons (w_c (w_nil ⟨_, _, rfl, ?_⟩))
  refine w_mid (fun ss c => ∃ part x4 x5 x6, ss = [some (.ref i), some (.int (d : Nat)), some (.int way), some part, x4, x5, x6] ∧ isEx (some part) = false ∧ Sat (PartG R part :: Ps) L c) ?_ ?_
  · refine w_ifS (w_bB (w_bin (w_var rfl rfl (w_c (w_ltA (w_bl ⟨fun _ => ?_, fun _ => ?_⟩))))))
    · refine w_seq (w_asg (w_call0 (w_cons (w_var rfl rfl (w_cons (w_lst (w_cons (w_c (w_cons (w_c (w_cons (w_c (w_cons (w_c (w_cons (w_c (w_cons (w_c (w_cons (w_c (w_cons (w_c (w_cons (w_c (w_cons (w_c (w_nil ⟨Nat.le_of_ble_eq_true rfl, w_nil ?_⟩)))))))))))))))))))))))))))
      refine pick_lst h1 m (by decide) fun x c2 hx h2 => ?_
      obtain ⟨w, hw, rfl⟩ := List.mem_map.mp (show x ∈ menuP.map W.str from hx)
      refine w_asg (w_tup (w_cons (w_c (w_cons (w_var rfl rfl (w_cons (w_c (w_cons (w_var rfl rfl (w_nil ⟨Nat.le_of_ble_eq_true rfl, ?_⟩))))))))))
      exact ⟨_, _, _, _, rfl, rfl, h2.der fun G _ => Or.inl ⟨_, _, _, menuP_ok w hw, rfl⟩⟩
    · refine w_ifS (w_bB (w_bin (w_var rfl rfl (w_c (w_eq eqC_i (w_bl ⟨fun _ => ?_, fun _ => ?_⟩))))))
      · refine w_seq (w_asg (w_call0 (w_cons (w_var rfl rfl (w_cons (w_c (w_nil ?_)))))))
        refine pick_str h1 m (by decide) fun x c2 hx h2 => ?_
        refine w_asg (w_tup (w_cons (w_c (w_cons (w_var rfl rfl (w_cons (w_c (w_cons (w_bin (w_c (w_var rfl rfl (w_addSA (Nat.le_of_ble_eq_true rfl) (w_nil ⟨Nat.le_of_ble_eq_true rfl, ?_⟩)))))))))))))
        exact ⟨_, _, _, _, rfl, rfl, h2.der fun G _ => Or.inl ⟨_, _, _, menuQ_ok x hx, rfl⟩⟩
      · refine w_ifS (w_bB (w_bin (w_var rfl rfl (w_c (w_eq eqC_i (w_bl ⟨fun _ => ?_, fun _ => ?_⟩))))))
        · refine w_asg (w_tup (w_cons (w_c (w_cons (w_c (w_cons (w_c (w_cons (w_c (w_nil ⟨Nat.le_of_ble_eq_true rfl, ?_⟩))))))))))
          exact ⟨_, _, _, _, rfl, rfl, h1.der fun G _ => Or.inl ⟨_, _, _, by decide, rfl⟩⟩
        · refine w_ifS (OP.imp (P := fun b c2 => c2 = c1 ∧ (b = false → 0 < d)) (E := noE) ?_ ?_ fun _ _ z => z.elim)
          · refine w_bOr (w_bB (w_bin (w_var rfl rfl (w_c (w_eq eqC_i (w_bl ⟨fun _ => ⟨rfl, (fun z => nomatch z)⟩, fun _ => ?_⟩))))))
            refine w_bB (w_bin (w_var rfl rfl (w_c (w_eq eqC_i (w_bl ⟨rfl, fun hb => ?_⟩)))))
            have := of_decide_eq_false hb
            omega
          rintro b c0 ⟨rfl, hbd⟩
          refine ⟨fun _ => ?_, fun hb => ?_⟩
          · repeat' (first | wtm_at "st1" | refine And.intro (Nat.le_of_ble_eq_true rfl) ?_)
            refine pick_lst h1 m (by decide) fun x c2 hx h2 => ?_
            obtain ⟨p, hp, rfl⟩ := List.mem_map.mp (show x ∈ menuI.map (fun p => W.tup [.str p.1, .str p.2]) from hx)
            obtain ⟨g1, g2⟩ := menuI_ok p hp
            have q1 : (z_4 ++ p.2).length + z_9.length ≤ 1000000 := by have := g1.1; rw [List.length_append] at this; omega
            have q2 : (z_52 ++ p.2).length + z_9.length ≤ 1000000 := by have := g2.1; rw [List.length_append] at this; omega
            have q3 : z_4.length + p.2.length ≤ 1000000 := by rw [List.length_append] at q1; omega
            have q4 : z_52.length + p.2.length ≤ 1000000 := by rw [List.length_append] at q2; omega
            refine w_seq (w_asg (w_tup (w_cons (w_c (w_cons (w_bin (w_var rfl rfl (w_c (w_ixT rfl (w_cons (w_bin (w_call0 (w_cons (w_var rfl rfl (w_cons (w_c (w_nil (take_s h2 m (by decide) fun k c3 hk h3 => ?_))))))))))))))))))
            refine w_c (w_eq eqC_i (w_cons (w_bin (w_var rfl rfl (w_c (w_ixT rfl (w_nil ⟨Nat.le_of_ble_eq_true rfl, ?_⟩)))))))
            generalize decide ((k : Int) = 0) = b
            refine w_asg (w_bin (w_sl (w_var rfl rfl (w_noPart (w_part (w_c ⟨3, rfl, ?_⟩))))))
            refine w_rfl (x := .tup [.str z_45, .str p.1, .bl b]) rfl ?_
            refine w_tup (w_cons (w_bin (w_bin (w_bin (w_lst (w_cons (w_c (w_cons (w_c (w_nil ⟨Nat.le_of_ble_eq_true rfl, ?_⟩))))))))))
            refine w_cb (w_cons (w_bin (w_var rfl rfl (w_c (w_ixT rfl (w_nil ?_))))))
            cases b with
            | false =>
              refine w_rfl (x := .int 0) rfl (w_ixL rfl (w_bin (w_var rfl rfl (w_c (w_ixT rfl (w_addSA q3 (w_c (w_addSA q1 (w_nil ⟨Nat.le_of_ble_eq_true rfl, w_addTA (Nat.le_of_ble_eq_true rfl) ?_⟩)))))))))
              exact ⟨_, _, _, _, rfl, rfl, h3.der fun G _ => Or.inl ⟨_, _, _, g1, rfl⟩⟩
            | true =>
              refine w_rfl (x := .int 1) rfl (w_ixL rfl (w_bin (w_var rfl rfl (w_c (w_ixT rfl (w_addSA q4 (w_c (w_addSA q2 (w_nil ⟨Nat.le_of_ble_eq_true rfl, w_addTA (Nat.le_of_ble_eq_true rfl) ?_⟩)))))))))
              exact ⟨_, _, _, _, rfl, rfl, h3.der fun G _ => Or.inl ⟨_, _, _, g2, rfl⟩⟩
          have hd0 : 0 < d := hbd hb
          refine w_asg (w_tup (w_cons (w_c (w_cons (w_call0 (w_cons (w_var rfl rfl (w_cons (w_bin (w_var rfl rfl (w_c (w_sub (w_nil ?_)))))))))))))
          have ed : ((d : Int) - 1) = ((d - 1 : Nat) : Int) := by omega
          rw [ed]
          refine OP.imp (hch hd0 Ps L _ i h1 m) ?_ fun _ _ z => z.elim
          rintro x c2 ⟨r, rfl, h2⟩
          refine w_nil ?_
          refine ⟨Nat.le_of_ble_eq_true rfl, ?_⟩
          have h4 := Sat.der (Q := PartG R (.tup [.str z_73, .ref r])) h2 fun G hG => Or.inr ⟨r, hG _ (.head _), rfl⟩
          exact ⟨_, _, _, _, rfl, rfl, h4.sub fun P hP => by
            cases hP with
            | head => exact .head _
            | tail _ hP => exact .tail _ (.tail _ hP)⟩
  · rintro ss c2 ⟨part, x4, x5, x6, rfl, hx, h2⟩
    refine w_ret (w_tup (w_cons (w_var rfl hx (w_cons (w_call0 (w_cons (w_var rfl rfl (w_cons (w_lst (w_cons (w_c (w_cons (w_c (w_cons (w_c (w_cons (w_c (w_cons (w_c (w_cons (w_c (w_nil ⟨Nat.le_of_ble_eq_true rfl, w_nil ?_⟩))))))))))))))))))))))
    refine pick_lst h2 m (by decide) fun x c3 hx h3 => ?_
    obtain ⟨w, hw, rfl⟩ := List.mem_map.mp (show x ∈ menuO.map W.str from hx)
    refine w_nil ?_
    refine ⟨Nat.le_of_ble_eq_true rfl, ?_⟩
    have h4 := Sat.der (Q := PieceG R (.tup [part, .str w])) h3 fun G hG => ⟨part, w, hG _ (.head _), menuO_ok w hw, rfl⟩
    exact h4.sub fun P hP => by
      cases hP with
      | head => exact .head _
      | tail _ hP => exact .tail _ (.tail _ hP)
end
section
theorem rows_s {ch : Fn} {d : Nat} {R : Nat → PA} (hd : d ≤ 2) (hch : 0 < d → DrawOk ch (d - 1) R) : DrawOk (e__law_rows_of1 ch) d (RowsOf R) := by
  intro Ps L c i h m
  unfold e__law_rows_of1 b__law_rows_of
  refine w_def rfl (w_seq (w_asg (w_lstO (w_nil ⟨by decide, ?_⟩))))
  have h0 : Sat Ps ((c.length, iz (.lst [])) :: L) (c ++ [.lst []]) := h.newI
  generalize c ++ [O.lst []] = c0 at h0 ⊢
  generalize c.length = f at h0 ⊢
  refine w_seq (w_forR (w_cons (w_bin (w_c (w_call0 (w_cons (w_var rfl rfl (w_cons (w_c (w_nil (take_s h0 (.tail _ m) (by decide) fun k c1 hk h1 => w_addIA (w_nil ⟨_, rfl, ⟨by omega, by omega⟩, ?_⟩))))))))))))
  refine w_goFor (fun a r ss c => ∃ rows x3 x4, ss = [some (.ref i), some (.int (d : Nat)), some (.ref f), x3, x4] ∧ rows.length = a.length ∧ a.length + r.length ≤ 2 ∧ Sat ((fun G => ∀ x ∈ rows, RowG R x G) :: Ps) ((f, iz (.lst rows)) :: L) c) ?_ ?_ _ [] _ _ ⟨[], _, _, rfl, rfl, by simp [rangeW_len]; omega, h1.der fun G _ x hx => (List.not_mem_nil hx).elim⟩
  · rintro a x r ss c2 ⟨rows, x3, x4, rfl, hl, hr, h2⟩
    refine ⟨_, rfl, ?_⟩
    have hr' : a.length + (r.length + 1) ≤ 2 := by simpa using hr
    refine w_drop (w_bm (w_var rfl rfl ⟨by have e := h2.rdI (.head _); simp only [tyOk, e]; rfl, ?_⟩))
    refine w_cons (w_lcR (w_cons (w_call0 (w_cons (w_var rfl rfl (w_cons (w_c (w_nil (take_s h2 (.tail _ m) (by decide) fun n c3 hn h3 => w_nil ⟨_, rfl, ⟨by omega, by omega⟩, ?_⟩)))))))))
    refine w_lcF (w_goLc (fun a2 r2 acc c => acc.length = a2.length ∧ a2.length + r2.length ≤ 3 ∧ Sat ((fun G => ∀ y ∈ acc, PieceG R y G) :: (fun G => ∀ x ∈ rows, RowG R x G) :: Ps) ((f, iz (.lst rows)) :: L) c) ?_ ?_ _ [] [] _ ⟨rfl, by simp [rangeW_len]; omega, h3.der fun G _ x hx => (List.not_mem_nil hx).elim⟩ (Nat.le_refl _) (by simp [rangeW_len]; omega))
    · rintro a2 x2 r2 acc c4 ⟨e1, e2, h4⟩ _
      refine ⟨_, rfl, w_bYes ⟨fun _ => ?_, (fun z => nomatch z)⟩⟩
      refine w_call0 (w_cons (w_var rfl rfl (w_cons (w_var rfl rfl (w_nil ?_)))))
      refine OP.imp (piece_s hd hch h4 (.tail _ m)) ?_ fun _ _ z => z
      intro y c5 h5
      refine ⟨by simp [e1], by simp at e2 ⊢; omega, ?_⟩
      have h6 := Sat.der (Q := fun G => ∀ y2 ∈ acc ++ [y], PieceG R y2 G) h5 fun G hG y2 hy => by
        rcases List.mem_append.mp hy with hy | hy
        · exact hG _ (.tail _ (.head _)) y2 hy
        · rw [List.mem_singleton.mp hy]
          exact hG _ (.head _)
      exact h6.sub fun P hP => by
        cases hP with
        | head => exact .head _
        | tail _ hP => exact .tail _ (.tail _ (.tail _ hP))
    · rintro a2 acc c4 ⟨e1, e2, h4⟩
      refine ⟨(fun z => nomatch z), fun _ => ?_⟩
      refine w_nil ?_
      have hlr : rows.length ≤ 1000000 := by omega
      refine w_append (h4.rdI (.head _)) hlr ?_
      have hac : acc.length ≤ 3 := by simp at e2; omega
      have h5 := h4.wrI (o := .lst (rows ++ [.lst acc]))
      have h6 := Sat.der (Q := fun G => ∀ x ∈ rows ++ [W.lst acc], RowG R x G) h5 fun G hG x hx => by
        rcases List.mem_append.mp hx with hx | hx
        · exact hG _ (.tail _ (.head _)) x hx
        · rw [List.mem_singleton.mp hx]
          exact ⟨acc, rfl, hac, hG _ (.head _)⟩
      exact ⟨_, _, _, rfl, by simp [hl], by simp; omega, h6.sub fun P hP => by
        cases hP with
        | head => exact .head _
        | tail _ hP => exact .tail _ (.tail _ (.tail _ hP))⟩
  · rintro a ss c2 ⟨rows, x3, x4, rfl, hl, hr, h2⟩
    refine w_ret (w_var rfl rfl ⟨f, rfl, ?_⟩)
    have h3 := h2.frz
    have h4 := Sat.der (Q := RowsOf R f) h3 fun G hG => ⟨rows, hG _ (.head _), by simp at hr; omega, hG _ (.tail _ (.head _))⟩
    exact h4.sub fun P hP => by
      cases hP with
      | head => exact .head _
      | tail _ hP => exact .tail _ (.tail _ (.tail _ hP))
theorem draw_0 {n : Nat} : DrawOk (e__law_rows_of (n + 1)) 0 (RowsG 0) := rows_s (by omega) fun h => absurd h (by omega)
theorem draw_1 {n : Nat} : DrawOk (e__law_rows_of (n + 2)) 1 (RowsG 1) := rows_s (by omega) fun _ => draw_0
theorem draw_2 {n : Nat} : DrawOk (e__law_rows_of (n + 3)) 2 (RowsG 2) := rows_s (by omega) fun _ => draw_1
end
/-! ### a drawn pattern, written -/
def Mono (P : PA) : Prop := ∀ G G', GM.le G G' → P G → P G'
section
variable {Ps : List PA} {L : List Cell} {c : Conf} {R : Nat → PA}
theorem Sat.ex {α : Type} {Q : α → PA} (h : Sat Ps L c) (m : (fun G => ∃ x, Q x G) ∈ Ps) (hm : ∀ x, Mono (Q x)) : ∃ x, Sat (Q x :: Ps) L c := by
  obtain ⟨G, h⟩ := h
  obtain ⟨x, hx⟩ := h.pers _ m G (GM.le.refl G)
  refine ⟨x, G, fun P m => ?_, h.glob, h.cell, h.nd⟩
  rcases List.mem_cons.mp m with rfl | m
  · exact fun G' l => hm x G G' l hx
  · exact h.pers P m
theorem Sat.or {A B : PA} (h : Sat Ps L c) (m : (fun G => A G ∨ B G) ∈ Ps) (ha : Mono A) (hb : Mono B) : Sat (A :: Ps) L c ∨ Sat (B :: Ps) L c := by
  obtain ⟨G, h⟩ := h
  rcases h.pers _ m G (GM.le.refl G) with hx | hx
  · refine Or.inl ⟨G, fun P m => ?_, h.glob, h.cell, h.nd⟩
    rcases List.mem_cons.mp m with rfl | m
    · exact fun G' l => ha G G' l hx
    · exact h.pers P m
  · refine Or.inr ⟨G, fun P m => ?_, h.glob, h.cell, h.nd⟩
    rcases List.mem_cons.mp m with rfl | m
    · exact fun G' l => hb G G' l hx
    · exact h.pers P m
theorem mono_part (hR : ∀ r, Mono (R r)) (x : W) : Mono (PartG R x) := by
  rintro G G' l (h | ⟨r, h, e⟩)
  · exact Or.inl h
  · exact Or.inr ⟨r, hR r G G' l h, e⟩
theorem mono_piece (hR : ∀ r, Mono (R r)) (x : W) : Mono (PieceG R x) := by
  rintro G G' l ⟨p, o, h, e⟩
  exact ⟨p, o, mono_part hR p G G' l h, e⟩
theorem mono_row (hR : ∀ r, Mono (R r)) (x : W) : Mono (RowG R x) := by
  rintro G G' l ⟨ps, e, hl, h⟩
  exact ⟨ps, e, hl, fun y hy => mono_piece hR y G G' l (h y hy)⟩
theorem mono_rows (hR : ∀ r, Mono (R r)) (r : Nat) : Mono (RowsOf R r) := by
  rintro G G' l ⟨rows, e, hl, h⟩
  exact ⟨rows, l _ _ e, hl, fun y hy => mono_row hR y G G' l (h y hy)⟩
theorem mono_G : ∀ n r, Mono (RowsG n r)
  | 0, r => mono_rows (fun _ _ _ _ h => h) r
  | n + 1, r => mono_rows (mono_G n) r
/-- the rows, taken out -/
theorem open_rows {r : Nat} (hR : ∀ r, Mono (R r)) (h : Sat Ps L c) (m : RowsOf R r ∈ Ps) : ∃ rows : List W, rows.length ≤ 2 ∧ Sat (pat r (iz (.lst rows)) :: (fun G => ∀ x ∈ rows, RowG R x G) :: Ps) L c := by
  obtain ⟨rows, h1⟩ := h.ex m (fun rows G G' l hq => ⟨l _ _ hq.1, hq.2.1, fun y hy => mono_row hR y G G' l (hq.2.2 y hy)⟩)
  have hl : rows.length ≤ 2 := by
    obtain ⟨G, hG, _⟩ := h1.use
    exact (hG _ (.head _)).2.1
  have h2 := Sat.der (Q := fun G => ∀ x ∈ rows, RowG R x G) h1 fun G hG => (hG _ (.head _)).2.2
  have h3 := Sat.der (Q := pat r (iz (.lst rows))) h2 fun G hG => (hG _ (.tail _ (.head _))).1
  exact ⟨rows, hl, h3.sub fun P hP => by
    cases hP with
    | head => exact .head _
    | tail _ hP => cases hP with
      | head => exact .tail _ (.head _)
      | tail _ hP => exact .tail _ (.tail _ (.tail _ hP))⟩
/-- a piece, taken out -/
theorem open_piece {y : W} (hR : ∀ r, Mono (R r)) (h : Sat Ps L c) (m : PieceG R y ∈ Ps) : ∃ part o, y = .tup [part, .str o] ∧ goodT 1 o ∧ ((∃ s b w, goodT 9 w ∧ part = .tup [.str [115, 105, 103, 110, 115], .str s, .bl b, .str w]) ∨ ∃ r, part = .tup [.str [103, 114, 111, 117, 112], .ref r] ∧ Sat (R r :: Ps) L c) := by
  obtain ⟨G, hG⟩ := h
  obtain ⟨part, o, hp, ho, e⟩ := hG.pers _ m G (GM.le.refl G)
  refine ⟨part, o, e, ho, ?_⟩
  rcases hp with hp | ⟨r, hr, ep⟩
  · exact Or.inl hp
  · refine Or.inr ⟨r, ep, G, fun P m => ?_, hG.glob, hG.cell, hG.nd⟩
    rcases List.mem_cons.mp m with rfl | m
    · exact fun G' l => hR r G G' l hr
    · exact hG.pers P m
/-- what a writing promises -/
def WrOk (f : Fn) (R : Nat → PA) (B : Nat) : Prop := ∀ (Ps : List PA) (L : List Cell) (c : Conf) (r : Nat), Sat Ps L c → R r ∈ Ps → OP (f [.ref r] c) (fun x c' => ∃ w, x = .str w ∧ goodT B w ∧ Sat Ps L c') noE
/-- what a count promises -/
def SpOk (f : Fn) (R : Nat → PA) : Prop := ∀ (Ps : List PA) (L : List Cell) (c : Conf) (r : Nat), Sat Ps L c → R r ∈ Ps → OP (f [.ref r] c) (fun x c' => ∃ n : Int, x = .int n ∧ Sat Ps L c') noE
theorem wr_no {f : Fn} {B : Nat} : WrOk f (fun _ _ => False) B := fun Ps L c r h m => by
  obtain ⟨G, hG, _⟩ := h.use
  exact (hG _ m).elim
theorem sp_no {f : Fn} : SpOk f (fun _ _ => False) := fun Ps L c r h m => by
  obtain ⟨G, hG, _⟩ := h.use
  exact (hG _ m).elim
end
section
variable {R : Nat → PA}
theorem sub_t {A B : PA} {Ps : List PA} {L : List Cell} {c : Conf} (h : Sat (A :: B :: Ps) L c) : Sat (A :: Ps) L c := h.sub fun P hP => by
  cases hP with
  | head => exact .head _
  | tail _ hP => exact .tail _ (.tail _ hP)
theorem goodT_asc {n : Nat} {w : List Nat} (h : goodT n w) : (w.all fun c => decide (c < 0x110000)) = true := by
  refine List.all_eq_true.mpr fun c hc => ?_
  exact (by decide : ∀ c ∈ signs, decide (c < 0x110000) = true) c (h.2 c hc)
theorem cut1_asc {w : List Nat} (h : (w.all fun c => decide (c < 0x110000)) = true) : ((cutW w none (some 1)).all fun c => decide (c < 0x110000)) = true := by
  refine List.all_eq_true.mpr fun c hc => ?_
  unfold cutW at hc
  exact List.all_eq_true.mp h c (List.mem_of_mem_drop (List.mem_of_mem_take hc))
theorem sp_s {ch : Fn} (hR : ∀ r, Mono (R r)) (hch : SpOk ch R) : SpOk (e__law_special1 ch) (RowsOf R) := by
  intro Ps L c r h m
  obtain ⟨rows, hrl, h1⟩ := open_rows hR h m
  have er := h1.rdPI (.head _)
  unfold e__law_special1 b__law_special
  refine w_def rfl (w_seq (w_asg (w_bin (w_cb (w_cons (w_var rfl rfl (w_nil ?_)))))))
  refine w_len (n := rows.length) (by simp only [lenC, rdL, er]) (w_c (w_sub ?_))
  refine w_seq (w_forLR (w_var rfl rfl ⟨r, rows, rfl, er, ?_⟩))
  refine w_goForR (k := r) (xs := rows) (fun j ss c => ∃ (n : Int) (x2 x3 x4 : Option W), ss = [some (.ref r), some (.int n), x2, x3, x4] ∧ Sat (pat r (iz (.lst rows)) :: (fun G => ∀ x ∈ rows, RowG R x G) :: Ps) L c) ?_ ?_ ?_ _ 0 _ _ ⟨_, _, _, _, rfl, h1⟩ (by omega) (Nat.zero_le _)
  · rintro j ss c ⟨n, x2, x3, x4, rfl, h2⟩
    exact h2.rdPI (.head _)
  · rintro j x ss c2 hx ⟨n, x2, x3, x4, rfl, h2⟩
    have hxm : x ∈ rows := List.mem_of_getElem? hx
    obtain ⟨ps, rfl, hpl⟩ : ∃ ps, x = .lst ps ∧ ps.length ≤ 3 := by
      obtain ⟨G, hG, _⟩ := h2.use
      obtain ⟨ps, e, hl, _⟩ := hG _ (.tail _ (.head _)) x hxm
      exact ⟨ps, e, hl⟩
    refine ⟨_, rfl, w_forL (w_var rfl rfl ⟨ps, rfl, ?_⟩)⟩
    refine w_goFor (fun a q ss c => (∀ y ∈ q, y ∈ ps) ∧ ∃ (n : Int) (x3 x4 : Option W), ss = [some (.ref r), some (.int n), some (.lst ps), x3, x4] ∧ Sat (pat r (iz (.lst rows)) :: (fun G => ∀ x ∈ rows, RowG R x G) :: Ps) L c) ?_ ?_ _ [] _ _ ⟨fun y hy => hy, _, _, _, rfl, h2⟩
    · rintro a y q ss c3 ⟨hq, n, x3, x4, rfl, h3⟩
      have hy : y ∈ ps := hq y (.head _)
      have h4 := Sat.der (Q := PieceG R y) h3 fun G hG => by
        obtain ⟨ps', e, _, hp⟩ := hG _ (.tail _ (.head _)) (.lst ps) hxm
        cases e
        exact hp y hy
      obtain ⟨part, o, rfl, ho, hp⟩ := open_piece hR h4 (.head _)
      have hfin : ∀ (n : Int) x3 x4 c, Sat (pat r (iz (.lst rows)) :: (fun G => ∀ x ∈ rows, RowG R x G) :: Ps) L c → (∀ z ∈ q, z ∈ ps) ∧ ∃ (n' : Int) (x3' x4' : Option W), [some (W.ref r), some (W.int n), some (W.lst ps), x3, x4] = [some (.ref r), some (.int n'), some (.lst ps), x3', x4'] ∧ Sat (pat r (iz (.lst rows)) :: (fun G => ∀ x ∈ rows, RowG R x G) :: Ps) L c := fun n x3 x4 c hc => ⟨fun z hz => hq z (.tail _ hz), n, x3, x4, rfl, hc⟩
      have ho1 := ho.1
      rcases hp with ⟨s, b, w, hw, rfl⟩ | ⟨r', rfl, h5⟩
      · refine ⟨_, rfl, ?_⟩
        refine w_seq (w_asg (w_bin (w_var rfl rfl (w_cb (w_cons (w_var rfl rfl (w_nil (w_lenS (by omega) (w_addIA ?_)))))))))
        refine w_ifS (w_bB (w_bin (w_bin (w_var rfl rfl (w_c (w_ixT rfl ?_))))))
        refine w_c (w_eq (b := false) (by with_unfolding_all rfl) (w_bl ⟨(fun z => nomatch z), fun _ => ?_⟩))
        have hw1 := hw.1
        refine w_ifS (OP.imp (P := fun b c => c = c3) (E := noE) ?_ ?_ fun _ _ z => z.elim)
        · have hwa := goodT_asc hw
          refine w_bOr (w_bB (w_bin (w_bin (w_var rfl rfl (w_c (w_ixT rfl ?_))))))
          refine w_c (w_eq (eqC_s hwa rfl) (w_bl ⟨fun _ => rfl, fun _ => ?_⟩))
          refine w_bB (w_bin (w_sl (w_bin (w_var rfl rfl (w_c (w_ixT rfl (w_noPart (w_part (w_c ⟨1, rfl, ?_⟩)))))))))
          refine w_rfl (x := .str (cutW w none (some 1))) (by show (if w.length ≤ 1000000 then _ else _) = _; rw [if_pos (by omega)]) ?_
          exact w_c (w_eq (eqC_s (cut1_asc hwa) rfl) (w_bl rfl))
        · rintro b2 c4 rfl
          refine ⟨fun _ => ?_, fun _ => w_next (hfin _ _ _ _ h3)⟩
          refine w_asg (w_bin (w_var rfl rfl (w_c (w_addIA ?_))))
          exact hfin _ _ _ _ h3
      · refine ⟨_, rfl, ?_⟩
        refine w_seq (w_asg (w_bin (w_var rfl rfl (w_cb (w_cons (w_var rfl rfl (w_nil (w_lenS (by omega) (w_addIA ?_)))))))))
        refine w_ifS (w_bB (w_bin (w_bin (w_var rfl rfl (w_c (w_ixT rfl ?_))))))
        refine w_c (w_eq (b := true) (by with_unfolding_all rfl) (w_bl ⟨fun _ => ?_, (fun z => nomatch z)⟩))
        refine w_asg (w_bin (w_bin (w_var rfl rfl (w_c (w_addIA (w_call0 (w_cons (w_bin (w_var rfl rfl (w_c (w_ixT rfl (w_nil ?_))))))))))))
        refine OP.imp (hch _ _ _ r' h5 (.head _)) ?_ fun _ _ z => z.elim
        rintro x c4 ⟨k, rfl, h6⟩
        refine w_addIA ?_
        exact hfin _ _ _ _ (h6.sub fun P hP => .tail _ (.tail _ hP))
    · rintro a ss c3 ⟨_, n, x3, x4, rfl, h3⟩
      exact ⟨n, _, x3, x4, rfl, h3⟩
  · rintro ss c2 ⟨n, x2, x3, x4, rfl, h2⟩
    refine w_ret (w_var rfl rfl ⟨n, rfl, ?_⟩)
    exact h2.sub fun P hP => .tail _ (.tail _ hP)
theorem spec_0 {n : Nat} : SpOk (e__law_special (n + 1)) (RowsG 0) := sp_s (fun _ _ _ _ h => h) sp_no
theorem spec_1 {n : Nat} : SpOk (e__law_special (n + 2)) (RowsG 1) := sp_s (mono_G 0) spec_0
theorem spec_2 {n : Nat} : SpOk (e__law_special (n + 3)) (RowsG 2) := sp_s (mono_G 1) spec_1
end
section
variable {R : Nat → PA} {nx bk ct : Sl → Conf → Prop} {rt : W → Conf → Prop} {xc : Xc → Sl → Conf → Prop}
theorem goodT_app {a b : Nat} {v w : List Nat} (h1 : goodT a v) (h2 : goodT b w) : goodT (a + b) (v ++ w) := by
  refine ⟨by have := h1.1; have := h2.1; rw [List.length_append]; omega, fun c hc => ?_⟩
  rcases List.mem_append.mp hc with hc | hc
  · exact h1.2 c hc
  · exact h2.2 c hc
theorem goodT_le {a b : Nat} {v : List Nat} (h : goodT a v) (hab : a ≤ b) : goodT b v := ⟨by have := h.1; omega, h.2⟩
/-- the loop over the pieces of one row -/
theorem wrow_s {ch : Fn} {B : Nat} {Ps : List PA} {L : List Cell} {c : Conf} {s0 s1 s2 s4 s5 s6 : Option W} {ps : List W} (hB : B ≤ 10000) (hR : ∀ r, Mono (R r)) (hch : WrOk ch R B) (h : Sat Ps L c) (hl : ps.length ≤ 3) (m : ∀ y ∈ ps, PieceG R y ∈ Ps ∨ ∃ P ∈ Ps, ∀ G, P G → PieceG R y G)
    (k : ∀ t s4 s5 s6 c, goodT (3 * (B + 12)) t → Sat Ps L c → nx [s0, s1, s2, some (.str t), s4, s5, s6] c) :
    SP (goFor (.tup (.cons (.nm 4) (.cons (.nm 5) .nil))) (sSeq (sAsg (eIf (bB (eBin oEq (eBin oIx (eVar 4) (eC (.int 0))) (eC (.str z_45)))) (eBin oIx (eVar 4) (eC (.int 3))) (eBin oAddA (eBin oAddA (eC (.str z_6)) (eCall ch [] (aCons (eBin oIx (eVar 4) (eC (.int 1))) aNil))) (eC (.str z_21)))) (.nm 6))
    (sAsg (eBin oAddA (eBin oAddA (eVar 3) (eVar 6)) (eVar 5)) (.nm 3))) ps [s0, s1, s2, some (.str []), s4, s5, s6] c) ⟨nx, rt, bk, ct, xc⟩ := by
  refine w_goFor (fun a q ss c => (∀ y ∈ q, y ∈ ps) ∧ a.length + q.length = ps.length ∧ ∃ t s4 s5 s6, ss = [s0, s1, s2, some (.str t), s4, s5, s6] ∧ goodT (a.length * (B + 12)) t ∧ Sat Ps L c) ?_ ?_ _ [] _ _ ⟨fun y hy => hy, by simp, _, _, _, _, rfl, ⟨by simp, fun c hc => (List.not_mem_nil hc).elim⟩, h⟩
  · rintro a y q ss c3 ⟨hq, hlen, t, s4, s5, s6, rfl, ht, h3⟩
    have hy : y ∈ ps := hq y (.head _)
    have ha : a.length ≤ 3 := by simp at hlen; omega
    have ham : a.length * (B + 12) ≤ 3 * (B + 12) := Nat.mul_le_mul_right _ ha
    have h4 : Sat (PieceG R y :: Ps) L c3 := by
      rcases m y hy with hm | ⟨P, hP, hPG⟩
      · exact h3.der fun G hG => hG _ hm
      · exact h3.der fun G hG => hPG G (hG _ hP)
    obtain ⟨part, o, rfl, ho, hp⟩ := open_piece hR h4 (.head _)
    have fin : ∀ w c, goodT (B + 11) w → Sat Ps L c → SP (sAsg (eBin oAddA (eBin oAddA (eVar 3) (eVar 6)) (eVar 5)) (.nm 3) [s0, s1, s2, some (.str t), some part, some (.str o), some (.str w)] c)
        ⟨fun ss c => (∀ y ∈ q, y ∈ ps) ∧ (a ++ [W.tup [part, .str o]]).length + q.length = ps.length ∧ ∃ t s4 s5 s6, ss = [s0, s1, s2, some (.str t), s4, s5, s6] ∧ goodT ((a ++ [W.tup [part, .str o]]).length * (B + 12)) t ∧ Sat Ps L c, rt, nx, fun ss c => (∀ y ∈ q, y ∈ ps) ∧ (a ++ [W.tup [part, .str o]]).length + q.length = ps.length ∧ ∃ t s4 s5 s6, ss = [s0, s1, s2, some (.str t), s4, s5, s6] ∧ goodT ((a ++ [W.tup [part, .str o]]).length * (B + 12)) t ∧ Sat Ps L c, xc⟩ := by
      intro w c hw hc
      have hg := goodT_app (goodT_app ht hw) ho
      have q1 := hg.1
      have q2 := (goodT_app ht hw).1
      rw [List.length_append] at q1 q2
      have e1 : (t ++ w).length + o.length ≤ 1000000 := by omega
      have e2 : t.length + w.length ≤ 1000000 := by omega
      refine w_asg (w_bin (w_bin (w_var rfl rfl (w_var rfl rfl (w_addSA e2 (w_var rfl rfl (w_addSA e1 ?_)))))))
      refine ⟨fun z hz => hq z (.tail _ hz), by simp at hlen ⊢; omega, _, _, _, _, rfl, goodT_le hg ?_, hc⟩
      rw [List.length_append, Nat.add_mul]
      show _ ≤ _ + 1 * (B + 12)
      omega
    rcases hp with ⟨s, b, w, hw, rfl⟩ | ⟨r', rfl, h5⟩
    · refine ⟨_, rfl, ?_⟩
      refine w_seq (w_asg (w_if (w_bB (w_bin (w_bin (w_var rfl rfl (w_c (w_ixT rfl ?_))))))))
      refine w_c (w_eq (b := true) (by with_unfolding_all rfl) (w_bl ⟨fun _ => ?_, (fun z => nomatch z)⟩))
      refine w_bin (w_var rfl rfl (w_c (w_ixT rfl ?_)))
      exact fin w c3 (goodT_le hw (by omega)) h3
    · refine ⟨_, rfl, ?_⟩
      refine w_seq (w_asg (w_if (w_bB (w_bin (w_bin (w_var rfl rfl (w_c (w_ixT rfl ?_))))))))
      refine w_c (w_eq (b := false) (by with_unfolding_all rfl) (w_bl ⟨(fun z => nomatch z), fun _ => ?_⟩))
      refine w_bin (w_bin (w_c (w_call0 (w_cons (w_bin (w_var rfl rfl (w_c (w_ixT rfl (w_nil ?_)))))))))
      refine OP.imp (hch _ _ _ r' h5 (.head _)) ?_ fun _ _ z => z.elim
      rintro x c4 ⟨w, rfl, hw, h6⟩
      have hw1 := hw.1
      have g1 : goodT (1 + B) (z_6 ++ w) := goodT_app (by decide) hw
      have g2 : goodT (1 + B + 1) ((z_6 ++ w) ++ z_21) := goodT_app g1 (by decide)
      have q1 := g1.1
      have q2 := g2.1
      rw [List.length_append] at q1 q2
      refine w_addSA (by omega) (w_c (w_addSA (by omega) ?_))
      exact fin _ c4 (goodT_le g2 (by omega)) (h6.sub fun P hP => .tail _ (.tail _ hP))
  · rintro a ss c3 ⟨_, hlen, t, s4, s5, s6, rfl, ht, h3⟩
    have ha : a.length ≤ 3 := by simp at hlen; omega
    exact k t s4 s5 s6 c3 (goodT_le ht (Nat.mul_le_mul_right _ ha)) h3
end
section
variable {R : Nat → PA}
theorem join_s {P : W → Conf → Prop} {E : Xc → Conf → Prop} {c : Conf} {f B : Nat} {ts : List (List Nat)} (e : c[f]? = some (.lst (ts.map W.str))) (hl : ts.length ≤ 2) (hB : B ≤ 100000) (ht : ∀ t ∈ ts, goodT B t) (k : ∀ w, goodT (2 * B + 1) w → P (.str w) c) : OP (oJoin (.str z_19) [.ref f] c) P E := by
  have er : rdL c (.ref f) = some (ts.map W.str) := by simp only [rdL, e]
  match ts, hl, ht, er with
  | [], _, _, er =>
    refine w_rfl (x := .str []) ?_ (k [] ⟨by simp, fun c hc => (List.not_mem_nil hc).elim⟩)
    simp only [oJoin, er]
    rfl
  | [a], _, ht, er =>
    have h1 := ht a (.head _)
    have h2 := h1.1
    refine w_rfl (x := .str a) ?_ (k a (goodT_le h1 (by omega)))
    simp only [oJoin, er]
    show (if (([a] : List (List Nat)).map (·.length)).sum + ([a] : List (List Nat)).length * z_19.length ≤ 1000000 then Out.ok (W.str (TL.joinL z_19 [a])) c else .bad) = _
    rw [if_pos (by simp; omega)]
    rfl
  | [a, b], _, ht, er =>
    have h1 := ht a (.head _)
    have h2 := h1.1
    have h3 := ht b (.tail _ (.head _))
    have h4 := h3.1
    have hz : goodT 1 z_19 := by decide
    refine w_rfl (x := .str (a ++ z_19 ++ b)) ?_ (k _ (goodT_le (goodT_app (goodT_app h1 hz) h3) (by omega)))
    simp only [oJoin, er]
    show (if (([a, b] : List (List Nat)).map (·.length)).sum + ([a, b] : List (List Nat)).length * z_19.length ≤ 1000000 then Out.ok (W.str (TL.joinL z_19 [a, b])) c else .bad) = _
    rw [if_pos (by simp; omega)]
    simp [TL.joinL]
  | _ :: _ :: _ :: _, hl, _, _ => exact absurd hl (by simp)
theorem wr_s {ch : Fn} {B : Nat} (hB : B ≤ 9000) (hR : ∀ r, Mono (R r)) (hch : WrOk ch R B) : WrOk (e__law_written1 ch) (RowsOf R) (2 * (3 * (B + 12)) + 1) := by
  intro Ps L c r h m
  obtain ⟨rows, hrl, h1⟩ := open_rows hR h m
  unfold e__law_written1 b__law_written
  refine w_def rfl (w_seq (w_asg (w_lstO (w_nil ⟨by decide, ?_⟩))))
  have h0 : Sat (pat r (iz (.lst rows)) :: (fun G => ∀ x ∈ rows, RowG R x G) :: Ps) ((c.length, iz (.lst [])) :: L) (c ++ [.lst []]) := h1.newI
  generalize c ++ [O.lst []] = c0 at h0 ⊢
  generalize c.length = f at h0 ⊢
  refine w_seq (w_forLR (w_var rfl rfl ⟨r, rows, rfl, h0.rdPI (.head _), ?_⟩))
  refine w_goForR (k := r) (xs := rows) (fun j ss c => ∃ (ts : List (List Nat)) (x2 x3 x4 x5 x6 : Option W), ss = [some (.ref r), some (.ref f), x2, x3, x4, x5, x6] ∧ ts.length = j ∧ (∀ t ∈ ts, goodT (3 * (B + 12)) t) ∧ Sat (pat r (iz (.lst rows)) :: (fun G => ∀ x ∈ rows, RowG R x G) :: Ps) ((f, iz (.lst (ts.map W.str))) :: L) c) ?_ ?_ ?_ _ 0 _ _ ⟨[], _, _, _, _, _, rfl, rfl, (fun _ h => (List.not_mem_nil h).elim), h0⟩ (by omega) (Nat.zero_le _)
  · rintro j ss c ⟨ts, x2, x3, x4, x5, x6, rfl, _, _, h2⟩
    exact h2.rdPI (.head _)
  · rintro j x ss c2 hx ⟨ts, x2, x3, x4, x5, x6, rfl, hj, ht, h2⟩
    have hxm : x ∈ rows := List.mem_of_getElem? hx
    have hj2 : j < rows.length := (List.getElem?_eq_some_iff.mp hx).1
    obtain ⟨ps, rfl, hpl⟩ : ∃ ps, x = .lst ps ∧ ps.length ≤ 3 := by
      obtain ⟨G, hG, _⟩ := h2.use
      obtain ⟨ps, e, hl, _⟩ := hG _ (.tail _ (.head _)) x hxm
      exact ⟨ps, e, hl⟩
    refine ⟨_, rfl, ?_⟩
    refine w_seq (w_asg (w_c ?_))
    refine w_seq (w_forL (w_var rfl rfl ⟨ps, rfl, ?_⟩))
    refine wrow_s (by omega) hR hch h2 hpl (fun y hy => Or.inr ⟨_, .tail _ (.head _), fun G hG => ?_⟩) fun t s4 s5 s6 c3 hgt h3 => ?_
    · obtain ⟨ps', e, _, hp⟩ := hG (.lst ps) hxm
      cases e
      exact hp y hy
    · have e2 := h3.rdI (.head _)
      refine w_drop (w_bm (w_var rfl rfl ⟨by simp only [tyOk, e2]; rfl, ?_⟩))
      refine w_cons (w_var rfl rfl (w_nil (w_append e2 (by rw [List.length_map]; omega) ?_)))
      have h5 := h3.wrI (o := .lst ((ts ++ [t]).map W.str))
      have em : (ts ++ [t]).map W.str = ts.map W.str ++ [.str t] := by simp
      rw [em] at h5
      refine ⟨ts ++ [t], _, _, _, _, _, rfl, by simp [hj], fun t2 h2 => ?_, by rw [em]; exact h5⟩
      rcases List.mem_append.mp h2 with h2 | h2
      · exact ht t2 h2
      · rw [List.mem_singleton.mp h2]
        exact hgt
  · rintro ss c2 ⟨ts, x2, x3, x4, x5, x6, rfl, hj, ht, h2⟩
    have e2 := h2.rdI (.head _)
    refine w_ret (w_bm (w_c ⟨rfl, ?_⟩))
    refine w_cons (w_var rfl rfl (w_nil (join_s e2 (by omega) (by omega) ht fun w hw => ?_)))
    exact ⟨w, rfl, hw, h2.drop.sub fun P hP => .tail _ (.tail _ hP)⟩
theorem writ_0 {n : Nat} : WrOk (e__law_written (n + 1)) (RowsG 0) 73 := wr_s (B := 0) (by omega) (fun _ _ _ _ h => h) wr_no
theorem writ_1 {n : Nat} : WrOk (e__law_written (n + 2)) (RowsG 1) 511 := wr_s (B := 73) (by omega) (mono_G 0) writ_0
theorem writ_2 {n : Nat} : WrOk (e__law_written (n + 3)) (RowsG 2) 3139 := wr_s (B := 511) (by omega) (mono_G 1) writ_1
end
section
def litP : List W := [.tup [.tup [.str z_45, .str z_2, .bl false, .str z_2], .str z_36], .tup [.tup [.str z_45, .str z_43, .bl false, .str z_43], .str z_0]]
theorem litP_ok (R : Nat → PA) : ∀ y ∈ litP, ∀ G, PieceG R y G := by
  intro y hy G
  rcases List.mem_cons.mp hy with rfl | hy
  · exact ⟨_, _, Or.inl ⟨_, _, _, (by decide : goodT 9 z_2), rfl⟩, (by decide : goodT 1 z_36), rfl⟩
  · rw [List.mem_singleton.mp hy]
    exact ⟨_, _, Or.inl ⟨_, _, _, (by decide : goodT 9 z_43), rfl⟩, (by decide : goodT 1 z_0), rfl⟩
theorem wr_lit {n : Nat} {Ps : List PA} {L : List Cell} {c : Conf} (h : Sat Ps L c) : OP (e__law_written (n + 3) [.lst [.lst litP]] c) (fun x c' => ∃ w, x = .str w ∧ goodT 3139 w ∧ Sat Ps L c') noE := by
  show OP (e__law_written1 (e__law_written (n + 2)) [.lst [.lst litP]] c) _ _
  unfold e__law_written1 b__law_written
  refine w_def rfl (w_seq (w_asg (w_lstO (w_nil ⟨by decide, ?_⟩))))
  have h0 : Sat Ps ((c.length, iz (.lst [])) :: L) (c ++ [.lst []]) := h.newI
  generalize c ++ [O.lst []] = c0 at h0 ⊢
  generalize c.length = f at h0 ⊢
  refine w_seq (w_forL (w_var rfl rfl ⟨[.lst litP], rfl, ?_⟩))
  refine w_goFor (fun a q ss c => (∀ x ∈ q, x = .lst litP) ∧ a.length + q.length = 1 ∧ ∃ (ts : List (List Nat)) (x2 x3 x4 x5 x6 : Option W), ss = [some (.lst [.lst litP]), some (.ref f), x2, x3, x4, x5, x6] ∧ ts.length = a.length ∧ (∀ t ∈ ts, goodT (3 * (511 + 12)) t) ∧ Sat Ps ((f, iz (.lst (ts.map W.str))) :: L) c) ?_ ?_ _ [] _ _ ⟨fun x hx => List.mem_singleton.mp hx, rfl, [], _, _, _, _, _, rfl, rfl, (fun _ h => (List.not_mem_nil h).elim), h0⟩
  · rintro a x q ss c2 ⟨hq, hlen, ts, x2, x3, x4, x5, x6, rfl, hj, ht, h2⟩
    have ex := hq x (.head _)
    subst ex
    have hal : a.length ≤ 1 := by simp at hlen; omega
    refine ⟨_, rfl, ?_⟩
    refine w_seq (w_asg (w_c ?_))
    refine w_seq (w_forL (w_var rfl rfl ⟨litP, rfl, ?_⟩))
    have h2b := Sat.der (Q := fun G => ∀ y ∈ litP, PieceG (RowsG 1) y G) h2 fun G _ y hy => litP_ok _ y hy G
    refine wrow_s (B := 511) (by omega) (mono_G 1) writ_1 h2b (by decide) (fun y hy => Or.inr ⟨_, .head _, fun G hG => hG y hy⟩) fun t s4 s5 s6 c3 hgt h3 => ?_
    have e2 := h3.rdI (.head _)
    refine w_drop (w_bm (w_var rfl rfl ⟨by simp only [tyOk, e2]; rfl, ?_⟩))
    refine w_cons (w_var rfl rfl (w_nil (w_append e2 (by rw [List.length_map]; omega) ?_)))
    have h5 := h3.wrI (o := .lst ((ts ++ [t]).map W.str))
    have em : (ts ++ [t]).map W.str = ts.map W.str ++ [.str t] := by simp
    rw [em] at h5
    refine ⟨fun z hz => hq z (.tail _ hz), by simp at hlen ⊢; omega, ts ++ [t], _, _, _, _, _, rfl, by simp [hj], fun t2 h2 => ?_, by rw [em]; exact h5.sub fun P hP => .tail _ hP⟩
    rcases List.mem_append.mp h2 with h2 | h2
    · exact ht t2 h2
    · rw [List.mem_singleton.mp h2]
      exact hgt
  · rintro a ss c2 ⟨_, hlen, ts, x2, x3, x4, x5, x6, rfl, hj, ht, h2⟩
    have e2 := h2.rdI (.head _)
    have hal : a.length ≤ 1 := by simp at hlen; omega
    refine w_ret (w_bm (w_c ⟨rfl, ?_⟩))
    refine w_cons (w_var rfl rfl (w_nil (join_s e2 (by omega) (by omega) ht fun w hw => ?_)))
    exact ⟨w, rfl, hw, h2.drop⟩
theorem pattern_s {Ps : List PA} {L : List Cell} {c : Conf} {i : Nat} (h : Sat Ps L c) (m : (i, IsBag) ∈ L) : OP (e__law_pattern [.ref i] c) (fun x c' => ∃ y b t, x = .tup [y, .bl b, .str t] ∧ goodT 3140 t ∧ Sat Ps L c') noE := by
  unfold e__law_pattern b__law_pattern
  refine w_def rfl (w_seq (w_asg (w_call0 (w_cons (w_var rfl rfl (w_cons (w_c (w_nil ?_))))))))
  refine OP.imp (draw_2 (n := 5) Ps L c i h m) ?_ fun _ _ z => z.elim
  rintro x c1 ⟨r, rfl, h1⟩
  refine w_mid (fun ss c => ∃ y x2, ss = [some (.ref i), some y, x2] ∧ Sat (RowsG 2 r :: Ps) L c ∧ (y = .ref r ∨ y = .lst [.lst litP])) ?_ ?_
  · refine w_ifS (OP.imp (P := fun b c => Sat (RowsG 2 r :: Ps) L c) (E := noE) ?_ ?_ fun _ _ z => z.elim)
    · refine w_bOr (w_bB (w_bin (w_call0 (w_cons (w_var rfl rfl (w_nil ?_))))))
      refine OP.imp (spec_2 (n := 5) _ _ _ r h1 (.head _)) ?_ fun _ _ z => z.elim
      rintro x c2 ⟨k, rfl, h2⟩
      refine w_c (w_gtA (w_bl ⟨fun _ => h2, fun _ => ?_⟩))
      refine w_bB (w_bin (w_cb (w_cons (w_call0 (w_cons (w_var rfl rfl (w_nil ?_)))))))
      refine OP.imp (writ_2 (n := 5) _ _ _ r h2 (.head _)) ?_ fun _ _ z => z.elim
      rintro x c3 ⟨w, rfl, hw, h3⟩
      have hw1 := hw.1
      exact w_nil (w_lenS (by omega) (w_c (w_gtA (w_bl h3))))
    · rintro b c2 h2
      refine ⟨fun _ => ?_, fun _ => w_next ⟨_, _, rfl, h2, Or.inl rfl⟩⟩
      repeat' (first | wtm_at "st1" | refine And.intro (Nat.le_of_ble_eq_true rfl) ?_)
      exact ⟨_, _, rfl, h2, Or.inr rfl⟩
  · rintro ss c2 ⟨y, x2, rfl, h2, hy⟩
    have hye : isEx (some y) = false := by rcases hy with rfl | rfl <;> rfl
    refine w_seq (w_asg (OP.imp (P := fun x c => (∃ b, x = .bl b) ∧ Sat (RowsG 2 r :: Ps) L c) (E := noE) ?_ ?_ fun _ _ z => z.elim))
    · refine w_and (w_bin (w_cb (w_cons (w_var rfl hye (w_nil ?_)))))
      have hln : ∃ n, lenC c2 y = some n := by
        rcases hy with rfl | rfl
        · obtain ⟨rows, _, h3⟩ := open_rows (mono_G 1) h2 (.head _)
          have er := h3.rdPI (.head _)
          exact ⟨rows.length, by simp only [lenC, rdL, er]⟩
        · exact ⟨_, rfl⟩
      obtain ⟨n, en⟩ := hln
      refine w_len en (w_c (w_eq eqC_i (w_bl ⟨fun _ => ?_, fun _ => ⟨⟨_, rfl⟩, h2⟩⟩)))
      refine w_bin (w_call0 (w_cons (w_var rfl rfl (w_cons (w_c (w_nil (take_s h2 m (by decide) fun k c3 hk h3 => ?_)))))))
      exact w_c (w_eq eqC_i ⟨⟨_, rfl⟩, h3⟩)
    · rintro x c3 ⟨⟨b, rfl⟩, h3⟩
      refine w_ret (w_tup (w_cons (w_var rfl hye (w_cons (w_var rfl rfl (w_cons (w_bin (w_call0 (w_cons (w_var rfl hye (w_nil ?_)))))))))))
      refine OP.imp (P := fun x c => ∃ w, x = .str w ∧ goodT 3139 w ∧ Sat (RowsG 2 r :: Ps) L c) (E := noE) ?_ ?_ fun _ _ z => z.elim
      · rcases hy with rfl | rfl
        · exact writ_2 (n := 5) _ _ _ r h3 (.head _)
        · exact wr_lit (n := 5) h3
      · rintro x c4 ⟨w, rfl, hw, h4⟩
        refine w_bin (w_c (w_cb (w_cons (w_var rfl rfl (w_nil ?_)))))
        have hw1 := hw.1
        have h5 : Sat Ps L c4 := h4.sub fun P hP => .tail _ hP
        cases b with
        | false =>
          refine w_rfl (x := .int 0) rfl (w_mulSA (by decide) (w_addSA ?_ (w_nil ?_)))
          · show w.length + 0 ≤ 1000000
            omega
          · refine ⟨Nat.le_of_ble_eq_true rfl, ?_⟩
            exact ⟨_, _, _, rfl, goodT_le (goodT_app hw (by decide : goodT 1 (repN z_22 (0 : Int).toNat))) (by omega), h5⟩
        | true =>
          refine w_rfl (x := .int 1) rfl (w_mulSA (by decide) (w_addSA ?_ (w_nil ?_)))
          · show w.length + 1 ≤ 1000000
            omega
          · refine ⟨Nat.le_of_ble_eq_true rfl, ?_⟩
            exact ⟨_, _, _, rfl, goodT_le (goodT_app hw (by decide : goodT 1 (repN z_22 (1 : Int).toNat))) (by omega), h5⟩
end
section
def menuA83 : List (List Nat) := [[97], [98], [91, 97, 45, 99, 93], [91, 94, 32, 93], [40], [41], [124], [97, 42], [92, 46], [46], [91, 57], [120, 121, 122]]
theorem menuA83_ok : ∀ w ∈ menuA83, goodT 5 w := by decide
theorem menuB83_ok : ∀ x ∈ z_44, goodT 1 [x] := by decide
def menuC83 : List (List Nat) := [[], [40], [41], [42], [36], [91], [93], [124], [97], [45], [94], [92]]
theorem menuC83_ok : ∀ w ∈ menuC83, goodT 1 w := by decide
theorem goodT_cut {n : Nat} {w : List Nat} {l u : Option Int} (h : goodT n w) : goodT n (cutW w l u) := by
  unfold cutW
  refine ⟨?_, fun c hc => h.2 c (List.mem_of_mem_drop (List.mem_of_mem_take hc))⟩
  have := h.1
  rw [List.length_take, List.length_drop]
  omega
theorem sl_str {P : W → Conf → Prop} {E : Xc → Conf → Prop} {c : Conf} {w : List Nat} {l u : Option Int} (hl : w.length ≤ 1000000) (k : P (.str (cutW w l u)) c) : OP (oSlU (.str w) l u c) P E := by
  refine w_rfl (x := .str (cutW w l u)) ?_ k
  show (if w.length ≤ 1000000 then _ else _) = _
  rw [if_pos hl]
theorem string_s {Ps : List PA} {L : List Cell} {c : Conf} {i : Nat} (h : Sat Ps L c) (m : (i, IsBag) ∈ L) : OP (e__law_string [.ref i] c) (fun x c' => ∃ t, x = .str t ∧ goodT 7000 t ∧ Sat Ps L c') noE := by
  unfold e__law_string b__law_string
  refine w_def rfl (w_seq (w_par (w_cons (w_call0 (w_cons (w_var rfl rfl (w_cons (w_c (w_nil (take_s h m (by decide) fun way c1 hway h1 => ?_))))))))))
  refine w_cons (w_c (w_nil ⟨_, _, rfl, ?_⟩))
  refine w_seq (w_ifS (w_bB (w_bin (w_var rfl rfl (w_c (w_eq eqC_i (w_bl ⟨fun _ => ?_, fun _ => ?_⟩)))))))
  · refine w_seq (w_forR (w_cons (w_call0 (w_cons (w_var rfl rfl (w_cons (w_c (w_nil (take_s h1 m (by decide) fun n c2 hn h2 => w_nil ⟨_, rfl, ⟨by omega, by omega⟩, ?_⟩)))))))))
    refine w_goFor (fun a q ss c => a.length + q.length ≤ 71 ∧ ∃ (t : List Nat) (x3 x4 x5 : Option W), ss = [some (.ref i), some (.int way), some (.str t), x3, x4, x5] ∧ goodT a.length t ∧ Sat Ps L c) ?_ ?_ _ [] _ _ ⟨by simp [rangeW_len]; omega, _, _, _, _, rfl, ⟨Nat.le_refl _, fun c hc => (List.not_mem_nil hc).elim⟩, h2⟩
    · rintro a x q ss c3 ⟨hlen, t, x3, x4, x5, rfl, ht, h3⟩
      have hal : a.length ≤ 71 := by omega
      have ht1 := ht.1
      refine ⟨_, rfl, ?_⟩
      refine w_asg (w_bin (w_var rfl rfl (w_call0 (w_cons (w_var rfl rfl (w_cons (w_c (w_nil ?_))))))))
      refine pick_str h3 m (by decide) fun ch c4 hch h4 => ?_
      refine w_addSA (by show t.length + 1 ≤ 1000000; omega) ?_
      exact ⟨by simp at hlen ⊢; omega, _, _, _, _, rfl, by rw [List.length_append]; exact goodT_app ht (menuB83_ok ch hch), h4⟩
    · rintro a ss c3 ⟨hlen, t, x3, x4, x5, rfl, ht, h3⟩
      have hal : a.length ≤ 71 := by omega
      exact w_ret (w_var rfl rfl ⟨t, rfl, goodT_le ht (by omega), h3⟩)
  refine w_next (w_seq (w_ifS (w_bB (w_bin (w_var rfl rfl (w_c (w_eq eqC_i (w_bl ⟨fun _ => ?_, fun _ => ?_⟩))))))))
  · refine w_seq (w_forR (w_cons (w_call0 (w_cons (w_var rfl rfl (w_cons (w_c (w_nil (take_s h1 m (by decide) fun n c2 hn h2 => w_nil ⟨_, rfl, ⟨by omega, by omega⟩, ?_⟩)))))))))
    refine w_goFor (fun a q ss c => a.length + q.length ≤ 30 ∧ ∃ (t : List Nat) (x3 x4 x5 : Option W), ss = [some (.ref i), some (.int way), some (.str t), x3, x4, x5] ∧ goodT (a.length * 5) t ∧ Sat Ps L c) ?_ ?_ _ [] _ _ ⟨by simp [rangeW_len]; omega, _, _, _, _, rfl, ⟨Nat.le_refl _, fun c hc => (List.not_mem_nil hc).elim⟩, h2⟩
    · rintro a x q ss c3 ⟨hlen, t, x3, x4, x5, rfl, ht, h3⟩
      have hal : a.length ≤ 30 := by omega
      have ht1 := ht.1
      refine ⟨_, rfl, ?_⟩
      refine w_asg (w_bin (w_var rfl rfl ?_))
      repeat' (first | wtm_at "st1" | refine And.intro (Nat.le_of_ble_eq_true rfl) ?_)
      refine pick_lst h3 m (by decide) fun x c4 hx h4 => ?_
      obtain ⟨w, hw, rfl⟩ := List.mem_map.mp (show x ∈ menuA83.map W.str from hx)
      have hg := menuA83_ok w hw
      have hg1 := hg.1
      refine w_addSA (by omega) ?_
      exact ⟨by simp at hlen ⊢; omega, _, _, _, _, rfl, by rw [List.length_append, Nat.add_mul]; exact goodT_app ht hg, h4⟩
    · rintro a ss c3 ⟨hlen, t, x3, x4, x5, rfl, ht, h3⟩
      have hal : a.length ≤ 30 := by omega
      exact w_ret (w_var rfl rfl ⟨t, rfl, goodT_le ht (by omega), h3⟩)
  refine w_next (w_seq (w_asg (w_bin (w_call0 (w_cons (w_var rfl rfl (w_nil ?_)))))))
  refine OP.imp (pattern_s h1 m) ?_ fun _ _ z => z.elim
  rintro x c2 ⟨y, b, t, rfl, ht, h2⟩
  have ht1 := ht.1
  refine w_c (w_ixT rfl ?_)
  refine w_seq (w_asg (w_call0 (w_cons (w_var rfl rfl (w_cons (w_bin (w_cb (w_cons (w_var rfl rfl (w_nil (w_lenS (by omega) (w_c (w_addIA (w_nil ?_))))))))))))))
  refine take_s h2 m ⟨by omega, by omega⟩ fun k c3 hk h3 => ?_
  refine w_seq (w_asg ?_)
  repeat' (first | wtm_at "st1" | refine And.intro (Nat.le_of_ble_eq_true rfl) ?_)
  refine pick_lst h3 m (by decide) fun x c4 hx h4 => ?_
  obtain ⟨w, hw, rfl⟩ := List.mem_map.mp (show x ∈ menuC83.map W.str from hx)
  have hg := menuC83_ok w hw
  have hg1 := hg.1
  have hc1 := goodT_cut (l := none) (u := some (k : Int)) ht
  have hc2 := hc1.1
  refine w_ret (w_bin (w_bin (w_sl (w_var rfl rfl (w_noPart (w_part (w_var rfl rfl ⟨_, rfl, sl_str (by omega) (w_var rfl rfl (w_addSA (by omega) ?_))⟩)))))))
  refine w_sl (w_var rfl rfl (w_part (w_bin (w_var rfl rfl (w_call0 (w_cons (w_var rfl rfl (w_cons (w_c (w_nil (take_s h4 m (by decide) fun k2 c5 hk2 h5 => w_addIA ⟨_, rfl, w_noPart (sl_str (by omega) ?_)⟩)))))))))))
  have hd1 := goodT_cut (l := some ((k : Int) + k2)) (u := none) ht
  have hd2 := hd1.1
  refine w_addSA (by rw [List.length_append]; omega) ?_
  exact ⟨_, rfl, goodT_le (goodT_app (goodT_app hc1 hg) hd1) (by omega), h5⟩
end
section
variable {Ps : List PA} {L : List Cell} {c : Conf} {i : Nat} {P : W → Conf → Prop} {E : Xc → Conf → Prop}
theorem per83 {t : List Nat} (h : Sat Ps L c) (ht : goodT 100000 t) (k : ∀ c', Sat Ps L c' → P (dueV t) c') : OP (e_pattern_error [.str t] c) P E := by
  obtain ⟨D, e⟩ := per_s (c := c) ht.2 ht.1
  exact w_rfl e (k _ h.grow)
theorem due83 {t : List Nat} (h : Sat Ps L c) (ht : goodT 100000 t) (k : ∀ c', Sat Ps L c' → P (dueV t) c') : OP (e__law_due [.str t] c) P E := by
  obtain ⟨D, e⟩ := due_s (c := c) ht.2 ht.1
  exact w_rfl e (k _ h.grow)
theorem dueV_cases (t : List Nat) : dueV t = .non ∨ ∃ n : Int, dueV t = .int n := by
  unfold dueV
  split
  · exact Or.inr ⟨_, rfl⟩
  · split
    · exact Or.inl rfl
    · exact Or.inr ⟨_, rfl⟩
def isNonW : W → Bool
  | .non => true
  | _ => false
theorem is_non {t : List Nat} {c : Conf} (k : P (.bl (isNonW (dueV t))) c) : OP (oIsA (dueV t) .non c) P E := by
  rcases dueV_cases t with e | ⟨n, e⟩ <;> rw [e] at k ⊢
  · exact w_rfl (x := .bl true) rfl k
  · exact w_rfl (x := .bl false) rfl k
theorem isp83 {t : List Nat} (h : Sat Ps L c) (ht : goodT 100000 t) (k : ∀ c', Sat Ps L c' → P (.bl (isNonW (dueV t))) c') : OP (e_is_pattern [.str t] c) P E := by
  refine w_def rfl (w_ret (w_and (w_cb (w_cons (w_var rfl rfl (w_cons (w_c (w_nil ?_))))))))
  refine w_isi (t := .inl .str) (b := true) rfl rfl (w_bl ⟨fun _ => ?_, (fun z => nomatch z)⟩)
  refine w_bin (w_call0 (w_cons (w_var rfl rfl (w_nil ?_))))
  exact per83 h ht fun c' h' => w_c (is_non (k c' h'))
theorem dueR_le : ∀ (u : List Nat) (i : Nat) (s : W), i ≤ 60 → (∃ k : Nat, dueR i s u = .inl (k : Int) ∧ k ≤ 60) ∨ ∃ s', dueR i s u = .inr s' ∧ i + u.length ≤ 60
  | [], i, s, hi => Or.inr ⟨s, rfl, by simpa using hi⟩
  | ch :: u, i, s, hi => by
    rw [dueR_eq]
    split
    · exact Or.inl ⟨i, rfl, hi⟩
    · split
      · exact Or.inl ⟨i, rfl, hi⟩
      · rename_i h60
        rcases dueR_le u (i + 1) _ (by omega) with h | ⟨s', e, hl⟩
        · exact Or.inl h
        · exact Or.inr ⟨s', e, by simp; omega⟩
    · exact Or.inl ⟨i, rfl, hi⟩
theorem dueV_le (t : List Nat) : dueV t = .non ∨ ∃ k : Nat, dueV t = .int (k : Int) ∧ k ≤ 60 := by
  unfold dueV
  rcases dueR_le t 0 s083 (by omega) with ⟨k, e, hk⟩ | ⟨s, e, hl⟩
  · rw [e]
    exact Or.inr ⟨k, rfl, hk⟩
  · rw [e]
    by_cases he : endOk s = true
    · refine Or.inl ?_
      show (if endOk s = true then W.non else W.int t.length) = _
      rw [if_pos he]
    · refine Or.inr ⟨t.length, ?_, by omega⟩
      show (if endOk s = true then W.non else W.int t.length) = _
      rw [if_neg he]
end
section
open PySem PySem.Spec PyProof.Rows L2 Wf TL
def repW : Ev.W → List Nat
  | .non => [78, 111, 110, 101]
  | .int i => digW 6 i.toNat
  | _ => []
theorem rep_k : ∀ k : Nat, k < 61 → (0 ≤ (k : Int) ∧ (k : Int) < 10000 ∧ mk (digW 6 (k : Int).toNat) = ((toString (k : Int) : String) : Str)) := by decide
theorem repW_asc (t : List Nat) : ((repW (dueV t)).all fun c => decide (c < 0x110000)) = true := by
  rcases dueV_le t with e | ⟨k, e, hk⟩ <;> rw [e]
  · rfl
  · exact (by decide : ∀ k : Nat, k < 61 → ((repW (.int (k : Int))).all fun c => decide (c < 0x110000)) = true) k (by omega)
theorem rep83 {t : List Nat} {c : Conf} {P : W → Conf → Prop} {E : Xc → Conf → Prop} (k : P (.str (repW (dueV t))) c) : OP (oRepr [dueV t] c) P E := by
  rcases dueV_le t with e | ⟨n, e, hn⟩ <;> rw [e] at k ⊢
  · exact w_rfl rfl k
  · refine w_rfl ?_ k
    show (if 0 ≤ (n : Int) ∧ (n : Int) < 10000 ∧ _ then _ else _) = _
    rw [if_pos (rep_k n (by omega))]
    rfl
end
section
variable {Ps : List PA} {L : List Cell} {c : Conf} {i : Nat} {P : W → Conf → Prop} {E : Xc → Conf → Prop}
theorem cmp83 {t u : List Nat} (k : P (.bl (!decide (repW (dueV t) = repW (dueV u)))) c) : OP (oNe (.str (repW (dueV t))) (.str (repW (dueV u))) c) P E := w_ne (eqC_s (repW_asc t) (repW_asc u)) k
/-- the 25 drawn texts -/
theorem turn83 {ns : W} {x3 x4 x5 x6 x7 x8 : Option W} {j : W} {nx bk ct : Sl → Conf → Prop} {rt : W → Conf → Prop} {xc : Xc → Sl → Conf → Prop} (h : Sat Ps L c) (m : (i, IsBag) ∈ L)
    (k : ∀ x4 x5 c, Sat Ps L c → nx [some ns, some j, some (.ref i), x3, x4, x5, x6, x7, x8] c) :
    SP (sSeq (sAsg (eCall e__law_string [] (aCons (eVar 2) aNil)) (.nm 4))
    (sSeq (sAsg (eCall e__law_due [] (aCons (eVar 4) aNil)) (.nm 5))
    (sIf (bOr (bB (eBin oNe (eCB oRepr (aCons (eCall e_pattern_error [] (aCons (eVar 4) aNil)) aNil)) (eCB oRepr (aCons (eVar 5) aNil)))) (bB (eBin oNe (eCall e_is_pattern [] (aCons (eVar 4) aNil)) (eBin oIsA (eVar 5) (eC .non))))) (sRet (eC (.bl false))) sNext)) [some ns, some j, some (.ref i), x3, x4, x5, x6, x7, x8] c) ⟨nx, rt, bk, ct, xc⟩ := by
  refine w_seq (w_asg (w_call0 (w_cons (w_var rfl rfl (w_nil ?_)))))
  refine OP.imp (string_s h m) ?_ fun _ _ z => z.elim
  rintro x c1 ⟨t, rfl, ht, h1⟩
  have hg := goodT_le ht (by omega : 7000 ≤ 100000)
  refine w_seq (w_asg (w_call0 (w_cons (w_var rfl rfl (w_nil ?_)))))
  refine due83 h1 hg fun c2 h2 => ?_
  have hex : isEx (some (dueV t)) = false := by rcases dueV_cases t with e | ⟨n, e⟩ <;> rw [e] <;> rfl
  refine w_ifS (w_bOr (w_bB (w_bin (w_cb (w_cons (w_call0 (w_cons (w_var rfl rfl (w_nil ?_)))))))))
  refine per83 h2 hg fun c3 h3 => ?_
  refine w_nil (rep83 (w_cb (w_cons (w_var rfl hex (w_nil (rep83 (cmp83 (w_bl ⟨fun hb => ?_, fun _ => ?_⟩))))))))
  · simp at hb
  refine w_bB (w_bin (w_call0 (w_cons (w_var rfl rfl (w_nil ?_)))))
  refine isp83 h3 hg fun c4 h4 => ?_
  refine w_bin (w_var rfl hex (w_c (is_non (w_ne (b := true) ?_ (w_bl ⟨(fun z => nomatch z), fun _ => w_next (k _ _ _ h4)⟩)))))
  cases isNonW (dueV t) <;> rfl
end
section
variable {Ps : List PA} {L : List Cell} {c : Conf} {P : Ev.W → Conf → Prop} {E : Xc → Conf → Prop}
open PySem PySem.Spec PyProof.Rows L2 Wf TL in
theorem bad_txt {t : List Nat} {n : Int} {c0 : Conf} (h : Sat Ps L c) (e : e_pattern_error [.str t] [] = .ok (.int n) c0) (k : ∀ c', Sat Ps L c' → P (.bl false) c') : OP (e_is_pattern [.str t] c) P E := by
  refine w_def rfl (w_ret (w_and (w_cb (w_cons (w_var rfl rfl (w_cons (w_c (w_nil ?_))))))))
  refine w_isi (t := .inl .str) (b := true) rfl rfl (w_bl ⟨fun _ => ?_, (fun z => nomatch z)⟩)
  refine w_bin (w_call0 (w_cons (w_var rfl rfl (w_nil ?_))))
  obtain ⟨D, e2, _⟩ := fr_up (f := eDef 1 4 b_pattern_error) e rfl c
  exact w_rfl e2 (w_c (w_rfl (x := .bl false) rfl (k _ h.grow)))
open PySem PySem.Spec PyProof.Rows L2 Wf TL in
theorem bad_thing {x : Ev.W} {t : Ty ⊕ Nm} (h : Sat Ps L c) (hx : isEx (some x) = false) (e : tyTag c x = some t) (e2 : isi1 cs0 xs0 t (.ty .str) = some false) (k : ∀ c', Sat Ps L c' → P (.bl false) c') : OP (e_is_pattern [x] c) P E := by
  refine w_def rfl (w_ret (w_and (w_cb (w_cons (w_var rfl hx (w_cons (w_c (w_nil ?_))))))))
  exact w_isi e e2 (w_bl ⟨(fun z => nomatch z), fun _ => k c h⟩)
end
section
variable {Ps : List PA} {L : List Cell} {c : Conf} {i : Nat}
/-- the ten texts -/
def tens (n : Nat) : List (List Nat) := [repN z_2 n, repN z_6 4 ++ repN z_2 n, z_4 ++ repN z_2 n ++ z_9, repN z_8 n, repN z_2 n ++ z_7, repN z_6 1200, repN z_5 600, repN z_4 1200, repN z_3 500, repN z_1 1200 ++ repN z_2 n]
theorem repN_len {s : List Nat} : ∀ n, (repN s n).length = n * s.length
  | 0 => by simp [repN]
  | n + 1 => by simp [repN, repN_len n, Nat.add_mul]; try omega
theorem repN_good {s : List Nat} (h : ∀ c ∈ s, c ∈ signs) : ∀ n, ∀ c ∈ repN s n, c ∈ signs
  | 0 => fun c hc => by simp [repN] at hc
  | n + 1 => fun c hc => by
    simp only [repN, List.mem_append] at hc
    rcases hc with hc | hc
    · first | exact h c hc | exact repN_good h n c hc
    · first | exact repN_good h n c hc | exact h c hc
theorem goodT_rep {s : List Nat} {n k m : Nat} (h : goodT k s) (hm : n * k ≤ m) : goodT m (repN s n) := by
  refine ⟨?_, repN_good h.2 n⟩
  rw [repN_len]
  exact Nat.le_trans (Nat.mul_le_mul_left n h.1) hm
theorem tens_ok {n : Nat} (hn : n ≤ 71) : ∀ t ∈ tens n, goodT 3000 t := by
  have h2 : goodT 71 (repN z_2 n) := goodT_rep (k := 1) (by decide) (by omega)
  have h8 : goodT 142 (repN z_8 n) := goodT_rep (k := 2) (by decide) (by omega)
  intro t ht
  simp only [tens, List.mem_cons, List.not_mem_nil, or_false] at ht
  rcases ht with rfl | rfl | rfl | rfl | rfl | rfl | rfl | rfl | rfl | rfl
  · exact goodT_le h2 (by omega)
  · exact goodT_le (goodT_app (goodT_rep (n := 4) (m := 4) (k := 1) (by decide) (by omega)) h2) (by omega)
  · exact goodT_le (goodT_app (goodT_app (by decide : goodT 1 z_4) h2) (by decide : goodT 1 z_9)) (by omega)
  · exact goodT_le h8 (by omega)
  · exact goodT_le (goodT_app h2 (by decide : goodT 3 z_7)) (by omega)
  · exact goodT_rep (n := 1200) (k := 1) (by decide) (by omega)
  · exact goodT_rep (n := 600) (k := 2) (by decide) (by omega)
  · exact goodT_rep (n := 1200) (k := 1) (by decide) (by omega)
  · exact goodT_rep (n := 500) (k := 3) (by decide) (by omega)
  · exact goodT_le (goodT_app (goodT_rep (n := 1200) (m := 1200) (k := 1) (by decide) (by omega)) h2) (by omega)
theorem long_no {t : List Nat} (h : 60 < t.length) : isNonW (dueV t) = false := by
  unfold dueV
  rcases dueR_le t 0 s083 (by omega) with ⟨k, e, hk⟩ | ⟨s, e, hl⟩
  · rw [e]
    rfl
  · omega
/-- one of the ten -/
theorem ten83 {t : List Nat} {s0 s1 s2 s3 s5 s6 s7 s8 : Option W} {nx bk ct : Sl → Conf → Prop} {rt : W → Conf → Prop} {xc : Xc → Sl → Conf → Prop} (h : Sat Ps L c) (ht : goodT 3000 t)
    (k : ∀ c, Sat Ps L c → nx [s0, s1, s2, s3, some (.str t), s5, s6, s7, s8] c) :
    SP (sIf (bOr (bB (eBin oNe (eCB oRepr (aCons (eCall e_pattern_error [] (aCons (eVar 4) aNil)) aNil)) (eCB oRepr (aCons (eCall e__law_due [] (aCons (eVar 4) aNil)) aNil)))) (bAnd (bB (eBin oGtA (eCB oLen (aCons (eVar 4) aNil)) (eC (.int 1000)))) (bB (eBin oNotA (eCall e_is_pattern [] (aCons (eVar 4) aNil)) (eC (.bl false)))))) (sRet (eC (.bl false))) sNext [s0, s1, s2, s3, some (.str t), s5, s6, s7, s8] c) ⟨nx, rt, bk, ct, xc⟩ := by
  have hg := goodT_le ht (by omega : 3000 ≤ 100000)
  have hl := ht.1
  refine w_ifS (w_bOr (w_bB (w_bin (w_cb (w_cons (w_call0 (w_cons (w_var rfl rfl (w_nil ?_)))))))))
  refine per83 h hg fun c3 h3 => ?_
  refine w_nil (rep83 (w_cb (w_cons (w_call0 (w_cons (w_var rfl rfl (w_nil ?_)))))))
  refine due83 h3 hg fun c4 h4 => ?_
  refine w_nil (rep83 (cmp83 (w_bl ⟨fun hb => ?_, fun _ => ?_⟩)))
  · simp at hb
  refine w_bAnd (w_bB (w_bin (w_cb (w_cons (w_var rfl rfl (w_nil (w_lenS (by omega) (w_c (w_gtA (w_bl ⟨fun hb => ?_, fun _ => ⟨(fun z => nomatch z), fun _ => w_next (k _ h4)⟩⟩))))))))))
  have h60 : 60 < t.length := by have := of_decide_eq_true hb; omega
  refine w_bB (w_bin (w_call0 (w_cons (w_var rfl rfl (w_nil ?_)))))
  refine isp83 h4 hg fun c5 h5 => ?_
  rw [long_no h60]
  exact w_c (w_rfl (x := .bl false) rfl (w_bl ⟨(fun z => nomatch z), fun _ => w_next (k _ h5)⟩))
end
def isI1 : Out W → Bool
  | .ok (.int i) _ => decide (i = 1)
  | _ => false
theorem of_I1 {o : Out W} (h : isI1 o = true) : ∃ c0, o = .ok (.int 1) c0 := by
  unfold isI1 at h
  split at h
  · rw [of_decide_eq_true h]
    exact ⟨_, rfl⟩
  · cases h
theorem e_bad1 : ∃ c0, e_pattern_error [.str z_11] [] = .ok (.int 1) c0 := of_I1 (by kernel_rfl)
theorem e_bad2 : ∃ c0, e_pattern_error [.str z_10] [] = .ok (.int 1) c0 := of_I1 (by kernel_rfl)
theorem odd_s {Ps : List PA} {L : List Cell} {c : Conf} {d : Nat} {x : W} (h : Sat (pat d (iz (.dic [])) :: Ps) L c) (hx : x ∈ [.non, .int 0, .bl true, .lst [.str z_2], .tup [.str z_2], .ref d, .str z_11, .str z_10]) :
    isEx (some x) = false ∧ OP (e_is_pattern [x] c) (fun r c' => r = .bl false ∧ Sat (pat d (iz (.dic [])) :: Ps) L c') noE := by
  simp only [List.mem_cons, List.not_mem_nil, or_false] at hx
  rcases hx with rfl | rfl | rfl | rfl | rfl | rfl | rfl | rfl
  · exact ⟨rfl, bad_thing h rfl rfl rfl fun c' h' => ⟨rfl, h'⟩⟩
  · exact ⟨rfl, bad_thing h rfl rfl rfl fun c' h' => ⟨rfl, h'⟩⟩
  · exact ⟨rfl, bad_thing h rfl rfl rfl fun c' h' => ⟨rfl, h'⟩⟩
  · exact ⟨rfl, bad_thing h rfl rfl rfl fun c' h' => ⟨rfl, h'⟩⟩
  · exact ⟨rfl, bad_thing h rfl rfl rfl fun c' h' => ⟨rfl, h'⟩⟩
  · have e := h.rdPI (.head _)
    exact ⟨rfl, bad_thing h rfl (by simp only [tyTag, e]; rfl) rfl fun c' h' => ⟨rfl, h'⟩⟩
  · obtain ⟨c0, e⟩ := e_bad1
    exact ⟨rfl, bad_txt h e fun c' h' => ⟨rfl, h'⟩⟩
  · obtain ⟨c0, e⟩ := e_bad2
    exact ⟨rfl, bad_txt h e fun c' h' => ⟨rfl, h'⟩⟩
theorem law_op (ns : List Int) (c0 : Conf) : OP (e_law [.wls (ns.map .int)] c0) (fun r _ => r = .bl true) noE := by
  have h : Sat [] [] c0 := Sat.nil
  refine w_def rfl (w_seq ?_)
  refine w_forR ?_
  wtm_at "go"
  simp only [List.length_map]
  refine ⟨_, rfl, by split <;> omega, ?_⟩
  generalize hT : (Int.toNat _) = top
  have htop : top ≤ 5 := by rw [← hT]; split <;> omega
  refine w_goFor (fun a r ss c => (∃ t1 t2 t3 t4 t5 t6 t7 t8, ss = [some (.wls (ns.map .int)), t1, t2, t3, t4, t5, t6, t7, t8]) ∧ r = rangeW a.length r.length ∧ a.length + r.length ≤ 5 ∧ Sat [] [] c) ?_ ?_ _ [] _ _ ⟨⟨_, _, _, _, _, _, _, _, rfl⟩, by simp [rangeW_len], by simp [rangeW_len]; omega, h⟩
  · rintro a x r ss c ⟨⟨t1, t2, t3, t4, t5, t6, t7, t8, rfl⟩, hr, hle, h⟩
    simp only [List.length_cons, rangeW, List.cons.injEq] at hr
    obtain ⟨rfl, hr⟩ := hr
    have ha : a.length < 1000 := by omega
    refine ⟨_, rfl, ?_⟩
    refine w_seq (w_asg (w_call0 (w_cons (w_var rfl rfl (w_cons (w_var rfl rfl (w_nil (bag_s h ha fun i c h => ?_))))))))
    refine w_seq (w_forR (w_cons (w_c (w_nil ⟨_, rfl, ⟨by omega, by omega⟩, ?_⟩))))
    refine w_goFor (fun a2 r2 ss c => (∃ t3 t4 t5, ss = [some (.wls (ns.map .int)), some (.int (a.length : Nat)), some (.ref i), t3, t4, t5, t6, t7, t8]) ∧ Sat [] [(i, IsBag)] c) ?_ ?_ _ [] _ _ ⟨⟨_, _, _, rfl⟩, h⟩
    · rintro a2 x2 r2 ss c ⟨⟨t3, t4, t5, rfl⟩, h⟩
      exact ⟨_, rfl, turn83 h (.head _) fun x4 x5 c h => ⟨⟨_, _, _, rfl⟩, h⟩⟩
    rintro a2 ss c ⟨⟨t3, t4, t5, rfl⟩, h⟩
    refine w_seq (w_forL ?_)
    repeat' (first | wtm_at "st1" | refine And.intro (Nat.le_of_ble_eq_true rfl) ?_)
    refine ⟨_, rfl, ?_⟩
    have h := h.newPI (o := .dic [])
    refine w_goFor (fun a2 r2 ss c2 => (∀ x ∈ r2, x ∈ [W.non, .int 0, .bl true, .lst [.str z_2], .tup [.str z_2], .ref c.length, .str z_11, .str z_10]) ∧ (∃ t3 t4 t5 t6, ss = [some (.wls (ns.map .int)), some (.int (a.length : Nat)), some (.ref i), t3, t4, t5, t6, t7, t8]) ∧ Sat [pat c.length (iz (.dic []))] [(i, IsBag)] c2) ?_ ?_ _ [] _ _ ⟨fun x hx => hx, ⟨_, _, _, _, rfl⟩, h⟩
    · rintro a2 x2 r2 ss c2 ⟨hq, ⟨t3, t4, t5, t6, rfl⟩, h⟩
      obtain ⟨hex, ho⟩ := odd_s h (hq x2 (.head _))
      refine ⟨_, rfl, ?_⟩
      refine w_ifS (w_bB (w_bin (w_call0 (w_cons (w_var rfl hex (w_nil ?_))))))
      refine OP.imp ho ?_ fun _ _ z => z.elim
      rintro r3 c3 ⟨rfl, h⟩
      exact w_c (w_rfl (x := .bl false) rfl (w_bl ⟨(fun z => nomatch z), fun _ => w_next ⟨fun x hx => hq x (.tail _ hx), ⟨_, _, _, _, rfl⟩, h⟩⟩))
    rintro a2 ss c2 ⟨_, ⟨t3, t4, t5, t6, rfl⟩, h⟩
    refine w_seq (w_asg (w_call0 (w_cons (w_var rfl rfl (w_cons (w_c (w_nil (take_s h (.head _) (by decide) fun n c3 hn h => ?_))))))))
    have hn71 : n ≤ 71 := by omega
    have l1 : z_1.length = 1 := rfl
    have l2 : z_2.length = 1 := rfl
    have l3 : z_3.length = 3 := rfl
    have l4 : z_4.length = 1 := rfl
    have l5 : z_5.length = 2 := rfl
    have l6 : z_6.length = 1 := rfl
    have l7 : z_7.length = 3 := rfl
    have l8 : z_8.length = 2 := rfl
    have l9 : z_9.length = 1 := rfl
    have e1 : (1200 : Int).toNat = 1200 := rfl
    have e2 : (4 : Int).toNat = 4 := rfl
    refine w_seq (w_asg ?_)
    repeat' (first | wtm_at "st1" | refine And.intro (Nat.le_of_ble_eq_true rfl) ?_ | refine w_mulSA ⟨⟨by omega, by omega⟩, Nat.le_of_ble_eq_true rfl⟩ ?_ | refine w_addSA (by simp only [List.length_append, repN_len, Int.toNat_natCast, e1, e2, l1, l2, l3, l4, l5, l6, l7, l8, l9]; omega) ?_)
    refine w_forL (w_var rfl rfl ⟨(tens n).map W.str, rfl, ?_⟩)
    refine w_goFor (fun a2 r2 ss c2 => (∀ x ∈ r2, x ∈ (tens n).map W.str) ∧ (∃ t3 t4 t5 t6 t8, ss = [some (.wls (ns.map .int)), some (.int (a.length : Nat)), some (.ref i), t3, t4, t5, t6, some (.int (n : Nat)), t8]) ∧ Sat [pat c.length (iz (.dic []))] [(i, IsBag)] c2) ?_ ?_ _ [] _ _ ⟨fun x hx => hx, ⟨_, _, _, _, _, rfl⟩, h⟩
    · rintro a2 x2 r2 ss c2 ⟨hq, ⟨t3, t4, t5, t6, t8, rfl⟩, h⟩
      obtain ⟨t, ht, rfl⟩ := List.mem_map.mp (hq x2 (.head _))
      exact ⟨_, rfl, ten83 h (tens_ok hn71 t ht) fun c h => ⟨fun x hx => hq x (.tail _ hx), ⟨_, _, _, _, _, rfl⟩, h⟩⟩
    · rintro a2 ss c2 ⟨_, ⟨t3, t4, t5, t6, t8, rfl⟩, h⟩
      exact ⟨⟨_, _, _, _, _, _, _, _, rfl⟩, by simpa using hr, by simp at hle ⊢; omega, (h.sub fun P hP => (List.not_mem_nil hP).elim).drop⟩
  · rintro a ss c ⟨⟨t1, t2, t3, t4, t5, t6, t7, t8, rfl⟩, _, _, h⟩
    refine w_ret (w_bin (w_call0 (w_cons (w_c (w_nil (per83 h (t := z_0) (by decide) fun c' h' => w_c ?_))))))
    exact w_rfl (x := .bl true) rfl rfl
theorem law_holds (ns : List Int) (_ : ns.length ≤ 63) : ∃ c, e_law [.wls (ns.map .int)] [] = .ok (.bl true) c := law_of (e := e_law) (law_op ns [])
end Ev

set_option Elab.async false
set_option linter.all false
set_option maxRecDepth 100000
set_option maxHeartbeats 4000000
open PySem PySem.W PySem.Calls PyProof.Rows
theorem PySem.Challenge.cw_warnfilters_k83_where_patterns_end_holds : PySem.Challenge.rw_warnfilters_k83_where_patterns_end.Holds := by
  w_on; o_law
  refine HandSHeadRun.head_any (r := OpenLaw.row PySem.Challenge.rw_warnfilters_k83_where_patterns_end) (q := view (OpenLaw.row PySem.Challenge.rw_warnfilters_k83_where_patterns_end).prog [33]) (H := Ev.hk) (ob := Ev.ob) (M := 20000) (loose := Ev.loose) (d := HandSHeadRun.topDef (OpenLaw.row PySem.Challenge.rw_warnfilters_k83_where_patterns_end).prog 33) (kwd := []) Ev.ob_eq
    (by kernel_rfl) (fun s => by kernel_rfl) Ev.run (by kernel_rfl) (by kernel_rfl) (by kernel_rfl) (by rfl) (by first | assumption | decide +kernel) (by decide +kernel) ⟨rfl, rfl, rfl, rfl, rfl, by decide +kernel⟩ ?hw ?hc
  case hw => w_witness2
  case hc =>
    refine L2.walk_ofE (l := PySem.Challenge.rw_warnfilters_k83_where_patterns_end) (n := 63) (k := 21) (x := "_law_script") (CX := L2.CX0) rfl (by decide) (by kernel_rfl) ⟨rfl, by decide, by decide⟩ ?F (fun _ _ _ _ z => z)
    intro w mg fa h Y G hmg0
    obtain ⟨K, KX, c⟩ := Y
    have hmg : mg ("law" : PySem.Str) = some (.ref fa) := by
      have e : (HandSHeadRun.topDef (OpenLaw.row PySem.Challenge.rw_warnfilters_k83_where_patterns_end).prog 33).name = ("law" : PySem.Str) := by kernel_rfl
      rw [← e]
      exact hmg0
    obtain ⟨fd, hb, hF⟩ := Ev.facts (P := (PySem.Challenge.rw_warnfilters_k83_where_patterns_end).prog) (w := w) KX G hmg c
    exact ⟨K, fd, Ev.spE0 K Ev.e_law, KX, hb, fun H a ns hl _ hS => Ev.law_end (Ev.law_holds ns hl) hS, hF⟩

