import PyProof.Rows.All
import Wide.All
import OpenK.AllK
import Wide.FinOn
import KE.KStateDown
import Lean
import HandS.ForMost
import HandS.Defaults
import HandS.Head0
import HandS.Head1
import HandS.Head2
import HandS.HeadEnd
import HandS.HeadHook1
import HandS.HeadHook2
import HandS.MakeKwOnly
import HandS.More
import HandS.Deep
import PySem.Challenge.RW_warnfilters_k35_whole_ways_outwards
set_option Elab.async false
set_option linter.all false
set_option maxRecDepth 100000
set_option maxHeartbeats 4000000
namespace Wf
open PySem PySem.Spec PyProof.Rows L2

/-! ## what is known of the heap: K0 stays for ever, L is owned -/
abbrev Ow := List (Addr × HO)
inductive Sel : Ow → Addr → HO → (HO → Ow) → Prop
  | here {a : Addr} {o : HO} {L : Ow} : Sel ((a, o) :: L) a o (fun z => (a, z) :: L)
  | there {x : Addr × HO} {L : Ow} {a : Addr} {o : HO} {f : HO → Ow} : Sel L a o f → Sel (x :: L) a o (fun z => x :: f z)
structure Own (K0 : Hp) (L : Ow) (H : Hp) : Prop where
  pers : Same K0 H
  free : ∀ x ∈ L, K0 x.1 = none
  has : ∀ x ∈ L, H x.1 = some x.2
  nd : (L.map (·.1)).Nodup

section
variable {K0 K1 H H' : Hp} {L : Ow} {a p : Addr} {o z : HO} {f : HO → Ow}
theorem Sel.mem (s : Sel L a o f) : (a, o) ∈ L := by
  induction s with
  | here => exact List.mem_cons_self
  | there _ ih => exact List.mem_cons_of_mem _ ih
theorem Sel.keys (s : Sel L a o f) (z : HO) : (f z).map (·.1) = L.map (·.1) := by
  induction s with
  | here => rfl
  | there _ ih => simp only [List.map_cons, ih]
theorem Sel.cases (s : Sel L a o f) (nd : (L.map (·.1)).Nodup) (z : HO) : ∀ x ∈ f z, x = (a, z) ∨ (x ∈ L ∧ x.1 ≠ a) := by
  induction s with
  | @here a o L =>
    intro x hx
    rcases List.mem_cons.mp hx with e | hx
    · exact .inl e
    · refine .inr ⟨List.mem_cons_of_mem _ hx, fun e => ?_⟩
      have h1 := (List.nodup_cons.mp nd).1
      exact h1 (List.mem_map.mpr ⟨x, hx, e⟩)
  | @there y L a o f s ih =>
    intro x hx
    rcases List.mem_cons.mp hx with e | hx
    · subst e
      refine .inr ⟨List.mem_cons_self, fun e => (List.nodup_cons.mp nd).1 ?_⟩
      exact List.mem_map.mpr ⟨_, s.mem, e.symm⟩
    · rcases ih (List.nodup_cons.mp nd).2 x hx with e | ⟨h1, h2⟩
      · exact .inl e
      · exact .inr ⟨List.mem_cons_of_mem _ h1, h2⟩
theorem Own.at_ (w : Own K0 L H) (s : Sel L a o f) : H a = some o := w.has _ s.mem
theorem Own.know (w : Own K0 L H) (h : K0 a = some o) : H a = some o := w.pers _ _ h
theorem Own.put (w : Own K0 L H) (s : Sel L a o f) (z : HO) : Own K0 (f z) (upd H a z) := by
  have ha : K0 a = none := w.free _ s.mem
  refine ⟨fun b u e => ?_, fun x hx => ?_, fun x hx => ?_, ?_⟩
  · rw [upd_ne (ne_of_none e ha)]
    exact w.pers b u e
  · rcases s.cases w.nd z x hx with e | ⟨h1, _⟩
    · rw [e]; exact ha
    · exact w.free x h1
  · rcases s.cases w.nd z x hx with e | ⟨h1, h2⟩
    · rw [e]; exact upd_same
    · rw [upd_ne h2]; exact w.has x h1
  · rw [s.keys z]; exact w.nd
theorem Own.new (w : Own K0 L H) (h : H p = none) (o : HO) : Own K0 ((p, o) :: L) (upd H p o) := by
  refine ⟨fun b u e => ?_, fun x hx => ?_, fun x hx => ?_, ?_⟩
  · rw [upd_ne (ne_of_none (w.pers b u e) h)]
    exact w.pers b u e
  · rcases List.mem_cons.mp hx with e | hx
    · rw [e]; exact Same.free w.pers h
    · exact w.free x hx
  · rcases List.mem_cons.mp hx with e | hx
    · rw [e]; exact upd_same
    · rw [upd_ne (ne_of_none (w.has x hx) h)]; exact w.has x hx
  · refine List.nodup_cons.mpr ⟨fun m => ?_, w.nd⟩
    obtain ⟨x, hx, e⟩ := List.mem_map.mp m
    have q := w.has x hx
    rw [e, h] at q
    cases q
theorem Own.drop {x : Addr × HO} (w : Own K0 (x :: L) H) : Own K0 L H :=
  ⟨w.pers, fun y hy => w.free y (List.mem_cons_of_mem _ hy), fun y hy => w.has y (List.mem_cons_of_mem _ hy), (List.nodup_cons.mp w.nd).2⟩
theorem Own.dropAt (w : Own K0 L H) {L' : Ow} (s : List.Sublist L' L) : Own K0 L' H :=
  ⟨w.pers, fun y hy => w.free y (s.mem hy), fun y hy => w.has y (s.mem hy), w.nd.sublist (s.map _)⟩
/-- what will not change any more -/
theorem Own.freeze (w : Own K0 ((p, o) :: L) H) : Own (upd K0 p o) L H := by
  have hp : K0 p = none := w.free _ List.mem_cons_self
  have nk := (List.nodup_cons.mp w.nd).1
  refine ⟨fun b u e => ?_, fun x hx => ?_, fun x hx => w.has x (List.mem_cons_of_mem _ hx), (List.nodup_cons.mp w.nd).2⟩
  · by_cases hb : b = p
    · subst hb
      rw [upd_same] at e
      cases e
      exact w.has _ List.mem_cons_self
    · rw [upd_ne hb] at e
      exact w.pers b u e
  · have ne : x.1 ≠ p := fun e => nk (List.mem_map.mpr ⟨x, hx, e⟩)
    rw [upd_ne ne]
    exact w.free x (List.mem_cons_of_mem _ hx)
theorem Own.fresh (w : Own K0 ((p, o) :: L) H) : K0 p = none := w.free _ List.mem_cons_self
theorem same_upd (h : K0 p = none) : Same K0 (upd K0 p o) := fun b u e => by
  rw [upd_ne (ne_of_none e h)]
  exact e
theorem Own.same (w : Own K0 ((p, o) :: L) H) : Same K0 (upd K0 p o) := same_upd w.fresh
theorem Own.perm {L' : Ow} (w : Own K0 L H) (h : L.Perm L') : Own K0 L' H :=
  ⟨w.pers, fun y hy => w.free y (h.mem_iff.mpr hy), fun y hy => w.has y (h.mem_iff.mpr hy), (h.map _).nodup_iff.mp w.nd⟩
theorem Own.swap {x y : Addr × HO} (w : Own K0 (x :: y :: L) H) : Own K0 (y :: x :: L) H := w.perm (List.Perm.swap _ _ _)
/-- back to less that stays -/
theorem Own.back (w : Own K1 L H) (s : Same K0 K1) : Own K0 L H :=
  ⟨s.trans w.pers, fun x hx => Same.free s (w.free x hx), w.has, w.nd⟩
end

/-! ## data -/
theorem sqT_mono {K : PySem.W.Frag} {H H' : Hp} {a : Addr} {xs : List V} (e : Same H H') (h : SqT K H a xs) : SqT K H' a xs := by
  rcases h with (h | ⟨o, h⟩) | h
  · exact .inl (.inl (e _ _ h))
  · exact .inl (.inr ⟨o, e _ _ h⟩)
  · exact .inr h
theorem sqL_mono {K : PySem.W.Frag} {H H' : Hp} {a : Addr} {xs : List V} (e : Same H H') (h : SqL K H a xs) : SqL K H' a xs := e.seq h
mutual
theorem dp_mono {K : PySem.W.Frag} {H H' : Hp} (e : Same H H') : ∀ {d : PyData} {v : V}, Dp K H v d → Dp K H' v d
  | .none, _, h => by cases h; constructor
  | .bool _, _, h => by cases h; constructor
  | .int _, _, h => by cases h; constructor
  | .str _, _, h => by cases h; constructor
  | .list ds, _, h => by
    cases h with
    | lst hs ha => exact Dp.lst (sqL_mono e hs) (dpAll_mono e ha)
  | .tuple ds, _, h => by
    cases h with
    | tup hs ha => exact Dp.tup (sqT_mono e hs) (dpAll_mono e ha)
  | .dict _, _, h => by cases h
theorem dpAll_mono {K : PySem.W.Frag} {H H' : Hp} (e : Same H H') : ∀ {ds : List PyData} {vs : List V}, DpAll K H vs ds → DpAll K H' vs ds
  | [], _, h => by cases h; exact .nil
  | d :: ds, _, h => by
    cases h with
    | cons h1 h2 => exact .cons (dp_mono e h1) (dpAll_mono e h2)
end

/-! ## module names -/
section
variable {X : Cx} {x : Str} {pos : Pos}
theorem pe_gs {z : Str} (hg : Gl X x) (hm : ∃ t, X.mg x = some (.str z t)) (hd : (x == ("__debug__" : Str)) = false := by decide) : PE X (.Name x pos) (tC (.str z)) := by
  obtain ⟨t, hm⟩ := hm
  exact pe_glob hg hm ⟨t, rfl⟩ hd
theorem pe_gi {i : Int} (hg : Gl X x) (hm : ∃ t, X.mg x = some (.int i t)) (hd : (x == ("__debug__" : Str)) = false := by decide) : PE X (.Name x pos) (tC (.int i)) := by
  obtain ⟨t, hm⟩ := hm
  exact pe_glob hg hm ⟨t, rfl⟩ hd
theorem pe_gr {a : Addr} (hg : Gl X x) (hm : X.mg x = some (.ref a)) (hd : (x == ("__debug__" : Str)) = false := by decide) : PE X (.Name x pos) (tC (.ref a)) := pe_glob hg hm rfl hd
theorem gn (i : Nat) (hN : X.N.Nodup) (hi : X.N[i]? = some x := by rfl) (hx : Loc X.env.scope x := by first | exact Or.inl rfl | exact Or.inr rfl) (hf : X.fn x = true ∨ X.env.scope.names.lookup x = some .local := by first | exact .inl rfl | exact .inr rfl | assumption) : PG X (.Name x pos) (gName i) := pg_name hN hi hx hf
theorem pset (i : Nat) {e : Expr} {te : TE} {pos' : Pos} (hN : X.N.Nodup) (he : PE X e te) (hi : X.N[i]? = some x := by rfl) (hx : Loc X.env.scope x := by first | exact Or.inl rfl | exact Or.inr rfl)  (hs : swapsWith e (some (.Name x pos')) pos.line X.env = pure false := by rfl) (hf : X.fn x = true ∨ X.env.scope.names.lookup x = some .local := by first | exact .inl rfl | exact .inr rfl | assumption) :
    PS X (.Assign [.Name x pos'] e pos) (tAsg te (gName i)) := ps_set hN hi hx he hs hf
end

/-! ## operators by what they are given -/
section
variable {X : Cx}
def kLL (K : PySem.W.Frag) (p q : Addr) (H : Hp) (Q : VK) : Prop := rCat (.ref p) (.ref q) H Q ∨ rCatT K (.ref p) (.ref q) H Q
def kAdd (K : PySem.W.Frag) : R2 := fun x y H Q => match x, y with
  | .int i, .int j => Q (.int (i + j)) H
  | .str a, .str b => a.length + b.length ≤ sizeLine ∧ Q (.str (a ++ b)) H
  | .ref p, .ref q => kLL K p q H Q
  | _, _ => False
theorem ok_add : OpR X (binaryOp .Add) (kAdd X.K) := by
  intro pins s σ H x y v u Q I rx ry h
  cases x <;> cases y <;> first | exact False.elim h | skip
  · exact op_add pins s σ H _ _ v u Q I rx ry ⟨_, _, rfl, rfl, h⟩
  · exact op_add_str pins s σ H _ _ v u Q I rx ry ⟨_, _, rfl, rfl, h.1, h.2⟩
  · rcases (show kLL X.K _ _ H Q from h) with h | h
    · exact op_cat pins s σ H _ _ v u Q I rx ry h
    · exact op_catT pins s σ H _ _ v u Q I rx ry h
def kSub : R2 := rI0 fun i j => .int (i - j)
theorem ok_sub : OpR X (binaryOp .Sub) kSub := op_sub
def kMul : R2 := fun x y H Q => match x, y with
  | .int i, .int j => CMul i j ∧ Q (.int (i * j)) H
  | .ref p, .int k => rRep (.ref p) (.int k) H Q
  | _, _ => False
theorem ok_mul : OpR X (binaryOp .Mult) kMul := by
  intro pins s σ H x y v u Q I rx ry h
  cases x <;> cases y <;> first | exact False.elim h | skip
  · exact op_mul pins s σ H _ _ v u Q I rx ry ⟨_, _, rfl, rfl, h.1, h.2⟩
  · exact op_rep pins s σ H _ _ v u Q I rx ry h
def kDiv : R2 := rI CDiv fun i j => .int (i / j)
theorem ok_div : OpR X (binaryOp .FloorDiv) kDiv := op_fdiv
def kMod : R2 := rI (fun _ j => 0 < j) fun i j => .int (i % j)
theorem ok_mod : OpR X (binaryOp .Mod) kMod := op_mod
def kPow : R2 := rI CPow fun i j => .int (i ^ j.toNat)
theorem ok_pow : OpR X (binaryOp .Pow) kPow := op_pow
def kLt : R2 := rI0 fun i j => .bl (decide (i < j))
theorem ok_lt : OpR X (compareOp .Lt) kLt := op_lt
def kLe : R2 := rI0 fun i j => .bl (decide (i ≤ j))
theorem ok_le : OpR X (compareOp .LtE) kLe := op_le
def kGt : R2 := rI0 fun i j => .bl (decide (j < i))
theorem ok_gt : OpR X (compareOp .Gt) kGt := op_gt
def kGe : R2 := rI0 fun i j => .bl (decide (j ≤ i))
theorem ok_ge : OpR X (compareOp .GtE) kGe := op_ge
def kEq (K : PySem.W.Frag) : R2 := fun x y H Q => rEq x y H Q ∨ rEqD K x y H Q
theorem ok_eq (hu : X.A.units + 64 < cLine) : OpR X (compareOp .Eq) (kEq X.K) := by
  intro pins s σ H x y v u Q I rx ry h
  rcases h with h | h
  · exact op_eq pins s σ H x y v u Q I rx ry h
  · exact op_eqD hu pins s σ H x y v u Q I rx ry h
def kNe (K : PySem.W.Frag) : R2 := fun x y H Q => rNe x y H Q ∨ rNeD K x y H Q
theorem ok_ne (hu : X.A.units + 64 < cLine) : OpR X (compareOp .NotEq) (kNe X.K) := by
  intro pins s σ H x y v u Q I rx ry h
  rcases h with h | h
  · exact op_ne pins s σ H x y v u Q I rx ry h
  · exact op_neD hu pins s σ H x y v u Q I rx ry h
def kIx (K : PySem.W.Frag) : R2 := rIx K
theorem ok_ix : IxR X (kIx X.K) := ix_seq
def kAbs : List V → Hp → VK → Prop := fun xs H Q => ∃ i, xs = [.int i] ∧ Q (.int (if i < 0 then -i else i)) H
theorem ok_abs : CallR X (.builtin "abs") kAbs := call_abs
def kInt : List V → Hp → VK → Prop := fun xs H Q => match xs with
  | [.int i] => Q (.int i) H
  | [.bl k] => Q (.int (if k then 1 else 0)) H
  | _ => False
theorem ok_int : CallR X (.type "int") kInt := by
  intro pins s σ H xs us Q I r h
  unfold kInt at h
  split at h
  · exact call_int1 pins s σ H _ us Q I r (.inl ⟨_, rfl, h⟩)
  · exact call_int1 pins s σ H _ us Q I r (.inr ⟨_, rfl, h⟩)
  · exact h.elim
def kMin2 : List V → Hp → VK → Prop := fun xs H Q => ∃ i j, xs = [.int i, .int j] ∧ Q (.int (if j < i then j else i)) H
theorem ok_min2 (hc : X.calm = true) : CallR X (.builtin "min") kMin2 := call_min2 hc
def kMax2 : List V → Hp → VK → Prop := fun xs H Q => ∃ i j, xs = [.int i, .int j] ∧ Q (.int (if j > i then j else i)) H
theorem ok_max2 (hc : X.calm = true) : CallR X (.builtin "max") kMax2 := call_max2 hc
def kLen (K : PySem.W.Frag) : List V → Hp → VK → Prop := fun xs H Q => match xs with
  | [.str a] => a.length ≤ sizeLine ∧ Q (.int a.length) H
  | [.ref p] => ∃ ys, (SqL K H p ys ∨ SqT K H p ys) ∧ Q (.int ys.length) H
  | _ => False
theorem ok_len : CallR X (.builtin "len") (kLen X.K) := by
  intro pins s σ H xs us Q I r h
  unfold kLen at h
  split at h
  · exact call_len_str pins s σ H _ us Q I r ⟨_, rfl, h.1, h.2⟩
  · obtain ⟨ys, h1, h2⟩ := h
    exact call_len_seq pins s σ H _ us Q I r ⟨_, ys, rfl, h1, h2⟩
  · exact h.elim
def kList (K : PySem.W.Frag) : List V → Hp → VK → Prop := fun xs H Q => ∃ p ys, xs = [.ref p] ∧ (SqL K H p ys ∨ SqT K H p ys) ∧ ∀ l, H l = none → Q (.ref l) (upd H l (.lst ys))
theorem ok_list : CallR X (.type "list") (kList X.K) := call_list_of
def kTuple (K : PySem.W.Frag) : List V → Hp → VK → Prop := fun xs H Q => ∃ p ys, xs = [.ref p] ∧ ((SqL K H p ys ∧ ∀ l, H l = none → Q (.ref l) (upd H l (.tup ys))) ∨ (SqT K H p ys ∧ Q (.ref p) H))
theorem ok_tuple : CallR X (.type "tuple") (kTuple X.K) := call_tuple_of
theorem ok_any (hc : X.calm = true) : CallR X (.builtin "any") (rAny X.K) := cr_any hc
theorem ok_all (hc : X.calm = true) : CallR X (.builtin "all") (rAll X.K) := cr_all hc
def kStarts : V → List V → Hp → VK → Prop := fun x xs H Q => ∃ a b, x = .str a ∧ xs = [.str b] ∧ Q (.bl (Txt.startswith a b)) H
theorem ok_starts : MtR X "str.startswith" kStarts := mt_startswith
end

/-! ## steps -/
def kTest (Q : Bool → Hp → Prop) (x : V) (H : Hp) : Prop := ∃ k, x = .bl k ∧ Q k H
def kIfS (t u : TS) (D : Ends) (σ : L2.St) (b : Bool) (H : Hp) : Prop := if b = true then t D σ H else u D σ H
def kIfE (t u : TE) (σ : L2.St) (Q : VK) (b : Bool) (H : Hp) : Prop := if b = true then t σ H Q else u σ H Q
def kAndT (u : TT) (σ : L2.St) (Q : Bool → Hp → Prop) (b : Bool) (H : Hp) : Prop := if b = true then u σ H Q else Q false H
def kOrT (u : TT) (σ : L2.St) (Q : Bool → Hp → Prop) (b : Bool) (H : Hp) : Prop := if b = true then Q true H else u σ H Q
def kAndV (u : TE) (σ : L2.St) (Q : VK) (x : V) (H : Hp) : Prop := ∃ c, x = .bl c ∧ if c = true then u σ H Q else Q (.bl false) H
def kOrV (u : TE) (σ : L2.St) (Q : VK) (x : V) (H : Hp) : Prop := ∃ c, x = .bl c ∧ if c = true then Q (.bl true) H else u σ H Q
def kNotV (Q : VK) (x : V) (H : Hp) : Prop := ∃ c, x = .bl c ∧ Q (.bl (!c)) H
def kLst (Q : VK) (xs : List V) (H : Hp) : Prop := xs.length ≤ sizeLine ∧ ∀ p, H p = none → Q (.ref p) (upd H p (.lst xs))
def kTup (Q : VK) (xs : List V) (H : Hp) : Prop := xs.length ≤ sizeLine ∧ ∀ p, H p = none → Q (.ref p) (upd H p (.tup xs))
def kCall (sp : Sp) (dvs : List V) (E : XK) (Q : VK) (vs : List V) (H : Hp) : Prop := sp (vs ++ dvs) H Q E
def kPart (Q : Option Int → Hp → Prop) (x : V) (H : Hp) : Prop := ∃ i, x = .int i ∧ Q (some i) H
def kBM (K : PySem.W.Frag) (T : String) (r : V → List V → Hp → VK → Prop) (t : TA) (σ : L2.St) (Q : VK) (x : V) (H : Hp) : Prop := tyV K T x H ∧ t σ H fun xs H2 => r x xs H2 Q
section
variable {K : PySem.W.Frag} {K0 H H' : Hp} {L : Ow} {σ : L2.St} {n : L2.St → Hp → Prop} {r : VK} {bk ct : L2.St → Hp → Prop} {t u : TS} {te tu tv : TE} {ta tr : TA} {tt tw : TT} {Q : VK} {QT : Bool → Hp → Prop} {QA : List V → Hp → Prop} {QO : Option Int → Hp → Prop} {QG : L2.St → Hp → Prop}
  {v x y : V} {xs vs : List V} {i : Nat} {a p : Addr} {o : HO} {f : HO → Ow} {b : Bool} {g : TG} {gs : TGs} {rr : R2} {E : XK} {sp : Sp}
theorem g_seq (h : t ⟨u ⟨n, r, bk, ct⟩, r, bk, ct⟩ σ H) : tSeq t u ⟨n, r, bk, ct⟩ σ H := h
theorem g_next (h : n σ H) : tNext ⟨n, r, bk, ct⟩ σ H := h
theorem g_break (h : bk σ H) : tBreak ⟨n, r, bk, ct⟩ σ H := h
theorem g_cont (h : ct σ H) : tCont ⟨n, r, bk, ct⟩ σ H := h
theorem g_ret (h : te σ H r) : tRet te ⟨n, r, bk, ct⟩ σ H := h
theorem g_retN (h : r .non H) : tRetN ⟨n, r, bk, ct⟩ σ H := h
theorem g_drop (h : te σ H fun _ H1 => n σ H1) : tDrop te ⟨n, r, bk, ct⟩ σ H := h
theorem g_asg (h : te σ H fun x H1 => g x σ H1 n) : tAsg te g ⟨n, r, bk, ct⟩ σ H := h
theorem g_name (h : QG (σ.set i (some v)) H) : gName i v σ H QG := h
theorem g_ifS (h : tt σ H (kIfS t u ⟨n, r, bk, ct⟩ σ)) : tIfS tt t u ⟨n, r, bk, ct⟩ σ H := h
theorem g_ifT (e : b = true) (h : t ⟨n, r, bk, ct⟩ σ H) : kIfS t u ⟨n, r, bk, ct⟩ σ b H := by
  show (if b = true then _ else _)
  rw [if_pos e]; exact h
theorem g_ifF (e : b = false) (h : u ⟨n, r, bk, ct⟩ σ H) : kIfS t u ⟨n, r, bk, ct⟩ σ b H := by
  show (if b = true then _ else _)
  rw [if_neg (by rw [e]; decide)]; exact h
theorem g_ifB (h1 : b = true → t ⟨n, r, bk, ct⟩ σ H) (h2 : b = false → u ⟨n, r, bk, ct⟩ σ H) : kIfS t u ⟨n, r, bk, ct⟩ σ b H := by
  cases b with
  | true => exact g_ifT rfl (h1 rfl)
  | false => exact g_ifF rfl (h2 rfl)
theorem g_ifD {c : Prop} [Decidable c] (h1 : c → t ⟨n, r, bk, ct⟩ σ H) (h2 : ¬ c → u ⟨n, r, bk, ct⟩ σ H) : kIfS t u ⟨n, r, bk, ct⟩ σ (decide c) H :=
  g_ifB (fun e => h1 (of_decide_eq_true e)) fun e => h2 (of_decide_eq_false e)
theorem g_ifN {c : Prop} [Decidable c] (h1 : ¬ c → t ⟨n, r, bk, ct⟩ σ H) (h2 : c → u ⟨n, r, bk, ct⟩ σ H) : kIfS t u ⟨n, r, bk, ct⟩ σ (!decide c) H := by
  by_cases h : c
  · exact g_ifF (by simp [h]) (h2 h)
  · exact g_ifT (by simp [h]) (h1 h)
theorem g_test (h : te σ H (kTest QT)) : tTest te σ H QT := h
theorem g_B (h : te σ H (kTest QT)) : tB te σ H QT := h
theorem g_kTest (h : QT b H) : kTest QT (.bl b) H := ⟨b, rfl, h⟩
theorem g_and (h : tt σ H (kAndT tw σ QT)) : tAnd tt tw σ H QT := h
theorem g_or (h : tt σ H (kOrT tw σ QT)) : tOr tt tw σ H QT := h
theorem g_not (h : tt σ H fun c H1 => QT (!c) H1) : tNot tt σ H QT := h
theorem g_andT (e : b = true) (h : tw σ H QT) : kAndT tw σ QT b H := by
  show (if b = true then _ else _)
  rw [if_pos e]; exact h
theorem g_andF (e : b = false) (h : QT false H) : kAndT tw σ QT b H := by
  show (if b = true then _ else _)
  rw [if_neg (by rw [e]; decide)]; exact h
theorem g_andB (h1 : b = true → tw σ H QT) (h2 : b = false → QT false H) : kAndT tw σ QT b H := by
  cases b with
  | true => exact g_andT rfl (h1 rfl)
  | false => exact g_andF rfl (h2 rfl)
theorem g_orT (e : b = true) (h : QT true H) : kOrT tw σ QT b H := by
  show (if b = true then _ else _)
  rw [if_pos e]; exact h
theorem g_orF (e : b = false) (h : tw σ H QT) : kOrT tw σ QT b H := by
  show (if b = true then _ else _)
  rw [if_neg (by rw [e]; decide)]; exact h
theorem g_orB (h1 : b = true → QT true H) (h2 : b = false → tw σ H QT) : kOrT tw σ QT b H := by
  cases b with
  | true => exact g_orT rfl (h1 rfl)
  | false => exact g_orF rfl (h2 rfl)
theorem g_if (h : tt σ H (kIfE te tu σ Q)) : tIf tt te tu σ H Q := h
theorem g_ifET (e : b = true) (h : te σ H Q) : kIfE te tu σ Q b H := by
  show (if b = true then _ else _)
  rw [if_pos e]; exact h
theorem g_ifEF (e : b = false) (h : tu σ H Q) : kIfE te tu σ Q b H := by
  show (if b = true then _ else _)
  rw [if_neg (by rw [e]; decide)]; exact h
theorem g_ifEB (h1 : b = true → te σ H Q) (h2 : b = false → tu σ H Q) : kIfE te tu σ Q b H := by
  cases b with
  | true => exact g_ifET rfl (h1 rfl)
  | false => exact g_ifEF rfl (h2 rfl)
theorem g_andV (h : te σ H (kAndV tu σ Q)) : tAndV te tu σ H Q := h
theorem g_orV (h : te σ H (kOrV tu σ Q)) : tOrV te tu σ H Q := h
theorem g_notV (h : te σ H (kNotV Q)) : tNotV te σ H Q := h
theorem g_kNotV (h : Q (.bl (!b)) H) : kNotV Q (.bl b) H := ⟨b, rfl, h⟩
theorem g_kAndVT (e : b = true) (h : tu σ H Q) : kAndV tu σ Q (.bl b) H := ⟨b, rfl, by rw [if_pos e]; exact h⟩
theorem g_kAndVF (e : b = false) (h : Q (.bl false) H) : kAndV tu σ Q (.bl b) H := ⟨b, rfl, by rw [if_neg (by rw [e]; decide)]; exact h⟩
theorem g_kAndVB (h1 : b = true → tu σ H Q) (h2 : b = false → Q (.bl false) H) : kAndV tu σ Q (.bl b) H := by
  cases b with
  | true => exact g_kAndVT rfl (h1 rfl)
  | false => exact g_kAndVF rfl (h2 rfl)
theorem g_kOrVT (e : b = true) (h : Q (.bl true) H) : kOrV tu σ Q (.bl b) H := ⟨b, rfl, by rw [if_pos e]; exact h⟩
theorem g_kOrVF (e : b = false) (h : tu σ H Q) : kOrV tu σ Q (.bl b) H := ⟨b, rfl, by rw [if_neg (by rw [e]; decide)]; exact h⟩
theorem g_kOrVB (h1 : b = true → Q (.bl true) H) (h2 : b = false → tu σ H Q) : kOrV tu σ Q (.bl b) H := by
  cases b with
  | true => exact g_kOrVT rfl (h1 rfl)
  | false => exact g_kOrVF rfl (h2 rfl)
theorem g_var (e : σ[i]? = some (some v)) (h : Q v H) : tVar i σ H Q := ⟨v, e, h⟩
theorem g_c (h : Q v H) : tC v σ H Q := h
theorem g_op (h : te σ H fun x H1 => tu σ H1 fun y H2 => rr x y H2 Q) : tOp rr te tu σ H Q := h
theorem g_un {r1 : V → Hp → VK → Prop} (h : te σ H fun x H1 => r1 x H1 Q) : tUn r1 te σ H Q := h
theorem g_nil (h : QA [] H) : tNil σ H QA := h
theorem g_cons (h : te σ H fun x H1 => tr σ H1 fun xs H2 => QA (x :: xs) H2) : tCons te tr σ H QA := h
theorem g_lst (h : ta σ H (kLst Q)) : tLst ta σ H Q := h
theorem g_tup (h : ta σ H (kTup Q)) : tTup ta σ H Q := h
theorem g_kLst (w : Own K0 L H) (hl : Nat.ble xs.length 16777216 = true) (k : ∀ p H', Own K0 ((p, .lst xs) :: L) H' → Q (.ref p) H') : kLst Q xs H :=
  ⟨by rw [sizeLine_eq]; exact Nat.le_of_ble_eq_true hl, fun p hp => k p _ (w.new hp _)⟩
theorem g_kTup (w : Own K0 L H) (hl : Nat.ble xs.length 16777216 = true) (k : ∀ p H', Own K0 ((p, .tup xs) :: L) H' → Q (.ref p) H') : kTup Q xs H :=
  ⟨by rw [sizeLine_eq]; exact Nat.le_of_ble_eq_true hl, fun p hp => k p _ (w.new hp _)⟩
theorem g_cb {rc : List V → Hp → VK → Prop} (h : ta σ H fun vs H1 => rc vs H1 Q) : tCB rc ta σ H Q := h
theorem g_call {dvs : List V} (h : ta σ H (kCall sp dvs E Q)) : tCall sp dvs E ta σ H Q := h
theorem g_kCall (h : sp vs H Q E) : kCall sp [] E Q vs H := by
  show sp (vs ++ []) H Q E
  rw [List.append_nil]; exact h
theorem g_noPart (h : QO none H) : tNoPart σ H QO := h
theorem g_part (h : te σ H (kPart QO)) : tPart te σ H QO := h
theorem g_kPart {j : Int} (h : QO (some j) H) : kPart QO (.int j) H := ⟨j, rfl, h⟩
theorem g_bm {T : String} {rm : V → List V → Hp → VK → Prop} (h : te σ H (kBM K T rm ta σ Q)) : tBM K T rm te ta σ H Q := h
theorem g_kBMs {rm : V → List V → Hp → VK → Prop} {z : Str} (h : ta σ H fun xs H2 => rm (.str z) xs H2 Q) : kBM K "str" rm ta σ Q (.str z) H := ⟨rfl, h⟩
theorem g_kBMl {rm : V → List V → Hp → VK → Prop} (hs : SqL K H p xs) (h : ta σ H fun ys H2 => rm (.ref p) ys H2 Q) : kBM K "list" rm ta σ Q (.ref p) H := ⟨.inl ⟨rfl, _, hs⟩, h⟩
end

section
variable {K : PySem.W.Frag} {K0 H H' : Hp} {L : Ow} {σ : L2.St} {Q : VK} {v x y : V} {xs ys vs : List V} {a p q : Addr} {o : HO} {f : HO → Ow} {b : Bool} {i j : Int} {A B : Str}
theorem len_le {n : Nat} (h : n ≤ 1000000) : n ≤ sizeLine := by rw [sizeLine_eq]; omega
theorem len_lt {n : Nat} (h : n ≤ 1000000) : n < sizeLine := by rw [sizeLine_eq]; omega
theorem g_addI (h : Q (.int (i + j)) H) : kAdd K (.int i) (.int j) H Q := h
theorem g_addS (hl : A.length + B.length ≤ 1000000) (h : Q (.str (A ++ B)) H) : kAdd K (.str A) (.str B) H Q := ⟨len_le hl, h⟩
theorem g_addL (w : Own K0 L H) (h1 : H p = some (.lst xs)) (h2 : H q = some (.lst ys)) (hl : xs.length + ys.length ≤ 1000000) (k : ∀ l H', Own K0 ((l, .lst (xs ++ ys)) :: L) H' → Q (.ref l) H') : kAdd K (.ref p) (.ref q) H Q :=
  .inl ⟨p, q, xs, ys, rfl, rfl, h1, h2, len_le hl, fun l hl => k l _ (w.new hl _)⟩
theorem g_subI (h : Q (.int (i - j)) H) : kSub (.int i) (.int j) H Q := ⟨i, j, rfl, rfl, h⟩
theorem g_mulI (hc : CMul i j) (h : Q (.int (i * j)) H) : kMul (.int i) (.int j) H Q := ⟨hc, h⟩
theorem g_mulL (w : Own K0 L H) (h1 : H p = some (.lst xs)) (hk : -(2 ^ 63) ≤ i ∧ i < 2 ^ 63) (hl : xs.length * i.toNat ≤ 1000000) (k : ∀ l H', Own K0 ((l, .lst (List.replicate i.toNat xs).flatten) :: L) H' → Q (.ref l) H') : kMul (.ref p) (.int i) H Q :=
  ⟨p, i, xs, rfl, rfl, h1, hk.1, hk.2, len_le hl, fun l hl => k l _ (w.new hl _)⟩
theorem g_divI (hc : 0 < j ∧ j < 1073741824) (h : Q (.int (i / j)) H) : kDiv (.int i) (.int j) H Q := ⟨i, j, rfl, rfl, hc, h⟩
theorem g_modI (hc : 0 < j) (h : Q (.int (i % j)) H) : kMod (.int i) (.int j) H Q := ⟨i, j, rfl, rfl, hc, h⟩
theorem g_powI (hc : 0 ≤ j ∧ j ≤ 1000000 ∧ i.natAbs < 2 ^ 64) (h : Q (.int (i ^ j.toNat)) H) : kPow (.int i) (.int j) H Q := ⟨i, j, rfl, rfl, hc, h⟩
theorem g_ltI (h : Q (.bl (decide (i < j))) H) : kLt (.int i) (.int j) H Q := ⟨i, j, rfl, rfl, h⟩
theorem g_leI (h : Q (.bl (decide (i ≤ j))) H) : kLe (.int i) (.int j) H Q := ⟨i, j, rfl, rfl, h⟩
theorem g_gtI (h : Q (.bl (decide (j < i))) H) : kGt (.int i) (.int j) H Q := ⟨i, j, rfl, rfl, h⟩
theorem g_geI (h : Q (.bl (decide (j ≤ i))) H) : kGe (.int i) (.int j) H Q := ⟨i, j, rfl, rfl, h⟩
theorem decV_int : decide (V.int i = V.int j) = decide (i = j) := by simp
theorem decV_str : decide (V.str A = V.str B) = decide (A = B) := by simp
theorem decV_bl {c d : Bool} : decide (V.bl c = V.bl d) = decide (c = d) := by simp
theorem g_eqI (h : Q (.bl (decide (i = j))) H) : kEq K (.int i) (.int j) H Q := .inl ⟨rfl, by rw [decV_int]; exact h⟩
theorem g_eqS (h : Q (.bl (decide (A = B))) H) : kEq K (.str A) (.str B) H Q := .inl ⟨rfl, by rw [decV_str]; exact h⟩
theorem g_eqB {c d : Bool} (h : Q (.bl (decide (c = d))) H) : kEq K (.bl c) (.bl d) H Q := .inl ⟨rfl, by rw [decV_bl]; exact h⟩
theorem g_neI (h : Q (.bl (!decide (i = j))) H) : kNe K (.int i) (.int j) H Q := .inl ⟨rfl, by rw [decV_int]; exact h⟩
theorem g_neS (h : Q (.bl (!decide (A = B))) H) : kNe K (.str A) (.str B) H Q := .inl ⟨rfl, by rw [decV_str]; exact h⟩
theorem g_neB {c d : Bool} (h : Q (.bl (!decide (c = d))) H) : kNe K (.bl c) (.bl d) H Q := .inl ⟨rfl, by rw [decV_bl]; exact h⟩
theorem g_eqD {d e : PyData} (hd : Dp K H x d) (he : Dp K H y e) (sd : SeqAt.shaped d = true) (se : SeqAt.shaped e = true) (h : Q (.bl (PyData.eqv d e)) H) : kEq K x y H Q := .inr ⟨d, e, hd, he, sd, se, h⟩
theorem g_neD {d e : PyData} (hd : Dp K H x d) (he : Dp K H y e) (sd : SeqAt.shaped d = true) (se : SeqAt.shaped e = true) (h : Q (.bl (!PyData.eqv d e)) H) : kNe K x y H Q := .inr ⟨d, e, hd, he, sd, se, h⟩
theorem g_ixL (hs : SqL K H p xs) (ha : atI xs i = some v) (h : Q v H) : kIx K (.ref p) (.int i) H Q := .inl ⟨p, xs, i, v, rfl, rfl, hs, ha, h⟩
theorem g_ixT (hs : SqT K H p xs) (ha : atI xs i = some v) (h : Q v H) : kIx K (.ref p) (.int i) H Q := .inr (.inl ⟨p, xs, i, v, rfl, rfl, hs, ha, h⟩)
theorem g_ixL' (hs : SqL K H p xs) (h : ∃ v, atI xs i = some v ∧ Q v H) : kIx K (.ref p) (.int i) H Q := let ⟨v, a, b⟩ := h; g_ixL hs a b
theorem g_ixT' (hs : SqT K H p xs) (h : ∃ v, atI xs i = some v ∧ Q v H) : kIx K (.ref p) (.int i) H Q := let ⟨v, a, b⟩ := h; g_ixT hs a b
theorem g_setL {ta ti : TE} {g : L2.St → Hp → Prop} (h : ta σ H fun o H1 => ti σ H1 fun i H2 => rSetL o i v H2 fun H3 => g σ H3) : gSub ta ti rSetL v σ H g := h
theorem g_rSetL {g : Hp → Prop} {j : Nat} (w : Own K0 L H) (s : Sel L p (.lst xs) f) (hi : ixN xs.length i = some j) (k : ∀ H', Own K0 (f (.lst (xs.set j v))) H' → g H') : rSetL (.ref p) (.int i) v H g :=
  ⟨p, xs, i, j, rfl, rfl, w.at_ s, hi, k _ (w.put s _)⟩
theorem g_abs (h : Q (.int (if i < 0 then -i else i)) H) : kAbs [.int i] H Q := ⟨i, rfl, h⟩
theorem g_int (h : Q (.int i) H) : kInt [.int i] H Q := h
theorem g_min2 (h : Q (.int (if j < i then j else i)) H) : kMin2 [.int i, .int j] H Q := ⟨i, j, rfl, h⟩
theorem g_max2 (h : Q (.int (if j > i then j else i)) H) : kMax2 [.int i, .int j] H Q := ⟨i, j, rfl, h⟩
theorem g_lenS (hl : A.length ≤ 1000000) (h : Q (.int A.length) H) : kLen K [.str A] H Q := ⟨len_le hl, h⟩
theorem g_lenL (hs : SqL K H p xs) (h : Q (.int xs.length) H) : kLen K [.ref p] H Q := ⟨xs, .inl hs, h⟩
theorem g_lenT (hs : SqT K H p xs) (h : Q (.int xs.length) H) : kLen K [.ref p] H Q := ⟨xs, .inr hs, h⟩
theorem g_listL (w : Own K0 L H) (hs : SqL K H p xs) (k : ∀ l H', Own K0 ((l, .lst xs) :: L) H' → Q (.ref l) H') : kList K [.ref p] H Q := ⟨p, xs, rfl, .inl hs, fun l hl => k l _ (w.new hl _)⟩
theorem g_listT (w : Own K0 L H) (hs : SqT K H p xs) (k : ∀ l H', Own K0 ((l, .lst xs) :: L) H' → Q (.ref l) H') : kList K [.ref p] H Q := ⟨p, xs, rfl, .inr hs, fun l hl => k l _ (w.new hl _)⟩
theorem g_tupleL (w : Own K0 L H) (hs : SqL K H p xs) (k : ∀ l H', Own K0 ((l, .tup xs) :: L) H' → Q (.ref l) H') : kTuple K [.ref p] H Q := ⟨p, xs, rfl, .inl ⟨hs, fun l hl => k l _ (w.new hl _)⟩⟩
theorem g_any {bs : List Bool} (hs : SqL K H p (bs.map V.bl)) (h : Q (.bl (bs.any id)) H) : rAny K [.ref p] H Q := ⟨p, bs, rfl, hs, h⟩
theorem g_all {bs : List Bool} (hs : SqL K H p (bs.map V.bl)) (h : Q (.bl (bs.all id)) H) : rAll K [.ref p] H Q := ⟨p, bs, rfl, hs, h⟩
theorem g_starts (h : Q (.bl (Txt.startswith A B)) H) : kStarts (.str A) [.str B] H Q := ⟨A, B, rfl, rfl, h⟩
theorem g_append (w : Own K0 L H) (s : Sel L p (.lst xs) f) (hl : xs.length ≤ 1000000) (k : ∀ H', Own K0 (f (.lst (xs ++ [v]))) H' → Q .non H') : rAppend (.ref p) [v] H Q :=
  ⟨p, xs, v, rfl, rfl, w.at_ s, len_lt hl, k _ (w.put s _)⟩
theorem g_sl {rs : V → Option Int → Option Int → Hp → VK → Prop} {te : TE} {tl th : TO} (h : te σ H fun x H1 => tl σ H1 fun l H2 => th σ H2 fun u H3 => rs x l u H3 Q) : tSl rs te tl th σ H Q := h
theorem g_slL {l u : Option Int} (w : Own K0 L H) (hs : SqL K H p xs) (k : ∀ q H', Own K0 ((q, .lst (cutV xs l u)) :: L) H' → Q (.ref q) H') : rSlL K (.ref p) l u H Q := ⟨p, xs, rfl, hs, fun q hq => k q _ (w.new hq _)⟩
theorem g_slS {l u : Option Int} (hl : A.length ≤ 1000000) (h : Q (.str (cutS A l u)) H) : rSlS (.str A) l u H Q := ⟨A, rfl, len_le hl, h⟩
theorem Own.sqL (w : Own K0 L H) (h : SqL K K0 p xs) : SqL K H p xs := w.pers.seq h
theorem Own.sqT (w : Own K0 L H) (h : SqT K K0 p xs) : SqT K H p xs := sqT_mono w.pers h
theorem Own.dp {d : PyData} (w : Own K0 L H) (h : Dp K K0 x d) : Dp K H x d := dp_mono w.pers h
end

/-! ## defs and their calls -/
def IsFd (K : PySem.W.Frag) (f : Addr) (fd : FuncData) : Prop := ∃ (oc : Value) (od : Option Addr) (osl : Array (Option Value)), K.lookup f = some ⟨oc, od, .func fd, osl⟩
theorem IsFd.inj {K : PySem.W.Frag} {f : Addr} {fd fd' : FuncData} (a : IsFd K f fd) (b : IsFd K f fd') : fd = fd' := by
  obtain ⟨_, _, _, a⟩ := a
  obtain ⟨_, _, _, b⟩ := b
  rw [a] at b
  cases b
  rfl
theorem isFd_of {K : PySem.W.Frag} {x qual : Str} {params : Arguments} {body : List Stmt} {scope : Scope} {dvs : List V} {kws : List (Str × V)} {f : Addr} {fd : FuncData} (F : FunD K x qual params body scope dvs kws f fd) : IsFd K f fd := by
  obtain ⟨oc, od, dV, kV, doc, pm, an, cdv, ct, osl, rfl, lk, _⟩ := F.ex
  exact ⟨oc, od, osl, lk⟩
section
variable (P : Program) (w : World) (K : PySem.W.Frag) (mg : Str → Option Value) (base : Heap)
structure OkD (CX : CXT) (k : Nat) (f : Addr) (ps : List Str) (sp : Sp) : Prop where
  fn : ∃ fd, FnOk P w K mg base CX k f fd ps sp ∧ Binds K fd ps [] ∧ IsFd K f fd
  kp : PySem.W.keepIn K (.ref f) = true
structure OkM (CX : CXT) (k : Nat) (f : Addr) (ps : List Str) (sp : Sp) : Prop where
  fn : ∃ fd, FnOk P w K mg base CX k f fd ps sp ∧ IsFd K f fd
  kp : PySem.W.keepIn K (.ref f) = true
end
/-- how a call of so many values and these keywords binds -/
def KB (K : PySem.W.Frag) (f : Addr) (ps : List Str) (n : Nat) (ks : List Str) (gV : List V → List V → List V) : Prop := ∃ fd g, IsFd K f fd ∧ KBn K fd ps n ks g gV
section
variable {X : Cx} {CX : CXT} {k n : Nat} {f : Addr} {ps ks : List Str} {sp : Sp} {E : XK} {x : Str} {p pos : Pos} {e : Expr} {es : List Expr} {kws : List Keyword} {t tk : TA} {gV : List V → List V → List V}
theorem pe_callD (D : OkD X.prog X.w X.K X.mg X.base CX k f ps sp) (hr : Room k X.A) (hg : Gl X x) (hm : X.mg x = some (.ref f)) (hx : Passes CX X E)
    (ha : PA X (e :: es) t) (hdb : (x == ("__debug__" : Str)) = false := by decide) (he : starEach (e :: es) X.env = (false, eval e X.env) :: starEach es X.env := by rfl) (hpl : (backTo pos (starEach es X.env)).any (·.1) = false := by rfl) :
    PE X (.Call (.Name x p) (e :: es) [] pos) (tCall sp [] E t) := by
  obtain ⟨⟨fd, F, b, _⟩, kp⟩ := D
  exact pe_call F hr hg hm kp b .nil hx ha hdb he hpl
theorem pe_callD0 (D : OkD X.prog X.w X.K X.mg X.base CX k f ps sp) (hr : Room k X.A) (hg : Gl X x) (hm : X.mg x = some (.ref f)) (hx : Passes CX X E) (hdb : (x == ("__debug__" : Str)) = false := by decide) :
    PE X (.Call (.Name x p) [] [] pos) (tCall sp [] E tNil) := by
  obtain ⟨⟨fd, F, b, _⟩, kp⟩ := D
  exact pe_call0 F hr hg hm kp b .nil hx hdb
theorem pe_callM (b : KB X.K f ps n ks gV) (D : OkM X.prog X.w X.K X.mg X.base CX k f ps sp) (hr : Room k X.A) (hg : Gl X x) (hm : X.mg x = some (.ref f)) (hx : Passes CX X E)
    (ha : PA X (e :: es) t) (hkw : PK X kws tk) (hall : (backToKw pos (keywordEach kws X.env)).all (·.1.isSome) = true := by rfl) (hks : (backToKw pos (keywordEach kws X.env)).filterMap (·.1) = ks := by rfl)
    (hdb : (x == ("__debug__" : Str)) = false := by decide) (he : starEach (e :: es) X.env = (false, eval e X.env) :: starEach es X.env := by rfl)
    (hpl : ((backTo pos (starEach (e :: es) X.env)).any (·.1) || (backToKw pos (keywordEach kws X.env)).any (·.1.isNone)) = false := by rfl) :
    PE X (.Call (.Name x p) (e :: es) kws pos) (tCallN n ks.length sp gV E t tk) := by
  obtain ⟨⟨fd, F, i⟩, kp⟩ := D
  obtain ⟨fd', g, i', b⟩ := b
  cases i.inj i'
  exact pe_callN F hr hg hm kp b hx ha hkw hall hks hdb he hpl
end
/-- promises by the number of what is handed in -/
abbrev Sp1 (s : V → Hp → VK → XK → Prop) : Sp := fun vs H Q E => match vs with | [a] => s a H Q E | _ => False
abbrev Sp2 (s : V → V → Hp → VK → XK → Prop) : Sp := fun vs H Q E => match vs with | [a, b] => s a b H Q E | _ => False
abbrev Sp3 (s : V → V → V → Hp → VK → XK → Prop) : Sp := fun vs H Q E => match vs with | [a, b, c] => s a b c H Q E | _ => False
abbrev Sp4 (s : V → V → V → V → Hp → VK → XK → Prop) : Sp := fun vs H Q E => match vs with | [a, b, c, d] => s a b c d H Q E | _ => False
abbrev Sp5 (s : V → V → V → V → V → Hp → VK → XK → Prop) : Sp := fun vs H Q E => match vs with | [a, b, c, d, e] => s a b c d e H Q E | _ => False
section
variable {vs : List V} {H : Hp} {Q : VK} {E : XK}
theorem len1 {s} (h : Sp1 s vs H Q E) : vs.length = 1 := by unfold Sp1 at h; split at h; rfl; exact h.elim
theorem len2 {s} (h : Sp2 s vs H Q E) : vs.length = 2 := by unfold Sp2 at h; split at h; rfl; exact h.elim
theorem len3 {s} (h : Sp3 s vs H Q E) : vs.length = 3 := by unfold Sp3 at h; split at h; rfl; exact h.elim
theorem len4 {s} (h : Sp4 s vs H Q E) : vs.length = 4 := by unfold Sp4 at h; split at h; rfl; exact h.elim
theorem len5 {s} (h : Sp5 s vs H Q E) : vs.length = 5 := by unfold Sp5 at h; split at h; rfl; exact h.elim
theorem sp1 {s} (h : Sp1 s vs H Q E) : ∃ a, vs = [a] ∧ s a H Q E := by unfold Sp1 at h; split at h; exact ⟨_, rfl, h⟩; exact h.elim
theorem sp2 {s} (h : Sp2 s vs H Q E) : ∃ a b, vs = [a, b] ∧ s a b H Q E := by unfold Sp2 at h; split at h; exact ⟨_, _, rfl, h⟩; exact h.elim
theorem sp3 {s} (h : Sp3 s vs H Q E) : ∃ a b c, vs = [a, b, c] ∧ s a b c H Q E := by unfold Sp3 at h; split at h; exact ⟨_, _, _, rfl, h⟩; exact h.elim
theorem sp4 {s} (h : Sp4 s vs H Q E) : ∃ a b c d, vs = [a, b, c, d] ∧ s a b c d H Q E := by unfold Sp4 at h; split at h; exact ⟨_, _, _, _, rfl, h⟩; exact h.elim
theorem sp5 {s} (h : Sp5 s vs H Q E) : ∃ a b c d e, vs = [a, b, c, d, e] ∧ s a b c d e H Q E := by unfold Sp5 at h; split at h; exact ⟨_, _, _, _, _, rfl, h⟩; exact h.elim
end
def kCallN (n m : Nat) (sp : Sp) (gV : List V → List V → List V) (E : XK) (Q : VK) (vs zs : List V) (H : Hp) : Prop := vs.length = n ∧ zs.length = m ∧ sp (gV vs zs) H Q E
theorem g_callN {n m : Nat} {sp : Sp} {gV : List V → List V → List V} {E : XK} {t tk : TA} {σ : L2.St} {H : Hp} {Q : VK} (h : t σ H fun vs H1 => tk σ H1 fun zs H2 => kCallN n m sp gV E Q vs zs H2) : tCallN n m sp gV E t tk σ H Q := h
theorem g_kCallN {n m : Nat} {sp : Sp} {gV : List V → List V → List V} {E : XK} {H : Hp} {Q : VK} {vs zs : List V} (h1 : vs.length = n) (h2 : zs.length = m) (h : sp (gV vs zs) H Q E) : kCallN n m sp gV E Q vs zs H := ⟨h1, h2, h⟩
def kNeg : V → Hp → VK → Prop := rU fun i => .int (-i)

/-! ## the head's facts -/
/-- the keyword default y of the def at f, if it is an object -/
def kwAt (f : Str × Option Str) (y : Str) (K : PySem.W.Frag) : Addr := match K.lookup (He.fAd K f) with
  | some ⟨_, _, .func fd, _⟩ => (match fd.kwdefaults with
    | .ref D => (match PySem.W.nsIn K D y with
      | some (some (.ref a)) => a
      | _ => 0)
    | _ => 0)
  | _ => 0
inductive Fa where
  | he (f : He.Fa)
  | tup (x : Str) (vs : List He.Dv)
  | lst (x : Str) (vs : List He.Dv)
  | kwt (f : Str × Option Str) (y : Str) (vs : List He.Dv)
def tupAt (K : PySem.W.Frag) (a : Addr) (vs : List He.Dv) : Bool := match K.lookup a with
  | some ⟨.type c, _, .seq its _, _⟩ => decide (c = "tuple") && (decide (its.size ≤ sizeLine) && He.relAll (vs.map (He.Dv.v K)) its.toList)
  | _ => false
theorem tupAt_ok {K : PySem.W.Frag} {a : Addr} {vs : List He.Dv} (h : tupAt K a vs = true) (H : Hp) : SqT K H a (vs.map (He.Dv.v K)) := by
  unfold tupAt at h
  split at h
  · rename_i c od its n sl q
    obtain ⟨h1, h2⟩ := He.ba h
    obtain ⟨h3, h4⟩ := He.ba h2
    exact .inr ⟨_, its, n, q, congrArg Value.type (of_decide_eq_true h1), rfl, of_decide_eq_true h3, He.relAll_ok h4⟩
  · cases h
def Fa.ok (K : PySem.W.Frag) : Fa → Bool
  | .he f => f.ok K
  | .tup x vs => tupAt K (He.ga K x) vs
  | .lst x vs => He.lstB K x vs
  | .kwt f y vs => tupAt K (kwAt f y K) vs
def obsW (fa : List Fa) (fn : List He.DefD) (K : PySem.W.Frag) : He.AlD := ((fa.all fun f => f.ok K) && fn.all fun d => d.ok K, fn.map fun d => He.fnW K d.at_)
def SaysW (fa : List Fa) (fn : List He.DefD) (K : PySem.W.Frag) : Prop := obsW fa fn K = He.valD fn
def obsWG (n : Nat) (fa : List Fa) (fn : List He.DefD) (g : Addr → Option Obj) : He.AlD := obsW fa fn (He.frG g (He.asD g n))
def hookW (n : Nat) (fa : List Fa) (fn : List He.DefD) : PySem.W.Hook where
  α := He.AlD
  obs := fun s => obsWG n fa fn s.heap.get?
  val := fun _ => He.valD fn
  says := fun _ h => ∃ K : PySem.W.Frag, K.In h ∧ SaysW fa fn K
  of := fun _ _ e => ⟨_, He.frG_in, e⟩
  keeps := fun _ _ _ ⟨K, hK, c⟩ k => ⟨K, PySem.W.Frag.In.keeps hK k, c⟩
theorem obsWG_eq {n : Nat} {fa : List Fa} {fn : List He.DefD} {g : Addr → Option Obj} {s : Shared} (h : ∀ a, g a = s.heap.get? a) : obsWG n fa fn g = (hookW n fa fn).obs s := by
  have e : g = s.heap.get? := funext h
  rw [e]; rfl
section
variable {fa : List Fa} {fn : List He.DefD} {K : PySem.W.Frag}
theorem SaysW.one (c : SaysW fa fn K) {f : Fa} (h : f ∈ fa) : f.ok K = true := by
  have c1 := (He.ba (show ((fa.all fun f => f.ok K) && fn.all fun d => d.ok K) = true from congrArg (fun z : He.AlD => z.1) c)).1
  exact List.all_eq_true.mp c1 f h
theorem SaysW.fact (c : SaysW fa fn K) (i : Nat) {f : He.Fa} (h : fa[i]? = some (.he f)) : f.ok K = true := c.one (List.mem_of_getElem? h)
theorem SaysW.tup (c : SaysW fa fn K) (i : Nat) {x : Str} {vs : List He.Dv} (h : fa[i]? = some (.tup x vs)) (H : Hp) : SqT K H (He.ga K x) (vs.map (He.Dv.v K)) := tupAt_ok (c.one (List.mem_of_getElem? h)) H
theorem SaysW.kwt (c : SaysW fa fn K) (i : Nat) {f : Str × Option Str} {y : Str} {vs : List He.Dv} (h : fa[i]? = some (.kwt f y vs)) (H : Hp) : SqT K H (kwAt f y K) (vs.map (He.Dv.v K)) := tupAt_ok (c.one (List.mem_of_getElem? h)) H
theorem SaysW.def_ (c : SaysW fa fn K) (i : Nat) {d : He.DefD} (h : fn[i]? = some d) : ∃ fd, FunD K d.name d.qual d.params d.body d.scope (d.dvs K) (d.kws K) (He.fAd K d.at_) fd := by
  have c2 := (He.ba (show ((fa.all fun f => f.ok K) && fn.all fun d => d.ok K) = true from congrArg (fun z : He.AlD => z.1) c)).2
  have e : fn.map (fun d => He.fnW K d.at_) = fn.map He.DefD.val := congrArg (fun z : He.AlD => z.2) c
  have e2 : (fn.map fun d => He.fnW K d.at_)[i]? = (fn.map He.DefD.val)[i]? := by rw [e]
  rw [List.getElem?_map, List.getElem?_map, h] at e2
  exact He.DefD.funD (Option.some.inj e2) (List.all_eq_true.mp c2 d (List.mem_of_getElem? h))
end

section
variable {K0 H : Hp} {L : Ow} {a : Addr} {o z : HO} {f : HO → Ow} {σ : L2.St} {Q : VK} {QT : Bool → Hp → Prop} {b c : Bool} {tu : TE} {tw : TT}
theorem Sel.again (s : Sel L a o f) (z : HO) : Sel (f z) a z f := by
  induction s with
  | here => exact .here
  | there _ ih => exact .there ih
theorem g_kAndVP (h : ∀ QQ : VK, QQ (.bl c) H → tu σ H QQ) (hq : Q (.bl (b && c)) H) : kAndV tu σ Q (.bl b) H := by
  cases b with
  | true => exact g_kAndVT rfl (h _ hq)
  | false => exact g_kAndVF rfl hq
theorem g_kOrVP (h : ∀ QQ : VK, QQ (.bl c) H → tu σ H QQ) (hq : Q (.bl (b || c)) H) : kOrV tu σ Q (.bl b) H := by
  cases b with
  | true => exact g_kOrVT rfl hq
  | false => exact g_kOrVF rfl (h _ hq)
theorem g_andP (h : ∀ QQ : Bool → Hp → Prop, QQ c H → tw σ H QQ) (hq : QT (b && c) H) : kAndT tw σ QT b H := by
  cases b with
  | true => exact g_andT rfl (h _ hq)
  | false => exact g_andF rfl hq
theorem g_orP (h : ∀ QQ : Bool → Hp → Prop, QQ c H → tw σ H QQ) (hq : QT (b || c) H) : kOrT tw σ QT b H := by
  cases b with
  | true => exact g_orT rfl hq
  | false => exact g_orF rfl (h _ hq)
end

/-! ## loops and comprehensions, by what is known at each turn -/
/-- the body of a comprehension from an iterator J on -/
def kLc (g : TG) (tt : TT) (te : TE) (vs : List Nat) (σ : L2.St) (Q : VK) (J : It) (H1 : Hp) : Prop := ∀ D, H1 D = none → ∃ W : Nat → Nat → Hp → Prop, (∃ m, W 0 m (upd H1 D (.lst []))) ∧ ∀ i m H, W i m H →
  (J.stop i H ∧ Q (.ref D) H) ∨ (J.go i H ∧ ∃ Nx : Hp → Prop, (∀ H', Nx H' → ∃ m', m' < m ∧ W (i + 1) m' H') ∧ ∀ x H', J.yld i H x H' → g x (wipe σ vs) H' fun σ2 H2 => wipe σ2 vs = wipe σ vs ∧ tt σ2 H2 fun b H3 =>
    if b = true then te σ2 H3 fun y H4 => ∃ acc, H4 D = some (.lst acc) ∧ acc.length < sizeLine ∧ Nx (upd H4 D (.lst (acc ++ [y]))) else Nx H3)
def kLcL (K : PySem.W.Frag) (g : TG) (tt : TT) (te : TE) (vs : List Nat) (σ : L2.St) (Q : VK) (x : V) (H1 : Hp) : Prop := ∃ a, x = .ref a ∧ (∃ xs, SqL K H1 a xs) ∧ kLc g tt te vs σ Q (Itl K a) H1
def kLcT (K : PySem.W.Frag) (g : TG) (tt : TT) (te : TE) (vs : List Nat) (σ : L2.St) (Q : VK) (x : V) (H1 : Hp) : Prop := ∃ a, x = .ref a ∧ (∃ xs, SqT K H1 a xs) ∧ kLc g tt te vs σ Q (Itt K a) H1
def kLcR (g : TG) (tt : TT) (te : TE) (vs : List Nat) (σ : L2.St) (Q : VK) (xs : List V) (H1 : Hp) : Prop := ∃ j : Int, xs = [.int j] ∧ -(2 ^ 62) ≤ j ∧ j < 2 ^ 62 ∧ kLc g tt te vs σ Q (Itr 0 j.toNat) H1
/-- a turn's wish: K0 stays, the new list stands at D -/
def LcInv (K0 : Hp) (Inv : Nat → List V → Hp → Ow → Prop) (D : Addr) (i : Nat) (H : Hp) : Prop := ∃ acc K' L', Same K0 K' ∧ Own K' ((D, .lst acc) :: L') H ∧ acc.length ≤ i ∧ Inv i acc K' L'
/-- the element has come -/
def kEl (K0 : Hp) (Inv : Nat → List V → Hp → Ow → Prop) (D : Addr) (i : Nat) (y : V) (H : Hp) : Prop := ∃ acc, H D = some (.lst acc) ∧ acc.length < sizeLine ∧ LcInv K0 Inv D (i + 1) (upd H D (.lst (acc ++ [y])))
/-- the test has come -/
def kTs (K0 : Hp) (Inv : Nat → List V → Hp → Ow → Prop) (D : Addr) (i : Nat) (te : TE) (σ : L2.St) (b : Bool) (H : Hp) : Prop := if b = true then te σ H (kEl K0 Inv D i) else LcInv K0 Inv D (i + 1) H
/-- the target has been set -/
def kTg (K0 : Hp) (Inv : Nat → List V → Hp → Ow → Prop) (D : Addr) (i : Nat) (tt : TT) (te : TE) (vs : List Nat) (σ0 σ : L2.St) (H : Hp) : Prop := wipe σ vs = wipe σ0 vs ∧ tt σ H (kTs K0 Inv D i te σ)
section
variable {K : PySem.W.Frag} {K0 K1 H H1 : Hp} {L : Ow} {g : TG} {tt : TT} {te tl : TE} {ta : TA} {vs : List Nat} {σ σ0 : L2.St} {Q : VK} {a D : Addr} {xs acc : List V} {Inv : Nat → List V → Hp → Ow → Prop} {i : Nat} {y : V} {b : Bool} {L' : Ow}
theorem g_lcL (h : tl σ H (kLcL K g tt te vs σ Q)) : tLc (iList K tl) g tt te vs σ H Q := h
theorem g_lcT (h : tl σ H (kLcT K g tt te vs σ Q)) : tLc (iTup K tl) g tt te vs σ H Q := h
theorem g_lcR (h : ta σ H (kLcR g tt te vs σ Q)) : tLc (iRng1 ta) g tt te vs σ H Q := h
theorem lc_base {J : It} {n : Nat} (w : Own K0 L H) (Inv : Nat → List V → Hp → Ow → Prop) (h0 : Inv 0 [] K0 L) (x : Nat → V)
    (hstop : ∀ K' L' H', Same K0 K' → Own K' L' H' → J.stop n H') (hgo : ∀ i K' L' H', i < n → Same K0 K' → Own K' L' H' → J.go i H') (hy : ∀ i K' L' H' y H'', i < n → Same K0 K' → Own K' L' H' → J.yld i H' y H'' → H'' = H' ∧ y = x i)
    (hs : ∀ D i acc K' L' H', i < n → acc.length ≤ i → Same K0 K' → Inv i acc K' L' → Own K' ((D, .lst acc) :: L') H' → g (x i) (wipe σ vs) H' (kTg K0 Inv D i tt te vs σ))
    (hd : ∀ D acc K' L' H', acc.length ≤ n → Same K0 K' → Inv n acc K' L' → Own K' ((D, .lst acc) :: L') H' → Q (.ref D) H') : kLc g tt te vs σ Q J H := by
  intro D hD
  refine ⟨fun i m H' => m = n - i ∧ i ≤ n ∧ LcInv K0 Inv D i H', ⟨n, rfl, Nat.zero_le _, [], K0, L, Same.refl _, w.new hD _, Nat.le_refl _, h0⟩, ?_⟩
  rintro i m H' ⟨rfl, hi, acc, K', L', sm, w', hl, hI⟩
  by_cases lt : i < n
  · refine .inr ⟨hgo i K' _ H' lt sm w', LcInv K0 Inv D (i + 1), fun H2 q => ⟨n - (i + 1), by omega, rfl, lt, q⟩, fun z H2 hz => ?_⟩
    obtain ⟨e1, e2⟩ := hy i K' _ H' z H2 lt sm w' hz
    subst e1 e2
    exact hs D i acc K' L' _ lt hl sm hI w'
  · have e : i = n := by omega
    subst e
    exact .inl ⟨hstop K' _ H' sm w', hd D acc K' L' H' hl sm hI w'⟩
/-- over a list that stays -/
theorem lc_L (w : Own K0 L H) (hx : SqL K K0 a xs) (Inv : Nat → List V → Hp → Ow → Prop) (h0 : Inv 0 [] K0 L)
    (hs : ∀ D i x acc K' L' H', xs[i]? = some x → acc.length ≤ i → Same K0 K' → Inv i acc K' L' → Own K' ((D, .lst acc) :: L') H' → g x (wipe σ vs) H' (kTg K0 Inv D i tt te vs σ))
    (hd : ∀ D acc K' L' H', acc.length ≤ xs.length → Same K0 K' → Inv xs.length acc K' L' → Own K' ((D, .lst acc) :: L') H' → Q (.ref D) H') : kLcL K g tt te vs σ Q (.ref a) H := by
  refine ⟨a, rfl, ⟨xs, w.sqL hx⟩, lc_base w Inv h0 (fun i => (xs[i]?).getD .non) (n := xs.length) ?_ ?_ ?_ ?_ hd⟩
  · exact fun K' L' H' sm w' => ⟨xs, w'.sqL (sqL_mono sm hx), Nat.le_refl _⟩
  · exact fun i K' L' H' lt sm w' => ⟨xs, xs[i], w'.sqL (sqL_mono sm hx), by simp [lt]⟩
  · rintro i K' L' H' y H'' lt sm w' ⟨e, q⟩
    exact ⟨e, by rw [q xs (w'.sqL (sqL_mono sm hx))]; rfl⟩
  · intro D i acc K' L' H' lt hl sm hI w'
    have e : xs[i]? = some xs[i] := by simp [lt]
    rw [e]
    exact hs D i _ acc K' L' H' e hl sm hI w'
theorem lc_T (w : Own K0 L H) (hx : SqT K K0 a xs) (Inv : Nat → List V → Hp → Ow → Prop) (h0 : Inv 0 [] K0 L)
    (hs : ∀ D i x acc K' L' H', xs[i]? = some x → acc.length ≤ i → Same K0 K' → Inv i acc K' L' → Own K' ((D, .lst acc) :: L') H' → g x (wipe σ vs) H' (kTg K0 Inv D i tt te vs σ))
    (hd : ∀ D acc K' L' H', acc.length ≤ xs.length → Same K0 K' → Inv xs.length acc K' L' → Own K' ((D, .lst acc) :: L') H' → Q (.ref D) H') : kLcT K g tt te vs σ Q (.ref a) H := by
  refine ⟨a, rfl, ⟨xs, w.sqT hx⟩, lc_base w Inv h0 (fun i => (xs[i]?).getD .non) (n := xs.length) ?_ ?_ ?_ ?_ hd⟩
  · exact fun K' L' H' sm w' => ⟨xs, w'.sqT (sqT_mono sm hx), Nat.le_refl _⟩
  · exact fun i K' L' H' lt sm w' => ⟨xs, xs[i], w'.sqT (sqT_mono sm hx), by simp [lt]⟩
  · rintro i K' L' H' y H'' lt sm w' ⟨e, q⟩
    exact ⟨e, by rw [q xs (w'.sqT (sqT_mono sm hx))]; rfl⟩
  · intro D i acc K' L' H' lt hl sm hI w'
    have e : xs[i]? = some xs[i] := by simp [lt]
    rw [e]
    exact hs D i _ acc K' L' H' e hl sm hI w'
theorem lc_R {n : Int} (w : Own K0 L H) (hn : n ≤ 1000000) (Inv : Nat → List V → Hp → Ow → Prop) (h0 : Inv 0 [] K0 L)
    (hs : ∀ D (i : Nat) acc K' L' H', (i : Int) < n → acc.length ≤ i → Same K0 K' → Inv i acc K' L' → Own K' ((D, .lst acc) :: L') H' → g (.int i) (wipe σ vs) H' (kTg K0 Inv D i tt te vs σ))
    (hn' : -1000000 ≤ n)
    (hd : ∀ D acc K' L' H', acc.length ≤ n.toNat → Same K0 K' → Inv n.toNat acc K' L' → Own K' ((D, .lst acc) :: L') H' → Q (.ref D) H') : kLcR g tt te vs σ Q [.int n] H := by
  refine ⟨n, rfl, by omega, by omega, lc_base w Inv h0 (fun i => .int i) (n := n.toNat) ?_ ?_ ?_ ?_ hd⟩
  · exact fun K' L' H' sm w' => Nat.le_refl _
  · exact fun i K' L' H' lt sm w' => lt
  · rintro i K' L' H' y H'' lt sm w' ⟨e, q⟩
    exact ⟨e, by rw [q, Int.zero_add]⟩
  · exact fun D i acc K' L' H' lt hl sm hI w' => hs D i acc K' L' H' (by omega) hl sm hI w'
theorem g_kTg (e : wipe σ vs = wipe σ0 vs) (h : tt σ H (kTs K0 Inv D i te σ)) : kTg K0 Inv D i tt te vs σ0 σ H := ⟨e, h⟩
theorem g_yes {QT : Bool → Hp → Prop} (h : QT true H) : tYes σ H QT := h
theorem g_kTsT (e : b = true) (h : te σ H (kEl K0 Inv D i)) : kTs K0 Inv D i te σ b H := by
  show (if b = true then _ else _)
  rw [if_pos e]; exact h
theorem g_kTsF (e : b = false) (h : LcInv K0 Inv D (i + 1) H) : kTs K0 Inv D i te σ b H := by
  show (if b = true then _ else _)
  rw [if_neg (by rw [e]; decide)]; exact h
theorem g_kTsB (h1 : b = true → te σ H (kEl K0 Inv D i)) (h2 : b = false → LcInv K0 Inv D (i + 1) H) : kTs K0 Inv D i te σ b H := by
  cases b with
  | true => exact g_kTsT rfl (h1 rfl)
  | false => exact g_kTsF rfl (h2 rfl)
theorem g_kEl (w : Own K1 ((D, .lst acc) :: L') H) (s : Same K0 K1) (hl : acc.length ≤ i) (hi : i ≤ 1000000) (h : Inv (i + 1) (acc ++ [y]) K1 L') : kEl K0 Inv D i y H :=
  ⟨acc, w.at_ .here, len_lt (Nat.le_trans hl hi), acc ++ [y], K1, L', s, w.put .here _, by rw [List.length_append]; exact Nat.succ_le_succ hl, h⟩
theorem g_lcInv (w : Own K1 ((D, .lst acc) :: L') H) (s : Same K0 K1) (hl : acc.length ≤ i) (h : Inv i acc K1 L') : LcInv K0 Inv D i H := ⟨acc, K1, L', s, w, hl, h⟩
end

/-! ### for -/
def kFor (g : TG) (tb : TS) (D : Ends) (σ : L2.St) (J : It) (H : Hp) : Prop := ∃ W : Nat → Nat → L2.St → Hp → Prop, (∃ m, W 0 m σ H) ∧ ∀ i m σ H, W i m σ H →
  (J.stop i H ∧ D.nx σ H) ∨ (J.go i H ∧ ∃ N : L2.St → Hp → Prop, (∀ σ' H', N σ' H' → ∃ m', m' < m ∧ W (i + 1) m' σ' H') ∧ ∀ x H', J.yld i H x H' → g x σ H' fun σ2 H2 => tb { D with nx := N, ct := N, bk := D.nx } σ2 H2)
def kForL (K : PySem.W.Frag) (g : TG) (tb : TS) (D : Ends) (σ : L2.St) (x : V) (H1 : Hp) : Prop := ∃ a, x = .ref a ∧ (∃ xs, SqL K H1 a xs) ∧ kFor g tb D σ (Itl K a) H1
def kForT (K : PySem.W.Frag) (g : TG) (tb : TS) (D : Ends) (σ : L2.St) (x : V) (H1 : Hp) : Prop := ∃ a, x = .ref a ∧ (∃ xs, SqT K H1 a xs) ∧ kFor g tb D σ (Itt K a) H1
def kForR (g : TG) (tb : TS) (D : Ends) (σ : L2.St) (xs : List V) (H1 : Hp) : Prop := ∃ j : Int, xs = [.int j] ∧ -(2 ^ 62) ≤ j ∧ j < 2 ^ 62 ∧ kFor g tb D σ (Itr 0 j.toNat) H1
def kForS (g : TG) (tb : TS) (D : Ends) (σ : L2.St) (x : V) (H1 : Hp) : Prop := ∃ z, x = .str z ∧ kFor g tb D σ (Its z) H1
/-- what holds between two turns -/
def FoInv (K0 : Hp) (Inv : Nat → L2.St → Hp → Ow → Prop) (i : Nat) (σ : L2.St) (H : Hp) : Prop := ∃ K' L', Same K0 K' ∧ Own K' L' H ∧ Inv i σ K' L'
section
variable {K : PySem.W.Frag} {K0 K1 H H1 : Hp} {L L' : Ow} {g : TG} {tb : TS} {tl : TE} {ta : TA} {σ : L2.St} {n : L2.St → Hp → Prop} {r : VK} {bk ct : L2.St → Hp → Prop} {a : Addr} {xs : List V} {Inv : Nat → L2.St → Hp → Ow → Prop} {i : Nat}
theorem g_forL (h : tl σ H (kForL K g tb ⟨n, r, bk, ct⟩ σ)) : tFor (iList K tl) g tb ⟨n, r, bk, ct⟩ σ H := h
theorem g_forT (h : tl σ H (kForT K g tb ⟨n, r, bk, ct⟩ σ)) : tFor (iTup K tl) g tb ⟨n, r, bk, ct⟩ σ H := h
theorem g_forR (h : ta σ H (kForR g tb ⟨n, r, bk, ct⟩ σ)) : tFor (iRng1 ta) g tb ⟨n, r, bk, ct⟩ σ H := h
theorem g_forS (h : tl σ H (kForS g tb ⟨n, r, bk, ct⟩ σ)) : tFor (iStr tl) g tb ⟨n, r, bk, ct⟩ σ H := h
theorem fo_base {J : It} {m : Nat} (w : Own K0 L H) (Inv : Nat → L2.St → Hp → Ow → Prop) (h0 : Inv 0 σ K0 L) (x : Nat → V)
    (hstop : ∀ K' L' H', Same K0 K' → Own K' L' H' → J.stop m H') (hgo : ∀ i K' L' H', i < m → Same K0 K' → Own K' L' H' → J.go i H') (hy : ∀ i K' L' H' y H'', i < m → Same K0 K' → Own K' L' H' → J.yld i H' y H'' → H'' = H' ∧ y = x i)
    (hs : ∀ i σ K' L' H', i < m → Same K0 K' → Inv i σ K' L' → Own K' L' H' → g (x i) σ H' fun σ2 H2 => tb ⟨FoInv K0 Inv (i + 1), r, n, FoInv K0 Inv (i + 1)⟩ σ2 H2)
    (hd : ∀ σ K' L' H', Same K0 K' → Inv m σ K' L' → Own K' L' H' → n σ H') : kFor g tb ⟨n, r, bk, ct⟩ σ J H := by
  refine ⟨fun i k σ' H' => k = m - i ∧ i ≤ m ∧ FoInv K0 Inv i σ' H', ⟨m, rfl, Nat.zero_le _, K0, L, Same.refl _, w, h0⟩, ?_⟩
  rintro i k σ' H' ⟨rfl, hi, K', L', sm, w', hI⟩
  by_cases lt : i < m
  · refine .inr ⟨hgo i K' _ H' lt sm w', FoInv K0 Inv (i + 1), fun σ2 H2 q => ⟨m - (i + 1), by omega, rfl, lt, q⟩, fun z H2 hz => ?_⟩
    obtain ⟨e1, e2⟩ := hy i K' _ H' z H2 lt sm w' hz
    subst e1 e2
    exact hs i σ' K' L' _ lt sm hI w'
  · have e : i = m := by omega
    subst e
    exact .inl ⟨hstop K' _ H' sm w', hd σ' K' L' H' sm hI w'⟩
theorem fo_L (w : Own K0 L H) (hx : SqL K K0 a xs) (Inv : Nat → L2.St → Hp → Ow → Prop) (h0 : Inv 0 σ K0 L)
    (hs : ∀ i x σ K' L' H', xs[i]? = some x → Same K0 K' → Inv i σ K' L' → Own K' L' H' → g x σ H' fun σ2 H2 => tb ⟨FoInv K0 Inv (i + 1), r, n, FoInv K0 Inv (i + 1)⟩ σ2 H2)
    (hd : ∀ σ K' L' H', Same K0 K' → Inv xs.length σ K' L' → Own K' L' H' → n σ H') : kForL K g tb ⟨n, r, bk, ct⟩ σ (.ref a) H := by
  refine ⟨a, rfl, ⟨xs, w.sqL hx⟩, fo_base w Inv h0 (fun i => (xs[i]?).getD .non) (m := xs.length) ?_ ?_ ?_ ?_ hd⟩
  · exact fun K' L' H' sm w' => ⟨xs, w'.sqL (sqL_mono sm hx), Nat.le_refl _⟩
  · exact fun i K' L' H' lt sm w' => ⟨xs, xs[i], w'.sqL (sqL_mono sm hx), by simp [lt]⟩
  · rintro i K' L' H' y H'' lt sm w' ⟨e, q⟩
    exact ⟨e, by rw [q xs (w'.sqL (sqL_mono sm hx))]; rfl⟩
  · intro i σ' K' L' H' lt sm hI w'
    have e : xs[i]? = some xs[i] := by simp [lt]
    rw [e]
    exact hs i _ σ' K' L' H' e sm hI w'
theorem fo_T (w : Own K0 L H) (hx : SqT K K0 a xs) (Inv : Nat → L2.St → Hp → Ow → Prop) (h0 : Inv 0 σ K0 L)
    (hs : ∀ i x σ K' L' H', xs[i]? = some x → Same K0 K' → Inv i σ K' L' → Own K' L' H' → g x σ H' fun σ2 H2 => tb ⟨FoInv K0 Inv (i + 1), r, n, FoInv K0 Inv (i + 1)⟩ σ2 H2)
    (hd : ∀ σ K' L' H', Same K0 K' → Inv xs.length σ K' L' → Own K' L' H' → n σ H') : kForT K g tb ⟨n, r, bk, ct⟩ σ (.ref a) H := by
  refine ⟨a, rfl, ⟨xs, w.sqT hx⟩, fo_base w Inv h0 (fun i => (xs[i]?).getD .non) (m := xs.length) ?_ ?_ ?_ ?_ hd⟩
  · exact fun K' L' H' sm w' => ⟨xs, w'.sqT (sqT_mono sm hx), Nat.le_refl _⟩
  · exact fun i K' L' H' lt sm w' => ⟨xs, xs[i], w'.sqT (sqT_mono sm hx), by simp [lt]⟩
  · rintro i K' L' H' y H'' lt sm w' ⟨e, q⟩
    exact ⟨e, by rw [q xs (w'.sqT (sqT_mono sm hx))]; rfl⟩
  · intro i σ' K' L' H' lt sm hI w'
    have e : xs[i]? = some xs[i] := by simp [lt]
    rw [e]
    exact hs i _ σ' K' L' H' e sm hI w'
theorem fo_R {m : Int} (w : Own K0 L H) (hm : m ≤ 1000000 ∧ -1000000 ≤ m) (Inv : Nat → L2.St → Hp → Ow → Prop) (h0 : Inv 0 σ K0 L)
    (hs : ∀ (i : Nat) σ K' L' H', (i : Int) < m → Same K0 K' → Inv i σ K' L' → Own K' L' H' → g (.int i) σ H' fun σ2 H2 => tb ⟨FoInv K0 Inv (i + 1), r, n, FoInv K0 Inv (i + 1)⟩ σ2 H2)
    (hd : ∀ σ K' L' H', Same K0 K' → Inv m.toNat σ K' L' → Own K' L' H' → n σ H') : kForR g tb ⟨n, r, bk, ct⟩ σ [.int m] H := by
  refine ⟨m, rfl, by omega, by omega, fo_base w Inv h0 (fun i => .int i) (m := m.toNat) ?_ ?_ ?_ ?_ hd⟩
  · exact fun K' L' H' sm w' => Nat.le_refl _
  · exact fun i K' L' H' lt sm w' => lt
  · rintro i K' L' H' y H'' lt sm w' ⟨e, q⟩
    exact ⟨e, by rw [q, Int.zero_add]⟩
  · exact fun i σ' K' L' H' lt sm hI w' => hs i σ' K' L' H' (by omega) sm hI w'
theorem g_foInv (w : Own K1 L' H) (s : Same K0 K1) (h : Inv i σ K1 L') : FoInv K0 Inv i σ H := ⟨K1, L', s, w, h⟩
def WhInv (W : Nat → L2.St → Hp → Prop) (m : Nat) (σ : L2.St) (H : Hp) : Prop := ∃ m', m' < m ∧ W m' σ H
def kWh (W : Nat → L2.St → Hp → Prop) (m : Nat) (tb : TS) (D : Ends) (σ : L2.St) (b : Bool) (H : Hp) : Prop := if b = true then ∃ N : L2.St → Hp → Prop, (∀ σ' H', N σ' H' → ∃ m', m' < m ∧ W m' σ' H') ∧ tb { D with nx := N, ct := N, bk := D.nx } σ H else D.nx σ H
variable {W : Nat → L2.St → Hp → Prop} {m : Nat} {b : Bool} {tc : TT}
theorem wh_by {m0 : Nat} (W : Nat → L2.St → Hp → Prop) (h0 : W m0 σ H) (hs : ∀ m σ' H', W m σ' H' → tc σ' H' (kWh W m tb ⟨n, r, bk, ct⟩ σ')) : tWhile tc tb ⟨n, r, bk, ct⟩ σ H := ⟨W, ⟨m0, h0⟩, hs⟩
theorem g_whT (e : b = true) (h : tb ⟨WhInv W m, r, n, WhInv W m⟩ σ H) : kWh W m tb ⟨n, r, bk, ct⟩ σ b H := by
  show (if b = true then _ else _)
  rw [if_pos e]
  exact ⟨WhInv W m, fun _ _ q => q, h⟩
theorem g_whF (e : b = false) (h : n σ H) : kWh W m tb ⟨n, r, bk, ct⟩ σ b H := by
  show (if b = true then _ else _)
  rw [if_neg (by rw [e]; decide)]; exact h
theorem g_whB (h1 : b = true → tb ⟨WhInv W m, r, n, WhInv W m⟩ σ H) (h2 : b = false → n σ H) : kWh W m tb ⟨n, r, bk, ct⟩ σ b H := by
  cases b with
  | true => exact g_whT rfl (h1 rfl)
  | false => exact g_whF rfl (h2 rfl)
theorem g_aug {f : Int → Int → Int} {p : Int} {te : TE} (e : σ[i]? = some (some (.int p))) (h : te σ H fun y H1 => ipI f (.int p) y H1 fun z H2 => n (σ.set i (some z)) H2) : tAug i te (ipI f) ⟨n, r, bk, ct⟩ σ H := ⟨_, e, h⟩
theorem g_ipI {f : Int → Int → Int} {p q : Int} {Q : VK} (h : Q (.int (f p q)) H) : ipI f (.int p) (.int q) H Q := ⟨p, q, rfl, rfl, h⟩
end

section
variable {K : PySem.W.Frag} {K0 H : Hp} {L : Ow} {g : TG} {tt : TT} {te : TE} {vs : List Nat} {σ : L2.St} {Q : VK} {a : Addr} {xs : List V}
/-- over a list that was made here and is not changed any more -/
theorem lc_LF (w : Own K0 ((a, .lst xs) :: L) H) (Inv : Nat → List V → Hp → Ow → Prop) (h0 : ∀ K1, Same K0 K1 → Inv 0 [] K1 L)
    (hs : ∀ K1 D i x acc K' L' H', Same K0 K1 → xs[i]? = some x → acc.length ≤ i → Same K1 K' → Inv i acc K' L' → Own K' ((D, .lst acc) :: L') H' → g x (wipe σ vs) H' (kTg K1 Inv D i tt te vs σ))
    (hd : ∀ K1 D acc K' L' H', Same K0 K1 → acc.length ≤ xs.length → Same K1 K' → Inv xs.length acc K' L' → Own K' ((D, .lst acc) :: L') H' → Q (.ref D) H') : kLcL K g tt te vs σ Q (.ref a) H :=
  lc_L w.freeze (.inl (.inl upd_same)) Inv (h0 _ w.same) (fun D i x acc K' L' H' h1 h2 h3 h4 h5 => hs _ D i x acc K' L' H' w.same h1 h2 h3 h4 h5) (fun D acc K' L' H' h1 h2 h3 h4 => hd _ D acc K' L' H' w.same h1 h2 h3 h4)
end

/-! ## lists -/
theorem take_snoc {α : Type} {l : List α} {i : Nat} {x : α} (h : l[i]? = some x) : l.take (i + 1) = l.take i ++ [x] := by rw [List.take_succ, h]; rfl
theorem of_map {α β : Type} {f : α → β} {l : List α} {i : Nat} {y : β} (h : (l.map f)[i]? = some y) : ∃ x, y = f x ∧ l[i]? = some x := by
  rw [List.getElem?_map] at h
  cases e : l[i]? with
  | none => rw [e] at h; cases h
  | some p => rw [e] at h; exact ⟨p, (Option.some.inj h).symm, rfl⟩
theorem atI_of {α : Type} {xs : List α} {i : Int} {j : Nat} {v : α} (e : i = (j : Int)) (h : xs[j]? = some v) : atI xs i = some v := by
  subst e
  have lt : j < xs.length := (List.getElem?_eq_some_iff.mp h).1
  unfold atI ixN
  rw [if_pos (by omega), if_pos (by omega)]
  simpa using h

section
variable {H : Hp} {σ : L2.St} {n : L2.St → Hp → Prop} {r : VK} {bk ct : L2.St → Hp → Prop} {t u : TS} {b : Bool}
/-- ways that meet again: P is what is known there -/
theorem g_ifJ (P : L2.St → Hp → Prop) (j : ∀ σ' H', P σ' H' → n σ' H') (h : ∀ n' : L2.St → Hp → Prop, (∀ σ' H', P σ' H' → n' σ' H') → kIfS t u ⟨n', r, bk, ct⟩ σ b H) : kIfS t u ⟨n, r, bk, ct⟩ σ b H := h n j
theorem g_join (P : L2.St → Hp → Prop) (j : ∀ σ' H', P σ' H' → u ⟨n, r, bk, ct⟩ σ' H') (h : ∀ n' : L2.St → Hp → Prop, (∀ σ' H', P σ' H' → n' σ' H') → t ⟨n', r, bk, ct⟩ σ H) : tSeq t u ⟨n, r, bk, ct⟩ σ H := h _ j
end

theorem kc_nil {α : Type} {D : Addr} {l : List (Str × Value)} {t : Sem α} {r : α} (hl : l = []) (e : t = pure r) : KwChain D l t r := by subst hl; exact e
theorem kc_cons {α β γ : Type} {D : Addr} {l l' : List (Str × Value)} {q : Str × Value} {t : Sem α} {r : α} {k1 : Option Value → Sem β} {k2 : β → Sem γ} {k3 : γ → Sem α} {a : β} (hl : l = q :: l')
    (e1 : t = ((nsGet D q.1 >>= k1) >>= k2) >>= k3) (e2 : k1 (some q.2) = pure a) (e3 : KwChain D l' (k2 a >>= k3) r) : KwChain D l t r := by
  subst hl; exact ⟨β, γ, k1, k2, k3, a, e1, e2, e3⟩

theorem atI_mem {α : Type} {xs : List α} {d : Int} (h0 : 0 ≤ d) (h1 : d < xs.length) : ∃ v, atI xs d = some v ∧ v ∈ xs := by
  have lt : d.toNat < xs.length := by omega
  exact ⟨xs[d.toNat], atI_of (j := d.toNat) (by omega) (by simp [lt]), List.getElem_mem lt⟩
/-! ## texts -/
open TL PySem.StrLaws
theorem starts_eq (a b : Str) : Txt.startswith a b = (tl b).isPrefixOf (tl a) := by
  unfold Txt.startswith
  rw [subAt_eq, List.drop_zero, len_tl, len_tl, Nat.zero_add, Bool.eq_iff_iff, Bool.and_eq_true, List.isPrefixOf_iff_prefix]
  constructor
  · rintro ⟨h1, h2⟩
    exact List.prefix_iff_eq_take.mpr (eq_of_beq h2).symm
  · intro h
    refine ⟨decide_eq_true h.length_le, ?_⟩
    exact beq_iff_eq.mpr (List.prefix_iff_eq_take.mp h).symm
theorem tl_cutS (z : Str) (k : Nat) : tl (cutS z none (some (k : Int))) = (tl z).take k := by
  show ((z.cps.toList.drop (HT.sIx z.length 0 none)).take (HT.sIx z.length z.length (some (k : Int)) - HT.sIx z.length 0 none)).toArray.toList = _
  rw [HT.sIx_none, HT.sIx_nat, List.drop_zero, Nat.sub_zero]
  show (tl z).take _ = _
  rw [len_tl]
  exact List.take_eq_take_min.symm
theorem str_eq_iff {a b : Str} : a = b ↔ tl a = tl b := ⟨fun h => by rw [h], ext_tl⟩
theorem len_app (a b : Str) : (a ++ b).length = a.length + b.length := by rw [len_tl, tl_append, List.length_append, ← len_tl, ← len_tl]

def SOk (s : Str) : Prop := s.length ≤ 1000 ∧ PyData.strOk s = true

theorem cutV_from (xs : List V) (k : Nat) : cutV xs (some (k : Int)) none = xs.drop k := by
  unfold cutV
  rw [HT.sIx_none, HT.sIx_nat]
  by_cases h : k ≤ xs.length
  · rw [Nat.min_eq_left h, List.take_of_length_le (by rw [List.length_drop]; omega)]
  · rw [Nat.min_eq_right (by omega), Nat.sub_self, List.take_zero, List.drop_eq_nil_of_le (by omega)]
theorem cutV_to (xs : List V) (k : Nat) : cutV xs none (some (k : Int)) = xs.take k := by
  unfold cutV
  rw [HT.sIx_none, HT.sIx_nat, List.drop_zero, Nat.sub_zero]
  by_cases h : k ≤ xs.length
  · rw [Nat.min_eq_left h]
  · rw [Nat.min_eq_right (by omega), List.take_length, List.take_of_length_le (by omega)]
theorem flat_rep {α : Type} (n : Nat) (x : α) : (List.replicate n [x]).flatten = List.replicate n x := by
  induction n with
  | zero => rfl
  | succ n ih => rw [List.replicate_succ, List.flatten_cons, ih]; rfl

theorem Own.drop2 {K0 H : Hp} {L : Ow} {x y : Addr × HO} (w : Own K0 (x :: y :: L) H) : Own K0 (x :: L) H := w.swap.drop

/-! ## in, insert, index -/
section
variable {X : Cx} {K : PySem.W.Frag} {K0 H : Hp} {L : Ow} {Q : VK} {x y : V} {p : Addr} {xs : List V} {f : HO → Ow}
theorem _root_.L2.Room.u65 {k : Nat} {A : Around} (r : Room k A) : A.units + 65 < cLine := by have := r.un; omega
def kIn (K : PySem.W.Frag) : R2 := fun x y H Q => rIn K false x y H Q ∨ rInD K x y H Q
theorem ok_in (hu : X.A.units + 65 < cLine) : OpR X (compareOp .In) (kIn X.K) := by
  intro pins s σ H x y v u Q I rx ry h
  rcases h with h | h
  · exact op_in_seq pins s σ H x y v u Q I rx ry h
  · exact op_inD hu pins s σ H x y v u Q I rx ry h
def kNotIn (K : PySem.W.Frag) : R2 := fun x y H Q => rIn K true x y H Q ∨ rNotInD K x y H Q
theorem ok_notIn (hu : X.A.units + 65 < cLine) : OpR X (compareOp .NotIn) (kNotIn X.K) := by
  intro pins s σ H x y v u Q I rx ry h
  rcases h with h | h
  · exact op_notIn_seq pins s σ H x y v u Q I rx ry h
  · exact op_notInD hu pins s σ H x y v u Q I rx ry h
theorem g_inL (hs : SqL K H p xs) (hx : flatV x = true) (ha : xs.all flatV = true) (h : Q (.bl (inV x xs)) H) : kIn K x (.ref p) H Q := .inl ⟨p, xs, rfl, .inl hs, hx, ha, h⟩
theorem g_inT (hs : SqT K H p xs) (hx : flatV x = true) (ha : xs.all flatV = true) (h : Q (.bl (inV x xs)) H) : kIn K x (.ref p) H Q := .inl ⟨p, xs, rfl, .inr hs, hx, ha, h⟩
theorem g_inD {d : PyData} {ds : List PyData} (hd : Dp K H x d) (he : Dp K H y (.list ds)) (sd : SeqAt.shaped d = true) (se : SeqAt.shaped (.list ds) = true) (h : Q (.bl (ds.any fun z => PyData.eqv z d)) H) : kIn K x y H Q := .inr ⟨d, ds, hd, he, sd, se, h⟩
def kInsert : V → List V → Hp → VK → Prop := fun x vs H Q => ∃ (l : Addr) (xs : List V) (i : Int) (y : V), x = .ref l ∧ vs = [.int i, y] ∧ H l = some (.lst xs) ∧ xs.length < sizeLine ∧ 0 ≤ i ∧ i < 2 ^ 63 ∧
  Q .non (upd H l (.lst (xs.take i.toNat ++ [y] ++ xs.drop i.toNat)))
theorem ok_insert : MtR X "list.insert" kInsert := mt_insert
theorem g_insert {i : Int} (w : Own K0 L H) (s : Sel L p (.lst xs) f) (hl : xs.length ≤ 1000000) (hi : 0 ≤ i ∧ i < 2 ^ 63) (k : ∀ H', Own K0 (f (.lst (xs.take i.toNat ++ [y] ++ xs.drop i.toNat))) H' → Q .non H') : kInsert (.ref p) [.int i, y] H Q :=
  ⟨p, xs, i, y, rfl, rfl, w.at_ s, len_lt hl, hi.1, hi.2, k _ (w.put s _)⟩
theorem g_indexD {d : PyData} {ds : List PyData} {j : Nat} {z : PyData} (hl : Dp K H (.ref p) (.list ds)) (hy : Dp K H y d) (sl : SeqAt.shaped (.list ds) = true) (sd : SeqAt.shaped d = true) (hz : ds[j]? = some z) (he : PyData.eqv z d = true)
    (hn : ∀ (m : Nat) (z' : PyData), m < j → ds[m]? = some z' → PyData.eqv z' d = false) (h : Q (.int (j : Nat)) H) : rIndexD K (.ref p) [y] H Q := ⟨p, y, d, ds, j, z, rfl, rfl, hl, hy, sl, sd, hz, he, hn, h⟩
/-! targets -/
theorem g_tupT {n : Nat} {t : TGs} {σ : L2.St} {g : L2.St → Hp → Prop} (hs : SqT K H p xs) (hl : xs.length = n) (h : t xs σ H g) : gTup K n t (.ref p) σ H g := ⟨p, xs, rfl, hs, hl, h⟩
theorem g_gCons {t : TG} {u : TGs} {σ : L2.St} {g : L2.St → Hp → Prop} {v : V} {r : List V} (h : t v σ H fun σ' H' => u r σ' H' g) : gCons t u (v :: r) σ H g := ⟨v, r, rfl, h⟩
theorem g_gNil {σ : L2.St} {g : L2.St → Hp → Prop} (h : g σ H) : gNil [] σ H g := ⟨rfl, h⟩
end
end Wf

set_option Elab.async false
set_option linter.all false
set_option maxRecDepth 100000
set_option maxHeartbeats 4000000
namespace Wf
open PySem PySem.Spec PyProof.Rows L2
def top (i : Nat) : Stmt := PySem.Challenge.pw_warnfilters_k35_whole_ways_outwards.main.body.getD i (.Pass ⟨0, 0, 0, 0⟩)
abbrev s_is_inside : Stmt := top 2
abbrev s_is_internal : Stmt := top 7
abbrev s_is_skipped : Stmt := top 8
abbrev s_next_frame : Stmt := top 9
abbrev s_place : Stmt := top 10
abbrev s__law_bag : Stmt := top 12
abbrev s__law_take : Stmt := top 13
abbrev s__law_pick : Stmt := top 14
abbrev s__law_frames : Stmt := top 15
abbrev s__law_is_internal : Stmt := top 16
abbrev s__law_mixed : Stmt := top 17
abbrev s__law_right : Stmt := top 18
abbrev s_law : Stmt := top 19
theorem sc_is_inside : FnScope ["module", "package"] ["module", "package"] (defScope s_is_inside) := ⟨rfl, rfl, rfl, by decide +kernel, rfl, by decide +kernel, by decide +kernel⟩
theorem sc_is_internal : FnScope ["frame"] ["frame"] (defScope s_is_internal) := ⟨rfl, rfl, rfl, by decide +kernel, rfl, by decide +kernel, by decide +kernel⟩
theorem sc_is_skipped : FnScope ["frame", "skip", "module"] ["frame", "skip"] (defScope s_is_skipped) := ⟨rfl, rfl, rfl, by decide +kernel, rfl, by decide +kernel, by decide +kernel⟩
theorem sc_next_frame : FnScope ["stack", "index", "skip"] ["stack", "index", "skip"] (defScope s_next_frame) := ⟨rfl, rfl, rfl, by decide +kernel, rfl, by decide +kernel, by decide +kernel⟩
theorem sc_place : FnScope ["stack", "level", "skip", "index", "turn"] ["stack", "level", "skip"] (defScope s_place) := ⟨rfl, rfl, rfl, by decide +kernel, rfl, by decide +kernel, by decide +kernel⟩
theorem sc__law_bag : FnScope ["_law_script", "_law_at", "_law_cell", "_law_great", "_law_primes"] ["_law_script", "_law_at"] (defScope s__law_bag) := ⟨rfl, rfl, rfl, by decide +kernel, rfl, by decide +kernel, by decide +kernel⟩
theorem sc__law_take : FnScope ["_law_bag_here", "_law_many", "_law_digit"] ["_law_bag_here", "_law_many"] (defScope s__law_take) := ⟨rfl, rfl, rfl, by decide +kernel, rfl, by decide +kernel, by decide +kernel⟩
theorem sc__law_pick : FnScope ["_law_bag_here", "_law_some"] ["_law_bag_here", "_law_some"] (defScope s__law_pick) := ⟨rfl, rfl, rfl, by decide +kernel, rfl, by decide +kernel, by decide +kernel⟩
theorem sc__law_frames : FnScope ["_law_bag_here", "_law_most", "_law_modules", "_law_turn"] ["_law_bag_here", "_law_most"] (defScope s__law_frames) := ⟨rfl, rfl, rfl, by decide +kernel, rfl, by decide +kernel, by decide +kernel⟩
theorem sc__law_is_internal : FnScope ["_law_frame"] ["_law_frame"] (defScope s__law_is_internal) := ⟨rfl, rfl, rfl, by decide +kernel, rfl, by decide +kernel, by decide +kernel⟩
theorem sc__law_mixed : FnScope ["_law_bag_here", "_law_frames_here", "_law_passed", "_law_found", "_law_turn", "_law_extra"] ["_law_bag_here", "_law_frames_here", "_law_passed"] (defScope s__law_mixed) := ⟨rfl, rfl, rfl, by decide +kernel, rfl, by decide +kernel, by decide +kernel⟩
theorem sc__law_right : FnScope ["_law_bag_here", "_law_frames_here", "_law_height", "_law_passed", "_law_spot", "_law_wider", "_law_beyond", "_law_plain", "_law_further", "_law_moved", "_law_told", "_law_module", "_law_line"] ["_law_bag_here", "_law_frames_here", "_law_height", "_law_passed"] (defScope s__law_right) := ⟨rfl, rfl, rfl, by decide +kernel, rfl, by decide +kernel, by decide +kernel⟩
theorem sc_law : FnScope ["_law_script", "_law_at", "_law_bag_here", "_law_turn", "_law_passed", "_law_k"] ["_law_script"] (defScope s_law) := ⟨rfl, rfl, rfl, by decide +kernel, rfl, by decide +kernel, by decide +kernel⟩

structure Txt (K : PySem.W.Frag) (mg : Str → Option Value) : Prop where
  c_POINT : ∃ t, mg "POINT" = some (.str "." t)
  c_INTERNAL : ∃ t, mg "INTERNAL" = some (.str "importlib" t)
  g_OUTSIDE : mg "OUTSIDE" = some (.ref (He.ga K "OUTSIDE"))
  c_NEAREST : ∃ t, mg "NEAREST" = some (.int 1 t)
  g_is_inside : mg "is_inside" = some (.ref (He.ga K "is_inside"))
  g_is_internal : mg "is_internal" = some (.ref (He.ga K "is_internal"))
  g_is_skipped : mg "is_skipped" = some (.ref (He.ga K "is_skipped"))
  g_next_frame : mg "next_frame" = some (.ref (He.ga K "next_frame"))
  g_place : mg "place" = some (.ref (He.ga K "place"))
  g__law_bag : mg "_law_bag" = some (.ref (He.ga K "_law_bag"))
  g__law_take : mg "_law_take" = some (.ref (He.ga K "_law_take"))
  g__law_pick : mg "_law_pick" = some (.ref (He.ga K "_law_pick"))
  g__law_frames : mg "_law_frames" = some (.ref (He.ga K "_law_frames"))
  g__law_is_internal : mg "_law_is_internal" = some (.ref (He.ga K "_law_is_internal"))
  g__law_mixed : mg "_law_mixed" = some (.ref (He.ga K "_law_mixed"))
  g__law_right : mg "_law_right" = some (.ref (He.ga K "_law_right"))
  g_law : mg "law" = some (.ref (He.ga K "law"))
  n_abs : mg "abs" = none
  n_any : mg "any" = none
  n_int : mg "int" = none
  n_len : mg "len" = none
  n_list : mg "list" = none
  n_max : mg "max" = none
  n_min : mg "min" = none
  n_range : mg "range" = none
  n_tuple : mg "tuple" = none
  f_is_inside : ∃ fd, FunD K "is_inside" "is_inside" (defArgs s_is_inside) (defBody s_is_inside) (defScope s_is_inside) [] [] (He.ga K "is_inside") fd
  f_is_internal : ∃ fd, FunD K "is_internal" "is_internal" (defArgs s_is_internal) (defBody s_is_internal) (defScope s_is_internal) [] [] (He.ga K "is_internal") fd
  f_is_skipped : ∃ fd, FunD K "is_skipped" "is_skipped" (defArgs s_is_skipped) (defBody s_is_skipped) (defScope s_is_skipped) [] [] (He.ga K "is_skipped") fd
  f_next_frame : ∃ fd, FunD K "next_frame" "next_frame" (defArgs s_next_frame) (defBody s_next_frame) (defScope s_next_frame) [] [] (He.ga K "next_frame") fd
  f_place : ∃ fd, FunD K "place" "place" (defArgs s_place) (defBody s_place) (defScope s_place) [] [("level", (.int 1)), ("skip", .ref (kwAt ("place", none) "skip" K))] (He.ga K "place") fd
  f__law_bag : ∃ fd, FunD K "_law_bag" "_law_bag" (defArgs s__law_bag) (defBody s__law_bag) (defScope s__law_bag) [] [] (He.ga K "_law_bag") fd
  f__law_take : ∃ fd, FunD K "_law_take" "_law_take" (defArgs s__law_take) (defBody s__law_take) (defScope s__law_take) [] [] (He.ga K "_law_take") fd
  f__law_pick : ∃ fd, FunD K "_law_pick" "_law_pick" (defArgs s__law_pick) (defBody s__law_pick) (defScope s__law_pick) [] [] (He.ga K "_law_pick") fd
  f__law_frames : ∃ fd, FunD K "_law_frames" "_law_frames" (defArgs s__law_frames) (defBody s__law_frames) (defScope s__law_frames) [] [] (He.ga K "_law_frames") fd
  f__law_is_internal : ∃ fd, FunD K "_law_is_internal" "_law_is_internal" (defArgs s__law_is_internal) (defBody s__law_is_internal) (defScope s__law_is_internal) [] [] (He.ga K "_law_is_internal") fd
  f__law_mixed : ∃ fd, FunD K "_law_mixed" "_law_mixed" (defArgs s__law_mixed) (defBody s__law_mixed) (defScope s__law_mixed) [] [] (He.ga K "_law_mixed") fd
  f__law_right : ∃ fd, FunD K "_law_right" "_law_right" (defArgs s__law_right) (defBody s__law_right) (defScope s__law_right) [] [] (He.ga K "_law_right") fd
  f_law : ∃ fd, FunD K "law" "law" (defArgs s_law) (defBody s_law) (defScope s_law) [] [] (He.ga K "law") fd
  t_OUTSIDE : ∀ H, SqT K H (He.ga K "OUTSIDE") [V.str "sys", V.int 1]
  k_place_skip : ∀ H, SqT K H (kwAt ("place", none) "skip" K) []

/-! ### own tactics -/
local macro_rules | `(tactic| walk_at "sel") => `(tactic| first | exact Sel.here | assumption | exact Sel.again (by assumption) _ | (refine Sel.there ?_; walk_at "sel"))
local macro_rules | `(tactic| walk_at "know") => `(tactic| first | assumption | exact (by assumption : Same _ _) _ _ (by walk_at "know"))
local macro_rules | `(tactic| walk_at "at") => `(tactic| first | exact Own.at_ (by assumption) (by walk_at "sel") | exact Own.know (by assumption) (by walk_at "know"))
local macro_rules | `(tactic| walk_at "sql") => `(tactic| first | assumption | exact SqL.of (by walk_at "at") | exact Own.sqL (by assumption) (by assumption))
local macro_rules | `(tactic| walk_at "sqt") => `(tactic| first | assumption | exact SqT.of (by walk_at "at") | exact Own.sqT (by assumption) (by assumption))
local macro_rules | `(tactic| walk_at "num") => `(tactic| first | omega | exact Or.inl (by omega) | exact Or.inr (by omega) | decide)
local macro_rules | `(tactic| walk_at "st1") => `(tactic| first
  | with_reducible refine g_asg ?_ | with_reducible refine g_name ?_ | with_reducible refine g_op ?_ | with_reducible refine g_var (by with_unfolding_all rfl) ?_ | with_reducible refine g_c ?_
  | with_reducible refine g_cons ?_ | with_reducible refine g_nil ?_ | with_reducible refine g_ret ?_ | with_reducible refine g_next ?_ | with_reducible refine g_drop ?_ | with_reducible refine g_ifS ?_ | with_reducible refine g_test ?_ | with_reducible refine g_B ?_ | with_reducible refine g_kTest ?_
  | with_reducible refine g_ifT (by with_unfolding_all rfl) ?_ | with_reducible refine g_ifF (by with_unfolding_all rfl) ?_
  | with_reducible refine g_and ?_ | with_reducible refine g_or ?_ | with_reducible refine g_not ?_ | with_reducible refine g_andV ?_ | with_reducible refine g_orV ?_ | with_reducible refine g_notV ?_ | with_reducible refine g_kNotV ?_ | with_reducible refine g_if ?_
  | with_reducible refine g_cb ?_ | with_reducible refine g_call ?_ | with_reducible refine g_kCall ?_ | with_reducible refine g_lst ?_ | with_reducible refine g_tup ?_ | with_reducible refine g_un ?_
  | with_reducible refine g_kLst (by assumption) (by with_unfolding_all rfl) (fun _ _ _ => ?_) | with_reducible refine g_kTup (by assumption) (by with_unfolding_all rfl) (fun _ _ _ => ?_)
  | with_reducible refine g_addI ?_ | with_reducible refine g_subI ?_ | with_reducible refine g_ltI ?_ | with_reducible refine g_leI ?_ | with_reducible refine g_gtI ?_ | with_reducible refine g_geI ?_ | with_reducible refine g_eqI ?_ | with_reducible refine g_eqS ?_ | with_reducible refine g_eqB ?_
  | with_reducible refine g_neI ?_ | with_reducible refine g_neS ?_ | with_reducible refine g_neB ?_
  | with_reducible refine g_mulI (by with_unfolding_all walk_at "num") ?_ | with_reducible refine g_divI (by with_unfolding_all walk_at "num") ?_ | with_reducible refine g_modI (by with_unfolding_all walk_at "num") ?_ | with_reducible refine g_powI (by with_unfolding_all walk_at "num") ?_ | with_reducible refine g_int ?_ | with_reducible refine g_abs ?_ | with_reducible refine g_min2 ?_ | with_reducible refine g_max2 ?_
  | with_reducible refine g_addS (by with_unfolding_all walk_at "num") ?_ | with_reducible refine g_lenS (by with_unfolding_all walk_at "num") ?_
  | with_reducible refine g_bm ?_ | with_reducible refine g_kBMs ?_ | with_reducible refine g_starts ?_ | with_reducible refine g_sl ?_ | with_reducible refine g_noPart ?_ | with_reducible refine g_part ?_ | with_reducible refine g_kPart ?_
  | with_reducible refine g_setL ?_ | with_reducible refine g_gCons ?_ | with_reducible refine g_gNil ?_ | with_reducible refine g_tupT (by with_unfolding_all walk_at "sqt") (by with_unfolding_all rfl) ?_
  | with_reducible refine g_ixL (by with_unfolding_all walk_at "sql") (by with_unfolding_all rfl) ?_ | with_reducible refine g_ixT (by with_unfolding_all walk_at "sqt") (by with_unfolding_all rfl) ?_
  | with_reducible refine g_rSetL (by assumption) (by with_unfolding_all walk_at "sel") (by with_unfolding_all rfl) (fun _ _ => ?_)
  | with_reducible refine g_lcL ?_ | with_reducible refine g_lcT ?_ | with_reducible refine g_lcR ?_ | with_reducible refine g_forL ?_ | with_reducible refine g_forT ?_ | with_reducible refine g_forR ?_ | with_reducible refine g_forS ?_
  | with_reducible refine g_kTg (by with_unfolding_all rfl) ?_ | with_reducible refine g_yes ?_ | with_reducible refine g_kTsT (by with_unfolding_all rfl) ?_ | with_reducible refine g_kTsF (by with_unfolding_all rfl) ?_
  | with_reducible refine g_aug (by with_unfolding_all rfl) ?_ | with_reducible refine g_ipI ?_
  | with_reducible refine g_whT (by with_unfolding_all rfl) ?_ | with_reducible refine g_whF (by with_unfolding_all rfl) ?_
  | with_reducible refine g_break ?_ | with_reducible refine g_cont ?_ | with_reducible refine g_retN ?_
  | with_reducible refine g_ifET (by with_unfolding_all rfl) ?_ | with_reducible refine g_ifEF (by with_unfolding_all rfl) ?_
  | with_reducible refine g_kCallN (by with_unfolding_all rfl) (by with_unfolding_all rfl) ?_ | with_reducible refine g_callN ?_)
local macro_rules | `(tactic| walk_at "go1") => `(tactic| first | with_reducible refine g_seq ?_ | walk_at "st1")
local macro_rules | `(tactic| walk_at "go") => `(tactic| repeat' (walk_at "go1"))
local macro_rules | `(tactic| walk_at "upto") => `(tactic| repeat' (walk_at "st1"))
local macro_rules | `(tactic| walk_at "pure") => `(tactic| (first
  | with_reducible apply g_kOrVP | with_reducible apply g_kAndVP | with_reducible apply g_orP | with_reducible apply g_andP); (· intro _ hq; walk_at "go"; exact hq))


/-! ### is_inside -/
def inside (m p : Str) : Bool := decide (m = p) || Txt.startswith m (p ++ ".")
abbrev sp_is_inside (K : PySem.W.Frag) : Sp := Sp2 fun x y H Q _ => ∃ m p : Str, x = .str m ∧ y = .str p ∧ p.length ≤ 1000 ∧ Q (.bl (inside m p)) H
theorem u_is_inside {K : PySem.W.Frag} {m p : Str} {H : Hp} {Q : VK} {E : XK} (hp : p.length ≤ 1000) (h : Q (.bl (inside m p)) H) : sp_is_inside K [.str m, .str p] H Q E := ⟨m, p, rfl, rfl, hp, h⟩
local macro_rules | `(tactic| walk_at "st1") => `(tactic| with_reducible refine u_is_inside (by with_unfolding_all walk_at "num") ?_)
def t_is_inside (K : PySem.W.Frag) : TS :=
  (tRet (tOrV (tOp (kEq K) (tVar 0) (tVar 1)) (tBM K "str" kStarts (tVar 0) (tCons (tOp (kAdd K) (tVar 1) (tC (.str "."))) tNil))))

theorem c_is_inside {K : PySem.W.Frag} {mg : Str → Option Value} {vs : List V} {H : Hp} {Q : VK} {E : XK} (T : Txt K mg) (h : sp_is_inside K vs H Q E) : t_is_inside K { nx := fun _ H1 => Q .non H1, rt := Q } (start ["module", "package"] vs) H := by
  obtain ⟨_, _, rfl, m, p, rfl, rfl, hl, hQ⟩ := sp2 h
  unfold t_is_inside
  have hs : (Str.length ".") = 1 := by decide +kernel
  walk_at "go"
  walk_at "pure"
  exact hQ
theorem ok_is_inside {P : Program} {w : World} {K : PySem.W.Frag} {mg : Str → Option Value} {base : Heap} (T : Txt K mg) :
    OkD P w K mg base CX0 1 (He.ga K "is_inside") ["module", "package"] (sp_is_inside K) := by
  obtain ⟨fd, F⟩ := T.f_is_inside
  exact ⟨⟨fd, F.ok sc_is_inside (fun vs H Q E h => len2 h) fun cdv A outer s H vs Q E hr h => ⟨t_is_inside K, PSs.nox (pss_one (ps_ret (pe_or (pe_cmpR (ok_eq hr.units) (pv 0) (pv 1) (nomark _)) (pe_one (pe_bm PySem.F.plainAttrs_str PySem.F.slot_str_startswith PySem.F.type_str_startswith ok_starts (pv 0) (pa_cons (pe_op ok_add (pv 1) (pe_gs rfl T.c_POINT)) pa_nil)))))), c_is_inside T h⟩, F.bindsN fun _ _ _ _ _ _ us hl => match us, hl with | [_, _], _ => rfl, isFd_of F⟩, F.kp⟩

/-! ### frames -/
abbrev Frm := Str × Int
def FrAt (K : PySem.W.Frag) (K0 : Hp) (v : V) (fr : Frm) : Prop := ∃ p, v = .ref p ∧ SqT K K0 p [.str fr.1, .int fr.2]
structure FrsAt (K : PySem.W.Frag) (K0 : Hp) (vs : List V) (frs : List Frm) : Prop where
  len : vs.length = frs.length
  at_ : ∀ (i : Nat) fr, frs[i]? = some fr → ∃ v, vs[i]? = some v ∧ FrAt K K0 v fr
def skipped (ps : List Str) (fr : Frm) : Bool := inside fr.1 "importlib" || ps.any fun p => inside fr.1 p
abbrev sp_is_internal (K : PySem.W.Frag) : Sp := Sp1 fun x H Q _ => ∃ (a : Addr) (fr : Frm), x = .ref a ∧ SqT K H a [.str fr.1, .int fr.2] ∧ Q (.bl (inside fr.1 "importlib")) H
def t_is_internal (K : PySem.W.Frag) : TS :=
  (tRet (tCall (sp_is_inside K) [] E0 (tCons (tOp (kIx K) (tVar 0) (tC (.int 0))) (tCons (tC (.str "importlib")) tNil))))

theorem c_is_internal {K : PySem.W.Frag} {mg : Str → Option Value} {vs : List V} {H : Hp} {Q : VK} {E : XK} (T : Txt K mg) (h : sp_is_internal K vs H Q E) : t_is_internal K { nx := fun _ H1 => Q .non H1, rt := Q } (start ["frame"] vs) H := by
  obtain ⟨_, rfl, a, fr, rfl, hs, hQ⟩ := sp1 h
  unfold t_is_internal
  have hl : (Str.length "importlib") = 9 := by decide +kernel
  walk_at "go"
  exact hQ
theorem ok_is_internal {P : Program} {w : World} {K : PySem.W.Frag} {mg : Str → Option Value} {base : Heap} (T : Txt K mg) (D_is_inside : OkD P w K mg base CX0 1 (He.ga K "is_inside") ["module", "package"] (sp_is_inside K)) :
    OkD P w K mg base CX0 2 (He.ga K "is_internal") ["frame"] (sp_is_internal K) := by
  obtain ⟨fd, F⟩ := T.f_is_internal
  exact ⟨⟨fd, F.ok sc_is_internal (fun vs H Q E h => len1 h) fun cdv A outer s H vs Q E hr h => ⟨t_is_internal K, PSs.nox (pss_one (ps_ret (pe_callD D_is_inside (hr.mono (by decide)) rfl T.g_is_inside pass0 (pa_cons (pe_ix ok_ix (pv 0) pe_int (fun _ _ => rfl)) (pa_cons (pe_gs rfl T.c_INTERNAL) pa_nil))))), c_is_internal T h⟩, F.bindsN fun _ _ _ _ _ _ us hl => match us, hl with | [_], _ => rfl, isFd_of F⟩, F.kp⟩

abbrev sp_is_skipped (K : PySem.W.Frag) : Sp := Sp2 fun x y H Q _ => ∃ (K0 : Hp) (L : Ow) (a b : Addr) (fr : Frm) (ps : List Str), x = .ref a ∧ y = .ref b ∧ Own K0 L H ∧ SqT K K0 a [.str fr.1, .int fr.2] ∧ SqT K K0 b (ps.map V.str) ∧ (∀ p ∈ ps, p.length ≤ 1000) ∧ ps.length ≤ 1000 ∧
  ∀ H', Own K0 L H' → Q (.bl (skipped ps fr)) H'
def t_is_skipped (K : PySem.W.Frag) : TS :=
  (tRet (tOrV (tCall (sp_is_internal K) [] E0 (tCons (tVar 0) tNil)) (tCB (rAny K) (tCons (tLc (iTup K (tVar 1)) (gName 2) tYes (tCall (sp_is_inside K) [] E0 (tCons (tOp (kIx K) (tVar 0) (tC (.int 0))) (tCons (tVar 2) tNil))) [2]) tNil))))

theorem c_is_skipped {K : PySem.W.Frag} {mg : Str → Option Value} {vs : List V} {H : Hp} {Q : VK} {E : XK} (T : Txt K mg) (h : sp_is_skipped K vs H Q E) : t_is_skipped K { nx := fun _ H1 => Q .non H1, rt := Q } (start ["frame", "skip", "module"] vs) H := by
  obtain ⟨_, _, rfl, K0, L, a, b, fr, ps, rfl, rfl, w, ha, hb, hl, hn, hQ⟩ := sp2 h
  unfold t_is_skipped
  walk_at "go"
  refine ⟨a, fr, rfl, w.sqT ha, ?_⟩
  refine g_kOrVB (fun e => ?_) (fun e => ?_)
  · have : skipped ps fr = true := by unfold skipped; rw [e]; rfl
    rw [← this]; exact hQ _ w
  · walk_at "go"
    refine lc_T w hb (fun i acc K' L' => L' = L ∧ acc = ((ps.take i).map (inside fr.1)).map V.bl) ⟨rfl, rfl⟩ ?_ ?_
    · rintro D i x acc K' L' H' hx hl' sm ⟨rfl, rfl⟩ w'
      obtain ⟨p, rfl, hp⟩ : ∃ p, x = V.str p ∧ ps[i]? = some p := by
        rw [List.getElem?_map] at hx
        cases e : ps[i]? with
        | none => rw [e] at hx; cases hx
        | some p => rw [e] at hx; exact ⟨p, (Option.some.inj hx).symm, rfl⟩
      have hp1 := hl p (List.mem_of_getElem? hp)
      have ha' := w'.sqT (sqT_mono sm ha)
      walk_at "go"
      refine g_kEl w' sm hl' (by have := (List.getElem?_eq_some_iff.mp hp).1; omega) ⟨rfl, ?_⟩
      rw [take_snoc hp, List.map_append, List.map_append]
      rfl
    · rintro D acc K' L' H' hl' sm ⟨rfl, rfl⟩ w'
      walk_at "go"
      refine g_any (SqL.of (w'.at_ .here)) ?_
      have : skipped ps fr = ((ps.take (ps.map V.str).length).map (inside fr.1)).any id := by
        unfold skipped; rw [e, Bool.false_or, List.length_map, List.take_length, List.any_map]; rfl
      rw [← this]
      exact hQ _ (w'.drop.back sm)
theorem ok_is_skipped {P : Program} {w : World} {K : PySem.W.Frag} {mg : Str → Option Value} {base : Heap} (T : Txt K mg) (D_is_inside : OkD P w K mg base CX0 1 (He.ga K "is_inside") ["module", "package"] (sp_is_inside K)) (D_is_internal : OkD P w K mg base CX0 2 (He.ga K "is_internal") ["frame"] (sp_is_internal K)) :
    OkD P w K mg base CX0 3 (He.ga K "is_skipped") ["frame", "skip"] (sp_is_skipped K) := by
  obtain ⟨fd, F⟩ := T.f_is_skipped
  exact ⟨⟨fd, F.ok sc_is_skipped (fun vs H Q E h => len2 h) fun cdv A outer s H vs Q E hr h => ⟨t_is_skipped K, PSs.nox (pss_one (ps_ret (pe_or (pe_callD D_is_internal (hr.mono (by decide)) rfl T.g_is_internal pass0 (pa_cons (pv 0) pa_nil)) (pe_one (pe_callB (ok_any rfl) rfl T.n_any (by decide +kernel) (pa_cons (pe_lc (own := [("module", 2)]) rfl sc_is_skipped.nd  (pi_tup (pv 1)) (blkOk_by (own := [("module", 2)]) (N := ["frame", "skip", "module"]) (sc := defScope s_is_skipped) (by decide +kernel)) (fun _ _ _ _ _ => (gn 2 sc_is_skipped.nd)) (fun _ _ _ _ _ => pts_nil) (fun _ _ _ _ _ => (pe_callD D_is_inside (hr.mono (by decide)) rfl T.g_is_inside pass0 (pa_cons (pe_ix ok_ix (pv 0) pe_int (fun _ _ => rfl)) (pa_cons (pv 2) pa_nil))))) pa_nil)))))), c_is_skipped T h⟩, F.bindsN fun _ _ _ _ _ _ us hl => match us, hl with | [_, _], _ => rfl, isFd_of F⟩, F.kp⟩

/-! ### the next frame -/
/-- the first place from k on that is not passed over, or the end -/
def fromK (frs : List Frm) (ps : List Str) (k : Nat) : Nat := min (k + ((frs.drop k).findIdx fun fr => !skipped ps fr)) frs.length
theorem fromK_skip {frs : List Frm} {ps : List Str} {k : Nat} {fr : Frm} (h : frs[k]? = some fr) (s : skipped ps fr = true) : fromK frs ps k = fromK frs ps (k + 1) := by
  have lt := (List.getElem?_eq_some_iff.mp h).1
  have e := (List.getElem?_eq_some_iff.mp h).2
  unfold fromK
  rw [List.drop_eq_getElem_cons lt, List.findIdx_cons, e, s]
  simp only [Bool.not_true, cond_false]
  congr 1; omega
theorem fromK_stay {frs : List Frm} {ps : List Str} {k : Nat} {fr : Frm} (h : frs[k]? = some fr) (s : skipped ps fr = false) : fromK frs ps k = k := by
  have lt := (List.getElem?_eq_some_iff.mp h).1
  have e := (List.getElem?_eq_some_iff.mp h).2
  unfold fromK
  rw [List.drop_eq_getElem_cons lt, List.findIdx_cons, e, s]
  simp only [Bool.not_false, cond_true]
  omega
theorem fromK_end {frs : List Frm} {ps : List Str} {k : Nat} (h : frs.length ≤ k) : fromK frs ps k = frs.length := by
  unfold fromK; omega
theorem fromK_le (frs : List Frm) (ps : List Str) (k : Nat) : fromK frs ps k ≤ frs.length := Nat.min_le_right _ _
abbrev sp_next_frame (K : PySem.W.Frag) : Sp := Sp3 fun x y z H Q _ => ∃ (K0 : Hp) (L : Ow) (a b : Addr) (j : Nat) (vs : List V) (frs : List Frm) (ps : List Str), x = .ref a ∧ y = .int j ∧ z = .ref b ∧ Own K0 L H ∧ SqL K K0 a vs ∧ FrsAt K K0 vs frs ∧
  SqT K K0 b (ps.map V.str) ∧ (∀ p ∈ ps, p.length ≤ 1000) ∧ ps.length ≤ 1000 ∧ ∀ H', Own K0 L H' → Q (.int (fromK frs ps (j + 1))) H'
def t_next_frame (K : PySem.W.Frag) : TS :=
  (tSeq (tAug 1 (tC (.int 1)) (ipI fun i j => i + j))
    (tSeq (tWhile (tAnd (tTest (tOp kLt (tVar 1) (tCB (kLen K) (tCons (tVar 0) tNil)))) (tB (tCall (sp_is_skipped K) [] E0 (tCons (tOp (kIx K) (tVar 0) (tVar 1)) (tCons (tVar 2) tNil))))) (tAug 1 (tC (.int 1)) (ipI fun i j => i + j)))
    (tRet (tCB kMin2 (tCons (tVar 1) (tCons (tCB (kLen K) (tCons (tVar 0) tNil)) tNil))))))

theorem c_next_frame {K : PySem.W.Frag} {mg : Str → Option Value} {vs : List V} {H : Hp} {Q : VK} {E : XK} (T : Txt K mg) (h : sp_next_frame K vs H Q E) : t_next_frame K { nx := fun _ H1 => Q .non H1, rt := Q } (start ["stack", "index", "skip"] vs) H := by
  obtain ⟨_, _, _, rfl, K0, L, a, b, j, vs, frs, ps, rfl, rfl, rfl, w, ha, hf, hb, hl, hn, hQ⟩ := sp3 h
  unfold t_next_frame
  walk_at "go"
  refine wh_by (m0 := frs.length - (j + 1)) (fun m σ H => ∃ k : Nat, m = frs.length - k ∧ σ = [some (.ref a), some (.int k), some (.ref b)] ∧ Own K0 L H ∧ fromK frs ps k = fromK frs ps (j + 1)) ⟨j + 1, rfl, rfl, w, rfl⟩ ?_
  rintro m σ H1 ⟨k, rfl, rfl, w1, hk⟩
  have hS : SqL K H1 a vs := w1.sqL ha
  walk_at "go"
  refine g_lenL hS ?_
  walk_at "go"
  have e1 := hf.len
  by_cases lt : k < frs.length
  · refine g_andT (by rw [e1]; exact decide_eq_true (by omega)) ?_
    obtain ⟨fr, hfr⟩ : ∃ fr, frs[k]? = some fr := ⟨frs[k], by simp [lt]⟩
    obtain ⟨v, hv, p, rfl, hp⟩ := hf.at_ k fr hfr
    walk_at "go"
    refine g_ixL hS (atI_of rfl hv) ?_
    walk_at "go"
    refine ⟨K0, L, p, b, fr, ps, rfl, rfl, w1, hp, hb, hl, hn, fun H2 w2 => ?_⟩
    walk_at "go"
    refine g_whB (fun e => ?_) (fun e => ?_)
    · walk_at "go"
      exact ⟨frs.length - (k + 1), by omega, k + 1, rfl, rfl, w2, by rw [← hk]; exact (fromK_skip hfr e).symm⟩
    · have hk2 := fromK_stay hfr e
      have hS : SqL K H2 a vs := w2.sqL ha
      walk_at "go"
      refine g_lenL hS ?_
      walk_at "go"
      have : (if (vs.length : Int) < (k : Int) then (vs.length : Int) else (k : Int)) = (fromK frs ps (j + 1) : Nat) := by rw [← hk, hk2, if_neg (by omega)]
      rw [this]
      exact hQ _ w2
  · refine g_andF (by rw [e1]; exact decide_eq_false (by omega)) ?_
    walk_at "go"
    have hk2 := fromK_end (ps := ps) (Nat.le_of_not_lt lt)
    have hS : SqL K H1 a vs := w1.sqL ha
    refine g_lenL hS ?_
    walk_at "go"
    have : (if (vs.length : Int) < (k : Int) then (vs.length : Int) else (k : Int)) = (fromK frs ps (j + 1) : Nat) := by
      rw [← hk, hk2, e1]; split <;> omega
    rw [this]
    exact hQ _ w1
theorem ok_next_frame {P : Program} {w : World} {K : PySem.W.Frag} {mg : Str → Option Value} {base : Heap} (T : Txt K mg) (D_is_skipped : OkD P w K mg base CX0 3 (He.ga K "is_skipped") ["frame", "skip"] (sp_is_skipped K)) :
    OkD P w K mg base CX0 4 (He.ga K "next_frame") ["stack", "index", "skip"] (sp_next_frame K) := by
  obtain ⟨fd, F⟩ := T.f_next_frame
  exact ⟨⟨fd, F.ok sc_next_frame (fun vs H Q E h => len3 h) fun cdv A outer s H vs Q E hr h => ⟨t_next_frame K, PSs.nox (pss_cons (ps_aug (i := 1) sc_next_frame.nd rfl (by first | exact Or.inl rfl | exact Or.inr rfl) pe_int ip_add)
    (pss_cons (ps_while PassesOwn.never (PW.pt (pw_and (pt_cmpR ok_lt (pv 1) (pe_callB ok_len rfl T.n_len (by decide +kernel) (pa_cons (pv 0) pa_nil)) (nomark _)) (pw_and1 (pt_val (pe_callD D_is_skipped (hr.mono (by decide)) rfl T.g_is_skipped pass0 (pa_cons (pe_ix ok_ix (pv 0) (pv 1) (fun _ _ => rfl)) (pa_cons (pv 2) pa_nil))))))) (pss_one (ps_aug (i := 1) sc_next_frame.nd rfl (by first | exact Or.inl rfl | exact Or.inr rfl) pe_int ip_add)))
    (pss_one (ps_ret (pe_callB (ok_min2 rfl) rfl T.n_min (by decide +kernel) (pa_cons (pv 1) (pa_cons (pe_callB ok_len rfl T.n_len (by decide +kernel) (pa_cons (pv 0) pa_nil)) pa_nil))))))), c_next_frame T h⟩, F.bindsN fun _ _ _ _ _ _ us hl => match us, hl with | [_, _, _], _ => rfl, isFd_of F⟩, F.kp⟩

end Wf

set_option Elab.async false
set_option linter.all false
set_option maxRecDepth 100000
set_option maxHeartbeats 4000000
namespace Wf
open PySem PySem.Spec PyProof.Rows L2
/-! ### own tactics -/
local macro_rules | `(tactic| walk_at "sel") => `(tactic| first | exact Sel.here | assumption | exact Sel.again (by assumption) _ | (refine Sel.there ?_; walk_at "sel"))
local macro_rules | `(tactic| walk_at "know") => `(tactic| first | assumption | exact (by assumption : Same _ _) _ _ (by walk_at "know"))
local macro_rules | `(tactic| walk_at "at") => `(tactic| first | exact Own.at_ (by assumption) (by walk_at "sel") | exact Own.know (by assumption) (by walk_at "know"))
local macro_rules | `(tactic| walk_at "sql") => `(tactic| first | assumption | exact SqL.of (by walk_at "at") | exact Own.sqL (by assumption) (by assumption))
local macro_rules | `(tactic| walk_at "sqt") => `(tactic| first | assumption | exact SqT.of (by walk_at "at") | exact Own.sqT (by assumption) (by assumption))
local macro_rules | `(tactic| walk_at "num") => `(tactic| first | omega | exact Or.inl (by omega) | exact Or.inr (by omega) | decide)
local macro_rules | `(tactic| walk_at "st1") => `(tactic| first
  | with_reducible refine g_asg ?_ | with_reducible refine g_name ?_ | with_reducible refine g_op ?_ | with_reducible refine g_var (by with_unfolding_all rfl) ?_ | with_reducible refine g_c ?_
  | with_reducible refine g_cons ?_ | with_reducible refine g_nil ?_ | with_reducible refine g_ret ?_ | with_reducible refine g_next ?_ | with_reducible refine g_drop ?_ | with_reducible refine g_ifS ?_ | with_reducible refine g_test ?_ | with_reducible refine g_B ?_ | with_reducible refine g_kTest ?_
  | with_reducible refine g_ifT (by with_unfolding_all rfl) ?_ | with_reducible refine g_ifF (by with_unfolding_all rfl) ?_
  | with_reducible refine g_and ?_ | with_reducible refine g_or ?_ | with_reducible refine g_not ?_ | with_reducible refine g_andV ?_ | with_reducible refine g_orV ?_ | with_reducible refine g_notV ?_ | with_reducible refine g_kNotV ?_ | with_reducible refine g_if ?_
  | with_reducible refine g_cb ?_ | with_reducible refine g_call ?_ | with_reducible refine g_kCall ?_ | with_reducible refine g_lst ?_ | with_reducible refine g_tup ?_ | with_reducible refine g_un ?_
  | with_reducible refine g_kLst (by assumption) (by with_unfolding_all rfl) (fun _ _ _ => ?_) | with_reducible refine g_kTup (by assumption) (by with_unfolding_all rfl) (fun _ _ _ => ?_)
  | with_reducible refine g_addI ?_ | with_reducible refine g_subI ?_ | with_reducible refine g_ltI ?_ | with_reducible refine g_leI ?_ | with_reducible refine g_gtI ?_ | with_reducible refine g_geI ?_ | with_reducible refine g_eqI ?_ | with_reducible refine g_eqS ?_ | with_reducible refine g_eqB ?_
  | with_reducible refine g_neI ?_ | with_reducible refine g_neS ?_ | with_reducible refine g_neB ?_
  | with_reducible refine g_mulI (by with_unfolding_all walk_at "num") ?_ | with_reducible refine g_divI (by with_unfolding_all walk_at "num") ?_ | with_reducible refine g_modI (by with_unfolding_all walk_at "num") ?_ | with_reducible refine g_powI (by with_unfolding_all walk_at "num") ?_ | with_reducible refine g_int ?_ | with_reducible refine g_abs ?_ | with_reducible refine g_min2 ?_ | with_reducible refine g_max2 ?_
  | with_reducible refine g_addS (by with_unfolding_all walk_at "num") ?_ | with_reducible refine g_lenS (by with_unfolding_all walk_at "num") ?_
  | with_reducible refine g_bm ?_ | with_reducible refine g_kBMs ?_ | with_reducible refine g_starts ?_ | with_reducible refine g_sl ?_ | with_reducible refine g_noPart ?_ | with_reducible refine g_part ?_ | with_reducible refine g_kPart ?_
  | with_reducible refine g_setL ?_ | with_reducible refine g_gCons ?_ | with_reducible refine g_gNil ?_ | with_reducible refine g_tupT (by with_unfolding_all walk_at "sqt") (by with_unfolding_all rfl) ?_
  | with_reducible refine g_ixL (by with_unfolding_all walk_at "sql") (by with_unfolding_all rfl) ?_ | with_reducible refine g_ixT (by with_unfolding_all walk_at "sqt") (by with_unfolding_all rfl) ?_
  | with_reducible refine g_rSetL (by assumption) (by with_unfolding_all walk_at "sel") (by with_unfolding_all rfl) (fun _ _ => ?_)
  | with_reducible refine g_lcL ?_ | with_reducible refine g_lcT ?_ | with_reducible refine g_lcR ?_ | with_reducible refine g_forL ?_ | with_reducible refine g_forT ?_ | with_reducible refine g_forR ?_ | with_reducible refine g_forS ?_
  | with_reducible refine g_kTg (by with_unfolding_all rfl) ?_ | with_reducible refine g_yes ?_ | with_reducible refine g_kTsT (by with_unfolding_all rfl) ?_ | with_reducible refine g_kTsF (by with_unfolding_all rfl) ?_
  | with_reducible refine g_aug (by with_unfolding_all rfl) ?_ | with_reducible refine g_ipI ?_
  | with_reducible refine g_whT (by with_unfolding_all rfl) ?_ | with_reducible refine g_whF (by with_unfolding_all rfl) ?_
  | with_reducible refine g_break ?_ | with_reducible refine g_cont ?_ | with_reducible refine g_retN ?_
  | with_reducible refine g_ifET (by with_unfolding_all rfl) ?_ | with_reducible refine g_ifEF (by with_unfolding_all rfl) ?_
  | with_reducible refine g_kCallN (by with_unfolding_all rfl) (by with_unfolding_all rfl) ?_ | with_reducible refine g_callN ?_)
local macro_rules | `(tactic| walk_at "go1") => `(tactic| first | with_reducible refine g_seq ?_ | walk_at "st1")
local macro_rules | `(tactic| walk_at "go") => `(tactic| repeat' (walk_at "go1"))
local macro_rules | `(tactic| walk_at "upto") => `(tactic| repeat' (walk_at "st1"))
local macro_rules | `(tactic| walk_at "pure") => `(tactic| (first
  | with_reducible apply g_kOrVP | with_reducible apply g_kAndVP | with_reducible apply g_orP | with_reducible apply g_andP); (· intro _ hq; walk_at "go"; exact hq))


local macro_rules | `(tactic| walk_at "st1") => `(tactic| with_reducible refine u_is_inside (by with_unfolding_all walk_at "num") ?_)
/-! ### place -/
def stepsK (frs : List Frm) (ps : List Str) : Nat → Nat
  | 0 => 0
  | n + 1 => fromK frs ps (stepsK frs ps n + 1)
def lev2 (ps : List Str) (lev : Nat) : Nat := if ps ≠ [] ∧ lev = 1 then 2 else lev
def placeIx (frs : List Frm) (lev : Nat) (ps : List Str) : Nat :=
  if lev2 ps lev = 1 ∨ (∃ fr, frs[0]? = some fr ∧ inside fr.1 "importlib" = true) then lev2 ps lev - 1 else stepsK frs ps (lev2 ps lev - 1)
def placeM (frs : List Frm) (lev : Nat) (ps : List Str) : Frm := (frs[placeIx frs lev ps]?).getD ("sys", 1)
abbrev sp_place (K : PySem.W.Frag) : Sp := Sp3 fun x y z H Q _ => ∃ (K0 : Hp) (L : Ow) (a b : Addr) (lev : Nat) (vs : List V) (frs : List Frm) (ps : List Str), x = .ref a ∧ y = .int lev ∧ z = .ref b ∧ Own K0 L H ∧ SqL K K0 a vs ∧ FrsAt K K0 vs frs ∧ frs ≠ [] ∧
  SqT K K0 b (ps.map V.str) ∧ (∀ p ∈ ps, p.length ≤ 1000) ∧ ps.length ≤ 1000 ∧ 1 ≤ lev ∧ lev ≤ 1000 ∧ ∀ H' v, Own K0 L H' → FrAt K K0 v (placeM frs lev ps) → Q v H'
def t_place (K : PySem.W.Frag) : TS :=
  (tSeq (tIfS (tAnd (tTest (tOp kGt (tCB (kLen K) (tCons (tVar 2) tNil)) (tC (.int 0)))) (tTest (tOp (kEq K) (tVar 1) (tC (.int 1))))) (tAsg (tOp (kAdd K) (tC (.int 1)) (tC (.int 1))) (gName 1)) tNext)
    (tSeq (tAsg (tC (.int 0)) (gName 3))
    (tSeq (tIfS (tOr (tTest (tOp (kEq K) (tVar 1) (tC (.int 1)))) (tB (tCall (sp_is_internal K) [] E0 (tCons (tOp (kIx K) (tVar 0) (tC (.int 0))) tNil)))) (tAsg (tOp kSub (tVar 1) (tC (.int 1))) (gName 3)) (tFor (iRng1 (tCons (tOp kSub (tVar 1) (tC (.int 1))) tNil)) (gName 4) (tAsg (tCall (sp_next_frame K) [] E0 (tCons (tVar 0) (tCons (tVar 3) (tCons (tVar 2) tNil)))) (gName 3))))
    (tRet (tIf (tTest (tOp kLt (tVar 3) (tCB (kLen K) (tCons (tVar 0) tNil)))) (tOp (kIx K) (tVar 0) (tVar 3)) (tC (.ref (He.ga K "OUTSIDE"))))))))

theorem c_place {K : PySem.W.Frag} {mg : Str → Option Value} {vs : List V} {H : Hp} {Q : VK} {E : XK} (T : Txt K mg) (h : sp_place K vs H Q E) : t_place K { nx := fun _ H1 => Q .non H1, rt := Q } (start ["stack", "level", "skip", "index", "turn"] vs) H := by
  obtain ⟨_, _, _, rfl, K0, L, a, b, lev, vs, frs, ps, rfl, rfl, rfl, w, ha, hf, hne, hb, hl, hn, h1, h2, hQ⟩ := sp3 h
  unfold t_place
  have hB : SqT K H b (ps.map V.str) := w.sqT hb
  walk_at "go"
  refine g_lenT hB ?_
  walk_at "go"
  walk_at "pure"
  have e0 : (decide (0 < ((ps.map V.str).length : Int)) && decide ((lev : Int) = 1)) = decide (ps ≠ [] ∧ lev = 1) := by
    rw [List.length_map]
    cases ps with
    | nil => simp
    | cons p ps => simp only [List.length_cons]; rw [decide_eq_true (by omega), Bool.true_and, Bool.eq_iff_iff]; simp; omega
  rw [e0]
  refine g_ifJ (fun σ1 H1 => σ1 = [some (.ref a), some (.int (lev2 ps lev)), some (.ref b), none, none] ∧ H1 = H) ?_ (fun n' hn' => g_ifD (fun e => ?_) (fun e => ?_))
  · rintro σ1 H1 ⟨rfl, rfl⟩
    have hA : SqL K H1 a vs := w.sqL ha
    obtain ⟨fr0, hfr0⟩ : ∃ fr, frs[0]? = some fr := by
      cases frs with
      | nil => exact absurd rfl hne
      | cons x _ => exact ⟨x, rfl⟩
    obtain ⟨v0, hv0, p0, rfl, hp0⟩ := hf.at_ 0 fr0 hfr0
    walk_at "go"
    generalize hlv : lev2 ps lev = lv
    have hlv1 : 1 ≤ lv ∧ lv ≤ 1000 := by rw [← hlv]; unfold lev2; split <;> omega
    -- what both ways come to
    refine g_orP (c := inside fr0.1 "importlib") (fun QQ hq => ?_) ?_
    · walk_at "go"
      refine g_ixL hA (atI_of rfl hv0) ?_
      walk_at "go"
      refine ⟨p0, fr0, rfl, w.sqT hp0, ?_⟩
      walk_at "go"
      exact hq
    have fin : ∀ (m : Nat) (z : Option V) (H2 : Hp), Own K0 L H2 → m = placeIx frs lev ps → (tRet (tIf (tTest (tOp kLt (tVar 3) (tCB (kLen K) (tCons (tVar 0) tNil)))) (tOp (kIx K) (tVar 0) (tVar 3)) (tC (V.ref (He.ga K "OUTSIDE")))))
        { nx := fun x H1 => Q V.non H1, rt := Q } [some (V.ref a), some (V.int lv), some (V.ref b), some (V.int m), z] H2 := by
      intro m z H2 w2 hm
      have hA : SqL K H2 a vs := w2.sqL ha
      walk_at "go"
      refine g_lenL hA ?_
      walk_at "go"
      by_cases lt : m < frs.length
      · refine g_ifET (decide_eq_true (by rw [hf.len]; omega)) ?_
        obtain ⟨v, hv, hfa⟩ := hf.at_ m frs[m] (by simp [lt])
        walk_at "go"
        refine g_ixL hA (atI_of rfl hv) ?_
        refine hQ _ _ w2 ?_
        unfold placeM
        rw [← hm, List.getElem?_eq_getElem lt]
        exact hfa
      · refine g_ifEF (decide_eq_false (by rw [hf.len]; omega)) ?_
        walk_at "go"
        refine hQ _ _ w2 ?_
        unfold placeM
        rw [← hm, List.getElem?_eq_none (by omega)]
        exact ⟨_, rfl, T.t_OUTSIDE _⟩
    refine g_ifB (fun e => ?_) (fun e => ?_)
    · refine g_asg ?_
      walk_at "go1"
      walk_at "go1"
      walk_at "go1"
      walk_at "go1"
      walk_at "go1"
      have : (lv : Int) - 1 = ((lv - 1 : Nat) : Int) := by omega
      rw [this]
      refine fin (lv - 1) none H1 w ?_
      unfold placeIx
      rw [hlv, if_pos]
      rcases Bool.or_eq_true _ _ ▸ e with e | e
      · exact .inl (by have := of_decide_eq_true e; omega)
      · exact .inr ⟨fr0, hfr0, e⟩
    · have hno : ¬ (lv = 1 ∨ ∃ fr, frs[0]? = some fr ∧ inside fr.1 "importlib" = true) := by
        rw [Bool.or_eq_false_iff] at e
        rintro (h | ⟨fr, h1, h2⟩)
        · have := of_decide_eq_false e.1; omega
        · rw [hfr0] at h1
          cases h1
          rw [e.2] at h2
          cases h2
      walk_at "go"
      refine fo_R w (by omega) (fun i σ K' L' => L' = L ∧ ∃ z, σ = [some (V.ref a), some (V.int lv), some (V.ref b), some (V.int (stepsK frs ps i)), z]) ⟨rfl, none, rfl⟩ ?_ ?_
      · rintro i σ K' L' H2 hi sm ⟨rfl, z, rfl⟩ w2
        walk_at "go"
        refine ⟨K0, L', a, b, stepsK frs ps i, vs, frs, ps, rfl, rfl, rfl, w2.back sm, ha, hf, hb, hl, hn, fun H3 w3 => ?_⟩
        walk_at "go"
        exact g_foInv w3 (Same.refl _) ⟨rfl, _, rfl⟩
      · rintro σ K' L' H2 sm ⟨rfl, z, rfl⟩ w2
        refine fin _ z H2 (w2.back sm) ?_
        unfold placeIx
        rw [hlv, if_neg hno]
        congr 1
        omega
  · walk_at "go"
    exact hn' _ _ ⟨by unfold lev2; rw [if_pos e]; rfl, rfl⟩
  · walk_at "go"
    exact hn' _ _ ⟨by unfold lev2; rw [if_neg e]; rfl, rfl⟩
theorem ok_place {P : Program} {w : World} {K : PySem.W.Frag} {mg : Str → Option Value} {base : Heap} (T : Txt K mg) (D_is_internal : OkD P w K mg base CX0 2 (He.ga K "is_internal") ["frame"] (sp_is_internal K)) (D_next_frame : OkD P w K mg base CX0 4 (He.ga K "next_frame") ["stack", "index", "skip"] (sp_next_frame K)) :
    OkM P w K mg base CX0 5 (He.ga K "place") ["stack", "level", "skip"] (sp_place K) := by
  obtain ⟨fd, F⟩ := T.f_place
  exact ⟨⟨fd, F.ok sc_place (fun vs H Q E h => len3 h) fun cdv A outer s H vs Q E hr h => ⟨t_place K, PSs.nox (pss_cons (ps_if (PW.pt (pw_and (pt_cmpR ok_gt (pe_callB ok_len rfl T.n_len (by decide +kernel) (pa_cons (pv 2) pa_nil)) pe_int (nomark _)) (pw_and1 (pt_cmpR (ok_eq hr.units) (pv 1) (pe_gi rfl T.c_NEAREST) (nomark _))))) (pss_one (pset 1 sc_place.nd (pe_op ok_add (pe_gi rfl T.c_NEAREST) pe_int))) pss_nil)
    (pss_cons (pset 3 sc_place.nd pe_int)
    (pss_cons (ps_if (PW.pt (pw_or (pt_cmpR (ok_eq hr.units) (pv 1) (pe_gi rfl T.c_NEAREST) (nomark _)) (pw_or1 (pt_val (pe_callD D_is_internal (hr.mono (by decide)) rfl T.g_is_internal pass0 (pa_cons (pe_ix ok_ix (pv 0) pe_int (fun _ _ => rfl)) pa_nil)))))) (pss_one (pset 3 sc_place.nd (pe_op ok_sub (pv 1) pe_int))) (pss_one (ps_for PassesOwn.never rfl (pi_range1 rfl T.n_range (pa_cons (pe_op ok_sub (pv 1) pe_int) pa_nil)) (gn 4 sc_place.nd) (pss_one (pset 3 sc_place.nd (pe_callD D_next_frame (hr.mono (by decide)) rfl T.g_next_frame pass0 (pa_cons (pv 0) (pa_cons (pv 3) (pa_cons (pv 2) pa_nil)))))))))
    (pss_one (ps_ret (pe_ifExp (pt_cmpR ok_lt (pv 3) (pe_callB ok_len rfl T.n_len (by decide +kernel) (pa_cons (pv 0) pa_nil)) (nomark _)) (pe_ix ok_ix (pv 0) (pv 3) (fun _ _ => rfl)) (pe_gr rfl T.g_OUTSIDE))))))), c_place T h⟩, isFd_of F⟩, F.kp⟩
def gv_place_1_level_skip (K : PySem.W.Frag) : List V → List V → List V := fun us ws => (fun mv : List V => ((us ++ ((ws.drop 0).take 1)) ++ ((ws.drop 1).take 1))) (([] : List (Str × V)).map (·.2))
theorem b_place_1_level_skip {K : PySem.W.Frag} {mg : Str → Option Value} (T : Txt K mg) : KB K (He.ga K "place") ["stack", "level", "skip"] 1 ["level", "skip"] (gv_place_1_level_skip K) := by
  obtain ⟨fd, F⟩ := T.f_place
  obtain ⟨mv, h⟩ := FunD.kbinds0 (ps := ["stack", "level", "skip"]) F 1 ["level", "skip"] [] (fun us mv ws => ((us ++ ((ws.drop 0).take 1)) ++ ((ws.drop 1).take 1))) (List.cons_ne_nil _ _) (fun q hq => by simp only [List.mem_cons, List.not_mem_nil, or_false] at hq ⊢ <;> simp only [hq, true_or, or_true]) (fun r1 r2 r3 => ((r1.append ((r3.drop 0).take 1)).append ((r3.drop 1).take 1)))
    (fun _ _ _ _ _ _ us mv ws l1 l2 l3 => match us, mv, ws, l1, l2, l3 with | [_], [], [_, _], _, _, _ => (kc_nil rfl rfl))
  exact ⟨fd, _, isFd_of F, h⟩

end Wf

set_option Elab.async false
set_option linter.all false
set_option maxRecDepth 100000
set_option maxHeartbeats 4000000
namespace Wf
open PySem PySem.Spec PyProof.Rows L2 TL
/-! ### own tactics -/
local macro_rules | `(tactic| walk_at "sel") => `(tactic| first | exact Sel.here | assumption | exact Sel.again (by assumption) _ | (refine Sel.there ?_; walk_at "sel"))
local macro_rules | `(tactic| walk_at "know") => `(tactic| first | assumption | exact (by assumption : Same _ _) _ _ (by walk_at "know"))
local macro_rules | `(tactic| walk_at "at") => `(tactic| first | exact Own.at_ (by assumption) (by walk_at "sel") | exact Own.know (by assumption) (by walk_at "know"))
local macro_rules | `(tactic| walk_at "sql") => `(tactic| first | assumption | exact SqL.of (by walk_at "at") | exact Own.sqL (by assumption) (by assumption))
local macro_rules | `(tactic| walk_at "sqt") => `(tactic| first | assumption | exact SqT.of (by walk_at "at") | exact Own.sqT (by assumption) (by assumption))
local macro_rules | `(tactic| walk_at "num") => `(tactic| first | omega | exact Or.inl (by omega) | exact Or.inr (by omega) | decide)
local macro_rules | `(tactic| walk_at "st1") => `(tactic| first
  | with_reducible refine g_asg ?_ | with_reducible refine g_name ?_ | with_reducible refine g_op ?_ | with_reducible refine g_var (by with_unfolding_all rfl) ?_ | with_reducible refine g_c ?_
  | with_reducible refine g_cons ?_ | with_reducible refine g_nil ?_ | with_reducible refine g_ret ?_ | with_reducible refine g_next ?_ | with_reducible refine g_drop ?_ | with_reducible refine g_ifS ?_ | with_reducible refine g_test ?_ | with_reducible refine g_B ?_ | with_reducible refine g_kTest ?_
  | with_reducible refine g_ifT (by with_unfolding_all rfl) ?_ | with_reducible refine g_ifF (by with_unfolding_all rfl) ?_
  | with_reducible refine g_and ?_ | with_reducible refine g_or ?_ | with_reducible refine g_not ?_ | with_reducible refine g_andV ?_ | with_reducible refine g_orV ?_ | with_reducible refine g_notV ?_ | with_reducible refine g_kNotV ?_ | with_reducible refine g_if ?_
  | with_reducible refine g_cb ?_ | with_reducible refine g_call ?_ | with_reducible refine g_kCall ?_ | with_reducible refine g_lst ?_ | with_reducible refine g_tup ?_ | with_reducible refine g_un ?_
  | with_reducible refine g_kLst (by assumption) (by with_unfolding_all rfl) (fun _ _ _ => ?_) | with_reducible refine g_kTup (by assumption) (by with_unfolding_all rfl) (fun _ _ _ => ?_)
  | with_reducible refine g_addI ?_ | with_reducible refine g_subI ?_ | with_reducible refine g_ltI ?_ | with_reducible refine g_leI ?_ | with_reducible refine g_gtI ?_ | with_reducible refine g_geI ?_ | with_reducible refine g_eqI ?_ | with_reducible refine g_eqS ?_ | with_reducible refine g_eqB ?_
  | with_reducible refine g_neI ?_ | with_reducible refine g_neS ?_ | with_reducible refine g_neB ?_
  | with_reducible refine g_mulI (by with_unfolding_all walk_at "num") ?_ | with_reducible refine g_divI (by with_unfolding_all walk_at "num") ?_ | with_reducible refine g_modI (by with_unfolding_all walk_at "num") ?_ | with_reducible refine g_powI (by with_unfolding_all walk_at "num") ?_ | with_reducible refine g_int ?_ | with_reducible refine g_abs ?_ | with_reducible refine g_min2 ?_ | with_reducible refine g_max2 ?_
  | with_reducible refine g_addS (by with_unfolding_all walk_at "num") ?_ | with_reducible refine g_lenS (by with_unfolding_all walk_at "num") ?_
  | with_reducible refine g_bm ?_ | with_reducible refine g_kBMs ?_ | with_reducible refine g_starts ?_ | with_reducible refine g_sl ?_ | with_reducible refine g_noPart ?_ | with_reducible refine g_part ?_ | with_reducible refine g_kPart ?_
  | with_reducible refine g_setL ?_ | with_reducible refine g_gCons ?_ | with_reducible refine g_gNil ?_ | with_reducible refine g_tupT (by with_unfolding_all walk_at "sqt") (by with_unfolding_all rfl) ?_
  | with_reducible refine g_ixL (by with_unfolding_all walk_at "sql") (by with_unfolding_all rfl) ?_ | with_reducible refine g_ixT (by with_unfolding_all walk_at "sqt") (by with_unfolding_all rfl) ?_
  | with_reducible refine g_rSetL (by assumption) (by with_unfolding_all walk_at "sel") (by with_unfolding_all rfl) (fun _ _ => ?_)
  | with_reducible refine g_lcL ?_ | with_reducible refine g_lcT ?_ | with_reducible refine g_lcR ?_ | with_reducible refine g_forL ?_ | with_reducible refine g_forT ?_ | with_reducible refine g_forR ?_ | with_reducible refine g_forS ?_
  | with_reducible refine g_kTg (by with_unfolding_all rfl) ?_ | with_reducible refine g_yes ?_ | with_reducible refine g_kTsT (by with_unfolding_all rfl) ?_ | with_reducible refine g_kTsF (by with_unfolding_all rfl) ?_
  | with_reducible refine g_aug (by with_unfolding_all rfl) ?_ | with_reducible refine g_ipI ?_
  | with_reducible refine g_whT (by with_unfolding_all rfl) ?_ | with_reducible refine g_whF (by with_unfolding_all rfl) ?_
  | with_reducible refine g_break ?_ | with_reducible refine g_cont ?_ | with_reducible refine g_retN ?_
  | with_reducible refine g_ifET (by with_unfolding_all rfl) ?_ | with_reducible refine g_ifEF (by with_unfolding_all rfl) ?_
  | with_reducible refine g_kCallN (by with_unfolding_all rfl) (by with_unfolding_all rfl) ?_ | with_reducible refine g_callN ?_)
local macro_rules | `(tactic| walk_at "go1") => `(tactic| first | with_reducible refine g_seq ?_ | walk_at "st1")
local macro_rules | `(tactic| walk_at "go") => `(tactic| repeat' (walk_at "go1"))
local macro_rules | `(tactic| walk_at "upto") => `(tactic| repeat' (walk_at "st1"))
local macro_rules | `(tactic| walk_at "pure") => `(tactic| (first
  | with_reducible apply g_kOrVP | with_reducible apply g_kAndVP | with_reducible apply g_orP | with_reducible apply g_andP); (· intro _ hq; walk_at "go"; exact hq))


/-! ### draws -/
def BagO (g m c : Int) : HO := .lst [.int g, .int m, .int c]
def BagOk (g m c : Int) : Prop := 0 ≤ g ∧ 0 ≤ m ∧ m < 2147483648
abbrev sp__law_take (K : PySem.W.Frag) : Sp := Sp2 fun x y H Q _ => ∃ (K0 : Hp) (L : Ow) (f : HO → Ow) (b : Addr) (g m c n : Int), x = .ref b ∧ y = .int n ∧ Own K0 L H ∧ Sel L b (BagO g m c) f ∧ BagOk g m c ∧ (0 < n ∧ n ≤ 1000) ∧
  ∀ d g' m' c' H', 0 ≤ d ∧ d < n → BagOk g' m' c' → Own K0 (f (BagO g' m' c')) H' → Q (.int d) H'
theorem u_take {K : PySem.W.Frag} {K0 : Hp} {L : Ow} {f : HO → Ow} {b : Addr} {g m c n : Int} {H : Hp} {Q : VK} {E : XK} (w : Own K0 L H) (s : Sel L b (BagO g m c) f) (ok : BagOk g m c) (hn : 0 < n ∧ n ≤ 1000)
    (k : ∀ d g' m' c' H', 0 ≤ d ∧ d < n → BagOk g' m' c' → Own K0 (f (BagO g' m' c')) H' → Q (.int d) H') : sp__law_take K [.ref b, .int n] H Q E := ⟨K0, L, f, b, g, m, c, n, rfl, rfl, w, s, ok, hn, k⟩
def t__law_take (K : PySem.W.Frag) : TS :=
  (tSeq (tIfS (tTest (tOp kGt (tOp (kIx K) (tVar 0) (tC (.int 0))) (tC (.int 0)))) (tSeq (tAsg (tOp kMod (tCB kInt (tCons (tOp (kIx K) (tVar 0) (tC (.int 0))) tNil)) (tVar 1)) (gName 2))
    (tSeq (tAsg (tOp kDiv (tOp (kIx K) (tVar 0) (tC (.int 0))) (tVar 1)) (gSub (tVar 0) (tC (.int 0)) rSetL))
    (tRet (tVar 2)))) tNext)
    (tSeq (tAsg (tOp (kAdd K) (tOp (kIx K) (tVar 0) (tC (.int 2))) (tC (.int 1))) (gSub (tVar 0) (tC (.int 2)) rSetL))
    (tSeq (tAsg (tOp kMod (tCB kInt (tCons (tOp (kAdd K) (tOp (kAdd K) (tOp kMul (tOp (kIx K) (tVar 0) (tC (.int 1))) (tC (.int 40692))) (tOp kMul (tC (.int 7103)) (tOp (kIx K) (tVar 0) (tC (.int 2))))) (tC (.int 41))) tNil)) (tC (.int 2147483647))) (gSub (tVar 0) (tC (.int 1)) rSetL))
    (tRet (tOp kMod (tOp kMod (tCB kInt (tCons (tOp kPow (tOp kDiv (tOp (kIx K) (tVar 0) (tC (.int 1))) (tC (.int 8))) (tC (.int 3))) tNil)) (tC (.int 2147483629))) (tVar 1))))))

theorem c__law_take {K : PySem.W.Frag} {mg : Str → Option Value} {vs : List V} {H : Hp} {Q : VK} {E : XK} (T : Txt K mg) (h : sp__law_take K vs H Q E) : t__law_take K { nx := fun _ H1 => Q .non H1, rt := Q } (start ["_law_bag_here", "_law_many", "_law_digit"] vs) H := by
  obtain ⟨_, _, rfl, K0, L, f, b, g, m, c, n, rfl, rfl, w, s, ok, hn, hQ⟩ := sp2 h
  unfold t__law_take
  obtain ⟨hg, hm, hm2⟩ := id ok
  walk_at "go"
  refine g_ifD (fun h => ?_) (fun h => ?_)
  · walk_at "go"
    exact hQ _ (g / n) m c _ ⟨Int.emod_nonneg _ (by omega), Int.emod_lt_of_pos _ hn.1⟩ ⟨Int.ediv_nonneg hg (by omega), hm, hm2⟩ (by assumption)
  · walk_at "go"
    refine hQ _ _ _ _ _ ?_ ?_ (by assumption)
    · exact ⟨Int.emod_nonneg _ (by omega), Int.emod_lt_of_pos _ hn.1⟩
    · exact ⟨hg, Int.emod_nonneg _ (by omega), Int.lt_trans (Int.emod_lt_of_pos _ (by omega)) (by omega)⟩
theorem ok__law_take {P : Program} {w : World} {K : PySem.W.Frag} {mg : Str → Option Value} {base : Heap} (T : Txt K mg) :
    OkD P w K mg base CX0 1 (He.ga K "_law_take") ["_law_bag_here", "_law_many"] (sp__law_take K) := by
  obtain ⟨fd, F⟩ := T.f__law_take
  exact ⟨⟨fd, F.ok sc__law_take (fun vs H Q E h => len2 h) fun cdv A outer s H vs Q E hr h => ⟨t__law_take K, PSs.nox (pss_cons (ps_if (pt_cmpR ok_gt (pe_ix ok_ix (pv 0) pe_int (fun _ _ => rfl)) pe_int (nomark _)) (pss_cons (pset 2 sc__law_take.nd (pe_op ok_mod (pe_callTy ok_int rfl T.n_int (by decide +kernel) (pa_cons (pe_ix ok_ix (pv 0) pe_int (fun _ _ => rfl)) pa_nil)) (pv 1)))
    (pss_cons (ps_asg (pe_op ok_div (pe_ix ok_ix (pv 0) pe_int (fun _ _ => rfl)) (pv 1)) (pg_sub (pv 0) pe_int set_list))
    (pss_one (ps_ret (pv 2))))) pss_nil)
    (pss_cons (ps_asg (pe_op ok_add (pe_ix ok_ix (pv 0) pe_int (fun _ _ => rfl)) pe_int) (pg_sub (pv 0) pe_int set_list))
    (pss_cons (ps_asg (pe_op ok_mod (pe_callTy ok_int rfl T.n_int (by decide +kernel) (pa_cons (pe_op ok_add (pe_op ok_add (pe_op ok_mul (pe_ix ok_ix (pv 0) pe_int (fun _ _ => rfl)) pe_int) (pe_op ok_mul pe_int (pe_ix ok_ix (pv 0) pe_int (fun _ _ => rfl)))) pe_int) pa_nil)) pe_int) (pg_sub (pv 0) pe_int set_list))
    (pss_one (ps_ret (pe_op ok_mod (pe_op ok_mod (pe_callTy ok_int rfl T.n_int (by decide +kernel) (pa_cons (pe_op ok_pow (pe_op ok_div (pe_ix ok_ix (pv 0) pe_int (fun _ _ => rfl)) pe_int) pe_int) pa_nil)) pe_int) (pv 1))))))), c__law_take T h⟩, F.bindsN fun _ _ _ _ _ _ us hl => match us, hl with | [_, _], _ => rfl, isFd_of F⟩, F.kp⟩

abbrev sp__law_pick (K : PySem.W.Frag) : Sp := Sp2 fun x y H Q _ => ∃ (K0 : Hp) (L : Ow) (f : HO → Ow) (b a : Addr) (g m c : Int) (xs : List V), x = .ref b ∧ y = .ref a ∧ Own K0 L H ∧ Sel L b (BagO g m c) f ∧ BagOk g m c ∧ (0 < xs.length ∧ xs.length ≤ 1000) ∧
  (∀ z H', Own K0 (f z) H' → SqL K H' a xs) ∧ SqL K H a xs ∧ ∀ v g' m' c' H', v ∈ xs → BagOk g' m' c' → Own K0 (f (BagO g' m' c')) H' → Q v H'
theorem u_pick {K : PySem.W.Frag} {K0 : Hp} {L : Ow} {f : HO → Ow} {b a : Addr} {g m c : Int} {xs : List V} {H : Hp} {Q : VK} {E : XK} (w : Own K0 L H) (s : Sel L b (BagO g m c) f) (ok : BagOk g m c) (hs : SqL K H a xs) (hs' : ∀ z H', Own K0 (f z) H' → SqL K H' a xs) (hn : 0 < xs.length ∧ xs.length ≤ 1000)
    (k : ∀ v g' m' c' H', v ∈ xs → BagOk g' m' c' → Own K0 (f (BagO g' m' c')) H' → Q v H') : sp__law_pick K [.ref b, .ref a] H Q E := ⟨K0, L, f, b, a, g, m, c, xs, rfl, rfl, w, s, ok, hn, hs', hs, k⟩
def t__law_pick (K : PySem.W.Frag) : TS :=
  (tRet (tOp (kIx K) (tVar 1) (tCall (sp__law_take K) [] E0 (tCons (tVar 0) (tCons (tCB (kLen K) (tCons (tVar 1) tNil)) tNil)))))

theorem c__law_pick {K : PySem.W.Frag} {mg : Str → Option Value} {vs : List V} {H : Hp} {Q : VK} {E : XK} (T : Txt K mg) (h : sp__law_pick K vs H Q E) : t__law_pick K { nx := fun _ H1 => Q .non H1, rt := Q } (start ["_law_bag_here", "_law_some"] vs) H := by
  obtain ⟨_, _, rfl, K0, L, f, b, a, g, m, c, xs, rfl, rfl, w, s, ok, hn, hs', hs, hQ⟩ := sp2 h
  unfold t__law_pick
  walk_at "go"
  refine g_lenL hs ?_
  walk_at "go"
  refine u_take w s ok (by omega) fun d g' m' c' H' hd ok' w' => ?_
  obtain ⟨v, hv, hm⟩ := atI_mem hd.1 hd.2
  refine g_ixL (hs' _ _ w') hv ?_
  walk_at "go"
  exact hQ v g' m' c' H' hm ok' w'
theorem ok__law_pick {P : Program} {w : World} {K : PySem.W.Frag} {mg : Str → Option Value} {base : Heap} (T : Txt K mg) (D__law_take : OkD P w K mg base CX0 1 (He.ga K "_law_take") ["_law_bag_here", "_law_many"] (sp__law_take K)) :
    OkD P w K mg base CX0 2 (He.ga K "_law_pick") ["_law_bag_here", "_law_some"] (sp__law_pick K) := by
  obtain ⟨fd, F⟩ := T.f__law_pick
  exact ⟨⟨fd, F.ok sc__law_pick (fun vs H Q E h => len2 h) fun cdv A outer s H vs Q E hr h => ⟨t__law_pick K, PSs.nox (pss_one (ps_ret (pe_ix ok_ix (pv 1) (pe_callD D__law_take (hr.mono (by decide)) rfl T.g__law_take pass0 (pa_cons (pv 0) (pa_cons (pe_callB ok_len rfl T.n_len (by decide +kernel) (pa_cons (pv 1) pa_nil)) pa_nil))) (fun _ _ => rfl)))), c__law_pick T h⟩, F.bindsN fun _ _ _ _ _ _ us hl => match us, hl with | [_, _], _ => rfl, isFd_of F⟩, F.kp⟩

end Wf

set_option Elab.async false
set_option linter.all false
set_option maxRecDepth 100000
set_option maxHeartbeats 4000000
namespace Wf
open PySem PySem.Spec PyProof.Rows L2 TL
/-! ### own tactics -/
local macro_rules | `(tactic| walk_at "sel") => `(tactic| first | exact Sel.here | assumption | exact Sel.again (by assumption) _ | (refine Sel.there ?_; walk_at "sel"))
local macro_rules | `(tactic| walk_at "know") => `(tactic| first | assumption | exact (by assumption : Same _ _) _ _ (by walk_at "know"))
local macro_rules | `(tactic| walk_at "at") => `(tactic| first | exact Own.at_ (by assumption) (by walk_at "sel") | exact Own.know (by assumption) (by walk_at "know"))
local macro_rules | `(tactic| walk_at "sql") => `(tactic| first | assumption | exact SqL.of (by walk_at "at") | exact Own.sqL (by assumption) (by assumption))
local macro_rules | `(tactic| walk_at "sqt") => `(tactic| first | assumption | exact SqT.of (by walk_at "at") | exact Own.sqT (by assumption) (by assumption))
local macro_rules | `(tactic| walk_at "num") => `(tactic| first | omega | exact Or.inl (by omega) | exact Or.inr (by omega) | decide)
local macro_rules | `(tactic| walk_at "st1") => `(tactic| first
  | with_reducible refine g_asg ?_ | with_reducible refine g_name ?_ | with_reducible refine g_op ?_ | with_reducible refine g_var (by with_unfolding_all rfl) ?_ | with_reducible refine g_c ?_
  | with_reducible refine g_cons ?_ | with_reducible refine g_nil ?_ | with_reducible refine g_ret ?_ | with_reducible refine g_next ?_ | with_reducible refine g_drop ?_ | with_reducible refine g_ifS ?_ | with_reducible refine g_test ?_ | with_reducible refine g_B ?_ | with_reducible refine g_kTest ?_
  | with_reducible refine g_ifT (by with_unfolding_all rfl) ?_ | with_reducible refine g_ifF (by with_unfolding_all rfl) ?_
  | with_reducible refine g_and ?_ | with_reducible refine g_or ?_ | with_reducible refine g_not ?_ | with_reducible refine g_andV ?_ | with_reducible refine g_orV ?_ | with_reducible refine g_notV ?_ | with_reducible refine g_kNotV ?_ | with_reducible refine g_if ?_
  | with_reducible refine g_cb ?_ | with_reducible refine g_call ?_ | with_reducible refine g_kCall ?_ | with_reducible refine g_lst ?_ | with_reducible refine g_tup ?_ | with_reducible refine g_un ?_
  | with_reducible refine g_kLst (by assumption) (by with_unfolding_all rfl) (fun _ _ _ => ?_) | with_reducible refine g_kTup (by assumption) (by with_unfolding_all rfl) (fun _ _ _ => ?_)
  | with_reducible refine g_addI ?_ | with_reducible refine g_subI ?_ | with_reducible refine g_ltI ?_ | with_reducible refine g_leI ?_ | with_reducible refine g_gtI ?_ | with_reducible refine g_geI ?_ | with_reducible refine g_eqI ?_ | with_reducible refine g_eqS ?_ | with_reducible refine g_eqB ?_
  | with_reducible refine g_neI ?_ | with_reducible refine g_neS ?_ | with_reducible refine g_neB ?_
  | with_reducible refine g_mulI (by with_unfolding_all walk_at "num") ?_ | with_reducible refine g_divI (by with_unfolding_all walk_at "num") ?_ | with_reducible refine g_modI (by with_unfolding_all walk_at "num") ?_ | with_reducible refine g_powI (by with_unfolding_all walk_at "num") ?_ | with_reducible refine g_int ?_ | with_reducible refine g_abs ?_ | with_reducible refine g_min2 ?_ | with_reducible refine g_max2 ?_
  | with_reducible refine g_addS (by with_unfolding_all walk_at "num") ?_ | with_reducible refine g_lenS (by with_unfolding_all walk_at "num") ?_
  | with_reducible refine g_bm ?_ | with_reducible refine g_kBMs ?_ | with_reducible refine g_starts ?_ | with_reducible refine g_sl ?_ | with_reducible refine g_noPart ?_ | with_reducible refine g_part ?_ | with_reducible refine g_kPart ?_
  | with_reducible refine g_setL ?_ | with_reducible refine g_gCons ?_ | with_reducible refine g_gNil ?_ | with_reducible refine g_tupT (by with_unfolding_all walk_at "sqt") (by with_unfolding_all rfl) ?_
  | with_reducible refine g_ixL (by with_unfolding_all walk_at "sql") (by with_unfolding_all rfl) ?_ | with_reducible refine g_ixT (by with_unfolding_all walk_at "sqt") (by with_unfolding_all rfl) ?_
  | with_reducible refine g_rSetL (by assumption) (by with_unfolding_all walk_at "sel") (by with_unfolding_all rfl) (fun _ _ => ?_)
  | with_reducible refine g_lcL ?_ | with_reducible refine g_lcT ?_ | with_reducible refine g_lcR ?_ | with_reducible refine g_forL ?_ | with_reducible refine g_forT ?_ | with_reducible refine g_forR ?_ | with_reducible refine g_forS ?_
  | with_reducible refine g_kTg (by with_unfolding_all rfl) ?_ | with_reducible refine g_yes ?_ | with_reducible refine g_kTsT (by with_unfolding_all rfl) ?_ | with_reducible refine g_kTsF (by with_unfolding_all rfl) ?_
  | with_reducible refine g_aug (by with_unfolding_all rfl) ?_ | with_reducible refine g_ipI ?_
  | with_reducible refine g_whT (by with_unfolding_all rfl) ?_ | with_reducible refine g_whF (by with_unfolding_all rfl) ?_
  | with_reducible refine g_break ?_ | with_reducible refine g_cont ?_ | with_reducible refine g_retN ?_
  | with_reducible refine g_ifET (by with_unfolding_all rfl) ?_ | with_reducible refine g_ifEF (by with_unfolding_all rfl) ?_
  | with_reducible refine g_kCallN (by with_unfolding_all rfl) (by with_unfolding_all rfl) ?_ | with_reducible refine g_callN ?_)
local macro_rules | `(tactic| walk_at "go1") => `(tactic| first | with_reducible refine g_seq ?_ | walk_at "st1")
local macro_rules | `(tactic| walk_at "go") => `(tactic| repeat' (walk_at "go1"))
local macro_rules | `(tactic| walk_at "upto") => `(tactic| repeat' (walk_at "st1"))
local macro_rules | `(tactic| walk_at "pure") => `(tactic| (first
  | with_reducible apply g_kOrVP | with_reducible apply g_kAndVP | with_reducible apply g_orP | with_reducible apply g_andP); (· intro _ hq; walk_at "go"; exact hq))


theorem FrAt.mono {K : PySem.W.Frag} {K0 K1 : Hp} {v : V} {fr : Frm} (s : Same K0 K1) (h : FrAt K K0 v fr) : FrAt K K1 v fr := let ⟨p, e, q⟩ := h; ⟨p, e, sqT_mono s q⟩
theorem FrsAt.mono {K : PySem.W.Frag} {K0 K1 : Hp} {vs : List V} {frs : List Frm} (s : Same K0 K1) (h : FrsAt K K0 vs frs) : FrsAt K K1 vs frs :=
  ⟨h.len, fun i fr e => let ⟨v, a, b⟩ := h.at_ i fr e; ⟨v, a, b.mono s⟩⟩
theorem FrsAt.snoc {K : PySem.W.Frag} {K0 : Hp} {vs : List V} {frs : List Frm} {v : V} {fr : Frm} (h : FrsAt K K0 vs frs) (hv : FrAt K K0 v fr) : FrsAt K K0 (vs ++ [v]) (frs ++ [fr]) := by
  refine ⟨by rw [List.length_append, List.length_append, h.len]; rfl, fun i x e => ?_⟩
  by_cases lt : i < frs.length
  · rw [List.getElem?_append_left lt] at e
    obtain ⟨v', a, b⟩ := h.at_ i x e
    exact ⟨v', by rw [List.getElem?_append_left (by rw [h.len]; exact lt)]; exact a, b⟩
  · rw [List.getElem?_append_right (by omega)] at e
    rw [List.getElem?_append_right (by rw [h.len]; omega), h.len]
    have : i - frs.length = 0 := by
      cases q : i - frs.length with
      | zero => rfl
      | succ n => rw [q] at e; simp at e
    rw [this] at e ⊢
    simp at e
    subst e
    exact ⟨v, rfl, hv⟩
theorem FrsAt.nil {K : PySem.W.Frag} {K0 : Hp} : FrsAt K K0 [] [] := ⟨rfl, fun i fr e => by simp at e⟩
def FrOk (frs : List Frm) : Prop := ∀ fr ∈ frs, SOk fr.1
theorem dpFr {K : PySem.W.Frag} {H : Hp} {v : V} {fr : Frm} (h : FrAt K H v fr) : Dp K H v (.tuple [.str fr.1, .int fr.2]) := by
  obtain ⟨p, rfl, h⟩ := h
  exact .tup h (.cons (.str _) (.cons (.int _) .nil))
theorem lay_fr {fr : Frm} (h : SOk fr.1) : PyData.canLay0 (.tuple [.str fr.1, .int fr.2]) = true := by
  show (PyData.strOk fr.1 && (true && true)) = true
  rw [h.2]; rfl
theorem shaped_fr {fr : Frm} (h : SOk fr.1) : SeqAt.shaped (.tuple [.str fr.1, .int fr.2]) = true := by
  unfold SeqAt.shaped
  rw [lay_fr h]; rfl
abbrev frD (fr : Frm) : PyData := .tuple [.str fr.1, .int fr.2]
theorem FrsAt.tail {K : PySem.W.Frag} {K0 : Hp} {v : V} {vs : List V} {fr : Frm} {frs : List Frm} (h : FrsAt K K0 (v :: vs) (fr :: frs)) : FrAt K K0 v fr ∧ FrsAt K K0 vs frs := by
  refine ⟨?_, by have := h.len; simp at this; exact this, fun i x e => h.at_ (i + 1) x e⟩
  obtain ⟨v', h1, h2⟩ := h.at_ 0 fr rfl
  cases h1
  exact h2
theorem dpFrs {K : PySem.W.Frag} {H : Hp} : ∀ {frs : List Frm} {vs : List V}, FrsAt K H vs frs → DpAll K H vs (frs.map frD)
  | [], [], _ => .nil
  | [], v :: vs, h => by have := h.len; simp at this
  | fr :: frs, [], h => by have := h.len; simp at this
  | fr :: frs, v :: vs, h => .cons (dpFr h.tail.1) (dpFrs h.tail.2)
theorem lay_frs : ∀ {frs : List Frm}, FrOk frs → PyData.canLayAll0 (frs.map frD) = true ∧ PyData.depthAll (frs.map frD) ≤ 1
  | [], _ => ⟨rfl, Nat.zero_le _⟩
  | fr :: frs, h => by
    obtain ⟨h1, h2⟩ := lay_frs (frs := frs) fun x hx => h x (List.mem_cons_of_mem _ hx)
    refine ⟨?_, ?_⟩
    · show (PyData.canLay0 (frD fr) && PyData.canLayAll0 (frs.map frD)) = true
      rw [h1, lay_fr (h fr List.mem_cons_self)]; rfl
    · show max 1 (PyData.depthAll (frs.map frD)) ≤ 1
      omega
theorem shaped_frs {frs : List Frm} (h : FrOk frs) : SeqAt.shaped (.list (frs.map frD)) = true := by
  obtain ⟨h1, h2⟩ := lay_frs h
  unfold SeqAt.shaped
  rw [show PyData.canLay0 (.list (frs.map frD)) = true from h1, Bool.true_and]
  have : PyData.depth (.list (frs.map frD)) ≤ 2 := by
    show PyData.depthAll (frs.map frD) + 1 ≤ 2
    omega
  exact decide_eq_true (by omega)
theorem dpStrs {K : PySem.W.Frag} {H : Hp} : ∀ ps : List Str, DpAll K H (ps.map V.str) (ps.map PyData.str)
  | [] => .nil
  | p :: ps => .cons (.str p) (dpStrs ps)
theorem shapedStrs {ps : List Str} (h : ∀ p ∈ ps, SOk p) : SeqAt.shaped (.tuple (ps.map PyData.str)) = true := by
  have : ∀ ps : List Str, (∀ p ∈ ps, SOk p) → PyData.canLayAll0 (ps.map PyData.str) = true ∧ PyData.depthAll (ps.map PyData.str) ≤ 0 := by
    intro ps
    induction ps with
    | nil => exact fun _ => ⟨rfl, Nat.le_refl _⟩
    | cons p ps ih =>
      intro h
      obtain ⟨h1, h2⟩ := ih fun q hq => h q (List.mem_cons_of_mem _ hq)
      refine ⟨?_, ?_⟩
      · show (PyData.canLay0 (.str p) && PyData.canLayAll0 (ps.map PyData.str)) = true
        rw [h1, show PyData.canLay0 (.str p) = true from (h p List.mem_cons_self).2]; rfl
      · show max (PyData.depth (.str p)) (PyData.depthAll (ps.map PyData.str)) ≤ 0
        exact Nat.max_le.mpr ⟨Nat.le_refl _, h2⟩
  obtain ⟨h1, h2⟩ := this ps h
  unfold SeqAt.shaped
  rw [show PyData.canLay0 (.tuple (ps.map PyData.str)) = true from h1]
  have : PyData.depth (.tuple (ps.map PyData.str)) ≤ 1 := by
    show PyData.depthAll (ps.map PyData.str) + 1 ≤ 1
    omega
  rw [Bool.true_and]
  exact decide_eq_true (by omega)
theorem shapedE : SeqAt.shaped (.tuple []) = true := by decide
theorem eqvE (ps : List Str) : PyData.eqv (.tuple (ps.map PyData.str)) (.tuple []) = decide (ps = []) := by
  cases ps with
  | nil => rfl
  | cons p ps => rfl
theorem eqv_fr (a b : Frm) : PyData.eqv (frD a) (frD b) = decide (a = b) := by
  show (decide (a.1 = b.1) && (decide (a.2 = b.2) && true)) = _
  obtain ⟨a1, a2⟩ := a
  obtain ⟨b1, b2⟩ := b
  rw [Bool.and_true, Bool.eq_iff_iff]
  simp

/-! ### what is due: the mathematics -/
def sysF : Frm := ("sys", 1)
def restM (frs : List Frm) (ps : List Str) : List Frm := (frs.drop 1).filter fun fr => !skipped ps fr
def dueM (frs : List Frm) (lev : Nat) (ps : List Str) : Frm :=
  if lev2 ps lev = 1 ∨ (∃ fr, frs[0]? = some fr ∧ inside fr.1 "importlib" = true) then ((frs ++ List.replicate 30 sysF)[lev2 ps lev - 1]?).getD sysF
  else ((restM frs ps ++ List.replicate 30 sysF)[lev2 ps lev - 2]?).getD sysF
theorem pad_get {l : List Frm} {i : Nat} : ((l ++ List.replicate 30 sysF)[i]?).getD sysF = (l[i]?).getD sysF := by
  by_cases lt : i < l.length
  · rw [List.getElem?_append_left lt]
  · rw [List.getElem?_append_right (by omega), List.getElem?_eq_none (l := l) (by omega), List.getElem?_replicate]
    split <;> rfl
theorem from_filter (frs : List Frm) (ps : List Str) : ∀ k : Nat, (fromK frs ps k = frs.length ∧ (frs.drop k).filter (fun fr => !skipped ps fr) = []) ∨
    ∃ fr, frs[fromK frs ps k]? = some fr ∧ (frs.drop k).filter (fun fr => !skipped ps fr) = fr :: (frs.drop (fromK frs ps k + 1)).filter (fun fr => !skipped ps fr) := by
  intro k
  by_cases lt : k < frs.length
  · have hfr : frs[k]? = some frs[k] := by simp [lt]
    rw [List.drop_eq_getElem_cons lt]
    cases s : skipped ps frs[k] with
    | true =>
      rw [List.filter_cons, s, fromK_skip hfr s]
      exact from_filter frs ps (k + 1)
    | false =>
      rw [List.filter_cons, s, fromK_stay hfr s]
      exact .inr ⟨_, hfr, rfl⟩
  · left
    exact ⟨fromK_end (by omega), by rw [List.drop_eq_nil_of_le (by omega)]; rfl⟩
termination_by k => frs.length - k
theorem steps_rest (frs : List Frm) (ps : List Str) : ∀ n : Nat, (frs.drop (stepsK frs ps n + 1)).filter (fun fr => !skipped ps fr) = (restM frs ps).drop n
  | 0 => rfl
  | n + 1 => by
    have ih := steps_rest frs ps n
    show (frs.drop (fromK frs ps (stepsK frs ps n + 1) + 1)).filter _ = _
    have e : (restM frs ps).drop (n + 1) = ((restM frs ps).drop n).drop 1 := by rw [List.drop_drop]
    rw [e, ← ih]
    rcases from_filter frs ps (stepsK frs ps n + 1) with ⟨h1, h2⟩ | ⟨fr, h1, h2⟩
    · rw [h1, List.drop_eq_nil_of_le (by omega), h2]; rfl
    · rw [h2]; rfl
theorem steps_get (frs : List Frm) (ps : List Str) (n : Nat) : frs[stepsK frs ps (n + 1)]? = (restM frs ps)[n]? := by
  have ih := steps_rest frs ps n
  have e : (restM frs ps)[n]? = ((restM frs ps).drop n)[0]? := by rw [List.getElem?_drop]; rfl
  rw [e, ← ih]
  show frs[fromK frs ps (stepsK frs ps n + 1)]? = _
  rcases from_filter frs ps (stepsK frs ps n + 1) with ⟨h1, h2⟩ | ⟨fr, h1, h2⟩
  · rw [h1, h2, List.getElem?_eq_none (Nat.le_refl _)]; rfl
  · rw [h1, h2]; rfl
theorem due_place (frs : List Frm) (lev : Nat) (ps : List Str) (h : 1 ≤ lev) : dueM frs lev ps = placeM frs lev ps := by
  have h2 : 1 ≤ lev2 ps lev := by unfold lev2; split <;> omega
  unfold dueM placeM placeIx
  by_cases c : lev2 ps lev = 1 ∨ ∃ fr, frs[0]? = some fr ∧ inside fr.1 "importlib" = true
  · rw [if_pos c, if_pos c, pad_get]; rfl
  · rw [if_neg c, if_neg c, pad_get]
    have : lev2 ps lev ≠ 1 := fun e => c (.inl e)
    obtain ⟨n, hn⟩ : ∃ n, lev2 ps lev = n + 2 := ⟨lev2 ps lev - 2, by omega⟩
    rw [hn]
    show ((restM frs ps)[n]?).getD sysF = (frs[stepsK frs ps (n + 1)]?).getD _
    rw [steps_get]; rfl

def mods : List Str := ["a", "a.b", "ab", "b", "main", "importlib", "importlib.util", "c"]
theorem mods_ok : ∀ s ∈ mods, SOk s := by unfold SOk; decide +kernel
theorem mods_int : ∀ s ∈ mods, inV (V.str s) [V.str "importlib", V.str "importlib.util"] = inside s "importlib" := by decide +kernel
/-- frames as they are drawn -/
structure Drn (frs : List Frm) (n : Nat) : Prop where
  ne : frs ≠ []
  len : frs.length ≤ n
  md : ∀ fr ∈ frs, fr.1 ∈ mods
  ln : ∀ (i : Nat) fr, frs[i]? = some fr → fr.2 = 100 + (i : Int)
abbrev sp__law_frames (K : PySem.W.Frag) : Sp := Sp2 fun x y H Q _ => ∃ (K0 : Hp) (L : Ow) (f : HO → Ow) (b : Addr) (g m c n : Int), x = .ref b ∧ y = .int n ∧ Own K0 L H ∧ Sel L b (BagO g m c) f ∧ BagOk g m c ∧ (0 < n ∧ n ≤ 1000) ∧
  ∀ p vs frs K1 g' m' c' H', Same K0 K1 → BagOk g' m' c' → Own K1 (f (BagO g' m' c')) H' → K1 p = some (.lst vs) → FrsAt K K1 vs frs → Drn frs n.toNat → Q (.ref p) H'
def t__law_frames (K : PySem.W.Frag) : TS :=
  (tSeq (tAsg (tLst (tCons (tC (.str "a")) (tCons (tC (.str "a.b")) (tCons (tC (.str "ab")) (tCons (tC (.str "b")) (tCons (tC (.str "main")) (tCons (tC (.str "importlib")) (tCons (tC (.str "importlib.util")) (tCons (tC (.str "c")) tNil))))))))) (gName 2))
    (tRet (tLc (iRng1 (tCons (tOp (kAdd K) (tC (.int 1)) (tCall (sp__law_take K) [] E0 (tCons (tVar 0) (tCons (tVar 1) tNil)))) tNil)) (gName 3) tYes (tTup (tCons (tCall (sp__law_pick K) [] E0 (tCons (tVar 0) (tCons (tVar 2) tNil))) (tCons (tOp (kAdd K) (tC (.int 100)) (tVar 3)) tNil))) [3])))

theorem c__law_frames {K : PySem.W.Frag} {mg : Str → Option Value} {vs : List V} {H : Hp} {Q : VK} {E : XK} (T : Txt K mg) (h : sp__law_frames K vs H Q E) : t__law_frames K { nx := fun _ H1 => Q .non H1, rt := Q } (start ["_law_bag_here", "_law_most", "_law_modules", "_law_turn"] vs) H := by
  obtain ⟨_, _, rfl, K0, L, f, b, g, m, c, n, rfl, rfl, w, s, ok, hn, hQ⟩ := sp2 h
  unfold t__law_frames
  walk_at "go"
  rename_i am H1 w1
  have s1 := Sel.there (x := (am, HO.lst (mods.map V.str))) s
  refine u_take w1 s1 ok hn fun d g1 m1 c1 H2 hd ok1 w2 => ?_
  walk_at "go"
  refine lc_R w2 (by omega) (fun i acc K' L' => ∃ g m c frs, L' = (am, HO.lst (mods.map V.str)) :: f (BagO g m c) ∧ BagOk g m c ∧ FrsAt K K' acc frs ∧ frs.length = i ∧ (∀ fr ∈ frs, fr.1 ∈ mods) ∧ (∀ (i : Nat) fr, frs[i]? = some fr → fr.2 = 100 + (i : Int))) ⟨g1, m1, c1, [], rfl, ok1, FrsAt.nil, rfl, fun _ h => (by cases h), fun i fr h => by simp at h⟩ ?_ (by omega) ?_
  · rintro D i acc K' L' H3 hi hl sm ⟨g2, m2, c2, frs, rfl, ok2, hf, hlen, hok, hln⟩ w3
    walk_at "go"
    refine u_pick w3 (Sel.there (Sel.there (s.again _))) ok2 (SqL.of (w3.at_ (.there .here))) (fun z H4 w4 => SqL.of (w4.at_ (.there .here))) (by decide) fun v g3 m3 c3 H4 hv ok3 w4 => ?_
    obtain ⟨md, hmd, rfl⟩ := List.mem_map.mp hv
    walk_at "go"
    rename_i p H6 w6
    have w7 := w6.freeze
    refine g_kEl w7 (sm.trans w6.same) hl (by omega) ⟨g3, m3, c3, frs ++ [(md, 100 + (i : Int))], rfl, ok3, (hf.mono w6.same).snoc ⟨p, rfl, SqT.of upd_same⟩, by rw [List.length_append, hlen]; rfl, ?_, ?_⟩
    · intro fr hfr
      rcases List.mem_append.mp hfr with h | h
      · exact hok fr h
      · rw [List.mem_singleton.mp h]
        exact hmd
    · intro j fr hj
      by_cases lt : j < frs.length
      · rw [List.getElem?_append_left lt] at hj
        exact hln j fr hj
      · rw [List.getElem?_append_right (by omega)] at hj
        have e := (List.getElem?_eq_some_iff.mp hj).1
        simp at e
        have : j = i := by omega
        subst this
        rw [show j - frs.length = 0 by omega] at hj
        cases hj
        rfl
  · rintro D acc K' L' H3 hl sm ⟨g2, m2, c2, frs, rfl, ok2, hf, hlen, hok, hln⟩ w3
    refine hQ D acc frs (upd K' D (.lst acc)) g2 m2 c2 H3 (sm.trans w3.same) ok2 w3.freeze.drop upd_same (hf.mono w3.same) ⟨?_, by omega, hok, hln⟩
    rintro rfl
    have : (1 + d).toNat = 0 := by rw [← hlen]; rfl
    omega
theorem ok__law_frames {P : Program} {w : World} {K : PySem.W.Frag} {mg : Str → Option Value} {base : Heap} (T : Txt K mg) (D__law_pick : OkD P w K mg base CX0 2 (He.ga K "_law_pick") ["_law_bag_here", "_law_some"] (sp__law_pick K)) (D__law_take : OkD P w K mg base CX0 1 (He.ga K "_law_take") ["_law_bag_here", "_law_many"] (sp__law_take K)) :
    OkD P w K mg base CX0 3 (He.ga K "_law_frames") ["_law_bag_here", "_law_most"] (sp__law_frames K) := by
  obtain ⟨fd, F⟩ := T.f__law_frames
  exact ⟨⟨fd, F.ok sc__law_frames (fun vs H Q E h => len2 h) fun cdv A outer s H vs Q E hr h => ⟨t__law_frames K, PSs.nox (pss_cons (pset 2 sc__law_frames.nd (pe_lst (pa_cons pe_str (pa_cons pe_str (pa_cons pe_str (pa_cons pe_str (pa_cons pe_str (pa_cons pe_str (pa_cons pe_str (pa_cons pe_str pa_nil))))))))))
    (pss_one (ps_ret (pe_lc (own := [("_law_turn", 3)]) rfl sc__law_frames.nd  (pi_range1 rfl T.n_range (pa_cons (pe_op ok_add pe_int (pe_callD D__law_take (hr.mono (by decide)) rfl T.g__law_take pass0 (pa_cons (pv 0) (pa_cons (pv 1) pa_nil)))) pa_nil)) (blkOk_by (own := [("_law_turn", 3)]) (N := ["_law_bag_here", "_law_most", "_law_modules", "_law_turn"]) (sc := defScope s__law_frames) (by decide +kernel)) (fun _ _ _ _ _ => (gn 3 sc__law_frames.nd)) (fun _ _ _ _ _ => pts_nil) (fun _ _ _ _ _ => (pe_tup (pa_cons (pe_callD D__law_pick (hr.mono (by decide)) rfl T.g__law_pick pass0 (pa_cons (pv 0) (pa_cons (pv 2) pa_nil))) (pa_cons (pe_op ok_add pe_int (pv 3)) pa_nil)))))))), c__law_frames T h⟩, F.bindsN fun _ _ _ _ _ _ us hl => match us, hl with | [_, _], _ => rfl, isFd_of F⟩, F.kp⟩

abbrev sp__law_is_internal (K : PySem.W.Frag) : Sp := Sp1 fun x H Q _ => ∃ (K0 : Hp) (L : Ow) (a : Addr) (fr : Frm), x = .ref a ∧ Own K0 L H ∧ SqT K K0 a [.str fr.1, .int fr.2] ∧ fr.1 ∈ mods ∧ ∀ H', Own K0 L H' → Q (.bl (inside fr.1 "importlib")) H'
def t__law_is_internal (K : PySem.W.Frag) : TS :=
  (tRet (tOp (kIn K) (tOp (kIx K) (tVar 0) (tC (.int 0))) (tLst (tCons (tC (.str "importlib")) (tCons (tC (.str "importlib.util")) tNil)))))

theorem c__law_is_internal {K : PySem.W.Frag} {mg : Str → Option Value} {vs : List V} {H : Hp} {Q : VK} {E : XK} (T : Txt K mg) (h : sp__law_is_internal K vs H Q E) : t__law_is_internal K { nx := fun _ H1 => Q .non H1, rt := Q } (start ["_law_frame"] vs) H := by
  obtain ⟨_, rfl, K0, L, a, fr, rfl, w, hs, hm, hQ⟩ := sp1 h
  unfold t__law_is_internal
  walk_at "go"
  rename_i p H1 w1
  refine g_inL (SqL.of (w1.at_ .here)) rfl rfl ?_
  rw [mods_int _ hm]
  exact hQ _ w1.drop
theorem ok__law_is_internal {P : Program} {w : World} {K : PySem.W.Frag} {mg : Str → Option Value} {base : Heap} (T : Txt K mg) :
    OkD P w K mg base CX0 1 (He.ga K "_law_is_internal") ["_law_frame"] (sp__law_is_internal K) := by
  obtain ⟨fd, F⟩ := T.f__law_is_internal
  exact ⟨⟨fd, F.ok sc__law_is_internal (fun vs H Q E h => len1 h) fun cdv A outer s H vs Q E hr h => ⟨t__law_is_internal K, PSs.nox (pss_one (ps_ret (pe_cmpR (ok_in hr.u65) (pe_ix ok_ix (pv 0) pe_int (fun _ _ => rfl)) (pe_lst (pa_cons pe_str (pa_cons pe_str pa_nil))) rfl))), c__law_is_internal T h⟩, F.bindsN fun _ _ _ _ _ _ us hl => match us, hl with | [_], _ => rfl, isFd_of F⟩, F.kp⟩

/-- frames that may be passed over are put in behind the first one -/
structure Mix (ps : List Str) (frs frs' : List Frm) : Prop where
  hd : frs'[0]? = frs[0]?
  rest : restM frs' ps = restM frs ps
  ok : FrOk frs'
  len : frs'.length ≤ frs.length + 4
abbrev sp__law_mixed (K : PySem.W.Frag) : Sp := Sp3 fun x y z H Q _ => ∃ (K0 : Hp) (L : Ow) (f : HO → Ow) (b a q : Addr) (g m c : Int) (vs : List V) (frs : List Frm) (ps : List Str), x = .ref b ∧ y = .ref a ∧ z = .ref q ∧ Own K0 L H ∧ Sel L b (BagO g m c) f ∧ BagOk g m c ∧
  SqL K K0 a vs ∧ FrsAt K K0 vs frs ∧ frs ≠ [] ∧ frs.length ≤ 100 ∧ FrOk frs ∧ SqT K K0 q (ps.map V.str) ∧ (∀ p ∈ ps, SOk p) ∧ ps.length ≤ 100 ∧
  ∀ p vs' frs' K1 g' m' c' H', Same K0 K1 → BagOk g' m' c' → Own K1 (f (BagO g' m' c')) H' → K1 p = some (.lst vs') → FrsAt K K1 vs' frs' → Mix ps frs frs' → Q (.ref p) H'
theorem mix_in {ps : List Str} {frs frs' : List Frm} {x : Frm} {i : Nat} (h : Mix ps frs frs') (hne : frs' ≠ []) (hx : skipped ps x = true) (hok : SOk x.1) : (frs'.take (i + 1) ++ [x] ++ frs'.drop (i + 1))[0]? = frs[0]? ∧ restM (frs'.take (i + 1) ++ [x] ++ frs'.drop (i + 1)) ps = restM frs ps ∧ FrOk (frs'.take (i + 1) ++ [x] ++ frs'.drop (i + 1)) := by
  cases frs' with
  | nil => exact absurd rfl hne
  | cons y l =>
    refine ⟨?_, ?_, ?_⟩
    · rw [← h.hd]; rfl
    · rw [← h.rest]
      show (List.drop 1 (y :: (l.take i ++ [x] ++ l.drop i))).filter _ = (List.drop 1 (y :: l)).filter _
      show (l.take i ++ [x] ++ l.drop i).filter _ = l.filter _
      rw [List.filter_append, List.filter_append, List.filter_cons, hx]
      show List.filter _ (List.take i l) ++ [] ++ _ = _
      rw [List.append_nil, ← List.filter_append, List.take_append_drop]
    · intro fr hfr
      rcases List.mem_append.mp hfr with h1 | h1
      · rcases List.mem_append.mp h1 with h2 | h2
        · exact h.ok fr (List.mem_of_mem_take h2)
        · rw [List.mem_singleton.mp h2]; exact hok
      · exact h.ok fr (List.mem_of_mem_drop h1)
theorem FrsAt.insert {K : PySem.W.Frag} {K0 : Hp} {vs : List V} {frs : List Frm} {v : V} {fr : Frm} (h : FrsAt K K0 vs frs) (hv : FrAt K K0 v fr) (i : Nat) : FrsAt K K0 (vs.take i ++ [v] ++ vs.drop i) (frs.take i ++ [fr] ++ frs.drop i) := by
  have h1 : FrsAt K K0 (vs.take i) (frs.take i) := ⟨by rw [List.length_take, List.length_take, h.len], fun j x e => by
    have lt : j < i := by have := (List.getElem?_eq_some_iff.mp e).1; rw [List.length_take] at this; omega
    rw [List.getElem?_take_of_lt lt] at e ⊢
    exact h.at_ j x e⟩
  have h2 : FrsAt K K0 (vs.drop i) (frs.drop i) := ⟨by rw [List.length_drop, List.length_drop, h.len], fun j x e => by
    rw [List.getElem?_drop] at e ⊢
    exact h.at_ _ x e⟩
  have h3 := h1.snoc hv
  refine ⟨by rw [List.length_append (as := _ ++ _), List.length_append (as := frs.take i ++ [fr]), h3.len, h2.len], fun j x e => ?_⟩
  by_cases lt : j < (frs.take i ++ [fr]).length
  · rw [List.getElem?_append_left lt] at e
    rw [List.getElem?_append_left (by rw [h3.len]; exact lt)]
    exact h3.at_ j x e
  · rw [List.getElem?_append_right (by omega)] at e
    rw [List.getElem?_append_right (by rw [h3.len]; omega), h3.len]
    exact h2.at_ _ x e
def t__law_mixed (K : PySem.W.Frag) : TS :=
  (tSeq (tAsg (tCB (kList K) (tCons (tVar 1) tNil)) (gName 3))
    (tSeq (tFor (iRng1 (tCons (tCall (sp__law_take K) [] E0 (tCons (tVar 0) (tCons (tC (.int 4)) tNil))) tNil)) (gName 4) (tSeq (tAsg (tTup (tCons (tCall (sp__law_pick K) [] E0 (tCons (tVar 0) (tCons (tOp (kAdd K) (tLst (tCons (tC (.str "importlib")) (tCons (tC (.str "importlib.util")) tNil))) (tCB (kList K) (tCons (tVar 2) tNil))) tNil))) (tCons (tOp (kAdd K) (tC (.int 500)) (tVar 4)) tNil))) (gName 5))
    (tDrop (tBM K "list" kInsert (tVar 3) (tCons (tOp (kAdd K) (tC (.int 1)) (tCall (sp__law_take K) [] E0 (tCons (tVar 0) (tCons (tCB (kLen K) (tCons (tVar 3) tNil)) tNil)))) (tCons (tVar 5) tNil))))))
    (tRet (tVar 3))))

theorem c__law_mixed {K : PySem.W.Frag} {mg : Str → Option Value} {vs : List V} {H : Hp} {Q : VK} {E : XK} (T : Txt K mg) (h : sp__law_mixed K vs H Q E) : t__law_mixed K { nx := fun _ H1 => Q .non H1, rt := Q } (start ["_law_bag_here", "_law_frames_here", "_law_passed", "_law_found", "_law_turn", "_law_extra"] vs) H := by
  obtain ⟨_, _, _, rfl, K0, L, f, b, a, q, g, m, c, vs, frs, ps, rfl, rfl, rfl, w, s, ok, ha, hf, hne, hlen, hok, hq, hps, hpl, hQ⟩ := sp3 h
  unfold t__law_mixed
  walk_at "go"
  refine g_listL w (w.sqL ha) fun l H1 w1 => ?_
  walk_at "go"
  refine u_take w1 (.there s) ok (by omega) fun d g1 m1 c1 H2 hd ok1 w2 => ?_
  walk_at "go"
  refine fo_R w2 (by omega) (fun i σ K' L' => (∃ g m c vs' frs', L' = (l, .lst vs') :: f (BagO g m c) ∧ BagOk g m c ∧ FrsAt K K' vs' frs' ∧ frs'[0]? = frs[0]? ∧ restM frs' ps = restM frs ps ∧ FrOk frs' ∧ frs'.length ≤ frs.length + i) ∧ ∃ z1 z2, σ = [some (.ref b), some (.ref a), some (.ref q), some (.ref l), z1, z2])
    ⟨⟨g1, m1, c1, vs, frs, rfl, ok1, hf, rfl, rfl, hok, by omega⟩, _, _, rfl⟩ ?_ ?_
  · rintro i σ K' L' H3 hi sm ⟨⟨g2, m2, c2, vs', frs', rfl, ok2, hf', hh, hr, hok', hl'⟩, z1, z2, rfl⟩ w3
    walk_at "go"
    rename_i l1 H4 w4
    have hq' := sqT_mono sm hq
    refine g_listT w4 (w4.sqT hq') fun l2 H5 w5 => ?_
    walk_at "go"
    refine g_addL w5 (w5.at_ (.there .here)) (w5.at_ .here) (by simp; omega) fun l3 H6 w6 => ?_
    walk_at "go"
    have w7 := w6.drop2.drop2
    have esc : ([V.str "importlib", V.str "importlib.util"] ++ ps.map V.str) = ((["importlib", "importlib.util"] : List Str) ++ ps).map V.str := by rw [List.map_append]; rfl
    rw [esc] at w7
    refine u_pick w7 (.there (.there (s.again _))) ok2 (SqL.of (w7.at_ .here)) (fun z H4 w4 => SqL.of (w4.at_ .here)) (by simp; omega) fun v g3 m3 c3 H7 hv ok3 w8 => ?_
    obtain ⟨md, hmd, rfl⟩ := List.mem_map.mp hv
    have hsk : SOk md ∧ ∀ z, skipped ps (md, z) = true := by
      rcases List.mem_append.mp hmd with h | h
      · have : ∀ s ∈ (["importlib", "importlib.util"] : List Str), SOk s ∧ inside s "importlib" = true := by unfold SOk; decide +kernel
        obtain ⟨h1, h2⟩ := this md h
        exact ⟨h1, fun z => by unfold skipped; rw [h2]; rfl⟩
      · refine ⟨hps md h, fun z => ?_⟩
        unfold skipped
        rw [Bool.or_eq_true, List.any_eq_true]
        exact .inr ⟨md, h, by unfold inside; simp⟩
    walk_at "go"
    rename_i p H8 w9
    have w10 := w9.drop2.freeze
    have s10 := w9.drop2.same
    have hp10 : FrAt K (upd K' p (.tup [V.str md, V.int (500 + (i : Int))])) (.ref p) (md, 500 + (i : Int)) := ⟨p, rfl, SqT.of upd_same⟩
    have hlv : vs'.length = frs'.length := hf'.len
    generalize upd K' p (.tup [V.str md, V.int (500 + (i : Int))]) = K9 at w10 s10 hp10
    refine g_kBMl (SqL.of (w10.at_ .here)) ?_
    walk_at "go"
    refine g_lenL (SqL.of (w10.at_ .here)) ?_
    walk_at "go"
    have hne' : frs' ≠ [] := by
      rintro rfl
      have := congrArg Option.isSome hh
      cases frs with
      | nil => exact hne rfl
      | cons _ _ => cases this
    have hpos : 0 < frs'.length := List.length_pos_iff.mpr hne'
    refine u_take w10 (.there (s.again _)) ok3 (by omega) fun d2 g4 m4 c4 H9 hd2 ok4 w11 => ?_
    walk_at "go"
    obtain ⟨j, hj⟩ : ∃ j : Nat, 1 + d2 = ((j + 1 : Nat) : Int) := ⟨d2.toNat, by omega⟩
    rw [hj]
    refine g_insert w11 .here (by omega) (by omega) fun H10 w12 => ?_
    walk_at "go"
    obtain ⟨m1', m2', m3'⟩ := mix_in (i := j) (x := (md, 500 + (i : Int))) ⟨hh, hr, hok', by omega⟩ hne' (hsk.2 _) hsk.1
    refine g_foInv w12 (sm.trans s10) ⟨⟨g4, m4, c4, _, frs'.take (j + 1) ++ [(md, 500 + (i : Int))] ++ frs'.drop (j + 1), rfl, ok4, ?_, m1', m2', m3', ?_⟩, _, _, rfl⟩
    · exact (hf'.mono s10).insert hp10 (j + 1)
    · rw [List.length_append, List.length_append, List.length_take, List.length_drop]
      simp
      omega
  · rintro σ K' L' H3 sm ⟨⟨g2, m2, c2, vs', frs', rfl, ok2, hf', hh, hr, hok', hl'⟩, z1, z2, rfl⟩ w3
    walk_at "go"
    refine hQ l vs' frs' (upd K' l (.lst vs')) g2 m2 c2 H3 (sm.trans w3.same) ok2 w3.freeze upd_same (hf'.mono w3.same) ⟨hh, hr, hok', by omega⟩
theorem ok__law_mixed {P : Program} {w : World} {K : PySem.W.Frag} {mg : Str → Option Value} {base : Heap} (T : Txt K mg) (D__law_pick : OkD P w K mg base CX0 2 (He.ga K "_law_pick") ["_law_bag_here", "_law_some"] (sp__law_pick K)) (D__law_take : OkD P w K mg base CX0 1 (He.ga K "_law_take") ["_law_bag_here", "_law_many"] (sp__law_take K)) :
    OkD P w K mg base CX0 3 (He.ga K "_law_mixed") ["_law_bag_here", "_law_frames_here", "_law_passed"] (sp__law_mixed K) := by
  obtain ⟨fd, F⟩ := T.f__law_mixed
  exact ⟨⟨fd, F.ok sc__law_mixed (fun vs H Q E h => len3 h) fun cdv A outer s H vs Q E hr h => ⟨t__law_mixed K, PSs.nox (pss_cons (pset 3 sc__law_mixed.nd (pe_callTy ok_list rfl T.n_list (by decide +kernel) (pa_cons (pv 1) pa_nil)))
    (pss_cons (ps_for PassesOwn.never rfl (pi_range1 rfl T.n_range (pa_cons (pe_callD D__law_take (hr.mono (by decide)) rfl T.g__law_take pass0 (pa_cons (pv 0) (pa_cons pe_int pa_nil))) pa_nil)) (gn 4 sc__law_mixed.nd) (pss_cons (pset 5 sc__law_mixed.nd (pe_tup (pa_cons (pe_callD D__law_pick (hr.mono (by decide)) rfl T.g__law_pick pass0 (pa_cons (pv 0) (pa_cons (pe_op ok_add (pe_lst (pa_cons pe_str (pa_cons pe_str pa_nil))) (pe_callTy ok_list rfl T.n_list (by decide +kernel) (pa_cons (pv 2) pa_nil))) pa_nil))) (pa_cons (pe_op ok_add pe_int (pv 4)) pa_nil))))
    (pss_one (ps_expr (pe_bm PySem.F.plainAttrs_list PySem.F.slot_list_insert PySem.F.type_list_insert ok_insert (pv 3) (pa_cons (pe_op ok_add pe_int (pe_callD D__law_take (hr.mono (by decide)) rfl T.g__law_take pass0 (pa_cons (pv 0) (pa_cons (pe_callB ok_len rfl T.n_len (by decide +kernel) (pa_cons (pv 3) pa_nil)) pa_nil)))) (pa_cons (pv 5) pa_nil)))))))
    (pss_one (ps_ret (pv 3))))), c__law_mixed T h⟩, F.bindsN fun _ _ _ _ _ _ us hl => match us, hl with | [_, _, _], _ => rfl, isFd_of F⟩, F.kp⟩

end Wf

set_option Elab.async false
set_option linter.all false
set_option maxRecDepth 100000
set_option maxHeartbeats 4000000
namespace Wf
open PySem PySem.Spec PyProof.Rows L2 TL
/-! ### own tactics -/
local macro_rules | `(tactic| walk_at "sel") => `(tactic| first | exact Sel.here | assumption | exact Sel.again (by assumption) _ | (refine Sel.there ?_; walk_at "sel"))
local macro_rules | `(tactic| walk_at "know") => `(tactic| first | assumption | exact (by assumption : Same _ _) _ _ (by walk_at "know"))
local macro_rules | `(tactic| walk_at "at") => `(tactic| first | exact Own.at_ (by assumption) (by walk_at "sel") | exact Own.know (by assumption) (by walk_at "know"))
local macro_rules | `(tactic| walk_at "sql") => `(tactic| first | assumption | exact SqL.of (by walk_at "at") | exact Own.sqL (by assumption) (by assumption))
local macro_rules | `(tactic| walk_at "sqt") => `(tactic| first | assumption | exact SqT.of (by walk_at "at") | exact Own.sqT (by assumption) (by assumption))
local macro_rules | `(tactic| walk_at "num") => `(tactic| first | omega | exact Or.inl (by omega) | exact Or.inr (by omega) | decide)
local macro_rules | `(tactic| walk_at "st1") => `(tactic| first
  | with_reducible refine g_asg ?_ | with_reducible refine g_name ?_ | with_reducible refine g_op ?_ | with_reducible refine g_var (by with_unfolding_all rfl) ?_ | with_reducible refine g_c ?_
  | with_reducible refine g_cons ?_ | with_reducible refine g_nil ?_ | with_reducible refine g_ret ?_ | with_reducible refine g_next ?_ | with_reducible refine g_drop ?_ | with_reducible refine g_ifS ?_ | with_reducible refine g_test ?_ | with_reducible refine g_B ?_ | with_reducible refine g_kTest ?_
  | with_reducible refine g_ifT (by with_unfolding_all rfl) ?_ | with_reducible refine g_ifF (by with_unfolding_all rfl) ?_
  | with_reducible refine g_and ?_ | with_reducible refine g_or ?_ | with_reducible refine g_not ?_ | with_reducible refine g_andV ?_ | with_reducible refine g_orV ?_ | with_reducible refine g_notV ?_ | with_reducible refine g_kNotV ?_ | with_reducible refine g_if ?_
  | with_reducible refine g_cb ?_ | with_reducible refine g_call ?_ | with_reducible refine g_kCall ?_ | with_reducible refine g_lst ?_ | with_reducible refine g_tup ?_ | with_reducible refine g_un ?_
  | with_reducible refine g_kLst (by assumption) (by with_unfolding_all rfl) (fun _ _ _ => ?_) | with_reducible refine g_kTup (by assumption) (by with_unfolding_all rfl) (fun _ _ _ => ?_)
  | with_reducible refine g_addI ?_ | with_reducible refine g_subI ?_ | with_reducible refine g_ltI ?_ | with_reducible refine g_leI ?_ | with_reducible refine g_gtI ?_ | with_reducible refine g_geI ?_ | with_reducible refine g_eqI ?_ | with_reducible refine g_eqS ?_ | with_reducible refine g_eqB ?_
  | with_reducible refine g_neI ?_ | with_reducible refine g_neS ?_ | with_reducible refine g_neB ?_
  | with_reducible refine g_mulI (by with_unfolding_all walk_at "num") ?_ | with_reducible refine g_divI (by with_unfolding_all walk_at "num") ?_ | with_reducible refine g_modI (by with_unfolding_all walk_at "num") ?_ | with_reducible refine g_powI (by with_unfolding_all walk_at "num") ?_ | with_reducible refine g_int ?_ | with_reducible refine g_abs ?_ | with_reducible refine g_min2 ?_ | with_reducible refine g_max2 ?_
  | with_reducible refine g_addS (by with_unfolding_all walk_at "num") ?_ | with_reducible refine g_lenS (by with_unfolding_all walk_at "num") ?_
  | with_reducible refine g_bm ?_ | with_reducible refine g_kBMs ?_ | with_reducible refine g_starts ?_ | with_reducible refine g_sl ?_ | with_reducible refine g_noPart ?_ | with_reducible refine g_part ?_ | with_reducible refine g_kPart ?_
  | with_reducible refine g_setL ?_ | with_reducible refine g_gCons ?_ | with_reducible refine g_gNil ?_ | with_reducible refine g_tupT (by with_unfolding_all walk_at "sqt") (by with_unfolding_all rfl) ?_
  | with_reducible refine g_ixL (by with_unfolding_all walk_at "sql") (by with_unfolding_all rfl) ?_ | with_reducible refine g_ixT (by with_unfolding_all walk_at "sqt") (by with_unfolding_all rfl) ?_
  | with_reducible refine g_rSetL (by assumption) (by with_unfolding_all walk_at "sel") (by with_unfolding_all rfl) (fun _ _ => ?_)
  | with_reducible refine g_lcL ?_ | with_reducible refine g_lcT ?_ | with_reducible refine g_lcR ?_ | with_reducible refine g_forL ?_ | with_reducible refine g_forT ?_ | with_reducible refine g_forR ?_ | with_reducible refine g_forS ?_
  | with_reducible refine g_kTg (by with_unfolding_all rfl) ?_ | with_reducible refine g_yes ?_ | with_reducible refine g_kTsT (by with_unfolding_all rfl) ?_ | with_reducible refine g_kTsF (by with_unfolding_all rfl) ?_
  | with_reducible refine g_aug (by with_unfolding_all rfl) ?_ | with_reducible refine g_ipI ?_
  | with_reducible refine g_whT (by with_unfolding_all rfl) ?_ | with_reducible refine g_whF (by with_unfolding_all rfl) ?_
  | with_reducible refine g_break ?_ | with_reducible refine g_cont ?_ | with_reducible refine g_retN ?_
  | with_reducible refine g_ifET (by with_unfolding_all rfl) ?_ | with_reducible refine g_ifEF (by with_unfolding_all rfl) ?_
  | with_reducible refine g_kCallN (by with_unfolding_all rfl) (by with_unfolding_all rfl) ?_ | with_reducible refine g_callN ?_)
local macro_rules | `(tactic| walk_at "go1") => `(tactic| first | with_reducible refine g_seq ?_ | walk_at "st1")
local macro_rules | `(tactic| walk_at "go") => `(tactic| repeat' (walk_at "go1"))
local macro_rules | `(tactic| walk_at "upto") => `(tactic| repeat' (walk_at "st1"))
local macro_rules | `(tactic| walk_at "pure") => `(tactic| (first
  | with_reducible apply g_kOrVP | with_reducible apply g_kAndVP | with_reducible apply g_orP | with_reducible apply g_andP); (· intro _ hq; walk_at "go"; exact hq))


/-! ### the mathematics -/
def HeadInt (frs : List Frm) : Prop := ∃ fr, frs[0]? = some fr ∧ inside fr.1 "importlib" = true
open Classical in
noncomputable def cand (frs : List Frm) (lev : Nat) (ps : List Str) : Option Frm := if lev2 ps lev = 1 ∨ HeadInt frs then frs[lev2 ps lev - 1]? else (restM frs ps)[lev2 ps lev - 2]?
theorem place_cand (frs : List Frm) (lev : Nat) (ps : List Str) (h : 1 ≤ lev) : placeM frs lev ps = (cand frs lev ps).getD sysF := by
  rw [← due_place frs lev ps h]
  unfold dueM cand HeadInt
  by_cases c : lev2 ps lev = 1 ∨ ∃ fr, frs[0]? = some fr ∧ inside fr.1 "importlib" = true
  · rw [if_pos c, if_pos c, pad_get]
  · rw [if_neg c, if_neg c, pad_get]
theorem cand_mem {frs : List Frm} {lev : Nat} {ps : List Str} {fr : Frm} (h : cand frs lev ps = some fr) : fr ∈ frs := by
  unfold cand at h
  split at h
  · exact List.mem_of_getElem? h
  · exact List.mem_of_mem_drop (List.mem_filter.mp (List.mem_of_getElem? h)).1
theorem cand_wide {frs ws : List Frm} (hne : frs ≠ []) (lev : Nat) (ps : List Str) : (∃ fr, cand frs lev ps = some fr ∧ cand (frs ++ ws) lev ps = some fr) ∨ (cand frs lev ps = none ∧ ∀ fr, cand (frs ++ ws) lev ps = some fr → fr ∈ ws) := by
  have h0 : (frs ++ ws)[0]? = frs[0]? := by
    cases frs with
    | nil => exact absurd rfl hne
    | cons _ _ => rfl
  have hi : HeadInt (frs ++ ws) ↔ HeadInt frs := by unfold HeadInt; rw [h0]
  have hr : restM (frs ++ ws) ps = restM frs ps ++ ws.filter fun fr => !skipped ps fr := by
    cases frs with
    | nil => exact absurd rfl hne
    | cons x l => exact List.filter_append ..
  have key : ∀ (a b : List Frm) (i : Nat), (∀ x ∈ b, x ∈ ws) → (∃ fr, a[i]? = some fr ∧ (a ++ b)[i]? = some fr) ∨ (a[i]? = none ∧ ∀ fr, (a ++ b)[i]? = some fr → fr ∈ ws) := by
    intro a b i hb
    by_cases lt : i < a.length
    · left
      exact ⟨a[i], by simp [lt], by rw [List.getElem?_append_left lt]; simp [lt]⟩
    · right
      refine ⟨List.getElem?_eq_none (by omega), fun fr h => ?_⟩
      rw [List.getElem?_append_right (by omega)] at h
      exact hb fr (List.mem_of_getElem? h)
  unfold cand
  by_cases c : lev2 ps lev = 1 ∨ HeadInt frs
  · rw [if_pos c, if_pos (c.imp id hi.mpr)]
    exact key _ _ _ fun x hx => hx
  · rw [if_neg c, if_neg (fun q => c (q.imp id hi.mp)), hr]
    exact key _ _ _ fun x hx => (List.mem_filter.mp hx).1
theorem cand_mix {ps : List Str} {frs frs' : List Frm} (h : Mix ps frs frs') {lev : Nat} (h1 : lev2 ps lev ≠ 1) (h2 : ¬ HeadInt frs) : cand frs' lev ps = cand frs lev ps := by
  have h3 : ¬ HeadInt frs' := by unfold HeadInt; rw [h.hd]; exact h2
  unfold cand
  rw [if_neg (fun q => q.elim h1 h3), if_neg (fun q => q.elim h1 h2), h.rest]
theorem skipped_line (ps : List Str) (m : Str) (l l' : Int) : skipped ps (m, l) = skipped ps (m, l') := rfl
def mv (k : Int) (fr : Frm) : Frm := (fr.1, fr.2 + k)
theorem rest_map (k : Int) (frs : List Frm) (ps : List Str) : restM (frs.map (mv k)) ps = (restM frs ps).map (mv k) := by
  unfold restM
  rw [← List.map_drop, List.filter_map]
  rfl
theorem cand_map (k : Int) (frs : List Frm) (lev : Nat) (ps : List Str) : cand (frs.map (mv k)) lev ps = (cand frs lev ps).map (mv k) := by
  have hi : HeadInt (frs.map (mv k)) ↔ HeadInt frs := by
    unfold HeadInt
    rw [List.getElem?_map]
    cases frs[0]? with
    | none => simp
    | some x => simp [mv]
  unfold cand
  by_cases c : lev2 ps lev = 1 ∨ HeadInt frs
  · rw [if_pos c, if_pos (c.imp id hi.mpr), List.getElem?_map]
  · rw [if_neg c, if_neg (fun q => c (q.imp id hi.mp)), rest_map, List.getElem?_map]
/-- the frames' lines rise -/
theorem drn_pair {frs : List Frm} {n : Nat} (h : Drn frs n) : frs.Pairwise fun a b => a.2 < b.2 := by
  rw [List.pairwise_iff_getElem]
  intro i j hi hj lt
  rw [h.ln i frs[i] (by simp [hi]), h.ln j frs[j] (by simp [hj])]
  omega
theorem rest_rise {frs : List Frm} {n : Nat} (h : Drn frs n) (ps : List Str) {i j : Nat} {a b : Frm} (hi : (restM frs ps)[i]? = some a) (hj : (restM frs ps)[j]? = some b) (lt : i < j) : a.2 < b.2 := by
  have hp : (restM frs ps).Pairwise fun a b => a.2 < b.2 := ((drn_pair h).sublist (List.drop_sublist _ _)).filter _
  obtain ⟨h1, e1⟩ := List.getElem?_eq_some_iff.mp hi
  obtain ⟨h2, e2⟩ := List.getElem?_eq_some_iff.mp hj
  have := List.pairwise_iff_getElem.mp hp i j h1 h2 lt
  rw [e1, e2] at this
  exact this
theorem drn_nosys {frs : List Frm} {n : Nat} (h : Drn frs n) {fr : Frm} (m : fr ∈ frs) : fr ≠ sysF ∧ 100 ≤ fr.2 ∧ fr.2 < 100 + (n : Int) ∧ ∃ i : Nat, frs[i]? = some fr ∧ fr.2 = 100 + (i : Int) := by
  obtain ⟨i, hi⟩ := List.getElem?_of_mem m
  have e := h.ln i fr hi
  have lt := (List.getElem?_eq_some_iff.mp hi).1
  have := h.len
  refine ⟨?_, by omega, by omega, i, hi, e⟩
  rintro rfl
  have : (1 : Int) = 100 + (i : Int) := e
  omega
theorem drn_ok {frs : List Frm} {n : Nat} (h : Drn frs n) : FrOk frs := fun fr m => mods_ok _ (h.md fr m)
theorem cand_further {frs : List Frm} {n : Nat} (h : Drn frs n) {ps : List Str} {lev : Nat} (h0 : 1 ≤ lev) (h1 : lev2 ps lev ≠ 1) (h2 : ¬ HeadInt frs) :
    (cand frs lev ps = none → 1 < lev → cand frs (max lev 2 + 1) ps = none) ∧ ∀ a b, cand frs lev ps = some a → cand frs (max lev 2 + 1) ps = some b → a.2 < b.2 := by
  have e1 : lev2 ps (max lev 2 + 1) = max lev 2 + 1 := by unfold lev2; rw [if_neg (by omega)]
  have e2 : lev2 ps lev = max lev 2 := by
    unfold lev2 at h1 ⊢
    split
    · omega
    · rename_i hn
      rw [if_neg hn] at h1
      omega
  unfold cand
  rw [if_neg (fun q => q.elim h1 h2), if_neg (fun q => q.elim (by omega) h2), e1, e2]
  refine ⟨fun h3 _ => ?_, fun a b ha hb => rest_rise h ps ha hb (by omega)⟩
  have := List.getElem?_eq_none_iff.mp h3
  exact List.getElem?_eq_none (by omega)
end Wf

set_option Elab.async false
set_option linter.all false
set_option maxRecDepth 100000
set_option maxHeartbeats 8000000
namespace Wf
open PySem PySem.Spec PyProof.Rows L2 TL
/-! ### own tactics -/
local macro_rules | `(tactic| walk_at "sel") => `(tactic| first | exact Sel.here | assumption | exact Sel.again (by assumption) _ | (refine Sel.there ?_; walk_at "sel"))
local macro_rules | `(tactic| walk_at "know") => `(tactic| first | assumption | exact (by assumption : Same _ _) _ _ (by walk_at "know"))
local macro_rules | `(tactic| walk_at "at") => `(tactic| first | exact Own.at_ (by assumption) (by walk_at "sel") | exact Own.know (by assumption) (by walk_at "know"))
local macro_rules | `(tactic| walk_at "sql") => `(tactic| first | assumption | exact SqL.of (by walk_at "at") | exact Own.sqL (by assumption) (by assumption))
local macro_rules | `(tactic| walk_at "sqt") => `(tactic| first | assumption | exact SqT.of (by walk_at "at") | exact Own.sqT (by assumption) (by assumption))
local macro_rules | `(tactic| walk_at "num") => `(tactic| first | omega | exact Or.inl (by omega) | exact Or.inr (by omega) | decide)
local macro_rules | `(tactic| walk_at "st1") => `(tactic| first
  | with_reducible refine g_asg ?_ | with_reducible refine g_name ?_ | with_reducible refine g_op ?_ | with_reducible refine g_var (by with_unfolding_all rfl) ?_ | with_reducible refine g_c ?_
  | with_reducible refine g_cons ?_ | with_reducible refine g_nil ?_ | with_reducible refine g_ret ?_ | with_reducible refine g_next ?_ | with_reducible refine g_drop ?_ | with_reducible refine g_ifS ?_ | with_reducible refine g_test ?_ | with_reducible refine g_B ?_ | with_reducible refine g_kTest ?_
  | with_reducible refine g_ifT (by with_unfolding_all rfl) ?_ | with_reducible refine g_ifF (by with_unfolding_all rfl) ?_
  | with_reducible refine g_and ?_ | with_reducible refine g_or ?_ | with_reducible refine g_not ?_ | with_reducible refine g_andV ?_ | with_reducible refine g_orV ?_ | with_reducible refine g_notV ?_ | with_reducible refine g_kNotV ?_ | with_reducible refine g_if ?_
  | with_reducible refine g_cb ?_ | with_reducible refine g_call ?_ | with_reducible refine g_kCall ?_ | with_reducible refine g_lst ?_ | with_reducible refine g_tup ?_ | with_reducible refine g_un ?_
  | with_reducible refine g_kLst (by assumption) (by with_unfolding_all rfl) (fun _ _ _ => ?_) | with_reducible refine g_kTup (by assumption) (by with_unfolding_all rfl) (fun _ _ _ => ?_)
  | with_reducible refine g_addI ?_ | with_reducible refine g_subI ?_ | with_reducible refine g_ltI ?_ | with_reducible refine g_leI ?_ | with_reducible refine g_gtI ?_ | with_reducible refine g_geI ?_ | with_reducible refine g_eqI ?_ | with_reducible refine g_eqS ?_ | with_reducible refine g_eqB ?_
  | with_reducible refine g_neI ?_ | with_reducible refine g_neS ?_ | with_reducible refine g_neB ?_
  | with_reducible refine g_mulI (by with_unfolding_all walk_at "num") ?_ | with_reducible refine g_divI (by with_unfolding_all walk_at "num") ?_ | with_reducible refine g_modI (by with_unfolding_all walk_at "num") ?_ | with_reducible refine g_powI (by with_unfolding_all walk_at "num") ?_ | with_reducible refine g_int ?_ | with_reducible refine g_abs ?_ | with_reducible refine g_min2 ?_ | with_reducible refine g_max2 ?_
  | with_reducible refine g_addS (by with_unfolding_all walk_at "num") ?_ | with_reducible refine g_lenS (by with_unfolding_all walk_at "num") ?_
  | with_reducible refine g_bm ?_ | with_reducible refine g_kBMs ?_ | with_reducible refine g_starts ?_ | with_reducible refine g_sl ?_ | with_reducible refine g_noPart ?_ | with_reducible refine g_part ?_ | with_reducible refine g_kPart ?_
  | with_reducible refine g_setL ?_ | with_reducible refine g_gCons ?_ | with_reducible refine g_gNil ?_ | with_reducible refine g_tupT (by with_unfolding_all walk_at "sqt") (by with_unfolding_all rfl) ?_
  | with_reducible refine g_ixL (by with_unfolding_all walk_at "sql") (by with_unfolding_all rfl) ?_ | with_reducible refine g_ixT (by with_unfolding_all walk_at "sqt") (by with_unfolding_all rfl) ?_
  | with_reducible refine g_rSetL (by assumption) (by with_unfolding_all walk_at "sel") (by with_unfolding_all rfl) (fun _ _ => ?_)
  | with_reducible refine g_lcL ?_ | with_reducible refine g_lcT ?_ | with_reducible refine g_lcR ?_ | with_reducible refine g_forL ?_ | with_reducible refine g_forT ?_ | with_reducible refine g_forR ?_ | with_reducible refine g_forS ?_
  | with_reducible refine g_kTg (by with_unfolding_all rfl) ?_ | with_reducible refine g_yes ?_ | with_reducible refine g_kTsT (by with_unfolding_all rfl) ?_ | with_reducible refine g_kTsF (by with_unfolding_all rfl) ?_
  | with_reducible refine g_aug (by with_unfolding_all rfl) ?_ | with_reducible refine g_ipI ?_
  | with_reducible refine g_whT (by with_unfolding_all rfl) ?_ | with_reducible refine g_whF (by with_unfolding_all rfl) ?_
  | with_reducible refine g_break ?_ | with_reducible refine g_cont ?_ | with_reducible refine g_retN ?_
  | with_reducible refine g_ifET (by with_unfolding_all rfl) ?_ | with_reducible refine g_ifEF (by with_unfolding_all rfl) ?_
  | with_reducible refine g_kCallN (by with_unfolding_all rfl) (by with_unfolding_all rfl) ?_ | with_reducible refine g_callN ?_)
local macro_rules | `(tactic| walk_at "go1") => `(tactic| first | with_reducible refine g_seq ?_ | walk_at "st1")
local macro_rules | `(tactic| walk_at "go") => `(tactic| repeat' (walk_at "go1"))
local macro_rules | `(tactic| walk_at "upto") => `(tactic| repeat' (walk_at "st1"))
local macro_rules | `(tactic| walk_at "pure") => `(tactic| (first
  | with_reducible apply g_kOrVP | with_reducible apply g_kAndVP | with_reducible apply g_orP | with_reducible apply g_andP); (· intro _ hq; walk_at "go"; exact hq))


theorem place_ok {frs : List Frm} {lev : Nat} {ps : List Str} (h : FrOk frs) : SOk (placeM frs lev ps).1 := by
  unfold placeM
  cases e : frs[placeIx frs lev ps]? with
  | none => exact (show SOk "sys" by unfold SOk; decide +kernel)
  | some fr => exact h fr (List.mem_of_getElem? e)
theorem u_place {K : PySem.W.Frag} {K0 H : Hp} {L : Ow} {a b : Addr} {l : Int} {lev : Nat} {vs : List V} {frs : List Frm} {ps : List Str} {Q : VK} {E : XK} (e : l = (lev : Int)) (w : Own K0 L H) (ha : SqL K K0 a vs) (hf : FrsAt K K0 vs frs) (hne : frs ≠ [])
    (hb : SqT K K0 b (ps.map V.str)) (hl : ∀ p ∈ ps, SOk p) (hn : ps.length ≤ 1000) (h1 : 1 ≤ lev ∧ lev ≤ 1000) (k : ∀ H' v, Own K0 L H' → FrAt K K0 v (placeM frs lev ps) → Q v H') : sp_place K [.ref a, .int l, .ref b] H Q E := by
  subst e
  exact ⟨K0, L, a, b, lev, vs, frs, ps, rfl, rfl, rfl, w, ha, hf, hne, hb, fun p hp => (hl p hp).1, hn, h1.1, h1.2, k⟩
theorem u_frames {K : PySem.W.Frag} {K0 : Hp} {L : Ow} {f : HO → Ow} {b : Addr} {g m c n : Int} {H : Hp} {Q : VK} {E : XK} (w : Own K0 L H) (s : Sel L b (BagO g m c) f) (ok : BagOk g m c) (hn : 0 < n ∧ n ≤ 1000)
    (k : ∀ p vs frs K1 g' m' c' H', Same K0 K1 → BagOk g' m' c' → Own K1 (f (BagO g' m' c')) H' → K1 p = some (.lst vs) → FrsAt K K1 vs frs → Drn frs n.toNat → Q (.ref p) H') : sp__law_frames K [.ref b, .int n] H Q E := ⟨K0, L, f, b, g, m, c, n, rfl, rfl, w, s, ok, hn, k⟩
/-- a frame beside the one that stands for none -/
theorem dpFr' {K : PySem.W.Frag} {H : Hp} {v : V} {fr : Frm} (h : FrAt K H v fr) : Dp K H v (frD fr) := dpFr h
theorem sys_at {K : PySem.W.Frag} {H : Hp} {p : Addr} (h : SqT K H p [.str "sys", .int 1]) : FrAt K H (.ref p) sysF := ⟨p, rfl, h⟩
theorem sys_ok : SOk sysF.1 := by unfold SOk; decide +kernel
theorem g_neF {K : PySem.W.Frag} {H : Hp} {v v' : V} {a b : Frm} {Q : VK} (h1 : FrAt K H v a) (h2 : FrAt K H v' b) (s1 : SOk a.1) (s2 : SOk b.1) (h : Q (.bl (!decide (a = b))) H) : kNe K v v' H Q := by
  refine g_neD (dpFr h1) (dpFr h2) (shaped_fr s1) (shaped_fr s2) ?_
  rw [eqv_fr]; exact h
theorem g_eqF {K : PySem.W.Frag} {H : Hp} {v v' : V} {a b : Frm} {Q : VK} (h1 : FrAt K H v a) (h2 : FrAt K H v' b) (s1 : SOk a.1) (s2 : SOk b.1) (h : Q (.bl (decide (a = b))) H) : kEq K v v' H Q := by
  refine g_eqD (dpFr h1) (dpFr h2) (shaped_fr s1) (shaped_fr s2) ?_
  rw [eqv_fr]; exact h
theorem _root_.L2.Same.fr {K : PySem.W.Frag} {H H' : Hp} {v : V} {fr : Frm} (s : Same H H') (h : FrAt K H v fr) : FrAt K H' v fr := h.mono s
abbrev sp__law_right (K : PySem.W.Frag) : Sp := Sp4 fun x y z u H Q _ => ∃ (K0 : Hp) (L : Ow) (f : HO → Ow) (b a q : Addr) (g m c : Int) (lev : Nat) (vs : List V) (frs : List Frm) (ps : List Str), x = .ref b ∧ y = .ref a ∧ z = .int lev ∧ u = .ref q ∧ Own K0 L H ∧ Sel L b (BagO g m c) f ∧ BagOk g m c ∧
  K0 a = some (.lst vs) ∧ FrsAt K K0 vs frs ∧ Drn frs 8 ∧ SqT K K0 q (ps.map V.str) ∧ (∀ p ∈ ps, SOk p) ∧ ps.length ≤ 100 ∧ 1 ≤ lev ∧ lev ≤ 12 ∧
  ∀ K1 g' m' c' H', Same K0 K1 → BagOk g' m' c' → Own K1 (f (BagO g' m' c')) H' → Q (.bl true) H'
def t__law_right (K : PySem.W.Frag) : TS :=
  (tSeq (tAsg (tCallN 1 2 (sp_place K) (gv_place_1_level_skip K) E0 (tCons (tVar 1) tNil) (tCons (tVar 2) (tCons (tVar 3) tNil))) (gName 4))
    (tSeq (tAsg (tOp (kAdd K) (tVar 1) (tLc (iList K (tCall (sp__law_frames K) [] E0 (tCons (tVar 0) (tCons (tC (.int 4)) tNil)))) (gTup K 2 (gCons (gName 11) (gCons (gName 12) gNil))) tYes (tTup (tCons (tVar 11) (tCons (tOp (kAdd K) (tVar 12) (tC (.int 300))) tNil))) [11, 12])) (gName 5))
    (tSeq (tAsg (tCallN 1 2 (sp_place K) (gv_place_1_level_skip K) E0 (tCons (tVar 5) tNil) (tCons (tVar 2) (tCons (tVar 3) tNil))) (gName 6))
    (tSeq (tIfS (tAnd (tTest (tOp (kNe K) (tVar 4) (tTup (tCons (tC (.str "sys")) (tCons (tC (.int 1)) tNil))))) (tTest (tOp (kNe K) (tVar 6) (tVar 4)))) (tRet (tC (.bl false))) tNext)
    (tSeq (tIfS (tAnd (tTest (tOp (kEq K) (tVar 4) (tTup (tCons (tC (.str "sys")) (tCons (tC (.int 1)) tNil))))) (tTest (tOp (kIn K) (tVar 6) (tSl (rSlL K) (tVar 1) (tPart (tC (.int 1))) tNoPart)))) (tRet (tC (.bl false))) tNext)
    (tSeq (tAsg (tAndV (tOp (kEq K) (tVar 2) (tC (.int 1))) (tOp (kEq K) (tVar 3) (tTup tNil))) (gName 7))
    (tSeq (tIfS (tAnd (tNot (tB (tVar 7))) (tNot (tB (tCall (sp__law_is_internal K) [] E0 (tCons (tOp (kIx K) (tVar 1) (tC (.int 0))) tNil))))) (tSeq (tIfS (tTest (tOp (kNe K) (tCallN 1 2 (sp_place K) (gv_place_1_level_skip K) E0 (tCons (tCall (sp__law_mixed K) [] E0 (tCons (tVar 0) (tCons (tVar 1) (tCons (tVar 3) tNil)))) tNil) (tCons (tVar 2) (tCons (tVar 3) tNil))) (tVar 4))) (tRet (tC (.bl false))) tNext)
    (tSeq (tAsg (tCallN 1 2 (sp_place K) (gv_place_1_level_skip K) E0 (tCons (tVar 1) tNil) (tCons (tOp (kAdd K) (tCB kMax2 (tCons (tVar 2) (tCons (tC (.int 2)) tNil))) (tC (.int 1))) (tCons (tVar 3) tNil))) (gName 8))
    (tSeq (tIfS (tAnd (tTest (tOp kGt (tVar 2) (tC (.int 1)))) (tAnd (tTest (tOp (kEq K) (tVar 4) (tTup (tCons (tC (.str "sys")) (tCons (tC (.int 1)) tNil))))) (tTest (tOp (kNe K) (tVar 8) (tVar 4))))) (tRet (tC (.bl false))) tNext)
    (tIfS (tAnd (tTest (tOp (kNe K) (tVar 4) (tTup (tCons (tC (.str "sys")) (tCons (tC (.int 1)) tNil))))) (tAnd (tTest (tOp (kNe K) (tVar 8) (tTup (tCons (tC (.str "sys")) (tCons (tC (.int 1)) tNil))))) (tTest (tOp kLe (tBM K "list" (rIndexD K) (tVar 1) (tCons (tVar 8) tNil)) (tBM K "list" (rIndexD K) (tVar 1) (tCons (tVar 4) tNil)))))) (tRet (tC (.bl false))) tNext)))) tNext)
    (tSeq (tAsg (tLc (iList K (tVar 1)) (gTup K 2 (gCons (gName 11) (gCons (gName 12) gNil))) tYes (tTup (tCons (tVar 11) (tCons (tOp (kAdd K) (tVar 12) (tC (.int 1000))) tNil))) [11, 12]) (gName 9))
    (tSeq (tAsg (tCallN 1 2 (sp_place K) (gv_place_1_level_skip K) E0 (tCons (tVar 9) tNil) (tCons (tVar 2) (tCons (tVar 3) tNil))) (gName 10))
    (tRet (tOp (kEq K) (tVar 10) (tIf (tTest (tOp (kEq K) (tVar 4) (tTup (tCons (tC (.str "sys")) (tCons (tC (.int 1)) tNil))))) (tVar 4) (tTup (tCons (tOp (kIx K) (tVar 4) (tC (.int 0))) (tCons (tOp (kAdd K) (tOp (kIx K) (tVar 4) (tC (.int 1))) (tC (.int 1000))) tNil)))))))))))))))

theorem c__law_right {K : PySem.W.Frag} {mg : Str → Option Value} {vs : List V} {H : Hp} {Q : VK} {E : XK} (T : Txt K mg) (h : sp__law_right K vs H Q E) : t__law_right K { nx := fun _ H1 => Q .non H1, rt := Q } (start ["_law_bag_here", "_law_frames_here", "_law_height", "_law_passed", "_law_spot", "_law_wider", "_law_beyond", "_law_plain", "_law_further", "_law_moved", "_law_told", "_law_module", "_law_line"] vs) H := by
  obtain ⟨_, _, _, _, rfl, K0, L, f, b, a, q, g, m, c, lev, vs, frs, ps, rfl, rfl, rfl, rfl, w, s, ok, ha, hf, hd, hq, hps, hpl, h1, h12, hQ⟩ := sp4 h
  have hok := drn_ok hd
  have hlen := hd.len
  unfold t__law_right
  walk_at "go"
  show sp_place K [_, _, _] _ _ _
  refine u_place rfl w (SqL.of ha) hf hd.ne hq hps (by omega) ⟨h1, by omega⟩ fun H1 v1 w1 hv1 => ?_
  rw [place_cand _ _ _ h1] at hv1
  walk_at "go"
  refine u_frames w1 s ok (by omega) fun p2 vs2 frs2 K2 g2 m2 c2 H2 s2 ok2 w2 hp2 hf2 hd2 => ?_
  walk_at "go"
  refine lc_L w2 (SqL.of hp2) (fun i acc K' L' => L' = f (BagO g2 m2 c2) ∧ FrsAt K K' acc ((frs2.take i).map (mv 300))) ⟨rfl, FrsAt.nil⟩ ?_ ?_
  · rintro D i x acc K' L' H3 hx hl3 sm3 ⟨rfl, hacc⟩ w3
    have lt : i < frs2.length := by rw [← hf2.len]; exact (List.getElem?_eq_some_iff.mp hx).1
    have hfr : frs2[i]? = some frs2[i] := by simp [lt]
    generalize frs2[i] = fr at hfr
    obtain ⟨v, hv, p, rfl, hp⟩ := hf2.at_ i fr hfr
    rw [hv] at hx
    cases hx
    have hp' := w3.sqT (sqT_mono sm3 hp)
    walk_at "go"
    rename_i p3 H4 w4
    have w5 := w4.freeze
    refine g_kEl w5 (sm3.trans w4.same) hl3 (by have := hd2.len; omega) ⟨rfl, ?_⟩
    rw [take_snoc hfr, List.map_append]
    exact (hacc.mono w4.same).snoc ⟨p3, rfl, SqT.of upd_same⟩
  rintro D acc K3 L' H3 hl3 sm3 ⟨rfl, hacc⟩ w3
  rw [hf2.len, List.take_length] at hacc
  walk_at "go"
  have s03 := s2.trans sm3
  refine g_addL w3 (w3.know (s03 _ _ ha)) (w3.at_ .here) (by rw [hf.len, hacc.len, List.length_map]; have := hd2.len; omega) fun l4 H4 w4 => ?_
  walk_at "upto"
  have w5 := w4.drop2.freeze
  have s4 := w4.drop2.same
  have hw5 : (upd K3 l4 (.lst (vs ++ acc))) l4 = some (.lst (vs ++ acc)) := upd_same
  generalize upd K3 l4 (.lst (vs ++ acc)) = K4 at w5 s4 hw5
  have s04 := s03.trans s4
  have hfw : FrsAt K K4 (vs ++ acc) (frs ++ frs2.map (mv 300)) := by
    refine ⟨by rw [List.length_append, List.length_append, hf.len, hacc.len], fun i fr e => ?_⟩
    by_cases lt : i < frs.length
    · rw [List.getElem?_append_left lt] at e
      rw [List.getElem?_append_left (by rw [hf.len]; exact lt)]
      exact (hf.mono s04).at_ i fr e
    · rw [List.getElem?_append_right (by omega)] at e
      rw [List.getElem?_append_right (by rw [hf.len]; omega), hf.len]
      exact (hacc.mono s4).at_ _ fr e
  walk_at "go1"
  walk_at "upto"
  have hq4 := sqT_mono s04 hq
  have h0 : (frs ++ frs2.map (mv 300)) ≠ [] := by
    intro e
    exact hd.ne (List.append_eq_nil_iff.mp e).1
  show sp_place K [_, _, _] _ _ _
  refine u_place rfl w5 (SqL.of hw5) hfw h0 hq4 hps (by omega) ⟨h1, by omega⟩ fun H5 v6 w6 hv6 => ?_
  rw [place_cand _ _ _ h1] at hv6
  walk_at "upto"
  obtain ⟨p1, rfl, hp1⟩ := id hv1
  obtain ⟨p6, rfl, hp6⟩ := id hv6
  -- the frames that are told
  have hv1' := hv1.mono s04
  have hw300 : ∀ x ∈ frs2.map (mv 300), 400 ≤ x.2 ∧ SOk x.1 := by
    intro x hx
    obtain ⟨y, hy, rfl⟩ := List.mem_map.mp hx
    have := (drn_nosys hd2 hy).2.1
    exact ⟨by show 400 ≤ y.2 + 300; omega, drn_ok hd2 y hy⟩
  have A : ∃ fr1 fr6, fr1 = (cand frs lev ps).getD sysF ∧ fr6 = (cand (frs ++ frs2.map (mv 300)) lev ps).getD sysF ∧ SOk fr1.1 ∧ SOk fr6.1 ∧ (fr1 ≠ sysF → fr6 = fr1) ∧ (fr1 = sysF → ∀ x ∈ frs, x ≠ fr6) ∧ (fr1 = sysF ↔ cand frs lev ps = none) := by
    refine ⟨_, _, rfl, rfl, ?_, ?_, ?_, ?_, ?_⟩
    · cases e : cand frs lev ps with
      | none => exact sys_ok
      | some x => exact hok x (cand_mem e)
    · cases e : cand (frs ++ frs2.map (mv 300)) lev ps with
      | none => exact sys_ok
      | some x =>
        rcases List.mem_append.mp (cand_mem e) with h | h
        · exact hok x h
        · exact (hw300 x h).2
    · intro hne
      rcases cand_wide hd.ne (ws := frs2.map (mv 300)) lev ps with ⟨x, e1, e2⟩ | ⟨e1, _⟩
      · rw [e1, e2]
      · rw [e1] at hne; exact absurd rfl hne
    · intro he x hx e
      obtain ⟨n1, n2, n3, _⟩ := drn_nosys hd hx
      rcases cand_wide hd.ne (ws := frs2.map (mv 300)) lev ps with ⟨y, e1, e2⟩ | ⟨e1, e2⟩
      · rw [e1] at he
        exact (drn_nosys hd (cand_mem e1)).1 he
      · cases q : cand (frs ++ frs2.map (mv 300)) lev ps with
        | none => rw [q] at e; exact n1 e
        | some y =>
          rw [q] at e
          have := (hw300 y (e2 y q)).1
          rw [e] at n3
          have n4 : y.2 < 100 + ((8 : Nat) : Int) := n3
          omega
    · cases e : cand frs lev ps with
      | none => simp
      | some x => simp only [Option.getD_some]; exact ⟨fun q => absurd q (drn_nosys hd (cand_mem e)).1, fun q => by cases q⟩
  obtain ⟨fr1, fr6, e1, e6, ok1, ok6, F1, F2, F3⟩ := A
  rw [← e1] at hv1' hp1
  rw [← e6] at hv6 hp6
  refine g_join (fun σ' H' => σ' = [some (.ref b), some (.ref a), some (.int lev), some (.ref q), some (.ref p1), some (.ref l4), some (.ref p6), none, none, none, none, none, none] ∧ ∃ K5, Same K4 K5 ∧ Own K5 (f (BagO g2 m2 c2)) H') ?_ (fun n' hn' => ?_)
  case refine_2 =>
    walk_at "go"
    rename_i te H6 w7
    refine g_neF (w7.pers.fr hv1') (sys_at (SqT.of (w7.at_ .here))) ok1 sys_ok ?_
    walk_at "go"
    refine g_andB (fun e => ?_) (fun e => ?_)
    · walk_at "go"
      have e' : fr6 = fr1 := F1 (by simpa using e)
      refine g_neF (w7.pers.fr hv6) (w7.pers.fr hv1') ok6 ok1 ?_
      rw [e', decide_eq_true rfl]
      walk_at "go"
      exact hn' _ _ ⟨rfl, K4, Same.refl _, w7.drop⟩
    · walk_at "go"
      exact hn' _ _ ⟨rfl, K4, Same.refl _, w7.drop⟩
  rintro σ' H6 ⟨rfl, K5, s5, w7⟩
  have hv1' := hv1'.mono s5
  have hv6' := hv6.mono s5
  have s05 := s04.trans s5
  refine g_join (fun σ' H' => σ' = [some (.ref b), some (.ref a), some (.int lev), some (.ref q), some (.ref p1), some (.ref l4), some (.ref p6), none, none, none, none, none, none] ∧ ∃ K6, Same K5 K6 ∧ Own K6 (f (BagO g2 m2 c2)) H') ?_ (fun n' hn' => ?_)
  case refine_2 =>
    walk_at "go"
    rename_i te H7 w8
    refine g_eqF (w8.pers.fr hv1') (sys_at (SqT.of (w8.at_ .here))) ok1 sys_ok ?_
    walk_at "go"
    refine g_andB (fun e => ?_) (fun e => ?_)
    · walk_at "go"
      have e' := F2 (by simpa using e)
      refine g_slL w8 (w8.sqL (SqL.of (s05 _ _ ha))) fun l7 H8 w9 => ?_
      walk_at "go"
      have ec : cutV vs (some 1) none = vs.drop 1 := cutV_from vs 1
      rw [ec] at w9
      have hf1 : FrsAt K K5 (vs.drop 1) (frs.drop 1) := ⟨by rw [List.length_drop, List.length_drop, hf.len], fun i fr e => by
        rw [List.getElem?_drop] at e ⊢
        exact (hf.mono s05).at_ _ fr e⟩
      refine g_inD (dpFr (w9.pers.fr hv6')) (Dp.lst (SqL.of (w9.at_ .here)) (dpFrs (hf1.mono w9.pers))) (shaped_fr ok6) (shaped_frs fun x hx => hok x (List.mem_of_mem_drop hx)) ?_
      have : (((frs.drop 1).map frD).any fun z => PyData.eqv z (frD fr6)) = false := by
        rw [List.any_map, List.any_eq_false]
        intro x hx
        show ¬ (PyData.eqv (frD x) (frD fr6) = true)
        rw [eqv_fr, decide_eq_true_iff]
        exact e' x (List.mem_of_mem_drop hx)
      rw [this]
      walk_at "go"
      exact hn' _ _ ⟨rfl, K5, Same.refl _, w9.drop.drop⟩
    · walk_at "go"
      exact hn' _ _ ⟨rfl, K5, Same.refl _, w8.drop⟩
  rintro σ' H7 ⟨rfl, K6, s6, w8⟩
  have hv1' := hv1'.mono s6
  have s06 := s05.trans s6
  have hq6 := sqT_mono s06 hq
  refine g_join (fun σ' H' => σ' = [some (.ref b), some (.ref a), some (.int lev), some (.ref q), some (.ref p1), some (.ref l4), some (.ref p6), some (.bl (decide (ps = [] ∧ lev = 1))), none, none, none, none, none] ∧ Own K6 (f (BagO g2 m2 c2)) H') ?_ (fun n' hn' => ?_)
  case refine_2 =>
    walk_at "go"
    refine g_kAndVB (fun e => ?_) (fun e => ?_)
    · walk_at "go"
      rename_i te H8 w9
      refine g_eqD (Dp.tup (w9.sqT hq6) (dpStrs ps)) (Dp.tup (SqT.of (w9.at_ .here)) DpAll.nil) (shapedStrs hps) shapedE ?_
      rw [eqvE]
      walk_at "go"
      refine hn' _ _ ⟨?_, w9.drop⟩
      have : decide (ps = [] ∧ lev = 1) = decide (ps = []) := by
        have e2 := of_decide_eq_true e
        have : lev = 1 := by omega
        simp [this]
      rw [this]
      rfl
    · walk_at "go"
      refine hn' _ _ ⟨?_, w8⟩
      have : decide (ps = [] ∧ lev = 1) = false := by
        have e2 := of_decide_eq_false e
        exact decide_eq_false fun z => e2 (by omega)
      rw [this]
      rfl
  rintro σ' H8 ⟨rfl, w9⟩
  refine g_join (fun σ' H' => (∃ z, σ' = [some (.ref b), some (.ref a), some (.int lev), some (.ref q), some (.ref p1), some (.ref l4), some (.ref p6), some (.bl (decide (ps = [] ∧ lev = 1))), z, none, none, none, none]) ∧ ∃ K7 g m c, Same K6 K7 ∧ BagOk g m c ∧ Own K7 (f (BagO g m c)) H') ?_ (fun n' hn' => ?_)
  case refine_2 =>
    obtain ⟨x0, hx0⟩ : ∃ fr, frs[0]? = some fr := by
      cases frs with
      | nil => exact absurd rfl hd.ne
      | cons x _ => exact ⟨x, rfl⟩
    have hf6 := hf.mono s06
    obtain ⟨v0, hv0, p0, rfl, hp0⟩ := hf6.at_ 0 x0 hx0
    have ha6 := s06 _ _ ha
    walk_at "go"
    refine g_andB (fun e => ?_) (fun e => ?_)
    · have hplain : ¬ (ps = [] ∧ lev = 1) := fun q => by rw [decide_eq_true q] at e; cases e
      have hl2 : lev2 ps lev ≠ 1 := by
        unfold lev2
        split
        · omega
        · rename_i hn
          intro e1
          exact hplain ⟨Classical.byContradiction fun q => hn ⟨q, e1⟩, e1⟩
      walk_at "go"
      refine g_ixL (SqL.of (w9.know ha6)) (atI_of (j := 0) rfl hv0) ?_
      walk_at "go"
      refine ⟨K6, _, p0, x0, rfl, w9, hp0, hd.md _ (List.mem_of_getElem? hx0), fun H9 w10 => ?_⟩
      walk_at "go"
      refine g_ifB (fun e => ?_) (fun e => ?_)
      · have hnh : ¬ HeadInt frs := by
          rintro ⟨fr, q1, q2⟩
          rw [hx0] at q1
          cases q1
          rw [q2] at e
          cases e
        obtain ⟨C1, C2⟩ := cand_further hd h1 hl2 hnh
        walk_at "go"
        refine ⟨K6, _, f, b, a, q, g2, m2, c2, vs, frs, ps, rfl, rfl, rfl, w10, s.again _, ok2, SqL.of ha6, hf6, hd.ne, by omega, hok, hq6, hps, hpl, fun p8 vs8 frs8 K7 g7 m7 c7 H10 s7 ok7 w11 hp8 hf8 hmix => ?_⟩
        walk_at "go"
        have hq7 := sqT_mono s7 hq6
        have ne8 : frs8 ≠ [] := by
          rintro rfl
          have := congrArg Option.isSome hmix.hd
          rw [hx0] at this
          cases this
        show sp_place K [_, _, _] _ _ _
        refine u_place rfl w11 (SqL.of hp8) hf8 ne8 hq7 hps (by omega) ⟨h1, by omega⟩ fun H11 v9 w12 hv9 => ?_
        rw [place_cand _ _ _ h1, cand_mix hmix hl2 hnh, ← e1] at hv9
        have hv17 := hv1'.mono s7
        walk_at "go"
        refine g_neF (w12.pers.fr hv9) (w12.pers.fr hv17) ok1 ok1 ?_
        rw [decide_eq_true rfl]
        walk_at "go"
        have ha7 := s7 _ _ ha6
        have hf7 := hf6.mono s7
        have emax : (if (2 : Int) > (lev : Int) then (2 : Int) else (lev : Int)) + 1 = ((max lev 2 + 1 : Nat) : Int) := by split <;> omega
        show sp_place K [_, _, _] _ _ _
        refine u_place (lev := max lev 2 + 1) emax w12 (SqL.of ha7) hf7 hd.ne hq7 hps (by omega) (by omega) fun H12 v10 w13 hv10 => ?_
        rw [place_cand _ _ _ (by omega)] at hv10
        obtain ⟨p10, rfl, hp10⟩ := id hv10
        have B : ∃ fr9, fr9 = (cand frs (max lev 2 + 1) ps).getD sysF ∧ SOk fr9.1 ∧ (fr1 = sysF → 1 < lev → fr9 = sysF) ∧ (fr9 ≠ sysF → cand frs (max lev 2 + 1) ps = some fr9) := by
          refine ⟨_, rfl, ?_, ?_, ?_⟩
          · cases q : cand frs (max lev 2 + 1) ps with
            | none => exact sys_ok
            | some x => exact hok x (cand_mem q)
          · intro q1 q2
            rw [C1 (F3.mp q1) q2]
            rfl
          · intro q1
            cases q : cand frs (max lev 2 + 1) ps with
            | none => rw [q] at q1; exact absurd rfl q1
            | some x => rfl
        obtain ⟨fr9, e9, ok9, B1, B2⟩ := B
        rw [← e9] at hv10 hp10
        have s67 := s06.trans s7
        walk_at "upto"
        refine g_join (fun σ' H' => σ' = [some (.ref b), some (.ref a), some (.int lev), some (.ref q), some (.ref p1), some (.ref l4), some (.ref p6), some (.bl (decide (ps = [] ∧ lev = 1))), some (.ref p10), none, none, none, none] ∧ Own K7 (f (BagO g7 m7 c7)) H') ?_ (fun n'' hn'' => ?_)
        case refine_2 =>
          walk_at "go"
          refine g_andB (fun e => ?_) (fun e => ?_)
          · walk_at "go"
            rename_i te H13 w14
            refine g_eqF (w14.pers.fr hv17) (sys_at (SqT.of (w14.at_ .here))) ok1 sys_ok ?_
            walk_at "go"
            refine g_andB (fun e2 => ?_) (fun e2 => ?_)
            · walk_at "go"
              refine g_neF (w14.pers.fr hv10) (w14.pers.fr hv17) ok9 ok1 ?_
              have q1 : fr1 = sysF := by simpa using e2
              have q2 : (1 : Int) < lev := by simpa using e
              rw [B1 q1 (by omega), q1, decide_eq_true rfl]
              walk_at "go"
              exact hn'' _ _ ⟨rfl, w14.drop⟩
            · walk_at "go"
              exact hn'' _ _ ⟨rfl, w14.drop⟩
          · walk_at "go"
            exact hn'' _ _ ⟨rfl, w13⟩
        rintro σ' H13 ⟨rfl, w14⟩
        walk_at "go"
        rename_i te H14 w15
        refine g_neF (w15.pers.fr hv17) (sys_at (SqT.of (w15.at_ .here))) ok1 sys_ok ?_
        walk_at "go"
        refine g_andB (fun e => ?_) (fun e => ?_)
        · walk_at "go"
          rename_i te2 H15 w16
          refine g_neF (w16.pers.fr hv10) (sys_at (SqT.of (w16.at_ .here))) ok9 sys_ok ?_
          walk_at "go"
          refine g_andB (fun e2 => ?_) (fun e2 => ?_)
          · have q1 : fr1 ≠ sysF := by simpa using e
            have q2 : fr9 ≠ sysF := by simpa using e2
            have c9 := B2 q2
            have c1 : cand frs lev ps = some fr1 := by
              cases q : cand frs lev ps with
              | none => exact absurd (F3.mpr q) q1
              | some x => rw [e1, q]; rfl
            obtain ⟨_, _, _, i1, hi1, l1⟩ := drn_nosys hd (cand_mem c1)
            obtain ⟨_, _, _, i9, hi9, l9⟩ := drn_nosys hd (cand_mem c9)
            have hlt := C2 _ _ c1 c9
            have ixd : ∀ {H : Hp} {L : Ow} {Q : VK} {p : Addr} {fr : Frm} {i : Nat}, Own K7 L H → FrAt K K7 (.ref p) fr → frs[i]? = some fr → Q (.int (i : Nat)) H → rIndexD K (.ref a) [.ref p] H Q := by
              intro H L Q p fr i wz hz hi hQ'
              have hm := List.mem_of_getElem? hi
              refine g_indexD (ds := frs.map frD) (j := i) (z := frD fr) (Dp.lst (SqL.of (wz.know ha7)) (dpFrs (hf7.mono wz.pers))) (dpFr (wz.pers.fr hz)) (shaped_frs hok) (shaped_fr (hok fr hm)) (by rw [List.getElem?_map, hi]; rfl) (by rw [eqv_fr, decide_eq_true rfl]) (fun m z' lt hz' => ?_) hQ'
              rw [List.getElem?_map] at hz'
              cases q : frs[m]? with
              | none => rw [q] at hz'; cases hz'
              | some x =>
                rw [q] at hz'
                cases hz'
                rw [show PyData.eqv (frD x) (.tuple [.str fr.1, .int fr.2]) = decide (x = fr) from eqv_fr x fr]
                refine decide_eq_false fun e => ?_
                have := hd.ln m x q
                have := hd.ln i fr hi
                subst e
                omega
            walk_at "go"
            refine g_kBMl (SqL.of (w16.know ha7)) ?_
            walk_at "go"
            refine ixd w16 hv10 hi9 ?_
            walk_at "go"
            refine g_kBMl (SqL.of (w16.know ha7)) ?_
            walk_at "go"
            refine ixd w16 hv17 hi1 ?_
            walk_at "go"
            refine g_ifF (decide_eq_false (by omega)) ?_
            walk_at "go"
            exact hn' _ _ ⟨⟨_, rfl⟩, K7, g7, m7, c7, s7, ok7, w16.drop.drop⟩
          · walk_at "go"
            exact hn' _ _ ⟨⟨_, rfl⟩, K7, g7, m7, c7, s7, ok7, w16.drop.drop⟩
        · walk_at "go"
          exact hn' _ _ ⟨⟨_, rfl⟩, K7, g7, m7, c7, s7, ok7, w15.drop⟩
      · walk_at "go"
        exact hn' _ _ ⟨⟨_, rfl⟩, K6, g2, m2, c2, Same.refl _, ok2, w10⟩
    · walk_at "go"
      exact hn' _ _ ⟨⟨_, rfl⟩, K6, g2, m2, c2, Same.refl _, ok2, w9⟩
  rintro σ' H9 ⟨⟨z, rfl⟩, K7, g7, m7, c7, s7, ok7, w10⟩
  have hv1' := hv1'.mono s7
  have s07 := s06.trans s7
  have ha7 := s07 _ _ ha
  have hf7 := hf.mono s07
  have hq7 := sqT_mono s07 hq
  walk_at "go"
  refine lc_L w10 (SqL.of ha7) (fun i acc K' L' => L' = f (BagO g7 m7 c7) ∧ FrsAt K K' acc ((frs.take i).map (mv 1000))) ⟨rfl, FrsAt.nil⟩ ?_ ?_
  · rintro D i x acc K' L' H3 hx hl3 sm3 ⟨rfl, hacc⟩ w3
    have lt : i < frs.length := by rw [← hf7.len]; exact (List.getElem?_eq_some_iff.mp hx).1
    have hfr : frs[i]? = some frs[i] := by simp [lt]
    generalize frs[i] = fr at hfr
    obtain ⟨v, hv, p, rfl, hp⟩ := hf7.at_ i fr hfr
    rw [hv] at hx
    cases hx
    have hp' := w3.sqT (sqT_mono sm3 hp)
    walk_at "go"
    rename_i p3 H4 w4
    have w5 := w4.freeze
    refine g_kEl w5 (sm3.trans w4.same) hl3 (by omega) ⟨rfl, ?_⟩
    rw [take_snoc hfr, List.map_append]
    exact (hacc.mono w4.same).snoc ⟨p3, rfl, SqT.of upd_same⟩
  rintro D2 acc2 K8 L' H10 hl8 s8 ⟨rfl, hacc⟩ w11
  rw [hf7.len, List.take_length] at hacc
  walk_at "go"
  have w12 := w11.freeze
  have s9 := w11.same
  have hD2 : (upd K8 D2 (.lst acc2)) D2 = some (.lst acc2) := upd_same
  generalize upd K8 D2 (.lst acc2) = K9 at w12 s9 hD2
  have s79 := s8.trans s9
  show sp_place K [_, _, _] _ _ _
  refine u_place rfl w12 (SqL.of hD2) (hacc.mono s9) (by rw [Ne, List.map_eq_nil_iff]; exact hd.ne) (sqT_mono s79 hq7) hps (by omega) ⟨h1, by omega⟩ fun H11 v11 w13 hv11 => ?_
  rw [place_cand _ _ _ h1, cand_map] at hv11
  obtain ⟨p11, rfl, hp11⟩ := id hv11
  have hv19 := hv1'.mono s79
  have hp19 : SqT K K9 p1 [.str fr1.1, .int fr1.2] := by
    obtain ⟨pp, e, h⟩ := hv19
    cases e
    exact h
  walk_at "go"
  rename_i te H12 w14
  refine g_eqF (w14.pers.fr hv19) (sys_at (SqT.of (w14.at_ .here))) ok1 sys_ok ?_
  walk_at "go"
  have fin : ∀ (K1 : Hp) (H' : Hp), Same K9 K1 → Own K1 (f (BagO g7 m7 c7)) H' → Q (.bl true) H' := fun K1 H' sz wz => hQ K1 g7 m7 c7 H' (s07.trans (s79.trans sz)) ok7 wz
  refine g_ifEB (fun e => ?_) (fun e => ?_)
  · have q1 : fr1 = sysF := by simpa using e
    walk_at "go"
    rw [F3.mp q1] at hv11
    refine g_eqF (w14.pers.fr hv11) (w14.pers.fr hv19) sys_ok ok1 ?_
    rw [q1]
    rw [show decide ((Option.map (mv 1000) none).getD sysF = sysF) = true from decide_eq_true rfl]
    exact fin K9 _ (Same.refl _) w14.drop
  · have q1 : fr1 ≠ sysF := by simpa using e
    have c1 : cand frs lev ps = some fr1 := by
      cases q : cand frs lev ps with
      | none => exact absurd (F3.mpr q) q1
      | some x => rw [e1, q]; rfl
    rw [c1] at hv11
    have hp19' := w14.sqT hp19
    walk_at "go"
    rename_i p12 H13 w15
    refine g_eqF (a := mv 1000 fr1) (b := mv 1000 fr1) (w15.pers.fr hv11) ⟨_, rfl, SqT.of (w15.at_ .here)⟩ ok1 ok1 ?_
    rw [decide_eq_true rfl]
    exact fin K9 _ (Same.refl _) w15.drop.drop
theorem ok__law_right {P : Program} {w : World} {K : PySem.W.Frag} {mg : Str → Option Value} {base : Heap} (T : Txt K mg) (D__law_frames : OkD P w K mg base CX0 3 (He.ga K "_law_frames") ["_law_bag_here", "_law_most"] (sp__law_frames K)) (D__law_is_internal : OkD P w K mg base CX0 1 (He.ga K "_law_is_internal") ["_law_frame"] (sp__law_is_internal K)) (D__law_mixed : OkD P w K mg base CX0 3 (He.ga K "_law_mixed") ["_law_bag_here", "_law_frames_here", "_law_passed"] (sp__law_mixed K)) (D_place : OkM P w K mg base CX0 5 (He.ga K "place") ["stack", "level", "skip"] (sp_place K)) :
    OkD P w K mg base CX0 6 (He.ga K "_law_right") ["_law_bag_here", "_law_frames_here", "_law_height", "_law_passed"] (sp__law_right K) := by
  obtain ⟨fd, F⟩ := T.f__law_right
  exact ⟨⟨fd, F.ok sc__law_right (fun vs H Q E h => len4 h) fun cdv A outer s H vs Q E hr h => ⟨t__law_right K, PSs.nox (pss_cons (pset 4 sc__law_right.nd (pe_callM (b_place_1_level_skip T) D_place (hr.mono (by decide)) rfl T.g_place pass0 (pa_cons (pv 1) pa_nil) (pk_cons (pv 2) (pk_cons (pv 3) pk_nil))))
    (pss_cons (pset 5 sc__law_right.nd (pe_op ok_add (pv 1) (pe_lc (own := [("_law_module", 11), ("_law_line", 12)]) rfl sc__law_right.nd  (pi_list (pe_callD D__law_frames (hr.mono (by decide)) rfl T.g__law_frames pass0 (pa_cons (pv 0) (pa_cons pe_int pa_nil)))) (blkOk_by (own := [("_law_module", 11), ("_law_line", 12)]) (N := ["_law_bag_here", "_law_frames_here", "_law_height", "_law_passed", "_law_spot", "_law_wider", "_law_beyond", "_law_plain", "_law_further", "_law_moved", "_law_told", "_law_module", "_law_line"]) (sc := defScope s__law_right) (by decide +kernel)) (fun _ _ _ _ _ => (pg_tup rfl (pgs_cons (gn 11 sc__law_right.nd) (pgs_cons (gn 12 sc__law_right.nd) pgs_nil)))) (fun _ _ _ _ _ => pts_nil) (fun _ _ _ _ _ => (pe_tup (pa_cons (pv 11) (pa_cons (pe_op ok_add (pv 12) pe_int) pa_nil)))))))
    (pss_cons (pset 6 sc__law_right.nd (pe_callM (b_place_1_level_skip T) D_place (hr.mono (by decide)) rfl T.g_place pass0 (pa_cons (pv 5) pa_nil) (pk_cons (pv 2) (pk_cons (pv 3) pk_nil))))
    (pss_cons (ps_if (PW.pt (pw_and (pt_cmpR (ok_ne hr.units) (pv 4) (pe_tup (pa_cons pe_str (pa_cons pe_int pa_nil))) (nomark _)) (pw_and1 (pt_cmpR (ok_ne hr.units) (pv 6) (pv 4) (nomark _))))) (pss_one (ps_ret pe_bl)) pss_nil)
    (pss_cons (ps_if (PW.pt (pw_and (pt_cmpR (ok_eq hr.units) (pv 4) (pe_tup (pa_cons pe_str (pa_cons pe_int pa_nil))) (nomark _)) (pw_and1 (pt_cmpR (ok_in hr.u65) (pv 6) (pe_slice sl_list (pv 1) (po_some pe_int) po_none) rfl)))) (pss_one (ps_ret pe_bl)) pss_nil)
    (pss_cons (pset 7 sc__law_right.nd (pe_and (pe_cmpR (ok_eq hr.units) (pv 2) pe_int (nomark _)) (pe_one (pe_cmpR (ok_eq hr.units) (pv 3) (pe_tup pa_nil) (nomark _)))))
    (pss_cons (ps_if (PW.pt (pw_and (pt_not (pt_val (pv 7))) (pw_and1 (pt_not (pt_val (pe_callD D__law_is_internal (hr.mono (by decide)) rfl T.g__law_is_internal pass0 (pa_cons (pe_ix ok_ix (pv 1) pe_int (fun _ _ => rfl)) pa_nil))))))) (pss_cons (ps_if (pt_cmpR (ok_ne hr.units) (pe_callM (b_place_1_level_skip T) D_place (hr.mono (by decide)) rfl T.g_place pass0 (pa_cons (pe_callD D__law_mixed (hr.mono (by decide)) rfl T.g__law_mixed pass0 (pa_cons (pv 0) (pa_cons (pv 1) (pa_cons (pv 3) pa_nil)))) pa_nil) (pk_cons (pv 2) (pk_cons (pv 3) pk_nil))) (pv 4) (nomark _)) (pss_one (ps_ret pe_bl)) pss_nil)
    (pss_cons (pset 8 sc__law_right.nd (pe_callM (b_place_1_level_skip T) D_place (hr.mono (by decide)) rfl T.g_place pass0 (pa_cons (pv 1) pa_nil) (pk_cons (pe_op ok_add (pe_callB (ok_max2 rfl) rfl T.n_max (by decide +kernel) (pa_cons (pv 2) (pa_cons pe_int pa_nil))) pe_int) (pk_cons (pv 3) pk_nil))))
    (pss_cons (ps_if (PW.pt (pw_and (pt_cmpR ok_gt (pv 2) pe_int (nomark _)) (pw_and (pt_cmpR (ok_eq hr.units) (pv 4) (pe_tup (pa_cons pe_str (pa_cons pe_int pa_nil))) (nomark _)) (pw_and1 (pt_cmpR (ok_ne hr.units) (pv 8) (pv 4) (nomark _)))))) (pss_one (ps_ret pe_bl)) pss_nil)
    (pss_one (ps_if (PW.pt (pw_and (pt_cmpR (ok_ne hr.units) (pv 4) (pe_tup (pa_cons pe_str (pa_cons pe_int pa_nil))) (nomark _)) (pw_and (pt_cmpR (ok_ne hr.units) (pv 8) (pe_tup (pa_cons pe_str (pa_cons pe_int pa_nil))) (nomark _)) (pw_and1 (pt_cmpR ok_le (pe_bm PySem.F.plainAttrs_list PySem.F.slot_list_index PySem.F.type_list_index (mt_indexD hr.u65) (pv 1) (pa_cons (pv 8) pa_nil)) (pe_bm PySem.F.plainAttrs_list PySem.F.slot_list_index PySem.F.type_list_index (mt_indexD hr.u65) (pv 1) (pa_cons (pv 4) pa_nil)) (nomark _)))))) (pss_one (ps_ret pe_bl)) pss_nil))))) pss_nil)
    (pss_cons (ps_setLc (i := 9) (own := [("_law_module", 11), ("_law_line", 12)]) rfl sc__law_right.nd rfl rfl (sw_true rfl rfl rfl (by decide +kernel)) (pi_list (pv 1)) (blkOk_by (own := [("_law_module", 11), ("_law_line", 12)]) (N := ["_law_bag_here", "_law_frames_here", "_law_height", "_law_passed", "_law_spot", "_law_wider", "_law_beyond", "_law_plain", "_law_further", "_law_moved", "_law_told", "_law_module", "_law_line"]) (sc := defScope s__law_right) (by decide +kernel)) (fun _ _ _ _ _ => (pg_tup rfl (pgs_cons (gn 11 sc__law_right.nd) (pgs_cons (gn 12 sc__law_right.nd) pgs_nil)))) (fun _ _ _ _ _ => pts_nil) (fun _ _ _ _ _ => (pe_tup (pa_cons (pv 11) (pa_cons (pe_op ok_add (pv 12) pe_int) pa_nil)))))
    (pss_cons (pset 10 sc__law_right.nd (pe_callM (b_place_1_level_skip T) D_place (hr.mono (by decide)) rfl T.g_place pass0 (pa_cons (pv 9) pa_nil) (pk_cons (pv 2) (pk_cons (pv 3) pk_nil))))
    (pss_one (ps_ret (pe_cmpR (ok_eq hr.units) (pv 10) (pe_ifExp (pt_cmpR (ok_eq hr.units) (pv 4) (pe_tup (pa_cons pe_str (pa_cons pe_int pa_nil))) (nomark _)) (pv 4) (pe_tup (pa_cons (pe_ix ok_ix (pv 4) pe_int (fun _ _ => rfl)) (pa_cons (pe_op ok_add (pe_ix ok_ix (pv 4) pe_int (fun _ _ => rfl)) pe_int) pa_nil)))) (nomark _))))))))))))), c__law_right T h⟩, F.bindsN fun _ _ _ _ _ _ us hl => match us, hl with | [_, _, _, _], _ => rfl, isFd_of F⟩, F.kp⟩

end Wf

set_option Elab.async false
set_option linter.all false
set_option maxRecDepth 100000
set_option maxHeartbeats 8000000
namespace Wf
open PySem PySem.Spec PyProof.Rows L2 TL
/-! ### own tactics -/
local macro_rules | `(tactic| walk_at "sel") => `(tactic| first | exact Sel.here | assumption | exact Sel.again (by assumption) _ | (refine Sel.there ?_; walk_at "sel"))
local macro_rules | `(tactic| walk_at "know") => `(tactic| first | assumption | exact (by assumption : Same _ _) _ _ (by walk_at "know"))
local macro_rules | `(tactic| walk_at "at") => `(tactic| first | exact Own.at_ (by assumption) (by walk_at "sel") | exact Own.know (by assumption) (by walk_at "know"))
local macro_rules | `(tactic| walk_at "sql") => `(tactic| first | assumption | exact SqL.of (by walk_at "at") | exact Own.sqL (by assumption) (by assumption))
local macro_rules | `(tactic| walk_at "sqt") => `(tactic| first | assumption | exact SqT.of (by walk_at "at") | exact Own.sqT (by assumption) (by assumption))
local macro_rules | `(tactic| walk_at "num") => `(tactic| first | omega | exact Or.inl (by omega) | exact Or.inr (by omega) | decide)
local macro_rules | `(tactic| walk_at "st1") => `(tactic| first
  | with_reducible refine g_asg ?_ | with_reducible refine g_name ?_ | with_reducible refine g_op ?_ | with_reducible refine g_var (by with_unfolding_all rfl) ?_ | with_reducible refine g_c ?_
  | with_reducible refine g_cons ?_ | with_reducible refine g_nil ?_ | with_reducible refine g_ret ?_ | with_reducible refine g_next ?_ | with_reducible refine g_drop ?_ | with_reducible refine g_ifS ?_ | with_reducible refine g_test ?_ | with_reducible refine g_B ?_ | with_reducible refine g_kTest ?_
  | with_reducible refine g_ifT (by with_unfolding_all rfl) ?_ | with_reducible refine g_ifF (by with_unfolding_all rfl) ?_
  | with_reducible refine g_and ?_ | with_reducible refine g_or ?_ | with_reducible refine g_not ?_ | with_reducible refine g_andV ?_ | with_reducible refine g_orV ?_ | with_reducible refine g_notV ?_ | with_reducible refine g_kNotV ?_ | with_reducible refine g_if ?_
  | with_reducible refine g_cb ?_ | with_reducible refine g_call ?_ | with_reducible refine g_kCall ?_ | with_reducible refine g_lst ?_ | with_reducible refine g_tup ?_ | with_reducible refine g_un ?_
  | with_reducible refine g_kLst (by assumption) (by with_unfolding_all rfl) (fun _ _ _ => ?_) | with_reducible refine g_kTup (by assumption) (by with_unfolding_all rfl) (fun _ _ _ => ?_)
  | with_reducible refine g_addI ?_ | with_reducible refine g_subI ?_ | with_reducible refine g_ltI ?_ | with_reducible refine g_leI ?_ | with_reducible refine g_gtI ?_ | with_reducible refine g_geI ?_ | with_reducible refine g_eqI ?_ | with_reducible refine g_eqS ?_ | with_reducible refine g_eqB ?_
  | with_reducible refine g_neI ?_ | with_reducible refine g_neS ?_ | with_reducible refine g_neB ?_
  | with_reducible refine g_mulI (by with_unfolding_all walk_at "num") ?_ | with_reducible refine g_divI (by with_unfolding_all walk_at "num") ?_ | with_reducible refine g_modI (by with_unfolding_all walk_at "num") ?_ | with_reducible refine g_powI (by with_unfolding_all walk_at "num") ?_ | with_reducible refine g_int ?_ | with_reducible refine g_abs ?_ | with_reducible refine g_min2 ?_ | with_reducible refine g_max2 ?_
  | with_reducible refine g_addS (by with_unfolding_all walk_at "num") ?_ | with_reducible refine g_lenS (by with_unfolding_all walk_at "num") ?_
  | with_reducible refine g_bm ?_ | with_reducible refine g_kBMs ?_ | with_reducible refine g_starts ?_ | with_reducible refine g_sl ?_ | with_reducible refine g_noPart ?_ | with_reducible refine g_part ?_ | with_reducible refine g_kPart ?_
  | with_reducible refine g_setL ?_ | with_reducible refine g_gCons ?_ | with_reducible refine g_gNil ?_ | with_reducible refine g_tupT (by with_unfolding_all walk_at "sqt") (by with_unfolding_all rfl) ?_
  | with_reducible refine g_ixL (by with_unfolding_all walk_at "sql") (by with_unfolding_all rfl) ?_ | with_reducible refine g_ixT (by with_unfolding_all walk_at "sqt") (by with_unfolding_all rfl) ?_
  | with_reducible refine g_rSetL (by assumption) (by with_unfolding_all walk_at "sel") (by with_unfolding_all rfl) (fun _ _ => ?_)
  | with_reducible refine g_lcL ?_ | with_reducible refine g_lcT ?_ | with_reducible refine g_lcR ?_ | with_reducible refine g_forL ?_ | with_reducible refine g_forT ?_ | with_reducible refine g_forR ?_ | with_reducible refine g_forS ?_
  | with_reducible refine g_kTg (by with_unfolding_all rfl) ?_ | with_reducible refine g_yes ?_ | with_reducible refine g_kTsT (by with_unfolding_all rfl) ?_ | with_reducible refine g_kTsF (by with_unfolding_all rfl) ?_
  | with_reducible refine g_aug (by with_unfolding_all rfl) ?_ | with_reducible refine g_ipI ?_
  | with_reducible refine g_whT (by with_unfolding_all rfl) ?_ | with_reducible refine g_whF (by with_unfolding_all rfl) ?_
  | with_reducible refine g_break ?_ | with_reducible refine g_cont ?_ | with_reducible refine g_retN ?_
  | with_reducible refine g_ifET (by with_unfolding_all rfl) ?_ | with_reducible refine g_ifEF (by with_unfolding_all rfl) ?_
  | with_reducible refine g_kCallN (by with_unfolding_all rfl) (by with_unfolding_all rfl) ?_ | with_reducible refine g_callN ?_)
local macro_rules | `(tactic| walk_at "go1") => `(tactic| first | with_reducible refine g_seq ?_ | walk_at "st1")
local macro_rules | `(tactic| walk_at "go") => `(tactic| repeat' (walk_at "go1"))
local macro_rules | `(tactic| walk_at "upto") => `(tactic| repeat' (walk_at "st1"))
local macro_rules | `(tactic| walk_at "pure") => `(tactic| (first
  | with_reducible apply g_kOrVP | with_reducible apply g_kAndVP | with_reducible apply g_orP | with_reducible apply g_andP); (· intro _ hq; walk_at "go"; exact hq))


abbrev sp__law_bag (K : PySem.W.Frag) : Sp := Sp2 fun x y H Q _ => ∃ (K0 : Hp) (L : Ow) (a : Addr) (i : Nat) (ns : List Int), x = .ref a ∧ y = .int i ∧ Own K0 L H ∧ SqL K K0 a (ns.map V.int) ∧ i ≤ 1000 ∧
  ∀ p g m c H', BagOk g m c → Own K0 ((p, BagO g m c) :: L) H' → Q (.ref p) H'
def primes : List Int := [2147483629, 2147483587, 2147483579, 2147483563, 2147483549, 2147483543, 2147483497, 2147483489]
theorem primes_ok : ∀ p ∈ primes, 0 < p ∧ p < 2147483648 := by decide
def t__law_bag (K : PySem.W.Frag) : TS :=
  (tSeq (tAsg (tC (.int 0)) (gName 2))
    (tSeq (tIfS (tTest (tOp kLt (tVar 1) (tCB (kLen K) (tCons (tVar 0) tNil)))) (tAsg (tOp (kIx K) (tVar 0) (tVar 1)) (gName 2)) tNext)
    (tSeq (tAsg (tC (.int 0)) (gName 3))
    (tSeq (tIfS (tTest (tOp kGe (tCB kAbs (tCons (tVar 2) tNil)) (tOp kPow (tC (.int 10)) (tC (.int 18))))) (tAsg (tCB kAbs (tCons (tVar 2) tNil)) (gName 3)) tNext)
    (tSeq (tAsg (tLst (tCons (tC (.int 2147483629)) (tCons (tC (.int 2147483587)) (tCons (tC (.int 2147483579)) (tCons (tC (.int 2147483563)) (tCons (tC (.int 2147483549)) (tCons (tC (.int 2147483543)) (tCons (tC (.int 2147483497)) (tCons (tC (.int 2147483489)) tNil))))))))) (gName 4))
    (tRet (tLst (tCons (tVar 3) (tCons (tOp kMod (tCB kInt (tCons (tOp kPow (tOp (kAdd K) (tOp (kAdd K) (tOp kMod (tCB kInt (tCons (tVar 2) tNil)) (tC (.int 2147483647))) (tOp kMul (tC (.int 104711)) (tVar 1))) (tC (.int 37))) (tC (.int 5))) tNil)) (tOp (kIx K) (tVar 4) (tOp kMod (tVar 1) (tC (.int 8))))) (tCons (tC (.int 0)) tNil))))))))))

theorem c__law_bag {K : PySem.W.Frag} {mg : Str → Option Value} {vs : List V} {H : Hp} {Q : VK} {E : XK} (T : Txt K mg) (h : sp__law_bag K vs H Q E) : t__law_bag K { nx := fun _ H1 => Q .non H1, rt := Q } (start ["_law_script", "_law_at", "_law_cell", "_law_great", "_law_primes"] vs) H := by
  obtain ⟨_, _, rfl, K0, L, a, i, ns, rfl, rfl, w, ha, hi, hQ⟩ := sp2 h
  unfold t__law_bag
  have hA : SqL K H a (ns.map V.int) := w.sqL ha
  walk_at "go"
  refine g_lenL hA ?_
  walk_at "go"
  refine g_ifJ (fun σ1 H1 => ∃ c : Int, σ1 = [some (.ref a), some (.int i), some (.int c), none, none] ∧ H1 = H) ?_ (fun n' hn' => g_ifD (fun e => ?_) (fun e => ?_))
  · rintro σ1 H1 ⟨cell, rfl, rfl⟩
    walk_at "go"
    refine g_ifJ (fun σ1 H2 => ∃ g : Int, 0 ≤ g ∧ σ1 = [some (.ref a), some (.int i), some (.int cell), some (.int g), none] ∧ H2 = H1) ?_ (fun n' hn' => g_ifD (fun e => ?_) (fun e => ?_))
    · rintro σ1 H2 ⟨g, hg, rfl, rfl⟩
      walk_at "go"
      rename_i p H3 w3
      have hd : 0 ≤ (i : Int) % 8 ∧ (i : Int) % 8 < 8 := ⟨Int.emod_nonneg _ (by decide), Int.emod_lt_of_pos _ (by decide)⟩
      obtain ⟨v, hv, hm⟩ := atI_mem (xs := primes.map V.int) hd.1 hd.2
      obtain ⟨pr, hpr, rfl⟩ := List.mem_map.mp hm
      have hp2 := primes_ok pr hpr
      refine g_ixL (SqL.of (w3.at_ .here)) hv ?_
      walk_at "go"
      rename_i p2 H4 w4
      exact hQ p2 g _ 0 H4 ⟨hg, Int.emod_nonneg _ (by omega), Int.lt_trans (Int.emod_lt_of_pos _ hp2.1) hp2.2⟩ w4.drop2
    · walk_at "go"
      exact hn' _ _ ⟨_, by split <;> omega, rfl, rfl⟩
    · exact hn' _ _ ⟨0, Int.le_refl _, rfl, rfl⟩
  · walk_at "go"
    obtain ⟨v, hv, hm⟩ := atI_mem (xs := ns.map V.int) (d := (i : Int)) (by omega) e
    obtain ⟨n, hn, rfl⟩ := List.mem_map.mp hm
    refine g_ixL hA hv ?_
    walk_at "go"
    exact hn' _ _ ⟨n, rfl, rfl⟩
  · exact hn' _ _ ⟨0, rfl, rfl⟩
theorem ok__law_bag {P : Program} {w : World} {K : PySem.W.Frag} {mg : Str → Option Value} {base : Heap} (T : Txt K mg) :
    OkD P w K mg base CX0 1 (He.ga K "_law_bag") ["_law_script", "_law_at"] (sp__law_bag K) := by
  obtain ⟨fd, F⟩ := T.f__law_bag
  exact ⟨⟨fd, F.ok sc__law_bag (fun vs H Q E h => len2 h) fun cdv A outer s H vs Q E hr h => ⟨t__law_bag K, PSs.nox (pss_cons (pset 2 sc__law_bag.nd pe_int)
    (pss_cons (ps_if (pt_cmpR ok_lt (pv 1) (pe_callB ok_len rfl T.n_len (by decide +kernel) (pa_cons (pv 0) pa_nil)) (nomark _)) (pss_one (pset 2 sc__law_bag.nd (pe_ix ok_ix (pv 0) (pv 1) (fun _ _ => rfl)))) pss_nil)
    (pss_cons (pset 3 sc__law_bag.nd pe_int)
    (pss_cons (ps_if (pt_cmpR ok_ge (pe_callB ok_abs rfl T.n_abs (by decide +kernel) (pa_cons (pv 2) pa_nil)) (pe_op ok_pow pe_int pe_int) (nomark _)) (pss_one (pset 3 sc__law_bag.nd (pe_callB ok_abs rfl T.n_abs (by decide +kernel) (pa_cons (pv 2) pa_nil)))) pss_nil)
    (pss_cons (pset 4 sc__law_bag.nd (pe_lst (pa_cons pe_int (pa_cons pe_int (pa_cons pe_int (pa_cons pe_int (pa_cons pe_int (pa_cons pe_int (pa_cons pe_int (pa_cons pe_int pa_nil))))))))))
    (pss_one (ps_ret (pe_lst (pa_cons (pv 3) (pa_cons (pe_op ok_mod (pe_callTy ok_int rfl T.n_int (by decide +kernel) (pa_cons (pe_op ok_pow (pe_op ok_add (pe_op ok_add (pe_op ok_mod (pe_callTy ok_int rfl T.n_int (by decide +kernel) (pa_cons (pv 2) pa_nil)) pe_int) (pe_op ok_mul pe_int (pv 1))) pe_int) pe_int) pa_nil)) (pe_ix ok_ix (pv 4) (pe_op ok_mod (pv 1) pe_int) (fun _ _ => rfl))) (pa_cons pe_int pa_nil))))))))))), c__law_bag T h⟩, F.bindsN fun _ _ _ _ _ _ us hl => match us, hl with | [_, _], _ => rfl, isFd_of F⟩, F.kp⟩


def somes : List Str := ["a", "a.b", "b", "main", "c"]
theorem somes_ok : ∀ s ∈ somes, SOk s := by unfold SOk; decide +kernel
abbrev sp_law (K : PySem.W.Frag) : Sp := Sp1 fun x H Q _ => ∃ (a : Addr) (ns : List Int), x = .ref a ∧ SqL K H a (ns.map V.int) ∧ ns.length ≤ 63 ∧ ∀ H', Q (.bl true) H'
theorem own_start (H : Hp) : Own H [] H := ⟨Same.refl _, fun _ h => (by cases h), fun _ h => (by cases h), List.nodup_nil⟩
def t_law (K : PySem.W.Frag) : TS :=
  (tSeq (tFor (iRng1 (tCons (tCB kMax2 (tCons (tC (.int 1)) (tCons (tCB kMin2 (tCons (tC (.int 4)) (tCons (tCB (kLen K) (tCons (tVar 0) tNil)) tNil))) tNil))) tNil)) (gName 1) (tSeq (tAsg (tCall (sp__law_bag K) [] E0 (tCons (tVar 0) (tCons (tVar 1) tNil))) (gName 2))
    (tFor (iRng1 (tCons (tC (.int 10)) tNil)) (gName 3) (tSeq (tAsg (tCB (kTuple K) (tCons (tLc (iRng1 (tCons (tCall (sp__law_take K) [] E0 (tCons (tVar 2) (tCons (tC (.int 4)) tNil))) tNil)) (gName 5) tYes (tCall (sp__law_pick K) [] E0 (tCons (tVar 2) (tCons (tLst (tCons (tC (.str "a")) (tCons (tC (.str "a.b")) (tCons (tC (.str "b")) (tCons (tC (.str "main")) (tCons (tC (.str "c")) tNil)))))) tNil))) [5]) tNil)) (gName 4))
    (tIfS (tNot (tB (tCall (sp__law_right K) [] E0 (tCons (tVar 2) (tCons (tCall (sp__law_frames K) [] E0 (tCons (tVar 2) (tCons (tC (.int 8)) tNil))) (tCons (tOp (kAdd K) (tC (.int 1)) (tCall (sp__law_take K) [] E0 (tCons (tVar 2) (tCons (tC (.int 12)) tNil)))) (tCons (tVar 4) tNil))))))) (tRet (tC (.bl false))) tNext)))))
    (tRet (tC (.bl true))))

theorem c_law {K : PySem.W.Frag} {mg : Str → Option Value} {vs : List V} {H : Hp} {Q : VK} {E : XK} (T : Txt K mg) (h : sp_law K vs H Q E) : t_law K { nx := fun _ H1 => Q .non H1, rt := Q } (start ["_law_script", "_law_at", "_law_bag_here", "_law_turn", "_law_passed", "_law_k"] vs) H := by
  obtain ⟨_, rfl, a, ns, rfl, ha, hns, hQ⟩ := sp1 h
  unfold t_law
  have w := own_start H
  walk_at "go"
  refine g_lenL ha ?_
  walk_at "go"
  have hn : ((ns.map V.int).length : Int) ≤ 63 := by rw [List.length_map]; omega
  generalize ((ns.map V.int).length : Int) = nn at hn
  refine fo_R w (by split <;> split <;> omega) (fun i σ K' L' => L' = [] ∧ ∃ z1 z2 z3 z4 z5, σ = [some (.ref a), z1, z2, z3, z4, z5]) ⟨rfl, _, _, _, _, _, rfl⟩ ?_ ?_
  · rintro i σ K1 L1 H1 hi sm ⟨rfl, z1, z2, z3, z4, z5, rfl⟩ w1
    walk_at "go"
    refine ⟨K1, [], a, i, ns, rfl, rfl, w1, sqL_mono sm ha, by (repeat' split at hi) <;> omega, fun b g m c H2 ok w2 => ?_⟩
    walk_at "go"
    refine fo_R w2 (by omega) (fun j σ K' L' => (∃ g m c, L' = [(b, BagO g m c)] ∧ BagOk g m c) ∧ ∃ z3 z4 z5, σ = [some (.ref a), some (.int i), some (.ref b), z3, z4, z5]) ⟨⟨g, m, c, rfl, ok⟩, _, _, _, rfl⟩ ?_ ?_
    · rintro j σ K2 L2 H3 hj sm2 ⟨⟨g1, m1, c1, rfl, ok1⟩, z3, z4, z5, rfl⟩ w3
      walk_at "go"
      refine u_take w3 .here ok1 (by omega) fun d g2 m2 c2 H4 hd ok2 w4 => ?_
      walk_at "go"
      refine lc_R w4 (by omega) (fun i acc K' L' => ∃ g m c ps, L' = [(b, BagO g m c)] ∧ BagOk g m c ∧ acc = ps.map V.str ∧ (∀ p ∈ ps, SOk p)) ⟨g2, m2, c2, [], rfl, ok2, rfl, fun _ h => by cases h⟩ ?_ (by omega) ?_
      · rintro D i2 acc K' L' H12 hi2 hl12 sm12 ⟨g12, m12, c12, ps, rfl, ok12, rfl, hps⟩ w12
        walk_at "go"
        rename_i as H13 w13
        refine u_pick w13 (.there (.there .here)) ok12 (SqL.of (w13.at_ .here)) (fun z H4 w4 => SqL.of (w4.at_ .here)) (by decide) fun v g13 m13 c13 H14 hv ok13 w14 => ?_
        obtain ⟨md, hmd, rfl⟩ := List.mem_map.mp (show v ∈ somes.map V.str from hv)
        refine g_kEl w14.drop sm12 hl12 (by omega) ⟨g13, m13, c13, ps ++ [md], rfl, ok13, by rw [List.map_append]; rfl, ?_⟩
        intro q hq
        rcases List.mem_append.mp hq with h | h
        · exact hps q h
        · rw [List.mem_singleton.mp h]; exact somes_ok md hmd
      rintro D acc K4 L' H12 hl12 sm12 ⟨g12, m12, c12, ps, rfl, ok12, rfl, hps⟩ w12
      walk_at "go"
      refine g_tupleL w12 (SqL.of (w12.at_ .here)) fun pt H13 w13 => ?_
      walk_at "go"
      have w14 := w13.drop2.freeze
      have s14 := w13.drop2.same
      have hpt : SqT K (upd K4 pt (.tup (ps.map V.str))) pt (ps.map V.str) := SqT.of upd_same
      generalize upd K4 pt (.tup (ps.map V.str)) = K5 at w14 s14 hpt
      refine u_frames w14 .here ok12 (by omega) fun p vs frs K6 g6 m6 c6 H6 s6 ok6 w6 hp hf hd6 => ?_
      walk_at "go"
      refine u_take w6 .here ok6 (by omega) fun d7 g7 m7 c7 H7 hd7 ok7 w7 => ?_
      walk_at "go"
      obtain ⟨lev, hlev⟩ : ∃ lev : Nat, 1 + d7 = (lev : Int) := ⟨(1 + d7).toNat, by omega⟩
      rw [hlev]
      have hpsl : ps.length ≤ 100 := by rw [List.length_map] at hl12; omega
      refine ⟨K6, _, _, b, p, pt, g7, m7, c7, lev, vs, frs, ps, rfl, rfl, rfl, rfl, w7, .here, ok7, hp, hf, hd6, sqT_mono s6 hpt, hps, hpsl, by omega, by omega, fun K7 g8 m8 c8 H8 s8 ok8 w8 => ?_⟩
      walk_at "go"
      exact g_foInv w8 (sm2.trans (sm12.trans (s14.trans (s6.trans s8)))) ⟨⟨_, _, _, rfl, ok8⟩, _, _, _, rfl⟩
    · rintro σ K2 L2 H3 sm2 ⟨⟨g1, m1, c1, rfl, ok1⟩, z3, z4, z5, rfl⟩ w3
      exact g_foInv w3.drop (sm.trans sm2) ⟨rfl, _, _, _, _, _, rfl⟩
  · rintro σ K1 L1 H1 sm ⟨rfl, z1, z2, z3, z4, z5, rfl⟩ w1
    walk_at "go"
    exact hQ _
theorem ok_law {P : Program} {w : World} {K : PySem.W.Frag} {mg : Str → Option Value} {base : Heap} (T : Txt K mg) (D__law_bag : OkD P w K mg base CX0 1 (He.ga K "_law_bag") ["_law_script", "_law_at"] (sp__law_bag K)) (D__law_frames : OkD P w K mg base CX0 3 (He.ga K "_law_frames") ["_law_bag_here", "_law_most"] (sp__law_frames K)) (D__law_pick : OkD P w K mg base CX0 2 (He.ga K "_law_pick") ["_law_bag_here", "_law_some"] (sp__law_pick K)) (D__law_right : OkD P w K mg base CX0 6 (He.ga K "_law_right") ["_law_bag_here", "_law_frames_here", "_law_height", "_law_passed"] (sp__law_right K)) (D__law_take : OkD P w K mg base CX0 1 (He.ga K "_law_take") ["_law_bag_here", "_law_many"] (sp__law_take K)) :
    OkD P w K mg base CX0 7 (He.ga K "law") ["_law_script"] (sp_law K) := by
  obtain ⟨fd, F⟩ := T.f_law
  exact ⟨⟨fd, F.ok sc_law (fun vs H Q E h => len1 h) fun cdv A outer s H vs Q E hr h => ⟨t_law K, PSs.nox (pss_cons (ps_for PassesOwn.never rfl (pi_range1 rfl T.n_range (pa_cons (pe_callB (ok_max2 rfl) rfl T.n_max (by decide +kernel) (pa_cons pe_int (pa_cons (pe_callB (ok_min2 rfl) rfl T.n_min (by decide +kernel) (pa_cons pe_int (pa_cons (pe_callB ok_len rfl T.n_len (by decide +kernel) (pa_cons (pv 0) pa_nil)) pa_nil))) pa_nil))) pa_nil)) (gn 1 sc_law.nd) (pss_cons (pset 2 sc_law.nd (pe_callD D__law_bag (hr.mono (by decide)) rfl T.g__law_bag pass0 (pa_cons (pv 0) (pa_cons (pv 1) pa_nil))))
    (pss_one (ps_for PassesOwn.never rfl (pi_range1 rfl T.n_range (pa_cons pe_int pa_nil)) (gn 3 sc_law.nd) (pss_cons (pset 4 sc_law.nd (pe_callTy ok_tuple rfl T.n_tuple (by decide +kernel) (pa_cons (pe_lc (own := [("_law_k", 5)]) rfl sc_law.nd  (pi_range1 rfl T.n_range (pa_cons (pe_callD D__law_take (hr.mono (by decide)) rfl T.g__law_take pass0 (pa_cons (pv 2) (pa_cons pe_int pa_nil))) pa_nil)) (blkOk_by (own := [("_law_k", 5)]) (N := ["_law_script", "_law_at", "_law_bag_here", "_law_turn", "_law_passed", "_law_k"]) (sc := defScope s_law) (by decide +kernel)) (fun _ _ _ _ _ => (gn 5 sc_law.nd)) (fun _ _ _ _ _ => pts_nil) (fun _ _ _ _ _ => (pe_callD D__law_pick (hr.mono (by decide)) rfl T.g__law_pick pass0 (pa_cons (pv 2) (pa_cons (pe_lst (pa_cons pe_str (pa_cons pe_str (pa_cons pe_str (pa_cons pe_str (pa_cons pe_str pa_nil)))))) pa_nil))))) pa_nil)))
    (pss_one (ps_if (pt_not (pt_val (pe_callD D__law_right (hr.mono (by decide)) rfl T.g__law_right pass0 (pa_cons (pv 2) (pa_cons (pe_callD D__law_frames (hr.mono (by decide)) rfl T.g__law_frames pass0 (pa_cons (pv 2) (pa_cons pe_int pa_nil))) (pa_cons (pe_op ok_add pe_int (pe_callD D__law_take (hr.mono (by decide)) rfl T.g__law_take pass0 (pa_cons (pv 2) (pa_cons pe_int pa_nil)))) (pa_cons (pv 4) pa_nil))))))) (pss_one (ps_ret pe_bl)) pss_nil)))))))
    (pss_one (ps_ret pe_bl))), c_law T h⟩, F.bindsN fun _ _ _ _ _ _ us hl => match us, hl with | [_], _ => rfl, isFd_of F⟩, F.kp⟩

end Wf

set_option Elab.async false
set_option linter.all false
set_option maxRecDepth 100000
set_option maxHeartbeats 0
namespace Wf
open PySem PySem.Spec PyProof.Rows L2 TL
def d_is_inside : He.DefD := ⟨("is_inside", none), "is_inside", "is_inside", defArgs s_is_inside, defBody s_is_inside, defScope s_is_inside, [], []⟩
def d_is_internal : He.DefD := ⟨("is_internal", none), "is_internal", "is_internal", defArgs s_is_internal, defBody s_is_internal, defScope s_is_internal, [], []⟩
def d_is_skipped : He.DefD := ⟨("is_skipped", none), "is_skipped", "is_skipped", defArgs s_is_skipped, defBody s_is_skipped, defScope s_is_skipped, [], []⟩
def d_next_frame : He.DefD := ⟨("next_frame", none), "next_frame", "next_frame", defArgs s_next_frame, defBody s_next_frame, defScope s_next_frame, [], []⟩
def d_place : He.DefD := ⟨("place", none), "place", "place", defArgs s_place, defBody s_place, defScope s_place, [], [("level", (.int 1)), ("skip", .adr (kwAt ("place", none) "skip"))]⟩
def d__law_bag : He.DefD := ⟨("_law_bag", none), "_law_bag", "_law_bag", defArgs s__law_bag, defBody s__law_bag, defScope s__law_bag, [], []⟩
def d__law_take : He.DefD := ⟨("_law_take", none), "_law_take", "_law_take", defArgs s__law_take, defBody s__law_take, defScope s__law_take, [], []⟩
def d__law_pick : He.DefD := ⟨("_law_pick", none), "_law_pick", "_law_pick", defArgs s__law_pick, defBody s__law_pick, defScope s__law_pick, [], []⟩
def d__law_frames : He.DefD := ⟨("_law_frames", none), "_law_frames", "_law_frames", defArgs s__law_frames, defBody s__law_frames, defScope s__law_frames, [], []⟩
def d__law_is_internal : He.DefD := ⟨("_law_is_internal", none), "_law_is_internal", "_law_is_internal", defArgs s__law_is_internal, defBody s__law_is_internal, defScope s__law_is_internal, [], []⟩
def d__law_mixed : He.DefD := ⟨("_law_mixed", none), "_law_mixed", "_law_mixed", defArgs s__law_mixed, defBody s__law_mixed, defScope s__law_mixed, [], []⟩
def d__law_right : He.DefD := ⟨("_law_right", none), "_law_right", "_law_right", defArgs s__law_right, defBody s__law_right, defScope s__law_right, [], []⟩
def d_law : He.DefD := ⟨("law", none), "law", "law", defArgs s_law, defBody s_law, defScope s_law, [], []⟩
def fn : List He.DefD := [d_is_inside, d_is_internal, d_is_skipped, d_next_frame, d_place, d__law_bag, d__law_take, d__law_pick, d__law_frames, d__law_is_internal, d__law_mixed, d__law_right, d_law]
def fa : List Fa := [.he (.str "POINT" "."), .he (.str "INTERNAL" "importlib"), .he (.glo "OUTSIDE"), .he (.int "NEAREST" 1), .he (.glo "is_inside"), .he (.glo "is_internal"), .he (.glo "is_skipped"), .he (.glo "next_frame"), .he (.glo "place"), .he (.glo "_law_bag"), .he (.glo "_law_take"), .he (.glo "_law_pick"), .he (.glo "_law_frames"), .he (.glo "_law_is_internal"), .he (.glo "_law_mixed"), .he (.glo "_law_right"), .he (.glo "law"), .he (.free "abs"), .he (.free "any"), .he (.free "int"), .he (.free "len"), .he (.free "list"), .he (.free "max"), .he (.free "min"), .he (.free "range"), .he (.free "tuple"), .tup "OUTSIDE" [(.str "sys"), (.int 1)], .kwt ("place", none) "skip" []]
def loose0 : List Str := ["POINT", "INTERNAL", "OUTSIDE", "NEAREST", "is_inside", "is_internal", "is_skipped", "next_frame", "place", "_law_bag", "_law_take", "_law_pick", "_law_frames", "_law_is_internal", "_law_mixed", "_law_right"]
def loose : List Str := loose0
abbrev R : PySem.W.OpenRow := PySem.W.OpenLaw.row PySem.Challenge.rw_warnfilters_k35_whole_ways_outwards
abbrev hk : PySem.W.Hook := hookW 4 fa fn
def ob (s : PySem.W.SharedT) : He.AlD := obsWG 4 fa fn (HandSHeadRun.getT s)
theorem ob_eq (s : PySem.W.SharedT) : ob s = hk.obs s.abs := obsWG_eq (HandSHeadRun.getT_eq s)
theorem run (w : World) : HandSHeadRun.RunEq R (PySem.W.view R.prog [19]) hk ob 6000 loose w := by
  intro os
  kernel_rfl
theorem txt {K : PySem.W.Frag} {h : Heap} {mg : Str → Option Value} (X : K.In h) (G : h.Ns mainGlobals mg) (c : SaysW fa fn K) : Txt K mg := by
  refine ⟨He.str_ok X G (c.fact 0 rfl),
    He.str_ok X G (c.fact 1 rfl),
    He.glo_ok X G (c.fact 2 rfl),
    He.int_ok X G (c.fact 3 rfl),
    He.glo_ok X G (c.fact 4 rfl),
    He.glo_ok X G (c.fact 5 rfl),
    He.glo_ok X G (c.fact 6 rfl),
    He.glo_ok X G (c.fact 7 rfl),
    He.glo_ok X G (c.fact 8 rfl),
    He.glo_ok X G (c.fact 9 rfl),
    He.glo_ok X G (c.fact 10 rfl),
    He.glo_ok X G (c.fact 11 rfl),
    He.glo_ok X G (c.fact 12 rfl),
    He.glo_ok X G (c.fact 13 rfl),
    He.glo_ok X G (c.fact 14 rfl),
    He.glo_ok X G (c.fact 15 rfl),
    He.glo_ok X G (c.fact 16 rfl),
    He.free_ok X G (c.fact 17 rfl),
    He.free_ok X G (c.fact 18 rfl),
    He.free_ok X G (c.fact 19 rfl),
    He.free_ok X G (c.fact 20 rfl),
    He.free_ok X G (c.fact 21 rfl),
    He.free_ok X G (c.fact 22 rfl),
    He.free_ok X G (c.fact 23 rfl),
    He.free_ok X G (c.fact 24 rfl),
    He.free_ok X G (c.fact 25 rfl),
    c.def_ 0 rfl,
    c.def_ 1 rfl,
    c.def_ 2 rfl,
    c.def_ 3 rfl,
    c.def_ 4 rfl,
    c.def_ 5 rfl,
    c.def_ 6 rfl,
    c.def_ 7 rfl,
    c.def_ 8 rfl,
    c.def_ 9 rfl,
    c.def_ 10 rfl,
    c.def_ 11 rfl,
    c.def_ 12 rfl,
    c.tup 26 rfl,
    c.kwt 27 rfl⟩

theorem facts {P : Program} {w : World} {K : PySem.W.Frag} {h : Heap} {mg : Str → Option Value} {f : Addr} (X : K.In h) (G : h.Ns mainGlobals mg) (hfa : mg ("law" : Str) = some (.ref f)) (c : SaysW fa fn K) :
    ∃ fd : FuncData, (∀ (s : Shared) (v : Value), BindsTo s fd ⟨[v], []⟩ [("_law_script", v)]) ∧ ∀ base : Heap, K.In base → base.Ns mainGlobals mg → FnOk P w K mg base CX0 7 f fd ["_law_script"] (sp_law K) := by
  have T := txt X G c
  obtain ⟨fd0, F0⟩ := T.f_law
  have e := hfa.symm.trans T.g_law
  cases e
  refine ⟨fd0, fun s v => FunD.bindsA (ps := ["_law_script"]) F0 (fun _ _ _ _ _ _ us hl => match us, hl with | [_], _ => rfl) s [v] rfl, fun base _ _ => ?_⟩
  have D__law_bag := ok__law_bag (P := P) (w := w) (base := base) T
  have D__law_take := ok__law_take (P := P) (w := w) (base := base) T
  have D__law_pick := ok__law_pick (P := P) (w := w) (base := base) T D__law_take
  have D__law_frames := ok__law_frames (P := P) (w := w) (base := base) T D__law_pick D__law_take
  have D__law_is_internal := ok__law_is_internal (P := P) (w := w) (base := base) T
  have D__law_mixed := ok__law_mixed (P := P) (w := w) (base := base) T D__law_pick D__law_take
  have D_is_inside := ok_is_inside (P := P) (w := w) (base := base) T
  have D_is_internal := ok_is_internal (P := P) (w := w) (base := base) T D_is_inside
  have D_is_skipped := ok_is_skipped (P := P) (w := w) (base := base) T D_is_inside D_is_internal
  have D_next_frame := ok_next_frame (P := P) (w := w) (base := base) T D_is_skipped
  have D_place := ok_place (P := P) (w := w) (base := base) T D_is_internal D_next_frame
  have D__law_right := ok__law_right (P := P) (w := w) (base := base) T D__law_frames D__law_is_internal D__law_mixed D_place
  have D_law := ok_law (P := P) (w := w) (base := base) T D__law_bag D__law_frames D__law_pick D__law_right D__law_take
  obtain ⟨⟨fd, Fn, _, i⟩, _⟩ := D_law
  cases i.inj (isFd_of F0)
  exact Fn
end Wf
open PySem PySem.W PySem.Calls PyProof.Rows
theorem PySem.Challenge.cw_warnfilters_k35_whole_ways_outwards_holds : PySem.Challenge.rw_warnfilters_k35_whole_ways_outwards.Holds := by
  w_on; o_law
  refine HandSHeadRun.head_any (r := OpenLaw.row PySem.Challenge.rw_warnfilters_k35_whole_ways_outwards) (q := view (OpenLaw.row PySem.Challenge.rw_warnfilters_k35_whole_ways_outwards).prog [19]) (H := Wf.hk) (ob := Wf.ob) (M := 6000) (loose := Wf.loose) (d := HandSHeadRun.topDef (OpenLaw.row PySem.Challenge.rw_warnfilters_k35_whole_ways_outwards).prog 19) (kwd := []) Wf.ob_eq
    (by kernel_rfl) (fun s => by kernel_rfl) Wf.run (by kernel_rfl) (by kernel_rfl) (by kernel_rfl) (by rfl) (by first | assumption | decide +kernel) (by decide +kernel) ⟨rfl, rfl, rfl, rfl, rfl, by decide +kernel⟩ ?hw ?hc
  case hw => w_witness2
  case hc =>
    refine L2.walk_ofE (l := PySem.Challenge.rw_warnfilters_k35_whole_ways_outwards) (n := 63) (k := 7) (x := "_law_script") (CX := L2.CX0) rfl (by decide) (by kernel_rfl) ⟨rfl, by decide, by decide⟩ ?F (fun _ _ _ _ z => z)
    intro w mg fa h Y G hmg0
    obtain ⟨K, KX, c⟩ := Y
    have hmg : mg ("law" : PySem.Str) = some (.ref fa) := by
      have e : (HandSHeadRun.topDef (OpenLaw.row PySem.Challenge.rw_warnfilters_k35_whole_ways_outwards).prog 19).name = ("law" : PySem.Str) := by kernel_rfl
      rw [← e]
      exact hmg0
    obtain ⟨fd, hb, hF⟩ := Wf.facts (P := (PySem.Challenge.rw_warnfilters_k35_whole_ways_outwards).prog) (w := w) KX G hmg c
    exact ⟨K, fd, Wf.sp_law K, KX, hb, fun H a ns hl _ hS => ⟨a, ns, rfl, hS, hl, fun _ => rfl⟩, hF⟩


