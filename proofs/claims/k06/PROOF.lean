import PyProof.Rows.All
import Wide.All
import OpenK.AllK
import Wide.FinOn
import KE.KStateDown
import HandS.ForMost
import HandS.Exc
import HandS.Defaults
import HandS.IsInst
import HandS.SortInts
import HandS.Wide
import HandS.Style
import HandS.Evl
import HandS.Head0
import HandS.Head1
import HandS.Head2
import HandS.HeadEnd
import HandS.HeadHook1
import HandS.HeadHook2
import HandS.EndBits
import KE.KExcSuper
import HandS.ExcInit
import HandS.ExcSuper
import HandS.HeadWalk
import HandS.ExcIs
import HandS.ExcOwn
import HandS.WordsExc
import HandS.Property
import HandS.ClsMeth
import HandS.MakeKw
import HandS.MakeKwOnly
import HandS.FStr
import HandS.TupAny
import HandS.More
import PyProof.StrOps2
import KE.KExcIs
import HandS.CallSlots
import HandS.OwnEq
import KE.KOpsOwn
import KE.KCallOwn
import HandS.Replace
import PySem.Challenge.RW_forkbeats_k06_tuning_text_refused
set_option Elab.async false
set_option linter.all false
set_option maxRecDepth 100000
set_option maxHeartbeats 4000000
namespace Lg
open PySem PySem.Spec PyProof.Rows L2
/-! ### worlds: what is known for good (I), what may change (M) -/
abbrev Md := List (Addr × HO)
def Sub (I J : Hp) : Prop := ∀ a o, I a = some o → J a = some o
theorem Sub.refl (I : Hp) : Sub I I := fun _ _ h => h
theorem Sub.trans {I J L : Hp} (a : Sub I J) (b : Sub J L) : Sub I L := fun x o h => b x o (a x o h)
structure Wd (H I : Hp) (M : Md) : Prop where
  im : ∀ a o, I a = some o → H a = some o
  mu : ∀ c ∈ M, H c.1 = some c.2 ∧ I c.1 = none
  nd : (M.map (·.1)).Nodup
theorem Wd.start (H : Hp) : Wd H H [] := ⟨fun _ _ h => h, fun _ h => (nomatch h), List.nodup_nil⟩
section
variable {H I J : Hp} {M N : Md} {p q : Addr} {o u : HO} {K : PySem.W.Frag} {xs : List V}
theorem Wd.hd (W : Wd H I ((p, o) :: M)) : H p = some o := (W.mu _ (List.mem_cons_self ..)).1
theorem Wd.hn (W : Wd H I ((p, o) :: M)) : I p = none := (W.mu _ (List.mem_cons_self ..)).2
theorem Wd.get (W : Wd H I M) (i : Nat) (h : M[i]? = some (p, o) := by rfl) : H p = some o := (W.mu _ (List.mem_of_getElem? h)).1
theorem Wd.perm (W : Wd H I M) (h : M.Perm N) : Wd H I N := ⟨W.im, fun c hc => W.mu c (h.mem_iff.mpr hc), (h.map (·.1)).nodup_iff.mp W.nd⟩
theorem Wd.swap {c d : Addr × HO} (W : Wd H I (c :: d :: M)) : Wd H I (d :: c :: M) := W.perm (List.Perm.swap ..)
theorem Wd.rev3 {c d e : Addr × HO} (W : Wd H I (c :: d :: e :: M)) : Wd H I (e :: d :: c :: M) := W.perm ((List.Perm.swap ..).trans (((List.Perm.swap ..).cons _).trans (List.Perm.swap ..)))
theorem Wd.drop {c : Addr × HO} (W : Wd H I (c :: M)) : Wd H I M := ⟨W.im, fun d hd => W.mu d (List.mem_cons_of_mem _ hd), (List.nodup_cons.mp W.nd).2⟩
theorem Wd.rot {c : Addr × HO} (W : Wd H I (c :: M)) : Wd H I (M ++ [c]) := W.perm (List.perm_append_singleton c M).symm
theorem Wd.unrot {c : Addr × HO} (W : Wd H I (M ++ [c])) : Wd H I (c :: M) := W.perm (List.perm_append_singleton c M)
theorem Wd.none_mem (W : Wd H I M) (n : H p = none) : ∀ c ∈ M, c.1 ≠ p := fun c hc e => by
  have h := (W.mu c hc).1
  rw [e, n] at h
  cases h
theorem Wd.none_im (W : Wd H I M) (n : H p = none) : I p = none := by
  cases e : I p with
  | none => rfl
  | some x =>
    rw [W.im p x e] at n
    cases n
/-- junk is laid -/
theorem Wd.junk (W : Wd H I M) (n : H p = none) : Wd (upd H p o) I M :=
  ⟨fun a x h => by rw [upd_ne (ne_of_none (W.im a x h) n)]; exact W.im a x h, fun c hc => ⟨by rw [upd_ne (W.none_mem n c hc)]; exact (W.mu c hc).1, (W.mu c hc).2⟩, W.nd⟩
theorem Sub.new (n : I p = none) : Sub I (upd I p o) := fun a x h => by
  rw [upd_ne (ne_of_none h n)]
  exact h
/-- a new object that stays as it is -/
theorem Wd.im1 (W : Wd H I M) (n : H p = none) : Wd (upd H p o) (upd I p o) M :=
  ⟨fun a x h => by
    by_cases e : a = p
    · subst e
      rw [upd_same] at h ⊢
      exact h
    · rw [upd_ne e] at h ⊢
      exact W.im a x h, fun c hc => ⟨by rw [upd_ne (W.none_mem n c hc)]; exact (W.mu c hc).1, by rw [upd_ne (W.none_mem n c hc)]; exact (W.mu c hc).2⟩, W.nd⟩
/-- a new object that may change -/
theorem Wd.mu1 (W : Wd H I M) (n : H p = none) : Wd (upd H p o) I ((p, o) :: M) :=
  ⟨(W.junk n).im, fun c hc => by
    rcases List.mem_cons.mp hc with e | hc
    · subst e
      exact ⟨upd_same, W.none_im n⟩
    · exact (W.junk n).mu c hc, by
    show (p :: M.map (·.1)).Nodup
    refine List.nodup_cons.mpr ⟨fun h => ?_, W.nd⟩
    obtain ⟨c, hc, e⟩ := List.mem_map.mp h
    exact W.none_mem n c hc e⟩
theorem Wd.wr (W : Wd H I ((p, o) :: M)) : Wd (upd H p u) I ((p, u) :: M) :=
  ⟨fun a x h => by
    have ne : a ≠ p := ne_of_none h W.hn
    rw [upd_ne ne]
    exact W.im a x h, fun c hc => by
    rcases List.mem_cons.mp hc with e | hc
    · subst e
      exact ⟨upd_same, W.hn⟩
    · have ne : c.1 ≠ p := fun e => (List.nodup_cons.mp W.nd).1 (List.mem_map.mpr ⟨c, hc, e⟩)
      rw [upd_ne ne]
      exact W.mu c (List.mem_cons_of_mem _ hc), W.nd⟩
theorem Wd.wrAt (W : Wd H I M) (i : Nat) (h : M[i]? = some (p, o) := by rfl) : Wd (upd H p u) I (M.set i (p, u)) := by
  have hm := List.mem_of_getElem? h
  have hi : i < M.length := (List.getElem?_eq_some_iff.mp h).1
  have hp : I p = none := (W.mu _ hm).2
  have em : (M.set i (p, u)).map (·.1) = M.map (·.1) := by
    refine List.ext_getElem? fun j => ?_
    rw [List.getElem?_map, List.getElem?_map, List.getElem?_set]
    by_cases e : i = j
    · subst e
      rw [if_pos rfl, if_pos hi, h]
      rfl
    · rw [if_neg e]
  refine ⟨fun a x ha => ?_, fun c hc => ?_, em ▸ W.nd⟩
  · rw [upd_ne (ne_of_none ha hp)]
    exact W.im a x ha
  · obtain ⟨j, hj⟩ := List.mem_iff_getElem?.mp hc
    rw [List.getElem?_set] at hj
    by_cases e : i = j
    · rw [if_pos e, if_pos hi] at hj
      have hj := Option.some.inj hj
      subst hj
      exact ⟨upd_same, hp⟩
    · rw [if_neg e] at hj
      have hc := W.mu c (List.mem_of_getElem? hj)
      refine ⟨?_, hc.2⟩
      rw [upd_ne]
      · exact hc.1
      · intro q
        have h1 : (M.map (·.1))[i]? = some p := by rw [List.getElem?_map, h]; rfl
        have h2 : (M.map (·.1))[j]? = some p := by rw [List.getElem?_map, hj]; exact congrArg some q
        obtain ⟨i1, e1⟩ := List.getElem?_eq_some_iff.mp h1
        obtain ⟨i2, e2⟩ := List.getElem?_eq_some_iff.mp h2
        exact e ((List.getElem_inj W.nd).mp (e1.trans e2.symm))
theorem Wd.wrE (W : Wd H I (M ++ [(p, o)])) : Wd (upd H p u) I (M ++ [(p, u)]) := W.unrot.wr.rot
/-- from now on it stays as it is -/
theorem Wd.frz (W : Wd H I ((p, o) :: M)) : Wd H (upd I p o) M :=
  ⟨fun a x h => by
    by_cases e : a = p
    · subst e
      rw [upd_same] at h
      rw [W.hd]
      exact h
    · rw [upd_ne e] at h
      exact W.im a x h, fun c hc => by
    have ne : c.1 ≠ p := fun e => (List.nodup_cons.mp W.nd).1 (List.mem_map.mpr ⟨c, hc, e⟩)
    rw [upd_ne ne]
    exact W.mu c (List.mem_cons_of_mem _ hc), (List.nodup_cons.mp W.nd).2⟩
theorem Wd.fz (W : Wd H I ((p, o) :: M)) : ∃ J, Sub I J ∧ J p = some o ∧ Wd H J M := ⟨_, Sub.new W.hn, upd_same, W.frz⟩
theorem Wd.weak (W : Wd H J M) (e : Sub I J) : Wd H I M := ⟨fun a x h => W.im a x (e a x h), fun c hc => ⟨(W.mu c hc).1, by
  cases q : I c.1 with
  | none => rfl
  | some x =>
    have z := (W.mu c hc).2
    rw [e _ _ q] at z
    cases z⟩, W.nd⟩
theorem Wd.l (W : Wd H I M) (h : I p = some (.lst xs)) : SqL K H p xs := SqL.of (W.im _ _ h)
theorem Wd.t (W : Wd H I M) (h : I p = some (.tup xs)) : SqT K H p xs := SqT.of (W.im _ _ h)
/-- known lists: tracked for good, or of the module, or the script -/
theorem Wd.sl (W : Wd H I M) (h : SqL K I p xs) : SqL K H p xs := by
  rcases h with (h | ⟨x, h⟩) | h
  · exact .inl (.inl (W.im _ _ h))
  · exact .inl (.inr ⟨x, W.im _ _ h⟩)
  · exact .inr h
theorem Wd.st (W : Wd H I M) (h : SqT K I p xs) : SqT K H p xs := by
  rcases h with (h | ⟨x, h⟩) | h
  · exact .inl (.inl (W.im _ _ h))
  · exact .inl (.inr ⟨x, W.im _ _ h⟩)
  · exact .inr h
theorem Sub.sl (e : Sub I J) (h : SqL K I p xs) : SqL K J p xs := by
  rcases h with (h | ⟨x, h⟩) | h
  · exact .inl (.inl (e _ _ h))
  · exact .inl (.inr ⟨x, e _ _ h⟩)
  · exact .inr h
theorem Sub.st (e : Sub I J) (h : SqT K I p xs) : SqT K J p xs := by
  rcases h with (h | ⟨x, h⟩) | h
  · exact .inl (.inl (e _ _ h))
  · exact .inl (.inr ⟨x, e _ _ h⟩)
  · exact .inr h
theorem Wd.new {H1 : Hp} (W : Wd H I M) (n : H p = none) (hH : upd H p o = H1) : ∃ J, Sub I J ∧ J p = some o ∧ Wd H1 J M := by
  subst hH
  exact ⟨_, Sub.new (W.none_im n), upd_same, W.im1 n⟩
theorem Wd.newM {H1 : Hp} (W : Wd H I M) (n : H p = none) (hH : upd H p o = H1) : Wd H1 I ((p, o) :: M) := by
  subst hH
  exact W.mu1 n
theorem Wd.newJ {H1 : Hp} (W : Wd H I M) (n : H p = none) (hH : upd H p o = H1) : Wd H1 I M := by
  subst hH
  exact W.junk n
/-- what is asked of a new object: it is known from now on, it may change, it is dropped -/
theorem wr_go {Q : Hp → Prop} (W : Wd H I ((p, o) :: M)) (h : ∀ H', Wd H' I ((p, u) :: M) → Q H') : Q (upd H p u) := h _ W.wr
theorem wr_at {Q : Hp → Prop} (W : Wd H I M) (i : Nat) (k : ∀ H', Wd H' I (M.set i (p, u)) → Q H') (h : M[i]? = some (p, o) := by rfl) : Q (upd H p u) := k _ (W.wrAt i h)
theorem al_im {Q : V → Hp → Prop} (W : Wd H I M) (h : ∀ p J H', Sub I J → J p = some o → Wd H' J M → Q (.ref p) H') : ∀ p, H p = none → Q (.ref p) (upd H p o) :=
  fun p n => h p _ _ (Sub.new (W.none_im n)) upd_same (W.im1 n)
theorem al_mu {Q : V → Hp → Prop} (W : Wd H I M) (h : ∀ p H', Wd H' I ((p, o) :: M) → Q (.ref p) H') : ∀ p, H p = none → Q (.ref p) (upd H p o) := fun p n => h p _ (W.mu1 n)
theorem al_jk {Q : V → Hp → Prop} (W : Wd H I M) (h : ∀ p H', Wd H' I M → Q (.ref p) H') : ∀ p, H p = none → Q (.ref p) (upd H p o) := fun p n => h p _ (W.junk n)
end
theorem seq_ix {n k : Nat} (h : k < n) : seqIndex? (k : Int) n = some k := by
  unfold seqIndex?
  simp
  omega
theorem cut_to (xs : List V) (n : Nat) : cutV xs none (some (n : Int)) = xs.take n := by
  unfold cutV
  rw [HT.sIx_none, HT.sIx_nat, List.drop_zero, Nat.sub_zero]
  by_cases h : n ≤ xs.length
  · rw [Nat.min_eq_left h]
  · rw [Nat.min_eq_right (by omega), List.take_length, List.take_of_length_le (by omega)]
theorem cut_from (xs : List V) (n : Nat) : cutV xs (some (n : Int)) none = xs.drop n := by
  unfold cutV
  rw [HT.sIx_none, HT.sIx_nat]
  by_cases h : n ≤ xs.length
  · rw [Nat.min_eq_left h, List.take_of_length_le (by rw [List.length_drop]; omega)]
  · rw [Nat.min_eq_right (by omega), List.drop_length, List.drop_of_length_le (by omega)]
    simp
/-! ### rules joined -/
section
variable {X : Cx}
theorem opOr {f : Value → Value → Sem Value} {r1 r2 : R2} (h1 : OpR X f r1) (h2 : OpR X f r2) : OpR X f (fun x y H Q => r1 x y H Q ∨ r2 x y H Q) := by
  intro pins s σ H x y v u Q I rx ry h
  rcases h with h | h
  · exact h1 pins s σ H x y v u Q I rx ry h
  · exact h2 pins s σ H x y v u Q I rx ry h
theorem callOr {f : Value} {r1 r2 : List V → Hp → VK → Prop} (h1 : CallR X f r1) (h2 : CallR X f r2) : CallR X f (fun xs H Q => r1 xs H Q ∨ r2 xs H Q) := by
  intro pins s σ H xs us Q I r h
  rcases h with h | h
  · exact h1 pins s σ H xs us Q I r h
  · exact h2 pins s σ H xs us Q I r h
theorem piOr {tg l : Expr} {w1 w2 : TI} (h1 : PI X tg l w1) (h2 : PI X tg l w2) : PI X tg l (fun σ H R => w1 σ H R ∨ w2 σ H R) := by
  refine ⟨fun pins s σ H R I h => ?_⟩
  rcases h with h | h
  · exact h1.run pins s σ H R I h
  · exact h2.run pins s σ H R I h
end
/-! ### the rules with the written part named -/
section
variable {X : Cx} (K : PySem.W.Frag)
theorem kix_list (h : X.K = K := by rfl) : IxR X (rIxL K) := h ▸ ix_list
theorem kix_tup (h : X.K = K := by rfl) : IxR X (rIxT K) := h ▸ ix_tup
theorem kpi_list {tg l : Expr} {tl : TE} (hl : PE X l tl) (h : X.K = K := by rfl) : PI X tg l (iList K tl) := h ▸ pi_list hl
theorem kpi_tup {tg l : Expr} {tl : TE} (hl : PE X l tl) (h : X.K = K := by rfl) : PI X tg l (iTup K tl) := h ▸ pi_tup hl
theorem ksl_list (h : X.K = K := by rfl) : L2.SlR X (rSlL K) := h ▸ sl_list
theorem klen (h : X.K = K := by rfl) : CallR X (.builtin "len") (fun xs H Q => ∃ p ys, xs = [.ref p] ∧ (SqL K H p ys ∨ SqT K H p ys) ∧ Q (.int ys.length) H) := h ▸ call_len_seq
theorem klist_of (h : X.K = K := by rfl) : CallR X (.type "list") (fun xs H Q => ∃ p ys, xs = [.ref p] ∧ (SqL K H p ys ∨ SqT K H p ys) ∧ ∀ l, H l = none → Q (.ref l) (upd H l (.lst ys))) := h ▸ call_list_of
theorem ktuple_of (h : X.K = K := by rfl) : CallR X (.type "tuple") (fun xs H Q => ∃ p ys, xs = [.ref p] ∧ ((SqL K H p ys ∧ ∀ l, H l = none → Q (.ref l) (upd H l (.tup ys))) ∨ (SqT K H p ys ∧ Q (.ref p) H))) := h ▸ call_tuple_of
theorem ksorted (h : X.K = K := by rfl) : CallR X (.builtin "sorted") (rSortedI K) := h ▸ cr_sortedI
theorem kall (hc : X.calm = true) (h : X.K = K := by rfl) : CallR X (.builtin "all") (rAll K) := h ▸ cr_all hc
theorem kany (hc : X.calm = true) (h : X.K = K := by rfl) : CallR X (.builtin "any") (rAny K) := h ▸ cr_any hc
theorem ksum (hc : X.calm = true) (h : X.K = K := by rfl) : CallR X (.builtin "sum") (rSum K) := h ▸ cr_sum hc
theorem kmax (hc : X.calm = true) (h : X.K = K := by rfl) : CallR X (.builtin "max") (rMax K) := h ▸ cr_max hc
theorem kmin (hc : X.calm = true) (h : X.K = K := by rfl) : CallR X (.builtin "min") (rMin K) := h ▸ cr_min hc
theorem kisi (h : X.K = K := by rfl) : CallR X (.builtin "isinstance") (rIsi K) := h ▸ call_isi
theorem kin (h : X.K = K := by rfl) : OpR X (compareOp .In) (rIn K false) := h ▸ op_in_seq
theorem knotin (h : X.K = K := by rfl) : OpR X (compareOp .NotIn) (rIn K true) := h ▸ op_notIn_seq
theorem keqD (hu : X.A.units + 64 < cLine) (h : X.K = K := by rfl) : OpR X (compareOp .Eq) (rEqD K) := h ▸ op_eqD hu
theorem kneD (hu : X.A.units + 64 < cLine) (h : X.K = K := by rfl) : OpR X (compareOp .NotEq) (rNeD K) := h ▸ op_neD hu
theorem kbm {T : String} {o e : Expr} {es : List Expr} {name : Str} {apos cpos : Pos} {id : String} {r : V → List V → Hp → VK → Prop} {to : TE} {t : TA} (pa : PlainAttrs T) (slot : Slot T name id) (hty : typeOf (.builtin id) = pure (.type "method_descriptor"))
    (hm : MtR X id r) (ho : PE X o to) (ha : PA X (e :: es) t) (h : X.K = K := by rfl) (h1 : attributeBase o name X.env (eval o X.env) = eval o X.env := by rfl) (h2 : ((backTo cpos (starEach (e :: es) X.env)).all (fun x => !x.1) && (backToKw cpos (keywordEach [] X.env)).all (fun x => x.1.isSome) && decide ((e :: es).length + ([] : List Keyword).length + (if ([] : List Keyword).isEmpty then 0 else 1) < 30)) = true := by rfl)
    (h3 : (apos.endLine == cpos.line) = true := by rfl) (h4 : starEach (e :: es) X.env = (false, eval e X.env) :: starEach es X.env := by rfl) (h5 : (backTo cpos (starEach es X.env)).any (·.1) = false := by rfl) : PE X (.Call (.Attribute o name apos) (e :: es) [] cpos) (tBM K T r to t) := h ▸ pe_bm pa slot hty hm ho ha h1 h2 h3 h4 h5
theorem kbm0 {T : String} {o : Expr} {name : Str} {apos cpos : Pos} {id : String} {r : V → List V → Hp → VK → Prop} {to : TE} (pa : PlainAttrs T) (slot : Slot T name id) (hty : typeOf (.builtin id) = pure (.type "method_descriptor"))
    (hm : MtR X id r) (ho : PE X o to) (h : X.K = K := by rfl) (h1 : attributeBase o name X.env (eval o X.env) = eval o X.env := by rfl) (h3 : (apos.endLine == cpos.line) = true := by rfl) : PE X (.Call (.Attribute o name apos) [] [] cpos) (tBM0 K T r to) := h ▸ pe_bm0 pa slot hty hm ho h1 h3
theorem kfld {e : Expr} {f : Str} {pos : Pos} {ta : TE} (he : PE X e ta) (h1 : attributeBase e f X.env (eval e X.env) = eval e X.env := by rfl) (h : X.K = K := by rfl) : PE X (.Attribute e f pos) (tFld K ta f) := h ▸ pe_fld he h1
theorem krevL {e : Expr} {te : TE} {k : Nat} {p1 p2 p3 pos : Pos} (he : PE X e te) (h : X.K = K := by rfl) : PE X (.Subscript e (.Slice none none (some (.UnaryOp .USub (.Constant (.int 1) k p1) p2)) p3) pos) (tRevL K te) := h ▸ pe_revL he
theorem kpg_tup {es : List Expr} {k : Nat} {t : TGs} {n : Nat} {pos : Pos} (hc : X.calm = true) (hg : PGs X es t) (h : X.K = K := by rfl) (hn : (assignEach es X.env).length = n := by rfl) (hst : (assignEach es X.env).findIdx? (·.1) = none := by rfl) : PG X (.Tuple es k pos) (gTup K n t) := h ▸ pg_tup hc hg hn hst
end
/-! ### a def of the text, told once -/
/-- the def x keeps the promise sp -/
def Ok (P : Program) (w : World) (K : PySem.W.Frag) (mg : Str → Option Value) (base : Heap) (CX : CXT) (k : Nat) (x : Str) (ps : List Str) (sp : Sp) : Prop :=
  ∃ fd : FuncData, FnOk P w K mg base CX k (He.ga K x) fd ps sp ∧ Binds K fd ps [] ∧ mg x = some (.ref (He.ga K x)) ∧ PySem.W.keepIn K (.ref (He.ga K x)) = true
section
variable {P : Program} {w : World} {K : PySem.W.Frag} {mg : Str → Option Value} {base : Heap}
theorem mkOk {CX : CXT} {k : Nat} {x : Str} {st : Stmt} {N ps : List Str} {sp : Sp} (F : ∃ fd, FunD K x x (defArgs st) (defBody st) (defScope st) [] [] (He.ga K x) fd) (g : mg x = some (.ref (He.ga K x))) (S : FnScope N ps (defScope st))
    (hb : ∀ (kV doc pm : Value) (an : Option Addr) (cdv ct : Value) (us : List Value), us.length = ps.length → bindArgs (PySem.W.fnOf x x (defArgs st) (defBody st) (defScope st) .none kV doc pm an cdv ct) ⟨us, []⟩ = pure (ps.zip us))
    (len : ∀ vs H Q E, sp vs H Q E → vs.length = ps.length)
    (body : ∀ (cdv : Value) (A : Around) (outer : List Env) (s : Shared) (H : Hp) (vs : List V) (Q : VK) (E : XK), Room k (A.deeper (envOfC x (defScope st) s.heap.objs.size (He.ga K x) cdv)) → sp vs H Q E →
      ∃ t, PSs (cxOf CX P w K mg base N x (defScope st) (He.ga K x) cdv A outer s H E) (defBody st) t ∧ t { nx := fun _ H' => Q .non H', rt := Q } (start N vs) H) : Ok P w K mg base CX (k + 1) x ps sp := by
  obtain ⟨fd, F⟩ := F
  exact ⟨fd, F.ok S len body, F.bindsN hb, g, F.kp⟩
/-- as mkOk, where nothing is raised -/
theorem mkOk0 {k : Nat} {x : Str} {st : Stmt} {N ps : List Str} {sp : Sp} (F : ∃ fd, FunD K x x (defArgs st) (defBody st) (defScope st) [] [] (He.ga K x) fd) (g : mg x = some (.ref (He.ga K x))) (S : FnScope N ps (defScope st))
    (hb : ∀ (kV doc pm : Value) (an : Option Addr) (cdv ct : Value) (us : List Value), us.length = ps.length → bindArgs (PySem.W.fnOf x x (defArgs st) (defBody st) (defScope st) .none kV doc pm an cdv ct) ⟨us, []⟩ = pure (ps.zip us))
    (len : ∀ vs H Q E, sp vs H Q E → vs.length = ps.length)
    (body : ∀ (cdv : Value) (A : Around) (outer : List Env) (s : Shared) (H : Hp) (vs : List V) (Q : VK) (E : XK), Room k (A.deeper (envOfC x (defScope st) s.heap.objs.size (He.ga K x) cdv)) → sp vs H Q E →
      ∃ t, PSs (cxOf CX0 P w K mg base N x (defScope st) (He.ga K x) cdv A outer s H E).nox (defBody st) t ∧ t { nx := fun _ H' => Q .non H', rt := Q } (start N vs) H) : Ok P w K mg base CX0 (k + 1) x ps sp :=
  mkOk F g S hb len fun cdv A outer s H vs Q E hr h => by
    obtain ⟨t, a, b⟩ := body cdv A outer s H vs Q E hr h
    exact ⟨t, a.nox, b⟩
theorem mkFn0 {k : Nat} {x : Str} {st : Stmt} {N ps : List Str} {sp : Sp} {fd : FuncData} (F : FunD K x x (defArgs st) (defBody st) (defScope st) [] [] (He.ga K x) fd) (S : FnScope N ps (defScope st))
    (len : ∀ vs H Q E, sp vs H Q E → vs.length = ps.length)
    (body : ∀ (cdv : Value) (A : Around) (outer : List Env) (s : Shared) (H : Hp) (vs : List V) (Q : VK) (E : XK), Room k (A.deeper (envOfC x (defScope st) s.heap.objs.size (He.ga K x) cdv)) → sp vs H Q E →
      ∃ t, PSs (cxOf CX0 P w K mg base N x (defScope st) (He.ga K x) cdv A outer s H E).nox (defBody st) t ∧ t { nx := fun _ H' => Q .non H', rt := Q } (start N vs) H) : FnOk P w K mg base CX0 (k + 1) (He.ga K x) fd ps sp :=
  F.ok S len fun cdv A outer s H vs Q E hr h => by
    obtain ⟨t, a, b⟩ := body cdv A outer s H vs Q E hr h
    exact ⟨t, a.nox, b⟩
def sp_law (K : PySem.W.Frag) : Sp := fun vs H Q _ => ∃ (a : Addr) (ns : List Int), vs = [.ref a] ∧ SqL K H a (ns.map V.int) ∧ ns.length ≤ 63 ∧ ∀ H', Q (.bl true) H'
theorem sz {n : Nat} (h : n ≤ 100000) : n ≤ sizeLine := Nat.le_trans h (by decide)
theorem szl {n : Nat} (h : n < 100000) : n < sizeLine := Nat.lt_of_lt_of_le h (by decide)
end
end Lg

namespace Lg
open PySem PySem.Spec PyProof.Rows L2
/-! ### what is walked -/
/-- an iterator that gives n things, the i-th one by Y, while all of I is known -/
structure ItS (Jt : It) (n : Nat) (Y : Nat → V → Hp → Prop) (I : Hp) : Prop where
  go : ∀ {i : Nat} {H J : Hp} {M : Md}, Wd H J M → Sub I J → i < n → Jt.go i H
  yld : ∀ {i : Nat} {H J : Hp} {M : Md} {x : V} {H' : Hp}, Wd H J M → Sub I J → i < n → Jt.yld i H x H' → ∃ J', Sub J J' ∧ Wd H' J' M ∧ Y i x J'
  stop : ∀ {i : Nat} {H J : Hp} {M : Md}, Wd H J M → Sub I J → i = n → Jt.stop i H
def YL (xs : List V) : Nat → V → Hp → Prop := fun i x _ => xs[i]? = some x
def YR (lo : Int) : Nat → V → Hp → Prop := fun i x _ => x = .int (lo + i)
section
variable {K : PySem.W.Frag} {I : Hp} {a : Addr} {xs : List V}
theorem ItS.list (h : SqL K I a xs) : ItS (Itl K a) xs.length (YL xs) I where
  go := fun {i H J M} W e hi => ⟨xs, xs[i], W.sl (e.sl h), by simp [hi]⟩
  yld := fun {i H J M x H'} W e hi ⟨e1, e2⟩ => by subst e1; exact ⟨J, Sub.refl J, W, e2 xs (W.sl (e.sl h))⟩
  stop := fun {i H J M} W e hi => ⟨xs, W.sl (e.sl h), by omega⟩
theorem ItS.tup (h : SqT K I a xs) : ItS (Itt K a) xs.length (YL xs) I where
  go := fun {i H J M} W e hi => ⟨xs, xs[i], W.st (e.st h), by simp [hi]⟩
  yld := fun {i H J M x H'} W e hi ⟨e1, e2⟩ => by subst e1; exact ⟨J, Sub.refl J, W, e2 xs (W.st (e.st h))⟩
  stop := fun {i H J M} W e hi => ⟨xs, W.st (e.st h), by omega⟩
theorem ItS.range {lo : Int} {n : Nat} : ItS (Itr lo n) n (YR lo) I where
  go := fun {i H J M} W e hi => hi
  yld := fun {i H J M x H'} W e hi ⟨e1, e2⟩ => by subst e1; exact ⟨J, Sub.refl J, W, e2⟩
  stop := fun {i H J M} W e hi => by show n ≤ i; omega
end
/-- a list or a tuple of ints that is walked -/
def IsIS (K : PySem.W.Frag) (I : Hp) (a : Addr) (ns : List Int) : Prop := SqL K I a (ns.map V.int) ∨ SqT K I a (ns.map V.int)
def iSeq (K : PySem.W.Frag) (tl : TE) : TI := fun σ H R => iList K tl σ H R ∨ iTup K tl σ H R
theorem kpi_seq {X : Cx} (K : PySem.W.Frag) {tg l : Expr} {tl : TE} (hl : PE X l tl) (h : X.K = K := by rfl) : PI X tg l (iSeq K tl) := piOr (kpi_list K hl h) (kpi_tup K hl h)
theorem seq_go {K : PySem.W.Frag} {I : Hp} {a : Addr} {ns : List Int} (h : IsIS K I a ns) : ∃ Jt, ItS Jt (ns.map V.int).length (YL (ns.map V.int)) I ∧
    ∀ (i : Nat) (σ : L2.St) (H J : Hp) (M : Md) (R : It → Hp → Prop), σ[i]? = some (some (.ref a)) → Wd H J M → Sub I J → R Jt H → iSeq K (tVar i) σ H R := by
  rcases h with h | h
  · exact ⟨Itl K a, ItS.list h, fun i σ H J M R hs W e r => .inl ⟨_, hs, a, rfl, ⟨_, W.sl (e.sl h)⟩, r⟩⟩
  · exact ⟨Itt K a, ItS.tup h, fun i σ H J M R hs W e r => .inr ⟨_, hs, a, rfl, ⟨_, W.st (e.st h)⟩, r⟩⟩
theorem ItS.up {Jt : It} {n : Nat} {Y : Nat → V → Hp → Prop} {I J : Hp} (S : ItS Jt n Y I) (e : Sub I J) : ItS Jt n Y J := ⟨fun W e' h => S.go W (e.trans e') h, fun W e' h y => S.yld W (e.trans e') h y, fun W e' h => S.stop W (e.trans e') h⟩
/-! ### for -/
def LpI (I : Hp) (Pv : Nat → L2.St → Hp → Md → Prop) (i : Nat) (σ : L2.St) (H : Hp) : Prop := ∃ J N, Sub I J ∧ Wd H J N ∧ Pv i σ J N
theorem LpI.of {I : Hp} {Pv : Nat → L2.St → Hp → Md → Prop} {i : Nat} {σ : L2.St} {H J : Hp} {N : Md} (e : Sub I J) (W : Wd H J N) (p : Pv i σ J N) : LpI I Pv i σ H := ⟨J, N, e, W, p⟩
theorem forW {Jt : It} {n : Nat} {Y : Nat → V → Hp → Prop} {I H : Hp} {M : Md} {g : TG} {tb : TS} {D : Ends} {σ : L2.St} (S : ItS Jt n Y I) (W : Wd H I M) (Pv : Nat → L2.St → Hp → Md → Prop) (h0 : Pv 0 σ I M)
    (hs : ∀ i σ' J0 N x J H', i < n → Sub I J0 → Pv i σ' J0 N → Sub J0 J → Wd H' J N → Y i x J → g x σ' H' fun σ2 H2 => tb { D with nx := LpI I Pv (i + 1), ct := LpI I Pv (i + 1), bk := D.nx } σ2 H2)
    (hd : ∀ σ' J N H', Sub I J → Wd H' J N → Pv n σ' J N → D.nx σ' H') :
    tFor (fun _ H R => R Jt H) g tb D σ H := by
  refine ⟨fun i m σ H => m = n - i ∧ i ≤ n ∧ LpI I Pv i σ H, ⟨n, by simp, Nat.zero_le _, I, M, Sub.refl I, W, h0⟩, ?_⟩
  rintro i m σ H ⟨rfl, hi, J, N, e, W, p⟩
  by_cases hlt : i < n
  · refine .inr ⟨S.go W e hlt, LpI I Pv (i + 1), fun σ' H' p' => ⟨n - (i + 1), by omega, rfl, hlt, p'⟩, fun x H' y => ?_⟩
    obtain ⟨J', e', W', y'⟩ := S.yld W e hlt y
    exact hs i σ J N x J' H' hlt e p e' W' y'
  · have ei : i = n := by omega
    subst ei
    exact .inl ⟨S.stop W e rfl, hd σ J N H e W p⟩
/-! ### comprehensions -/
def LcI (I : Hp) (D : Addr) (Pv : Nat → List V → Hp → Md → Prop) (i : Nat) (H : Hp) : Prop := ∃ acc J N, Sub I J ∧ Wd H J (N ++ [(D, .lst acc)]) ∧ acc.length ≤ i ∧ Pv i acc J N
theorem lc_yes {I J H : Hp} {N : Md} {D : Addr} {acc : List V} {Pv : Nat → List V → Hp → Md → Prop} {i : Nat} {y : V} (e : Sub I J) (W : Wd H J (N ++ [(D, .lst acc)])) (l : acc.length ≤ i) (hi : i < 100000) (p : Pv (i + 1) (acc ++ [y]) J N) :
    ∃ acc', H D = some (.lst acc') ∧ acc'.length < sizeLine ∧ LcI I D Pv (i + 1) (upd H D (.lst (acc' ++ [y]))) :=
  ⟨acc, W.unrot.hd, szl (by omega), acc ++ [y], J, N, e, W.wrE, by rw [List.length_append, List.length_singleton]; omega, p⟩
theorem lc_no {I J H : Hp} {N : Md} {D : Addr} {acc : List V} {Pv : Nat → List V → Hp → Md → Prop} {i : Nat} (e : Sub I J) (W : Wd H J (N ++ [(D, .lst acc)])) (l : acc.length ≤ i) (p : Pv (i + 1) acc J N) : LcI I D Pv (i + 1) H :=
  ⟨acc, J, N, e, W, by omega, p⟩
/-- a wish about the place of the new list, as a wish about values -/
def atD (Qd : Addr → Hp → Prop) : VK := fun v H => match v with | .ref D => Qd D H | _ => True
theorem lcW {Jt : It} {n : Nat} {Y : Nat → V → Hp → Prop} {I H1 : Hp} {M : Md} {g : TG} {tt : TT} {te : TE} {vs : List Nat} {σ : L2.St} {Qd : Addr → Hp → Prop} (S : ItS Jt n Y I) (W : Wd H1 I M) (Pv : Nat → List V → Hp → Md → Prop) (h0 : Pv 0 [] I M)
    (hs : ∀ D i acc J0 N x J H, i < n → Sub I J0 → Pv i acc J0 N → acc.length ≤ i → Sub J0 J → Wd H J (N ++ [(D, .lst acc)]) → Y i x J → g x (wipe σ vs) H fun σ2 H2 => wipe σ2 vs = wipe σ vs ∧ tt σ2 H2 fun b H3 =>
      if b = true then te σ2 H3 fun y H4 => ∃ acc, H4 D = some (.lst acc) ∧ acc.length < sizeLine ∧ LcI I D Pv (i + 1) (upd H4 D (.lst (acc ++ [y]))) else LcI I D Pv (i + 1) H3)
    (hd : ∀ D acc J N H, Sub I J → Wd H J ((D, .lst acc) :: N) → Pv n acc J N → Qd D H) :
    tLc (fun _ H R => R Jt H) g tt te vs σ H1 (atD Qd) := by
  intro D nD
  refine ⟨fun i m H => m = n - i ∧ i ≤ n ∧ LcI I D Pv i H, ⟨n, by simp, Nat.zero_le _, [], I, M, Sub.refl I, (W.mu1 nD).rot, Nat.le_refl _, h0⟩, ?_⟩
  rintro i m H ⟨rfl, hi, acc, J, N, e, W, l, p⟩
  by_cases hlt : i < n
  · refine .inr ⟨S.go W e hlt, LcI I D Pv (i + 1), fun H' p' => ⟨n - (i + 1), by omega, rfl, hlt, p'⟩, fun x H' y => ?_⟩
    obtain ⟨J', e', W', y'⟩ := S.yld W e hlt y
    exact hs D i acc J N x J' H' hlt e p l e' W' y'
  · have ei : i = n := by omega
    subst ei
    exact .inl ⟨S.stop W e rfl, hd D acc J N H e W.unrot p⟩
/-- two fors -/
def LdI (I : Hp) (D : Addr) (Pv : Nat → List V → Hp → Md → Prop) (i : Nat) (H : Hp) : Prop := ∃ acc J N, Sub I J ∧ Wd H J (N ++ [(D, .lst acc)]) ∧ Pv i acc J N
theorem ld_yes {I J H : Hp} {N : Md} {D : Addr} {acc : List V} {Pw : Nat → List V → Hp → Md → Prop} {j : Nat} {y : V} (e : Sub I J) (W : Wd H J (N ++ [(D, .lst acc)])) (l : acc.length < 1000000) (p : Pw (j + 1) (acc ++ [y]) J N) :
    ∃ acc', H D = some (.lst acc') ∧ acc'.length < sizeLine ∧ LdI I D Pw (j + 1) (upd H D (.lst (acc' ++ [y]))) :=
  ⟨acc, W.unrot.hd, Nat.lt_of_lt_of_le l (by decide), acc ++ [y], J, N, e, W.wrE, p⟩
theorem ld_no {I J H : Hp} {N : Md} {D : Addr} {acc : List V} {Pv : Nat → List V → Hp → Md → Prop} {i : Nat} (e : Sub I J) (W : Wd H J (N ++ [(D, .lst acc)])) (p : Pv (i + 1) acc J N) : LdI I D Pv (i + 1) H := ⟨acc, J, N, e, W, p⟩
theorem inW {Jt : It} {n : Nat} {Y : Nat → V → Hp → Prop} {I H4 : Hp} {M : Md} {D : Addr} {acc : List V} {g1 : TG} {tt1 : TT} {te : TE} {vs1 : List Nat} {σ2 : L2.St} {Nx : Hp → Prop} (S : ItS Jt n Y I) (W : Wd H4 I (M ++ [(D, .lst acc)])) (Pw : Nat → List V → Hp → Md → Prop) (h0 : Pw 0 acc I M)
    (hs : ∀ j acc1 J0 N x J H, j < n → Sub I J0 → Pw j acc1 J0 N → Sub J0 J → Wd H J (N ++ [(D, .lst acc1)]) → Y j x J → g1 x (wipe σ2 vs1) H fun σ3 H5 => wipe σ3 vs1 = wipe σ2 vs1 ∧ tt1 σ3 H5 fun b H6 =>
        if b = true then te σ3 H6 fun y H7 => ∃ acc, H7 D = some (.lst acc) ∧ acc.length < sizeLine ∧ LdI I D Pw (j + 1) (upd H7 D (.lst (acc ++ [y]))) else LdI I D Pw (j + 1) H6)
    (hd : ∀ acc1 J N H, Sub I J → Wd H J (N ++ [(D, .lst acc1)]) → Pw n acc1 J N → Nx H) :
    ∃ W1 : Nat → Nat → Hp → Prop, (∃ m, W1 0 m H4) ∧ ∀ j k H, W1 j k H →
      (Jt.stop j H ∧ Nx H) ∨ (Jt.go j H ∧ ∃ Nx1 : Hp → Prop, (∀ H', Nx1 H' → ∃ k', k' < k ∧ W1 (j + 1) k' H') ∧ ∀ x H', Jt.yld j H x H' → g1 x (wipe σ2 vs1) H' fun σ3 H5 => wipe σ3 vs1 = wipe σ2 vs1 ∧ tt1 σ3 H5 fun b H6 =>
        if b = true then te σ3 H6 fun y H7 => ∃ acc, H7 D = some (.lst acc) ∧ acc.length < sizeLine ∧ Nx1 (upd H7 D (.lst (acc ++ [y]))) else Nx1 H6) := by
  refine ⟨fun i m H => m = n - i ∧ i ≤ n ∧ LdI I D Pw i H, ⟨n, by simp, Nat.zero_le _, acc, I, M, Sub.refl I, W, h0⟩, ?_⟩
  rintro i m H ⟨rfl, hi, acc1, J, N, e, W, p⟩
  by_cases hlt : i < n
  · refine .inr ⟨S.go W e hlt, LdI I D Pw (i + 1), fun H' p' => ⟨n - (i + 1), by omega, rfl, hlt, p'⟩, fun x H' y => ?_⟩
    obtain ⟨J', e', W', y'⟩ := S.yld W e hlt y
    exact hs i acc1 J N x J' H' hlt e p e' W' y'
  · have ei : i = n := by omega
    subst ei
    exact .inl ⟨S.stop W e rfl, hd acc1 J N H e W p⟩
theorem lc2W {Jt : It} {n : Nat} {Y : Nat → V → Hp → Prop} {I H1 : Hp} {M : Md} {g g1 : TG} {tt tt1 : TT} {te : TE} {wi1 : TI} {vs vs1 : List Nat} {σ : L2.St} {Qd : Addr → Hp → Prop} (S : ItS Jt n Y I) (W : Wd H1 I M) (Pv : Nat → List V → Hp → Md → Prop) (h0 : Pv 0 [] I M)
    (hs : ∀ D i acc J0 N x J H, i < n → Sub I J0 → Pv i acc J0 N → Sub J0 J → Wd H J (N ++ [(D, .lst acc)]) → Y i x J → g x (wipe σ vs) H fun σ2 H2 => wipe σ2 vs = wipe σ vs ∧ tt σ2 H2 fun b H3 =>
      if b = true then wi1 σ2 H3 fun J1 H4 => ∃ W1 : Nat → Nat → Hp → Prop, (∃ m, W1 0 m H4) ∧ ∀ j k H, W1 j k H →
        (J1.stop j H ∧ LdI I D Pv (i + 1) H) ∨ (J1.go j H ∧ ∃ Nx1 : Hp → Prop, (∀ H', Nx1 H' → ∃ k', k' < k ∧ W1 (j + 1) k' H') ∧ ∀ x H', J1.yld j H x H' → g1 x (wipe σ2 vs1) H' fun σ3 H5 => wipe σ3 vs1 = wipe σ2 vs1 ∧ tt1 σ3 H5 fun b H6 =>
          if b = true then te σ3 H6 fun y H7 => ∃ acc, H7 D = some (.lst acc) ∧ acc.length < sizeLine ∧ Nx1 (upd H7 D (.lst (acc ++ [y]))) else Nx1 H6)
      else LdI I D Pv (i + 1) H3)
    (hd : ∀ D acc J N H, Sub I J → Wd H J ((D, .lst acc) :: N) → Pv n acc J N → Qd D H) :
    tLc2 (fun _ H R => R Jt H) g tt wi1 g1 tt1 te vs vs1 σ H1 (atD Qd) := by
  intro D nD
  refine ⟨fun i m H => m = n - i ∧ i ≤ n ∧ LdI I D Pv i H, ⟨n, by simp, Nat.zero_le _, [], I, M, Sub.refl I, (W.mu1 nD).rot, h0⟩, ?_⟩
  rintro i m H ⟨rfl, hi, acc, J, N, e, W, p⟩
  by_cases hlt : i < n
  · refine .inr ⟨S.go W e hlt, LdI I D Pv (i + 1), fun H' p' => ⟨n - (i + 1), by omega, rfl, hlt, p'⟩, fun x H' y => ?_⟩
    obtain ⟨J', e', W', y'⟩ := S.yld W e hlt y
    exact hs D i acc J N x J' H' hlt e p e' W' y'
  · have ei : i = n := by omega
    subst ei
    exact .inl ⟨S.stop W e rfl, hd D acc J N H e W.unrot p⟩
/-! ### data -/
mutual
theorem Sub.dp {K : PySem.W.Frag} {I J : Hp} (e : Sub I J) : ∀ {v : V} {d : PyData}, Dp K I v d → Dp K J v d
  | _, _, .non => .non
  | _, _, .bl b => .bl b
  | _, _, .int i => .int i
  | _, _, .str x => .str x
  | _, _, .lst h a => .lst (e.sl h) (Sub.dpA e a)
  | _, _, .tup h a => .tup (e.st h) (Sub.dpA e a)
theorem Sub.dpA {K : PySem.W.Frag} {I J : Hp} (e : Sub I J) : ∀ {vs : List V} {ds : List PyData}, DpAll K I vs ds → DpAll K J vs ds
  | _, _, .nil => .nil
  | _, _, .cons h a => .cons (e.dp h) (Sub.dpA e a)
end
theorem Wd.dp {K : PySem.W.Frag} {H I : Hp} {M : Md} {v : V} {d : PyData} (W : Wd H I M) (h : Dp K I v d) : Dp K H v d := Sub.dp (show Sub I H from W.im) h
def dI (ns : List Int) : PyData := .list (ns.map .int)
def dS (xs : List Str) : PyData := .list (xs.map .str)
theorem dpA_int {K : PySem.W.Frag} {I : Hp} : ∀ ns : List Int, DpAll K I (ns.map V.int) (ns.map PyData.int)
  | [] => .nil
  | n :: ns => .cons (.int n) (dpA_int ns)
theorem dpA_str {K : PySem.W.Frag} {I : Hp} : ∀ ns : List Str, DpAll K I (ns.map V.str) (ns.map PyData.str)
  | [] => .nil
  | n :: ns => .cons (.str n) (dpA_str ns)
theorem dp_ints {K : PySem.W.Frag} {I : Hp} {p : Addr} {ns : List Int} (h : SqL K I p (ns.map V.int)) : Dp K I (.ref p) (dI ns) := .lst h (dpA_int ns)
theorem dp_strs {K : PySem.W.Frag} {I : Hp} {p : Addr} {ns : List Str} (h : SqL K I p (ns.map V.str)) : Dp K I (.ref p) (dS ns) := .lst h (dpA_str ns)
theorem eqvA_int : ∀ ns ms : List Int, PyData.eqvAll (ns.map .int) (ms.map .int) = decide (ns = ms)
  | [], [] => by simp [PyData.eqvAll]
  | [], _ :: _ => by simp [PyData.eqvAll]
  | _ :: _, [] => by simp [PyData.eqvAll]
  | n :: ns, m :: ms => by
    rw [List.map_cons, List.map_cons, PyData.eqvAll, eqvA_int ns ms, PyData.eqv]
    by_cases e : n = m <;> by_cases e2 : ns = ms <;> simp [e, e2]
theorem eqv_int (ns ms : List Int) : PyData.eqv (dI ns) (dI ms) = decide (ns = ms) := by
  unfold dI
  rw [PyData.eqv]
  exact eqvA_int ns ms
theorem lay_ints : ∀ ns : List Int, PyData.canLayAll0 (ns.map .int) = true
  | [] => by simp [PyData.canLayAll0]
  | n :: ns => by
    rw [List.map_cons, PyData.canLayAll0, lay_ints ns]
    simp [PyData.canLay0]
theorem dep_ints : ∀ ns : List Int, PyData.depthAll (ns.map .int) = 0
  | [] => by simp [PyData.depthAll]
  | n :: ns => by
    rw [List.map_cons, PyData.depthAll, dep_ints ns]
    simp [PyData.depth]
theorem shaped_ints (ns : List Int) : SeqAt.shaped (dI ns) = true := by
  unfold SeqAt.shaped dI
  rw [PyData.canLay0, lay_ints, PyData.depth, dep_ints]
  decide
end Lg

namespace Pu
end Pu
/-! ### the head's facts: a Hook of one's own. Rows: defs found by a path; Asks: yes-or-no questions about the written part -/
namespace Hk
open PySem L2
abbrev Ask : Type := PySem.W.Frag → Bool
/-- what a def shows of itself -/
structure Face where
  name : Str
  qual : Str
  params : Arguments
  body : FuncBody
  scope : Scope
  glob : Addr
  frees : List Str
  blt : Addr
def faceOf (fd : FuncData) : Face := { name := fd.name, qual := fd.qualname, params := fd.params, body := fd.body, scope := fd.scope, glob := fd.globals, frees := fd.closure.map Prod.fst, blt := fd.builtins }
/-- the def at an address -/
def defAt (K : PySem.W.Frag) (a : Addr) : Option FuncData := (K.lookup a).bind fun o => match o.data with
  | .func fd => some fd
  | _ => none
theorem defAt_some {K : PySem.W.Frag} {a : Addr} {fd : FuncData} (y : defAt K a = some fd) : ∃ c d sl, K.lookup a = some ⟨c, d, .func fd, sl⟩ := by
  unfold defAt at y
  obtain ⟨⟨c, d, dt, sl⟩, found, y⟩ := Option.bind_eq_some_iff.mp y
  cases dt with
  | func fd' =>
    have e : fd' = fd := Option.some.inj y
    exact ⟨c, d, sl, e ▸ found⟩
  | _ => nomatch y
/-- a def of the text: the path to it, what it shows, its defaults -/
structure Row where
  place : PySem.W.Frag → Addr
  name : Str
  qual : Str
  params : Arguments
  body : List Stmt
  scope : Scope
  frees : List Str := []
  dfl : List He.Dv := []
  kwd : List (Str × He.Dv) := []
def Row.face (r : Row) : Face := { name := r.name, qual := r.qual, params := r.params, body := .stmts r.body, scope := r.scope, glob := mainGlobals, frees := r.frees, blt := builtinsNs }
def Row.dvs (K : PySem.W.Frag) (r : Row) : List V := r.dfl.map fun z => z.v K
def Row.kws (K : PySem.W.Frag) (r : Row) : List (Str × V) := r.kwd.map fun z => (z.1, z.2.v K)
/-- what is asked of a row beside its face -/
def Row.ask (r : Row) : Ask := fun K => decide (PySem.W.keepIn K (.ref (r.place K)) = true) && (defAt K (r.place K)).any fun fd => [PySem.W.codeIn K fd.code r.qual, He.dflB K fd.defaults (r.dvs K), He.kwdB K fd.kwdefaults (r.kws K)].all id
structure Row.Is (K : PySem.W.Frag) (r : Row) (fd : FuncData) : Prop where
  found : ∃ c d sl, K.lookup (r.place K) = some ⟨c, d, .func fd, sl⟩
  face : faceOf fd = r.face
  kept : PySem.W.keepIn K (.ref (r.place K)) = true
  code : PySem.W.codeIn K fd.code r.qual = true
  dfl : DflV K fd.defaults (r.dvs K)
  kwd : KwdV K fd.kwdefaults (r.kws K)
theorem Row.is_of {K : PySem.W.Frag} {r : Row} (shown : (defAt K (r.place K)).map faceOf = some r.face) (yes : r.ask K = true) : ∃ fd, r.Is K fd := by
  obtain ⟨fd, at_, face⟩ := Option.map_eq_some_iff.mp shown
  unfold Row.ask at yes
  rw [at_] at yes
  have both := Bool.and_eq_true_iff.mp yes
  have all : ∀ b ∈ [PySem.W.codeIn K fd.code r.qual, He.dflB K fd.defaults (r.dvs K), He.kwdB K fd.kwdefaults (r.kws K)], b = true := fun b m => List.all_eq_true.mp both.2 b m
  exact ⟨fd, defAt_some at_, face, of_decide_eq_true both.1, all _ (.head _), He.dflB_ok (all _ (.tail _ (.head _))), He.kwdB_ok (all _ (.tail _ (.tail _ (.head _))))⟩
/-- a row without closure is a def of the layer -/
theorem Row.Is.funD {K : PySem.W.Frag} {r : Row} {fd : FuncData} (i : r.Is K fd) (none_ : r.frees = []) : FunD K r.name r.qual r.params r.body r.scope (r.dvs K) (r.kws K) (r.place K) fd := by
  obtain ⟨c, d, sl, at_⟩ := i.found
  have noCl : fd.closure = [] := List.map_eq_nil_iff.mp ((congrArg Face.frees i.face).trans none_)
  have same : fd = PySem.W.fnOf r.name r.qual r.params r.body r.scope fd.defaults fd.kwdefaults fd.doc fd.pyModule fd.annotations fd.code fd.closureTuple := by
    have f1 : fd.name = r.name := congrArg Face.name i.face
    have f2 : fd.qualname = r.qual := congrArg Face.qual i.face
    have f3 : fd.params = r.params := congrArg Face.params i.face
    have f4 : fd.body = .stmts r.body := congrArg Face.body i.face
    have f5 : fd.scope = r.scope := congrArg Face.scope i.face
    have f6 : fd.globals = mainGlobals := congrArg Face.glob i.face
    have f7 : fd.builtins = builtinsNs := congrArg Face.blt i.face
    rw [← f1, ← f2, ← f3, ← f5]
    cases fd
    simp only at f4 f6 f7 noCl
    subst f4 f6 f7 noCl
    rfl
  exact ⟨⟨c, d, _, _, _, _, _, _, _, sl, same, at_, i.code, i.dfl, i.kwd⟩, i.kept⟩
/-- a row with one free name, __class__ -/
theorem Row.Is.free1 {K : PySem.W.Frag} {r : Row} {fd : FuncData} (i : r.Is K fd) (one : r.frees = [("__class__" : Str)]) :
    ∃ cc doc pm an cdv ct dV kV, fd = PySem.W.ksFn r.name r.qual r.params r.body r.scope dV kV doc pm an cdv ct cc ∧ PySem.W.codeIn K cdv r.qual = true ∧ DflV K dV (r.dvs K) := by
  have cl : fd.closure.map Prod.fst = [("__class__" : Str)] := (congrArg Face.frees i.face).trans one
  obtain ⟨p, cl1, cl2⟩ : ∃ p, fd.closure = [p] ∧ p.1 = ("__class__" : Str) := by
    obtain ⟨p, rest, e1, e2, e3⟩ := List.map_eq_cons_iff.mp cl
    rw [List.map_eq_nil_iff] at e3
    exact ⟨p, e3 ▸ e1, e2⟩
  refine ⟨p.2, fd.doc, fd.pyModule, fd.annotations, fd.code, fd.closureTuple, fd.defaults, fd.kwdefaults, ?_, i.code, i.dfl⟩
  have f1 : fd.name = r.name := congrArg Face.name i.face
  have f2 : fd.qualname = r.qual := congrArg Face.qual i.face
  have f3 : fd.params = r.params := congrArg Face.params i.face
  have f4 : fd.body = .stmts r.body := congrArg Face.body i.face
  have f5 : fd.scope = r.scope := congrArg Face.scope i.face
  have f6 : fd.globals = mainGlobals := congrArg Face.glob i.face
  have f7 : fd.builtins = builtinsNs := congrArg Face.blt i.face
  rw [← f1, ← f2, ← f3, ← f5]
  obtain ⟨p1, p2⟩ := p
  cases fd
  simp only at f4 f6 f7 cl1 cl2
  subst f4 f6 f7 cl1 cl2
  rfl
/-! the Hook -/
/-- the part of the heap: what the names reach, and the statics -/
def part (n : Nat) (look : Addr → Option Obj) : PySem.W.Frag := He.frG look (He.asD look n ++ [cStatics])
abbrev Seen : Type := Bool × List (Option Face)
def seen (rs : List Row) (qs : List Ask) (K : PySem.W.Frag) : Seen := ⟨rs.all (fun r => r.ask K) && qs.all (fun q => q K), rs.map fun r => (defAt K (r.place K)).map faceOf⟩
def due (rs : List Row) : Seen := ⟨true, rs.map fun r => some r.face⟩
def Told (rs : List Row) (qs : List Ask) (K : PySem.W.Frag) : Prop := seen rs qs K = due rs
def hook (n : Nat) (rs : List Row) (qs : List Ask) : PySem.W.Hook :=
  { α := Seen, obs := fun st => seen rs qs (part n st.heap.get?), val := fun _ => due rs
    says := fun _ hp => ∃ K : PySem.W.Frag, K.In hp ∧ Told rs qs K, of := fun _ _ eq => ⟨part n _, He.frG_in, eq⟩
    keeps := fun _ _ _ old more => old.elim fun K both => ⟨K, both.1.keeps more, both.2⟩ }
theorem Told.ask {rs : List Row} {qs : List Ask} {K : PySem.W.Frag} (t : Told rs qs K) (i : Nat) {q : Ask} (m : qs[i]? = some q := by rfl) : q K = true :=
  List.all_eq_true.mp (Bool.and_eq_true_iff.mp (Prod.mk.inj t).1).2 q (List.mem_of_getElem? m)
theorem Told.row {rs : List Row} {qs : List Ask} {K : PySem.W.Frag} (t : Told rs qs K) (i : Nat) {r : Row} (m : rs[i]? = some r := by rfl) : ∃ fd, r.Is K fd := by
  have yes : r.ask K = true := List.all_eq_true.mp (Bool.and_eq_true_iff.mp (Prod.mk.inj t).1).1 r (List.mem_of_getElem? m)
  have faces := congrArg (fun l => l[i]?) (Prod.mk.inj t).2
  simp only [List.getElem?_map, m, Option.map_some, Option.some.injEq] at faces
  exact Row.is_of faces yes
theorem Told.fun_ {rs : List Row} {qs : List Ask} {K : PySem.W.Frag} (t : Told rs qs K) (i : Nat) {r : Row} (m : rs[i]? = some r := by rfl) (z : r.frees = [] := by rfl) :
    ∃ fd, FunD K r.name r.qual r.params r.body r.scope (r.dvs K) (r.kws K) (r.place K) fd := (t.row i m).elim fun fd y => ⟨fd, y.funD z⟩
/-! ### questions -/
section
variable {K : PySem.W.Frag} {hp : Heap} {mg : Str → Option Value}
/-- one of the layer's own facts -/
def fact (f : He.Fa) : Ask := fun K => f.ok K
def sameO (a b : Option (Option Value)) : Bool := He.eqO a b
/-- a class is read plainly -/
def isRead (x : Str) : Ask := fun K => decide (PySem.W.readsIn K (He.ga K x) (.type "type") = true ∧ PySem.W.specialIn K (.ref (He.ga K x)) "__getattribute__" = some (some (.builtin "type.__getattribute__")))
theorem isRead_ok {x : Str} (y : isRead x K = true) : ClX.CRead K (He.ga K x) (.type "type") := let p := of_decide_eq_true y; ⟨p.1, p.2⟩
/-- the whole number that the class x has under the name f -/
def constOf (x f : Str) (K : PySem.W.Frag) : Option Int := match PySem.W.findCls K (.ref (He.ga K x)) (.type "type") f with
  | some (.val (.int i _)) => some i
  | _ => none
def isConst (x f : Str) (i : Int) : Ask := fun K => constOf x f K == some i
theorem isConst_ok {x f : Str} {i : Int} (y : isConst x f i K = true) : ∃ u, ClX.CVal K (He.ga K x) (.type "type") f (.int i) u := by
  have y : constOf x f K = some i := eq_of_beq y
  unfold constOf at y
  split at y
  · next j t found => exact ⟨_, found, t, by rw [Option.some.inj y]⟩
  · nomatch y
/-- the def behind a property, a classmethod, a staticmethod of the class x -/
def behind (x m : Str) (K : PySem.W.Frag) : Addr := ((K.lookup (He.ma K (He.ga K x) m)).map fun o => match o.data with
  | .fields vs => (match (vs[0]? : Option Value) with
    | some (.ref g) => g
    | _ => 0)
  | _ => 0).getD 0
def recHead (K : PySem.W.Frag) (p : Addr) (T : String) : Option Addr := match PySem.W.recIn K p T with
  | some (.ref g :: _) => some g
  | _ => none
theorem recHead_ok {p g : Addr} {T : String} (y : recHead K p T = some g) : ∃ rest, PySem.W.recIn K p T = some (.ref g :: rest) := by
  unfold recHead at y
  split at y
  · next g' rest found => exact ⟨rest, by rw [found, Option.some.inj y]⟩
  · nomatch y
def isProp (x f : Str) : Ask := fun K => [He.eqO (PySem.W.findIn K (.ref (He.ga K x)) f) (some (some (.ref (He.ma K (He.ga K x) f)))), He.eqO (PySem.W.specialIn K (.ref (He.ma K (He.ga K x) f)) "__get__") (some (some (.builtin "property.__get__"))),
  decide (PySem.W.takesIn K (.ref (He.ma K (He.ga K x) f)) = some true), recHead K (He.ma K (He.ga K x) f) "property" == some (behind x f K)].all id
theorem isProp_ok {x f : Str} (y : isProp x f K = true) : PropOf K (He.ga K x) f (He.ma K (He.ga K x) f) (behind x f K) := by
  have z : ∀ b ∈ _, b = true := List.all_eq_true.mp y
  exact ⟨He.eqO_ok (z _ (.head _)), He.eqO_ok (z _ (.tail _ (.head _))), of_decide_eq_true (z _ (.tail _ (.tail _ (.head _)))), recHead_ok (eq_of_beq (z _ (.tail _ (.tail _ (.tail _ (.head _))))))⟩
/-- an inherited method is the very one of the class above -/
def isSame (x y m : Str) : Ask := fun K => decide (He.ma K (He.ga K x) m = He.ma K (He.ga K y) m)
theorem isSame_ok {x y m : Str} (q : isSame x y m K = true) : He.ma K (He.ga K x) m = He.ma K (He.ga K y) m := of_decide_eq_true q
end
/-- a class constant, the written part named -/
theorem kconst {X : Cx} (K : PySem.W.Frag) {e : Expr} {f : Str} {at_ : Pos} {ta : TE} (base : PE X e ta) (same : X.K = K := by rfl) (plainly : attributeBase e f X.env (eval e X.env) = eval e X.env := by rfl) : PE X (.Attribute e f at_) (ClX.tCVal K ta f) := same ▸ ClX.pe_cval base plainly
end Hk
/-! ### own errors: class X(..ValueError) with an __init__ that says super().__init__(text) and stores its arguments -/
namespace Fx
open PySem PySem.W PySem.Calls PyProof.Rows PySem.HandSPX
/-! the text of such an __init__ -/
def iA1 (f : Str) (p1 p2 : Pos) : Arguments := { posonlyargs := [], args := [{ arg := "self", annotation := none, pos := p1 }, { arg := f, annotation := none, pos := p2 }], vararg := none, kwonlyargs := [], kw_defaults := [], kwarg := none, defaults := [] }
def supS (txt : Str) (q1 q2 q3 q4 q5 q6 : Pos) : Stmt := .Expr (.Call (.Attribute (.Call (.Name "super" q1) [] [] q2) "__init__" q3) [.Constant (.str txt) 0 q4] [] q5) q6
def setS (f : Str) (q7 q8 q9 q10 : Pos) : Stmt := .Assign [.Attribute (.Name "self" q7) f q8] (.Name f q9) q10
def iS1 (f : Str) : Scope := { kind := .function, names := [(PySem.Str.ofString "self", .local), (f, .local), (PySem.Str.ofString "__class__", .free), (PySem.Str.ofString "super", .globalImplicit)], isGenerator := false, isCoroutine := false, more := [] }
def iA2 (f g : Str) (p1 p2 p3 : Pos) : Arguments := { posonlyargs := [], args := [{ arg := "self", annotation := none, pos := p1 }, { arg := f, annotation := none, pos := p2 }, { arg := g, annotation := none, pos := p3 }], vararg := none, kwonlyargs := [], kw_defaults := [], kwarg := none, defaults := [] }
def iS2 (f g : Str) : Scope := { kind := .function, names := [(PySem.Str.ofString "self", .local), (f, .local), (g, .local), (PySem.Str.ofString "__class__", .free), (PySem.Str.ofString "super", .globalImplicit)], isGenerator := false, isCoroutine := false, more := [] }
/-- what the written part says of an error class at C whose __init__ stands at i -/
structure Err (K : Frag) (C i : Addr) : Prop where
  ini : excInitIn K C veTail "ValueError.__new__" = true
  cl : ∃ cd, clsIn K C = some cd ∧ refsVE cd.mro = true ∧ cd.hasDict = true
  sets : findIn K (.ref C) "__setattr__" = some (some (.builtin "object.__setattr__"))
  finds : findIn K (.ref C) "__init__" = some (some (.ref i))
  isFun : typeIn K (.ref i) = some (.type "function")
  ve : subIn K (.ref C) (.type "ValueError") = some true
  sup : ks_superIn K C C "__init__" = some (some (.builtin "ValueError.__init__"))
  me : mroIn K C (.ref C) = some true
  opq : nsIn K cStatics "thirdparty.any" = some none
/-- the code object and the cell of an __init__ that says super() -/
structure Cod (prog : Program) (K : Frag) (C : Addr) (cd : Value) (cc : Addr) (qual : Str) : Prop where
  code : codeIn K cd qual = true
  file : ∃ a c d vs sl f tf, cd = .ref a ∧ K.lookup a = some ⟨c, d, .fields vs, sl⟩ ∧ vs[2]? = some (.str f tf) ∧ ((prog.main.file : Str) == f) = true
  cell : ∃ c d sl, K.lookup cc = some ⟨c, d, .cell (some (.ref C)), sl⟩
/-- the module, seen from a heap -/
structure Glo (K : Frag) (mg : Str → Option Value) (h : Heap) : Prop where
  kin : K.In h
  glob : h.Ns mainGlobals mg
  blt : ∃ mb, h.Ns builtinsNs mb ∧ ∀ x : Str, x ≠ "__name__" → mb x = bootBuiltins x
  lim : h.NoLimit
theorem Glo.keeps {K : Frag} {mg : Str → Option Value} {h h' : Heap} (G : Glo K mg h) (k : ∀ b o, h.get? b = some o → h'.get? b = some o) : Glo K mg h' :=
  let ⟨mb, b1, b2⟩ := G.blt
  ⟨G.kin.keeps k, G.glob.keeps k, ⟨mb, b1.keeps k, b2⟩, G.lim.keeps k⟩
theorem boot_super : bootBuiltins "super" = some (.type "super") := by decide +kernel
/-- what the scope of such an __init__ says of its names -/
structure Scp (sc : Scope) : Prop where
  kd : sc.kind = .function
  sup : sc.names.lookup ("super" : Str) = some .globalImplicit
  cls : sc.names.lookup ("__class__" : Str) = some .free
  self : sc.names.lookup ("self" : Str) = some .local
section
variable {prog : Program} {w : World} {A : Around} {E : Value → Shared → Prop} {g : Array GenState} {d : Drawn} {t : Nat} {os : OsState}
variable {K : Frag} {mg : Str → Option Value} {C i cda cc x t0 L : Addr} {h0 h : Heap} {m : Str → Option Value}
/-- the object super() of an exception at x -/
theorem super_made {qual : Str} {sc : Scope} {fd : FuncData} {a0 : Arg} {body : List Stmt} {p0 p1 : Pos} {whole : Sem Value} {Q : Value → Shared → Prop} {c1 : Value} {d1 : Option Addr} {l1 : Array (Option Value)}
    (T : Err K C i) (noSup : mg "super" = none) (top : (prog.main.scope.names.lookup ("super" : Str)).isSome = false) (cod : Cod prog K C (.ref cda) cc qual) (S : Scp sc)
    (at_ : K.lookup i = some ⟨c1, d1, .func fd, l1⟩) (hd : (fd.params.posonlyargs ++ fd.params.args).head? = some a0) (isSelf : a0.arg = "self")
    (G : Glo K mg h) (F : Fr h0 L h m) (N : News h0 L h [(x, excO C t0)]) (selfIs : m "self" = some (.ref x))
    (k : ∀ so h', Fr h0 L h' m → News h0 L h' [(so, ks_superObj C x C), (x, excO C t0)] → (∀ b o, h.get? b = some o → h'.get? b = some o) → Q (.ref so) ⟨h', g, d, t, os⟩) :
    _root_.PySem.wpAt (model prog w) A (.func body (ksEnv qual sc L i (.ref cda) cc)) (attributeBase (.Call (.Name "super" p0) [] [] p1) "__init__" (ksEnv qual sc L i (.ref cda) cc) whole) Q E ⟨h, g, d, t, os⟩ := by
  obtain ⟨a, c2, d2, vs, l2, fl, tf, same, codeAt, third, file⟩ := cod.file
  cases same
  obtain ⟨c3, d3, l3, cellAt⟩ := cod.cell
  obtain ⟨nm, N', qn, bs, bm, hdct, sn, sub, ab, col, dd, k0, k1, k2, k3, k5, classAt, _⟩ := excInit_of G.kin T.ini
  obtain ⟨mb, b1, b2⟩ := G.blt
  have superIs : mb "super" = some (.type "super") := (b2 _ (by decide)).trans boot_super
  have excAt : h.get? x = some (excO C t0) := N.get (List.mem_singleton.mpr rfl)
  apply ks_wpAt_super_base (env := ksEnv qual sc L i (.ref cda) cc) (hks := S.sup) (hkc := S.cls) (hat := by decide) (hfu := rfl) (hf := G.kin _ _ at_) (hfd := rfl) (hp := hd) (hco := rfl) (hcc := G.kin _ _ codeAt) (hoc := rfl) (hvs := third) (hfile := file) (htop := top)
  refine ks_loadName_global (env := ksEnv qual sc L i (.ref cda) cc) S.kd S.sup ?_
  refine loadGlobal_builtin (env := ksEnv qual sc L i (.ref cda) cc) G.glob noSup b1 superIs ?_
  refine ⟨rfl, wpAny_loadName_free S.kd S.cls rfl ⟨_, G.kin _ _ cellAt, rfl⟩ ?_⟩
  rw [isSelf]
  refine wpAny_loadName_local (env := ksEnv qual sc L i (.ref cda) cc) S.kd S.self F.ns selfIs ?_
  refine ks_wpAny_isType_cls classAt rfl ?_
  refine ⟨rfl, ks_wpAny_call_super classAt rfl excAt rfl (fun _ bad => nomatch bad) (looks_mroIn G.kin T.me) fun h' so keep => ?_⟩
  obtain ⟨F', N', _⟩ := ks_newsPush (s := ⟨h, g, d, t, os⟩) F N rfl so keep
  exact k _ h' F' N' keep
/-- super().__init__("..") as a statement -/
theorem sup_go {qual : Str} {sc : Scope} {fd : FuncData} {a0 : Arg} {body : List Stmt} {txt : Str} {q1 q2 q3 q4 q5 q6 : Pos} {Q : Flow → Shared → Prop} {c1 : Value} {d1 : Option Addr} {l1 : Array (Option Value)}
    (T : Err K C i) (noSup : mg "super" = none) (top : (prog.main.scope.names.lookup ("super" : Str)).isSome = false) (cod : Cod prog K C (.ref cda) cc qual) (S : Scp sc) (line : (q3.endLine == q5.line) = true) (quiet : interactive (ksEnv qual sc L i (.ref cda) cc) = false)
    (at_ : K.lookup i = some ⟨c1, d1, .func fd, l1⟩) (hd : (fd.params.posonlyargs ++ fd.params.args).head? = some a0) (isSelf : a0.arg = "self")
    (X0 : K.In h0) (G : Glo K mg h) (F : Fr h0 L h m) (N : News h0 L h [(x, excO C t0)]) (selfIs : m "self" = some (.ref x))
    (k : ∀ t1 h' tk, Fr h0 L h' m → News h0 L h' [(x, excO C t1)] → Q .next ⟨h', g, d, tk, os⟩) :
    _root_.PySem.wpAt (model prog w) A (.func body (ksEnv qual sc L i (.ref cda) cc)) (exec (supS txt q1 q2 q3 q4 q5 q6) (ksEnv qual sc L i (.ref cda) cc)) Q E ⟨h, g, d, t, os⟩ := by
  refine ks_wpAt_Expr_any (ks_wpAt_MethodCall (pl := L2.plainOf (.Call (.Name "super" q1) [] [] q2) (ksEnv qual sc L i (.ref cda) cc)) ?run ?form) quiet
  case form =>
    show (attributeBase _ _ _ _ >>= fun ov => standAt q3.atName >>= fun _ => methodCall _ _ _ _ _ _ _ _ _) = _
    refine congrArg (Bind.bind _) (funext fun ov => ?_)
    rw [L2.mcall_line (by rfl) line]
    rfl
  case run =>
    refine super_made T noSup top cod S at_ hd isSelf G F N selfIs fun so h1 F1 N1 _ => ?_
    have I1 : InstAt h1 x (excO C t0) C none := ⟨N1.get (.tail _ (.head _)), rfl, rfl, trivial⟩
    refine kxs_method (s := ⟨h1, g, d, t, os⟩) kxs_ValueError F1 X0 N1 (List.mem_cons_self ..) I1 T.opq T.sup T.ve (by decide) fun q h2 F2 N2 below => ?_
    refine kxs_callWith1 N2 (List.mem_cons_self ..) (spliced_cons (Constant_str (k := 0) (pos := q4) (spliced_nil ⟨kxs_at N2 (List.mem_cons_self ..), ?_⟩)))
    have ne : ∀ p ∈ [(so, ks_superObj C x C), (x, excO C t0)], q ≠ p.1 := fun p mem => Nat.ne_of_gt (below p mem)
    have soNe : so ≠ x := fun e => by
      have y1 := N1.get (.head _)
      rw [e, N1.get (.tail _ (.head _))] at y1
      cases y1
    refine kxs_call (s := ⟨h2, g, d, _, os⟩) (x := x) (t := t0) (dv := none) (c2 := .none) F2 X0 N2 PySem.F.excBase_ValueError T.ini (List.mem_cons_self ..) (.tail (ne _ (.tail _ (.head _))) (.tail soNe (.head fun p mem => nomatch mem))) (by show 1 ≤ sizeLine; rw [sizeLine_eq]; omega) fun t' h3 F3 N3 _ => ?_
    exact k t' h3 _ F3 fun p mem => N3 p (by
      rcases List.mem_singleton.mp mem with rfl
      exact .tail _ (.tail _ (.tail _ (.head _))))
/-- what an __init__ leaves of a new exception at x: its dict at dx shows the map m -/
structure InitEnd (h h' : Heap) (x C dx : Addr) (m : Str → Option Value) : Prop where
  keep : ∀ b o, b ≠ x → h.get? b = some o → h'.get? b = some o
  obj : ∃ t1, h'.get? x = some { cls := .ref C, dict := some dx, data := .fields #[.ref t1, .none, .none, .none, .bool false, .none] }
  dbig : h.objs.size ≤ dx
  dne : dx ≠ x
  ns : h'.Ns1 dx m
theorem loc {env : Env} {s : Shared} {m : Str → Option Value} {x : Str} {pos : Pos} {v : Value} {Q : Value → Shared → Prop} (ns : s.heap.Ns env.locals m) (is_ : m x = some v) (kd : env.scope.kind = .function) (lc : env.kindOf x = some .local) (db : (x == ("__debug__" : Str)) = false) (q : Q v s) :
    wpAny (model prog w) A (eval (.Name x pos) env) Q E s := wpAny_Name (wpAny_loadName_local kd lc ns is_ q) db
/-- self.f = f, the first: the exception gets its dict -/
theorem set_first {env : Env} {body rest : List Stmt} {f : Str} {v : Value} {q7 q8 q9 q10 : Pos} {Q : Flow → Shared → Prop} (T : Err K C i) (free : findIn K (.ref C) f = some none) (X : K.In h) (ns : h.Ns env.locals m) (kd : env.scope.kind = .function) (lcS : env.kindOf "self" = some .local) (lcF : env.kindOf f = some .local) (db : (f == ("__debug__" : Str)) = false)
    (selfIs : m "self" = some (.ref x)) (fIs : m f = some v) (excAt : h.get? x = some (excO C t0))
    (k : ∀ h' tk dx, (∀ b o, b ≠ x → h.get? b = some o → h'.get? b = some o) → h.objs.size ≤ dx → dx ≠ x → h'.get? x = some { cls := .ref C, dict := some dx, data := .fields #[.ref t0, .none, .none, .none, .bool false, .none] } → h'.Ns1 dx (fun y => if y = f then some v else none) →
      _root_.PySem.wpAt (model prog w) A (.func body env) (execs rest env) Q E ⟨h', g, d, tk, os⟩) :
    _root_.PySem.wpAt (model prog w) A (.func body env) (execs (setS f q7 q8 q9 q10 :: rest) env) Q E ⟨h, g, d, t, os⟩ := by
  obtain ⟨cd, isCls, mro, dict⟩ := T.cl
  refine ks_wpAt_execs_cons (ks_wpAt_Assign_Attr (wpAt_of_wpAny (loc ns fIs kd lcF db (loc ns selfIs kd lcS (by decide) ?_))))
  refine set_plain (od := none) X ⟨excAt, rfl, rfl, trivial⟩ T.sets ?_
  exact exc_osa X excAt isCls mro dict free fun h' tk dx keep big ne at_ shows => k h' tk dx keep big ne at_ shows
/-- self.f = f, a later one -/
theorem set_next {env : Env} {body rest : List Stmt} {f f0 : Str} {v v0 : Value} {dx : Addr} {q7 q8 q9 q10 : Pos} {Q : Flow → Shared → Prop} (T : Err K C i) (free : findIn K (.ref C) f = some none) (X : K.In h) (ns : h.Ns env.locals m) (kd : env.scope.kind = .function) (lcS : env.kindOf "self" = some .local) (lcF : env.kindOf f = some .local) (db : (f == ("__debug__" : Str)) = false)
    (selfIs : m "self" = some (.ref x)) (fIs : m f = some v) (excAt : h.get? x = some { cls := .ref C, dict := some dx, data := .fields #[.ref t0, .none, .none, .none, .bool false, .none] }) (shows : h.Ns1 dx (fun y => if y = f0 then some v0 else none))
    (k : ∀ h' tk, (∀ b o, b ≠ dx → h.get? b = some o → h'.get? b = some o) → h'.Ns1 dx (fun y => if y = f then some v else if y = f0 then some v0 else none) → _root_.PySem.wpAt (model prog w) A (.func body env) (execs rest env) Q E ⟨h', g, d, tk, os⟩) :
    _root_.PySem.wpAt (model prog w) A (.func body env) (execs (setS f q7 q8 q9 q10 :: rest) env) Q E ⟨h, g, d, t, os⟩ := by
  obtain ⟨cd, isCls, mro, dict⟩ := T.cl
  obtain ⟨oD, _, _, dictAt, _⟩ := id shows
  refine ks_wpAt_execs_cons (ks_wpAt_Assign_Attr (wpAt_of_wpAny (loc ns fIs kd lcF db (loc ns selfIs kd lcS (by decide) ?_))))
  refine set_plain (od := some oD) X ⟨excAt, rfl, rfl, dictAt⟩ T.sets ?_
  exact OEX.osa_old (nl := [f0]) X excAt shows (Within.cons f0 v0 Within.nil) (by show 1 ≤ 1000; decide) isCls mro dict free fun h' tk keep shows => k h' tk keep shows
/-- the parts of the text that an __init__ with one field, with two fields, has of its own -/
structure Nm1 (f : Str) : Prop where
  db : (f == ("__debug__" : Str)) = false
  sc : Scp (iS1 f)
  lc : (iS1 f).names.lookup f = some .local
  lk : ∀ x v : Value, ([(("self" : Str), x), (f, v)] : List (Str × Value)).reverse.lookup ("self" : Str) = some x ∧ ([(("self" : Str), x), (f, v)] : List (Str × Value)).reverse.lookup f = some v
  nc : ∀ z ∈ (iS1 f).names, z.2 ≠ NameKind.cell
  bi : ∀ (qual : Str) (bd : List Stmt) (p1 p2 : Pos) (doc pm : Value) (an : Option Addr) (cdv ct : Value) (cc : Addr) (x v : Value), bindArgs (ksFn "__init__" qual (iA1 f p1 p2) bd (iS1 f) .none .none doc pm an cdv ct cc) ⟨[x, v], []⟩ = pure [(("self" : Str), x), (f, v)]
structure Nm2 (f g : Str) : Prop where
  db1 : (f == ("__debug__" : Str)) = false
  db2 : (g == ("__debug__" : Str)) = false
  ne : f ≠ g
  sc : Scp (iS2 f g)
  lc1 : (iS2 f g).names.lookup f = some .local
  lc2 : (iS2 f g).names.lookup g = some .local
  lk : ∀ x v u : Value, ([(("self" : Str), x), (f, v), (g, u)] : List (Str × Value)).reverse.lookup ("self" : Str) = some x ∧ ([(("self" : Str), x), (f, v), (g, u)] : List (Str × Value)).reverse.lookup f = some v ∧ ([(("self" : Str), x), (f, v), (g, u)] : List (Str × Value)).reverse.lookup g = some u
  nc : ∀ z ∈ (iS2 f g).names, z.2 ≠ NameKind.cell
  bi : ∀ (qual : Str) (bd : List Stmt) (p1 p2 p3 : Pos) (doc pm : Value) (an : Option Addr) (cdv ct : Value) (cc : Addr) (x v u : Value), bindArgs (ksFn "__init__" qual (iA2 f g p1 p2 p3) bd (iS2 f g) .none .none doc pm an cdv ct cc) ⟨[x, v, u], []⟩ = pure [(("self" : Str), x), (f, v), (g, u)]
/-- the ledger at the entry of an __init__: the caller's heap without the exception -/
theorem ledger {hc h1 : Heap} {m : Str → Option Value} (excAt : hc.get? x = some (excO C t0)) (notK : K.lookup x = none) (X : K.In hc) (ns : h1.Ns hc.objs.size m) (keep : ∀ b o, hc.get? b = some o → h1.get? b = some o) :
    K.In (hideAll hc [x]) ∧ Fr (hideAll hc [x]) hc.objs.size h1 m ∧ News (hideAll hc [x]) hc.objs.size h1 [(x, excO C t0)] := by
  refine ⟨fun a o e => hideAll_get _ (X a o e) fun mem => ?_, ⟨ns, fun b o e => keep b o (of_hideAll _ e), Nat.le_of_eq (hideAll_size _ _)⟩, fun p mem => ?_⟩
  · rw [List.mem_singleton.mp mem, notK] at e
    nomatch e
  · rcases List.mem_singleton.mp mem with rfl
    exact ⟨keep _ _ excAt, Nat.ne_of_lt (Heap.lt_size excAt), hideAll_none _ (List.mem_singleton.mpr rfl)⟩
section
variable {R : Result → Shared → Prop} {s : Shared} {qual : Str} {c1 : Value} {d1 : Option Addr} {l1 : Array (Option Value)} {doc pm ct : Value} {an : Option Addr} {txt : Str} {p1 p2 p3 q1 q2 q3 q4 q5 q6 q7 q8 q9 q10 r1 r2 r3 r4 : Pos}
theorem init1 {f : Str} {v : Value} (T : Err K C i) (noSup : mg "super" = none) (top : (prog.main.scope.names.lookup ("super" : Str)).isSome = false) (Z : Nm1 f)
    (at_ : K.lookup i = some ⟨c1, d1, .func (ksFn "__init__" qual (iA1 f p1 p2) [supS txt q1 q2 q3 q4 q5 q6, setS f q7 q8 q9 q10] (iS1 f) .none .none doc pm an (.ref cda) ct cc), l1⟩) (cod : Cod prog K C (.ref cda) cc qual) (line : (q3.endLine == q5.line) = true)
    (free : findIn K (.ref C) f = some none) (G : Glo K mg s.heap) (excAt : s.heap.get? x = some (excO C t0)) (notK : K.lookup x = none) (room : A.depth < recursionLimit)
    (k : ∀ h' tk dx, InitEnd s.heap h' x C dx (fun y => if y = f then some v else none) → R (.ok (.ret .none)) { s with heap := h', toks := tk }) :
    codeAny (model prog w) A (.call (.ref i) ⟨[.ref x, v], []⟩) R s := by
  obtain ⟨lkS, lkF⟩ := Z.lk (.ref x) v
  refine ks_codeAny_call_defAt room (G.kin _ _ at_) rfl G.lim (codeRec_of G.kin cod.code) rfl (BindsTo.of_eq (Z.bi _ _ _ _ _ _ _ _ _ _ _ _)) Z.nc ?locals (fun h1 ns keep => ?_) rfl rfl rfl
  case locals =>
    intro y mem
    rcases List.mem_cons.mp mem with rfl | mem
    · exact Z.sc.self
    · rcases List.mem_singleton.mp mem with rfl
      exact Z.lc
  obtain ⟨X0, F, N⟩ := ledger excAt notK G.kin ns keep
  refine ks_wpAt_execs_cons (sup_go T noSup top cod Z.sc line (by rfl) at_ (a0 := ⟨"self", none, p1⟩) rfl rfl X0 (G.keeps keep) F N lkS fun t1 h2 tk2 F2 N2 => ?_)
  have exc2 : h2.get? x = some (excO C t1) := N2.get (List.mem_singleton.mpr rfl)
  refine set_first T free (X0.keeps F2.keep) F2.ns rfl Z.sc.self Z.lc Z.db lkS lkF exc2 fun h3 tk3 dx keep3 big ne at3 shows => ?_
  refine wpAt_of_wpAny (wpAny_execs_nil (k h3 tk3 dx ⟨fun b o nb e => keep3 b o nb (F2.keep b o (hideAll_get _ e fun mem => nb (List.mem_singleton.mp mem))), ⟨t1, at3⟩, ?_, ne, shows⟩))
  exact Nat.le_of_lt (Nat.lt_of_lt_of_le F2.ns.lt big)
theorem init2 {f g2 : Str} {v u : Value} (T : Err K C i) (noSup : mg "super" = none) (top : (prog.main.scope.names.lookup ("super" : Str)).isSome = false) (Z : Nm2 f g2)
    (at_ : K.lookup i = some ⟨c1, d1, .func (ksFn "__init__" qual (iA2 f g2 p1 p2 p3) [supS txt q1 q2 q3 q4 q5 q6, setS f q7 q8 q9 q10, setS g2 r1 r2 r3 r4] (iS2 f g2) .none .none doc pm an (.ref cda) ct cc), l1⟩) (cod : Cod prog K C (.ref cda) cc qual) (line : (q3.endLine == q5.line) = true)
    (free1 : findIn K (.ref C) f = some none) (free2 : findIn K (.ref C) g2 = some none) (G : Glo K mg s.heap) (excAt : s.heap.get? x = some (excO C t0)) (notK : K.lookup x = none) (room : A.depth < recursionLimit)
    (k : ∀ h' tk dx, InitEnd s.heap h' x C dx (fun y => if y = g2 then some u else if y = f then some v else none) → R (.ok (.ret .none)) { s with heap := h', toks := tk }) :
    codeAny (model prog w) A (.call (.ref i) ⟨[.ref x, v, u], []⟩) R s := by
  obtain ⟨lkS, lkF, lkG⟩ := Z.lk (.ref x) v u
  refine ks_codeAny_call_defAt room (G.kin _ _ at_) rfl G.lim (codeRec_of G.kin cod.code) rfl (BindsTo.of_eq (Z.bi _ _ _ _ _ _ _ _ _ _ _ _ _ _)) Z.nc ?locals (fun h1 ns keep => ?_) rfl rfl rfl
  case locals =>
    intro y mem
    rcases List.mem_cons.mp mem with rfl | mem
    · exact Z.sc.self
    rcases List.mem_cons.mp mem with rfl | mem
    · exact Z.lc1
    · rcases List.mem_singleton.mp mem with rfl
      exact Z.lc2
  obtain ⟨X0, F, N⟩ := ledger excAt notK G.kin ns keep
  refine ks_wpAt_execs_cons (sup_go T noSup top cod Z.sc line (by rfl) at_ (a0 := ⟨"self", none, p1⟩) rfl rfl X0 (G.keeps keep) F N lkS fun t1 h2 tk2 F2 N2 => ?_)
  have exc2 : h2.get? x = some (excO C t1) := N2.get (List.mem_singleton.mpr rfl)
  have X2 : K.In h2 := X0.keeps F2.keep
  refine set_first T free1 X2 F2.ns rfl Z.sc.self Z.lc1 Z.db1 lkS lkF exc2 fun h3 tk3 dx keep3 big ne at3 shows => ?_
  have frameNe : s.heap.objs.size ≠ x := Nat.ne_of_gt (Heap.lt_size excAt)
  have ns3 : h3.Ns s.heap.objs.size _ := F2.ns.at fun o e => keep3 _ _ frameNe e
  have X3 : K.In h3 := fun a o e => keep3 a o (fun same => by rw [same, notK] at e; cases e) (X2 a o e)
  refine set_next T free2 X3 ns3 rfl Z.sc.self Z.lc2 Z.db2 lkS lkG at3 shows fun h4 tk4 keep4 shows4 => ?_
  have old : ∀ b o, b ≠ x → s.heap.get? b = some o → h2.get? b = some o := fun b o nb e => F2.keep b o (hideAll_get _ e fun mem => nb (List.mem_singleton.mp mem))
  refine wpAt_of_wpAny (wpAny_execs_nil (k h4 tk4 dx ⟨fun b o nb e => keep4 b o (fun same => ?_) (keep3 b o nb (old b o nb e)), ⟨t1, keep4 _ _ (Ne.symm ne) at3⟩, ?_, ne, shows4⟩))
  · exact absurd (Heap.lt_size (old b o nb e)) (Nat.not_lt.mpr (same ▸ big))
  · exact Nat.le_of_lt (Nat.lt_of_lt_of_le F2.ns.lt big)
end
/-- a made exception: its dict shows the map m -/
structure OwnMade (h h' : Heap) (e C d : Addr) (m : Str → Option Value) : Prop where
  keep : ∀ b o, h.get? b = some o → h'.get? b = some o
  new : h.objs.size ≤ e
  obj : ∃ oe vs, h'.get? e = some oe ∧ oe.cls = .ref C ∧ oe.dict = some d ∧ oe.data = .fields vs ∧ vs[1]? = some .none
  dbig : h.objs.size ≤ d
  dne : d ≠ e
  ns : h'.Ns1 d m
/-- C(..) for an error class, from what its __init__ does -/
theorem made {s : Shared} {R : Result → Shared → Prop} (T : Err K C i) {vs : List Value} {m : Str → Option Value} (G : Glo K mg s.heap) (few : vs.length ≤ sizeLine) (room : A.depth + 1 < recursionLimit)
    (ini : ∀ {A : Around} {s : Shared} {R : Result → Shared → Prop} {x t0 : Addr}, Glo K mg s.heap → s.heap.get? x = some (excO C t0) → K.lookup x = none → A.depth < recursionLimit →
      (∀ h' tk dx, InitEnd s.heap h' x C dx m → R (.ok (.ret .none)) { s with heap := h', toks := tk }) → codeAny (model prog w) A (.call (.ref i) ⟨.ref x :: vs, []⟩) R s)
    (k : ∀ h' tk e d, OwnMade s.heap h' e C d m → R (.ok (.ret (.ref e))) { s with heap := h', toks := tk }) :
    codeAny (model prog w) A (.call (.ref C) ⟨vs, []⟩) R s := by
  obtain ⟨hp, g, dr, tk, os⟩ := s
  obtain ⟨nm, N', qn, bs, bm, hdct, sn, sub, ab, col, dd, k0, k1, k2, k3, k5, classAt, tail⟩ := excInit_of G.kin T.ini
  have grows : ∀ b o, hp.get? b = some o → ((hp.push (kdv_tup vs)).push (excO C hp.objs.size)).get? b = some o := fun b o e => Heap.get?_push_of_some _ (Heap.get?_push_of_some _ e)
  have newAt : ((hp.push (kdv_tup vs)).push (excO C hp.objs.size)).get? (hp.objs.size + 1) = some (excO C hp.objs.size) := by heap_get
  have notK : K.lookup (hp.objs.size + 1) = none := Option.eq_none_iff_forall_ne_some.mpr fun o e => absurd (show hp.objs.size + 1 < hp.objs.size from Heap.lt_size (G.kin _ o e)) (by omega)
  refine call_own PySem.F.excBase_ValueError tail classAt (looks_findIn G.kin T.finds) (fun self => bind_fn G.kin self T.isFun) few ?_
  refine ini (s := ⟨(hp.push (kdv_tup vs)).push (excO C hp.objs.size), g, dr, tk, os⟩) (G.keeps grows) newAt notK room fun h' tk' dx ⟨keep, ⟨t1, at_⟩, big, ne, shows⟩ => ?_
  have big2 : hp.objs.size + 1 + 1 ≤ dx := by
    have b := big
    simp only [Heap.size_push] at b
    exact b
  exact ⟨rfl, k h' tk' (hp.objs.size + 1) dx ⟨fun b o e => keep b o (Nat.ne_of_lt (Nat.lt_succ_of_lt (Heap.lt_size e))) (grows b o e), Nat.le_succ _, ⟨_, _, at_, rfl, rfl, rfl, rfl⟩, show hp.objs.size ≤ dx by omega, ne, shows⟩⟩
end
/-- the class at C, known by the name nx, makes exceptions with the fields fs -/
structure Mkr (prog : Program) (w : World) (K : Frag) (mg : Str → Option Value) (nx : Str) (C : Addr) (fs : List Str) : Prop where
  gC : mg nx = some (.ref C)
  ga : findIn K (.ref C) "__getattribute__" = some (some (.builtin "BaseException.__getattribute__"))
  gg : findIn K (.ref C) "__getattr__" = some none
  kC : keepIn K (.ref C) = true
  exC : subIn K (.ref C) (.type "BaseException") = some true
  tyC : typeIn K (.ref C) = some (.type "type")
  hdC : hasDictIn K C = true
  no : ∀ f ∈ fs, findIn K (.ref C) f = some none
  run : ∀ {A : Around} {s : Shared} {R : Result → Shared → Prop} (vs : List Value), vs.length = fs.length → Glo K mg s.heap → A.depth + 1 < recursionLimit →
    (∀ h' tk e d, OwnMade s.heap h' e C d (fun y => (fs.zip vs).lookup y) → R (.ok (.ret (.ref e))) { s with heap := h', toks := tk }) → codeAny (model prog w) A (.call (.ref C) ⟨vs, []⟩) R s
theorem lk_1 {f : Str} {v : Value} : (fun y => if y = f then some v else none) = fun y => ([f].zip [v]).lookup y := by
  funext y
  simp only [List.zip_cons_cons, List.zip_nil_right, List.lookup_cons, List.lookup_nil]
  by_cases same : y = f
  · rw [if_pos same, beq_iff_eq.mpr same]
  · rw [if_neg same, beq_eq_false_iff_ne.mpr same]
theorem lk_2 {f g : Str} {v u : Value} (ne : f ≠ g) : (fun y => if y = g then some u else if y = f then some v else none) = fun y => ([f, g].zip [v, u]).lookup y := by
  funext y
  simp only [List.zip_cons_cons, List.zip_nil_right, List.lookup_cons, List.lookup_nil]
  by_cases same : y = f
  · have no : y ≠ g := fun e => ne (same.symm.trans e)
    rw [if_neg no, if_pos same, beq_iff_eq.mpr same]
  · rw [if_neg same, beq_eq_false_iff_ne.mpr same]
    by_cases same2 : y = g
    · rw [if_pos same2, beq_iff_eq.mpr same2]
    · rw [if_neg same2, beq_eq_false_iff_ne.mpr same2]
end Fx
namespace Fx
open PySem PySem.Spec PyProof.Rows L2
theorem rel_zip : ∀ {fs : List Str} {vs : List V} {us : List Value}, Vals vs us → ∀ f, RelO ((fs.zip vs).lookup f) ((fs.zip us).lookup f)
  | [], _, _, _, f => by simp [List.lookup]; trivial
  | g :: fs, _, _, .nil, f => by simp [List.lookup]; trivial
  | g :: fs, _, _, .cons r rs, f => by
    simp only [List.zip_cons_cons, List.lookup_cons]
    cases (f == g) with
    | true => exact r
    | false => exact rel_zip rs f
section
variable {X : Cx} {C : Addr} {nx : Str} {fs : List Str}
/-- X(e, ..) -/
def tMk (C : Addr) (fs : List Str) (ta : TA) : L2.St → Hp → XK → Prop := fun σ H Q => ta σ H fun vs H1 => vs.length = fs.length ∧ ∀ d, H1 d = none → Q (.ref C) (some d) (upd H1 d (.xd (fs.zip vs)))
theorem pmk {a : Expr} {as : List Expr} {ta : TA} {p pos : Pos} {k : Nat} (T : Mkr X.prog X.w X.K X.mg nx C fs) (hr : Room k X.A) (ha : PA X (a :: as) ta) (hg : Gl X nx := by rfl) (hdb : (nx == ("__debug__" : Str)) = false := by decide)
    (he : starEach (a :: as) X.env = (false, eval a X.env) :: starEach as X.env := by rfl) (hpl : (backTo pos (starEach as X.env)).any (·.1) = false := by rfl) :
    PMk X (.Call (.Name nx p) (a :: as) [] pos) (tMk C fs ta) := by
  intro pins s σ H Q I h
  refine wpAny_Call_Name_kw (ld_glob I hg T.gC ?_ hdb)
  refine PySem.W.callWith_K (h₀ := X.base) I.ok.mod.kin T.kC (thn (ha.run pos pins s σ H _ I h) fun us s1 hh => ?_) he hpl
  obtain ⟨vs, H1, I1, r1, ev, q1⟩ := hh
  refine ⟨I1.kIn, ?_⟩
  show wpAny _ _ (call (.ref C) us) _ _ _
  have hlim := I1.nolimit
  have G : Glo X.K X.mg s1.heap := by
    obtain ⟨mb, b1, b2⟩ := I1.mod.blt
    exact ⟨I1.kIn, I1.mod.glob.keeps I1.bk, ⟨mb, b1.keeps I1.bk, b2⟩, hlim⟩
  have hl : us.length = fs.length := by rw [← r1.length]; exact ev
  obtain ⟨hp, g, dr, tk, os⟩ := s1
  refine wpAny_call (T.run us hl G (by have := hr.dp; omega) fun h' tk' e d M => ?_)
  show MkP X pins σ Q (.ref e) ⟨h', g, dr, tk', os⟩
  obtain ⟨oe, fv, hoe, hc, hd, hdat, h1⟩ := M.obj
  have hns := M.ns
  obtain ⟨G', g1, g2⟩ := restrict h' fun b => decide (b ≠ e)
  have gk : ∀ b, b ≠ e → G'.get? b = h'.get? b := fun b hb => g1 b (decide_eq_true hb)
  have ge : G'.get? e = none := g2 e (by simp)
  have old : ∀ b o, hp.get? b = some o → G'.get? b = some o := fun b o q => (gk b (Nat.ne_of_lt (Nat.lt_of_lt_of_le (Heap.lt_size q) M.new))).trans (M.keep b o q)
  have ob : ObjOk X.prog X.w (upd H1 d (.xd (fs.zip vs))) G' d (.xd (fs.zip vs)) :=
    ⟨_, hns.at (fun o q => (gk d M.dne).trans q), fun f => rel_zip r1 f⟩
  have J : Inv X pins σ (upd H1 d (.xd (fs.zip vs))) ⟨G', g, dr, tk', os⟩ := I1.laid (t' := tk') old M.dbig ob
  refine ⟨e, oe, fv, ⟨G', g, dr, tk', os⟩, _, .ref C, some d, rfl, J, fun b o q => ?_, ge, hoe, ⟨hc, hd⟩, hdat, h1, ?_, rfl, I1.bare, raises_own T.exC T.tyC, q1 d (I1.hok.fresh M.dbig)⟩
  · by_cases hb : b = e
    · have q' : G'.get? b = some o := q
      rw [hb, ge] at q'; cases q'
    · exact (gk b hb).symm.trans q
  · rw [upd_ne (Ne.symm M.dne)]
    exact I1.hok.fresh M.new
/-- raise X(e, ..) -/
def tRaise (C : Addr) (fs : List Str) (W : WX) (ta : TA) : TS := fun _ σ H => tMk C fs ta σ H fun cls d H' => W cls d σ H'
theorem praise {a : Expr} {as : List Expr} {ta : TA} {W : WX} {p pos pos2 : Pos} {k : Nat} (hc : X.calm = true) (T : Mkr X.prog X.w X.K X.mg nx C fs) (hr : Room k X.A) (tk : Takes X W) (ha : PA X (a :: as) ta) (hg : Gl X nx := by rfl) (hdb : (nx == ("__debug__" : Str)) = false := by decide)
    (he : starEach (a :: as) X.env = (false, eval a X.env) :: starEach as X.env := by rfl) (hpl : (backTo pos (starEach as X.env)).any (·.1) = false := by rfl) :
    PS X (.Raise (some (.Call (.Name nx p) (a :: as) [] pos)) none pos2) (tRaise C fs W ta) := ps_raise hc tk (pmk T hr ha hg hdb he hpl)
/-- e.f, e the exception that the suite holds (at a; its class cls, its dict d) -/
def tFld (C : Addr) (f : Str) (a : Addr) (cls : Value) (d : Option Addr) (te : TE) : TE := fun σ H Q => te σ H fun x H1 => x = .ref a ∧ cls = .ref C ∧ ∃ (dd : Addr) (l : List (Str × V)) (v : V), d = some dd ∧ H1 dd = some (.xd l) ∧ l.lookup f = some v ∧ Q v H1
theorem pfld {a : Addr} {oe : Obj} {cls : Value} {d : Option Addr} {pn : List (Addr × Obj)} {e : Expr} {te : TE} {pos : Pos} {f : Str} (T : Mkr X.prog X.w X.K X.mg nx C fs) (hf0 : f ∈ fs) (hz : Zc cls d oe) (hf : ∃ vs, oe.data = .fields vs) (he : PE (X.suite a ((a, oe) :: pn)) e te)
    (hb : attributeBase e f X.env (eval e X.env) = eval e X.env := by rfl) :
    PE (X.suite a ((a, oe) :: pn)) (.Attribute e f pos) (tFld C f a cls d te) := by
  refine ⟨fun pins s σ H Q I h => ?_⟩
  refine attr_of hb (thn (he.run pins s σ H _ I h) fun u s1 hh => ?_)
  obtain ⟨x, H1, I1, rx, ex, ec, dd, l, v, ed, ea, el, q⟩ := hh
  subst ex
  obtain rfl : u = Value.ref a := rx
  subst ec
  subst ed
  obtain ⟨ha, _⟩ := I1.pin (a, oe) (List.mem_append_left _ List.mem_cons_self)
  obtain ⟨vs, hd⟩ := hf
  have hx : ObjOk X.prog X.w H1 s1.heap dd (.xd l) := I1.hok dd _ ea
  obtain ⟨mA, hns, hr⟩ := hx
  obtain ⟨od, ho, hl⟩ := lookIn_ns hns
  obtain ⟨u, hu, ru⟩ := RelO.some_of (v := v) (o := mA f) (by rw [← el]; exact hr f)
  have J : PySem.W.InstAt s1.heap a oe C (some od) := ⟨ha, hz.1, by unfold PySem.W.notCls; rw [hd] <;> rfl, by rw [hz.2]; exact ho⟩
  exact HandSPX.exc_get I1.kIn J T.ga T.gg T.exC (PySem.W.findObj_own T.hdC (T.no f hf0) rfl (by rw [hl, hu])) (handed_of ru) ⟨v, H1, I1.tok _, ru, q⟩
end
end Fx
namespace Fx
open PySem PySem.Spec PyProof.Rows L2
/-! ### try .. except with several clauses, each with a name or without -/
/-- a clause's class, the slot of its name, what its suite asks -/
abbrev Clause : Type := Value × Option Nat × (Addr → Value → Option Addr → TS)
/-- the ends of a suite whose name (slot i) is unbound behind it -/
def unb (D : Ends) (i : Nat) : Ends := { nx := fun σ H => D.nx (σ.set i none) H, rt := D.rt, bk := fun σ H => D.bk (σ.set i none) H, ct := fun σ H => D.ct (σ.set i none) H }
/-- what a clause that is met asks -/
def met (D : Ends) (c : Clause) (cls : Value) (d : Option Addr) (σ : L2.St) (H : Hp) : Prop := ∀ a, H a = none → match c.2.1 with
  | none => c.2.2 a cls d D σ H
  | some i => c.2.2 a cls d (unb D i) (σ.set i (some (.ref a))) H
/-- what the clauses wish of an exception, from the first on; Wout: of one that no clause takes -/
def wishes (K : PySem.W.Frag) (Wout : WX) (D : Ends) : List Clause → WX
  | [] => Wout
  | c :: r => fun cls d σ H => ∃ b, PySem.W.exmOne K cls c.1 = some b ∧ (b = true → met D c cls d σ H) ∧ (b = false → wishes K Wout D r cls d σ H)
abbrev SuiteOk (X : Cx) (b₀ : Stmt) (suite : List Stmt) (ts : Addr → Value → Option Addr → TS) : Prop :=
  ∀ (a : Addr) (oe : Obj) (cls : Value) (d : Option Addr) (pn : List (Addr × Obj)), Zc cls d oe → (∃ vs, oe.data = .fields vs) → PSs (X.suite a ((a, oe) :: pn)) (b₀ :: suite) (ts a cls d)
inductive Cls (X : Cx) : List ExceptHandler → List Clause → Prop
  | nil : Cls X [] []
  | plain {x : Str} {c : Value} {ts : Addr → Value → Option Addr → TS} {b₀ : Stmt} {suite : List Stmt} {np ps : Pos} {hs : List ExceptHandler} {l : List Clause} (isC : Names X x c) (ok : SuiteOk X b₀ suite ts) (rest : Cls X hs l) :
      Cls X (.ExceptHandler (some (.Name x np)) none (b₀ :: suite) ps :: hs) ((c, none, ts) :: l)
  | named {x n : Str} {c : Value} {i : Nat} {ts : Addr → Value → Option Addr → TS} {b₀ : Stmt} {suite : List Stmt} {np ps : Pos} {hs : List ExceptHandler} {l : List Clause} (nd : X.N.Nodup) (slot : X.N[i]? = some n) (lc : X.env.kindOf n = some .local) (isC : Names X x c) (ok : SuiteOk X b₀ suite ts) (rest : Cls X hs l) :
      Cls X (.ExceptHandler (some (.Name x np)) (some n) (b₀ :: suite) ps :: hs) ((c, some i, ts) :: l)
section
variable {X : Cx} {pins : List (Addr × Obj)} {σ : L2.St} {H : Hp} {a : Addr} {cls : Value} {d : Option Addr} {s : Shared} {W : WX} {D : Ends}
/-- an exception at a has come to the clauses of X's try -/
structure Caught (X : Cx) (pins : List (Addr × Obj)) (σ : L2.St) (H : Hp) (a : Addr) (cls : Value) (d : Option Addr) (W : WX) (s : Shared) : Prop where
  inv : L2.Inv X pins σ H s
  new : H a = none
  noLoc : a ≠ X.env.locals
  noFr : a ∉ X.fs
  fly : ∃ B, HandSPX.FlyingZ B (X.env :: X.outer) a (Zc cls d) s.heap ∧ (∀ h', HandSPX.FlyingZ B (X.env :: X.outer) a (Zc cls d) h' → s.heap.UpToSlots h' → L2.Inv X pins σ H { s with heap := h' }) ∧
    ∀ h', HandSPX.HeldZ B (X.env :: X.outer) a (Zc cls d) X.env.locals h' → s.heap.UpToSlots h' → W cls d σ H → XE X W (.ref a) { s with heap := h' }
theorem Caught.obj (c : Caught X pins σ H a cls d W s) : ∃ oe vs, s.heap.get? a = some oe ∧ Zc cls d oe ∧ oe.data = .fields vs := c.fly.elim fun _ f => f.1.there
/-- the landing -/
theorem land {u : Value} {xe : Value → Shared → Prop} {V : WX} {Q : Unit → Shared → Prop} {E : Value → Shared → Prop} (ok : X.Ok) (stk : X.stack = X.env :: X.outer) (frm : X.env.frame = some X.env.locals) (x : XE (X.tr (X.pn ++ pins) xe) V u s)
    (k : ∀ (a : Addr) (σ : L2.St) (H : Hp) (cls : Value) (d : Option Addr) (s' : Shared), u = .ref a → Caught X pins σ H a cls d W s' → V cls d σ H → Q () s') :
    wpAny (model X.prog X.w) X.A (noteFrame u X.env) (fun _ s₂ => wpAny (model X.prog X.w) X.A (setFlight u none) Q E s₂) E s := by
  obtain ⟨a, B, s1, pins1, σ, H, cls, d, rfl, i1, base, up, sky, new, os, bare, wish⟩ := x
  have inv1 : L2.Inv X pins σ H s1 := i1.ofTry ok
  have base : ∀ (b : Addr) (o : Obj), s1.heap.get? b = some o → ¬b ∈ frs X.stack → B.get? b = some o := base
  have sky : Sky B X.stack a (Zc cls d) X.env.locals s.heap := sky
  rw [stk] at sky
  refine Sky.land Zc.steady (by rw [ok.frames, stk]) frm sky fun h2 fly up2 => ?_
  have inv2 : L2.Inv X pins σ H { s with heap := h2 } := inv1.landed base fly.1 (up.trans up2) os bare
  obtain ⟨oe, vs, at_, zc, dat⟩ := fly.there
  have out : ∀ e ∈ X.env :: X.outer, e.frame ≠ some a := fun e mem same => by
    obtain ⟨_, o', at2, notF⟩ := fly.2.2.1.mem (List.mem_filterMap.mpr ⟨e, mem, same⟩ : a ∈ frs (X.env :: X.outer))
    cases at_.symm.trans at2
    exact notF _ dat
  refine k a σ H cls d _ rfl ⟨inv2, new, fun same => out X.env (List.mem_cons_self ..) (by rw [frm, same]), fun mem => ?_, B, fly, fun h' fly' up' => inv1.landed base fly'.1 ((up.trans up2).trans up') os bare, fun h' held up' w => ?_⟩ wish
  · obtain ⟨e, mem, same⟩ := List.mem_filterMap.mp mem
    exact out e (List.mem_cons_of_mem _ mem) same
  · exact ⟨a, B, s1, pins, σ, H, cls, d, rfl, inv1, base, (up.trans up2).trans up', .inr (.inr (by rw [stk]; exact held)), new, os, bare, w⟩
/-- the test of a clause -/
theorem Caught.test {x : Str} {cv : Value} {np : Pos} {b : Bool} {R : Bool → Shared → Prop} {E1 E2 : Value → Shared → Prop} (c : Caught X pins σ H a cls d W s) (isC : Names X x cv) (ex : PySem.W.exmOne X.K cls cv = some b) (k : R b s) :
    wpAny (model X.prog X.w) (X.A.mark (some (.ref a))) (eval (.Name x np) X.env) (fun cv s1 => wpAny (model X.prog X.w) (X.A.mark (some (.ref a))) (excMatches (.ref a) cv) R E1 s1) E2 s := by
  obtain ⟨oe, vs, at_, zc, dat⟩ := c.obj
  have inS : L2.Inv (X.suite a ((a, oe) :: (X.pn ++ pins))) [] σ H s := c.inv.suite at_ dat c.new c.noLoc c.noFr
  have ty : PySem.W.Looks (model X.prog X.w) s.heap (typeOf (.ref a)) cls := fun A Q E s2 more q => wpAny_typeOf_ref (more _ _ at_) (zc.1.symm ▸ q)
  have end_ := (PySem.W.exm_one (M := model X.prog X.w) c.inv.kIn ty ex).here (A := X.A.mark (some (.ref a))) (E := E1) (s := s) k
  rcases isC with ⟨gl, db, isG | ⟨noG, isB, nn⟩⟩
  · exact ld_glob (X := X.suite a ((a, oe) :: (X.pn ++ pins))) inS gl isG end_ db
  · exact ld_blt (X := X.suite a ((a, oe) :: (X.pn ++ pins))) inS gl noG isB end_ nn db
/-- the suite of a clause without a name -/
theorem Caught.suite {b₀ : Stmt} {suite : List Stmt} {ts : Addr → Value → Option Addr → TS} {E1 : Value → Shared → Prop} (c : Caught X pins σ H a cls d W s) (ok : SuiteOk X b₀ suite ts) (wish : ts a cls d D σ H) :
    wpAny (model X.prog X.w) (X.A.mark (some (.ref a))) (setFlight (.ref a) none) (fun _ s1 => wpAny (model X.prog X.w) (X.A.mark (some (.ref a))) (execs (b₀ :: suite) X.env) (SP X pins D) E1 s1) E1 s := by
  obtain ⟨B, fly, again, _⟩ := c.fly
  refine HandSPX.lands_againZ fly fun h' fly' up => ?_
  obtain ⟨oe, vs, at_, zc, dat⟩ := fly'.there
  have inS := (again h' fly' up).suite at_ dat c.new c.noLoc c.noFr
  refine wpAny_mono ((ok a oe cls d (X.pn ++ pins) zc ⟨vs, dat⟩).run [] _ σ H D inS wish) (fun f s2 sp => ?_) fun _ _ bad => bad.elim
  cases f with
  | ret u => exact sp.elim fun v ⟨σ', H', i, r, q⟩ => ⟨v, σ', H', i.unsuite c.inv.ok, r, q⟩
  | _ => exact sp.elim fun σ' ⟨H', i, q⟩ => ⟨σ', H', i.unsuite c.inv.ok, q⟩
/-- the suite of a clause with a name: behind it the name is unbound -/
theorem Caught.suiteAs {n : Str} {i : Nat} {b₀ : Stmt} {suite : List Stmt} {ps : Pos} {ts : Addr → Value → Option Addr → TS} {E1 E2 E3 : Value → Shared → Prop} (c : Caught X pins σ H a cls d W s) (nd : X.N.Nodup) (slot : X.N[i]? = some n) (lc : X.env.kindOf n = some .local) (ok : SuiteOk X b₀ suite ts)
    (wish : ts a cls d (unb D i) (σ.set i (some (.ref a))) H) :
    wpAny (model X.prog X.w) (X.A.mark (some (.ref a))) (setFlight (.ref a) none) (fun _ s1 => wpAny (model X.prog X.w) (X.A.mark (some (.ref a))) (storeName X.env n (.ref a)) (fun _ s2 =>
      wpAny (model X.prog X.w) (X.A.mark (some (.ref a))) (execs (b₀ :: suite) X.env) (fun f s3 => wpAny (model X.prog X.w) X.A (do bindName X.env n Value.none; unbindBehindTheSuite X.env n ps) (fun _ s4 => SP X pins D f s4) E3 s3) E2 s2) E1 s1) E1 s := by
  obtain ⟨B, fly, again, _⟩ := c.fly
  refine HandSPX.lands_againZ fly fun h' fly' up => ?_
  obtain ⟨oe, vs, at_, zc, dat⟩ := fly'.there
  have inS := (again h' fly' up).suite at_ dat c.new c.noLoc c.noFr
  refine store_ok (X := X.suite a ((a, oe) :: (X.pn ++ pins))) (v := .ref a) inS nd slot (.inl lc) rfl (fun s1 in1 => ?_) (.inr lc)
  refine wpAny_mono ((ok a oe cls d (X.pn ++ pins) zc ⟨vs, dat⟩).run [] s1 _ H (unb D i) in1 wish) (fun f s2 sp => ?_) fun _ _ bad => bad.elim
  cases f with
  | ret u => exact sp.elim fun v ⟨σ', H', iv, r, q⟩ => gone_ok (iv.unsuite c.inv.ok) nd slot lc fun s3 iv3 => ⟨v, _, H', iv3, r, q⟩
  | _ => exact sp.elim fun σ' ⟨H', iv, q⟩ => gone_ok (iv.unsuite c.inv.ok) nd slot lc fun s3 iv3 => ⟨_, H', iv3, q⟩
/-- no clause takes it -/
theorem Caught.on (c : Caught X pins σ H a cls d W s) (frm : X.env.frame = some X.env.locals) (tk : Takes X W) (wish : W cls d σ H) : wpAny (model X.prog X.w) X.A (PySem.passOn "try.no-clause-matches" (.ref a) X.env) (SP X pins D) X.xe s := by
  obtain ⟨B, fly, _, out⟩ := c.fly
  obtain ⟨_, _, _, oe, vs, T, oT, ts, at_, zc, dat, one, _⟩ := id fly
  have up_ : wpAny (model X.prog X.w) X.A (setFlight (.ref a) X.env.frame) (fun _ s4 => wpAny (model X.prog X.w) X.A (throw (.ref a) : Sem Flow) (SP X pins D) X.xe s4) X.xe s := by
    rw [frm]
    exact HandSPX.setFlight_upZ fly fun h' held up => wpAny_throw (tk _ _ (out h' held up wish))
  unfold PySem.passOn
  refine wpAny_bind (wpAny_field at_ dat one ?_)
  have notNone : (Value.ref T == Value.none) = false := rfl
  simp only [notNone, Bool.false_eq_true, if_false]
  first
    | exact wpAny_bind up_
    | exact wpAny_bind (wpAny_pure (wpAny_bind up_))
/-- all the clauses -/
theorem Caught.go {hs : List ExceptHandler} {l : List Clause} (frm : X.env.frame = some X.env.locals) (tk : Takes X W) (c : Caught X pins σ H a cls d W s) (ok : Cls X hs l) (wish : wishes X.K W D l cls d σ H) : wpAny (model X.prog X.w) X.A (handleBy (.ref a) X.env hs) (SP X pins D) X.xe s := by
  induction ok with
  | nil => exact wpAny_handleBy_nil (c.on frm tk wish)
  | plain isC ok rest ih =>
    obtain ⟨b, ex, yes, no⟩ := wish
    refine wpAny_handleBy_cons (codeAny_handlers_test (c.test isC ex ?_)) (fun bad => nomatch bad)
    cases b with
    | true => exact codeAny_handlers_suite (c.suite ok (yes rfl a c.new))
    | false => exact ih (no rfl)
  | named nd slot lc isC ok rest ih =>
    obtain ⟨b, ex, yes, no⟩ := wish
    refine wpAny_handleBy_cons (codeAny_handlers_test (c.test isC ex ?_)) (fun bad => nomatch bad)
    cases b with
    | true => exact codeAny_handlers_suite_as (c.suiteAs nd slot lc ok (yes rfl a c.new))
    | false => exact ih (no rfl)
def tTry (K : PySem.W.Frag) (Wout : WX) (l : List Clause) (tb : WX → TS) : TS := fun D σ H => tb (wishes K Wout D l) D σ H
/-- THE RULE -/
theorem ptry (K : PySem.W.Frag) {body : List Stmt} {h₀ : ExceptHandler} {hds : List ExceptHandler} {l : List Clause} {pos : Pos} {tb : WX → TS} {Wout : WX} (stk : X.stack = X.env :: X.outer) (frm : X.env.frame = some X.env.locals) (tk : Takes X Wout)
    (bodyOk : ∀ (W : WX) (pn : List (Addr × Obj)) (xe : Value → Shared → Prop), Takes (X.tr pn xe) W → PassesOwn (model X.prog X.w) X.A X.env xe → PSs (X.tr pn xe) body (tb W))
    (ok : Cls X (h₀ :: hds) l) (same : X.K = K := by rfl) : PS X (.Try body (h₀ :: hds) [] [] pos) (tTry K Wout l tb) := by
  subst same
  refine ⟨fun pins s σ H D inv ask => wpAny_Try_except ?_⟩
  have run := (bodyOk (wishes X.K Wout D l) (X.pn ++ pins) (fun e s₁ => wpAny (model X.prog X.w) X.A (noteFrame e X.env) (fun _ s₂ => wpAny (model X.prog X.w) X.A (setFlight e none) (fun _ s₃ => wpAny (model X.prog X.w) X.A (handleBy e X.env (h₀ :: hds)) (SP X pins D) X.xe s₃) X.xe s₂) X.xe s₁)
    (fun u s' x => land (pins := pins) (W := Wout) inv.ok stk frm x fun a σ' H' cls d s2 same c wish => same ▸ c.go frm tk ok wish) PassesOwn.looking).run [] s σ H D (inv.toTry _) ask
  refine wpAny_mono run (fun f s1 sp => ?_) fun e s1 h => h
  cases f with
  | ret u => exact sp.elim fun v ⟨σ', H', i, r, q⟩ => ⟨v, σ', H', i.ofTry inv.ok, r, q⟩
  | next => exact sp.elim fun σ' ⟨H', i, q⟩ => wpAny_execs_nil ⟨σ', H', i.ofTry inv.ok, q⟩
  | brk => exact sp.elim fun σ' ⟨H', i, q⟩ => ⟨σ', H', i.ofTry inv.ok, q⟩
  | cont => exact sp.elim fun σ' ⟨H', i, q⟩ => ⟨σ', H', i.ofTry inv.ok, q⟩
end
end Fx
namespace Fx
open PySem PySem.Spec PyProof.Rows L2
/-! ### isinstance(e, c), e the exception that a suite holds -/
def rIsX (K : PySem.W.Frag) (a : Addr) (cls : Value) (d : Option Addr) : List V → Hp → VK → Prop := fun xs H Q => ∃ (D : Addr) (c : V) (cv : Value) (b : Bool), cls = .ref D ∧ ExcC K D ∧ (d = none ∨ ∃ dd l, d = some dd ∧ H dd = some (.xd l)) ∧ xs = [.ref a, c] ∧ (∀ u, RelV c u → u = cv) ∧ PySem.W.kitOne K (.ref D) cv = some b ∧ Q (.bl b) H
theorem kisX {X : Cx} (K : PySem.W.Frag) {a : Addr} {oe : Obj} {cls : Value} {d : Option Addr} {pn : List (Addr × Obj)} (zc : Zc cls d oe) (dat : ∃ vs, oe.data = .fields vs) (same : X.K = K := by rfl) : CallR (X.suite a ((a, oe) :: pn)) (.builtin "isinstance") (rIsX K a cls d) := by
  subst same
  intro pins s σ H xs us Q inv rel ask
  obtain ⟨D, c, cv, b, rfl, C, dict, rfl, only, kit, q⟩ := ask
  obtain ⟨vs, dat⟩ := dat
  have at_ : s.heap.get? a = some oe := (inv.pin (a, oe) (List.mem_append_left _ (List.mem_cons_self ..))).1
  have inst : ∃ od, PySem.W.InstAt s.heap a oe D od := by
    have noCls : PySem.W.notCls oe = true := by unfold PySem.W.notCls; rw [dat]
    rcases dict with rfl | ⟨dd, l, rfl, isX⟩
    · exact ⟨none, at_, zc.1, noCls, by rw [zc.2]; trivial⟩
    · obtain ⟨m, ns, _⟩ : ObjOk X.prog X.w H s.heap dd (.xd l) := inv.hok dd _ isX
      obtain ⟨od, dAt, _⟩ := lookIn_ns ns
      exact ⟨some od, at_, zc.1, noCls, by rw [zc.2]; exact dAt⟩
  obtain ⟨od, inst⟩ := inst
  have isC : (PySem.W.clsIn X.K D).isSome = true := (PySem.W.any_some C.hd).elim fun cd e => by rw [e.1]; rfl
  match us, rel with
  | [u, v], .cons r1 (.cons r2 .nil) =>
    obtain rfl : u = Value.ref a := r1
    obtain rfl := only v r2
    exact PySem.W.kia_one (PySem.W.kitx_exc isC C.hg C.hk C.hs C.ha C.hn C.ht C.hm) inv.kIn inst kit (fun bad => nomatch bad) fun tk => ⟨.bl b, H, inv.kept (t' := tk) fun _ _ z => z, rfl, q⟩
/-! ### what the head says of error classes -/
open PySem.W (Frag)
/-- the class x, an error class of the program: what a raised one needs to be asked -/
def isExc (x : Str) : Hk.Ask := fun K =>
  [He.eqO (PySem.W.findIn K (.ref (He.ga K x)) "__getattribute__") (some (some (.builtin "BaseException.__getattribute__"))), He.eqO (PySem.W.findIn K (.ref (He.ga K x)) "__getattr__") (some none), decide (PySem.W.subIn K (.ref (He.ga K x)) (.type "BaseException") = some true), PySem.W.hasDictIn K (He.ga K x),
    He.eqO (PySem.W.findIn K (.ref (He.ga K x)) "__class__") (some (some (.builtin "object.__class__"))), He.eqO (PySem.W.specialIn K (.builtin "object.__class__") "__get__") (some (some (.builtin "getset_descriptor.__get__"))), decide (PySem.W.takesIn K (.builtin "object.__class__") = some true), decide (PySem.W.mroIn K (He.ga K x) (.type "object") = some true),
    PySem.W.keepIn K (.ref (He.ga K x)), decide (PySem.W.typeIn K (.ref (He.ga K x)) = some (.type "type"))].all id
structure ExcF (K : Frag) (D : Addr) : Prop extends ExcC K D where
  kp : PySem.W.keepIn K (.ref D) = true
  ty : PySem.W.typeIn K (.ref D) = some (.type "type")
theorem isExc_ok {x : Str} {K : Frag} (y : isExc x K = true) : ExcF K (He.ga K x) := by
  have z := List.all_eq_true.mp y
  have z : ∀ b ∈ _, b = true := z
  refine ⟨⟨He.eqO_ok (z _ ?_), He.eqO_ok (z _ ?_), of_decide_eq_true (z _ ?_), z _ ?_, He.eqO_ok (z _ ?_), He.eqO_ok (z _ ?_), of_decide_eq_true (z _ ?_), of_decide_eq_true (z _ ?_)⟩, z _ ?_, of_decide_eq_true (z _ ?_)⟩ <;> simp only [List.mem_cons, true_or, or_true]
/-- its __init__ -/
def isErr (x : Str) (fs : List Str) : Hk.Ask := fun K =>
  [PySem.W.excInitIn K (He.ga K x) HandSPX.veTail "ValueError.__new__", (PySem.W.clsIn K (He.ga K x)).any fun cd => HandSPX.refsVE cd.mro && cd.hasDict, He.eqO (PySem.W.findIn K (.ref (He.ga K x)) "__setattr__") (some (some (.builtin "object.__setattr__"))),
    He.eqO (PySem.W.findIn K (.ref (He.ga K x)) "__init__") (some (some (.ref (He.fAd K (x, some "__init__"))))), decide (PySem.W.typeIn K (.ref (He.fAd K (x, some "__init__"))) = some (.type "function")), decide (PySem.W.subIn K (.ref (He.ga K x)) (.type "ValueError") = some true),
    He.eqO (PySem.W.ks_superIn K (He.ga K x) (He.ga K x) "__init__") (some (some (.builtin "ValueError.__init__"))), decide (PySem.W.mroIn K (He.ga K x) (.ref (He.ga K x)) = some true), He.eqO (PySem.W.nsIn K cStatics "thirdparty.any") (some none),
    fs.all fun f => He.eqO (PySem.W.findIn K (.ref (He.ga K x)) f) (some none)].all id
theorem isErr_ok {x : Str} {fs : List Str} {K : Frag} (y : isErr x fs K = true) : Err K (He.ga K x) (He.fAd K (x, some "__init__")) ∧ ∀ f ∈ fs, PySem.W.findIn K (.ref (He.ga K x)) f = some none := by
  have z := List.all_eq_true.mp y
  have z : ∀ b ∈ _, b = true := z
  have cl : (PySem.W.clsIn K (He.ga K x)).any (fun cd => HandSPX.refsVE cd.mro && cd.hasDict) = true := z _ (by simp only [List.mem_cons, true_or, or_true])
  have fr : (fs.all fun f => He.eqO (PySem.W.findIn K (.ref (He.ga K x)) f) (some none)) = true := z _ (by simp only [List.mem_cons, true_or, or_true])
  obtain ⟨cd, e1, e2⟩ := PySem.W.any_some cl
  have e2 := Bool.and_eq_true_iff.mp e2
  refine ⟨⟨z _ ?_, ⟨cd, e1, e2.1, e2.2⟩, He.eqO_ok (z _ ?_), He.eqO_ok (z _ ?_), of_decide_eq_true (z _ ?_), of_decide_eq_true (z _ ?_), He.eqO_ok (z _ ?_), of_decide_eq_true (z _ ?_), He.eqO_ok (z _ ?_)⟩, fun f mem => He.eqO_ok (List.all_eq_true.mp fr f mem)⟩ <;> simp only [List.mem_cons, true_or, or_true]
/-- the code object's file and the cell of a def that says super() in the class x -/
def fileOf (K : Frag) (v : Value) : Option Str := match v with
  | .ref c => (K.lookup c).bind fun o => match o.data with
    | .fields vs => (match (vs[2]? : Option Value) with
      | some (.str f _) => some f
      | _ => none)
    | _ => none
  | _ => none
theorem fileOf_some {K : Frag} {v : Value} {f : Str} (y : fileOf K v = some f) : ∃ a c d vs sl tf, v = .ref a ∧ K.lookup a = some ⟨c, d, .fields vs, sl⟩ ∧ vs[2]? = some (.str f tf) := by
  unfold fileOf at y
  split at y
  · next a =>
    obtain ⟨⟨c, d, dt, sl⟩, at_, y⟩ := Option.bind_eq_some_iff.mp y
    dsimp only at y
    split at y
    · next vs =>
      split at y
      · next f' tf third =>
        cases y
        exact ⟨a, c, d, vs, sl, tf, rfl, at_, third⟩
      · nomatch y
    · nomatch y
  · nomatch y
def cellOf (K : Frag) (a : Addr) : Option Addr := (K.lookup a).bind fun o => match o.data with
  | .cell (some (.ref D)) => some D
  | _ => none
theorem cellOf_some {K : Frag} {a D : Addr} (y : cellOf K a = some D) : ∃ c d sl, K.lookup a = some ⟨c, d, .cell (some (.ref D)), sl⟩ := by
  obtain ⟨⟨c, d, dt, sl⟩, at_, y⟩ := Option.bind_eq_some_iff.mp y
  dsimp only at y
  split at y
  · next D' =>
    cases y
    exact ⟨c, d, sl, at_⟩
  · nomatch y
def isNon : Value → Bool
  | .none => true
  | _ => false
theorem isNon_ok {v : Value} (y : isNon v = true) : v = .none := by
  cases v with
  | none => rfl
  | _ => nomatch y
def isCod (x : Str) (file : Str) (r : Hk.Row) : Hk.Ask := fun K => (Hk.defAt K (r.place K)).any fun fd => (fileOf K fd.code).any (fun f => file == f) && (fd.closure.all (fun z => cellOf K z.2 == some (He.ga K x)) && isNon fd.kwdefaults)
theorem isCod_ok {x file : Str} {r : Hk.Row} {K : Frag} {fd : FuncData} (i : r.Is K fd) (y : isCod x file r K = true) : (∃ f, fileOf K fd.code = some f ∧ (file == f) = true) ∧ (∀ z ∈ fd.closure, cellOf K z.2 = some (He.ga K x)) ∧ fd.kwdefaults = .none := by
  obtain ⟨c, d, sl, at_⟩ := i.found
  have here : Hk.defAt K (r.place K) = some fd := by unfold Hk.defAt; rw [at_]; rfl
  unfold isCod at y
  rw [here] at y
  have both := Bool.and_eq_true_iff.mp y
  obtain ⟨f, e1, e2⟩ := PySem.W.any_some both.1
  have two := Bool.and_eq_true_iff.mp both.2
  exact ⟨⟨f, e1, e2⟩, fun z mem => eq_of_beq (List.all_eq_true.mp two.1 z mem), isNon_ok two.2⟩
section
variable {prog : Program} {K : Frag} {mg : Str → Option Value} {x f g : Str} {r : Hk.Row}
theorem cod_of {cc cda : Addr} {qual : Str} {fd : FuncData} (i : r.Is K fd) (y : isCod x prog.main.file r K = true) (cl : (("__class__" : Str), cc) ∈ fd.closure) (cd : fd.code = .ref cda) (code : PySem.W.codeIn K (.ref cda) qual = true) : Cod prog K (He.ga K x) (.ref cda) cc qual := by
  obtain ⟨⟨f, e1, e2⟩, cells, _⟩ := isCod_ok i y
  obtain ⟨a, c, d, vs, sl, tf, same, at_, third⟩ := fileOf_some e1
  exact ⟨code, ⟨a, c, d, vs, sl, f, tf, cd.symm.trans same, at_, third, e2⟩, cellOf_some (cells _ cl)⟩
theorem code_ref {fd : FuncData} {qual : Str} (y : PySem.W.codeIn K fd.code qual = true) : ∃ cda, fd.code = .ref cda := by
  unfold PySem.W.codeIn at y
  split at y
  · next c e => exact ⟨c, e⟩
  · nomatch y
theorem noDfl {dV : Value} (y : DflV K dV []) : dV = .none := by
  rcases y with ⟨_, e⟩ | ⟨e, _⟩
  · exact e
  · exact absurd rfl e
theorem mkr1 {w : World} {fd : FuncData} (gC : mg x = some (.ref (He.ga K x))) (noSup : mg "super" = none) (top : (prog.main.scope.names.lookup ("super" : Str)).isSome = false) (i : r.Is K fd) (ef : ExcF K (He.ga K x)) (er : isErr x [f] K = true) (cod : isCod x prog.main.file r K = true) (Z : Nm1 f)
    (pl : r.place = fun K => He.fAd K (x, some "__init__")) (nm : r.name = "__init__") (fr : r.frees = [("__class__" : Str)]) (df : r.dfl = [])
    (text : ∃ (txt : Str) (p1 p2 q1 q2 q3 q4 q5 q6 q7 q8 q9 q10 : Pos), r.params = iA1 f p1 p2 ∧ r.body = [supS txt q1 q2 q3 q4 q5 q6, setS f q7 q8 q9 q10] ∧ r.scope = iS1 f ∧ (q3.endLine == q5.line) = true) : Mkr prog w K mg x (He.ga K x) [f] := by
  obtain ⟨T, no⟩ := isErr_ok er
  refine ⟨gC, ef.hg, ef.hk, ef.kp, ef.hs, ef.ty, ef.hd, no, fun {A s R} vs len G room k => ?_⟩
  match vs, len with
  | [v], _ =>
    obtain ⟨txt, p1, p2, q1, q2, q3, q4, q5, q6, q7, q8, q9, q10, e1, e2, e3, line⟩ := text
    obtain ⟨cda, isRef⟩ := code_ref i.code
    obtain ⟨c, d, sl, at_⟩ := i.found
    obtain ⟨cc, doc, pm, an, cdv, ct, dV, kV, same, _, _⟩ := i.free1 fr
    have dN : dV = .none := noDfl (by have q := i.dfl; rw [same] at q; unfold Hk.Row.dvs at q; rw [df] at q; exact q)
    have kN : kV = .none := by have q := (isCod_ok i cod).2.2; rw [same] at q; exact q
    have cE : cdv = .ref cda := by rw [same] at isRef; exact isRef
    have cod2 : Cod prog K (He.ga K x) (.ref cda) cc r.qual := cod_of i cod (by rw [same]; exact List.mem_singleton.mpr rfl) isRef (isRef ▸ i.code)
    subst dN kN cE
    rw [same, nm, e1, e2, e3, pl] at at_
    refine made T G (by show 1 ≤ sizeLine; rw [sizeLine_eq]; omega) room (fun G2 exc notK room2 k2 => init1 T noSup top Z at_ cod2 line (no f (List.mem_singleton.mpr rfl)) G2 exc notK room2 k2) fun h' tk e d M => k h' tk e d ?_
    rw [← lk_1]
    exact M
theorem mkr2 {w : World} {fd : FuncData} (gC : mg x = some (.ref (He.ga K x))) (noSup : mg "super" = none) (top : (prog.main.scope.names.lookup ("super" : Str)).isSome = false) (i : r.Is K fd) (ef : ExcF K (He.ga K x)) (er : isErr x [f, g] K = true) (cod : isCod x prog.main.file r K = true) (Z : Nm2 f g)
    (pl : r.place = fun K => He.fAd K (x, some "__init__")) (nm : r.name = "__init__") (fr : r.frees = [("__class__" : Str)]) (df : r.dfl = [])
    (text : ∃ (txt : Str) (p1 p2 p3 q1 q2 q3 q4 q5 q6 q7 q8 q9 q10 r1 r2 r3 r4 : Pos), r.params = iA2 f g p1 p2 p3 ∧ r.body = [supS txt q1 q2 q3 q4 q5 q6, setS f q7 q8 q9 q10, setS g r1 r2 r3 r4] ∧ r.scope = iS2 f g ∧ (q3.endLine == q5.line) = true) : Mkr prog w K mg x (He.ga K x) [f, g] := by
  obtain ⟨T, no⟩ := isErr_ok er
  refine ⟨gC, ef.hg, ef.hk, ef.kp, ef.hs, ef.ty, ef.hd, no, fun {A s R} vs len G room k => ?_⟩
  match vs, len with
  | [v, u], _ =>
    obtain ⟨txt, p1, p2, p3, q1, q2, q3, q4, q5, q6, q7, q8, q9, q10, r1, r2, r3, r4, e1, e2, e3, line⟩ := text
    obtain ⟨cda, isRef⟩ := code_ref i.code
    obtain ⟨c, d, sl, at_⟩ := i.found
    obtain ⟨cc, doc, pm, an, cdv, ct, dV, kV, same, _, _⟩ := i.free1 fr
    have dN : dV = .none := noDfl (by have q := i.dfl; rw [same] at q; unfold Hk.Row.dvs at q; rw [df] at q; exact q)
    have kN : kV = .none := by have q := (isCod_ok i cod).2.2; rw [same] at q; exact q
    have cE : cdv = .ref cda := by rw [same] at isRef; exact isRef
    have cod2 : Cod prog K (He.ga K x) (.ref cda) cc r.qual := cod_of i cod (by rw [same]; exact List.mem_singleton.mpr rfl) isRef (isRef ▸ i.code)
    subst dN kN cE
    rw [same, nm, e1, e2, e3, pl] at at_
    refine made T G (by show 2 ≤ sizeLine; rw [sizeLine_eq]; omega) room (fun G2 exc notK room2 k2 => init2 T noSup top Z at_ cod2 line (no f (List.mem_cons_self ..)) (no g (.tail _ (.head _))) G2 exc notK room2 k2) fun h' tk e d M => k h' tk e d ?_
    rw [← lk_2 Z.ne]
    exact M
end
theorem scp1_name : Scp (iS1 "name") := ⟨rfl, rfl, rfl, rfl⟩
end Fx
namespace Fx
open PySem PySem.Spec PyProof.Rows L2
theorem nm1_name : Nm1 "name" := ⟨by decide, ⟨rfl, rfl, rfl, rfl⟩, rfl, fun _ _ => ⟨rfl, rfl⟩, by decide, fun _ _ _ _ _ _ _ _ _ _ _ _ => rfl⟩
theorem nm1_count : Nm1 "count" := ⟨by decide, ⟨rfl, rfl, rfl, rfl⟩, rfl, fun _ _ => ⟨rfl, rfl⟩, by decide, fun _ _ _ _ _ _ _ _ _ _ _ _ => rfl⟩
theorem nm1_value : Nm1 "value" := ⟨by decide, ⟨rfl, rfl, rfl, rfl⟩, rfl, fun _ _ => ⟨rfl, rfl⟩, by decide, fun _ _ _ _ _ _ _ _ _ _ _ _ => rfl⟩
theorem nm1_word : Nm1 "word" := ⟨by decide, ⟨rfl, rfl, rfl, rfl⟩, rfl, fun _ _ => ⟨rfl, rfl⟩, by decide, fun _ _ _ _ _ _ _ _ _ _ _ _ => rfl⟩
theorem nm1_text : Nm1 "text" := ⟨by decide, ⟨rfl, rfl, rfl, rfl⟩, rfl, fun _ _ => ⟨rfl, rfl⟩, by decide, fun _ _ _ _ _ _ _ _ _ _ _ _ => rfl⟩
theorem nm1_step : Nm1 "step" := ⟨by decide, ⟨rfl, rfl, rfl, rfl⟩, rfl, fun _ _ => ⟨rfl, rfl⟩, by decide, fun _ _ _ _ _ _ _ _ _ _ _ _ => rfl⟩
theorem nm1_size : Nm1 "size" := ⟨by decide, ⟨rfl, rfl, rfl, rfl⟩, rfl, fun _ _ => ⟨rfl, rfl⟩, by decide, fun _ _ _ _ _ _ _ _ _ _ _ _ => rfl⟩
theorem nm1_depth : Nm1 "depth" := ⟨by decide, ⟨rfl, rfl, rfl, rfl⟩, rfl, fun _ _ => ⟨rfl, rfl⟩, by decide, fun _ _ _ _ _ _ _ _ _ _ _ _ => rfl⟩
theorem nm1_index : Nm1 "index" := ⟨by decide, ⟨rfl, rfl, rfl, rfl⟩, rfl, fun _ _ => ⟨rfl, rfl⟩, by decide, fun _ _ _ _ _ _ _ _ _ _ _ _ => rfl⟩
theorem nm2_what_most : Nm2 "what" "most" := ⟨by decide, by decide, by decide, ⟨rfl, rfl, rfl, rfl⟩, rfl, rfl, fun _ _ _ => ⟨rfl, rfl, rfl⟩, by decide, fun _ _ _ _ _ _ _ _ _ _ _ _ _ _ => rfl⟩
theorem nm2_first_second : Nm2 "first" "second" := ⟨by decide, by decide, by decide, ⟨rfl, rfl, rfl, rfl⟩, rfl, rfl, fun _ _ _ => ⟨rfl, rfl, rfl⟩, by decide, fun _ _ _ _ _ _ _ _ _ _ _ _ _ _ => rfl⟩
theorem nm2_index_line : Nm2 "index" "line" := ⟨by decide, by decide, by decide, ⟨rfl, rfl, rfl, rfl⟩, rfl, rfl, fun _ _ _ => ⟨rfl, rfl, rfl⟩, by decide, fun _ _ _ _ _ _ _ _ _ _ _ _ _ _ => rfl⟩
/-- is an error of the class x one of the class y: in an except clause, in isinstance -/
def isSub (x y : Str) (b : Bool) : Hk.Ask := fun K => decide (PySem.W.exmOne K (.ref (He.ga K x)) (.ref (He.ga K y)) = some b) && decide (PySem.W.kitOne K (.ref (He.ga K x)) (.ref (He.ga K y)) = some b)
theorem isSub_ok {x y : Str} {b : Bool} {K : PySem.W.Frag} (q : isSub x y b K = true) : PySem.W.exmOne K (.ref (He.ga K x)) (.ref (He.ga K y)) = some b ∧ PySem.W.kitOne K (.ref (He.ga K x)) (.ref (He.ga K y)) = some b :=
  let z := Bool.and_eq_true_iff.mp q; ⟨of_decide_eq_true z.1, of_decide_eq_true z.2⟩
def isSubT (x : Str) (T : String) (b : Bool) : Hk.Ask := fun K => decide (PySem.W.kitOne K (.ref (He.ga K x)) (.type T) = some b)
theorem isSubT_ok {x : Str} {T : String} {b : Bool} {K : PySem.W.Frag} (q : isSubT x T b K = true) : PySem.W.kitOne K (.ref (He.ga K x)) (.type T) = some b := of_decide_eq_true q
/-- a class of errors without an __init__ of its own, made with a text -/
def isBare (x : Str) : Hk.Ask := fun K => PySem.W.excIn K (He.ga K x) He.veBase "ValueError.__new__"
theorem ps_bare {X : Cx} {x m : Str} {j : Nat} {p p2 pos pos2 : Pos} {W : WX} (calm : X.calm = true) (y : isBare x X.K = true) (gC : X.mg x = some (.ref (He.ga X.K x))) (ef : ExcF X.K (He.ga X.K x)) (tk : Takes X W) (hg : Gl X x := by rfl) (db : (x == ("__debug__" : Str)) = false := by decide) :
    PS X (.Raise (some (.Call (.Name x p) [.Constant (.str m) j p2] [] pos)) none pos2) (fun _ σ H => W (.ref (He.ga X.K x)) none σ H) := ps_raise calm tk (pmk_own PySem.F.excBase_ValueError y gC ef.kp (raises_own ef.hs ef.ty) hg db)
end Fx
/-! ### calls that may raise, in a try: what is wished for is told at the slots -/
namespace Ox
open PySem PySem.Spec PyProof.Rows L2
section
variable {X : Cx} {CX : CXT} {k : Nat} {f C : Addr} {fd : FuncData} {ps : List Str} {sp : Sp} {E : L2.St → XK} {x m : Str} {p pos apos : Pos} {e o : Expr} {es : List Expr} {ta : TE} {t : TA} {dvs : List V} {ds : List Value}
def tMethX (C : Addr) (m : Str) (sp : Sp) (dvs : List V) (E : L2.St → XK) (ta : TE) (t : TA) : TE := fun σ H Q => ta σ H fun x H1 => ∃ a dx fs, x = .ref a ∧ H1 a = some (.ins C dx fs) ∧ fs.lookup m = none ∧ t σ H1 fun vs H2 => sp (x :: (vs ++ dvs)) H2 Q (E σ)
/-- o.m(e, ..) -/
theorem methX {pl : Sem Bool} (obj : PE X o ta) (isC : Cls X.K C) (isM : Meth X.K C m f) (F : FnOk X.prog X.w X.K X.mg X.base CX k f fd ps sp) (room : Room k X.A) (bind_ : Binds X.K fd ps ds) (dfl : Vals dvs ds) (passes : ∀ σ, PassesAt CX X σ (E σ)) (args : PA X (e :: es) t)
    (star : starEach (e :: es) X.env = (false, eval e X.env) :: starEach es X.env := by rfl) (plain : (backTo pos (starEach es X.env)).any (·.1) = false := by rfl)
    (form : eval (.Call (.Attribute o m apos) (e :: es) [] pos) X.env = (eval o X.env >>= fun ov => standAt apos.atName >>= fun _ => holding [ov] (getMethod ov m pl) >>= fun q => callWith pos q.1 q.2 (backTo pos (starEach (e :: es) X.env)) (backToKw pos (keywordEach [] X.env))) := by rfl) :
    PE X (.Call (.Attribute o m apos) (e :: es) [] pos) (tMethX C m sp dvs E ta t) := by
  constructor
  intro pins s σ H Q inv ask
  refine PySem.W.methodCall_KW (pl := pl) (thn (obj.run pins s σ H _ inv ask) ?_) form
  rintro u s1 ⟨v, H1, inv1, rel, a, dx, fs, rfl, isIns, free, ask1⟩
  obtain rfl : u = Value.ref a := rel
  refine getmeth_ok inv1 isIns isC isM free (PySem.W.callWith_K (first := [.ref a]) (h₀ := X.base) inv.ok.mod.kin isM.kp (thn (args.run pos pins s1 σ H1 _ inv1 ask1) ?_) star plain)
  rintro us s2 ⟨vs, H2, inv2, rels, ask2⟩
  exact ⟨inv2.kIn, run_fnSD (us := .ref a :: us) (vs := .ref a :: vs) F room bind_ dfl (passes σ) inv2 (.cons rfl rels) ask2⟩
/-- o.m() -/
theorem methX0 {pl : Sem Bool} (obj : PE X o ta) (isC : Cls X.K C) (isM : Meth X.K C m f) (F : FnOk X.prog X.w X.K X.mg X.base CX k f fd ps sp) (room : Room k X.A) (bind_ : Binds X.K fd ps ds) (dfl : Vals dvs ds) (passes : ∀ σ, PassesAt CX X σ (E σ))
    (form : eval (.Call (.Attribute o m apos) [] [] pos) X.env = (eval o X.env >>= fun ov => standAt apos.atName >>= fun _ => holding [ov] (getMethod ov m pl) >>= fun q => callWith pos q.1 q.2 (backTo pos (starEach [] X.env)) (backToKw pos (keywordEach [] X.env))) := by rfl) :
    PE X (.Call (.Attribute o m apos) [] [] pos) (tMethX C m sp dvs E ta tNil) := by
  constructor
  intro pins s σ H Q inv ask
  refine PySem.W.methodCall_KW (pl := pl) (thn (obj.run pins s σ H _ inv ask) ?_) form
  rintro u s1 ⟨v, H1, inv1, rel, a, dx, fs, rfl, isIns, free, ask1⟩
  obtain rfl : u = Value.ref a := rel
  exact getmeth_ok inv1 isIns isC isM free (PySem.W.callWith_K0 (first := [.ref a]) inv1.kIn isM.kp (run_fnSD (us := [.ref a]) (vs := [.ref a]) F room bind_ dfl (passes σ) inv1 (.cons rfl .nil) ask1))
/-- f() -/
theorem callX0 (F : FnOk X.prog X.w X.K X.mg X.base CX k f fd ps sp) (room : Room k X.A) (hg : Gl X x) (isF : X.mg x = some (.ref f)) (kept : PySem.W.keepIn X.K (.ref f) = true) (bind_ : Binds X.K fd ps ds) (dfl : Vals dvs ds) (passes : ∀ σ, PassesAt CX X σ (E σ)) (db : (x == ("__debug__" : Str)) = false := by decide) :
    PE X (.Call (.Name x p) [] [] pos) (fun σ H Q => sp dvs H Q (E σ)) := by
  constructor
  intro pins s σ H Q inv ask
  exact wpAny_Call_Name_kw (ld_glob inv hg isF (PySem.W.callWith_K0 inv.kIn kept (run_fnSD (us := []) (vs := []) F room bind_ dfl (passes σ) inv .nil ask)) db)
/-- C(..), run -/
theorem run_makeX {pins : List (Addr × Obj)} {σ : L2.St} {H : Hp} {s : Shared} {Q : VK} {us : List Value} {vs : List V} (M : Mk X.K C f) (F : FnOk X.prog X.w X.K X.mg X.base CX k f fd ps sp) (room : Room (k + 1) X.A) (bind_ : Binds X.K fd ps ds) (dfl : Vals dvs ds)
    (passes : PassesAt CX X σ (E σ)) (inv : L2.Inv X pins σ H s) (rels : Vals vs us)
    (ask : ∀ x dx, H x = none → H dx = none → dx ≠ x → sp (.ref x :: (vs ++ dvs)) (upd (upd H dx (.own x)) x (.ins C dx [])) (fun v H2 => v = .non ∧ Q (.ref x) H2) (E σ)) :
    wpAny (model X.prog X.w) X.A (call (.ref C) us) (EP X pins σ Q) X.xe s := by
  have want := ask (s.heap.objs.size + 1) s.heap.objs.size (inv.hok.fresh (Nat.le_succ _)) (inv.hok.fresh (Nat.le_refl _)) (Nat.ne_of_lt (Nat.lt_succ_self _))
  have invM := Inv.made (C := C) inv
  have relM : Vals (V.ref (s.heap.objs.size + 1) :: (vs ++ dvs)) (Value.ref (s.heap.objs.size + 1) :: (us ++ ds)) := .cons rfl (rels.append dfl)
  have len := (F.len _ _ _ _ want).symm.trans relM.length
  have ran := F.run _ X.stack _ _ ⟨Value.ref (s.heap.objs.size + 1) :: us, []⟩ (Value.ref (s.heap.objs.size + 1) :: (us ++ ds)) _ _ (E σ) (room.make C us []) (invM.env0.make C us []) (bind_ _ (Value.ref (s.heap.objs.size + 1) :: us) invM.kIn len.symm) relM want
  refine wpAny_call (make_map (f := f) inv.kIn M.makes M.init (beq_iff_eq.mp M.fn) (codeAny_mono ran ?_))
  intro r s' q
  match r, q with
  | .error e, q => exact passes pins _ _ e s' invM q
  | .ok (.ret u), q =>
    obtain ⟨v, H', inv', rel', isNon, q'⟩ := invM.after q
    subst isNon
    exact ⟨rel', .ref (s.heap.objs.size + 1), H', inv', rfl, q'⟩
def tMakeX (C : Addr) (sp : Sp) (dvs : List V) (E : L2.St → XK) (t : TA) : TE := fun σ H Q => t σ H fun vs H1 => ∀ x dx, H1 x = none → H1 dx = none → dx ≠ x →
  sp (.ref x :: (vs ++ dvs)) (upd (upd H1 dx (.own x)) x (.ins C dx [])) (fun v H2 => v = .non ∧ Q (.ref x) H2) (E σ)
/-- C(e, ..) -/
theorem makeX (M : Mk X.K C f) (F : FnOk X.prog X.w X.K X.mg X.base CX k f fd ps sp) (room : Room (k + 1) X.A) (hg : Gl X x) (isC : X.mg x = some (.ref C)) (bind_ : Binds X.K fd ps ds) (dfl : Vals dvs ds) (passes : ∀ σ, PassesAt CX X σ (E σ)) (args : PA X (e :: es) t)
    (db : (x == ("__debug__" : Str)) = false := by decide) (star : starEach (e :: es) X.env = (false, eval e X.env) :: starEach es X.env := by rfl) (plain : (backTo pos (starEach es X.env)).any (·.1) = false := by rfl) :
    PE X (.Call (.Name x p) (e :: es) [] pos) (tMakeX C sp dvs E t) := by
  constructor
  intro pins s σ H Q inv ask
  refine wpAny_Call_Name_kw (ld_glob inv hg isC (PySem.W.callWith_K (h₀ := X.base) inv.ok.mod.kin M.kp (thn (args.run pos pins s σ H _ inv ask) ?_) star plain) db)
  rintro us s1 ⟨vs, H1, inv1, rels, ask1⟩
  exact ⟨inv1.kIn, run_makeX M F room bind_ dfl (passes σ) inv1 rels ask1⟩
/-- C() -/
theorem makeX0 (M : Mk X.K C f) (F : FnOk X.prog X.w X.K X.mg X.base CX k f fd ps sp) (room : Room (k + 1) X.A) (hg : Gl X x) (isC : X.mg x = some (.ref C)) (bind_ : Binds X.K fd ps ds) (dfl : Vals dvs ds) (passes : ∀ σ, PassesAt CX X σ (E σ)) (db : (x == ("__debug__" : Str)) = false := by decide) :
    PE X (.Call (.Name x p) [] [] pos) (tMakeX C sp dvs E tNil) := by
  constructor
  intro pins s σ H Q inv ask
  exact wpAny_Call_Name_kw (ld_glob inv hg isC (PySem.W.callWith_K0 inv.kIn M.kp (run_makeX (us := []) M F room bind_ dfl (passes σ) inv .nil ask)) db)
end
end Ox
/-! ### objects of own classes, texts repeated -/
namespace Ox
open PySem PySem.Spec PyProof.Rows L2
section
variable {X : Cx} (K : PySem.W.Frag)
theorem kcatA (h : X.K = K := by rfl) : OpR X (binaryOp .Add) (rCatA K) := h ▸ op_catA
end
/-! ### a text repeated -/
def repS (x : Str) (n : Int) : Str := if n < 1 then Str.empty else if (n == 1 || x.length == 0) = true then x else ⟨(List.replicate n.toNat x.cps).foldl (· ++ ·) #[]⟩
theorem op_mul_str {X : Cx} : OpR X (binaryOp .Mult) (fun x y H Q => ∃ a n, x = .str a ∧ y = .int n ∧ (-10000 ≤ n ∧ n ≤ 10000) ∧ a.length ≤ 1000 ∧ (repS a n).length ≤ sizeLine ∧ Q (.str (repS a n)) H) := by
  intro pins s σ H x y v u Q I rx ry h
  obtain ⟨a, n, rfl, rfl, ⟨h1, h2⟩, h3, h4, q⟩ := h
  obtain ⟨t, rfl⟩ := rx
  obtain ⟨t', rfl⟩ := ry
  refine PySem.P.mul_str ?_ (fun g1 _ => ?_) (fun g1 _ => ?_) ?_
  · have e1 : ¬ n < -(2 ^ 63 : Int) := by omega
    have e2 : ¬ n ≥ 2 ^ 63 := by omega
    rw [decide_eq_false e1, decide_eq_false e2]; rfl
  · have e1 : (a.length : Int) ≤ 1000 := by omega
    have e2 : (1000 : Int) ≤ (2 ^ 63 - 1) / n := by
      rw [Int.le_ediv_iff_mul_le (by omega)]
      omega
    omega
  · have e1 : a.length * n.toNat ≤ 1000 * 10000 := Nat.mul_le_mul h3 (by omega)
    unfold PySem.Builtin.Str.tooLong
    have e2 : ¬ (a.length * n.toNat > sizeLine) := by
      have := (by decide : 10000000 ≤ sizeLine)
      omega
    exact decide_eq_false e2
  · unfold repS at q h4
    by_cases g1 : n < 1
    · rw [if_pos g1] at q h4 ⊢
      exact ⟨by decide, ⟨.str Str.empty, H, I.tok _, ⟨_, rfl⟩, q⟩⟩
    · rw [if_neg g1] at q h4 ⊢
      by_cases g2 : (n == 1 || a.length == 0) = true
      · rw [if_pos g2] at q h4 ⊢
        exact ⟨.str a, H, I, ⟨_, rfl⟩, q⟩
      · rw [if_neg g2] at q h4 ⊢
        exact ⟨h4, ⟨.str _, H, I.tok _, ⟨_, rfl⟩, q⟩⟩
/-! ### a method, told once -/
def OkM (P : Program) (w : World) (K : PySem.W.Frag) (mg : Str → Option Value) (base : Heap) (CX : CXT) (k : Nat) (x m : Str) (ps : List Str) (sp : Sp) : Prop :=
  ∃ fd : FuncData, FnOk P w K mg base CX k (He.ma K (He.ga K x) m) fd ps sp ∧ Binds K fd ps []
section
variable {P : Program} {w : World} {K : PySem.W.Frag} {mg : Str → Option Value} {base : Heap}
theorem mkOkM {CX : CXT} {k : Nat} {x m q : Str} {st : Stmt} {N ps : List Str} {sp : Sp} (F : ∃ fd, FunD K m q (defArgs st) (defBody st) (defScope st) [] [] (He.ma K (He.ga K x) m) fd) (S : FnScope N ps (defScope st))
    (hb : ∀ (kV doc pm : Value) (an : Option Addr) (cdv ct : Value) (us : List Value), us.length = ps.length → bindArgs (PySem.W.fnOf m q (defArgs st) (defBody st) (defScope st) .none kV doc pm an cdv ct) ⟨us, []⟩ = pure (ps.zip us))
    (len : ∀ vs H Q E, sp vs H Q E → vs.length = ps.length)
    (body : ∀ (cdv : Value) (A : Around) (outer : List Env) (s : Shared) (H : Hp) (vs : List V) (Q : VK) (E : XK), Room k (A.deeper (envOfC q (defScope st) s.heap.objs.size (He.ma K (He.ga K x) m) cdv)) → sp vs H Q E →
      ∃ t, PSs (cxOf CX P w K mg base N q (defScope st) (He.ma K (He.ga K x) m) cdv A outer s H E) (defBody st) t ∧ t { nx := fun _ H' => Q .non H', rt := Q } (start N vs) H) : OkM P w K mg base CX (k + 1) x m ps sp := by
  obtain ⟨fd, F⟩ := F
  exact ⟨fd, F.ok S len body, F.bindsN hb⟩
theorem mkOkM0 {k : Nat} {x m q : Str} {st : Stmt} {N ps : List Str} {sp : Sp} (F : ∃ fd, FunD K m q (defArgs st) (defBody st) (defScope st) [] [] (He.ma K (He.ga K x) m) fd) (S : FnScope N ps (defScope st))
    (hb : ∀ (kV doc pm : Value) (an : Option Addr) (cdv ct : Value) (us : List Value), us.length = ps.length → bindArgs (PySem.W.fnOf m q (defArgs st) (defBody st) (defScope st) .none kV doc pm an cdv ct) ⟨us, []⟩ = pure (ps.zip us))
    (len : ∀ vs H Q E, sp vs H Q E → vs.length = ps.length)
    (body : ∀ (cdv : Value) (A : Around) (outer : List Env) (s : Shared) (H : Hp) (vs : List V) (Q : VK) (E : XK), Room k (A.deeper (envOfC q (defScope st) s.heap.objs.size (He.ma K (He.ga K x) m) cdv)) → sp vs H Q E →
      ∃ t, PSs (cxOf CX0 P w K mg base N q (defScope st) (He.ma K (He.ga K x) m) cdv A outer s H E).nox (defBody st) t ∧ t { nx := fun _ H' => Q .non H', rt := Q } (start N vs) H) : OkM P w K mg base CX0 (k + 1) x m ps sp :=
  mkOkM F S hb len fun cdv A outer s H vs Q E hr h => by
    obtain ⟨t, a, b⟩ := body cdv A outer s H vs Q E hr h
    exact ⟨t, a.nox, b⟩
end
end Ox
/-! plain data: equality -/
namespace Lg
open PySem PySem.Spec PyProof.Rows L2
theorem Wd.sub {H H' I : Hp} {M : Md} (W : Wd H I M) (e : Sub H H') : Wd H' I M := ⟨fun a x h => e a x (W.im a x h), fun c hc => ⟨e _ _ (W.mu c hc).1, (W.mu c hc).2⟩, W.nd⟩
theorem Wd.up {H H' J : Hp} {N : Md} (W : Wd H' J N) (e : Sub H J) : Sub H H' := fun a x h => W.im a x (e a x h)
mutual
/-- no bool, no dict inside -/
def nb : PyData → Bool
  | .none => true
  | .int _ => true
  | .str _ => true
  | .list xs => nbA xs
  | .tuple xs => nbA xs
  | _ => false
def nbA : List PyData → Bool
  | [] => true
  | x :: xs => nb x && nbA xs
end
mutual
theorem eqv_iff : ∀ (d e : PyData), nb d = true → nb e = true → (PyData.eqv d e = true ↔ d = e)
  | .none, .none, _, _ => by simp [PyData.eqv]
  | .none, .int _, _, _ => by simp [PyData.eqv]
  | .none, .str _, _, _ => by simp [PyData.eqv]
  | .none, .list _, _, _ => by simp [PyData.eqv]
  | .none, .tuple _, _, _ => by simp [PyData.eqv]
  | .int _, .none, _, _ => by simp [PyData.eqv]
  | .int i, .int j, _, _ => by simp [PyData.eqv]
  | .int _, .str _, _, _ => by simp [PyData.eqv]
  | .int _, .list _, _, _ => by simp [PyData.eqv]
  | .int _, .tuple _, _, _ => by simp [PyData.eqv]
  | .str _, .none, _, _ => by simp [PyData.eqv]
  | .str _, .int _, _, _ => by simp [PyData.eqv]
  | .str x, .str y, _, _ => by simp [PyData.eqv]
  | .str _, .list _, _, _ => by simp [PyData.eqv]
  | .str _, .tuple _, _, _ => by simp [PyData.eqv]
  | .list _, .none, _, _ => by simp [PyData.eqv]
  | .list _, .int _, _, _ => by simp [PyData.eqv]
  | .list _, .str _, _, _ => by simp [PyData.eqv]
  | .list xs, .list ys, h, h' => by
    rw [PyData.eqv, eqvA_iff xs ys (by rw [nb] at h; exact h) (by rw [nb] at h'; exact h')]
    simp
  | .list _, .tuple _, _, _ => by simp [PyData.eqv]
  | .tuple _, .none, _, _ => by simp [PyData.eqv]
  | .tuple _, .int _, _, _ => by simp [PyData.eqv]
  | .tuple _, .str _, _, _ => by simp [PyData.eqv]
  | .tuple _, .list _, _, _ => by simp [PyData.eqv]
  | .tuple xs, .tuple ys, h, h' => by
    rw [PyData.eqv, eqvA_iff xs ys (by rw [nb] at h; exact h) (by rw [nb] at h'; exact h')]
    simp
  | .bool _, _, h, _ => by simp [nb] at h
  | .dict _, _, h, _ => by simp [nb] at h
  | _, .bool _, _, h => by simp [nb] at h
  | _, .dict _, _, h => by simp [nb] at h
theorem eqvA_iff : ∀ (xs ys : List PyData), nbA xs = true → nbA ys = true → (PyData.eqvAll xs ys = true ↔ xs = ys)
  | [], [], _, _ => by simp [PyData.eqvAll]
  | [], _ :: _, _, _ => by simp [PyData.eqvAll]
  | _ :: _, [], _, _ => by simp [PyData.eqvAll]
  | x :: xs, y :: ys, h, h' => by
    rw [nbA, Bool.and_eq_true] at h h'
    rw [PyData.eqvAll, Bool.and_eq_true, eqv_iff x y h.1 h'.1, eqvA_iff xs ys h.2 h'.2]
    simp
end
theorem eqv_dec {d e : PyData} {p : Prop} [Decidable p] (hd : nb d = true) (he : nb e = true) (h : d = e ↔ p) : PyData.eqv d e = decide p := by
  cases q : PyData.eqv d e with
  | true => exact (decide_eq_true (h.mp ((eqv_iff d e hd he).mp q))).symm
  | false =>
    refine (decide_eq_false fun hp => ?_).symm
    rw [(eqv_iff d e hd he).mpr (h.mpr hp)] at q
    cases q
theorem nbA_str : ∀ xs : List Str, nbA (xs.map PyData.str) = true
  | [] => by simp [nbA]
  | x :: xs => by rw [List.map_cons, nbA, nb, nbA_str xs]; rfl
theorem nbA_int : ∀ xs : List Int, nbA (xs.map PyData.int) = true
  | [] => by simp [nbA]
  | x :: xs => by rw [List.map_cons, nbA, nb, nbA_int xs]; rfl
theorem map_str_inj {xs ys : List Str} : xs.map PyData.str = ys.map PyData.str ↔ xs = ys := by
  constructor
  · intro h
    exact (List.map_inj_right (f := PyData.str) (by intro a b q; injection q)).mp h
  · intro h
    rw [h]
theorem eqv_str (xs ys : List Str) : PyData.eqv (dS xs) (dS ys) = decide (xs = ys) := by
  refine eqv_dec (by unfold dS; rw [nb]; exact nbA_str xs) (by unfold dS; rw [nb]; exact nbA_str ys) ?_
  unfold dS
  rw [PyData.list.injEq]
  exact map_str_inj
theorem lay_strs : ∀ ns : List Str, (∀ x ∈ ns, PyData.strOk x = true) → PyData.canLayAll0 (ns.map .str) = true
  | [], _ => by simp [PyData.canLayAll0]
  | n :: ns, h => by
    rw [List.map_cons, PyData.canLayAll0, lay_strs ns fun x hx => h x (List.mem_cons_of_mem _ hx), PyData.canLay0, h n List.mem_cons_self]
    rfl
theorem dep_strs : ∀ ns : List Str, PyData.depthAll (ns.map .str) = 0
  | [] => by simp [PyData.depthAll]
  | n :: ns => by
    rw [List.map_cons, PyData.depthAll, dep_strs ns]
    simp [PyData.depth]
theorem shaped_strs {ns : List Str} (h : ∀ x ∈ ns, PyData.strOk x = true) : SeqAt.shaped (dS ns) = true := by
  unfold SeqAt.shaped dS
  rw [PyData.canLay0, lay_strs _ h, PyData.depth, dep_strs]
  decide
/-- a flat value as data -/
def flD : V → PyData
  | .int i => .int i
  | .str x => .str x
  | .bl b => .bool b
  | _ => .none
/-- nothing, a whole number, a text of true code points -/
inductive FlV : V → Prop where
  | non : FlV .non
  | int (i : Int) : FlV (.int i)
  | str {x : Str} (h : PyData.strOk x = true) : FlV (.str x)
theorem FlV.dp {K : PySem.W.Frag} {H : Hp} {v : V} (h : FlV v) : Dp K H v (flD v) := by
  cases h with
  | non => exact .non
  | int i => exact .int i
  | str h => exact .str _
theorem flA_dp {K : PySem.W.Frag} {H : Hp} : ∀ {vs : List V}, (∀ v ∈ vs, FlV v) → DpAll K H vs (vs.map flD)
  | [], _ => .nil
  | v :: vs, h => .cons (h v List.mem_cons_self).dp (flA_dp fun x hx => h x (List.mem_cons_of_mem _ hx))
theorem flA_lay : ∀ {vs : List V}, (∀ v ∈ vs, FlV v) → PyData.canLayAll0 (vs.map flD) = true
  | [], _ => by simp [PyData.canLayAll0]
  | v :: vs, h => by
    rw [List.map_cons, PyData.canLayAll0, flA_lay fun x hx => h x (List.mem_cons_of_mem _ hx)]
    cases h v List.mem_cons_self with
    | non => simp [flD, PyData.canLay0]
    | int i => simp [flD, PyData.canLay0]
    | str hx => simp [flD, PyData.canLay0, hx]
theorem flA_dep : ∀ {vs : List V}, (∀ v ∈ vs, FlV v) → PyData.depthAll (vs.map flD) = 0
  | [], _ => by simp [PyData.depthAll]
  | v :: vs, h => by
    rw [List.map_cons, PyData.depthAll, flA_dep fun x hx => h x (List.mem_cons_of_mem _ hx)]
    cases h v List.mem_cons_self with
    | non => simp [flD, PyData.depth]
    | int i => simp [flD, PyData.depth]
    | str h => simp [flD, PyData.depth]
theorem flA_nb : ∀ {vs : List V}, (∀ v ∈ vs, FlV v) → nbA (vs.map flD) = true
  | [], _ => by simp [nbA]
  | v :: vs, h => by
    rw [List.map_cons, nbA, flA_nb fun x hx => h x (List.mem_cons_of_mem _ hx)]
    cases h v List.mem_cons_self with
    | non => simp [flD, nb]
    | int i => simp [flD, nb]
    | str h => simp [flD, nb]
theorem flD_inj {v u : V} (hv : FlV v) (hu : FlV u) (h : flD v = flD u) : v = u := by
  cases hv <;> cases hu <;> simp [flD] at h <;> first | rfl | (rw [h])
theorem flA_inj : ∀ {vs us : List V}, (∀ v ∈ vs, FlV v) → (∀ v ∈ us, FlV v) → vs.map flD = us.map flD → vs = us
  | [], [], _, _, _ => rfl
  | [], _ :: _, _, _, h => by simp at h
  | _ :: _, [], _, _, h => by simp at h
  | v :: vs, u :: us, h1, h2, h => by
    simp only [List.map_cons, List.cons.injEq] at h
    rw [flD_inj (h1 v List.mem_cons_self) (h2 u List.mem_cons_self) h.1, flA_inj (fun x hx => h1 x (List.mem_cons_of_mem _ hx)) (fun x hx => h2 x (List.mem_cons_of_mem _ hx)) h.2]
/-- two flat tuples compared -/
theorem ft_dp {K : PySem.W.Frag} {H : Hp} {a : Addr} {vs : List V} (h : SqT K H a vs) (f : ∀ v ∈ vs, FlV v) : Dp K H (.ref a) (.tuple (vs.map flD)) := .tup h (flA_dp f)
theorem ft_sh {vs : List V} (f : ∀ v ∈ vs, FlV v) : SeqAt.shaped (.tuple (vs.map flD)) = true := by
  unfold SeqAt.shaped
  rw [PyData.canLay0, flA_lay f, PyData.depth, flA_dep f]
  decide
theorem fl_sh {vs : List V} (f : ∀ v ∈ vs, FlV v) : SeqAt.shaped (.list (vs.map flD)) = true := by
  unfold SeqAt.shaped
  rw [PyData.canLay0, flA_lay f, PyData.depth, flA_dep f]
  decide
theorem ft_eq {vs us : List V} (f : ∀ v ∈ vs, FlV v) (g : ∀ v ∈ us, FlV v) : PyData.eqv (.tuple (vs.map flD)) (.tuple (us.map flD)) = true ↔ vs = us := by
  rw [eqv_iff _ _ (by rw [nb]; exact flA_nb f) (by rw [nb]; exact flA_nb g), PyData.tuple.injEq]
  exact ⟨flA_inj f g, fun h => by rw [h]⟩
theorem ft_self {vs : List V} (f : ∀ v ∈ vs, FlV v) : PyData.eqv (.tuple (vs.map flD)) (.tuple (vs.map flD)) = true := (ft_eq f f).mpr rfl
theorem fl2 {u v : V} (hu : FlV u) (hv : FlV v) : ∀ x ∈ [u, v], FlV x := fun x hx => by
  rcases List.mem_cons.mp hx with rfl | hx
  · exact hu
  · rcases List.mem_singleton.mp hx with rfl
    exact hv
end Lg
/-! ### what own classes do by their methods __getitem__, __contains__, __len__ ..: rules whose wishes are told at the slots -/
namespace Ow
open PySem PySem.Spec PyProof.Rows L2
section
variable {X : Cx} {CX : CXT} {k : Nat} {f C : Addr} {fd : FuncData} {ps : List Str} {sp : Sp} {E : L2.St → XK} {pins : List (Addr × Obj)} {σ : L2.St} {H : Hp} {s : Shared} {Q : VK} {us : List Value} {vs : List V}
theorem rr (p : Addr) : RelV (.ref p) (Value.ref p) := rfl
theorem ri (n : Int) (t : Tok) : RelV (.int n) (Value.int n t) := ⟨t, rfl⟩
/-- a def run in any surroundings -/
theorem run_at {A : Around} (F : FnOk X.prog X.w X.K X.mg X.base CX k f fd ps sp) (room : Room k A) (e0 : Env0 X.prog X.w X.K X.mg X.base A X.stack s H) (bind_ : Binds X.K fd ps []) (passes : PassesAt CX X σ (E σ)) (inv : L2.Inv X pins σ H s) (rels : Vals vs us) (ask : sp vs H Q (E σ)) :
    wpAny (model X.prog X.w) A (call (.ref f) us) (EP X pins σ Q) X.xe s := by
  have len : us.length = ps.length := rels.length.symm.trans (F.len _ _ _ _ ask)
  have to := bind_ s us inv.kIn (by rw [List.append_nil]; exact len)
  rw [List.append_nil] at to
  refine wpAny_call (codeAny_mono (F.run A X.stack s H ⟨us, []⟩ us vs Q (E σ) room e0 to rels ask) fun r s' q => ?_)
  match r, q with
  | .error e, q => exact passes pins H s e s' inv q
  | .ok (.ret u), q => exact inv.after q
/-- what stands for an instance in the machine -/
theorem inst {a dx : Addr} {fs : List (Str × V)} (inv : L2.Inv X pins σ H s) (is_ : H a = some (.ins C dx fs)) : ∃ ox od, PySem.W.InstAt s.heap a ox C od := by
  obtain ⟨m, o, _⟩ := ins_get inv.hok is_
  obtain ⟨od, i, _⟩ := o.look
  exact ⟨_, _, i⟩
theorem back {Q' : Value → Shared → Prop} {v : V} {u : Value} {s' : Shared} (rel : RelV v u) (q : Q' u s') : PySem.W.CmpBack Q' u s' := by
  unfold PySem.W.CmpBack
  cases u with
  | notImplemented => cases v <;> first | exact (nomatch rel) | (obtain ⟨_, e⟩ := rel; nomatch e)
  | _ => exact q
end
section
variable {X : Cx} {CX : CXT} {k : Nat} {f C : Addr} {fd : FuncData} {ps : List Str} {sp : Sp} {E : L2.St → XK} {a b : Expr} {ta tb : TE} {pos : Pos}
/-- the left one's method, asked with the right one -/
def tOwn (C : Addr) (sp : Sp) (E : L2.St → XK) (ta tb : TE) : TE := fun σ H Q => ta σ H fun x H1 => tb σ H1 fun y H2 => ∃ p dx fs, x = .ref p ∧ H2 p = some (.ins C dx fs) ∧ sp [x, y] H2 Q (E σ)
/-- a two-place operation whose wish is told at the slots -/
def OpS (X : Cx) (f : Value → Value → Sem Value) (r : L2.St → R2) : Prop := ∀ (pins : List (Addr × Obj)) (s : Shared) (σ : L2.St) (H : Hp) (x y : V) (v u : Value) (Q : VK), L2.Inv X pins σ H s → RelV x v → RelV y u → r σ x y H Q → wpAny (model X.prog X.w) X.A (f v u) (EP X pins σ Q) X.xe s
def tOpS (r : L2.St → R2) (ta tb : TE) : TE := fun σ H Q => ta σ H fun x H1 => tb σ H1 fun y H2 => r σ x y H2 Q
theorem pe_cmpS {op : CmpOp} {r : L2.St → R2} (rule : OpS X (compareOp op) r) (ha : PE X a ta) (hb : PE X b tb) (mark : behindInMarks op b = false) : PE X (.Compare a [op] [b] pos) (tOpS r ta tb) :=
  ⟨fun pins _ σ _ Q inv ask => wpAny_Compare1 (binT ha hb inv ask fun v u s2 x y H2 inv2 rx ry q => rule pins s2 σ H2 x y v u Q inv2 rx ry q) mark⟩
theorem pt_cmpS {op : CmpOp} {r : L2.St → R2} (rule : OpS X (compareOp op) r) (ha : PE X a ta) (hb : PE X b tb) (mark : behindInMarks op b = false) : PT X (.Compare a [op] [b] pos) (tTest (tOpS r ta tb)) := by
  constructor
  intro pins s σ H Q inv ask
  refine wpAny_isTrue_Compare1 (thn (ha.run pins s σ H _ inv ask) ?_) mark
  rintro v s1 ⟨x, H1, inv1, rx, q1⟩
  refine thn (hb.run pins s1 σ H1 _ inv1 q1) ?_
  rintro u s2 ⟨y, H2, inv2, ry, q2⟩
  refine thn (rule pins s2 σ H2 x y v u _ inv2 rx ry q2) ?_
  rintro c s3 ⟨z, H3, inv3, rz, k, rfl, q3⟩
  obtain rfl : c = Value.bool k := rz
  exact wpAny_truthy_bool ⟨H3, inv3, q3⟩
/-- the right one's, asked with the left one; it answers True or False -/
def rOwnIn (C : Addr) (neg : Bool) (sp : Sp) (E : L2.St → XK) : L2.St → R2 := fun σ x y H Q => ∃ p dx fs, y = .ref p ∧ H p = some (.ins C dx fs) ∧ sp [y, x] H (fun v H3 => ∃ c, v = .bl c ∧ Q (.bl (c != neg)) H3) (E σ)
/-- o[e] -/
theorem item (isM : Meth X.K C "__getitem__" f) (isF : PySem.W.fnIn X.K f = true) (F : FnOk X.prog X.w X.K X.mg X.base CX k f fd ps sp) (room : Room (k + 1) X.A) (bind_ : Binds X.K fd ps []) (passes : ∀ σ, PassesAt CX X σ (E σ)) (ha : PE X a ta) (hb : PE X b tb)
    (form : ∀ (p : Addr) (i : Value), subscripted b true (.ref p) i = runValue (.builtin "lifetime.subscript" ⟨[.ref p, i], []⟩) := by intro _ _; with_unfolding_all rfl) : PE X (.Subscript a b pos) (tOwn C sp E ta tb) := by
  constructor
  intro pins s σ H Q inv ask
  refine Subscript_ (binT ha hb inv ask ?_)
  rintro v u s2 x y H2 inv2 rx ry ⟨p, dx, fs, rfl, is_, want⟩
  obtain rfl : v = Value.ref p := rx
  obtain ⟨ox, od, at_⟩ := inst inv2 is_
  obtain ⟨m, fr⟩ := inv2.fr
  exact PySem.W.sub_K fr inv2.ok.mod.kin at_ isM.1 isF isM.2 (run_at F room.in1 inv2.env0.in1 bind_ (passes σ) inv2 (.cons (rr p) (.cons ry .nil)) want) (form p u)
/-- e in o -/
theorem in_ (isM : Meth X.K C "__contains__" f) (F : FnOk X.prog X.w X.K X.mg X.base CX k f fd ps sp) (room : Room k X.A) (bind_ : Binds X.K fd ps []) (passes : ∀ σ, PassesAt CX X σ (E σ)) : OpS X (compareOp .In) (rOwnIn C false sp E) := by
  rintro pins s2 σ H2 x y v u Q inv2 rx ry ⟨p, dx, fs, rfl, is_, want⟩
  obtain rfl : u = Value.ref p := ry
  obtain ⟨ox, od, at_⟩ := inst inv2 is_
  obtain ⟨m, fr⟩ := inv2.fr
  refine PySem.W.in_K fr inv2.ok.mod.kin at_ isM.1 isM.2 (wpAny_mono (run_at F room inv2.env0 bind_ (passes σ) inv2 (.cons (rr p) (.cons rx .nil)) want) ?_ fun _ _ z => z)
  rintro r s3 ⟨v3, H3, inv3, r3, c, rfl, q⟩
  obtain rfl : r = Value.bool c := r3
  exact wpAny_truthy_bool ⟨.bl c, H3, inv3, rfl, by have q := q; rw [Bool.bne_false] at q; exact q⟩
/-- e not in o -/
theorem notIn (isM : Meth X.K C "__contains__" f) (F : FnOk X.prog X.w X.K X.mg X.base CX k f fd ps sp) (room : Room k X.A) (bind_ : Binds X.K fd ps []) (passes : ∀ σ, PassesAt CX X σ (E σ)) : OpS X (compareOp .NotIn) (rOwnIn C true sp E) := by
  rintro pins s2 σ H2 x y v u Q inv2 rx ry ⟨p, dx, fs, rfl, is_, want⟩
  obtain rfl : u = Value.ref p := ry
  obtain ⟨ox, od, at_⟩ := inst inv2 is_
  obtain ⟨m, fr⟩ := inv2.fr
  refine PySem.W.notIn_K fr inv2.ok.mod.kin at_ isM.1 isM.2 (wpAny_mono (run_at F room inv2.env0 bind_ (passes σ) inv2 (.cons (rr p) (.cons rx .nil)) want) ?_ fun _ _ z => z)
  rintro r s3 ⟨v3, H3, inv3, r3, c, rfl, q⟩
  obtain rfl : r = Value.bool c := r3
  exact wpAny_truthy_bool ⟨.bl (!c), H3, inv3, rfl, by have q := q; rw [Bool.bne_true] at q; exact q⟩
/-- o == e, e an instance of the same class -/
def rOwnEq (C : Addr) (sp : Sp) (E : L2.St → XK) : L2.St → R2 := fun σ x y H Q => ∃ p dx fs q dy gs, x = .ref p ∧ H p = some (.ins C dx fs) ∧ y = .ref q ∧ H q = some (.ins C dy gs) ∧ sp [x, y] H Q (E σ)
theorem eq_ (isM : Meth X.K C "__eq__" f) (F : FnOk X.prog X.w X.K X.mg X.base CX k f fd ps sp) (room : Room k X.A) (bind_ : Binds X.K fd ps []) (passes : ∀ σ, PassesAt CX X σ (E σ)) : OpS X (compareOp .Eq) (rOwnEq C sp E) := by
  rintro pins s2 σ H2 x y v u Q inv2 rx ry ⟨p, dx, fs, q, dy, gs, rfl, is1, rfl, is2, want⟩
  obtain rfl : v = Value.ref p := rx
  obtain rfl : u = Value.ref q := ry
  obtain ⟨ox, od, at1⟩ := inst inv2 is1
  obtain ⟨oy, oe, at2⟩ := inst inv2 is2
  obtain ⟨m, fr⟩ := inv2.fr
  refine PySem.W.cmp_K (op := .Eq) (tb := .ref C) room.units0 fr inv2.ok.mod.kin at1 at2.type (by simp [PySem.W.notFirst]) isM.1 isM.2 (wpAny_mono (run_at F room inv2.env0 bind_ (passes σ) inv2 (.cons (rr p) (.cons (rr q) .nil)) want) ?_ fun _ _ z => z)
  rintro r s3 ⟨v3, H3, inv3, r3, q3⟩
  exact back r3 ⟨v3, H3, inv3, r3, q3⟩
def tOwnEq (C : Addr) (sp : Sp) (E : L2.St → XK) (ta tb : TE) : TE := tOpS (rOwnEq C sp E) ta tb
/-- o op e, e an instance of the same class -/
theorem op_ {op : Operator} {m : Str} (isM : Meth X.K C m f) (name : m = PySem.dunder op.info.2 := by rfl) (first : PySem.W.selfFirst X.K C = true) (F : FnOk X.prog X.w X.K X.mg X.base CX k f fd ps sp) (room : Room k X.A) (bind_ : Binds X.K fd ps []) (passes : ∀ σ, PassesAt CX X σ (E σ)) (ha : PE X a ta) (hb : PE X b tb) :
    PE X (.BinOp a op b pos) (tOwnEq C sp E ta tb) := by
  constructor
  intro pins s σ H Q inv ask
  refine wpAny_BinOp (binT ha hb inv ask ?_)
  rintro v u s2 x y H2 inv2 rx ry ⟨p, dx, fs, q, dy, gs, rfl, is1, rfl, is2, want⟩
  obtain rfl : v = Value.ref p := rx
  obtain rfl : u = Value.ref q := ry
  obtain ⟨ox, od, at1⟩ := inst inv2 is1
  obtain ⟨oy, oe, at2⟩ := inst inv2 is2
  obtain ⟨m', fr⟩ := inv2.fr
  refine PySem.W.binop_K fr inv2.ok.mod.kin at1 at2.type first (name ▸ isM.1) isM.2 (wpAny_mono (run_at F room inv2.env0 bind_ (passes σ) inv2 (.cons (rr p) (.cons (rr q) .nil)) want) ?_ fun _ _ z => z)
  rintro r s3 ⟨v3, H3, inv3, r3, q3⟩
  exact back r3 ⟨v3, H3, inv3, r3, q3⟩
/-- what is asked of a class so that o op n, n a whole number, is the class's own -/
structure IntOp (K : PySem.W.Frag) (C : Addr) (op : Operator) : Prop where
  first : PySem.W.selfFirst K C = true
  refl : ∃ rc, PySem.W.findIn K (.ref C) (PySem.dunderR op.info.2) = some rc ∧ (rc = none ∨ ∃ g : Addr, rc = some (.ref g))
  i1 : ∃ fo, PySem.W.findIn K (.type "int") (PySem.dunder op.info.2) = some fo
  i2 : ∃ ro, PySem.W.findIn K (.type "int") (PySem.dunderR op.info.2) = some ro
  sub : PySem.W.subIn K (.type "int") (.ref C) = some false
def tOwnI (C : Addr) (sp : Sp) (E : L2.St → XK) (ta tb : TE) : TE := fun σ H Q => ta σ H fun x H1 => tb σ H1 fun y H2 => ∃ p dx fs n, x = .ref p ∧ H2 p = some (.ins C dx fs) ∧ y = .int n ∧ sp [x, y] H2 Q (E σ)
theorem opI {op : Operator} {m : Str} (isM : Meth X.K C m f) (name : m = PySem.dunder op.info.2 := by rfl) (io : IntOp X.K C op) (F : FnOk X.prog X.w X.K X.mg X.base CX k f fd ps sp) (room : Room k X.A) (bind_ : Binds X.K fd ps []) (passes : ∀ σ, PassesAt CX X σ (E σ)) (ha : PE X a ta) (hb : PE X b tb) :
    PE X (.BinOp a op b pos) (tOwnI C sp E ta tb) := by
  constructor
  intro pins s σ H Q inv ask
  refine wpAny_BinOp (binT ha hb inv ask ?_)
  rintro v u s2 x y H2 inv2 rx ry ⟨p, dx, fs, n, rfl, is1, rfl, want⟩
  obtain rfl : v = Value.ref p := rx
  obtain ⟨t, rfl⟩ : ∃ t, u = Value.int n t := ry
  obtain ⟨ox, od, at1⟩ := inst inv2 is1
  obtain ⟨m', fr⟩ := inv2.fr
  obtain ⟨rc, e1, e2⟩ := io.refl
  obtain ⟨fo, e3⟩ := io.i1
  obtain ⟨ro, e4⟩ := io.i2
  refine PySem.W.ksp_binT (T := "int") fr inv2.ok.mod.kin at1 rfl io.first (name ▸ isM.1) isM.2 e1 e2 e3 e4 io.sub (wpAny_mono (run_at F room inv2.env0 bind_ (passes σ) inv2 (.cons (rr p) (.cons (ri n t) .nil)) want) ?_ fun _ _ z => z)
  rintro r s3 ⟨v3, H3, inv3, r3, q3⟩
  exact back r3 ⟨v3, H3, inv3, r3, q3⟩
/-- -o -/
def tOwn1 (C : Addr) (sp : Sp) (E : L2.St → XK) (ta : TE) : TE := fun σ H Q => ta σ H fun x H1 => ∃ p dx fs, x = .ref p ∧ H1 p = some (.ins C dx fs) ∧ sp [x] H1 Q (E σ)
theorem neg (isM : Meth X.K C "__neg__" f) (F : FnOk X.prog X.w X.K X.mg X.base CX k f fd ps sp) (room : Room k X.A) (bind_ : Binds X.K fd ps []) (passes : ∀ σ, PassesAt CX X σ (E σ)) (ha : PE X a ta) : PE X (.UnaryOp .USub a pos) (tOwn1 C sp E ta) := by
  constructor
  intro pins s σ H Q inv ask
  refine UnaryOp_ (thn (ha.run pins s σ H _ inv ask) ?_)
  rintro u s1 ⟨x, H1, inv1, rx, p, dx, fs, rfl, is_, want⟩
  obtain rfl : u = Value.ref p := rx
  obtain ⟨ox, od, at_⟩ := inst inv1 is_
  obtain ⟨m, fr⟩ := inv1.fr
  exact PySem.W.ksp_neg fr inv1.ok.mod.kin at_ isM.1 isM.2 (run_at F room inv1.env0 bind_ (passes σ) inv1 (.cons (rr p) .nil) want)
end
section
variable {X : Cx} {CX : CXT} {k : Nat} {f C : Addr} {fd : FuncData} {ps : List Str} {sp : Sp} {E : XK}
/-- len(o), abs(o), str(o): nothing is raised that the caller hasn't told -/
def rOwn (C : Addr) (sp : Sp) (E : XK) (P : V → Prop) : List V → Hp → VK → Prop := fun xs H Q => ∃ p dx fs, xs = [.ref p] ∧ H p = some (.ins C dx fs) ∧ sp [.ref p] H (fun v H1 => P v ∧ Q v H1) E
theorem passAll (passes : Passes CX X E) (σ : L2.St) : PassesAt CX X σ ((fun _ => E) σ) := fun pins H s e s' inv c => passes pins σ H s e s' inv c
theorem len_ (isM : Meth X.K C "__len__" f) (F : FnOk X.prog X.w X.K X.mg X.base CX k f fd ps sp) (room : Room (k + 1) X.A) (bind_ : Binds X.K fd ps []) (passes : Passes CX X E) : CallR X (.builtin "len") (rOwn C sp E fun v => ∃ n : Int, v = .int n ∧ 0 ≤ n ∧ n < 2 ^ 63) := by
  rintro pins s σ H xs us Q inv rels ⟨p, dx, fs, rfl, is_, want⟩
  match us, rels with
  | [u], .cons r .nil =>
    obtain rfl : u = Value.ref p := r
    obtain ⟨ox, od, at_⟩ := inst inv is_
    obtain ⟨m, fr⟩ := inv.fr
    refine PySem.W.len_K fr inv.ok.mod.kin at_ isM.1 isM.2 (wpAny_mono (run_at (E := fun _ => E) F room.in1 inv.env0.in1 bind_ (passAll passes σ) inv (.cons (rr p) .nil) want) ?_ fun _ _ z => z)
    rintro r s3 ⟨v3, H3, inv3, r3, ⟨n, rfl, lo, hi⟩, q⟩
    obtain ⟨t, rfl⟩ : ∃ t, r = Value.int n t := r3
    exact ⟨⟨lo, hi⟩, .int n, H3, inv3.tok _, ⟨_, rfl⟩, q⟩
theorem str_ (isM : Meth X.K C "__str__" f) (F : FnOk X.prog X.w X.K X.mg X.base CX k f fd ps sp) (room : Room (k + 2) X.A) (bind_ : Binds X.K fd ps []) (passes : Passes CX X E) : CallR X (.type "str") (rOwn C sp E fun v => ∃ z : Str, v = .str z) := by
  rintro pins s σ H xs us Q inv rels ⟨p, dx, fs, rfl, is_, want⟩
  match us, rels with
  | [u], .cons r .nil =>
    obtain rfl : u = Value.ref p := r
    obtain ⟨ox, od, at_⟩ := inst inv is_
    refine PySem.W.kso_call room.in1.in1.units0 inv.kIn at_ isM.1 isM.2 (wpAny_mono (run_at (E := fun _ => E) F room.in1.in1 inv.env0.in1.in1 bind_ (passAll passes σ) inv (.cons (rr p) .nil) want) ?_ fun _ _ z => z)
    rintro r s3 ⟨v3, H3, inv3, r3, ⟨z, rfl⟩, q⟩
    obtain ⟨t, rfl⟩ : ∃ t, r = Value.str z t := r3
    exact ⟨.str z, H3, inv3, ⟨t, rfl⟩, q⟩
end
/-- a def that may raise, called where it does not -/
theorem passF {X : Cx} {P : Program} {w : World} : Passes (L2.CX P w) X (fun _ _ _ => False) := fun _ _ _ _ _ _ _ ⟨_, _, _, _, _, _, _, _, _, _, _, _, no⟩ => no.elim
/-! questions -/
def isIntOp (x : Str) (op : Operator) : Hk.Ask := fun K => [PySem.W.selfFirst K (He.ga K x), (PySem.W.findIn K (.ref (He.ga K x)) (PySem.dunderR op.info.2)).any (fun rc => match rc with
  | none => true
  | some (.ref _) => true
  | _ => false), (PySem.W.findIn K (.type "int") (PySem.dunder op.info.2)).isSome, (PySem.W.findIn K (.type "int") (PySem.dunderR op.info.2)).isSome, decide (PySem.W.subIn K (.type "int") (.ref (He.ga K x)) = some false)].all id
theorem isIntOp_ok {x : Str} {op : Operator} {K : PySem.W.Frag} (y : isIntOp x op K = true) : IntOp K (He.ga K x) op := by
  have z : ∀ b ∈ _, b = true := List.all_eq_true.mp y
  obtain ⟨rc, e1, e2⟩ := PySem.W.any_some (z _ (.tail _ (.head _)))
  refine ⟨z _ (.head _), ⟨rc, e1, ?_⟩, Option.isSome_iff_exists.mp (z _ (.tail _ (.tail _ (.head _)))), Option.isSome_iff_exists.mp (z _ (.tail _ (.tail _ (.tail _ (.head _))))), of_decide_eq_true (z _ (.tail _ (.tail _ (.tail _ (.tail _ (.head _))))))⟩
  split at e2
  · exact .inl rfl
  · next g => exact .inr ⟨g, rfl⟩
  · nomatch e2
/-- what isinstance needs of a class of the program -/
structure InsT (K : PySem.W.Frag) (C : Addr) : Prop where
  ha : PySem.W.findIn K (.ref C) "__class__" = some (some (.builtin "object.__class__"))
  hn : PySem.W.specialIn K (.builtin "object.__class__") "__get__" = some (some (.builtin "getset_descriptor.__get__"))
  ht : PySem.W.takesIn K (.builtin "object.__class__") = some true
  hm : PySem.W.mroIn K C (.type "object") = some true
def isInsT (x : Str) : Hk.Ask := fun K => decide (PySem.W.findIn K (.ref (He.ga K x)) "__class__" = some (some (.builtin "object.__class__")) ∧ PySem.W.specialIn K (.builtin "object.__class__") "__get__" = some (some (.builtin "getset_descriptor.__get__")) ∧ PySem.W.takesIn K (.builtin "object.__class__") = some true ∧ PySem.W.mroIn K (He.ga K x) (.type "object") = some true)
theorem isInsT_ok {x : Str} {K : PySem.W.Frag} (y : isInsT x K = true) : InsT K (He.ga K x) := let z := of_decide_eq_true y; ⟨z.1, z.2.1, z.2.2.1, z.2.2.2⟩
theorem InsT.ty {K : PySem.W.Frag} {C : Addr} (t : InsT K C) (c : L2.Cls K C) {H : Hp} {a dx : Addr} {fs : List (Str × V)} (e : H a = some (.ins C dx fs)) : TyX K H (.ref a) (.ref C) := .base (.ins e c t.ha t.hn t.ht t.hm)
theorem kit_self (K : PySem.W.Frag) (C : Addr) : PySem.W.kitOne K (.ref C) (.ref C) = some true := by
  unfold PySem.W.kitOne
  rw [if_pos (beq_self_eq_true _)]
def isFirst (x : Str) : Hk.Ask := fun K => PySem.W.selfFirst K (He.ga K x)
def isFnIn (x m : Str) : Hk.Ask := fun K => PySem.W.fnIn K (He.ma K (He.ga K x) m)
end Ow
/-! ### what is new in a heap; more walks -/
namespace Lg
open PySem PySem.Spec PyProof.Rows L2
/-- what H' has that H has not -/
def Nu (H H' : Hp) : Hp := fun a => match H a with
  | none => H' a
  | some _ => none
section
variable {A B H H' H'' I J : Hp} {M : Md} {p : Addr} {o : HO}
theorem nu_at (n : H p = none) (h : H' p = some o) : Nu H H' p = some o := by
  unfold Nu
  rw [n]
  exact h
theorem nu_of (h : Nu H H' p = some o) : H p = none ∧ H' p = some o := by
  unfold Nu at h
  cases e : H p with
  | none =>
    rw [e] at h
    exact ⟨rfl, h⟩
  | some x =>
    rw [e] at h
    cases h
theorem Sub.no (e : Sub A B) (n : B p = none) : A p = none := by
  cases q : A p with
  | none => rfl
  | some x =>
    rw [e _ _ q] at n
    cases n
theorem nu_mono (e : Sub A B) : Sub (Nu B H') (Nu A H') := fun a x h => nu_at (e.no (nu_of h).1) (nu_of h).2
theorem nu_up (e : Sub H' H'') : Sub (Nu H H') (Nu H H'') := fun a x h => nu_at (nu_of h).1 (e _ _ (nu_of h).2)
theorem nu_sub : Sub (Nu H H') H' := fun a x h => (nu_of h).2
theorem nu_both (e1 : Sub A B) (e2 : Sub H' H'') : Sub (Nu B H') (Nu A H'') := (nu_mono e1).trans (nu_up e2)
/-- the world behind a call that left all as it was -/
theorem Wd.graft (W : Wd H I M) (e : Sub H H') : ∃ J, Sub I J ∧ Sub (Nu H H') J ∧ Wd H' J M := by
  refine ⟨fun a => match I a with
    | some o => some o
    | none => Nu H H' a, fun a x h => by simp only [h], fun a x h => ?_, fun a x h => ?_, fun c hc => ⟨e _ _ (W.mu c hc).1, ?_⟩, W.nd⟩
  · have n : I a = none := W.none_im (nu_of h).1
    simp only [n]
    exact h
  · cases q : I a with
    | some y =>
      simp only [q] at h
      cases h
      exact e _ _ (W.im a _ q)
    | none =>
      simp only [q] at h
      exact (nu_of h).2
  · have n := (W.mu c hc).2
    simp only [n]
    cases q : Nu H H' c.1 with
    | none => rfl
    | some y =>
      have z := (nu_of q).1
      rw [(W.mu c hc).1] at z
      cases z
/-- the same; one of the new objects may change from now on -/
theorem Wd.graftM (W : Wd H I M) (e : Sub H H') (n : Nu H H' p = some o) : ∃ J, Sub I J ∧ (∀ a x, Nu H H' a = some x → a ≠ p → J a = some x) ∧ Wd H' J ((p, o) :: M) := by
  obtain ⟨J, e1, e2, W'⟩ := W.graft e
  have np : I p = none := W.none_im (nu_of n).1
  have far : ∀ c ∈ M, c.1 ≠ p := fun c hc q => by
    have z := (W.mu c hc).1
    rw [q, (nu_of n).1] at z
    cases z
  refine ⟨fun a => if a = p then none else J a, fun a x h => ?_, fun a x h ne => ?_, fun a x h => ?_, fun c hc => ?_, List.nodup_cons.mpr ⟨fun m => ?_, W.nd⟩⟩
  · show (if a = p then none else J a) = some x
    rw [if_neg (ne_of_none h np)]
    exact e1 _ _ h
  · show (if a = p then none else J a) = some x
    rw [if_neg ne]
    exact e2 _ _ h
  · have h : (if a = p then none else J a) = some x := h
    split at h
    · cases h
    · exact W'.im a x h
  · rcases List.mem_cons.mp hc with rfl | hc
    · exact ⟨(nu_of n).2, if_pos rfl⟩
    · refine ⟨(W'.mu c hc).1, ?_⟩
      show (if c.1 = p then none else J c.1) = none
      rw [if_neg (far c hc)]
      exact (W'.mu c hc).2
  · obtain ⟨c, hc, q⟩ := List.mem_map.mp m
    exact far c hc q
theorem Wd.subH (W : Wd H I M) (hM : M = []) : Sub I H := fun a x h => W.im a x h
theorem Wd.subN (W : Wd H' J M) (e : Sub I J) : Sub I H' := fun a x h => W.im a x (e a x h)
/-- a heap but for one place -/
def off (x : Addr) (H : Hp) : Hp := fun a => if a = x then none else H a
theorem off_at {x : Addr} (n : p ≠ x) : off x H p = H p := if_neg n
theorem off_self {x : Addr} : off x H x = none := if_pos rfl
theorem Wd.offs {x : Addr} (h : H x = some o) : Wd H (off x H) [(x, o)] := by
  refine ⟨fun a y q => ?_, fun c hc => ?_, by simp⟩
  · unfold off at q
    split at q
    · cases q
    · exact q
  · rcases List.mem_singleton.mp hc with rfl
    exact ⟨h, off_self⟩
theorem nu_w (W : Wd H' J M) (n : H p = none) (h : J p = some o) : Nu H H' p = some o := nu_at n (W.im _ _ h)
/-- what was locked is open again -/
theorem Wd.open_ {u v : HO} (W : Wd H J M) (h : J p = some v) : Wd (upd H p u) (upd J p u) M := by
  refine ⟨fun a x q => ?_, fun c hc => ?_, W.nd⟩
  · by_cases e : a = p
    · subst e
      rw [upd_same] at q ⊢
      exact q
    · rw [upd_ne e] at q ⊢
      exact W.im a x q
  · have ne : c.1 ≠ p := fun e => by
      have z := (W.mu c hc).2
      rw [e, h] at z
      cases z
    rw [upd_ne ne, upd_ne ne]
    exact W.mu c hc
/-- what was locked is open again and may change -/
theorem Wd.thaw {u v : HO} (W : Wd H J M) (h : J p = some v) : Wd (upd H p u) (off p J) ((p, u) :: M) := by
  have far : ∀ c ∈ M, c.1 ≠ p := fun c hc e => by
    have z := (W.mu c hc).2
    rw [e, h] at z
    cases z
  refine ⟨fun a x q => ?_, fun c hc => ?_, List.nodup_cons.mpr ⟨fun m => ?_, W.nd⟩⟩
  · by_cases e : a = p
    · subst e
      rw [off_self] at q
      cases q
    · rw [off_at e] at q
      rw [upd_ne e]
      exact W.im a x q
  · rcases List.mem_cons.mp hc with rfl | hc
    · exact ⟨upd_same, off_self⟩
    · have ne := far c hc
      rw [upd_ne ne, off_at ne]
      exact W.mu c hc
  · obtain ⟨c, hc, e⟩ := List.mem_map.mp m
    exact far c hc e
theorem Sub.off (e : Sub I J) (n : I p = none) : Sub I (off p J) := fun a x q => by
  rw [off_at (ne_of_none q n)]
  exact e _ _ q
end
section
variable {K : PySem.W.Frag} {I : Hp} {a : Addr}
def YS (x : Str) : Nat → V → Hp → Prop := fun i v _ => ∃ c, x.cps.toList[i]? = some c ∧ v = .str ⟨#[c]⟩
theorem ItS.str {x : Str} : ItS (Its x) x.cps.toList.length (YS x) I where
  go := fun {i H J M} W e hi => by show i < x.cps.size; rw [Array.length_toList] at hi; exact hi
  yld := fun {i H J M v H'} W e hi ⟨e1, c, h, e2⟩ => by subst e1; exact ⟨J, Sub.refl J, W, c, by rw [Array.getElem?_toList]; exact h, e2⟩
  stop := fun {i H J M} W e hi => by show x.cps.size ≤ i; rw [Array.length_toList] at hi; omega
def YE (xs : List V) : Nat → V → Hp → Prop := fun i v J => ∃ T x, v = .ref T ∧ xs[i]? = some x ∧ J T = some (.tup [.int (i : Nat), x])
theorem ItS.enum {xs : List V} (h : SqL K I a xs) : ItS (Ite K a) xs.length (YE xs) I where
  go := fun {i H J M} W e hi => ⟨xs, xs[i], W.sl (e.sl h), by simp [hi]⟩
  yld := fun {i H J M v H'} W e hi ⟨T, x, e1, n, e2, all⟩ => by
    obtain ⟨J', s, at_, W'⟩ := W.new n e2.symm
    exact ⟨J', s, W', T, x, e1, all xs (W.sl (e.sl h)), at_⟩
  stop := fun {i H J M} W e hi => ⟨xs, W.sl (e.sl h), by omega⟩
def YK (kvs : List (Key × V)) : Nat → V → Hp → Prop := fun i x _ => ∃ k v, kvs[i]? = some (k, v) ∧ x = kV k
theorem ItS.keys {d : Addr} {ob : Obj} {kvs : List (Key × V)} (h : I d = some (.frz ob (.dK kvs))) : ItS (Itk d ob kvs) kvs.length (YK kvs) I where
  go := fun {i H J M} W e hi => ⟨W.im _ _ (e _ _ h), hi⟩
  yld := fun {i H J M v H'} W e hi ⟨e1, k, w, at_, e2⟩ => by subst e1; exact ⟨J, Sub.refl J, W, k, w, at_, e2⟩
  stop := fun {i H J M} W e hi => ⟨W.im _ _ (e _ _ h), by omega⟩
end
section
variable {X : Cx} (K : PySem.W.Frag)
theorem kpi_enum {elts : List Expr} {kk : Nat} {tpos : Pos} {e : Expr} {p pos : Pos} {ta : TA} (hg : Gl X "enumerate") (hm : X.mg "enumerate" = none) (ha : PA X [e] ta) (h : X.K = K := by rfl) (hs : starEach [e] X.env = [(false, eval e X.env)] := by rfl) : PI X (.Tuple elts kk tpos) (.Call (.Name "enumerate" p) [e] [] pos) (iEnum K ta) := h ▸ pi_enum hg hm ha hs
theorem ksl_tup (h : X.K = K := by rfl) : L2.SlR X (rSlT K) := h ▸ sl_tup
end
end Lg
/-! ### a static method, read off its class -/
namespace Ow
open PySem PySem.Spec PyProof.Rows L2
/-- C.m is a static method: its record at p, its def at g -/
structure SMet (K : PySem.W.Frag) (C : Addr) (m : Str) (p g : Addr) : Prop where
  at_ : PySem.W.findCls K (.ref C) (.type "type") m = some (.get (.builtin "staticmethod.__get__") (.ref p) .none (.ref C))
  rc : ∃ rest, PySem.W.recIn K p "staticmethod" = some (.ref g :: rest)
  kp : PySem.W.keepIn K (.ref g) = true
def isSMet (x m : Str) : Hk.Ask := fun K => [(match PySem.W.findCls K (.ref (He.ga K x)) (.type "type") m with
  | some (.get a b c d) => a == .builtin "staticmethod.__get__" && (b == .ref (He.ma K (He.ga K x) m) && (c == .none && d == .ref (He.ga K x)))
  | _ => false), Hk.recHead K (He.ma K (He.ga K x) m) "staticmethod" == some (Hk.behind x m K), PySem.W.keepIn K (.ref (Hk.behind x m K))].all id
theorem isSMet_ok {x m : Str} {K : PySem.W.Frag} (y : isSMet x m K = true) : SMet K (He.ga K x) m (He.ma K (He.ga K x) m) (Hk.behind x m K) := by
  have z : ∀ b ∈ _, b = true := List.all_eq_true.mp y
  refine ⟨?_, Hk.recHead_ok (eq_of_beq (z _ (.tail _ (.head _)))), z _ (.tail _ (.tail _ (.head _)))⟩
  have q := z _ (.head _)
  split at q
  · next a b c d found =>
    simp only [Bool.and_eq_true] at q
    rw [found, eq_of_beq q.1, eq_of_beq q.2.1, eq_of_beq q.2.2.1, eq_of_beq q.2.2.2]
  · nomatch q
/-- C.m(..): the wish is told at the slots -/
def tSMeth (C : Addr) (sp : Sp) (E : L2.St → XK) (ta : TE) (t : TA) : TE := fun σ H Q => ta σ H fun x H1 => x = .ref C ∧ t σ H1 fun vs H2 => sp vs H2 Q (E σ)
theorem smeth {X : Cx} {CX : CXT} {k : Nat} {C p g : Addr} {fd : FuncData} {ps : List Str} {sp : Sp} {E : L2.St → XK} {o e : Expr} {es : List Expr} {m : Str} {pos apos : Pos} {ta : TE} {t : TA} {pl : Sem Bool} (ho : PE X o ta) (rd : ClX.CRead X.K C (.type "type")) (sm : SMet X.K C m p g) (F : FnOk X.prog X.w X.K X.mg X.base CX k g fd ps sp) (room : Room k X.A) (bind_ : Binds X.K fd ps []) (passes : ∀ σ, PassesAt CX X σ (E σ)) (ha : PA X (e :: es) t)
    (star : starEach (e :: es) X.env = (false, eval e X.env) :: starEach es X.env := by rfl) (plain : (backTo pos (starEach es X.env)).any (·.1) = false := by rfl)
    (form : eval (.Call (.Attribute o m apos) (e :: es) [] pos) X.env = (do
      let ov ← eval o X.env
      standAt apos.atName
      let (f, first) ← holding [ov] (getMethod ov m pl)
      callWith pos f first (backTo pos (starEach (e :: es) X.env)) (backToKw pos (keywordEach [] X.env))) := by rfl) :
    PE X (.Call (.Attribute o m apos) (e :: es) [] pos) (tSMeth C sp E ta t) := by
  constructor
  intro pins s σ H Q inv ask
  obtain ⟨rest, rec_⟩ := sm.rc
  refine PySem.W.methodCall_KW (pl := pl) (thn (ho.run pins s σ H _ inv ask) ?_) form
  rintro u s1 ⟨x, H1, inv1, rx, rfl, q⟩
  obtain rfl : u = Value.ref C := rx
  refine PySem.W.method_cls inv1.kIn rd.ga (PySem.W.cls_bind inv1.kIn rd.rd sm.at_ (wpAny_call (PySem.W.sm_get (s := { s1 with toks := s1.toks + 1 }) inv1.kIn rec_ (PySem.W.handed_on rfl ?_))))
  have inv2 := inv1.tok (s1.toks + 1)
  refine PySem.W.callWith_K (h₀ := X.base) inv1.ok.mod.kin sm.kp (thn (ha.run pos pins _ σ H1 _ inv2 q) ?_) star plain
  rintro us s3 ⟨vs, H2, inv3, rels, want⟩
  exact ⟨inv3.kIn, run_at F room inv3.env0 bind_ (passes σ) inv3 rels want⟩
end Ow
namespace Hd
open PySem PySem.Spec PyProof.Rows L2 Lg Pu
def top (i : Nat) : Stmt := PySem.Challenge.pw_forkbeats_k06_tuning_text_refused.main.body.getD i (.Pass ⟨0, 0, 0, 0⟩)
abbrev s__wall : Stmt := top 0
abbrev N__wall : List Str := ["k"]
abbrev P__wall : List Str := ["k"]
theorem sc__wall : FnScope N__wall P__wall (defScope s__wall) := ⟨rfl, rfl, rfl, by decide +kernel, rfl, by decide +kernel, by decide +kernel⟩
abbrev s_BadName_init : Stmt := inClass (top 3) 0
abbrev s_UnknownFork_init : Stmt := inClass (top 4) 0
abbrev s_RepeatedFork_init : Stmt := inClass (top 5) 0
abbrev s_BadText_init : Stmt := inClass (top 6) 0
abbrev s_Clash_init : Stmt := inClass (top 7) 0
abbrev s_is_name : Stmt := top 13
abbrev N_is_name : List Str := ["text", "letter"]
abbrev P_is_name : List Str := ["text"]
theorem sc_is_name : FnScope N_is_name P_is_name (defScope s_is_name) := ⟨rfl, rfl, rfl, by decide +kernel, rfl, by decide +kernel, by decide +kernel⟩
abbrev s_is_number : Stmt := top 14
abbrev N_is_number : List Str := ["text", "figure"]
abbrev P_is_number : List Str := ["text"]
theorem sc_is_number : FnScope N_is_number P_is_number (defScope s_is_number) := ⟨rfl, rfl, rfl, by decide +kernel, rfl, by decide +kernel, by decide +kernel⟩
abbrev s_read_pitch : Stmt := top 15
abbrev N_read_pitch : List Str := ["word"]
abbrev P_read_pitch : List Str := ["word"]
theorem sc_read_pitch : FnScope N_read_pitch P_read_pitch (defScope s_read_pitch) := ⟨rfl, rfl, rfl, by decide +kernel, rfl, by decide +kernel, by decide +kernel⟩
abbrev s_Tuning_init : Stmt := inClass (top 16) 0
abbrev N_Tuning_init : List Str := ["self", "names", "pitches", "seen", "at", "name"]
abbrev P_Tuning_init : List Str := ["self", "names", "pitches"]
theorem sc_Tuning_init : FnScope N_Tuning_init P_Tuning_init (defScope s_Tuning_init) := ⟨rfl, rfl, rfl, by decide +kernel, rfl, by decide +kernel, by decide +kernel⟩
abbrev s_Tuning_of : Stmt := inClass (top 16) 1
abbrev N_Tuning_of : List Str := ["cls", "pitches"]
abbrev P_Tuning_of : List Str := ["cls", "pitches"]
theorem sc_Tuning_of : FnScope N_Tuning_of P_Tuning_of (defScope s_Tuning_of) := ⟨rfl, rfl, rfl, by decide +kernel, rfl, by decide +kernel, by decide +kernel⟩
abbrev s_Tuning_read : Stmt := inClass (top 16) 2
abbrev N_Tuning_read : List Str := ["text", "names", "pitches", "words", "word", "name", "sign", "number", "pitch"]
abbrev P_Tuning_read : List Str := ["text"]
theorem sc_Tuning_read : FnScope N_Tuning_read P_Tuning_read (defScope s_Tuning_read) := ⟨rfl, rfl, rfl, by decide +kernel, rfl, by decide +kernel, by decide +kernel⟩
abbrev s_Tuning_names : Stmt := inClass (top 16) 3
abbrev N_Tuning_names : List Str := ["self", "name", "pitch"]
abbrev P_Tuning_names : List Str := ["self"]
theorem sc_Tuning_names : FnScope N_Tuning_names P_Tuning_names (defScope s_Tuning_names) := ⟨rfl, rfl, rfl, by decide +kernel, rfl, by decide +kernel, by decide +kernel⟩
abbrev s_Tuning_pitches : Stmt := inClass (top 16) 4
abbrev N_Tuning_pitches : List Str := ["self", "name", "pitch"]
abbrev P_Tuning_pitches : List Str := ["self"]
theorem sc_Tuning_pitches : FnScope N_Tuning_pitches P_Tuning_pitches (defScope s_Tuning_pitches) := ⟨rfl, rfl, rfl, by decide +kernel, rfl, by decide +kernel, by decide +kernel⟩
abbrev s_Tuning_beats : Stmt := inClass (top 16) 5
abbrev N_Tuning_beats : List Str := ["self", "a", "b"]
abbrev P_Tuning_beats : List Str := ["self", "a", "b"]
theorem sc_Tuning_beats : FnScope N_Tuning_beats P_Tuning_beats (defScope s_Tuning_beats) := ⟨rfl, rfl, rfl, by decide +kernel, rfl, by decide +kernel, by decide +kernel⟩
abbrev s_Tuning_normal : Stmt := inClass (top 16) 6
abbrev N_Tuning_normal : List Str := ["self"]
abbrev P_Tuning_normal : List Str := ["self"]
theorem sc_Tuning_normal : FnScope N_Tuning_normal P_Tuning_normal (defScope s_Tuning_normal) := ⟨rfl, rfl, rfl, by decide +kernel, rfl, by decide +kernel, by decide +kernel⟩
abbrev s_Tuning_like : Stmt := inClass (top 16) 7
abbrev N_Tuning_like : List Str := ["self", "other"]
abbrev P_Tuning_like : List Str := ["self", "other"]
theorem sc_Tuning_like : FnScope N_Tuning_like P_Tuning_like (defScope s_Tuning_like) := ⟨rfl, rfl, rfl, by decide +kernel, rfl, by decide +kernel, by decide +kernel⟩
abbrev s_Tuning_getitem : Stmt := inClass (top 16) 8
abbrev N_Tuning_getitem : List Str := ["self", "at", "name", "pitch"]
abbrev P_Tuning_getitem : List Str := ["self", "at"]
theorem sc_Tuning_getitem : FnScope N_Tuning_getitem P_Tuning_getitem (defScope s_Tuning_getitem) := ⟨rfl, rfl, rfl, by decide +kernel, rfl, by decide +kernel, by decide +kernel⟩
abbrev s_Tuning_iter : Stmt := inClass (top 16) 9
abbrev N_Tuning_iter : List Str := ["self"]
abbrev P_Tuning_iter : List Str := ["self"]
theorem sc_Tuning_iter : FnScope N_Tuning_iter P_Tuning_iter (defScope s_Tuning_iter) := ⟨rfl, rfl, rfl, by decide +kernel, rfl, by decide +kernel, by decide +kernel⟩
abbrev s_Tuning_contains : Stmt := inClass (top 16) 10
abbrev N_Tuning_contains : List Str := ["self", "x", "name", "pitch"]
abbrev P_Tuning_contains : List Str := ["self", "x"]
theorem sc_Tuning_contains : FnScope N_Tuning_contains P_Tuning_contains (defScope s_Tuning_contains) := ⟨rfl, rfl, rfl, by decide +kernel, rfl, by decide +kernel, by decide +kernel⟩
abbrev s_Tuning_len : Stmt := inClass (top 16) 11
abbrev N_Tuning_len : List Str := ["self"]
abbrev P_Tuning_len : List Str := ["self"]
theorem sc_Tuning_len : FnScope N_Tuning_len P_Tuning_len (defScope s_Tuning_len) := ⟨rfl, rfl, rfl, by decide +kernel, rfl, by decide +kernel, by decide +kernel⟩
abbrev s_Tuning_eq : Stmt := inClass (top 16) 12
abbrev N_Tuning_eq : List Str := ["self", "other"]
abbrev P_Tuning_eq : List Str := ["self", "other"]
theorem sc_Tuning_eq : FnScope N_Tuning_eq P_Tuning_eq (defScope s_Tuning_eq) := ⟨rfl, rfl, rfl, by decide +kernel, rfl, by decide +kernel, by decide +kernel⟩
abbrev s_Tuning_neg : Stmt := inClass (top 16) 13
abbrev N_Tuning_neg : List Str := ["self", "name", "pitch"]
abbrev P_Tuning_neg : List Str := ["self"]
theorem sc_Tuning_neg : FnScope N_Tuning_neg P_Tuning_neg (defScope s_Tuning_neg) := ⟨rfl, rfl, rfl, by decide +kernel, rfl, by decide +kernel, by decide +kernel⟩
abbrev s_Tuning_add : Stmt := inClass (top 16) 14
abbrev N_Tuning_add : List Str := ["self", "other", "name", "pitch"]
abbrev P_Tuning_add : List Str := ["self", "other"]
theorem sc_Tuning_add : FnScope N_Tuning_add P_Tuning_add (defScope s_Tuning_add) := ⟨rfl, rfl, rfl, by decide +kernel, rfl, by decide +kernel, by decide +kernel⟩
abbrev s_Tuning_radd : Stmt := inClass (top 16) 15
abbrev N_Tuning_radd : List Str := ["self", "other", "name", "pitch"]
abbrev P_Tuning_radd : List Str := ["self", "other"]
theorem sc_Tuning_radd : FnScope N_Tuning_radd P_Tuning_radd (defScope s_Tuning_radd) := ⟨rfl, rfl, rfl, by decide +kernel, rfl, by decide +kernel, by decide +kernel⟩
abbrev s_Tuning_sub : Stmt := inClass (top 16) 16
abbrev N_Tuning_sub : List Str := ["self", "other", "name", "pitch"]
abbrev P_Tuning_sub : List Str := ["self", "other"]
theorem sc_Tuning_sub : FnScope N_Tuning_sub P_Tuning_sub (defScope s_Tuning_sub) := ⟨rfl, rfl, rfl, by decide +kernel, rfl, by decide +kernel, by decide +kernel⟩
abbrev s_Tuning_abs : Stmt := inClass (top 16) 17
abbrev N_Tuning_abs : List Str := ["self", "name", "pitch"]
abbrev P_Tuning_abs : List Str := ["self"]
theorem sc_Tuning_abs : FnScope N_Tuning_abs P_Tuning_abs (defScope s_Tuning_abs) := ⟨rfl, rfl, rfl, by decide +kernel, rfl, by decide +kernel, by decide +kernel⟩
abbrev s_Tuning_or : Stmt := inClass (top 16) 18
abbrev N_Tuning_or : List Str := ["self", "other", "own", "names", "pitches", "name", "pitch"]
abbrev P_Tuning_or : List Str := ["self", "other"]
theorem sc_Tuning_or : FnScope N_Tuning_or P_Tuning_or (defScope s_Tuning_or) := ⟨rfl, rfl, rfl, by decide +kernel, rfl, by decide +kernel, by decide +kernel⟩
abbrev s_Tuning_str : Stmt := inClass (top 16) 19
abbrev N_Tuning_str : List Str := ["self", "name", "pitch"]
abbrev P_Tuning_str : List Str := ["self"]
theorem sc_Tuning_str : FnScope N_Tuning_str P_Tuning_str (defScope s_Tuning_str) := ⟨rfl, rfl, rfl, by decide +kernel, rfl, by decide +kernel, by decide +kernel⟩
abbrev s_l_bag : Stmt := top 18
abbrev N_l_bag : List Str := ["_law_script", "_law_cells", "_law_base", "_law_cell"]
abbrev P_l_bag : List Str := ["_law_script"]
theorem sc_l_bag : FnScope N_l_bag P_l_bag (defScope s_l_bag) := ⟨rfl, rfl, rfl, by decide +kernel, rfl, by decide +kernel, by decide +kernel⟩
abbrev s_l_mixed : Stmt := top 19
abbrev N_l_mixed : List Str := ["_law_cell", "_law_turn", "_law_number"]
abbrev P_l_mixed : List Str := ["_law_cell", "_law_turn"]
theorem sc_l_mixed : FnScope N_l_mixed P_l_mixed (defScope s_l_mixed) := ⟨rfl, rfl, rfl, by decide +kernel, rfl, by decide +kernel, by decide +kernel⟩
abbrev s_l_take : Stmt := top 20
abbrev N_l_take : List Str := ["_law_bag_here", "_law_many", "_law_cell", "_law_digit"]
abbrev P_l_take : List Str := ["_law_bag_here", "_law_many"]
theorem sc_l_take : FnScope N_l_take P_l_take (defScope s_l_take) := ⟨rfl, rfl, rfl, by decide +kernel, rfl, by decide +kernel, by decide +kernel⟩
abbrev s_l_name : Stmt := top 21
abbrev N_l_name : List Str := ["_law_bag_here", "_law_names_here", "_law_letters", "_law_number", "_law_row_here", "_law_name_here", "_law_pool", "_law_letter", "_law_one"]
abbrev P_l_name : List Str := ["_law_bag_here", "_law_names_here"]
theorem sc_l_name : FnScope N_l_name P_l_name (defScope s_l_name) := ⟨rfl, rfl, rfl, by decide +kernel, rfl, by decide +kernel, by decide +kernel⟩
abbrev s_l_names : Stmt := top 22
abbrev N_l_names : List Str := ["_law_bag_here", "_law_many", "_law_names_here", "_law_k"]
abbrev P_l_names : List Str := ["_law_bag_here", "_law_many"]
theorem sc_l_names : FnScope N_l_names P_l_names (defScope s_l_names) := ⟨rfl, rfl, rfl, by decide +kernel, rfl, by decide +kernel, by decide +kernel⟩
abbrev s_l_is_int : Stmt := top 23
abbrev N_l_is_int : List Str := ["_law_thing"]
abbrev P_l_is_int : List Str := ["_law_thing"]
theorem sc_l_is_int : FnScope N_l_is_int P_l_is_int (defScope s_l_is_int) := ⟨rfl, rfl, rfl, by decide +kernel, rfl, by decide +kernel, by decide +kernel⟩
abbrev s_l_row : Stmt := top 24
abbrev N_l_row : List Str := ["_law_thing", "_law_due", "_law_one"]
abbrev P_l_row : List Str := ["_law_thing", "_law_due"]
theorem sc_l_row : FnScope N_l_row P_l_row (defScope s_l_row) := ⟨rfl, rfl, rfl, by decide +kernel, rfl, by decide +kernel, by decide +kernel⟩
abbrev s_l_texts : Stmt := top 25
abbrev N_l_texts : List Str := ["_law_thing", "_law_due", "_law_one"]
abbrev P_l_texts : List Str := ["_law_thing", "_law_due"]
theorem sc_l_texts : FnScope N_l_texts P_l_texts (defScope s_l_texts) := ⟨rfl, rfl, rfl, by decide +kernel, rfl, by decide +kernel, by decide +kernel⟩
abbrev s_l_pitch : Stmt := top 26
abbrev N_l_pitch : List Str := ["_law_bag_here", "_law_way"]
abbrev P_l_pitch : List Str := ["_law_bag_here"]
theorem sc_l_pitch : FnScope N_l_pitch P_l_pitch (defScope s_l_pitch) := ⟨rfl, rfl, rfl, by decide +kernel, rfl, by decide +kernel, by decide +kernel⟩
abbrev s_l_is_tuning : Stmt := top 27
abbrev N_l_is_tuning : List Str := ["_law_thing", "_law_names_here", "_law_pitches"]
abbrev P_l_is_tuning : List Str := ["_law_thing", "_law_names_here", "_law_pitches"]
theorem sc_l_is_tuning : FnScope N_l_is_tuning P_l_is_tuning (defScope s_l_is_tuning) := ⟨rfl, rfl, rfl, by decide +kernel, rfl, by decide +kernel, by decide +kernel⟩
abbrev s_l_refused : Stmt := top 28
abbrev N_l_refused : List Str := ["_law_text", "e"]
abbrev P_l_refused : List Str := ["_law_text"]
theorem sc_l_refused : FnScope N_l_refused P_l_refused (defScope s_l_refused) := ⟨rfl, rfl, rfl, by decide +kernel, rfl, by decide +kernel, by decide +kernel⟩
abbrev s_l_spoilt : Stmt := top 29
abbrev N_l_spoilt : List Str := ["_law_words", "_law_k", "_law_way", "_law_name_here", "_law_number", "_law_bent"]
abbrev P_l_spoilt : List Str := ["_law_words", "_law_k", "_law_way"]
theorem sc_l_spoilt : FnScope N_l_spoilt P_l_spoilt (defScope s_l_spoilt) := ⟨rfl, rfl, rfl, by decide +kernel, rfl, by decide +kernel, by decide +kernel⟩
abbrev s_law : Stmt := top 30
abbrev N_law : List Str := ["_law_script", "_law_bag_here", "_law_names_here", "_law_pitches", "_law_words", "_law_k", "_law_text", "_law_far", "_law_number", "_law_long", "_law_tuning", "_law_name_here"]
abbrev P_law : List Str := ["_law_script"]
theorem sc_law : FnScope N_law P_law (defScope s_law) := ⟨rfl, rfl, rfl, by decide +kernel, rfl, by decide +kernel, by decide +kernel⟩
abbrev PP : Program := PySem.Challenge.pw_forkbeats_k06_tuning_text_refused
def r_is_name : Hk.Row := { place := fun K => He.fAd K ("is_name", none), name := "is_name", qual := "is_name", params := defArgs s_is_name, body := defBody s_is_name, scope := defScope s_is_name, frees := [], dfl := [], kwd := [] }
def r_is_number : Hk.Row := { place := fun K => He.fAd K ("is_number", none), name := "is_number", qual := "is_number", params := defArgs s_is_number, body := defBody s_is_number, scope := defScope s_is_number, frees := [], dfl := [], kwd := [] }
def r_read_pitch : Hk.Row := { place := fun K => He.fAd K ("read_pitch", none), name := "read_pitch", qual := "read_pitch", params := defArgs s_read_pitch, body := defBody s_read_pitch, scope := defScope s_read_pitch, frees := [], dfl := [], kwd := [] }
def r_Tuning_init : Hk.Row := { place := fun K => He.fAd K ("Tuning", some "__init__"), name := "__init__", qual := "Tuning.__init__", params := defArgs s_Tuning_init, body := defBody s_Tuning_init, scope := defScope s_Tuning_init, frees := [], dfl := [], kwd := [] }
def r_Tuning_read : Hk.Row := { place := Hk.behind "Tuning" "read", name := "read", qual := "Tuning.read", params := defArgs s_Tuning_read, body := defBody s_Tuning_read, scope := defScope s_Tuning_read, frees := [], dfl := [], kwd := [] }
def r_Tuning_names : Hk.Row := { place := fun K => He.fAd K ("Tuning", some "names"), name := "names", qual := "Tuning.names", params := defArgs s_Tuning_names, body := defBody s_Tuning_names, scope := defScope s_Tuning_names, frees := [], dfl := [], kwd := [] }
def r_Tuning_pitches : Hk.Row := { place := fun K => He.fAd K ("Tuning", some "pitches"), name := "pitches", qual := "Tuning.pitches", params := defArgs s_Tuning_pitches, body := defBody s_Tuning_pitches, scope := defScope s_Tuning_pitches, frees := [], dfl := [], kwd := [] }
def r_Tuning_getitem : Hk.Row := { place := fun K => He.fAd K ("Tuning", some "__getitem__"), name := "__getitem__", qual := "Tuning.__getitem__", params := defArgs s_Tuning_getitem, body := defBody s_Tuning_getitem, scope := defScope s_Tuning_getitem, frees := [], dfl := [], kwd := [] }
def r_Tuning_contains : Hk.Row := { place := fun K => He.fAd K ("Tuning", some "__contains__"), name := "__contains__", qual := "Tuning.__contains__", params := defArgs s_Tuning_contains, body := defBody s_Tuning_contains, scope := defScope s_Tuning_contains, frees := [], dfl := [], kwd := [] }
def r_Tuning_len : Hk.Row := { place := fun K => He.fAd K ("Tuning", some "__len__"), name := "__len__", qual := "Tuning.__len__", params := defArgs s_Tuning_len, body := defBody s_Tuning_len, scope := defScope s_Tuning_len, frees := [], dfl := [], kwd := [] }
def r_Tuning_str : Hk.Row := { place := fun K => He.fAd K ("Tuning", some "__str__"), name := "__str__", qual := "Tuning.__str__", params := defArgs s_Tuning_str, body := defBody s_Tuning_str, scope := defScope s_Tuning_str, frees := [], dfl := [], kwd := [] }
def r_l_bag : Hk.Row := { place := fun K => He.fAd K ("_law_bag", none), name := "_law_bag", qual := "_law_bag", params := defArgs s_l_bag, body := defBody s_l_bag, scope := defScope s_l_bag, frees := [], dfl := [], kwd := [] }
def r_l_mixed : Hk.Row := { place := fun K => He.fAd K ("_law_mixed", none), name := "_law_mixed", qual := "_law_mixed", params := defArgs s_l_mixed, body := defBody s_l_mixed, scope := defScope s_l_mixed, frees := [], dfl := [], kwd := [] }
def r_l_take : Hk.Row := { place := fun K => He.fAd K ("_law_take", none), name := "_law_take", qual := "_law_take", params := defArgs s_l_take, body := defBody s_l_take, scope := defScope s_l_take, frees := [], dfl := [], kwd := [] }
def r_l_name : Hk.Row := { place := fun K => He.fAd K ("_law_name", none), name := "_law_name", qual := "_law_name", params := defArgs s_l_name, body := defBody s_l_name, scope := defScope s_l_name, frees := [], dfl := [], kwd := [] }
def r_l_names : Hk.Row := { place := fun K => He.fAd K ("_law_names", none), name := "_law_names", qual := "_law_names", params := defArgs s_l_names, body := defBody s_l_names, scope := defScope s_l_names, frees := [], dfl := [], kwd := [] }
def r_l_is_int : Hk.Row := { place := fun K => He.fAd K ("_law_is_int", none), name := "_law_is_int", qual := "_law_is_int", params := defArgs s_l_is_int, body := defBody s_l_is_int, scope := defScope s_l_is_int, frees := [], dfl := [], kwd := [] }
def r_l_row : Hk.Row := { place := fun K => He.fAd K ("_law_row", none), name := "_law_row", qual := "_law_row", params := defArgs s_l_row, body := defBody s_l_row, scope := defScope s_l_row, frees := [], dfl := [], kwd := [] }
def r_l_texts : Hk.Row := { place := fun K => He.fAd K ("_law_texts", none), name := "_law_texts", qual := "_law_texts", params := defArgs s_l_texts, body := defBody s_l_texts, scope := defScope s_l_texts, frees := [], dfl := [], kwd := [] }
def r_l_pitch : Hk.Row := { place := fun K => He.fAd K ("_law_pitch", none), name := "_law_pitch", qual := "_law_pitch", params := defArgs s_l_pitch, body := defBody s_l_pitch, scope := defScope s_l_pitch, frees := [], dfl := [], kwd := [] }
def r_l_is_tuning : Hk.Row := { place := fun K => He.fAd K ("_law_is_tuning", none), name := "_law_is_tuning", qual := "_law_is_tuning", params := defArgs s_l_is_tuning, body := defBody s_l_is_tuning, scope := defScope s_l_is_tuning, frees := [], dfl := [], kwd := [] }
def r_l_refused : Hk.Row := { place := fun K => He.fAd K ("_law_refused", none), name := "_law_refused", qual := "_law_refused", params := defArgs s_l_refused, body := defBody s_l_refused, scope := defScope s_l_refused, frees := [], dfl := [], kwd := [] }
def r_l_spoilt : Hk.Row := { place := fun K => He.fAd K ("_law_spoilt", none), name := "_law_spoilt", qual := "_law_spoilt", params := defArgs s_l_spoilt, body := defBody s_l_spoilt, scope := defScope s_l_spoilt, frees := [], dfl := [], kwd := [] }
def r_law : Hk.Row := { place := fun K => He.fAd K ("law", none), name := "law", qual := "law", params := defArgs s_law, body := defBody s_law, scope := defScope s_law, frees := [], dfl := [], kwd := [] }
def r_BadName_init : Hk.Row := { place := fun K => He.fAd K ("BadName", some "__init__"), name := "__init__", qual := "BadName.__init__", params := defArgs s_BadName_init, body := defBody s_BadName_init, scope := defScope s_BadName_init, frees := ["__class__"], dfl := [], kwd := [] }
def r_UnknownFork_init : Hk.Row := { place := fun K => He.fAd K ("UnknownFork", some "__init__"), name := "__init__", qual := "UnknownFork.__init__", params := defArgs s_UnknownFork_init, body := defBody s_UnknownFork_init, scope := defScope s_UnknownFork_init, frees := ["__class__"], dfl := [], kwd := [] }
def r_RepeatedFork_init : Hk.Row := { place := fun K => He.fAd K ("RepeatedFork", some "__init__"), name := "__init__", qual := "RepeatedFork.__init__", params := defArgs s_RepeatedFork_init, body := defBody s_RepeatedFork_init, scope := defScope s_RepeatedFork_init, frees := ["__class__"], dfl := [], kwd := [] }
def r_BadText_init : Hk.Row := { place := fun K => He.fAd K ("BadText", some "__init__"), name := "__init__", qual := "BadText.__init__", params := defArgs s_BadText_init, body := defBody s_BadText_init, scope := defScope s_BadText_init, frees := ["__class__"], dfl := [], kwd := [] }
def rs : List Hk.Row := [r_is_name, r_is_number, r_read_pitch, r_Tuning_init, r_Tuning_read, r_Tuning_names, r_Tuning_pitches, r_Tuning_getitem, r_Tuning_contains, r_Tuning_len, r_Tuning_str, r_l_bag, r_l_mixed, r_l_take, r_l_name, r_l_names, r_l_is_int, r_l_row, r_l_texts, r_l_pitch, r_l_is_tuning, r_l_refused, r_l_spoilt, r_law, r_BadName_init, r_UnknownFork_init, r_RepeatedFork_init, r_BadText_init]
def qs : List Hk.Ask := [Hk.fact (.glo "ForkError"), Hk.fact (.glo "BadText"), Hk.fact (.str "LETTERS" "abcdefghijklmnopqrstuvwxyz"), Hk.fact (.str "DIGITS" "0123456789"), Hk.fact (.int "MOST_LETTERS" (12)), Hk.fact (.int "MOST_FIGURES" (40)), Hk.fact (.glo "is_name"), Hk.fact (.glo "is_number"), Hk.fact (.glo "read_pitch"), Hk.fact (.glo "Tuning"), Hk.fact (.glo "_law_bag"), Hk.fact (.glo "_law_mixed"), Hk.fact (.glo "_law_take"), Hk.fact (.glo "_law_name"), Hk.fact (.glo "_law_names"), Hk.fact (.glo "_law_is_int"), Hk.fact (.glo "_law_row"), Hk.fact (.glo "_law_texts"), Hk.fact (.glo "_law_pitch"), Hk.fact (.glo "_law_is_tuning"), Hk.fact (.glo "_law_refused"), Hk.fact (.glo "_law_spoilt"), Hk.fact (.glo "law"), Hk.fact (.free "ValueError"), Hk.fact (.free "abs"), Hk.fact (.free "all"), Hk.fact (.free "bool"), Hk.fact (.free "enumerate"), Hk.fact (.free "int"), Hk.fact (.free "isinstance"), Hk.fact (.free "len"), Hk.fact (.free "list"), Hk.fact (.free "max"), Hk.fact (.free "range"), Hk.fact (.free "str"), Hk.fact (.free "tuple"), Hk.fact (.glo "BadName"), Hk.fact (.free "super"), Fx.isExc "BadName", Fx.isErr "BadName" ["name"], Fx.isCod "BadName" PP.main.file r_BadName_init, Hk.fact (.glo "UnknownFork"), Fx.isExc "UnknownFork", Fx.isErr "UnknownFork" ["name"], Fx.isCod "UnknownFork" PP.main.file r_UnknownFork_init, Hk.fact (.glo "RepeatedFork"), Fx.isExc "RepeatedFork", Fx.isErr "RepeatedFork" ["name"], Fx.isCod "RepeatedFork" PP.main.file r_RepeatedFork_init, Fx.isExc "BadText", Fx.isSubT "BadText" "ValueError" true, Fx.isErr "BadText" ["text"], Fx.isCod "BadText" PP.main.file r_BadText_init, Fx.isSub "BadText" "ForkError" true, Fx.isSub "BadText" "BadText" true, Hk.fact (.cls "Tuning"), Ow.isInsT "Tuning", Hk.fact (.mkr "Tuning"), Hk.fact (.noat "Tuning" "level"), Hk.fact (.noat "Tuning" "name_row"), Hk.isRead "Tuning", Ow.isSMet "Tuning" "read", Hk.fact (.meth "Tuning" "names"), Hk.fact (.meth "Tuning" "pitches")]
def loose0 : List PySem.Str := ["_wall", "ForkError", "BadName", "UnknownFork", "RepeatedFork", "BadText", "Clash", "LETTERS", "DIGITS", "MOST_LETTERS", "MOST_FIGURES", "is_name", "is_number", "read_pitch", "Tuning", "_law_bag", "_law_mixed", "_law_take", "_law_name", "_law_names", "_law_is_int", "_law_row", "_law_texts", "_law_pitch", "_law_is_tuning", "_law_refused", "_law_spoilt"]
def loose : List PySem.Str := loose0
abbrev R : PySem.W.OpenRow := PySem.W.OpenLaw.row PySem.Challenge.rw_forkbeats_k06_tuning_text_refused
abbrev hk : PySem.W.Hook := Hk.hook 5 rs qs
def ob (s : PySem.W.SharedT) : Hk.Seen := Hk.seen rs qs (Hk.part 5 (HandSHeadRun.getT s))
theorem ob_eq (s : PySem.W.SharedT) : ob s = hk.obs s.abs := congrArg (fun look => Hk.seen rs qs (Hk.part 5 look)) (funext (HandSHeadRun.getT_eq s))
set_option maxHeartbeats 0 in
theorem run (w : World) : HandSHeadRun.RunEq R (PySem.W.view R.prog [30]) hk ob 12000 loose w := by
  intro os
  kernel_rfl
theorem noTop : (PP.main.scope.names.lookup ("super" : Str)).isSome = false := by decide +kernel
structure Tx (K : PySem.W.Frag) (mg : Str → Option Value) : Prop where
  g_ForkError : mg "ForkError" = some (.ref (He.ga K "ForkError"))
  g_BadText : mg "BadText" = some (.ref (He.ga K "BadText"))
  i_LETTERS : ∃ t, mg "LETTERS" = some (.str "abcdefghijklmnopqrstuvwxyz" t)
  i_DIGITS : ∃ t, mg "DIGITS" = some (.str "0123456789" t)
  i_MOST_LETTERS : ∃ t, mg "MOST_LETTERS" = some (.int (12) t)
  i_MOST_FIGURES : ∃ t, mg "MOST_FIGURES" = some (.int (40) t)
  g_is_name : mg "is_name" = some (.ref (He.ga K "is_name"))
  g_is_number : mg "is_number" = some (.ref (He.ga K "is_number"))
  g_read_pitch : mg "read_pitch" = some (.ref (He.ga K "read_pitch"))
  g_Tuning : mg "Tuning" = some (.ref (He.ga K "Tuning"))
  g_l_bag : mg "_law_bag" = some (.ref (He.ga K "_law_bag"))
  g_l_mixed : mg "_law_mixed" = some (.ref (He.ga K "_law_mixed"))
  g_l_take : mg "_law_take" = some (.ref (He.ga K "_law_take"))
  g_l_name : mg "_law_name" = some (.ref (He.ga K "_law_name"))
  g_l_names : mg "_law_names" = some (.ref (He.ga K "_law_names"))
  g_l_is_int : mg "_law_is_int" = some (.ref (He.ga K "_law_is_int"))
  g_l_row : mg "_law_row" = some (.ref (He.ga K "_law_row"))
  g_l_texts : mg "_law_texts" = some (.ref (He.ga K "_law_texts"))
  g_l_pitch : mg "_law_pitch" = some (.ref (He.ga K "_law_pitch"))
  g_l_is_tuning : mg "_law_is_tuning" = some (.ref (He.ga K "_law_is_tuning"))
  g_l_refused : mg "_law_refused" = some (.ref (He.ga K "_law_refused"))
  g_l_spoilt : mg "_law_spoilt" = some (.ref (He.ga K "_law_spoilt"))
  g_law : mg "law" = some (.ref (He.ga K "law"))
  f_ValueError : mg "ValueError" = none
  f_abs : mg "abs" = none
  f_all : mg "all" = none
  f_bool : mg "bool" = none
  f_enumerate : mg "enumerate" = none
  f_int : mg "int" = none
  f_isinstance : mg "isinstance" = none
  f_len : mg "len" = none
  f_list : mg "list" = none
  f_max : mg "max" = none
  f_range : mg "range" = none
  f_str : mg "str" = none
  f_tuple : mg "tuple" = none
  d_is_name : ∃ fd, FunD K "is_name" "is_name" (defArgs s_is_name) (defBody s_is_name) (defScope s_is_name) (r_is_name.dvs K) (r_is_name.kws K) (He.ga K "is_name") fd
  d_is_number : ∃ fd, FunD K "is_number" "is_number" (defArgs s_is_number) (defBody s_is_number) (defScope s_is_number) (r_is_number.dvs K) (r_is_number.kws K) (He.ga K "is_number") fd
  d_read_pitch : ∃ fd, FunD K "read_pitch" "read_pitch" (defArgs s_read_pitch) (defBody s_read_pitch) (defScope s_read_pitch) (r_read_pitch.dvs K) (r_read_pitch.kws K) (He.ga K "read_pitch") fd
  d_Tuning_init : ∃ fd, FunD K "__init__" "Tuning.__init__" (defArgs s_Tuning_init) (defBody s_Tuning_init) (defScope s_Tuning_init) (r_Tuning_init.dvs K) (r_Tuning_init.kws K) (He.ma K (He.ga K "Tuning") "__init__") fd
  d_Tuning_read : ∃ fd, FunD K "read" "Tuning.read" (defArgs s_Tuning_read) (defBody s_Tuning_read) (defScope s_Tuning_read) (r_Tuning_read.dvs K) (r_Tuning_read.kws K) (Hk.behind "Tuning" "read" K) fd
  d_Tuning_names : ∃ fd, FunD K "names" "Tuning.names" (defArgs s_Tuning_names) (defBody s_Tuning_names) (defScope s_Tuning_names) (r_Tuning_names.dvs K) (r_Tuning_names.kws K) (He.ma K (He.ga K "Tuning") "names") fd
  d_Tuning_pitches : ∃ fd, FunD K "pitches" "Tuning.pitches" (defArgs s_Tuning_pitches) (defBody s_Tuning_pitches) (defScope s_Tuning_pitches) (r_Tuning_pitches.dvs K) (r_Tuning_pitches.kws K) (He.ma K (He.ga K "Tuning") "pitches") fd
  d_Tuning_getitem : ∃ fd, FunD K "__getitem__" "Tuning.__getitem__" (defArgs s_Tuning_getitem) (defBody s_Tuning_getitem) (defScope s_Tuning_getitem) (r_Tuning_getitem.dvs K) (r_Tuning_getitem.kws K) (He.ma K (He.ga K "Tuning") "__getitem__") fd
  d_Tuning_contains : ∃ fd, FunD K "__contains__" "Tuning.__contains__" (defArgs s_Tuning_contains) (defBody s_Tuning_contains) (defScope s_Tuning_contains) (r_Tuning_contains.dvs K) (r_Tuning_contains.kws K) (He.ma K (He.ga K "Tuning") "__contains__") fd
  d_Tuning_len : ∃ fd, FunD K "__len__" "Tuning.__len__" (defArgs s_Tuning_len) (defBody s_Tuning_len) (defScope s_Tuning_len) (r_Tuning_len.dvs K) (r_Tuning_len.kws K) (He.ma K (He.ga K "Tuning") "__len__") fd
  d_Tuning_str : ∃ fd, FunD K "__str__" "Tuning.__str__" (defArgs s_Tuning_str) (defBody s_Tuning_str) (defScope s_Tuning_str) (r_Tuning_str.dvs K) (r_Tuning_str.kws K) (He.ma K (He.ga K "Tuning") "__str__") fd
  d_l_bag : ∃ fd, FunD K "_law_bag" "_law_bag" (defArgs s_l_bag) (defBody s_l_bag) (defScope s_l_bag) (r_l_bag.dvs K) (r_l_bag.kws K) (He.ga K "_law_bag") fd
  d_l_mixed : ∃ fd, FunD K "_law_mixed" "_law_mixed" (defArgs s_l_mixed) (defBody s_l_mixed) (defScope s_l_mixed) (r_l_mixed.dvs K) (r_l_mixed.kws K) (He.ga K "_law_mixed") fd
  d_l_take : ∃ fd, FunD K "_law_take" "_law_take" (defArgs s_l_take) (defBody s_l_take) (defScope s_l_take) (r_l_take.dvs K) (r_l_take.kws K) (He.ga K "_law_take") fd
  d_l_name : ∃ fd, FunD K "_law_name" "_law_name" (defArgs s_l_name) (defBody s_l_name) (defScope s_l_name) (r_l_name.dvs K) (r_l_name.kws K) (He.ga K "_law_name") fd
  d_l_names : ∃ fd, FunD K "_law_names" "_law_names" (defArgs s_l_names) (defBody s_l_names) (defScope s_l_names) (r_l_names.dvs K) (r_l_names.kws K) (He.ga K "_law_names") fd
  d_l_is_int : ∃ fd, FunD K "_law_is_int" "_law_is_int" (defArgs s_l_is_int) (defBody s_l_is_int) (defScope s_l_is_int) (r_l_is_int.dvs K) (r_l_is_int.kws K) (He.ga K "_law_is_int") fd
  d_l_row : ∃ fd, FunD K "_law_row" "_law_row" (defArgs s_l_row) (defBody s_l_row) (defScope s_l_row) (r_l_row.dvs K) (r_l_row.kws K) (He.ga K "_law_row") fd
  d_l_texts : ∃ fd, FunD K "_law_texts" "_law_texts" (defArgs s_l_texts) (defBody s_l_texts) (defScope s_l_texts) (r_l_texts.dvs K) (r_l_texts.kws K) (He.ga K "_law_texts") fd
  d_l_pitch : ∃ fd, FunD K "_law_pitch" "_law_pitch" (defArgs s_l_pitch) (defBody s_l_pitch) (defScope s_l_pitch) (r_l_pitch.dvs K) (r_l_pitch.kws K) (He.ga K "_law_pitch") fd
  d_l_is_tuning : ∃ fd, FunD K "_law_is_tuning" "_law_is_tuning" (defArgs s_l_is_tuning) (defBody s_l_is_tuning) (defScope s_l_is_tuning) (r_l_is_tuning.dvs K) (r_l_is_tuning.kws K) (He.ga K "_law_is_tuning") fd
  d_l_refused : ∃ fd, FunD K "_law_refused" "_law_refused" (defArgs s_l_refused) (defBody s_l_refused) (defScope s_l_refused) (r_l_refused.dvs K) (r_l_refused.kws K) (He.ga K "_law_refused") fd
  d_l_spoilt : ∃ fd, FunD K "_law_spoilt" "_law_spoilt" (defArgs s_l_spoilt) (defBody s_l_spoilt) (defScope s_l_spoilt) (r_l_spoilt.dvs K) (r_l_spoilt.kws K) (He.ga K "_law_spoilt") fd
  d_law : ∃ fd, FunD K "law" "law" (defArgs s_law) (defBody s_law) (defScope s_law) (r_law.dvs K) (r_law.kws K) (He.ga K "law") fd
  x_BadName : ∀ w, Fx.Mkr PP w K mg "BadName" (He.ga K "BadName") ["name"]
  x_UnknownFork : ∀ w, Fx.Mkr PP w K mg "UnknownFork" (He.ga K "UnknownFork") ["name"]
  x_RepeatedFork : ∀ w, Fx.Mkr PP w K mg "RepeatedFork" (He.ga K "RepeatedFork") ["name"]
  c_BadText : Fx.ExcF K (He.ga K "BadText")
  t_BadText_ValueError : PySem.W.kitOne K (.ref (He.ga K "BadText")) (.type "ValueError") = some true
  x_BadText : ∀ w, Fx.Mkr PP w K mg "BadText" (He.ga K "BadText") ["text"]
  m_BadText_ForkError : PySem.W.exmOne K (.ref (He.ga K "BadText")) (.ref (He.ga K "ForkError")) = some true ∧ PySem.W.kitOne K (.ref (He.ga K "BadText")) (.ref (He.ga K "ForkError")) = some true
  m_BadText_BadText : PySem.W.exmOne K (.ref (He.ga K "BadText")) (.ref (He.ga K "BadText")) = some true ∧ PySem.W.kitOne K (.ref (He.ga K "BadText")) (.ref (He.ga K "BadText")) = some true
  k_Tuning : L2.Cls K (He.ga K "Tuning")
  it_Tuning : Ow.InsT K (He.ga K "Tuning")
  mk_Tuning : Mk K (He.ga K "Tuning") (He.ma K (He.ga K "Tuning") "__init__")
  n_Tuning_level : NoAttr K (He.ga K "Tuning") "level"
  n_Tuning_name_row : NoAttr K (He.ga K "Tuning") "name_row"
  r_Tuning : ClX.CRead K (He.ga K "Tuning") (.type "type")
  s_Tuning_read : Ow.SMet K (He.ga K "Tuning") "read" (He.ma K (He.ga K "Tuning") "read") (Hk.behind "Tuning" "read" K)
  me_Tuning_names : Meth K (He.ga K "Tuning") "names" (He.ma K (He.ga K "Tuning") "names")
  me_Tuning_pitches : Meth K (He.ga K "Tuning") "pitches" (He.ma K (He.ga K "Tuning") "pitches")
theorem tx_of {K : PySem.W.Frag} {h : Heap} {mg : Str → Option Value} (X : K.In h) (G : h.Ns mainGlobals mg) (c : Hk.Told rs qs K) : Tx K mg := ⟨He.glo_ok X G (c.ask 0),
  He.glo_ok X G (c.ask 1),
  He.str_ok X G (c.ask 2),
  He.str_ok X G (c.ask 3),
  He.int_ok X G (c.ask 4),
  He.int_ok X G (c.ask 5),
  He.glo_ok X G (c.ask 6),
  He.glo_ok X G (c.ask 7),
  He.glo_ok X G (c.ask 8),
  He.glo_ok X G (c.ask 9),
  He.glo_ok X G (c.ask 10),
  He.glo_ok X G (c.ask 11),
  He.glo_ok X G (c.ask 12),
  He.glo_ok X G (c.ask 13),
  He.glo_ok X G (c.ask 14),
  He.glo_ok X G (c.ask 15),
  He.glo_ok X G (c.ask 16),
  He.glo_ok X G (c.ask 17),
  He.glo_ok X G (c.ask 18),
  He.glo_ok X G (c.ask 19),
  He.glo_ok X G (c.ask 20),
  He.glo_ok X G (c.ask 21),
  He.glo_ok X G (c.ask 22),
  He.free_ok X G (c.ask 23),
  He.free_ok X G (c.ask 24),
  He.free_ok X G (c.ask 25),
  He.free_ok X G (c.ask 26),
  He.free_ok X G (c.ask 27),
  He.free_ok X G (c.ask 28),
  He.free_ok X G (c.ask 29),
  He.free_ok X G (c.ask 30),
  He.free_ok X G (c.ask 31),
  He.free_ok X G (c.ask 32),
  He.free_ok X G (c.ask 33),
  He.free_ok X G (c.ask 34),
  He.free_ok X G (c.ask 35),
  c.fun_ 0,
  c.fun_ 1,
  c.fun_ 2,
  c.fun_ 3,
  c.fun_ 4,
  c.fun_ 5,
  c.fun_ 6,
  c.fun_ 7,
  c.fun_ 8,
  c.fun_ 9,
  c.fun_ 10,
  c.fun_ 11,
  c.fun_ 12,
  c.fun_ 13,
  c.fun_ 14,
  c.fun_ 15,
  c.fun_ 16,
  c.fun_ 17,
  c.fun_ 18,
  c.fun_ 19,
  c.fun_ 20,
  c.fun_ 21,
  c.fun_ 22,
  c.fun_ 23,
  fun w => (c.row 24).elim fun fd is => Fx.mkr1 (He.glo_ok X G (c.ask 36)) (He.free_ok X G (c.ask 37)) noTop is (Fx.isExc_ok (c.ask 38)) (c.ask 39) (c.ask 40) Fx.nm1_name rfl rfl rfl rfl ⟨_, _, _, _, _, _, _, _, _, _, _, _, _, rfl, rfl, rfl, rfl⟩,
  fun w => (c.row 25).elim fun fd is => Fx.mkr1 (He.glo_ok X G (c.ask 41)) (He.free_ok X G (c.ask 37)) noTop is (Fx.isExc_ok (c.ask 42)) (c.ask 43) (c.ask 44) Fx.nm1_name rfl rfl rfl rfl ⟨_, _, _, _, _, _, _, _, _, _, _, _, _, rfl, rfl, rfl, rfl⟩,
  fun w => (c.row 26).elim fun fd is => Fx.mkr1 (He.glo_ok X G (c.ask 45)) (He.free_ok X G (c.ask 37)) noTop is (Fx.isExc_ok (c.ask 46)) (c.ask 47) (c.ask 48) Fx.nm1_name rfl rfl rfl rfl ⟨_, _, _, _, _, _, _, _, _, _, _, _, _, rfl, rfl, rfl, rfl⟩,
  Fx.isExc_ok (c.ask 49),
  Fx.isSubT_ok (c.ask 50),
  fun w => (c.row 27).elim fun fd is => Fx.mkr1 (He.glo_ok X G (c.ask 1)) (He.free_ok X G (c.ask 37)) noTop is (Fx.isExc_ok (c.ask 49)) (c.ask 51) (c.ask 52) Fx.nm1_text rfl rfl rfl rfl ⟨_, _, _, _, _, _, _, _, _, _, _, _, _, rfl, rfl, rfl, rfl⟩,
  Fx.isSub_ok (c.ask 53),
  Fx.isSub_ok (c.ask 54),
  He.cls_ok (c.ask 55),
  Ow.isInsT_ok (c.ask 56),
  He.mkr_ok (c.ask 57),
  He.noat_ok (c.ask 58),
  He.noat_ok (c.ask 59),
  Hk.isRead_ok (c.ask 60),
  Ow.isSMet_ok (c.ask 61),
  He.meth_ok (c.ask 62),
  He.meth_ok (c.ask 63)⟩
end Hd
namespace Hd
open PySem PySem.Spec PyProof.Rows L2 Lg Pu
/-! ### the bag of draws -/
structure Bg where
  t : Int
  rest : Int
  at_ : Int
  base : Int
  c : Addr
  cs : List Int
def Bg.o (g : Bg) : HO := .lst [.int g.t, .int g.rest, .int g.at_, .int g.base, .ref g.c]
structure Bg.Ok (g : Bg) (I : Hp) : Prop where
  cells : I g.c = some (.lst (g.cs.map V.int))
  nn : ∀ z ∈ g.cs, 0 ≤ z
  rest : 0 ≤ g.rest
  at0 : 0 ≤ g.at_
  at1 : g.at_ ≤ g.cs.length
  base0 : 0 ≤ g.base
  base1 : g.base < 2147483647
theorem Bg.Ok.mono {g : Bg} {I J : Hp} (h : g.Ok I) (e : Sub I J) : g.Ok J := ⟨e _ _ h.cells, h.nn, h.rest, h.at0, h.at1, h.base0, h.base1⟩
theorem cDivW {i j : Int} (h : 0 < j) (h2 : j < 2 ^ 200) : CDivW i j := wide_div (b := 201) h (by
  have e : ((j.natAbs : Nat) : Int) < ((2 ^ 200 : Nat) : Int) := by
    rw [Int.natAbs_of_nonneg (by omega), Int.natCast_pow]
    exact h2
  exact Nat.lt_trans (Int.ofNat_lt.mp e) (Nat.pow_lt_pow_right (by decide) (by decide))) (by decide) (by decide)
def sp_mixed : Sp := fun vs H Q _ => ∃ (c t : Int), vs = [.int c, .int t] ∧ (-(2 ^ 64) < c ∧ c < 2 ^ 64) ∧ ∀ r : Int, 0 ≤ r → Q (.int r) H
def sp_take : Sp := fun vs H Q _ => ∃ (I : Hp) (M : Md) (b : Addr) (g : Bg) (m : Int), vs = [.ref b, .int m] ∧ Wd H I ((b, g.o) :: M) ∧ g.Ok I ∧ m < 2 ^ 200 ∧
  ∀ (H' : Hp) (g' : Bg) (r : Int), Wd H' I ((b, g'.o) :: M) → g'.Ok I → 0 ≤ r → r < max 1 m → Q (.int r) H'
def sp_bag (K : PySem.W.Frag) : Sp := fun vs H Q _ => ∃ (I : Hp) (M : Md) (a : Addr) (ns : List Int), vs = [.ref a] ∧ Wd H I M ∧ SqL K I a (ns.map V.int) ∧ ns.length ≤ 63 ∧
  ∀ (H' J : Hp) (b : Addr) (g : Bg), Sub I J → Wd H' J ((b, g.o) :: M) → g.Ok J → Q (.ref b) H'
section
variable {P : Program} {w : World} {K : PySem.W.Frag} {mg : Str → Option Value} {base : Heap}
theorem ok_mixed (T : Tx K mg) : Ok P w K mg base CX0 1 "_law_mixed" P_l_mixed sp_mixed := by
  refine mkOk0 T.d_l_mixed T.g_l_mixed sc_l_mixed (fun _ _ _ _ _ _ us hl => match us, hl with | [_, _], _ => rfl) (fun vs H Q E h => ?_) (fun cdv A outer s H vs Q E hr h => ?_)
  · obtain ⟨c, t, rfl, _⟩ := h
    rfl
  · obtain ⟨c, t, rfl, hc, k⟩ := h
    refine ⟨_, (pss_cons (ps_set (i := 2) sc_l_mixed.nd rfl (.inl rfl) (pe_op op_mod (pe_callTy call_int1 (by rfl) T.f_int (by decide +kernel) (pa_cons (pe_op op_mul (pv 0) (pe_op op_add (pe_op op_mul pe_int (pv 1)) pe_int)) pa_nil)) pe_int))
      (pss_cons (ps_set (i := 2) sc_l_mixed.nd rfl (.inl rfl) (pe_op op_mod (pe_callTy call_int1 (by rfl) T.f_int (by decide +kernel) (pa_cons (pe_op op_add (pe_op op_mul (pv 2) pe_int) (pe_op op_fdivW (pv 2) pe_int)) pa_nil)) pe_int))
      (pss_one (ps_ret (pe_op op_fdivW (pv 2) pe_int))))), ?_⟩
    refine ⟨_, rfl, _, rfl, _, _, rfl, rfl, .inl ⟨by decide, by decide⟩, _, _, rfl, rfl, _, _, rfl, rfl, .inl hc, .inl ⟨_, rfl, _, _, rfl, rfl, (by show (0 : Int) < 2147483647; decide), ?_⟩⟩
    have n0 := Int.emod_nonneg (c * (48271 * t + 69621)) (show (2147483647 : Int) ≠ 0 by decide)
    have n1 := Int.emod_lt_of_pos (c * (48271 * t + 69621)) (show (0 : Int) < 2147483647 by decide)
    refine ⟨_, rfl, _, _, rfl, rfl, .inr ⟨by decide, by decide⟩, _, rfl, _, _, rfl, rfl, cDivW (by decide) (by decide), _, _, rfl, rfl, .inl ⟨_, rfl, _, _, rfl, rfl, (by show (0 : Int) < 2147483399; decide), ?_⟩⟩
    refine ⟨_, rfl, _, _, rfl, rfl, cDivW (by decide) (by decide), ?_⟩
    exact k _ (Int.ediv_nonneg (Int.emod_nonneg _ (by decide)) (by decide))
theorem ok_take (T : Tx K mg) (G_l_mixed : Ok P w K mg base CX0 1 "_law_mixed" P_l_mixed sp_mixed) : Ok P w K mg base CX0 2 "_law_take" P_l_take sp_take := by
  obtain ⟨fd_l_mixed, G_l_mixed, b_l_mixed, g_l_mixed, k_l_mixed⟩ := G_l_mixed
  refine mkOk0 T.d_l_take T.g_l_take sc_l_take (fun _ _ _ _ _ _ us hl => match us, hl with | [_, _], _ => rfl) (fun vs H Q E h => ?_) (fun cdv A outer s H vs Q E hr h => ?_)
  · obtain ⟨I, M, b, g, m, rfl, _⟩ := h
    rfl
  · obtain ⟨I, M, b, g, m, rfl, W, ok, hm, k⟩ := h
    refine ⟨_, (pss_cons (ps_set (i := 1) sc_l_take.nd rfl (.inl rfl) (pe_callB (call_max2 rfl) (by rfl) T.f_max (by decide +kernel) (pa_cons pe_int (pa_cons (pv 1) pa_nil))))
      (pss_cons (ps_asg (pe_op op_add (pe_ix (kix_list K) (pv 0) pe_int (fun _ _ => rfl)) pe_int) (pg_sub (pv 0) pe_int set_list))
      (Evl.pss_cut (ps_if (PW.pt (pw_and (pt_cmpR op_lt (pe_ix (kix_list K) (pv 0) pe_int (fun _ _ => rfl)) (pv 1) (nomark _)) (pw_and1 (pt_cmpR op_lt (pe_ix (kix_list K) (pv 0) pe_int (fun _ _ => rfl)) (pe_callB (klen K) (by rfl) T.f_len (by decide +kernel) (pa_cons (pe_ix (kix_list K) (pv 0) pe_int (fun _ _ => rfl)) pa_nil)) (nomark _))))) (pss_cons (ps_set (i := 2) sc_l_take.nd rfl (.inl rfl) (pe_ix (kix_list K) (pe_ix (kix_list K) (pv 0) pe_int (fun _ _ => rfl)) (pe_ix (kix_list K) (pv 0) pe_int (fun _ _ => rfl)) (fun _ _ => rfl)))
      (pss_cons (ps_asg (pe_op op_add (pe_ix (kix_list K) (pv 0) pe_int (fun _ _ => rfl)) pe_int) (pg_sub (pv 0) pe_int set_list))
      (pss_cons (ps_if (pt_cmpR op_lt (pv 2) (pe_op op_pow pe_int pe_int) (nomark _)) (pss_one (ps_ret (pe_op op_mod (pe_callTy call_int1 (by rfl) T.f_int (by decide +kernel) (pa_cons (pe_call G_l_mixed (hr.mono (by decide)) (by rfl) g_l_mixed k_l_mixed b_l_mixed .nil pass0 (pa_cons (pv 2) (pa_cons (pe_ix (kix_list K) (pv 0) pe_int (fun _ _ => rfl)) pa_nil))) pa_nil)) (pv 1)))) pss_nil)
      (pss_one (ps_asg (pv 2) (pg_sub (pv 0) pe_int set_list)))))) pss_nil)
      (pss_cons (ps_if (pt_cmpR op_ge (pe_ix (kix_list K) (pv 0) pe_int (fun _ _ => rfl)) (pv 1) (nomark _)) (pss_cons (ps_set (i := 3) sc_l_take.nd rfl (.inl rfl) (pe_op op_mod (pe_callTy call_int1 (by rfl) T.f_int (by decide +kernel) (pa_cons (pe_ix (kix_list K) (pv 0) pe_int (fun _ _ => rfl)) pa_nil)) (pv 1)))
      (pss_cons (ps_asg (pe_op op_fdivW (pe_ix (kix_list K) (pv 0) pe_int (fun _ _ => rfl)) (pv 1)) (pg_sub (pv 0) pe_int set_list))
      (pss_one (ps_ret (pv 3))))) pss_nil)
      (pss_one (ps_ret (pe_op op_mod (pe_callTy call_int1 (by rfl) T.f_int (by decide +kernel) (pa_cons (pe_call G_l_mixed (hr.mono (by decide)) (by rfl) g_l_mixed k_l_mixed b_l_mixed .nil pass0 (pa_cons (pe_ix (kix_list K) (pv 0) pe_int (fun _ _ => rfl)) (pa_cons (pe_ix (kix_list K) (pv 0) pe_int (fun _ _ => rfl)) pa_nil))) pa_nil)) (pv 1)))))))), ?_⟩
    -- many = max(1, many)
    refine ⟨_, rfl, _, _, rfl, ?_⟩
    obtain ⟨mm, em, m1, m2⟩ : ∃ mm : Int, (if m > 1 then m else 1) = mm ∧ 1 ≤ mm ∧ (mm < 2 ^ 200 ∧ mm = max 1 m) := ⟨_, rfl, by split <;> omega, by split <;> omega, by omega⟩
    rw [em]
    obtain ⟨m3, m4⟩ := m2
    rw [← m4] at k
    -- bag[0] = bag[0] + 1
    refine ⟨_, rfl, b, _, 0, _, rfl, rfl, SqL.of W.hd, atI_nat (j := 0) rfl, _, _, rfl, rfl, _, rfl, b, _, 0, 0, rfl, rfl, W.hd, rfl, wr_go W fun H W => ?_⟩
    have W : Wd H I ((b, ({ g with t := g.t + 1 } : Bg).o) :: M) := W
    have ok : ({ g with t := g.t + 1 } : Bg).Ok I := ⟨ok.cells, ok.nn, ok.rest, ok.at0, ok.at1, ok.base0, ok.base1⟩
    generalize ({ g with t := g.t + 1 } : Bg) = g at W ok
    -- if bag[1] < many and bag[2] < len(bag[4])
    refine ⟨fun σ' H' => ∃ (g' : Bg) (y2 : Option V), σ' = [some (.ref b), some (.int mm), y2, none] ∧ Wd H' I ((b, g'.o) :: M) ∧ g'.Ok I, ?_, ?_⟩
    · refine ⟨_, rfl, b, _, 1, _, rfl, rfl, SqL.of W.hd, atI_nat (j := 1) rfl, _, rfl, _, _, rfl, rfl, _, rfl, ite2 (fun h1 => ?_) (fun h1 => ?_)⟩
      · refine ⟨_, rfl, b, _, 2, _, rfl, rfl, SqL.of W.hd, atI_nat (j := 2) rfl, _, rfl, b, _, 4, _, rfl, rfl, SqL.of W.hd, atI_nat (j := 4) rfl, g.c, _, rfl, .inl (W.l ok.cells), _, _, rfl, rfl, _, rfl, ite2 (fun h2 => ?_) (fun h2 => ?_)⟩
        · have h2 := of_decide_eq_true h2
          rw [List.length_map] at h2
          have hj : g.at_.toNat < g.cs.length := by have := ok.at0; omega
          have hx : g.cs[g.at_.toNat]? = some g.cs[g.at_.toNat] := List.getElem?_eq_getElem hj
          have c0 : 0 ≤ g.cs[g.at_.toNat] := ok.nn _ (List.getElem_mem hj)
          generalize g.cs[g.at_.toNat] = c at hx c0
          refine ⟨_, rfl, b, _, 4, _, rfl, rfl, SqL.of W.hd, atI_nat (j := 4) rfl, _, rfl, b, _, 2, _, rfl, rfl, SqL.of W.hd, atI_nat (j := 2) rfl, g.c, _, g.at_, .int c, rfl, rfl, W.l ok.cells, ?_, ?_⟩
          · have e : g.at_ = ((g.at_.toNat : Nat) : Int) := by have := ok.at0; omega
            rw [e]
            exact atI_nat (by rw [List.getElem?_map, hx]; rfl)
          refine ⟨_, rfl, b, _, 2, _, rfl, rfl, SqL.of W.hd, atI_nat (j := 2) rfl, _, _, rfl, rfl, _, rfl, b, _, 2, 2, rfl, rfl, W.hd, rfl, wr_go W fun H W => ?_⟩
          have W : Wd H I ((b, ({ g with at_ := g.at_ + 1 } : Bg).o) :: M) := W
          have ok : ({ g with at_ := g.at_ + 1 } : Bg).Ok I := ⟨ok.cells, ok.nn, ok.rest, by have := ok.at0; show (0 : Int) ≤ g.at_ + 1; omega, by show g.at_ + 1 ≤ (g.cs.length : Int); omega, ok.base0, ok.base1⟩
          generalize ({ g with at_ := g.at_ + 1 } : Bg) = g at W ok
          refine ⟨_, rfl, _, _, rfl, rfl, ⟨by decide, by decide, by decide⟩, _, _, rfl, rfl, _, rfl, ite2 (fun h3 => ?_) (fun h3 => ?_)⟩
          · have h3 : c < 10 ^ 18 := of_decide_eq_true h3
            refine ⟨_, rfl, _, rfl, b, _, 0, _, rfl, rfl, SqL.of W.hd, atI_nat (j := 0) rfl, c, _, rfl, ⟨by omega, by omega⟩, fun r hr => .inl ⟨_, rfl, _, rfl, _, _, rfl, rfl, (show (0 : Int) < mm by omega), ?_⟩⟩
            exact k _ _ _ W ok (Int.emod_nonneg _ (by omega)) (Int.emod_lt_of_pos _ (by omega))
          · refine ⟨_, rfl, _, rfl, b, _, 1, 1, rfl, rfl, W.hd, rfl, wr_go W fun H W => ?_⟩
            exact ⟨{ g with rest := c }, _, rfl, W, ⟨ok.cells, ok.nn, c0, ok.at0, ok.at1, ok.base0, ok.base1⟩⟩
        · exact ⟨g, _, rfl, W, ok⟩
      · exact iteF ⟨g, _, rfl, W, ok⟩
    · rintro σ' H ⟨g, y2, rfl, W, ok⟩
      refine ⟨_, rfl, b, _, 1, _, rfl, rfl, SqL.of W.hd, atI_nat (j := 1) rfl, _, rfl, _, _, rfl, rfl, _, rfl, ite2 (fun h1 => ?_) (fun h1 => ?_)⟩
      · refine ⟨_, rfl, b, _, 1, _, rfl, rfl, SqL.of W.hd, atI_nat (j := 1) rfl, .inl ⟨_, rfl, _, rfl, _, _, rfl, rfl, (show (0 : Int) < mm by omega), ?_⟩⟩
        refine ⟨_, rfl, b, _, 1, _, rfl, rfl, SqL.of W.hd, atI_nat (j := 1) rfl, _, rfl, _, _, rfl, rfl, cDivW (by omega) m3, _, rfl, b, _, 1, 1, rfl, rfl, W.hd, rfl, wr_go W fun H W => ?_⟩
        refine ⟨_, rfl, ?_⟩
        exact k _ { g with rest := g.rest / mm } _ W ⟨ok.cells, ok.nn, Int.ediv_nonneg ok.rest (by omega), ok.at0, ok.at1, ok.base0, ok.base1⟩ (Int.emod_nonneg _ (by omega)) (Int.emod_lt_of_pos _ (by omega))
      · refine ⟨_, rfl, b, _, 3, _, rfl, rfl, SqL.of W.hd, atI_nat (j := 3) rfl, _, rfl, b, _, 0, _, rfl, rfl, SqL.of W.hd, atI_nat (j := 0) rfl, g.base, _, rfl, ⟨by have := ok.base0; omega, by have := ok.base1; omega⟩, fun r hr => .inl ⟨_, rfl, _, rfl, _, _, rfl, rfl, (show (0 : Int) < mm by omega), ?_⟩⟩
        exact k _ _ _ W ok (Int.emod_nonneg _ (by omega)) (Int.emod_lt_of_pos _ (by omega))
theorem ok_bag (T : Tx K mg) : Ok P w K mg base CX0 1 "_law_bag" P_l_bag (sp_bag K) := by
  refine mkOk0 T.d_l_bag T.g_l_bag sc_l_bag (fun _ _ _ _ _ _ us hl => match us, hl with | [_], _ => rfl) (fun vs H Q E h => ?_) (fun cdv A outer s H vs Q E hr h => ?_)
  · obtain ⟨I, M, a, ns, rfl, _⟩ := h
    rfl
  · obtain ⟨I, M, a, ns, rfl, W, hS, hn, k⟩ := h
    refine ⟨_, (pss_cons (ps_setLc (i := 1) (own := [("_law_cell", 3)]) rfl sc_l_bag.nd rfl rfl (sw_true rfl rfl rfl (by decide +kernel)) (kpi_list K (pe_slice (ksl_list K) (pv 0) po_none (po_some pe_int))) (blkOk_by (own := [("_law_cell", 3)]) (N := N_l_bag) (sc := defScope s_l_bag) (by decide +kernel)) (fun _ _ _ _ _ => (pg_name (i := 3) sc_l_bag.nd rfl (.inl rfl))) (fun _ _ _ _ _ => pts_nil) (fun _ _ _ _ _ => (pe_callB call_abs (by rfl) T.f_abs (by decide +kernel) (pa_cons (pe_callTy call_int1 (by rfl) T.f_int (by decide +kernel) (pa_cons (pv 3) pa_nil)) pa_nil))))
      (pss_cons (ps_set (i := 2) sc_l_bag.nd rfl (.inl rfl) pe_int)
      (pss_cons (ps_for PassesOwn.never rfl (kpi_list K (pv 1)) (pg_name (i := 3) sc_l_bag.nd rfl (.inl rfl)) (pss_one (ps_set (i := 2) sc_l_bag.nd rfl (.inl rfl) (pe_op op_mod (pe_callTy call_int1 (by rfl) T.f_int (by decide +kernel) (pa_cons (pe_op op_add (pe_op op_mul (pv 2) pe_int) (pv 3)) pa_nil)) pe_int))))
      (pss_one (ps_ret (pe_lst (pa_cons pe_int (pa_cons pe_int (pa_cons pe_int (pa_cons (pv 2) (pa_cons (pv 1) pa_nil))))))))))), ?_⟩
    have ec : cutV (ns.map V.int) none (some 63) = (ns.take 63).map V.int := (cut_to _ 63).trans List.map_take.symm
    refine ⟨_, rfl, 63, rfl, a, _, rfl, W.sl hS, fun p np => ?_⟩
    rw [ec]
    generalize hH : upd _ p _ = H
    obtain ⟨J, e, hp, W⟩ := W.new np hH
    have lp : ((ns.take 63).map V.int).length ≤ 63 := by rw [List.length_map, List.length_take]; omega
    generalize ns.take 63 = ms at hp lp
    refine ⟨p, rfl, ⟨_, W.l hp⟩, lcW (ItS.list (SqL.of hp)) W (fun i acc _ N => N = M ∧ acc = (ms.take i).map fun z => V.int (if z < 0 then -z else z)) ⟨rfl, by simp⟩ ?_ ?_⟩
    · rintro D i acc J0 N x J1 H hi e0 ⟨rfl, rfl⟩ l e1 W y
      obtain ⟨z, hz, rfl⟩ : ∃ z, ms[i]? = some z ∧ x = .int z := by
        have y : (ms.map V.int)[i]? = some x := y
        rw [List.getElem?_map] at y
        cases q : ms[i]? with
        | none => rw [q] at y; cases y
        | some z => rw [q] at y; exact ⟨z, rfl, (Option.some.inj y).symm⟩
      refine ⟨rfl, _, rfl, .inl ⟨_, rfl, _, rfl, lc_yes (e0.trans e1) W l (by omega) ⟨rfl, ?_⟩⟩⟩
      rw [List.take_add_one, hz, List.map_append]
      rfl
    · rintro D acc J1 N H e1 W ⟨rfl, rfl⟩
      obtain ⟨J2, e2, hD, W⟩ := W.fz
      rw [List.length_map, List.take_length] at hD
      have hD : J2 D = some (.lst ((ms.map fun z => if z < 0 then -z else z).map V.int)) := by
        rw [hD, List.map_map]
        rfl
      -- base = 0; for cell in cells
      refine ⟨_, rfl, D, rfl, ⟨_, W.l hD⟩, forW (ItS.list (SqL.of hD)) W (fun i σ _ N' => N' = N ∧ ∃ (bs : Int) (y : Option V), σ = [some (.ref a), some (.ref D), some (.int bs), y] ∧ 0 ≤ bs ∧ bs < 2147483647) ⟨rfl, 0, _, rfl, by decide, by decide⟩ ?_ ?_⟩
      · rintro i σ J0 N' x J3 H hi e3 ⟨rfl, bs, y, rfl, b0, b1⟩ e4 W yx
        obtain ⟨z, rfl⟩ : ∃ z, x = V.int z := by
          have yx : (List.map V.int _)[i]? = some x := yx
          rw [List.getElem?_map] at yx
          obtain ⟨z, _, q⟩ := Option.map_eq_some_iff.mp yx
          exact ⟨z, q.symm⟩
        refine ⟨_, rfl, _, _, rfl, rfl, .inl ⟨by omega, by omega⟩, _, rfl, _, _, rfl, rfl, .inl ⟨_, rfl, _, _, rfl, rfl, (by show (0 : Int) < 2147483647; decide), ?_⟩⟩
        exact ⟨_, _, e3.trans e4, W, rfl, _, _, rfl, Int.emod_nonneg _ (by decide), Int.emod_lt_of_pos _ (by decide)⟩
      · rintro σ J3 N' H e3 W ⟨hN, bs, y, rfl, b0, b1⟩
        rw [hN] at W
        refine ⟨_, rfl, _, rfl, (by show 5 ≤ sizeLine; decide), fun b nb => ?_⟩
        generalize hH : upd _ b _ = H
        have W := W.newM nb hH
        refine k _ _ b ⟨0, 0, 0, bs, D, ms.map fun z => if z < 0 then -z else z⟩ (((e.trans e1).trans e2).trans e3) W ⟨e3 _ _ hD, fun z hz => ?_, Int.le_refl 0, Int.le_refl 0, Int.natCast_nonneg _, b0, b1⟩
        obtain ⟨u, _, rfl⟩ := List.mem_map.mp hz
        split <;> omega
end

end Hd
namespace Hd
open PySem PySem.Spec PyProof.Rows L2 Lg Pu
def sp_pitch : Sp := fun vs H Q _ => ∃ (I : Hp) (M : Md) (b : Addr) (g : Bg), vs = [.ref b] ∧ Wd H I ((b, g.o) :: M) ∧ g.Ok I ∧
  ∀ (H' : Hp) (g' : Bg) (r : Int), Wd H' I ((b, g'.o) :: M) → g'.Ok I → -(10 ^ 30) ≤ r → r ≤ 10 ^ 30 → Q (.int r) H'
section
variable {P : Program} {w : World} {K : PySem.W.Frag} {mg : Str → Option Value} {base : Heap}
theorem ok_pitch (T : Tx K mg) (G_l_take : Ok P w K mg base CX0 2 "_law_take" P_l_take sp_take) : Ok P w K mg base CX0 3 "_law_pitch" P_l_pitch sp_pitch := by
  obtain ⟨fd_l_take, G_l_take, b_l_take, g_l_take, k_l_take⟩ := G_l_take
  refine mkOk0 T.d_l_pitch T.g_l_pitch sc_l_pitch (fun _ _ _ _ _ _ us hl => match us, hl with | [_], _ => rfl) (fun vs H Q E h => ?_) (fun cdv A outer s H vs Q E hr h => ?_)
  · obtain ⟨I, M, b, g, rfl, _⟩ := h
    rfl
  · obtain ⟨I, M, b, g, rfl, W, ok, k⟩ := h
    refine ⟨_, (pss_cons (ps_set (i := 1) sc_l_pitch.nd rfl (.inl rfl) (pe_call G_l_take (hr.mono (by decide)) (by rfl) g_l_take k_l_take b_l_take .nil pass0 (pa_cons (pv 0) (pa_cons pe_int pa_nil))))
      (pss_cons (ps_if (pt_cmpR op_eq (pv 1) pe_int (nomark _)) (pss_one (ps_ret (pe_op op_sub (pe_call G_l_take (hr.mono (by decide)) (by rfl) g_l_take k_l_take b_l_take .nil pass0 (pa_cons (pv 0) (pa_cons (pe_op op_add (pe_op op_mul pe_int (pe_op op_pow pe_int pe_int)) pe_int) pa_nil))) (pe_op op_pow pe_int pe_int)))) pss_nil)
      (pss_cons (ps_if (pt_cmpR op_eq (pv 1) pe_int (nomark _)) (pss_one (ps_ret (pe_ix (kix_list K) (pe_lst (pa_cons pe_int (pa_cons pe_int (pa_cons (pe_un un_neg pe_int) pa_nil)))) (pe_call G_l_take (hr.mono (by decide)) (by rfl) g_l_take k_l_take b_l_take .nil pass0 (pa_cons (pv 0) (pa_cons pe_int pa_nil))) (fun _ _ => rfl)))) pss_nil)
      (pss_one (ps_ret (pe_op op_sub (pe_call G_l_take (hr.mono (by decide)) (by rfl) g_l_take k_l_take b_l_take .nil pass0 (pa_cons (pv 0) (pa_cons pe_int pa_nil))) pe_int)))))), ?_⟩
    refine ⟨_, rfl, I, M, b, g, 4, rfl, W, ok, by decide, fun H g r W ok r0 r1 => ?_⟩
    refine ⟨_, rfl, rfl, _, rfl, ite2 (fun h1 => ?_) (fun h1 => ?_)⟩
    · refine ⟨_, rfl, _, _, rfl, rfl, ⟨by decide, by decide, by decide⟩, _, _, rfl, rfl, .inl ⟨by decide, by decide⟩, _, _, rfl, rfl, I, M, b, g, _, rfl, W, ok, by decide, fun H g r W ok r0 r1 => ⟨_, _, rfl, rfl, ⟨by decide, by decide, by decide⟩, _, _, rfl, rfl, ?_⟩⟩
      have e30 : (10 : Int) ^ (30 : Int).toNat = 10 ^ 30 := rfl
      rw [e30] at r1 ⊢
      exact k _ _ _ W ok (by omega) (by omega)
    · refine ⟨_, rfl, rfl, _, rfl, ite2 (fun h2 => ?_) (fun h2 => ?_)⟩
      · refine ⟨_, rfl, (by show 3 ≤ sizeLine; decide), fun p np => ?_⟩
        generalize hH : upd _ p _ = H
        have W := W.newM np hH
        refine ⟨_, rfl, I, _, b, g, 3, rfl, W.swap, ok, by decide, fun H g r W ok r0 r1 => ?_⟩
        obtain rfl | rfl | rfl : r = 0 ∨ r = 1 ∨ r = 2 := by omega
        · exact ⟨p, _, 0, .int 0, rfl, rfl, SqL.of (W.get 1), atI_nat (j := 0) rfl, k _ _ _ W.swap.drop ok (by decide) (by decide)⟩
        · exact ⟨p, _, 1, .int 1, rfl, rfl, SqL.of (W.get 1), atI_nat (j := 1) rfl, k _ _ _ W.swap.drop ok (by decide) (by decide)⟩
        · exact ⟨p, _, 2, .int (-1), rfl, rfl, SqL.of (W.get 1), atI_nat (j := 2) rfl, k _ _ _ W.swap.drop ok (by decide) (by decide)⟩
      · refine ⟨_, rfl, I, M, b, g, 41, rfl, W, ok, by decide, fun H g r W ok r0 r1 => ⟨_, _, rfl, rfl, ?_⟩⟩
        exact k _ _ _ W ok (by omega) (by omega)
end

end Hd
namespace Hd
open PySem PySem.Spec PyProof.Rows L2 Lg Pu
/-! ### looks at lists of ints -/
def sp_is_int : Sp := fun vs H Q _ => ∃ i : Int, vs = [.int i] ∧ Q (.bl true) H
section
variable {P : Program} {w : World} {K : PySem.W.Frag} {mg : Str → Option Value} {base : Heap}
theorem ok_is_int (T : Tx K mg) : Ok P w K mg base CX0 1 "_law_is_int" P_l_is_int sp_is_int := by
  refine mkOk0 T.d_l_is_int T.g_l_is_int sc_l_is_int (fun _ _ _ _ _ _ us hl => match us, hl with | [_], _ => rfl) (fun vs H Q E h => ?_) (fun cdv A outer s H vs Q E hr h => ?_)
  · obtain ⟨i, rfl, _⟩ := h
    rfl
  · obtain ⟨i, rfl, k⟩ := h
    refine ⟨_, (pss_one (ps_ret (pe_and (pe_callB (kisi K) (by rfl) T.f_isinstance (by decide +kernel) (pa_cons (pv 0) (pa_cons (pe_bltn (v := .ty "int") (by rfl) T.f_int (by decide +kernel) rfl) pa_nil))) (pe_one (pe_not (pe_callB (kisi K) (by rfl) T.f_isinstance (by decide +kernel) (pa_cons (pv 0) (pa_cons (pe_bltn (v := .ty "bool") (by rfl) T.f_bool (by decide +kernel) rfl) pa_nil)))))))), ?_⟩
    exact ⟨_, rfl, .int i, .ty "int", .type "int", .type "int", true, rfl, .ty "int", .base (.int i), kit_ty (by decide +kernel), true, rfl, _, rfl, .int i, .ty "bool", .type "int", .type "bool", false, rfl, .ty "bool", .base (.int i), kit_ty (by decide +kernel), false, rfl, k⟩
end

end Hd
namespace Hd
open PySem PySem.Spec PyProof.Rows L2 Lg Pu
/-! ### a look at lists of texts -/
def sp_texts : Sp := fun vs H Q _ => ∃ (a b : Addr) (xs ys : List Str), vs = [.ref a, .ref b] ∧ H a = some (.lst (xs.map V.str)) ∧ H b = some (.lst (ys.map V.str)) ∧ xs.length ≤ 10000 ∧ (∀ x ∈ xs, PyData.strOk x = true) ∧ (∀ x ∈ ys, PyData.strOk x = true) ∧
  ∀ H' : Hp, Sub H H' → Q (.bl (decide (xs = ys))) H'
section
variable {P : Program} {w : World} {K : PySem.W.Frag} {mg : Str → Option Value} {base : Heap}
theorem ok_texts (T : Tx K mg) : Ok P w K mg base CX0 1 "_law_texts" P_l_texts sp_texts := by
  refine mkOk0 T.d_l_texts T.g_l_texts sc_l_texts (fun _ _ _ _ _ _ us hl => match us, hl with | [_, _], _ => rfl) (fun vs H Q E h => ?_) (fun cdv A outer s H vs Q E hr h => ?_)
  · obtain ⟨a, b, xs, ys, rfl, _⟩ := h
    rfl
  · obtain ⟨a, b, xs, ys, rfl, ha, hb, hn, ox, oy, k⟩ := h
    have W := Wd.start H
    refine ⟨_, (pss_cons (ps_if (PW.pt (pw_or (pt_not (pt_val (pe_callB (kisi K) (by rfl) T.f_isinstance (by decide +kernel) (pa_cons (pv 0) (pa_cons (pe_bltn (v := .ty "list") (by rfl) T.f_list (by decide +kernel) rfl) pa_nil))))) (pw_or1 (pt_cmpR op_ne (pe_callB (klen K) (by rfl) T.f_len (by decide +kernel) (pa_cons (pv 0) pa_nil)) (pe_callB (klen K) (by rfl) T.f_len (by decide +kernel) (pa_cons (pv 1) pa_nil)) (nomark _))))) (pss_one (ps_ret pe_bl)) pss_nil)
      (pss_one (ps_ret (pe_and (pe_callB (kall K rfl) (by rfl) T.f_all (by decide +kernel) (pa_cons (pe_lc (own := [("_law_one", 2)]) rfl sc_l_texts.nd (kpi_list K (pv 0)) (blkOk_by (own := [("_law_one", 2)]) (N := N_l_texts) (sc := defScope s_l_texts) (by decide +kernel)) (fun _ _ _ _ _ => (pg_name (i := 2) sc_l_texts.nd rfl (.inl rfl))) (fun _ _ _ _ _ => pts_nil) (fun _ _ _ _ _ => (pe_callB (kisi K) (by rfl) T.f_isinstance (by decide +kernel) (pa_cons (pv 2) (pa_cons (pe_bltn (v := .ty "str") (by rfl) T.f_str (by decide +kernel) rfl) pa_nil))))) pa_nil)) (pe_one (pe_cmpR (keqD K hr.units) (pv 0) (pv 1) (nomark _))))))), ?_⟩
    refine ⟨_, rfl, .ref a, .ty "list", .type "list", .type "list", true, rfl, .ty "list", .base (.lst ha), kit_ty (by decide +kernel), true, rfl, _, rfl, a, _, rfl, .inl (W.l ha), _, rfl, b, _, rfl, .inl (W.l hb), rfl, _, rfl, ite2 (fun h1 => ?_) (fun h1 => ?_)⟩
    · have ne : xs ≠ ys := fun e => by
        subst e
        simp at h1
      have k := k H (Sub.refl H)
      rw [decide_eq_false ne] at k
      exact k
    · refine ⟨_, rfl, a, rfl, ⟨_, W.l ha⟩, lcW (ItS.list (SqL.of ha)) W (fun i acc _ N => N = [] ∧ acc = (List.replicate i true).map V.bl) ⟨rfl, rfl⟩ ?_ ?_⟩
      · rintro D i acc J0 N x J1 H hi e0 ⟨hN, rfl⟩ l e1 W y
        rw [hN] at W
        have y : (xs.map V.str)[i]? = some x := y
        rw [List.getElem?_map] at y
        obtain ⟨z, hz, rfl⟩ := Option.map_eq_some_iff.mp y
        rw [List.length_map] at hi
        refine ⟨rfl, _, rfl, .str z, .ty "str", .type "str", .type "str", true, rfl, .ty "str", .base (.str z), kit_ty (by decide +kernel), lc_yes (e0.trans e1) W l (by omega) ⟨rfl, ?_⟩⟩
        rw [List.replicate_succ', List.map_append]
        rfl
      · rintro D acc J1 N H e1 W ⟨hN, rfl⟩
        rw [hN] at W
        obtain ⟨J2, e2, hD, W⟩ := W.fz
        refine ⟨D, _, rfl, W.l hD, true, by simp, _, rfl, _, rfl, _, _, dp_strs (W.l (e2 _ _ (e1 _ _ ha))), dp_strs (W.l (e2 _ _ (e1 _ _ hb))), shaped_strs ox, shaped_strs oy, ?_⟩
        rw [eqv_str]
        exact k H (W.up (e1.trans e2))
end

end Hd
namespace Hd
open PySem PySem.Spec PyProof.Rows L2 Lg Pu
/-! ### names: plain facts of texts -/
open TL in
/-- a text of 1 to 12 small letters -/
structure Nm (t : Str) : Prop where
  lo : 1 ≤ (TL.tl t).length
  hi : (TL.tl t).length ≤ 12
  ab : ∀ c ∈ TL.tl t, 97 ≤ c ∧ c ≤ 122
theorem tl_len (t : Str) : (TL.tl t).length = t.length := Array.length_toList
theorem Nm.len {t : Str} (h : Nm t) : t.length ≤ 12 := by rw [← tl_len]; exact h.hi
theorem Nm.ok {t : Str} (h : Nm t) : PyData.strOk t = true := by
  unfold PyData.strOk
  refine Array.all_eq_true'.mpr fun c hc => ?_
  have q := h.ab c (Array.mem_toList_iff.mpr hc)
  simp only [Bool.and_eq_true, decide_eq_true_eq]
  omega
def letters : List Nat := TL.tl ("abcdefghijklmnopqrstuvwxyz" : Str)
theorem mem_letters {c : Nat} : c ∈ letters ↔ 97 ≤ c ∧ c ≤ 122 := by
  have e : letters = (List.range 26).map (97 + ·) := by decide
  rw [e, List.mem_map]
  constructor
  · rintro ⟨a, h, rfl⟩
    have := List.mem_range.mp h
    omega
  · intro h
    exact ⟨c - 97, List.mem_range.mpr (by omega), by omega⟩
/-- what is_name answers -/
def isName (t : Str) : Bool := decide (1 ≤ t.length) && (decide (t.length ≤ 12) && (TL.tl t).all fun c => decide (c ∈ letters))
theorem isName_iff (t : Str) : isName t = true ↔ Nm t := by
  unfold isName
  simp only [Bool.and_eq_true, decide_eq_true_eq, List.all_eq_true]
  constructor
  · rintro ⟨h1, h2, h3⟩
    exact ⟨by rw [tl_len]; exact h1, by rw [tl_len]; exact h2, fun c hc => mem_letters.mp (h3 c hc)⟩
  · rintro ⟨h1, h2, h3⟩
    exact ⟨by rw [← tl_len]; exact h1, by rw [← tl_len]; exact h2, fun c hc => mem_letters.mpr (h3 c hc)⟩
theorem tl_one (c : Nat) : TL.tl ⟨#[c]⟩ = [c] := rfl
theorem tl_inj {x y : Str} (h : TL.tl x = TL.tl y) : x = y := by
  cases x
  cases y
  congr 1
  exact Array.toList_inj.mp h
theorem tl_cut_to (z : Str) (n : Nat) : TL.tl (cutS z none (some (n : Int))) = (TL.tl z).take n := by
  unfold cutS
  rw [HT.sIx_none, HT.sIx_nat]
  show (((TL.tl z).drop 0).take (min n z.length - 0)) = _
  rw [List.drop_zero, Nat.sub_zero, ← tl_len]
  by_cases h : n ≤ (TL.tl z).length
  · rw [Nat.min_eq_left h]
  · rw [Nat.min_eq_right (by omega), List.take_length, List.take_of_length_le (by omega)]
theorem tl_cut_from (z : Str) (n : Nat) : TL.tl (cutS z (some (n : Int)) none) = (TL.tl z).drop n := by
  unfold cutS
  rw [HT.sIx_none, HT.sIx_nat]
  show (((TL.tl z).drop (min n z.length)).take (z.length - min n z.length)) = _
  rw [← tl_len]
  by_cases h : n ≤ (TL.tl z).length
  · rw [Nat.min_eq_left h, List.take_of_length_le (by rw [List.length_drop]; omega)]
  · rw [Nat.min_eq_right (by omega), List.drop_length, List.drop_of_length_le (by omega)]
    simp
theorem tl_join0 (ys : List Str) : TL.tl (Txt.join ("" : Str) ys) = (ys.map TL.tl).flatten := by
  rw [TL.join_eq, TL.tl_join]
  show TL.joinL [] (ys.map TL.tl) = _
  generalize ys.map TL.tl = l
  induction l with
  | nil => rfl
  | cons p r ih =>
    cases r with
    | nil => simp [TL.joinL]
    | cons q r =>
      show p ++ ([] ++ TL.joinL [] (q :: r)) = p ++ (q :: r).flatten
      rw [ih]
      rfl
theorem foldl_app (l : List (Array Nat)) : ∀ acc : Array Nat, (l.foldl (· ++ ·) acc).toList = acc.toList ++ (l.map Array.toList).flatten := by
  induction l with
  | nil => intro acc; simp
  | cons x r ih =>
    intro acc
    rw [List.foldl_cons, ih]
    simp
theorem tl_rep (x : Str) (n : Nat) : TL.tl (Ox.repS x (n : Int)) = (List.replicate n (TL.tl x)).flatten := by
  unfold Ox.repS
  by_cases h : (n : Int) < 1
  · have e : n = 0 := by omega
    subst e
    rw [if_pos h]
    rfl
  rw [if_neg h]
  by_cases h2 : ((n : Int) == 1 || x.length == 0) = true
  · rw [if_pos h2]
    rw [Bool.or_eq_true] at h2
    rcases h2 with h2 | h2
    · have e : n = 1 := by
        have := of_decide_eq_true h2
        omega
      subst e
      simp
    · have e : TL.tl x = [] := List.eq_nil_of_length_eq_zero (by rw [tl_len]; exact of_decide_eq_true h2)
      rw [e]
      simp
  · rw [if_neg h2, Int.toNat_natCast]
    show (((List.replicate n x.cps).foldl (· ++ ·) #[])).toList = _
    rw [foldl_app]
    simp [List.map_replicate]
theorem len_add (x y : Str) : (x ++ y).length = x.length + y.length := PySem.Str.length_append x y
theorem nodup_le {α : Type} [DecidableEq α] : ∀ {l m : List α}, l.Nodup → (∀ x ∈ l, x ∈ m) → l.length ≤ m.length
  | [], _, _, _ => Nat.zero_le _
  | x :: l, m, nd, h => by
    have nd' := List.nodup_cons.mp nd
    have hx : x ∈ m := h x (List.mem_cons_self ..)
    have ih := nodup_le (l := l) (m := m.erase x) nd'.2 fun y hy => (List.mem_erase_of_ne (show y ≠ x from fun e => nd'.1 (by rw [← e]; exact hy))).mpr (h y (List.mem_cons_of_mem _ hy))
    rw [List.length_erase_of_mem hx] at ih
    have := List.length_pos_of_mem hx
    rw [List.length_cons]
    omega
/-- the twelve variants of a name -/
def variants (nm : Str) : List Str := (TL.tl ("abcdefghijkl" : Str)).map fun c => cutS nm none (some ((3 : Nat) : Int)) ++ ⟨#[c]⟩
theorem variants_nm {nm : Str} (h : Nm nm) : ∀ x ∈ variants nm, Nm x := by
  intro x hx
  obtain ⟨c, hc, rfl⟩ := List.mem_map.mp hx
  have e : TL.tl (cutS nm none (some ((3 : Nat) : Int)) ++ ⟨#[c]⟩) = (TL.tl nm).take 3 ++ [c] := by rw [TL.tl_append, tl_cut_to]
  have lc : 97 ≤ c ∧ c ≤ 122 := by
    have : c ∈ letters := by
      revert hc
      exact (by decide : ∀ c ∈ TL.tl ("abcdefghijkl" : Str), c ∈ letters) c
    exact mem_letters.mp this
  refine ⟨?_, ?_, fun d hd => ?_⟩
  · rw [e, List.length_append, List.length_singleton]
    omega
  · rw [e, List.length_append, List.length_singleton, List.length_take]
    omega
  · rw [e] at hd
    rcases List.mem_append.mp hd with hd | hd
    · exact h.ab d (List.mem_of_mem_take hd)
    · rcases List.mem_singleton.mp hd with rfl
      exact lc
theorem variants_nodup (nm : Str) : (variants nm).Nodup := by
  unfold variants
  have nd : (TL.tl ("abcdefghijkl" : Str)).Nodup := by decide
  revert nd
  generalize TL.tl ("abcdefghijkl" : Str) = l
  intro nd
  induction l with
  | nil => exact List.nodup_nil
  | cons c r ih =>
    obtain ⟨n1, n2⟩ := List.nodup_cons.mp nd
    rw [List.map_cons]
    refine List.nodup_cons.mpr ⟨fun h => ?_, ih n2⟩
    obtain ⟨d, hd, e⟩ := List.mem_map.mp h
    have q := congrArg TL.tl e
    rw [TL.tl_append, TL.tl_append] at q
    have q2 : [d] = [c] := List.append_cancel_left q
    cases q2
    exact n1 hd
theorem variants_len (nm : Str) : (variants nm).length = 12 := by
  unfold variants
  rw [List.length_map]
  decide
/-- the word that no draw gives -/
def zy : Str := "zyzyzyzyzyzy"
theorem zy_nm : Nm zy := ⟨by decide, by decide, by
  intro c hc
  exact mem_letters.mp ((by decide : ∀ c ∈ TL.tl zy, c ∈ letters) c hc)⟩
theorem zy_no {x : Str} (h : (TL.tl x).length ≤ 4) : x ≠ zy := fun e => by
  rw [e] at h
  exact absurd h (by decide)
theorem variants_zy {nm : Str} : ∀ x ∈ variants nm, x ≠ zy := by
  intro x hx
  obtain ⟨c, hc, rfl⟩ := List.mem_map.mp hx
  refine zy_no ?_
  rw [TL.tl_append, tl_cut_to, List.length_append, List.length_take]
  show min 3 _ + 1 ≤ 4
  omega
/-- one of the pool is none of the names -/
theorem pool_some {nm : Str} {ns : List Str} (h : Nm nm) (hz : nm ≠ zy) (few : ns.length ≤ 11) : ∃ r rest, (nm :: variants nm).filter (fun x => decide (x ∉ ns)) = r :: rest ∧ Nm r ∧ r ∉ ns ∧ r ≠ zy := by
  cases e : (nm :: variants nm).filter (fun x => decide (x ∉ ns)) with
  | nil =>
    refine absurd (nodup_le (variants_nodup nm) (m := ns) fun x hx => ?_) (by rw [variants_len]; omega)
    by_cases q : x ∈ ns
    · exact q
    · have : x ∈ (nm :: variants nm).filter (fun x => decide (x ∉ ns)) := List.mem_filter.mpr ⟨List.mem_cons_of_mem _ hx, decide_eq_true q⟩
      rw [e] at this
      cases this
  | cons r rest =>
    have m : r ∈ (nm :: variants nm).filter (fun x => decide (x ∉ ns)) := by rw [e]; exact List.mem_cons_self ..
    obtain ⟨m1, m2⟩ := List.mem_filter.mp m
    refine ⟨r, rest, rfl, ?_, of_decide_eq_true m2, ?_⟩
    · rcases List.mem_cons.mp m1 with rfl | m1
      · exact h
      · exact variants_nm h r m1
    · rcases List.mem_cons.mp m1 with rfl | m1
      · exact hz
      · exact variants_zy r m1
theorem inV_str (z : Str) : ∀ l : List Str, inV (.str z) (l.map V.str) = decide (z ∈ l)
  | [] => by simp [inV]
  | x :: l => by
    have ih := inV_str z l
    unfold inV at ih ⊢
    rw [List.map_cons, List.any_cons, ih]
    by_cases h : z = x
    · subst h
      simp [eqV]
    · simp [eqV, h, Ne.symm h]
theorem flat_strs (l : List Str) : (l.map V.str).all flatV = true := by
  rw [List.all_eq_true]
  intro v hv
  obtain ⟨z, _, rfl⟩ := List.mem_map.mp hv
  rfl
/-- a list that is known for good, or that may change -/
def Ls (K : PySem.W.Frag) (I : Hp) (M : Md) (a : Addr) (xs : List V) : Prop := SqL K I a xs ∨ (a, HO.lst xs) ∈ M
theorem Ls.sq {K : PySem.W.Frag} {H I J : Hp} {M N : Md} {a : Addr} {xs : List V} (h : Ls K I M a xs) (W : Wd H J N) (e : Sub I J) (s : ∀ c ∈ M, c ∈ N) : SqL K H a xs := by
  rcases h with h | h
  · exact W.sl (e.sl h)
  · exact SqL.of (W.mu _ (s _ h)).1
theorem Ls.up {K : PySem.W.Frag} {I J : Hp} {M N : Md} {a : Addr} {xs : List V} (h : Ls K I M a xs) (e : Sub I J) (s : ∀ c ∈ M, c ∈ N) : Ls K J N a xs := h.imp e.sl (s _)

end Hd
namespace Hd
open PySem PySem.Spec PyProof.Rows L2 Lg Pu
/-! ### names: the looks and the draws -/
def sp_is_name : Sp := fun vs H Q _ => ∃ t : Str, vs = [.str t] ∧ t.length ≤ sizeLine ∧ ∀ H', Sub H H' → Q (.bl (isName t)) H'
section
variable {P : Program} {w : World} {K : PySem.W.Frag} {mg : Str → Option Value} {base : Heap}
theorem ok_is_name (T : Tx K mg) : Ok P w K mg base CX0 1 "is_name" P_is_name sp_is_name := by
  refine mkOk0 T.d_is_name T.g_is_name sc_is_name (fun _ _ _ _ _ _ us hl => match us, hl with | [_], _ => rfl) (fun vs H Q E h => ?_) (fun cdv A outer s H vs Q E hr h => ?_)
  · obtain ⟨t, rfl, _⟩ := h
    rfl
  · obtain ⟨t, rfl, hl, k⟩ := h
    refine ⟨_, (pss_cons (ps_if (PW.pt (pw_or (pt_cmpR op_lt (pe_callB call_len_str (by rfl) T.f_len (by decide +kernel) (pa_cons (pv 0) pa_nil)) pe_int (nomark _)) (pw_or1 (pt_cmpR op_gt (pe_callB call_len_str (by rfl) T.f_len (by decide +kernel) (pa_cons (pv 0) pa_nil)) (pe_glob (v := .int (12)) (by rfl) T.i_MOST_LETTERS.choose_spec ⟨_, rfl⟩) (nomark _))))) (pss_one (ps_ret pe_bl)) pss_nil)
      (pss_cons (ps_for PassesOwn.never rfl (pi_str (pv 0)) (pg_name (i := 1) sc_is_name.nd rfl (.inl rfl)) (pss_one (ps_if (pt_cmpR op_notIn_sign (pv 1) (pe_glob (v := .str "abcdefghijklmnopqrstuvwxyz") (by rfl) T.i_LETTERS.choose_spec ⟨_, rfl⟩) (by rfl)) (pss_one (ps_ret pe_bl)) pss_nil)))
      (pss_one (ps_ret pe_bl)))), ?_⟩
    refine ⟨_, rfl, t, rfl, hl, _, _, rfl, rfl, _, rfl, ite2 (fun h1 => ?_) (fun h1 => ?_)⟩
    · have h1 := of_decide_eq_true h1
      have e : isName t = false := by
        unfold isName
        rw [decide_eq_false (by omega)]
        rfl
      rw [e] at k
      exact k _ (Sub.refl _)
    refine ⟨_, rfl, t, rfl, hl, _, _, rfl, rfl, _, rfl, ite2 (fun h2 => ?_) (fun h2 => ?_)⟩
    · have h2 := of_decide_eq_true h2
      have e : isName t = false := by
        unfold isName
        rw [decide_eq_false (p := t.length ≤ 12) (by omega)]
        simp
      rw [e] at k
      exact k _ (Sub.refl _)
    have h1 : ¬ ((t.length : Int) < 1) := fun q => h1 (decide_eq_true q)
    have h2 : ¬ ((t.length : Int) > 12) := fun q => h2 (decide_eq_true q)
    have W := Wd.start H
    refine ⟨_, rfl, t, rfl, forW ItS.str W (fun i σ J N => (∃ s1, σ = [some (.str t), s1]) ∧ ((TL.tl t).take i).all (fun c => decide (c ∈ letters)) = true) ⟨⟨_, rfl⟩, rfl⟩ ?_ ?_⟩
    · rintro i σ J0 N x J H1 hi e0 ⟨⟨s1, rfl⟩, all⟩ e1 W ⟨c, hc, rfl⟩
      have hc : (TL.tl t)[i]? = some c := hc
      refine ⟨_, rfl, c, ("abcdefghijklmnopqrstuvwxyz" : Str), rfl, rfl, _, rfl, ite2 (fun h3 => ?_) (fun h3 => ?_)⟩
      · have e : isName t = false := by
          unfold isName
          have q : ((TL.tl t).all fun c => decide (c ∈ letters)) = false := by
            rw [List.all_eq_false]
            refine ⟨c, List.mem_of_getElem? hc, ?_⟩
            have z : (!decide (c ∈ letters)) = true := h3
            simpa using z
          rw [q]
          simp
        rw [e] at k
        exact k _ (W.subN (e0.trans e1))
      · have z : decide (c ∈ letters) = true := by
          have z : ¬ (!decide (c ∈ letters)) = true := h3
          simpa using z
        refine ⟨J, N, e0.trans e1, W, ⟨_, rfl⟩, ?_⟩
        rw [List.take_add_one, hc, List.all_append, all]
        simp [z]
    · rintro σ J N H1 e0 W ⟨⟨s1, rfl⟩, all⟩
      have e : isName t = true := by
        unfold isName
        rw [List.take_length] at all
        rw [decide_eq_true (by omega), decide_eq_true (p := t.length ≤ 12) (by omega), all]
        rfl
      rw [e] at k
      exact k _ (W.subN e0)
/-- one more name, none of those that are there -/
def sp_name (K : PySem.W.Frag) : Sp := fun vs H Q _ => ∃ (I : Hp) (M : Md) (b a : Addr) (g : Bg) (ns : List Str), vs = [.ref b, .ref a] ∧ Wd H I ((b, g.o) :: M) ∧ g.Ok I ∧ Ls K I M a (ns.map V.str) ∧ ns.length ≤ 11 ∧
  ∀ (H' J : Hp) (g' : Bg) (r : Str), Sub I J → Wd H' J ((b, g'.o) :: M) → g'.Ok J → Nm r → r ∉ ns → r ≠ zy → Q (.str r) H'
theorem qw_letters : ∀ c ∈ TL.tl ("qwertyuiopasdfghjklzxcvbnm" : Str), 97 ≤ c ∧ c ≤ 122 := by
  intro c hc
  exact mem_letters.mp ((by decide : ∀ c ∈ TL.tl ("qwertyuiopasdfghjklzxcvbnm" : Str), c ∈ letters) c hc)
theorem qw_at {i : Int} (h0 : 0 ≤ i) (h1 : i < 26) : ∃ c, atI ("qwertyuiopasdfghjklzxcvbnm" : Str).cps.toList i = some c ∧ (97 ≤ c ∧ c ≤ 122) := by
  have l : (TL.tl ("qwertyuiopasdfghjklzxcvbnm" : Str)).length = 26 := by decide
  have h : i.toNat < (TL.tl ("qwertyuiopasdfghjklzxcvbnm" : Str)).length := by omega
  refine ⟨(TL.tl ("qwertyuiopasdfghjklzxcvbnm" : Str))[i.toNat], ?_, qw_letters _ (List.getElem_mem h)⟩
  have e : ((i.toNat : Nat) : Int) = i := by omega
  have q := atI_nat (xs := TL.tl ("qwertyuiopasdfghjklzxcvbnm" : Str)) (j := i.toNat) (List.getElem?_eq_getElem h)
  rw [e] at q
  exact q
theorem ok_name (T : Tx K mg) (G_l_take : Ok P w K mg base CX0 2 "_law_take" P_l_take sp_take) : Ok P w K mg base CX0 3 "_law_name" P_l_name (sp_name K) := by
  obtain ⟨fd_l_take, G_l_take, b_l_take, g_l_take, k_l_take⟩ := G_l_take
  refine mkOk0 T.d_l_name T.g_l_name sc_l_name (fun _ _ _ _ _ _ us hl => match us, hl with | [_, _], _ => rfl) (fun vs H Q E h => ?_) (fun cdv A outer s H vs Q E hr h => ?_)
  · obtain ⟨I, M, b, a, g, ns, rfl, _⟩ := h
    rfl
  · obtain ⟨I, M, b, a, g, ns, rfl, W, ok, hls, hns, k⟩ := h
    refine ⟨_, (pss_cons (ps_set (i := 2) sc_l_name.nd rfl (.inl rfl) pe_str)
      (pss_cons (ps_set (i := 3) sc_l_name.nd rfl (.inl rfl) (pe_call G_l_take (hr.mono (by decide)) (by rfl) g_l_take k_l_take b_l_take .nil pass0 (pa_cons (pv 0) (pa_cons (pe_op op_mul (pe_op op_mul (pe_op op_mul pe_int pe_int) pe_int) pe_int) pa_nil))))
      (pss_cons (ps_set (i := 4) sc_l_name.nd rfl (.inl rfl) (pe_lst (pa_cons (pe_ix ix_str (pv 2) (pe_op op_mod (pe_callTy call_int1 (by rfl) T.f_int (by decide +kernel) (pa_cons (pe_op op_fdivW (pv 3) pe_int) pa_nil)) pe_int) (fun _ _ => rfl)) (pa_cons (pe_ix ix_str (pv 2) (pe_op op_mod (pe_callTy call_int1 (by rfl) T.f_int (by decide +kernel) (pa_cons (pe_op op_fdivW (pv 3) pe_int) pa_nil)) pe_int) (fun _ _ => rfl)) (pa_cons (pe_ix ix_str (pv 2) (pe_op op_mod (pe_callTy call_int1 (by rfl) T.f_int (by decide +kernel) (pa_cons (pe_op op_fdivW (pv 3) pe_int) pa_nil)) pe_int) (fun _ _ => rfl)) pa_nil)))))
      (pss_cons (ps_set (i := 5) sc_l_name.nd rfl (.inr rfl) (kbm K PySem.F.plainAttrs_str PySem.F.slot_str_join PySem.F.type_str_join mt_join pe_str (pa_cons (pe_slice (ksl_list K) (pv 4) po_none (po_some (pe_op op_add pe_int (pe_op op_mod (pe_callTy call_int1 (by rfl) T.f_int (by decide +kernel) (pa_cons (pv 3) pa_nil)) pe_int)))) pa_nil)))
      (Evl.pss_cut (ps_if (pt_cmpR op_eq (pe_op op_mod (pe_callTy call_int1 (by rfl) T.f_int (by decide +kernel) (pa_cons (pv 3) pa_nil)) pe_int) pe_int (nomark _)) (pss_one (ps_set (i := 5) sc_l_name.nd rfl (.inr rfl) (pe_slice sl_str (pe_op Ox.op_mul_str (kbm K PySem.F.plainAttrs_str PySem.F.slot_str_join PySem.F.type_str_join mt_join pe_str (pa_cons (pv 4) pa_nil)) pe_int) po_none (po_some pe_int)))) pss_nil)
      (pss_cons (ps_set (i := 6) sc_l_name.nd rfl (.inl rfl) (pe_op op_cat (pe_lst (pa_cons (pv 5) pa_nil)) (pe_lc (own := [("_law_letter", 7)]) rfl sc_l_name.nd (pi_str pe_str) (blkOk_by (own := [("_law_letter", 7)]) (N := N_l_name) (sc := defScope s_l_name) (by decide +kernel)) (fun _ _ _ _ _ => (pg_name (i := 7) sc_l_name.nd rfl (.inl rfl))) (fun _ _ _ _ _ => pts_nil) (fun _ _ _ _ _ => (pe_op op_add_str (pe_slice sl_str (pv 5) po_none (po_some pe_int)) (pv 7))))))
      (pss_one (ps_ret (pe_ix (kix_list K) (pe_lc (own := [("_law_one", 8)]) rfl sc_l_name.nd (kpi_list K (pv 6)) (blkOk_by (own := [("_law_one", 8)]) (N := N_l_name) (sc := defScope s_l_name) (by decide +kernel)) (fun _ _ _ _ _ => (pg_name (i := 8) sc_l_name.nd rfl (.inl rfl))) (fun _ _ _ _ _ => (pts_one (pt_cmpR (knotin K) (pv 8) (pv 1) (by rfl)))) (fun _ _ _ _ _ => (pv 8))) pe_int (fun _ _ => rfl)))))))))), ?_⟩
    refine ⟨_, rfl, _, _, rfl, rfl, .inl ⟨by decide, by decide⟩, _, _, rfl, rfl, .inl ⟨by decide, by decide⟩, _, _, rfl, rfl, .inl ⟨by decide, by decide⟩, I, M, b, g, _, rfl, W, ok, by decide, fun H g n W ok n0 n1 => ?_⟩
    -- the row
    refine ⟨_, rfl, _, rfl, _, _, rfl, rfl, cDivW (by decide) (by decide), .inl ⟨_, rfl, _, _, rfl, rfl, (by show (0 : Int) < 26; decide), ?_⟩⟩
    obtain ⟨c1, hc1, lc1⟩ := qw_at (i := n / 8 % 26) (Int.emod_nonneg _ (by decide)) (Int.emod_lt_of_pos _ (by decide))
    refine ⟨_, _, c1, rfl, rfl, (by decide), hc1, ?_⟩
    refine ⟨_, rfl, _, rfl, _, _, rfl, rfl, cDivW (by decide) (by decide), .inl ⟨_, rfl, _, _, rfl, rfl, (by show (0 : Int) < 26; decide), ?_⟩⟩
    obtain ⟨c2, hc2, lc2⟩ := qw_at (i := n / 208 % 26) (Int.emod_nonneg _ (by decide)) (Int.emod_lt_of_pos _ (by decide))
    refine ⟨_, _, c2, rfl, rfl, (by decide), hc2, ?_⟩
    refine ⟨_, rfl, _, rfl, _, _, rfl, rfl, cDivW (by decide) (by decide), .inl ⟨_, rfl, _, _, rfl, rfl, (by show (0 : Int) < 26; decide), ?_⟩⟩
    obtain ⟨c3, hc3, lc3⟩ := qw_at (i := n / 5408 % 26) (Int.emod_nonneg _ (by decide)) (Int.emod_lt_of_pos _ (by decide))
    refine ⟨_, _, c3, rfl, rfl, (by decide), hc3, (by show 3 ≤ sizeLine; decide), fun r nr => ?_⟩
    generalize hH : upd _ r _ = H
    obtain ⟨J1, e1, hr1, W⟩ := W.new nr hH
    have ok := ok.mono e1
    -- the name
    refine ⟨rfl, _, rfl, _, rfl, .inl ⟨_, rfl, _, _, rfl, rfl, (by show (0 : Int) < 4; decide), _, _, rfl, rfl, _, rfl, r, _, rfl, W.l hr1, fun q nq => ?_⟩⟩
    obtain ⟨m, hm⟩ : ∃ m : Nat, 1 + n % 4 = (m : Int) ∧ 1 ≤ m ∧ m ≤ 4 := ⟨(1 + n % 4).toNat, by omega, by omega, by omega⟩
    rw [hm.1, cut_to]
    generalize hH : upd _ q _ = H
    obtain ⟨J2, e2, hq, W⟩ := W.new nq hH
    have ok := ok.mono e2
    have hq : J2 q = some (.lst ((([⟨#[c1]⟩, ⟨#[c2]⟩, ⟨#[c3]⟩] : List Str).take m).map V.str)) := by
      rw [hq, List.map_take]
      rfl
    have sz1 : ∀ l : List Str, (∀ x ∈ l, x.length ≤ 1) → l.length ≤ 4 → (l.map (·.length)).sum + l.length * ("" : Str).length ≤ 16777216 := by
      intro l h1 h2
      have e0 : ("" : Str).length = 0 := rfl
      rw [e0, Nat.mul_zero, Nat.add_zero]
      have : (l.map (·.length)).sum ≤ l.length := by
        clear h2
        induction l with
        | nil => exact Nat.le_refl _
        | cons x r ih =>
          have a1 := h1 x (List.mem_cons_self ..)
          have a2 := ih fun y hy => h1 y (List.mem_cons_of_mem _ hy)
          rw [List.map_cons, List.sum_cons, List.length_cons]
          omega
      omega
    have one : ∀ x ∈ ([⟨#[c1]⟩, ⟨#[c2]⟩, ⟨#[c3]⟩] : List Str), x.length ≤ 1 := by
      intro x hx
      simp only [List.mem_cons, List.not_mem_nil, or_false] at hx
      rcases hx with rfl | rfl | rfl <;> exact Nat.le_refl 1
    refine ⟨("" : Str), q, _, rfl, rfl, .inl (W.l hq), sz1 _ (fun x hx => one x (List.mem_of_mem_take hx)) (by rw [List.length_take]; exact Nat.le_trans (Nat.min_le_right ..) (show 3 ≤ 4 by decide)), ?_⟩
    have nm1 : Nm (Txt.join ("" : Str) (([⟨#[c1]⟩, ⟨#[c2]⟩, ⟨#[c3]⟩] : List Str).take m)) := by
      have e : TL.tl (Txt.join ("" : Str) (([⟨#[c1]⟩, ⟨#[c2]⟩, ⟨#[c3]⟩] : List Str).take m)) = [c1, c2, c3].take m := by
        rw [tl_join0]
        obtain h | h | h | h : m = 1 ∨ m = 2 ∨ m = 3 ∨ m = 4 := by omega
        all_goals
          rw [h]
          rfl
      refine ⟨?_, ?_, fun c hc => ?_⟩
      · rw [e, List.length_take]
        show 1 ≤ min m 3
        omega
      · rw [e, List.length_take]
        show min m 3 ≤ 12
        omega
      · rw [e] at hc
        have hc := List.mem_of_mem_take hc
        simp only [List.mem_cons, List.not_mem_nil, or_false] at hc
        rcases hc with rfl | rfl | rfl <;> assumption
    have nz1 : Txt.join ("" : Str) (([⟨#[c1]⟩, ⟨#[c2]⟩, ⟨#[c3]⟩] : List Str).take m) ≠ zy := by
      refine zy_no ?_
      rw [tl_join0]
      obtain h | h | h | h : m = 1 ∨ m = 2 ∨ m = 3 ∨ m = 4 := by omega
      · rw [h]; show 1 ≤ 4; decide
      · rw [h]; show 2 ≤ 4; decide
      · rw [h]; show 3 ≤ 4; decide
      · rw [h]; show 3 ≤ 4; decide
    revert nm1 nz1
    generalize Txt.join ("" : Str) (([⟨#[c1]⟩, ⟨#[c2]⟩, ⟨#[c3]⟩] : List Str).take m) = nm
    intro nm1 nz1
    have hr2 := e2 _ _ hr1
    have hr2 : J2 r = some (.lst (([⟨#[c1]⟩, ⟨#[c2]⟩, ⟨#[c3]⟩] : List Str).map V.str)) := hr2
    refine ⟨fun σ' H' => ∃ nm : Str, (Nm nm ∧ nm ≠ zy) ∧ σ' = [some (.ref b), some (.ref a), some (.str "qwertyuiopasdfghjklzxcvbnm"), some (.int n), some (.ref r), some (.str nm), none, none, none] ∧ Wd H' J2 ((b, g.o) :: M), ?_, ?_⟩
    · refine ⟨_, rfl, .inl ⟨_, rfl, _, _, rfl, rfl, (by show (0 : Int) < 8; decide), rfl, _, rfl, ite2 (fun h1 => ?_) (fun h1 => ⟨nm, ⟨nm1, nz1⟩, rfl, W⟩)⟩⟩
      refine ⟨rfl, _, rfl, ("" : Str), r, _, rfl, rfl, .inl (W.l hr2), sz1 _ one (show 3 ≤ 4 by decide), ?_⟩
      have e3 : TL.tl (Txt.join ("" : Str) ([⟨#[c1]⟩, ⟨#[c2]⟩, ⟨#[c3]⟩] : List Str)) = [c1, c2, c3] := by rw [tl_join0]; rfl
      revert e3
      generalize Txt.join ("" : Str) ([⟨#[c1]⟩, ⟨#[c2]⟩, ⟨#[c3]⟩] : List Str) = z
      intro e3
      have l3 : z.length = 3 := by rw [← tl_len, e3]; rfl
      have e12 : TL.tl (Ox.repS z (4 : Int)) = [c1, c2, c3, c1, c2, c3, c1, c2, c3, c1, c2, c3] := by
        have q := tl_rep z 4
        rw [e3] at q
        exact q
      have l12 : (Ox.repS z (4 : Int)).length = 12 := by rw [← tl_len, e12]; rfl
      refine ⟨_, _, rfl, rfl, ⟨by decide, by decide⟩, by omega, sz (by omega), _, rfl, _, rfl, sz (by omega), ?_⟩
      refine ⟨_, ⟨?_, ?_⟩, rfl, W⟩
      rotate_left
      · intro q
        have e : TL.tl (cutS (Ox.repS z (4 : Int)) none (some (12 : Int))) = [c1, c2, c3, c1, c2, c3, c1, c2, c3, c1, c2, c3] := by
          have q := tl_cut_to (Ox.repS z (4 : Int)) 12
          rw [e12] at q
          exact q
        rw [q] at e
        have e : ([122, 121, 122, 121, 122, 121, 122, 121, 122, 121, 122, 121] : List Nat) = [c1, c2, c3, c1, c2, c3, c1, c2, c3, c1, c2, c3] := e
        simp only [List.cons.injEq] at e
        omega
      have e : TL.tl (cutS (Ox.repS z (4 : Int)) none (some (12 : Int))) = [c1, c2, c3, c1, c2, c3, c1, c2, c3, c1, c2, c3] := by
        have q := tl_cut_to (Ox.repS z (4 : Int)) 12
        rw [e12] at q
        exact q
      refine ⟨by rw [e]; show 1 ≤ 12; decide, by rw [e]; show 12 ≤ 12; decide, fun c hc => ?_⟩
      rw [e] at hc
      simp only [List.mem_cons, List.not_mem_nil, or_false] at hc
      rcases hc with rfl | rfl | rfl | rfl | rfl | rfl | rfl | rfl | rfl | rfl | rfl | rfl <;> assumption
    clear nm1 nz1
    rintro σ' H ⟨nm, ⟨nm1, nz1⟩, rfl, W⟩
    -- the pool
    refine ⟨_, rfl, (by show 1 ≤ sizeLine; decide), fun p1 np1 => ?_⟩
    generalize hH : upd _ p1 _ = H
    obtain ⟨J3, e3, hp1, W⟩ := W.new np1 hH
    have ok := ok.mono e3
    refine ⟨_, rfl, lcW ItS.str W (fun i acc _ N => N = (b, g.o) :: M ∧ acc = (((TL.tl ("abcdefghijkl" : Str)).take i).map fun c => V.str (cutS nm none (some ((3 : Nat) : Int)) ++ ⟨#[c]⟩))) ⟨rfl, rfl⟩ ?_ ?_⟩
    · rintro D i acc J0 N x J H hi e0 ⟨hN, rfl⟩ l e1 W ⟨c, hc, rfl⟩
      rw [hN] at W
      have hc : (TL.tl ("abcdefghijkl" : Str))[i]? = some c := hc
      have hi : i < 12 := hi
      refine ⟨rfl, _, rfl, _, rfl, _, rfl, sz (Nat.le_trans nm1.len (by decide)), _, rfl, _, _, rfl, rfl, ?_, lc_yes (e0.trans e1) W l (by omega) ⟨rfl, ?_⟩⟩
      · exact sz (Nat.le_trans (Nat.add_le_add (cutS_length ..) (Nat.le_refl 1)) (by have := nm1.len; omega))
      · rw [List.take_add_one, hc, List.map_append]
        rfl
    rintro D acc J4 N H e4 W ⟨hN, rfl⟩
    rw [hN] at W
    obtain ⟨J5, e5, hD, W⟩ := W.fz
    have ok := ok.mono (e4.trans e5)
    have hD : J5 D = some (.lst ((variants nm).map V.str)) := by
      rw [hD]
      unfold variants
      rw [List.map_map]
      rfl
    have hp1 := e5 _ _ (e4 _ _ hp1)
    refine ⟨p1, D, _, _, rfl, rfl, W.im _ _ hp1, W.im _ _ hD, sz (by rw [List.length_map, variants_len]; show 1 + 12 ≤ 100000; decide), fun p2 np2 => ?_⟩
    generalize hH : upd _ p2 _ = H
    obtain ⟨J6, e6, hp2, W⟩ := W.new np2 hH
    have ok := ok.mono e6
    have hp2 : J6 p2 = some (.lst ((nm :: variants nm).map V.str)) := hp2
    have eA : Sub I J6 := e1.trans (e2.trans (e3.trans (e4.trans (e5.trans e6))))
    have hl6 : Ls K J6 ((b, g.o) :: M) a (ns.map V.str) := hls.up eA fun c hc => List.mem_cons_of_mem _ hc
    refine ⟨_, rfl, p2, rfl, ⟨_, W.l hp2⟩, lcW (ItS.list (SqL.of hp2)) W (fun i acc _ N => N = (b, g.o) :: M ∧ acc = (((nm :: variants nm).take i).filter fun x => decide (x ∉ ns)).map V.str) ⟨rfl, rfl⟩ ?_ ?_⟩
    · rintro D2 i acc J0 N x J H hi e0 ⟨hN, rfl⟩ l e7 W hx
      rw [hN] at W
      have hx : ((nm :: variants nm).map V.str)[i]? = some x := hx
      rw [List.getElem?_map] at hx
      obtain ⟨z, hz, rfl⟩ := Option.map_eq_some_iff.mp hx
      have hi : i < 13 := by
        rw [List.length_map, List.length_cons, variants_len] at hi
        exact hi
      have hs : SqL K H a (ns.map V.str) := hl6.sq W (e0.trans e7) fun c hc => List.mem_append_left _ hc
      refine ⟨rfl, _, rfl, _, rfl, a, _, rfl, .inl hs, rfl, flat_strs ns, _, rfl, ite2 (fun h1 => ?_) (fun h1 => ?_)⟩
      · have nz : z ∉ ns := by
          have h1 : (!inV (.str z) (ns.map V.str)) = true := h1
          rw [inV_str] at h1
          simpa using h1
        refine ⟨_, rfl, lc_yes (e0.trans e7) W l (by omega) ⟨rfl, ?_⟩⟩
        rw [List.take_add_one, hz, List.filter_append, List.map_append]
        simp [nz]
      · have nz : z ∈ ns := by
          have h1 : ¬ (!inV (.str z) (ns.map V.str)) = true := h1
          rw [inV_str] at h1
          simpa using h1
        refine lc_no (e0.trans e7) W l ⟨rfl, ?_⟩
        rw [List.take_add_one, hz, List.filter_append]
        simp [nz]
    · rintro D2 acc J7 N H e7 W ⟨hN, rfl⟩
      rw [hN] at W
      obtain ⟨J8, e8, hD2, W⟩ := W.fz
      obtain ⟨z, rest, ez, nz, mz, zz⟩ := pool_some (ns := ns) nm1 nz1 hns
      rw [List.length_map, List.take_length, ez] at hD2
      exact ⟨D2, _, 0, .str z, rfl, rfl, W.l hD2, atI_nat (j := 0) rfl, k _ _ _ _ (eA.trans (e7.trans e8)) W (ok.mono (e7.trans e8)) nz mz zz⟩
end
section
variable {P : Program} {w : World} {K : PySem.W.Frag} {mg : Str → Option Value} {base : Heap}
def sp_names : Sp := fun vs H Q _ => ∃ (I : Hp) (M : Md) (b : Addr) (g : Bg) (m : Int), vs = [.ref b, .int m] ∧ Wd H I ((b, g.o) :: M) ∧ g.Ok I ∧ 0 ≤ m ∧ m ≤ 12 ∧
  ∀ (H' J : Hp) (g' : Bg) (p : Addr) (ns : List Str), Sub I J → Wd H' J ((b, g'.o) :: (p, .lst (ns.map V.str)) :: M) → g'.Ok J → (ns.length : Int) = m → (∀ x ∈ ns, Nm x) → ns.Nodup → zy ∉ ns → Q (.ref p) H'
theorem ok_names (T : Tx K mg) (G_l_take : Ok P w K mg base CX0 2 "_law_take" P_l_take sp_take) (G_l_name : Ok P w K mg base CX0 3 "_law_name" P_l_name (sp_name K)) : Ok P w K mg base CX0 4 "_law_names" P_l_names sp_names := by
  obtain ⟨fd_l_take, G_l_take, b_l_take, g_l_take, k_l_take⟩ := G_l_take
  obtain ⟨fd_l_name, G_l_name, b_l_name, g_l_name, k_l_name⟩ := G_l_name
  refine mkOk0 T.d_l_names T.g_l_names sc_l_names (fun _ _ _ _ _ _ us hl => match us, hl with | [_, _], _ => rfl) (fun vs H Q E h => ?_) (fun cdv A outer s H vs Q E hr h => ?_)
  · obtain ⟨I, M, b, g, m, rfl, _⟩ := h
    rfl
  · obtain ⟨I, M, b, g, m, rfl, W, ok, m0, m1, k⟩ := h
    refine ⟨_, (pss_cons (ps_set (i := 2) sc_l_names.nd rfl (.inl rfl) (pe_lst pa_nil))
      (pss_cons (ps_for PassesOwn.never rfl (pi_range1 (by rfl) T.f_range (pa_cons (pv 1) pa_nil)) (pg_name (i := 3) sc_l_names.nd rfl (.inl rfl)) (pss_one (ps_expr (kbm K PySem.F.plainAttrs_list PySem.F.slot_list_insert PySem.F.type_list_insert mt_insert (pv 2) (pa_cons (pe_call G_l_take (hr.mono (by decide)) (by rfl) g_l_take k_l_take b_l_take .nil pass0 (pa_cons (pv 0) (pa_cons (pe_op op_add (pe_callB (klen K) (by rfl) T.f_len (by decide +kernel) (pa_cons (pv 2) pa_nil)) pe_int) pa_nil))) (pa_cons (pe_call G_l_name (hr.mono (by decide)) (by rfl) g_l_name k_l_name b_l_name .nil pass0 (pa_cons (pv 0) (pa_cons (pv 2) pa_nil))) pa_nil))))))
      (pss_one (ps_ret (pv 2))))), ?_⟩
    refine ⟨Nat.zero_le _, fun p np => ?_⟩
    generalize hH : upd _ p _ = H
    have W := (W.newM np hH).swap
    refine ⟨_, rfl, m, rfl, by omega, by omega, forW ItS.range W (fun i σ J N => ∃ (g : Bg) (ns : List Str) (s3 : Option V), σ = [some (.ref b), some (.int m), some (.ref p), s3] ∧ N = (b, g.o) :: (p, .lst (ns.map V.str)) :: M ∧ g.Ok J ∧ ns.length = i ∧ (∀ x ∈ ns, Nm x) ∧ ns.Nodup ∧ zy ∉ ns) ⟨g, [], _, rfl, rfl, ok, rfl, (fun _ h => nomatch h), List.nodup_nil, (fun h => nomatch h)⟩ ?_ ?_⟩
    · rintro i σ J0 N x J H hi e0 ⟨g, ns, s3, rfl, hN, ok, hl, nm, nd, zn⟩ e1 W rfl
      rw [hN] at W
      have hi : i < m.toNat := hi
      refine ⟨_, rfl, .inl ⟨rfl, _, SqL.of (W.get 1)⟩, _, rfl, _, rfl, p, _, rfl, .inl (SqL.of (W.get 1)), _, _, rfl, rfl, J, _, b, g, _, rfl, W, ok.mono e1, ?_, fun H g r W ok r0 r1 => ?_⟩
      · rw [List.length_map]
        omega
      rw [List.length_map] at r1
      refine ⟨_, rfl, _, rfl, J, _, b, p, g, ns, rfl, W, ok, .inr (List.mem_cons_self ..), by omega, fun H J1 g z e2 W ok nz mz zz => ?_⟩
      have lp : (ns.map V.str).length < sizeLine := szl (by rw [List.length_map]; omega)
      refine ⟨p, _, r, .str z, rfl, rfl, W.get 1, lp, r0, by omega, wr_at W 1 fun H W => ⟨J1, _, e0.trans (e1.trans e2), W, g, ns.take r.toNat ++ [z] ++ ns.drop r.toNat, _, rfl, ?_, ok, ?_, ?_, ?_, ?_⟩⟩
      · show [(b, g.o), (p, HO.lst _)] ++ M = _
        rw [List.map_append, List.map_append, List.map_take, List.map_drop]
        rfl
      · simp only [List.length_append, List.length_take, List.length_drop, List.length_singleton]
        omega
      · intro x hx
        simp only [List.mem_append, List.mem_singleton] at hx
        rcases hx with (hx | rfl) | hx
        · exact nm x (List.mem_of_mem_take hx)
        · exact nz
        · exact nm x (List.mem_of_mem_drop hx)
      · have pm : (ns.take r.toNat ++ [z] ++ ns.drop r.toNat).Perm (z :: ns) := by
          rw [List.append_assoc, List.singleton_append]
          refine List.perm_middle.trans ?_
          rw [List.take_append_drop]
        exact pm.nodup_iff.mpr (List.nodup_cons.mpr ⟨mz, nd⟩)
      · simp only [List.mem_append, List.mem_singleton]
        rintro ((m | m) | m)
        · exact zn (List.mem_of_mem_take m)
        · exact zz m.symm
        · exact zn (List.mem_of_mem_drop m)
    · rintro σ J N H e0 W ⟨g, ns, s3, rfl, hN, ok, hl, nm, nd, zn⟩
      rw [hN] at W
      exact ⟨_, rfl, k _ _ _ _ _ e0 W ok (by omega) nm nd zn⟩
end

end Hd
namespace Hd
open PySem PySem.Spec PyProof.Rows L2 Lg Pu
/-! ### tunings: what stands on the heap, and the constructor -/
/-- a list of texts and numbers, checked as the constructor does: the first wrong name, with its error -/
def chk : List Str → List Str → Option (Str × Str)
  | _, [] => none
  | seen, n :: r => if isName n = false then some ("BadName", n) else if n ∈ seen then some ("RepeatedFork", n) else chk (seen ++ [n]) r
def Pr (I : Hp) (v : V) (q : Str × Int) : Prop := ∃ a, v = .ref a ∧ I a = some (.tup [.str q.1, .int q.2])
theorem Pr.mono {I J : Hp} {v : V} {q : Str × Int} (h : Pr I v q) (e : Sub I J) : Pr J v q := by
  obtain ⟨a, rfl, h⟩ := h
  exact ⟨a, rfl, e _ _ h⟩
inductive All2 {α : Type} (R : V → α → Prop) : List V → List α → Prop where
  | nil : All2 R [] []
  | cons {v : V} {a : α} {vs : List V} {as : List α} (h : R v a) (t : All2 R vs as) : All2 R (v :: vs) (a :: as)
theorem All2.mono {α : Type} {R S : V → α → Prop} (f : ∀ v a, R v a → S v a) : ∀ {vs : List V} {as : List α}, All2 R vs as → All2 S vs as
  | _, _, .nil => .nil
  | _, _, .cons h t => .cons (f _ _ h) (t.mono f)
theorem All2.len {α : Type} {R : V → α → Prop} : ∀ {vs : List V} {as : List α}, All2 R vs as → vs.length = as.length
  | _, _, .nil => rfl
  | _, _, .cons _ t => by simp [t.len]
theorem All2.snoc {α : Type} {R : V → α → Prop} {v : V} {a : α} (h : R v a) : ∀ {vs : List V} {as : List α}, All2 R vs as → All2 R (vs ++ [v]) (as ++ [a])
  | _, _, .nil => .cons h .nil
  | _, _, .cons g t => .cons g (t.snoc h)
theorem All2.get {α : Type} {R : V → α → Prop} : ∀ {vs : List V} {as : List α} {i : Nat} {v : V}, All2 R vs as → vs[i]? = some v → ∃ a, as[i]? = some a ∧ R v a
  | _, _, i, v, .nil, h => by simp at h
  | _, _, 0, v, .cons (a := a) g t, h => by
    simp at h
    subst h
    exact ⟨a, rfl, g⟩
  | _, _, i + 1, v, .cons g t, h => by
    simp at h
    obtain ⟨a, ha, hr⟩ := t.get h
    exact ⟨a, by simpa using ha, hr⟩
/-- the tuple of (name, pitch) pairs -/
def Lv (I : Hp) (v : V) (ts : List (Str × Int)) : Prop := ∃ a l, v = .ref a ∧ I a = some (.tup l) ∧ All2 (Pr I) l ts
theorem Lv.mono {I J : Hp} {v : V} {ts : List (Str × Int)} (h : Lv I v ts) (e : Sub I J) : Lv J v ts := by
  obtain ⟨a, l, rfl, h1, h2⟩ := h
  exact ⟨a, l, rfl, e _ _ h1, h2.mono fun _ _ z => z.mono e⟩
/-- a tuning at t -/
structure Tun (K : PySem.W.Frag) (I : Hp) (t : Addr) (ts : List (Str × Int)) : Prop where
  obj : ∃ dx vl vr, I t = some (.ins (He.ga K "Tuning") dx [("level", vl), ("name_row", vr)]) ∧ Lv I vl ts ∧ ∃ a, vr = .ref a ∧ I a = some (.tup (ts.map fun q => .str q.1))
  nm : ∀ q ∈ ts, Nm q.1
  nd : (ts.map (·.1)).Nodup
theorem Tun.mono {K : PySem.W.Frag} {I J : Hp} {t : Addr} {ts : List (Str × Int)} (h : Tun K I t ts) (e : Sub I J) : Tun K J t ts := by
  obtain ⟨dx, vl, vr, h1, h2, a, h3, h4⟩ := h.obj
  exact ⟨⟨dx, vl, vr, e _ _ h1, h2.mono e, a, h3, e _ _ h4⟩, h.nm, h.nd⟩
/-- raised: an error of the class x with the fields l; all that was stands as it was -/
def Rs (K : PySem.W.Frag) (H : Hp) (E : XK) (x : Str) (l : List (Str × V)) : Prop := ∀ H' d, Sub H H' → Nu H H' d = some (.xd l) → E (.ref (He.ga K x)) (some d) H'
theorem Rs.go {K : PySem.W.Frag} {H H1 J : Hp} {N : Md} {E : XK} {x : Str} {l : List (Str × V)} (h : Rs K H E x l) (W : Wd H1 J N) (e : Sub H J) (d : Addr) (nd : H1 d = none) : E (.ref (He.ga K x)) (some d) (upd H1 d (.xd l)) := by
  obtain ⟨J2, e2, hd, W2⟩ := W.new nd (o := .xd l) rfl
  exact h _ d (W2.subN (e.trans e2)) (nu_w W2 (e.no (W.none_im nd)) hd)
def kvs (ts : List (Str × Int)) : List (Key × V) := ts.map fun q => (Sum.inr q.1, V.int q.2)
theorem kvs_some {ts : List (Str × Int)} {n : Str} : (valV (kvs ts) (Sum.inr n)).isSome = decide (n ∈ ts.map (·.1)) := by
  induction ts with
  | nil => rfl
  | cons q r ih =>
    by_cases e : q.1 = n
    · rw [show kvs (q :: r) = (Sum.inr q.1, V.int q.2) :: kvs r from rfl, valV_pos (by rw [e])]
      simp [e]
    · rw [show kvs (q :: r) = (Sum.inr q.1, V.int q.2) :: kvs r from rfl, valV_neg (fun z => e (Sum.inr.inj z)), ih]
      have e2 : ¬ n = q.1 := fun z => e z.symm
      simp [e2]
theorem kvs_put {ts : List (Str × Int)} {n : Str} {p : Int} (h : n ∉ ts.map (·.1)) : putK (kvs ts) (Sum.inr n) (.int p) = kvs (ts ++ [(n, p)]) := by
  unfold putK
  rw [if_neg]
  · unfold kvs
    rw [List.map_append]
    rfl
  · rw [valV_any, kvs_some, decide_eq_false h]
    exact Bool.false_ne_true
theorem kvs_at {ts : List (Str × Int)} {i : Nat} {q : Str × Int} (nd : (ts.map (·.1)).Nodup) (h : ts[i]? = some q) : valV (kvs ts) (Sum.inr q.1) = some (.int q.2) := by
  induction ts generalizing i with
  | nil => simp at h
  | cons z r ih =>
    rw [List.map_cons] at nd
    obtain ⟨n1, n2⟩ := List.nodup_cons.mp nd
    cases i with
    | zero =>
      simp at h
      subst h
      exact valV_pos rfl
    | succ i =>
      simp at h
      rw [show kvs (z :: r) = (Sum.inr z.1, V.int z.2) :: kvs r from rfl, valV_neg, ih n2 h]
      intro e
      exact n1 (List.mem_map.mpr ⟨q, List.mem_of_getElem? h, (Sum.inr.inj e).symm⟩)
theorem chk_app {seen : List Str} : ∀ {a b : List Str}, chk seen (a ++ b) = (match chk seen a with | some z => some z | none => chk (seen ++ a) b)
  | [], b => by simp [chk]
  | n :: a, b => by
    rw [List.cons_append, chk, chk]
    by_cases h1 : isName n = false
    · rw [if_pos h1, if_pos h1]
    · rw [if_neg h1, if_neg h1]
      by_cases h2 : n ∈ seen
      · rw [if_pos h2, if_pos h2]
      · rw [if_neg h2, if_neg h2, chk_app, List.append_assoc]
        rfl
/-- good names pass -/
theorem chk_none {seen : List Str} : ∀ {l : List Str}, chk seen l = none ↔ (∀ x ∈ l, Nm x) ∧ l.Nodup ∧ ∀ x ∈ l, x ∉ seen := by
  intro l
  induction l generalizing seen with
  | nil => simp [chk]
  | cons n r ih =>
    rw [chk]
    by_cases h1 : isName n = false
    · rw [if_pos h1]
      constructor
      · intro h
        cases h
      · rintro ⟨h, _⟩
        have := (isName_iff n).mpr (h n (List.mem_cons_self ..))
        rw [h1] at this
        cases this
    · rw [if_neg h1]
      have h1 : Nm n := (isName_iff n).mp (by simpa using h1)
      by_cases h2 : n ∈ seen
      · rw [if_pos h2]
        constructor
        · intro h
          cases h
        · rintro ⟨_, _, h⟩
          exact absurd h2 (h n (List.mem_cons_self ..))
      · rw [if_neg h2, ih]
        constructor
        · rintro ⟨a1, a2, a3⟩
          refine ⟨fun x hx => ?_, List.nodup_cons.mpr ⟨fun m => a3 n m (List.mem_append_right _ (List.mem_singleton.mpr rfl)), a2⟩, fun x hx => ?_⟩
          · rcases List.mem_cons.mp hx with rfl | hx
            · exact h1
            · exact a1 x hx
          · rcases List.mem_cons.mp hx with rfl | hx
            · exact h2
            · exact fun m => a3 x hx (List.mem_append_left _ m)
        · rintro ⟨a1, a2, a3⟩
          obtain ⟨n1, n2⟩ := List.nodup_cons.mp a2
          refine ⟨fun x hx => a1 x (List.mem_cons_of_mem _ hx), n2, fun x hx m => ?_⟩
          rcases List.mem_append.mp m with m | m
          · exact a3 x (List.mem_cons_of_mem _ hx) m
          · rcases List.mem_singleton.mp m with rfl
            exact n1 hx
theorem chk_good {l : List Str} (h : ∀ x ∈ l, Nm x) (nd : l.Nodup) : chk [] l = none := chk_none.mpr ⟨h, nd, fun _ _ m => nomatch m⟩
def sp_Tuning_init (K : PySem.W.Frag) : Sp := fun vs H Q E => ∃ (x dx a b : Addr) (ns : List Str) (ps : List Int), vs = [.ref x, .ref a, .ref b] ∧ H x = some (.ins (He.ga K "Tuning") dx []) ∧ SqL K (off x H) a (ns.map V.str) ∧ SqL K (off x H) b (ps.map V.int) ∧ (∀ n ∈ ns, n.length ≤ 100000) ∧ ns.length ≤ ps.length ∧ ns.length ≤ 1000 ∧
  (chk [] ns = none → ∀ H', Sub (off x H) H' → Tun K (Nu (off x H) H') x (ns.zip ps) → Q .non H') ∧ (∀ c n, chk [] ns = some (c, n) → Rs K (off x H) E c [("name", .str n)])
section
variable {w : World} {K : PySem.W.Frag} {mg : Str → Option Value} {base : Heap}
theorem ok_Tuning_init (T : Tx K mg) (G_is_name : Ok PP w K mg base CX0 1 "is_name" P_is_name sp_is_name) : Ox.OkM PP w K mg base (L2.CX PP w) 2 "Tuning" "__init__" P_Tuning_init (sp_Tuning_init K) := by
  obtain ⟨fd_is_name, G_is_name, b_is_name, g_is_name, k_is_name⟩ := G_is_name
  refine Ox.mkOkM T.d_Tuning_init sc_Tuning_init (fun _ _ _ _ _ _ us hl => match us, hl with | [_, _, _], _ => rfl) (fun vs H Q E h => ?_) (fun cdv A outer s H vs Q E hr h => ?_)
  · obtain ⟨x, dx, a, b, ns, ps, rfl, _⟩ := h
    rfl
  · obtain ⟨x, dx, a, b, ns, ps, rfl, hx, ha, hb, hsz, hlen, hmany, kQ, kE⟩ := h
    refine ⟨_, (pss_cons (ps_set (i := 3) sc_Tuning_init.nd rfl (.inr rfl) pe_dnewK)
      (pss_cons (ps_for (passes_of rfl) rfl (kpi_enum K (by rfl) T.f_enumerate (pa_cons (pv 1) pa_nil)) (kpg_tup K (n := 2) rfl (pgs_cons (pg_name (i := 4) sc_Tuning_init.nd rfl (.inl rfl)) (pgs_cons (pg_name (i := 5) sc_Tuning_init.nd rfl (.inl rfl)) pgs_nil))) (pss_cons (ps_if (pt_not (pt_val (pe_call G_is_name (hr.mono (by decide)) (by rfl) g_is_name k_is_name b_is_name .nil pass0 (pa_cons (pv 5) pa_nil)))) (pss_one (Fx.praise rfl (T.x_BadName w) hr (takes_of rfl rfl rfl rfl) (pa_cons (pv 5) pa_nil))) pss_nil)
      (pss_cons (ps_if (pt_cmp (pc_din (hu_of hr) (pv 5) (pv 3))) (pss_one (Fx.praise rfl (T.x_RepeatedFork w) hr (takes_of rfl rfl rfl rfl) (pa_cons (pv 5) pa_nil))) pss_nil)
      (pss_one (ps_dput (hu_of hr) (pv 3) (pv 5) (pe_ix (kix_list K) (pv 2) (pv 4) (fun _ _ => rfl)) rfl)))))
      (pss_cons (ps_fld (pv 0) (pe_callTy (ktuple_of K) (by rfl) T.f_tuple (by decide +kernel) (pa_cons (pe_lock (pe_lc (own := [("name", 5)]) rfl sc_Tuning_init.nd (pi_keys (pv 3)) (blkOk_by (own := [("name", 5)]) (N := N_Tuning_init) (sc := defScope s_Tuning_init) (by decide +kernel)) (fun _ _ _ _ _ => (pg_name (i := 5) sc_Tuning_init.nd rfl (.inl rfl))) (fun _ _ _ _ _ => pts_nil) (fun _ _ _ _ _ => (pe_tup (pa_cons (pv 5) (pa_cons (pe_dget (hu_of hr) (pv 3) (pv 5) (fun _ _ => rfl)) pa_nil)))))) pa_nil)) rfl)
      (pss_one (ps_fld (pv 0) (pe_callTy (ktuple_of K) (by rfl) T.f_tuple (by decide +kernel) (pa_cons (pe_lock (pe_lc (own := [("name", 5)]) rfl sc_Tuning_init.nd (pi_keys (pv 3)) (blkOk_by (own := [("name", 5)]) (N := N_Tuning_init) (sc := defScope s_Tuning_init) (by decide +kernel)) (fun _ _ _ _ _ => (pg_name (i := 5) sc_Tuning_init.nd rfl (.inl rfl))) (fun _ _ _ _ _ => pts_nil) (fun _ _ _ _ _ => (pv 5)))) pa_nil)) rfl))))), ?_⟩
    have W := Wd.offs hx
    have nOx : off x H x = none := off_self
    generalize off x H = O at W ha hb kQ kE nOx
    refine fun d nd => ?_
    have nOd : O d = none := W.none_im nd
    generalize hH : upd _ d _ = H
    have W := W.newM nd hH
    have lz : (ns.map V.str).length = ns.length := List.length_map ..
    refine ⟨_, rfl, a, _, rfl, W.sl ha, forW (ItS.enum ha) W (fun i σ J N => ∃ s4 s5 : Option V, σ = [some (.ref x), some (.ref a), some (.ref b), some (.ref d), s4, s5] ∧ N = [(d, .dK (kvs ((ns.zip ps).take i))), (x, .ins (He.ga K "Tuning") dx [])] ∧ chk [] (ns.take i) = none) ⟨_, _, rfl, rfl, rfl⟩ ?_ ?_⟩
    · rintro i σ J0 N y J H hi e0 ⟨s4, s5, rfl, hN, hc⟩ e1 W ⟨t, z, rfl, hz, ht⟩
      rw [hN] at W
      rw [lz] at hi
      have hz : (ns.map V.str)[i]? = some z := hz
      rw [List.getElem?_map] at hz
      obtain ⟨n, hn, rfl⟩ := Option.map_eq_some_iff.mp hz
      have e01 := e0.trans e1
      -- at, name
      refine ⟨t, _, rfl, W.t ht, rfl, _, _, rfl, _, _, rfl, rfl, ?_⟩
      refine ⟨_, rfl, n, rfl, sz (hsz n (List.mem_of_getElem? hn)), fun H2 eH => ?_⟩
      obtain ⟨J2, e2, _, W⟩ := W.graft eH
      have e02 := e01.trans e2
      have tk : ns.take (i + 1) = ns.take i ++ [n] := by rw [List.take_add_one, hn]; rfl
      have dr : ns = ns.take i ++ n :: ns.drop (i + 1) := by
        obtain ⟨hlt, go⟩ := List.getElem?_eq_some_iff.mp hn
        rw [← go, ← List.drop_eq_getElem_cons hlt, List.take_append_drop]
      have mz : (((ns.zip ps).take i).map (·.1)) = ns.take i := by
        rw [List.map_take, List.map_fst_zip hlen]
      refine ⟨_, rfl, ite2 (fun h1 => ?_) (fun h1 => ?_)⟩
      · -- no name
        have h1 : isName n = false := by simpa using h1
        have bad : chk [] ns = some (("BadName" : Str), n) := by
          rw [dr, chk_app, hc]
          show chk ([] ++ ns.take i) (n :: ns.drop (i + 1)) = _
          rw [chk, if_pos h1]
        exact ⟨_, rfl, rfl, fun d nd => (kE _ _ bad).go W e02 d nd⟩
      have h1 : ¬ isName n = false := by simpa using h1
      refine ⟨_, rfl, _, rfl, d, _, rfl, DGet.k (k := Sum.inr n) W.hd, _, rfl, ?_⟩
      rw [kvs_some, mz]
      refine ite2 (fun h2 => ?_) (fun h2 => ?_)
      · have h2 : n ∈ ns.take i := of_decide_eq_true h2
        have bad : chk [] ns = some (("RepeatedFork" : Str), n) := by
          rw [dr, chk_app, hc]
          show chk ([] ++ ns.take i) (n :: ns.drop (i + 1)) = _
          rw [chk, if_neg h1, List.nil_append, if_pos h2]
        exact ⟨_, rfl, rfl, fun d nd => (kE _ _ bad).go W e02 d nd⟩
      have h2 : n ∉ ns.take i := fun m => h2 (decide_eq_true m)
      -- seen[name] = pitches[at]
      have hp : i < ps.length := by omega
      have hzi : (ns.zip ps)[i]? = some (n, ps[i]) := by
        rw [List.getElem?_zip_eq_some]
        exact ⟨hn, List.getElem?_eq_getElem hp⟩
      have hps : atI (ps.map V.int) (i : Int) = some (.int ps[i]) := atI_nat (by rw [List.getElem?_map, List.getElem?_eq_getElem hp]; rfl)
      have lk : (kvs ((ns.zip ps).take i)).length < sizeLine := szl (by
        unfold kvs
        rw [List.length_map, List.length_take]
        omega)
      refine ⟨_, rfl, _, rfl, b, _, i, .int ps[i], rfl, rfl, W.sl (e02.sl hb), hps, _, rfl, _, rfl, d, _, rfl, DPut.k (k := Sum.inr n) W.hd lk, wr_go W fun H W => ⟨J2, _, e02, W, _, _, rfl, ?_, ?_⟩⟩
      · rw [kvs_put (by rw [mz]; exact h2), List.take_add_one, hzi]
        rfl
      · rw [tk, chk_app, hc]
        show chk ([] ++ ns.take i) [n] = none
        rw [chk, if_neg h1, List.nil_append, if_neg h2]
        rfl
    · rintro σ J N H e0 W ⟨s4, s5, rfl, hN, hc⟩
      rw [hN] at W
      rw [lz, List.take_length] at hc
      have zl : (ns.zip ps).length = ns.length := by rw [List.length_zip]; omega
      have tz : (ns.zip ps).take (ns.map V.str).length = ns.zip ps := by rw [lz, ← zl, List.take_length]
      rw [tz] at W
      have good := chk_none.mp hc
      generalize hts : ns.zip ps = ts at W kQ
      have nd : (ts.map (·.1)).Nodup := by rw [← hts, List.map_fst_zip hlen]; exact good.2.1
      have nmz : ∀ q ∈ ts, Nm q.1 := fun q hq => by
        rw [← hts] at hq
        exact good.1 _ (List.of_mem_zip hq).1
      have lts : ts.length ≤ 1000 := by rw [← hts, zl]; exact hmany
      have lkv : (kvs ts).length = ts.length := List.length_map ..
      -- self.level
      refine ⟨d, _, W.hd, trivial, fun od => ?_⟩
      have W := W.wr (u := .frz od (.dK (kvs ts)))
      generalize upd H d (.frz od (.dK (kvs ts))) = H at W ⊢
      have nJd : J d = none := W.hn
      obtain ⟨J1, e1, hd1, W⟩ := W.fz
      have e01 := e0.trans e1
      refine ⟨_, rfl, d, od, rfl, .inl ⟨_, W.im _ _ hd1, lcW (ItS.keys hd1) W (fun i acc J N => N = [(x, .ins (He.ga K "Tuning") dx [])] ∧ All2 (fun v q => ∃ a, v = .ref a ∧ J a = some (.tup [.str q.1, .int q.2]) ∧ J1 a = none) acc (ts.take i)) ⟨rfl, .nil⟩ ?_ ?_⟩⟩
      · rintro D i acc J2 N y J3 H hi e2 ⟨hN, al⟩ l e3 W ⟨kk, vv, hk, rfl⟩
        rw [hN] at W
        rw [lkv] at hi
        have hk : (kvs ts)[i]? = some (kk, vv) := hk
        unfold kvs at hk
        rw [List.getElem?_map] at hk
        obtain ⟨q, hq, eq⟩ := Option.map_eq_some_iff.mp hk
        cases eq
        have hd3 := W.im _ _ (e3 _ _ (e2 _ _ hd1))
        refine ⟨rfl, _, rfl, _, rfl, _, rfl, d, .int q.2, rfl, ?_, (by show 2 ≤ sizeLine; decide), fun t nt => ?_⟩
        · have g : DGet H d (kV (Sum.inr q.1)) (valV (kvs ts) (Sum.inr q.1)) := .inl ⟨_, _, .inr ⟨_, hd3⟩, rfl, rfl⟩
          rw [kvs_at nd hq] at g
          exact g
        generalize hH : upd _ t _ = H
        have n1 : J1 t = none := (e2.trans e3).no (W.none_im nt)
        obtain ⟨J4, e4, ht, W⟩ := W.new nt hH
        refine lc_yes (e2.trans (e3.trans e4)) W l (by omega) ⟨rfl, ?_⟩
        rw [List.take_add_one, hq]
        exact (al.mono fun v q ⟨a, e, h, n⟩ => ⟨a, e, e4 _ _ (e3 _ _ h), n⟩).snoc ⟨t, rfl, ht, n1⟩
      rintro D acc J2 N H e2 W ⟨hN, al⟩
      rw [hN] at W
      rw [lkv, List.take_length] at al
      have hd2 := e2 _ _ hd1
      have nD : D ≠ d := fun e => by
        have z := W.hn
        rw [e, hd2] at z
        cases z
      have nD1 : J1 D = none := e2.no W.hn
      refine ⟨W.im _ _ hd2, D, acc, rfl, ?_⟩
      have W := W.thaw (u := .dK (kvs ts)) hd2
      generalize upd H d (.dK (kvs ts)) = H at W ⊢
      have e02 : Sub O (off d J2) := (e01.trans e2).off nOd
      have al : All2 (fun v q => ∃ a, v = .ref a ∧ off d J2 a = some (.tup [.str q.1, .int q.2]) ∧ O a = none) acc ts := al.mono fun v q ⟨a, e, h, n⟩ => ⟨a, e, by
        rw [off_at fun e => by rw [e, hd2] at h; cases h]
        exact h, e01.no n⟩
      generalize off d J2 = J2 at W e02 al
      refine .inl ⟨SqL.of (W.get 1), fun l1 nl1 => ?_⟩
      generalize hH : upd _ l1 _ = H
      have nOl : O l1 = none := e02.no (W.none_im nl1)
      obtain ⟨J3, e3, hl1, W⟩ := W.new nl1 hH
      have W := W.rev3
      refine ⟨_, rfl, x, _, dx, _, rfl, W.hd, T.k_Tuning, T.n_Tuning_level, (by show (0 : Nat) < 1000; decide), wr_go W fun H W => ?_⟩
      -- self.name_row
      have W := W.rev3.swap.drop
      clear hd1 hd2
      refine ⟨d, _, W.hd, trivial, fun od => ?_⟩
      have W := W.wr (u := .frz od (.dK (kvs ts)))
      generalize upd H d (.frz od (.dK (kvs ts))) = H at W ⊢
      obtain ⟨J4, e4, hd4, W⟩ := W.fz
      refine ⟨_, rfl, d, od, rfl, .inl ⟨_, W.im _ _ hd4, lcW (ItS.keys hd4) W (fun i acc J N => N = [(x, .ins (He.ga K "Tuning") dx (putF "level" (.ref l1) []))] ∧ acc = (ts.take i).map fun q => V.str q.1) ⟨rfl, rfl⟩ ?_ ?_⟩⟩
      · rintro D i acc J5 N y J6 H hi e5 ⟨hN, rfl⟩ l e6 W ⟨kk, vv, hk, rfl⟩
        rw [hN] at W
        rw [lkv] at hi
        have hk : (kvs ts)[i]? = some (kk, vv) := hk
        unfold kvs at hk
        rw [List.getElem?_map] at hk
        obtain ⟨q, hq, eq⟩ := Option.map_eq_some_iff.mp hk
        cases eq
        refine ⟨rfl, _, rfl, lc_yes (e5.trans e6) W l (by omega) ⟨rfl, ?_⟩⟩
        rw [List.take_add_one, hq, List.map_append]
        rfl
      rintro D2 acc2 J5 N H e5 W ⟨hN, rfl⟩
      rw [hN] at W
      rw [lkv, List.take_length] at W
      have hd5 := e5 _ _ hd4
      refine ⟨W.im _ _ hd5, D2, ts.map fun q => V.str q.1, rfl, ?_⟩
      have W := W.thaw (u := .dK (kvs ts)) hd5
      generalize upd H d (.dK (kvs ts)) = H at W ⊢
      have e05 : Sub O (off d J5) := (e02.trans (e3.trans (e4.trans e5))).off nOd
      have nl : l1 ≠ d := fun e => by
        have z := e5 _ _ (e4 _ _ hl1)
        rw [e, hd5] at z
        cases z
      have hl5 : off d J5 l1 = some (.tup acc) := by rw [off_at nl]; exact e5 _ _ (e4 _ _ hl1)
      have al : All2 (fun v q => ∃ a, v = .ref a ∧ off d J5 a = some (.tup [.str q.1, .int q.2]) ∧ O a = none) acc ts := al.mono fun v q ⟨a, e, h, n⟩ => ⟨a, e, by
        have h := e5 _ _ (e4 _ _ (e3 _ _ h))
        rw [off_at fun e => by rw [e, hd5] at h; cases h]
        exact h, n⟩
      generalize off d J5 = J5 at W e05 al hl5
      refine .inl ⟨SqL.of (W.get 1), fun l2 nl2 => ?_⟩
      generalize hH : upd _ l2 _ = H
      have nOl2 : O l2 = none := e05.no (W.none_im nl2)
      obtain ⟨J6, e6, hl2, W⟩ := W.new nl2 hH
      have W := W.rev3
      refine ⟨_, rfl, x, _, dx, _, rfl, W.hd, T.k_Tuning, T.n_Tuning_name_row, (by show (1 : Nat) < 1000; decide), wr_go W fun H W => ?_⟩
      refine kQ hc H (W.subN (e05.trans e6)) ⟨⟨dx, .ref l1, .ref l2, nu_at nOx W.hd, ⟨l1, acc, rfl, nu_w W nOl (e6 _ _ hl5), al.mono fun v q ⟨a, e, h, n⟩ => ⟨a, e, nu_w W n (e6 _ _ h)⟩⟩, l2, rfl, nu_w W nOl2 hl2⟩, nmz, nd⟩
end

end Hd
namespace Hd
open PySem PySem.Spec PyProof.Rows L2 Lg Pu
/-! ### tunings: what they answer -/
/-- the pairs of a tuning, walked -/
structure TunAt (K : PySem.W.Frag) (I : Hp) (t : Addr) (ts : List (Str × Int)) (dx a : Addr) (vr : V) (l : List V) : Prop where
  obj : I t = some (.ins (He.ga K "Tuning") dx [("level", .ref a), ("name_row", vr)])
  lev : I a = some (.tup l)
  all : All2 (Pr I) l ts
theorem Tun.at_ {K : PySem.W.Frag} {I : Hp} {t : Addr} {ts : List (Str × Int)} (h : Tun K I t ts) : ∃ dx a vr l, TunAt K I t ts dx a vr l := by
  obtain ⟨dx, vl, vr, h1, ⟨a, l, rfl, h2, h3⟩, _⟩ := h.obj
  exact ⟨dx, a, vr, l, h1, h2, h3⟩
theorem TunAt.pair {K : PySem.W.Frag} {I J : Hp} {t : Addr} {ts : List (Str × Int)} {dx a : Addr} {vr : V} {l : List V} (h : TunAt K I t ts dx a vr l) (e : Sub I J) {i : Nat} {v : V} (hv : YL l i v J) : ∃ p q, v = .ref p ∧ ts[i]? = some q ∧ J p = some (.tup [.str q.1, .int q.2]) := by
  obtain ⟨q, hq, p, rfl, hp⟩ := h.all.get hv
  exact ⟨p, q, rfl, hq, e _ _ hp⟩
theorem TunAt.len {K : PySem.W.Frag} {I : Hp} {t : Addr} {ts : List (Str × Int)} {dx a : Addr} {vr : V} {l : List V} (h : TunAt K I t ts dx a vr l) : l.length = ts.length := h.all.len
def sp_T_names (K : PySem.W.Frag) : Sp := fun vs H Q _ => ∃ (t : Addr) (ts : List (Str × Int)), vs = [.ref t] ∧ Tun K H t ts ∧ ts.length ≤ 1000 ∧ ∀ H' p, Sub H H' → Nu H H' p = some (.lst ((ts.map (·.1)).map V.str)) → Q (.ref p) H'
def sp_T_pitches (K : PySem.W.Frag) : Sp := fun vs H Q _ => ∃ (t : Addr) (ts : List (Str × Int)), vs = [.ref t] ∧ Tun K H t ts ∧ ts.length ≤ 1000 ∧ ∀ H' p, Sub H H' → Nu H H' p = some (.tup ((ts.map (·.2)).map V.int)) → Q (.ref p) H'
def sp_T_contains (K : PySem.W.Frag) : Sp := fun vs H Q _ => ∃ (t : Addr) (ts : List (Str × Int)) (x : Str), vs = [.ref t, .str x] ∧ Tun K H t ts ∧ ts.length ≤ 1000 ∧ ∀ H', Sub H H' → Q (.bl (decide (x ∈ ts.map (·.1)))) H'
def sp_T_len (K : PySem.W.Frag) : Sp := fun vs H Q _ => ∃ (t : Addr) (ts : List (Str × Int)), vs = [.ref t] ∧ Tun K H t ts ∧ Q (.int ts.length) H
/-- the pitch of a name -/
def pit : List (Str × Int) → Str → Option Int
  | [], _ => none
  | q :: r, n => if q.1 = n then some q.2 else pit r n
def sp_T_item (K : PySem.W.Frag) : Sp := fun vs H Q E => ∃ (t : Addr) (ts : List (Str × Int)) (x : Str), vs = [.ref t, .str x] ∧ Tun K H t ts ∧ (∀ z, pit ts x = some z → ∀ H', Sub H H' → Q (.int z) H') ∧ (pit ts x = none → Rs K H E "UnknownFork" [("name", .str x)])
def sp_T_beats (K : PySem.W.Frag) : Sp := fun vs H Q E => ∃ (t : Addr) (ts : List (Str × Int)) (a b : Str), vs = [.ref t, .str a, .str b] ∧ Tun K H t ts ∧
  (∀ y z, pit ts a = some y → pit ts b = some z → ∀ H', Sub H H' → Q (.int (if y - z < 0 then -(y - z) else y - z)) H') ∧ (pit ts a = none → Rs K H E "UnknownFork" [("name", .str a)]) ∧ (∀ y, pit ts a = some y → pit ts b = none → Rs K H E "UnknownFork" [("name", .str b)])
theorem pit_mem {ts : List (Str × Int)} {n : Str} : pit ts n = none ↔ n ∉ ts.map (·.1) := by
  induction ts with
  | nil => simp [pit]
  | cons q r ih =>
    rw [pit]
    by_cases e : q.1 = n
    · rw [if_pos e]
      simp [e]
    · rw [if_neg e, ih]
      have e2 : ¬ n = q.1 := fun z => e z.symm
      simp [e2]
theorem pit_drop {ts : List (Str × Int)} {n : Str} : ∀ {i : Nat}, (∀ j, j < i → ∀ q, ts[j]? = some q → q.1 ≠ n) → pit ts n = pit (ts.drop i) n := by
  induction ts with
  | nil => intro i _; simp
  | cons q r ih =>
    intro i h
    cases i with
    | zero => rfl
    | succ i =>
      rw [List.drop_succ_cons, pit, if_neg (h 0 (Nat.succ_pos _) q rfl)]
      exact ih fun j hj z hz => h (j + 1) (Nat.succ_lt_succ hj) z (by simpa using hz)
theorem Rs.up {K : PySem.W.Frag} {H H1 : Hp} {E : XK} {x : Str} {l : List (Str × V)} (h : Rs K H E x l) (e : Sub H H1) : Rs K H1 E x l := fun H' d s n => h H' d (e.trans s) (nu_mono e _ _ n)
section
variable {w : World} {K : PySem.W.Frag} {mg : Str → Option Value} {base : Heap}
theorem ok_T_names (T : Tx K mg) : Ox.OkM PP w K mg base CX0 1 "Tuning" "names" P_Tuning_names (sp_T_names K) := by
  refine Ox.mkOkM0 T.d_Tuning_names sc_Tuning_names (fun _ _ _ _ _ _ us hl => match us, hl with | [_], _ => rfl) (fun vs H Q E h => ?_) (fun cdv A outer s H vs Q E hr h => ?_)
  · obtain ⟨t, ts, rfl, _⟩ := h
    rfl
  · obtain ⟨t, ts, rfl, ht, hn, k⟩ := h
    obtain ⟨dx, a, vr, l, ta⟩ := ht.at_
    have W := Wd.start H
    refine ⟨_, (pss_one (ps_ret (pe_lc (own := [("name", 1), ("pitch", 2)]) rfl sc_Tuning_names.nd (kpi_tup K (kfld K (pv 0))) (blkOk_by (own := [("name", 1), ("pitch", 2)]) (N := N_Tuning_names) (sc := defScope s_Tuning_names) (by decide +kernel)) (fun _ _ _ _ _ => (kpg_tup K (n := 2) rfl (pgs_cons (pg_name (i := 1) sc_Tuning_names.nd rfl (.inl rfl)) (pgs_cons (pg_name (i := 2) sc_Tuning_names.nd rfl (.inl rfl)) pgs_nil)))) (fun _ _ _ _ _ => pts_nil) (fun _ _ _ _ _ => (pv 1))))), ?_⟩
    refine ⟨_, rfl, t, _, dx, _, .ref a, rfl, ta.obj, T.k_Tuning, T.n_Tuning_level, rfl, a, rfl, ⟨_, W.t ta.lev⟩, lcW (ItS.tup (SqT.of ta.lev)) W (fun i acc _ N => N = [] ∧ acc = (ts.take i).map fun q => V.str q.1) ⟨rfl, rfl⟩ ?_ ?_⟩
    · rintro D i acc J0 N v J1 H1 hi e0 ⟨hN, rfl⟩ ll e1 W hv
      rw [hN] at W
      obtain ⟨p, q, rfl, hq, hp⟩ := ta.pair (e0.trans e1) hv
      rw [ta.len] at hi
      refine ⟨p, _, rfl, W.t hp, rfl, _, _, rfl, _, _, rfl, rfl, rfl, _, rfl, lc_yes (e0.trans e1) W ll (by omega) ⟨rfl, ?_⟩⟩
      rw [List.take_add_one, hq, List.map_append]
      rfl
    · rintro D acc J1 N H1 e1 W ⟨hN, rfl⟩
      rw [hN] at W
      have n : H D = none := e1.no W.hn
      rw [ta.len, List.take_length] at W
      refine k _ _ (W.drop.subN e1) (nu_at n ?_)
      rw [W.hd, List.map_map]
      rfl
theorem ok_T_pitches (T : Tx K mg) : Ox.OkM PP w K mg base CX0 1 "Tuning" "pitches" P_Tuning_pitches (sp_T_pitches K) := by
  refine Ox.mkOkM0 T.d_Tuning_pitches sc_Tuning_pitches (fun _ _ _ _ _ _ us hl => match us, hl with | [_], _ => rfl) (fun vs H Q E h => ?_) (fun cdv A outer s H vs Q E hr h => ?_)
  · obtain ⟨t, ts, rfl, _⟩ := h
    rfl
  · obtain ⟨t, ts, rfl, ht, hn, k⟩ := h
    obtain ⟨dx, a, vr, l, ta⟩ := ht.at_
    have W := Wd.start H
    refine ⟨_, (pss_one (ps_ret (pe_callTy (ktuple_of K) (by rfl) T.f_tuple (by decide +kernel) (pa_cons (pe_lc (own := [("name", 1), ("pitch", 2)]) rfl sc_Tuning_pitches.nd (kpi_tup K (kfld K (pv 0))) (blkOk_by (own := [("name", 1), ("pitch", 2)]) (N := N_Tuning_pitches) (sc := defScope s_Tuning_pitches) (by decide +kernel)) (fun _ _ _ _ _ => (kpg_tup K (n := 2) rfl (pgs_cons (pg_name (i := 1) sc_Tuning_pitches.nd rfl (.inl rfl)) (pgs_cons (pg_name (i := 2) sc_Tuning_pitches.nd rfl (.inl rfl)) pgs_nil)))) (fun _ _ _ _ _ => pts_nil) (fun _ _ _ _ _ => (pv 2))) pa_nil)))), ?_⟩
    refine ⟨_, rfl, t, _, dx, _, .ref a, rfl, ta.obj, T.k_Tuning, T.n_Tuning_level, rfl, a, rfl, ⟨_, W.t ta.lev⟩, lcW (ItS.tup (SqT.of ta.lev)) W (fun i acc _ N => N = [] ∧ acc = (ts.take i).map fun q => V.int q.2) ⟨rfl, rfl⟩ ?_ ?_⟩
    · rintro D i acc J0 N v J1 H1 hi e0 ⟨hN, rfl⟩ ll e1 W hv
      rw [hN] at W
      obtain ⟨p, q, rfl, hq, hp⟩ := ta.pair (e0.trans e1) hv
      rw [ta.len] at hi
      refine ⟨p, _, rfl, W.t hp, rfl, _, _, rfl, _, _, rfl, rfl, rfl, _, rfl, lc_yes (e0.trans e1) W ll (by omega) ⟨rfl, ?_⟩⟩
      rw [List.take_add_one, hq, List.map_append]
      rfl
    · rintro D acc J1 N H1 e1 W ⟨hN, rfl⟩
      rw [hN] at W
      rw [ta.len, List.take_length] at W
      refine ⟨D, _, rfl, .inl ⟨SqL.of W.hd, fun p np => ?_⟩⟩
      have n : H p = none := e1.no (W.none_im np)
      generalize hH : upd _ p _ = H2
      obtain ⟨J2, e2, hp, W⟩ := W.new np hH
      refine k _ _ (W.subN (e1.trans e2)) (nu_w W n ?_)
      rw [hp, List.map_map]
      rfl
theorem ok_T_contains (T : Tx K mg) : Ox.OkM PP w K mg base CX0 1 "Tuning" "__contains__" P_Tuning_contains (sp_T_contains K) := by
  refine Ox.mkOkM0 T.d_Tuning_contains sc_Tuning_contains (fun _ _ _ _ _ _ us hl => match us, hl with | [_, _], _ => rfl) (fun vs H Q E h => ?_) (fun cdv A outer s H vs Q E hr h => ?_)
  · obtain ⟨t, ts, x, rfl, _⟩ := h
    rfl
  · obtain ⟨t, ts, x, rfl, ht, hn, k⟩ := h
    obtain ⟨dx, a, vr, l, ta⟩ := ht.at_
    have W := Wd.start H
    refine ⟨_, (pss_one (ps_ret (pe_cmpR (kin K) (pv 1) (pe_lc (own := [("name", 2), ("pitch", 3)]) rfl sc_Tuning_contains.nd (kpi_tup K (kfld K (pv 0))) (blkOk_by (own := [("name", 2), ("pitch", 3)]) (N := N_Tuning_contains) (sc := defScope s_Tuning_contains) (by decide +kernel)) (fun _ _ _ _ _ => (kpg_tup K (n := 2) rfl (pgs_cons (pg_name (i := 2) sc_Tuning_contains.nd rfl (.inl rfl)) (pgs_cons (pg_name (i := 3) sc_Tuning_contains.nd rfl (.inl rfl)) pgs_nil)))) (fun _ _ _ _ _ => pts_nil) (fun _ _ _ _ _ => (pv 2))) (by rfl)))), ?_⟩
    refine ⟨_, rfl, _, rfl, t, _, dx, _, .ref a, rfl, ta.obj, T.k_Tuning, T.n_Tuning_level, rfl, a, rfl, ⟨_, W.t ta.lev⟩, lcW (ItS.tup (SqT.of ta.lev)) W (fun i acc _ N => N = [] ∧ acc = (ts.take i).map fun q => V.str q.1) ⟨rfl, rfl⟩ ?_ ?_⟩
    · rintro D i acc J0 N v J1 H1 hi e0 ⟨hN, rfl⟩ ll e1 W hv
      rw [hN] at W
      obtain ⟨p, q, rfl, hq, hp⟩ := ta.pair (e0.trans e1) hv
      rw [ta.len] at hi
      refine ⟨p, _, rfl, W.t hp, rfl, _, _, rfl, _, _, rfl, rfl, rfl, _, rfl, lc_yes (e0.trans e1) W ll (by omega) ⟨rfl, ?_⟩⟩
      rw [List.take_add_one, hq, List.map_append]
      rfl
    · rintro D acc J1 N H1 e1 W ⟨hN, rfl⟩
      rw [hN] at W
      rw [ta.len, List.take_length] at W
      have hD : H1 D = some (.lst ((ts.map (·.1)).map V.str)) := by rw [W.hd, List.map_map]; rfl
      refine ⟨D, _, rfl, .inl (SqL.of hD), rfl, flat_strs _, ?_⟩
      show Q (.bl (inV (.str x) ((ts.map (·.1)).map V.str))) H1
      rw [inV_str]
      exact k _ (W.drop.subN e1)
theorem ok_T_len (T : Tx K mg) : Ox.OkM PP w K mg base CX0 1 "Tuning" "__len__" P_Tuning_len (sp_T_len K) := by
  refine Ox.mkOkM0 T.d_Tuning_len sc_Tuning_len (fun _ _ _ _ _ _ us hl => match us, hl with | [_], _ => rfl) (fun vs H Q E h => ?_) (fun cdv A outer s H vs Q E hr h => ?_)
  · obtain ⟨t, ts, rfl, _⟩ := h
    rfl
  · obtain ⟨t, ts, rfl, ht, k⟩ := h
    obtain ⟨dx, a, vr, l, ta⟩ := ht.at_
    refine ⟨_, (pss_one (ps_ret (pe_callB (klen K) (by rfl) T.f_len (by decide +kernel) (pa_cons (kfld K (pv 0)) pa_nil)))), ?_⟩
    refine ⟨_, rfl, t, _, dx, _, .ref a, rfl, ta.obj, T.k_Tuning, T.n_Tuning_level, rfl, a, _, rfl, .inr (SqT.of ta.lev), ?_⟩
    rw [ta.len]
    exact k
theorem ok_T_item (T : Tx K mg) : Ox.OkM PP w K mg base (L2.CX PP w) 2 "Tuning" "__getitem__" P_Tuning_getitem (sp_T_item K) := by
  refine Ox.mkOkM T.d_Tuning_getitem sc_Tuning_getitem (fun _ _ _ _ _ _ us hl => match us, hl with | [_, _], _ => rfl) (fun vs H Q E h => ?_) (fun cdv A outer s H vs Q E hr h => ?_)
  · obtain ⟨t, ts, x, rfl, _⟩ := h
    rfl
  · obtain ⟨t, ts, x, rfl, ht, kQ, kE⟩ := h
    obtain ⟨dx, a, vr, l, ta⟩ := ht.at_
    have W := Wd.start H
    refine ⟨_, (pss_cons (ps_for (passes_of rfl) rfl (kpi_tup K (kfld K (pv 0))) (kpg_tup K (n := 2) rfl (pgs_cons (pg_name (i := 2) sc_Tuning_getitem.nd rfl (.inl rfl)) (pgs_cons (pg_name (i := 3) sc_Tuning_getitem.nd rfl (.inl rfl)) pgs_nil))) (pss_one (ps_if (pt_cmpR op_eq (pv 2) (pv 1) (nomark _)) (pss_one (ps_ret (pv 3))) pss_nil)))
      (pss_one (Fx.praise rfl (T.x_UnknownFork w) hr (takes_of rfl rfl rfl rfl) (pa_cons (pv 1) pa_nil)))), ?_⟩
    refine ⟨_, rfl, t, _, dx, _, .ref a, rfl, ta.obj, T.k_Tuning, T.n_Tuning_level, rfl, a, rfl, ⟨_, W.t ta.lev⟩, forW (ItS.tup (SqT.of ta.lev)) W (fun i σ _ N => N = [] ∧ (∃ s2 s3, σ = [some (.ref t), some (.str x), s2, s3]) ∧ ∀ j, j < i → ∀ q, ts[j]? = some q → q.1 ≠ x) ⟨rfl, ⟨_, _, rfl⟩, fun _ h => absurd h (Nat.not_lt_zero _)⟩ ?_ ?_⟩
    · rintro i σ J0 N v J1 H1 hi e0 ⟨hN, ⟨s2, s3, rfl⟩, no⟩ e1 W hv
      rw [hN] at W
      obtain ⟨p, q, rfl, hq, hp⟩ := ta.pair (e0.trans e1) hv
      refine ⟨p, _, rfl, W.t hp, rfl, _, _, rfl, _, _, rfl, rfl, _, rfl, _, rfl, rfl, _, rfl, ite2 (fun h1 => ?_) (fun h1 => ?_)⟩
      · have h1 : q.1 = x := by
          have z := of_decide_eq_true h1
          injection z
        refine ⟨_, rfl, kQ q.2 ?_ _ (W.subN (e0.trans e1))⟩
        rw [pit_drop no]
        obtain ⟨hlt, go⟩ := List.getElem?_eq_some_iff.mp hq
        rw [List.drop_eq_getElem_cons hlt, go, pit, if_pos h1]
      · have h1 : q.1 ≠ x := fun z => h1 (decide_eq_true (congrArg V.str z))
        refine ⟨J1, _, e0.trans e1, W, rfl, ⟨_, _, rfl⟩, fun j hj z hz => ?_⟩
        by_cases e : j = i
        · subst e
          rw [hq] at hz
          cases hz
          exact h1
        · exact no j (by omega) z hz
    · rintro σ J N H1 e0 W ⟨hN, ⟨s2, s3, rfl⟩, no⟩
      rw [hN] at W
      rw [ta.len] at no
      have e : pit ts x = none := by
        rw [pit_drop no, List.drop_length]
        rfl
      exact ⟨_, rfl, rfl, fun d nd => (kE e).go W e0 d nd⟩
end

end Hd
namespace Hd
open PySem PySem.Spec PyProof.Rows L2 Lg Pu
/-! ### looks at tuples of ints; at tunings -/
def sp_row : Sp := fun vs H Q _ => ∃ (a b : Addr) (xs ys : List Int), vs = [.ref a, .ref b] ∧ H a = some (.tup (xs.map V.int)) ∧ H b = some (.tup (ys.map V.int)) ∧ xs.length ≤ 10000 ∧ ∀ H' : Hp, Sub H H' → Q (.bl (decide (xs = ys))) H'
def sp_is_tuning (K : PySem.W.Frag) : Sp := fun vs H Q _ => ∃ (t a b : Addr) (ts : List (Str × Int)) (ns : List Str) (ps : List Int), vs = [.ref t, .ref a, .ref b] ∧ Tun K H t ts ∧ H a = some (.lst (ns.map V.str)) ∧ H b = some (.lst (ps.map V.int)) ∧ ts.length ≤ 1000 ∧ (∀ x ∈ ns, PyData.strOk x = true) ∧
  ∀ H' : Hp, Sub H H' → Q (.bl (decide (ts.map (·.1) = ns) && decide (ts.map (·.2) = ps))) H'
theorem tup_ft (xs : List Int) : ∀ v ∈ xs.map V.int, FlV v := fun v hv => by
  obtain ⟨z, _, rfl⟩ := List.mem_map.mp hv
  exact .int z
theorem map_int_inj {xs ys : List Int} : xs.map V.int = ys.map V.int ↔ xs = ys := ⟨fun h => (List.map_inj_right (f := V.int) (by intro a b q; injection q)).mp h, fun h => by rw [h]⟩
section
variable {P : Program} {w : World} {K : PySem.W.Frag} {mg : Str → Option Value} {base : Heap}
theorem ok_row (T : Tx K mg) (G_l_is_int : Ok P w K mg base CX0 1 "_law_is_int" P_l_is_int sp_is_int) : Ok P w K mg base CX0 2 "_law_row" P_l_row sp_row := by
  obtain ⟨fd_l_is_int, G_l_is_int, b_l_is_int, g_l_is_int, k_l_is_int⟩ := G_l_is_int
  refine mkOk0 T.d_l_row T.g_l_row sc_l_row (fun _ _ _ _ _ _ us hl => match us, hl with | [_, _], _ => rfl) (fun vs H Q E h => ?_) (fun cdv A outer s H vs Q E hr h => ?_)
  · obtain ⟨a, b, xs, ys, rfl, _⟩ := h
    rfl
  · obtain ⟨a, b, xs, ys, rfl, ha, hb, hn, k⟩ := h
    have W := Wd.start H
    refine ⟨_, (pss_cons (ps_if (PW.pt (pw_or (pt_not (pt_val (pe_callB (kisi K) (by rfl) T.f_isinstance (by decide +kernel) (pa_cons (pv 0) (pa_cons (pe_bltn (v := .ty "tuple") (by rfl) T.f_tuple (by decide +kernel) rfl) pa_nil))))) (pw_or1 (pt_cmpR op_ne (pe_callB (klen K) (by rfl) T.f_len (by decide +kernel) (pa_cons (pv 0) pa_nil)) (pe_callB (klen K) (by rfl) T.f_len (by decide +kernel) (pa_cons (pv 1) pa_nil)) (nomark _))))) (pss_one (ps_ret pe_bl)) pss_nil)
      (pss_one (ps_ret (pe_and (pe_callB (kall K rfl) (by rfl) T.f_all (by decide +kernel) (pa_cons (pe_lc (own := [("_law_one", 2)]) rfl sc_l_row.nd (kpi_tup K (pv 0)) (blkOk_by (own := [("_law_one", 2)]) (N := N_l_row) (sc := defScope s_l_row) (by decide +kernel)) (fun _ _ _ _ _ => (pg_name (i := 2) sc_l_row.nd rfl (.inl rfl))) (fun _ _ _ _ _ => pts_nil) (fun _ _ _ _ _ => (pe_call G_l_is_int (hr.mono (by decide)) (by rfl) g_l_is_int k_l_is_int b_l_is_int .nil pass0 (pa_cons (pv 2) pa_nil)))) pa_nil)) (pe_one (pe_cmpR (keqD K hr.units) (pv 0) (pv 1) (nomark _))))))), ?_⟩
    refine ⟨_, rfl, .ref a, .ty "tuple", .type "tuple", .type "tuple", true, rfl, .ty "tuple", .base (.tup ha), kit_ty (by decide +kernel), true, rfl, _, rfl, a, _, rfl, .inr (W.t ha), _, rfl, b, _, rfl, .inr (W.t hb), rfl, _, rfl, ite2 (fun h1 => ?_) (fun h1 => ?_)⟩
    · have ne : xs ≠ ys := fun e => by
        subst e
        simp at h1
      have k := k H (Sub.refl H)
      rw [decide_eq_false ne] at k
      exact k
    · refine ⟨_, rfl, a, rfl, ⟨_, W.t ha⟩, lcW (ItS.tup (SqT.of ha)) W (fun i acc _ N => N = [] ∧ acc = (List.replicate i true).map V.bl) ⟨rfl, rfl⟩ ?_ ?_⟩
      · rintro D i acc J0 N x J1 H hi e0 ⟨hN, rfl⟩ l e1 W y
        rw [hN] at W
        have y : (xs.map V.int)[i]? = some x := y
        rw [List.getElem?_map] at y
        obtain ⟨z, hz, rfl⟩ := Option.map_eq_some_iff.mp y
        rw [List.length_map] at hi
        refine ⟨rfl, _, rfl, z, rfl, lc_yes (e0.trans e1) W l (by omega) ⟨rfl, ?_⟩⟩
        rw [List.replicate_succ', List.map_append]
        rfl
      · rintro D acc J1 N H e1 W ⟨hN, rfl⟩
        rw [hN] at W
        obtain ⟨J2, e2, hD, W⟩ := W.fz
        have ha2 := e2 _ _ (e1 _ _ ha)
        have hb2 := e2 _ _ (e1 _ _ hb)
        refine ⟨D, _, rfl, W.l hD, true, by simp, _, rfl, _, rfl, _, _, ft_dp (W.t ha2) (tup_ft xs), ft_dp (W.t hb2) (tup_ft ys), ft_sh (tup_ft xs), ft_sh (tup_ft ys), ?_⟩
        have e : PyData.eqv (.tuple ((xs.map V.int).map flD)) (.tuple ((ys.map V.int).map flD)) = decide (xs = ys) := by
          have q := ft_eq (tup_ft xs) (tup_ft ys)
          rw [map_int_inj] at q
          by_cases z : xs = ys
          · rw [decide_eq_true z, q.mpr z]
          · rw [decide_eq_false z]
            cases e : PyData.eqv (.tuple ((xs.map V.int).map flD)) (.tuple ((ys.map V.int).map flD)) with
            | false => rfl
            | true => exact absurd (q.mp e) z
        rw [e]
        exact k H (W.subN (e1.trans e2))
end
section
variable {w : World} {K : PySem.W.Frag} {mg : Str → Option Value} {base : Heap}
theorem ok_is_tuning (T : Tx K mg) (G_l_texts : Ok PP w K mg base CX0 1 "_law_texts" P_l_texts sp_texts) (G_l_row : Ok PP w K mg base CX0 2 "_law_row" P_l_row sp_row) (G_Tuning_names : Ox.OkM PP w K mg base CX0 1 "Tuning" "names" P_Tuning_names (sp_T_names K)) (G_Tuning_pitches : Ox.OkM PP w K mg base CX0 1 "Tuning" "pitches" P_Tuning_pitches (sp_T_pitches K)) : Ok PP w K mg base CX0 3 "_law_is_tuning" P_l_is_tuning (sp_is_tuning K) := by
  obtain ⟨fd_l_texts, G_l_texts, b_l_texts, g_l_texts, k_l_texts⟩ := G_l_texts
  obtain ⟨fd_l_row, G_l_row, b_l_row, g_l_row, k_l_row⟩ := G_l_row
  obtain ⟨fd1, G_Tuning_names, b_Tuning_names⟩ := G_Tuning_names
  obtain ⟨fd2, G_Tuning_pitches, b_Tuning_pitches⟩ := G_Tuning_pitches
  refine mkOk0 T.d_l_is_tuning T.g_l_is_tuning sc_l_is_tuning (fun _ _ _ _ _ _ us hl => match us, hl with | [_, _, _], _ => rfl) (fun vs H Q E h => ?_) (fun cdv A outer s H vs Q E hr h => ?_)
  · obtain ⟨t, a, b, ts, ns, ps, rfl, _⟩ := h
    rfl
  · obtain ⟨t, a, b, ts, ns, ps, rfl, ht, ha, hb, hn, hs, k⟩ := h
    obtain ⟨dx, p, vr, l, ta⟩ := ht.at_
    have W := Wd.start H
    refine ⟨_, (pss_cons (ps_if (pt_not (pt_val (pe_callB (kisi K) (by rfl) T.f_isinstance (by decide +kernel) (pa_cons (pv 0) (pa_cons (pe_glob (v := .ref (He.ga K "Tuning")) (by rfl) T.g_Tuning rfl) pa_nil))))) (pss_one (ps_ret pe_bl)) pss_nil)
      (pss_one (ps_ret (pe_and (pe_call G_l_texts (hr.mono (by decide)) (by rfl) g_l_texts k_l_texts b_l_texts .nil pass0 (pa_cons (pe_meth0 (pv 0) T.k_Tuning T.me_Tuning_names G_Tuning_names (hr.mono (by decide)) b_Tuning_names .nil pass0) (pa_cons (pv 1) pa_nil))) (pe_one (pe_call G_l_row (hr.mono (by decide)) (by rfl) g_l_row k_l_row b_l_row .nil pass0 (pa_cons (pe_meth0 (pv 0) T.k_Tuning T.me_Tuning_pitches G_Tuning_pitches (hr.mono (by decide)) b_Tuning_pitches .nil pass0) (pa_cons (pe_callTy (ktuple_of K) (by rfl) T.f_tuple (by decide +kernel) (pa_cons (pv 2) pa_nil)) pa_nil)))))))), ?_⟩
    refine ⟨_, rfl, .ref t, .ref (He.ga K "Tuning"), .ref (He.ga K "Tuning"), .ref (He.ga K "Tuning"), true, rfl, .own _, T.it_Tuning.ty T.k_Tuning ta.obj, Ow.kit_self _ _, true, rfl, ?_⟩
    refine ⟨_, rfl, t, dx, _, rfl, ta.obj, rfl, t, ts, rfl, ht, hn, fun H1 p1 e1 n1 => ?_⟩
    have hp1 := (nu_of n1).2
    refine ⟨_, rfl, p1, a, _, ns, rfl, hp1, e1 _ _ ha, by rw [List.length_map]; omega, fun x hx => ?_, hs, fun H2 e2 => ?_⟩
    · obtain ⟨q, hq, rfl⟩ := List.mem_map.mp hx
      exact (ht.nm q hq).ok
    refine ⟨_, rfl, ite2 (fun h1 => ?_) (fun h1 => ?_)⟩
    · rw [h1] at k
      have e02 := e1.trans e2
      have ht2 := ht.mono e02
      refine ⟨_, rfl, t, dx, _, rfl, e02 _ _ ta.obj, rfl, t, ts, rfl, ht2, hn, fun H3 p3 e3 n3 => ?_⟩
      have hp3 := (nu_of n3).2
      have hb3 := e3 _ _ (e02 _ _ hb)
      refine ⟨_, rfl, b, _, rfl, .inl ⟨SqL.of hb3, fun p4 n4 => ?_⟩⟩
      have W3 := Wd.start H3
      generalize hH : upd _ p4 _ = H4
      obtain ⟨J4, e4, hp4, W4⟩ := W3.new n4 hH
      have s4 : Sub H3 H4 := W4.subN e4
      refine ⟨p3, p4, _, ps, rfl, s4 _ _ hp3, W4.im _ _ hp4, by rw [List.length_map]; omega, fun H5 e5 => ?_⟩
      exact k _ (e02.trans (e3.trans (s4.trans e5)))
    · have h1 : decide (ts.map (·.1) = ns) = false := by simpa using h1
      rw [h1] at k
      exact k _ (e1.trans e2)
end

end Hd
namespace Hd
open PySem PySem.Spec PyProof.Rows L2 Lg Pu
/-! ### tunings made; names and pitches side by side -/
theorem tun_make {K : PySem.W.Frag} {H : Hp} {Q : Addr → Hp → Prop} {E : XK} {a b : Addr} {ns : List Str} {ps : List Int} (ha : H a = some (.lst (ns.map V.str))) (hb : H b = some (.lst (ps.map V.int))) (hs : ∀ n ∈ ns, n.length ≤ 100000) (hl : ns.length ≤ ps.length) (hm : ns.length ≤ 1000)
    (kQ : chk [] ns = none → ∀ H' x, Sub H H' → Tun K (Nu H H') x (ns.zip ps) → Q x H') (kE : ∀ c n, chk [] ns = some (c, n) → Rs K H E c [("name", .str n)]) :
    ∀ x dx, H x = none → H dx = none → dx ≠ x → sp_Tuning_init K [.ref x, .ref a, .ref b] (upd (upd H dx (.own x)) x (.ins (He.ga K "Tuning") dx [])) (fun v H2 => v = .non ∧ Q x H2) E := by
  intro x dx nx ndx ne
  have e : Sub H (off x (upd (upd H dx (.own x)) x (.ins (He.ga K "Tuning") dx []))) := fun p o h => by
    have n1 : p ≠ x := ne_of_none h nx
    have n2 : p ≠ dx := ne_of_none h ndx
    rw [off_at n1, upd_ne n1, upd_ne n2]
    exact h
  exact ⟨x, dx, a, b, ns, ps, rfl, upd_same, SqL.of (e _ _ ha), SqL.of (e _ _ hb), hs, hl, hm, fun c H' s t => ⟨rfl, kQ c H' x (e.trans s) (t.mono (nu_mono e))⟩, fun c n h H' d s q => kE c n h H' d (e.trans s) (nu_mono e _ _ q)⟩
theorem pit_zip : ∀ {ns : List Str} {ps : List Int} {i : Nat} {n : Str} {p : Int}, ns.Nodup → ns[i]? = some n → ps[i]? = some p → pit (ns.zip ps) n = some p
  | [], _, i, _, _, _, h, _ => by simp at h
  | _ :: _, [], i, _, _, _, _, h => by simp at h
  | m :: ns, q :: ps, 0, n, p, _, h1, h2 => by
    simp at h1 h2
    rw [List.zip_cons_cons, pit, if_pos h1, h2]
  | m :: ns, q :: ps, i + 1, n, p, nd, h1, h2 => by
    simp at h1 h2
    obtain ⟨n1, n2⟩ := List.nodup_cons.mp nd
    have ne : m ≠ n := fun e => n1 (e ▸ List.mem_of_getElem? h1)
    rw [List.zip_cons_cons, pit, if_neg ne]
    exact pit_zip n2 h1 h2
theorem zip_fst {ns : List Str} {ps : List Int} (h : ns.length = ps.length) : (ns.zip ps).map (·.1) = ns := List.map_fst_zip (Nat.le_of_eq h)
theorem zip_snd {ns : List Str} {ps : List Int} (h : ns.length = ps.length) : (ns.zip ps).map (·.2) = ps := List.map_snd_zip (Nat.le_of_eq h.symm)
theorem zip_len {ns : List Str} {ps : List Int} (h : ns.length = ps.length) : (ns.zip ps).length = ns.length := by rw [List.length_zip]; omega
/-- two lists, of texts and of numbers, as data -/
def dNP (ns : List Str) (ps : List Int) : PyData := .list [dS ns, dI ps]
theorem shaped_np {ns : List Str} {ps : List Int} (h : ∀ x ∈ ns, PyData.strOk x = true) : SeqAt.shaped (dNP ns ps) = true := by
  unfold SeqAt.shaped dNP dS dI
  simp only [PyData.canLay0, PyData.canLayAll0, lay_strs _ h, lay_ints, PyData.depth, PyData.depthAll, dep_strs, dep_ints]
  decide
theorem nb_np (ns : List Str) (ps : List Int) : nb (dNP ns ps) = true := by
  unfold dNP dS dI
  simp only [nb, nbA, nbA_str, nbA_int, Bool.and_self]
theorem eqv_np (ns : List Str) (ps : List Int) : PyData.eqv (dNP ns ps) (dNP ns ps) = true := (eqv_iff _ _ (nb_np ns ps) (nb_np ns ps)).mpr rfl
theorem atI_n0 {xs : List V} {i : Nat} {v : V} (h : xs[i]? = some v) : atI xs (0 + (i : Int)) = some v := by
  rw [Int.zero_add]
  exact atI_nat h
theorem atI_of {xs : List V} {r : Int} {v : V} (r0 : 0 ≤ r) (h : xs[r.toNat]? = some v) : atI xs r = some v := by
  have e : ((r.toNat : Nat) : Int) = r := by omega
  rw [← e]
  exact atI_nat h
theorem gV {ns : List Str} {i : Nat} {n : Str} (h : ns[i]? = some n) : (ns.map V.str)[i]? = some (.str n) := by rw [List.getElem?_map, h]; rfl
theorem gI {ns : List Int} {i : Nat} {n : Int} (h : ns[i]? = some n) : (ns.map V.int)[i]? = some (.int n) := by rw [List.getElem?_map, h]; rfl
theorem ahead {ns : List Str} {j : Nat} {n : Str} (nd : ns.Nodup) (h : ns[j]? = some n) : ∀ (m : Nat) (z : V), m < j → (ns.map V.str)[m]? = some z → eqV z (.str n) = false := by
  intro m z hm hz
  rw [List.getElem?_map] at hz
  obtain ⟨x, hx, rfl⟩ := Option.map_eq_some_iff.mp hz
  have ne : x ≠ n := fun e => by
    subst e
    obtain ⟨l1, g1⟩ := List.getElem?_eq_some_iff.mp hx
    obtain ⟨l2, g2⟩ := List.getElem?_eq_some_iff.mp h
    have := (List.getElem_inj nd).mp (g1.trans g2.symm)
    omega
  simp [eqV, ne]

end Hd
namespace Hd
open PySem PySem.Spec PyProof.Rows L2 Lg Pu
/-! ### numbers in texts -/
def figures : List Nat := TL.tl ("0123456789" : Str)
theorem mem_figures {c : Nat} : c ∈ figures ↔ 48 ≤ c ∧ c ≤ 57 := by
  have e : figures = (List.range 10).map (48 + ·) := by decide
  rw [e, List.mem_map]
  constructor
  · rintro ⟨a, h, rfl⟩
    have := List.mem_range.mp h
    omega
  · intro h
    exact ⟨c - 48, List.mem_range.mpr (by omega), by omega⟩
/-- the last look of is_number -/
def noLead (t : Str) : Bool := decide (V.str t = V.str "0") || !decide (V.str ⟨#[(TL.tl t).headD 0]⟩ = V.str "0")
/-- what is_number answers -/
def isNum (t : Str) : Bool := !decide (V.str t = V.str "") && (decide (t.length ≤ 40) && ((TL.tl t).all (fun c => decide (c ∈ figures)) && noLead t))
def valN (t : Str) : Int := ((NumText.digitsVal (TL.tl t) : Nat) : Int)
theorem isNum_val {t : Str} (h : isNum t = true) : PySem.intText? t = some (valN t) ∧ t.length ≤ 40 := by
  unfold isNum at h
  simp only [Bool.and_eq_true, decide_eq_true_eq, Bool.not_eq_true', decide_eq_false_iff_not] at h
  obtain ⟨h1, h2, h3, _⟩ := h
  refine ⟨intText_digits (fun c hc => ?_) ?_ (by omega), h2⟩
  · have := List.all_eq_true.mp h3 c hc
    exact mem_figures.mp (of_decide_eq_true this)
  · intro e
    refine h1 (congrArg V.str (tl_inj ?_))
    rw [show TL.tl t = [] from e]
    rfl
def drop1 (w : Str) : Str := cutS w (some (1 : Int)) none
/-- what read_pitch answers -/
def readP (w : Str) : Option Int :=
  if V.str (cutS w none (some (1 : Int))) = V.str "-" then (if isNum (drop1 w) = true ∧ ¬ V.str w = V.str "-0" then some (-(valN (drop1 w))) else none) else if isNum w = true then some (valN w) else none
def orNone : Option Int → V
  | some z => .int z
  | none => .non
def sp_is_number : Sp := fun vs H Q _ => ∃ t : Str, vs = [.str t] ∧ t.length ≤ sizeLine ∧ ∀ H', Sub H H' → Q (.bl (isNum t)) H'
def sp_read_pitch : Sp := fun vs H Q _ => ∃ w : Str, vs = [.str w] ∧ w.length ≤ sizeLine ∧ ∀ H', Sub H H' → Q (orNone (readP w)) H'
section
variable {P : Program} {w : World} {K : PySem.W.Frag} {mg : Str → Option Value} {base : Heap}
theorem ok_is_number (T : Tx K mg) : Ok P w K mg base CX0 1 "is_number" P_is_number sp_is_number := by
  refine mkOk0 T.d_is_number T.g_is_number sc_is_number (fun _ _ _ _ _ _ us hl => match us, hl with | [_], _ => rfl) (fun vs H Q E h => ?_) (fun cdv A outer s H vs Q E hr h => ?_)
  · obtain ⟨t, rfl, _⟩ := h
    rfl
  · obtain ⟨t, rfl, hl, k⟩ := h
    refine ⟨_, (pss_cons (ps_if (PW.pt (pw_or (pt_cmpR op_eq (pv 0) pe_str (nomark _)) (pw_or1 (pt_cmpR op_gt (pe_callB call_len_str (by rfl) T.f_len (by decide +kernel) (pa_cons (pv 0) pa_nil)) (pe_glob (v := .int (40)) (by rfl) T.i_MOST_FIGURES.choose_spec ⟨_, rfl⟩) (nomark _))))) (pss_one (ps_ret pe_bl)) pss_nil)
      (pss_cons (ps_for PassesOwn.never rfl (pi_str (pv 0)) (pg_name (i := 1) sc_is_number.nd rfl (.inl rfl)) (pss_one (ps_if (pt_cmpR op_notIn_sign (pv 1) (pe_glob (v := .str "0123456789") (by rfl) T.i_DIGITS.choose_spec ⟨_, rfl⟩) (by rfl)) (pss_one (ps_ret pe_bl)) pss_nil)))
      (pss_one (ps_ret (pe_or (pe_cmpR op_eq (pv 0) pe_str (nomark _)) (pe_one (pe_cmpR op_ne (pe_ix ix_str (pv 0) pe_int (fun _ _ => rfl)) pe_str (nomark _)))))))), ?_⟩
    refine ⟨_, rfl, rfl, _, rfl, ite2 (fun h1 => ?_) (fun h1 => ?_)⟩
    · have e : isNum t = false := by
        unfold isNum
        rw [h1]
        rfl
      rw [e] at k
      exact k _ (Sub.refl _)
    refine ⟨_, rfl, t, rfl, hl, _, _, rfl, rfl, _, rfl, ite2 (fun h2 => ?_) (fun h2 => ?_)⟩
    · have h2 := of_decide_eq_true h2
      have e : isNum t = false := by
        unfold isNum
        rw [decide_eq_false (p := t.length ≤ 40) (by omega)]
        simp
      rw [e] at k
      exact k _ (Sub.refl _)
    have h1 : decide (V.str t = V.str "") = false := by simpa using h1
    have h2 : ¬ ((t.length : Int) > 40) := fun q => h2 (decide_eq_true q)
    have W := Wd.start H
    refine ⟨_, rfl, t, rfl, forW ItS.str W (fun i σ J N => (∃ s1, σ = [some (.str t), s1]) ∧ ((TL.tl t).take i).all (fun c => decide (c ∈ figures)) = true) ⟨⟨_, rfl⟩, rfl⟩ ?_ ?_⟩
    · rintro i σ J0 N x J H hi e0 ⟨⟨s1, rfl⟩, all⟩ e1 W ⟨c, hc, rfl⟩
      have hc : (TL.tl t)[i]? = some c := hc
      refine ⟨_, rfl, c, ("0123456789" : Str), rfl, rfl, _, rfl, ite2 (fun h3 => ?_) (fun h3 => ?_)⟩
      · have e : isNum t = false := by
          unfold isNum
          have q : ((TL.tl t).all fun c => decide (c ∈ figures)) = false := by
            rw [List.all_eq_false]
            refine ⟨c, List.mem_of_getElem? hc, ?_⟩
            have z : (!decide (c ∈ figures)) = true := h3
            simpa using z
          rw [q]
          simp
        rw [e] at k
        exact k _ (W.subN (e0.trans e1))
      · have z : decide (c ∈ figures) = true := by
          have z : ¬ (!decide (c ∈ figures)) = true := h3
          simpa using z
        refine ⟨J, N, e0.trans e1, W, ⟨_, rfl⟩, ?_⟩
        rw [List.take_add_one, hc, List.all_append, all]
        simp [z]
    · rintro σ J N H e0 W ⟨⟨s1, rfl⟩, all⟩
      rw [List.take_length] at all
      have e : isNum t = noLead t := by
        unfold isNum
        rw [h1, decide_eq_true (p := t.length ≤ 40) (by omega), all]
        rfl
      rw [e] at k
      have ne : TL.tl t ≠ [] := fun q => by
        have : t = "" := tl_inj (by rw [q]; rfl)
        rw [this] at h1
        simp at h1
      obtain ⟨c, r, hcr⟩ := List.exists_cons_of_ne_nil ne
      refine ⟨_, rfl, rfl, _, rfl, ite2 (fun h3 => ?_) (fun h3 => ?_)⟩
      · unfold noLead at k
        rw [h3] at k
        exact k _ (W.subN e0)
      · refine ⟨_, rfl, t, 0, c, rfl, rfl, hl, ?_, rfl, ?_⟩
        · show atI (TL.tl t) 0 = some c
          rw [hcr]
          exact atI_nat (j := 0) rfl
        · unfold noLead at k
          have h3 : decide (V.str t = V.str "0") = false := by simpa using h3
          rw [h3, hcr] at k
          exact k _ (W.subN e0)
theorem ok_read_pitch (T : Tx K mg) (G_is_number : Ok P w K mg base CX0 1 "is_number" P_is_number sp_is_number) : Ok P w K mg base CX0 2 "read_pitch" P_read_pitch sp_read_pitch := by
  obtain ⟨fd1, G_is_number, b_is_number, g_is_number, k_is_number⟩ := G_is_number
  refine mkOk0 T.d_read_pitch T.g_read_pitch sc_read_pitch (fun _ _ _ _ _ _ us hl => match us, hl with | [_], _ => rfl) (fun vs H Q E h => ?_) (fun cdv A outer s H vs Q E hr h => ?_)
  · obtain ⟨t, rfl, _⟩ := h
    rfl
  · obtain ⟨t, rfl, hl, k⟩ := h
    have dl : (drop1 t).length ≤ sizeLine := by
      have e : (drop1 t).length = ((TL.tl t).drop 1).length := by
        rw [← tl_len]
        exact congrArg List.length (tl_cut_from t 1)
      rw [e, List.length_drop, tl_len]
      omega
    refine ⟨_, (pss_cons (ps_if (pt_cmpR op_eq (pe_slice sl_str (pv 0) po_none (po_some pe_int)) pe_str (nomark _)) (pss_cons (ps_if (PW.pt (pw_and (pt_val (pe_call G_is_number (hr.mono (by decide)) (by rfl) g_is_number k_is_number b_is_number .nil pass0 (pa_cons (pe_slice sl_str (pv 0) (po_some pe_int) po_none) pa_nil))) (pw_and1 (pt_cmpR op_ne (pv 0) pe_str (nomark _))))) (pss_one (ps_ret (pe_un un_neg (pe_callTy call_int_str (by rfl) T.f_int (by decide +kernel) (pa_cons (pe_slice sl_str (pv 0) (po_some pe_int) po_none) pa_nil))))) pss_nil)
      (pss_one (ps_ret pe_non))) pss_nil)
      (pss_cons (ps_if (pt_val (pe_call G_is_number (hr.mono (by decide)) (by rfl) g_is_number k_is_number b_is_number .nil pass0 (pa_cons (pv 0) pa_nil))) (pss_one (ps_ret (pe_callTy call_int_str (by rfl) T.f_int (by decide +kernel) (pa_cons (pv 0) pa_nil)))) pss_nil)
      (pss_one (ps_ret pe_non)))), ?_⟩
    refine ⟨_, rfl, _, rfl, _, rfl, hl, rfl, _, rfl, ite2 (fun h1 => ?_) (fun h1 => ?_)⟩
    · have h1 := of_decide_eq_true h1
      refine ⟨_, rfl, _, rfl, _, rfl, hl, drop1 t, rfl, dl, fun H1 e1 => ?_⟩
      refine ⟨_, rfl, ite2 (fun h2 => ?_) (fun h2 => ?_)⟩
      · refine ⟨_, rfl, rfl, _, rfl, ite2 (fun h3 => ?_) (fun h3 => ?_)⟩
        · have e : readP t = some (-(valN (drop1 t))) := by
            unfold readP
            rw [if_pos h1, if_pos ⟨h2, by simpa using h3⟩]
          rw [e] at k
          obtain ⟨v1, v2⟩ := isNum_val h2
          exact ⟨_, rfl, _, rfl, _, rfl, hl, drop1 t, _, rfl, v1, by omega, _, rfl, k _ e1⟩
        · have e : readP t = none := by
            unfold readP
            rw [if_pos h1, if_neg (fun q => h3 (by simpa using q.2))]
          rw [e] at k
          exact k _ e1
      · have e : readP t = none := by
          unfold readP
          rw [if_pos h1, if_neg (fun q => h2 q.1)]
        rw [e] at k
        exact k _ e1
    · have h1 : ¬ V.str (cutS t none (some (1 : Int))) = V.str "-" := fun q => h1 (decide_eq_true q)
      refine ⟨_, rfl, t, rfl, hl, fun H1 e1 => ?_⟩
      refine ⟨_, rfl, ite2 (fun h2 => ?_) (fun h2 => ?_)⟩
      · have e : readP t = some (valN t) := by
          unfold readP
          rw [if_neg h1, if_pos h2]
        rw [e] at k
        obtain ⟨v1, v2⟩ := isNum_val h2
        exact ⟨_, rfl, t, _, rfl, v1, by omega, k _ e1⟩
      · have e : readP t = none := by
          unfold readP
          rw [if_neg h1, if_neg h2]
        rw [e] at k
        exact k _ e1
end

end Hd
namespace Hd
open PySem PySem.Spec PyProof.Rows L2 Lg Pu
/-! ### Tuning.read -/
theorem first_occ {c : Nat} : ∀ {l : List Nat}, c ∈ l → ∃ s t, l = s ++ c :: t ∧ c ∉ s
  | [], h => nomatch h
  | x :: l, h => by
    by_cases e : x = c
    · exact ⟨[], l, by rw [e]; rfl, (fun h => nomatch h)⟩
    · have h : c ∈ l := by
        rcases List.mem_cons.mp h with h | h
        · exact absurd h.symm e
        · exact h
      obtain ⟨s, t, rfl, hs⟩ := first_occ h
      refine ⟨x :: s, t, rfl, fun m => ?_⟩
      rcases List.mem_cons.mp m with m | m
      · exact e m.symm
      · exact hs m
def eqs : Str := "="
theorem tl_eqs : TL.tl eqs = [61] := by decide
theorem part_cases (w : Str) : (61 ∉ TL.tl w ∧ Txt.partition w eqs = (w, Str.empty, Str.empty)) ∨ ∃ a b : Str, 61 ∉ TL.tl a ∧ w = a ++ eqs ++ b ∧ Txt.partition w eqs = (a, eqs, b) := by
  by_cases h : 61 ∈ TL.tl w
  · obtain ⟨s, t, e, hs⟩ := first_occ h
    have ew : w = (⟨s.toArray⟩ : Str) ++ eqs ++ (⟨t.toArray⟩ : Str) := by
      refine tl_inj ?_
      rw [TL.tl_append, TL.tl_append, tl_eqs, e, List.append_assoc]
      rfl
    refine .inr ⟨⟨s.toArray⟩, ⟨t.toArray⟩, hs, ew, ?_⟩
    conv => lhs; rw [ew]
    exact TL.partition_app (S := []) tl_eqs hs
  · exact .inl ⟨h, TL.partition_none (S := []) tl_eqs h⟩
theorem part_len (w : Str) : (Txt.partition w eqs).1.length ≤ w.length ∧ (Txt.partition w eqs).2.2.length ≤ w.length := by
  rcases part_cases w with ⟨_, e⟩ | ⟨a, b, _, ew, e⟩
  · rw [e]
    exact ⟨Nat.le_refl _, Nat.zero_le _⟩
  · have := congrArg Str.length ew
    rw [len_add, len_add] at this
    rw [e]
    constructor
    · show a.length ≤ _
      omega
    · show b.length ≤ _
      omega
theorem zip_self : ∀ ts : List (Str × Int), (ts.map (·.1)).zip (ts.map (·.2)) = ts
  | [] => rfl
  | q :: r => by
    rw [List.map_cons, List.map_cons, List.zip_cons_cons, zip_self r]
/-- one word more -/
def one (acc : List (Str × Int)) (w : Str) : Option (List (Str × Int)) := match readP (Txt.partition w eqs).2.2 with
  | none => none
  | some z => if V.str (Txt.partition w eqs).2.1 = V.str "" ∨ isName (Txt.partition w eqs).1 = false ∨ (Txt.partition w eqs).1 ∈ acc.map (·.1) then none else some (acc ++ [((Txt.partition w eqs).1, z)])
def rdW : List Str → List (Str × Int) → Option (List (Str × Int))
  | [], acc => some acc
  | w :: r, acc => (one acc w).bind (rdW r)
theorem rdW_app : ∀ (a b : List Str) (acc : List (Str × Int)), rdW (a ++ b) acc = (rdW a acc).bind (rdW b)
  | [], b, acc => rfl
  | w :: a, b, acc => by
    rw [List.cons_append, rdW, rdW]
    cases one acc w with
    | none => rfl
    | some x => exact rdW_app a b x
def wordsOf (t : Str) : List Str := if V.str t = V.str "" then [] else Txt.split t " "
def sp_T_read (K : PySem.W.Frag) : Sp := fun vs H Q E => ∃ t : Str, vs = [.str t] ∧ t.length ≤ 90000 ∧ (wordsOf t).length ≤ 1000 ∧ (∀ w ∈ wordsOf t, w.length ≤ 100000) ∧
  (∀ ts, rdW (wordsOf t) [] = some ts → ∀ H' x, Sub H H' → Tun K (Nu H H') x ts → Q (.ref x) H') ∧ (rdW (wordsOf t) [] = none → Rs K H E "BadText" [("text", .str t)])
section
variable {w : World} {K : PySem.W.Frag} {mg : Str → Option Value} {base : Heap}
theorem ok_T_read (T : Tx K mg) (G_is_name : Ok PP w K mg base CX0 1 "is_name" P_is_name sp_is_name) (G_read_pitch : Ok PP w K mg base CX0 2 "read_pitch" P_read_pitch sp_read_pitch) (G_Tuning_init : Ox.OkM PP w K mg base (L2.CX PP w) 2 "Tuning" "__init__" P_Tuning_init (sp_Tuning_init K)) :
    ∃ fd, FnOk PP w K mg base (L2.CX PP w) 4 (Hk.behind "Tuning" "read" K) fd P_Tuning_read (sp_T_read K) ∧ Binds K fd P_Tuning_read [] := by
  obtain ⟨_, G_is_name, b_is_name, g_is_name, k_is_name⟩ := G_is_name
  obtain ⟨_, G_read_pitch, b_read_pitch, g_read_pitch, k_read_pitch⟩ := G_read_pitch
  obtain ⟨_, G_Tuning_init, b_Tuning_init⟩ := G_Tuning_init
  obtain ⟨fd, F⟩ := T.d_Tuning_read
  refine ⟨fd, F.ok sc_Tuning_read (fun vs H Q E h => ?_) (fun cdv A outer s H vs Q E hr h => ?_), F.bindsN (fun _ _ _ _ _ _ us hl => match us, hl with | [_], _ => rfl)⟩
  · obtain ⟨t, rfl, _⟩ := h
    rfl
  · obtain ⟨t, rfl, lt, lw, lws, kQ, kE⟩ := h
    have W := Wd.start H
    refine ⟨_, (pss_cons (ps_set (i := 1) sc_Tuning_read.nd rfl (.inl rfl) (pe_lst pa_nil))
      (pss_cons (ps_set (i := 2) sc_Tuning_read.nd rfl (.inl rfl) (pe_lst pa_nil))
      (pss_cons (ps_set (i := 3) sc_Tuning_read.nd rfl (.inl rfl) (pe_lst pa_nil))
      (Evl.pss_cut (ps_if (pt_cmpR op_ne (pv 0) pe_str (nomark _)) (pss_one (ps_set (i := 3) sc_Tuning_read.nd rfl (.inl rfl) (kbm K PySem.F.plainAttrs_str PySem.F.slot_str_split PySem.F.type_str_split mt_split (pv 0) (pa_cons pe_str pa_nil)))) pss_nil)
      (pss_cons (ps_for (passes_of rfl) rfl (kpi_list K (pv 3)) (pg_name (i := 4) sc_Tuning_read.nd rfl (.inl rfl)) (pss_cons (ps_asg (kbm K PySem.F.plainAttrs_str PySem.F.slot_str_partition PySem.F.type_str_partition mt_partition (pv 4) (pa_cons pe_str pa_nil)) (kpg_tup K (n := 3) rfl (pgs_cons (pg_name (i := 5) sc_Tuning_read.nd rfl (.inl rfl)) (pgs_cons (pg_name (i := 6) sc_Tuning_read.nd rfl (.inl rfl)) (pgs_cons (pg_name (i := 7) sc_Tuning_read.nd rfl (.inl rfl)) pgs_nil)))))
      (pss_cons (ps_set (i := 8) sc_Tuning_read.nd rfl (.inl rfl) (pe_call G_read_pitch (hr.mono (by decide)) (by rfl) g_read_pitch k_read_pitch b_read_pitch .nil pass0 (pa_cons (pv 7) pa_nil)))
      (pss_cons (ps_if (PW.pt (pw_or (pt_cmpR op_eq (pv 6) pe_str (nomark _)) (pw_or (pt_cmpR op_isN (pv 8) pe_non (nomark _)) (pw_or (pt_not (pt_val (pe_call G_is_name (hr.mono (by decide)) (by rfl) g_is_name k_is_name b_is_name .nil pass0 (pa_cons (pv 5) pa_nil)))) (pw_or1 (pt_cmpR (kin K) (pv 5) (pv 1) (by rfl))))))) (pss_one (Fx.praise rfl (T.x_BadText w) hr (takes_of rfl rfl rfl rfl) (pa_cons (pv 0) pa_nil))) pss_nil)
      (pss_cons (ps_expr (kbm K PySem.F.plainAttrs_list PySem.F.slot_list_append PySem.F.type_list_append mt_append (pv 1) (pa_cons (pv 5) pa_nil)))
      (pss_one (ps_expr (kbm K PySem.F.plainAttrs_list PySem.F.slot_list_append PySem.F.type_list_append mt_append (pv 2) (pa_cons (pv 8) pa_nil)))))))))
      (pss_one (ps_ret (Ox.makeX T.mk_Tuning G_Tuning_init (hr.mono (by decide)) (by rfl) T.g_Tuning b_Tuning_init .nil (fun σ => passAt (takes_of rfl rfl rfl rfl) σ) (pa_cons (pv 1) (pa_cons (pv 2) pa_nil)))))))))), ?_⟩
    refine ⟨Nat.zero_le _, fun A1 nA1 => ?_⟩
    generalize hH : upd _ A1 _ = H1
    have W := W.newM nA1 hH
    refine ⟨Nat.zero_le _, fun A2 nA2 => ?_⟩
    generalize hH : upd _ A2 _ = H2
    have W := W.newM nA2 hH
    refine ⟨Nat.zero_le _, fun c0 nc0 => ?_⟩
    generalize hH : upd _ c0 _ = H3
    obtain ⟨J3, e3, hc0, W⟩ := W.new nc0 hH
    refine ⟨fun σ' H' => ∃ (J : Hp) (c : Addr), σ' = [some (.str t), some (.ref A1), some (.ref A2), some (.ref c), none, none, none, none, none] ∧ Sub H J ∧ Wd H' J [(A2, .lst []), (A1, .lst [])] ∧ J c = some (.lst ((wordsOf t).map V.str)), ?_, ?_⟩
    · refine ⟨_, rfl, rfl, _, rfl, ite2 (fun h1 => ?_) (fun h1 => ?_)⟩
      · have h1 : ¬ V.str t = V.str "" := by simpa using h1
        refine ⟨_, rfl, rfl, t, (" " : Str), rfl, rfl, rfl, sz (by omega), fun c nc => ?_⟩
        generalize hH : upd _ c _ = H4
        obtain ⟨J4, e4, hc, W⟩ := W.new nc hH
        refine ⟨J4, c, rfl, e3.trans e4, W, ?_⟩
        rw [hc]
        unfold wordsOf
        rw [if_neg h1]
      · have h1 : V.str t = V.str "" := by simpa using h1
        refine ⟨J3, c0, rfl, e3, W, ?_⟩
        rw [hc0]
        unfold wordsOf
        rw [if_pos h1]
        rfl
    clear W hc0
    rintro σ' H5 ⟨J5, c, rfl, e5, W, hc⟩
    generalize wordsOf t = ws at hc lw lws kQ kE
    refine ⟨_, rfl, c, rfl, ⟨_, W.l hc⟩, forW (ItS.list (SqL.of hc)) W (fun i σ J N => ∃ (acc : List (Str × Int)) (s4 s5 s6 s7 s8 : Option V), N = [(A2, .lst (acc.map fun q => V.int q.2)), (A1, .lst (acc.map fun q => V.str q.1))] ∧ rdW (ws.take i) [] = some acc ∧ acc.length ≤ i ∧ (∀ q ∈ acc, Nm q.1) ∧ (acc.map (·.1)).Nodup ∧ σ = [some (.str t), some (.ref A1), some (.ref A2), some (.ref c), s4, s5, s6, s7, s8]) ⟨[], _, _, _, _, _, rfl, rfl, Nat.le_refl _, (fun _ h => nomatch h), List.nodup_nil, rfl⟩ ?_ ?_⟩
    · rintro i σ J0 N v J6 H6 hi e0 ⟨acc, s4, s5, s6, s7, s8, hN, hr0, la, nma, nda, rfl⟩ e6 W hv
      rw [hN] at W
      rw [List.length_map] at hi
      have hv : (ws.map V.str)[i]? = some v := hv
      rw [List.getElem?_map] at hv
      obtain ⟨x, hx, rfl⟩ := Option.map_eq_some_iff.mp hv
      have lx := lws x (List.mem_of_getElem? hx)
      have tk : ws.take (i + 1) = ws.take i ++ [x] := by rw [List.take_add_one, hx]; rfl
      have dr : ws = ws.take i ++ x :: ws.drop (i + 1) := by
        obtain ⟨hlt, go⟩ := List.getElem?_eq_some_iff.mp hx
        rw [← go, ← List.drop_eq_getElem_cons hlt, List.take_append_drop]
      have bad : one acc x = none → rdW ws [] = none := fun h => by
        rw [dr, rdW_app, hr0]
        show rdW (x :: ws.drop (i + 1)) acc = none
        rw [rdW, h]
        rfl
      have good : ∀ y, one acc x = some y → rdW (ws.take (i + 1)) [] = some y := fun y h => by
        rw [tk, rdW_app, hr0]
        show rdW [x] acc = some y
        rw [rdW, h]
        rfl
      obtain ⟨pl1, pl2⟩ := part_len x
      refine ⟨_, rfl, rfl, x, eqs, rfl, rfl, rfl, sz lx, fun p np => ?_⟩
      generalize hH : upd _ p _ = H7
      obtain ⟨J7, e7, hp, W⟩ := W.new np hH
      have e57 := e5.trans (e0.trans (e6.trans e7))
      unfold one at bad good
      generalize Txt.partition x eqs = P3 at hp pl1 pl2 bad good
      obtain ⟨pn, ps, pq⟩ := P3
      have pl1 : pn.length ≤ x.length := pl1
      have pl2 : pq.length ≤ x.length := pl2
      refine ⟨p, _, rfl, W.t hp, rfl, _, _, rfl, _, _, rfl, _, _, rfl, rfl, ?_⟩
      refine ⟨_, rfl, pq, rfl, sz (by omega), fun H8 e8 => ?_⟩
      obtain ⟨J8, e8, _, W⟩ := W.graft e8
      have e58 := e57.trans e8
      refine ⟨_, rfl, rfl, _, rfl, ite2 (fun h1 => ?_) (fun h1 => ?_)⟩
      · have h1 : V.str ps = V.str "" := of_decide_eq_true h1
        refine ⟨_, rfl, rfl, fun d nd => (kE (bad ?_)).go W e58 d nd⟩
        show (match readP pq with | none => none | some z => if V.str ps = V.str "" ∨ isName pn = false ∨ pn ∈ acc.map (·.1) then none else some (acc ++ [(pn, z)])) = none
        cases readP pq with
        | none => rfl
        | some z => exact if_pos (.inl h1)
      have h1 : ¬ V.str ps = V.str "" := fun q => h1 (decide_eq_true q)
      cases hz : readP pq with
      | none =>
        refine ⟨_, rfl, rfl, _, rfl, ite2 (fun _ => ?_) (fun h2 => absurd (decide_eq_true rfl) h2)⟩
        refine ⟨_, rfl, rfl, fun d nd => (kE (bad ?_)).go W e58 d nd⟩
        show (match readP pq with | none => none | some z => _) = none
        rw [hz]
      | some z =>
        refine ⟨_, rfl, rfl, _, rfl, ite2 (fun h2 => (nomatch (of_decide_eq_true h2 : V.int z = V.non))) (fun _ => ?_)⟩
        have bad : (V.str ps = V.str "" ∨ isName pn = false ∨ pn ∈ acc.map (·.1)) → rdW ws [] = none := fun h => bad (by
          show (match readP pq with | none => none | some z => if V.str ps = V.str "" ∨ isName pn = false ∨ pn ∈ acc.map (·.1) then none else some (acc ++ [(pn, z)])) = none
          rw [hz]
          exact if_pos h)
        refine ⟨_, rfl, pn, rfl, sz (by omega), fun H9 e9 => ?_⟩
        obtain ⟨J9, e9, _, W⟩ := W.graft e9
        have e59 := e58.trans e9
        refine ⟨_, rfl, ite2 (fun h3 => ?_) (fun h3 => ?_)⟩
        · have h3 : isName pn = false := by simpa using h3
          exact ⟨_, rfl, rfl, fun d nd => (kE (bad (.inr (.inl h3)))).go W e59 d nd⟩
        have h3 : isName pn = true := by simpa using h3
        refine ⟨_, rfl, _, rfl, A1, _, rfl, .inl (SqL.of (W.get 1)), rfl, ?_, _, rfl, ?_⟩
        · have := flat_strs (acc.map (·.1))
          rw [List.map_map] at this
          exact this
        have ein : inV (.str pn) (acc.map fun q => V.str q.1) = decide (pn ∈ acc.map (·.1)) := by
          have := inV_str pn (acc.map (·.1))
          rw [List.map_map] at this
          exact this
        rw [ein]
        refine ite2 (fun h4 => ?_) (fun h4 => ?_)
        · exact ⟨_, rfl, rfl, fun d nd => (kE (bad (.inr (.inr (of_decide_eq_true h4))))).go W e59 d nd⟩
        have h4 : pn ∉ acc.map (·.1) := fun m => h4 (decide_eq_true m)
        have g : rdW (ws.take (i + 1)) [] = some (acc ++ [(pn, z)]) := good _ (by
          show (match readP pq with | none => none | some z => if V.str ps = V.str "" ∨ isName pn = false ∨ pn ∈ acc.map (·.1) then none else some (acc ++ [(pn, z)])) = some (acc ++ [(pn, z)])
          rw [hz]
          refine if_neg ?_
          rintro (h | h | h)
          · exact h1 h
          · rw [h3] at h
            cases h
          · exact h4 h)
        refine ⟨_, rfl, .inl ⟨rfl, _, SqL.of (W.get 1)⟩, _, rfl, A1, _, _, rfl, rfl, W.get 1, szl (by rw [List.length_map]; omega), wr_at W 1 fun H W => ?_⟩
        have W : Wd H J9 [(A2, .lst (acc.map fun q => V.int q.2)), (A1, .lst ((acc.map fun q => V.str q.1) ++ [.str pn]))] := W
        refine ⟨_, rfl, .inl ⟨rfl, _, SqL.of (W.get 0)⟩, _, rfl, A2, _, _, rfl, rfl, W.get 0, szl (by rw [List.length_map]; omega), wr_at W 0 fun H W => ?_⟩
        refine ⟨J9, _, e0.trans (e6.trans (e7.trans (e8.trans e9))), W, acc ++ [(pn, z)], _, _, _, _, _, ?_, g, ?_, ?_, ?_, rfl⟩
        · rw [List.map_append, List.map_append]
          rfl
        · rw [List.length_append]
          show acc.length + 1 ≤ i + 1
          omega
        · intro q hq
          rcases List.mem_append.mp hq with hq | hq
          · exact nma q hq
          · rcases List.mem_singleton.mp hq with rfl
            exact (isName_iff _).mp h3
        · rw [List.map_append]
          refine List.nodup_append.mpr ⟨nda, List.nodup_cons.mpr ⟨(fun h => nomatch h), List.nodup_nil⟩, fun x hx y hy e => ?_⟩
          rcases List.mem_singleton.mp hy with rfl
          exact h4 (e ▸ hx)
    · rintro σ J6 N H6 e6 W ⟨acc, s4, s5, s6, s7, s8, hN, hr0, la, nma, nda, rfl⟩
      rw [hN] at W
      rw [List.length_map] at la hr0
      rw [List.take_length] at hr0
      have e56 := e5.trans e6
      have sH : Sub H H6 := W.subN e56
      have hA1 : H6 A1 = some (.lst ((acc.map (·.1)).map V.str)) := by rw [W.get 1, List.map_map]; rfl
      have hA2 : H6 A2 = some (.lst ((acc.map (·.2)).map V.int)) := by rw [W.get 0, List.map_map]; rfl
      have nmA : ∀ x ∈ acc.map (·.1), Nm x := fun x hx => by
        obtain ⟨q, hq, rfl⟩ := List.mem_map.mp hx
        exact nma q hq
      refine ⟨_, rfl, _, rfl, tun_make hA1 hA2 (fun n hn => Nat.le_trans (nmA n hn).len (by decide)) (by rw [List.length_map, List.length_map]; omega) (by rw [List.length_map]; omega) (fun _ H7 x s7 t7 => ?_) (fun c n h => by rw [chk_good nmA nda] at h; cases h)⟩
      rw [zip_self] at t7
      exact kQ acc hr0 _ _ (sH.trans s7) (t7.mono (nu_mono sH))
end

end Hd
namespace Hd
open PySem PySem.Spec PyProof.Rows L2 Lg Pu
/-! ### tunings as texts -/
def numS (z : Int) : Str := Str.ofString (toString z)
/-- a word: name=pitch -/
def wd (q : Str × Int) : Str := q.1 ++ eqs ++ numS q.2
def Sml (z : Int) : Prop := -(10 ^ 31) < z ∧ z < 10 ^ 31
theorem Sml.log {z : Int} (h : Sml z) : z.natAbs.log2 < 1920 := by
  obtain ⟨h1, h2⟩ := h
  by_cases e : z.natAbs = 0
  · rw [e]
    decide
  · refine (Nat.log2_lt e).mpr (Nat.lt_of_lt_of_le (show z.natAbs < 10 ^ 31 by omega) ?_)
    calc 10 ^ 31 ≤ 2 ^ 128 := by decide
      _ ≤ 2 ^ 1920 := Nat.pow_le_pow_right (by decide) (by decide)
theorem numS_nat (n : Nat) : TL.tl (numS (n : Int)) = TL.numL n := TL.tl_num n
theorem numS_neg (n : Nat) : TL.tl (numS (-((n + 1 : Nat) : Int))) = 45 :: TL.numL (n + 1) := by
  have e : toString (-((n + 1 : Nat) : Int)) = "-" ++ toString ((n + 1 : Nat) : Int) := rfl
  have q : ∀ z : String, TL.tl (Str.ofString z) = z.toList.map Char.toNat := fun z => by
    rw [Str.ofString_eq_toList]
  unfold numS
  rw [e, q, String.toList_append, List.map_append, ← q (toString ((n + 1 : Nat) : Int)), TL.tl_num]
  rfl
/-- a number's text holds figures, perhaps a sign in front -/
theorem numS_signs (z : Int) : ∀ c ∈ TL.tl (numS z), c = 45 ∨ (48 ≤ c ∧ c ≤ 57) := by
  intro c hc
  rcases Int.le_total 0 z with h | h
  · obtain ⟨n, rfl⟩ := Int.eq_ofNat_of_zero_le h
    rw [numS_nat] at hc
    exact .inr (TL.numL_digits n c hc)
  · by_cases e : z = 0
    · subst e
      rw [show (0 : Int) = ((0 : Nat) : Int) from rfl, numS_nat] at hc
      exact .inr (TL.numL_digits 0 c hc)
    · obtain ⟨n, rfl⟩ : ∃ n : Nat, z = -((n + 1 : Nat) : Int) := ⟨(-z).toNat - 1, by omega⟩
      rw [numS_neg] at hc
      rcases List.mem_cons.mp hc with hc | hc
      · exact .inl hc
      · exact .inr (TL.numL_digits _ c hc)
theorem numL_head : ∀ n : Nat, 0 < n → (TL.numL n).headD 0 ≠ 48 := by
  intro n
  induction n using Nat.strongRecOn with
  | _ n ih =>
    intro h
    by_cases l : n < 10
    · rw [TL.numL_lt l]
      show 48 + n ≠ 48
      omega
    · rw [TL.numL_step (by omega)]
      have := ih (n / 10) (by omega) (by omega)
      have ne := TL.numL_ne (n / 10)
      obtain ⟨c, r, e⟩ := List.exists_cons_of_ne_nil ne
      rw [e] at this ⊢
      exact this
theorem isNum_of {t : Str} {n : Nat} (e : TL.tl t = TL.numL n) (l : n < 10 ^ 40) : isNum t = true ∧ valN t = n := by
  have ne := TL.numL_ne n
  have len := TL.numL_len (k := 40) (by decide) l
  constructor
  · unfold isNum
    have h1 : decide (V.str t = V.str "") = false := decide_eq_false fun q => by
      injection q with q
      rw [q] at e
      exact ne e.symm
    have h3 : ((TL.tl t).all fun c => decide (c ∈ figures)) = true := by
      rw [e]
      exact List.all_eq_true.mpr fun c hc => decide_eq_true (mem_figures.mpr (TL.numL_digits n c hc))
    have h4 : noLead t = true := by
      unfold noLead
      by_cases z : n = 0
      · subst z
        have : t = "0" := tl_inj (by rw [e]; rfl)
        rw [this]
        rfl
      · have hd := numL_head n (by omega)
        rw [e, Bool.or_eq_true]
        refine .inr ?_
        rw [decide_eq_false]
        · rfl
        · intro q
          injection q with q
          have q := congrArg TL.tl q
          injection q with q
          exact hd q
    rw [h1, h3, h4, decide_eq_true (by rw [← tl_len, e]; exact len)]
    rfl
  · unfold valN
    rw [e, TL.numL_val]
theorem tl_cut1 (z : Str) : TL.tl (cutS z none (some (1 : Int))) = (TL.tl z).take 1 := tl_cut_to z 1
theorem tl_drop1 (z : Str) : TL.tl (drop1 z) = (TL.tl z).drop 1 := tl_cut_from z 1
theorem read_num {z : Int} (h : Sml z) : readP (numS z) = some z := by
  obtain ⟨h1, h2⟩ := h
  unfold readP
  by_cases p : 0 ≤ z
  · obtain ⟨n, rfl⟩ := Int.eq_ofNat_of_zero_le p
    obtain ⟨i1, i2⟩ := isNum_of (numS_nat n) (by omega)
    rw [if_neg, if_pos i1, i2]
    intro q
    injection q with q
    have q := congrArg TL.tl q
    rw [tl_cut1, numS_nat] at q
    have ne := TL.numL_ne n
    obtain ⟨c, r, e⟩ := List.exists_cons_of_ne_nil ne
    have hd := TL.numL_digits n c (by rw [e]; exact List.mem_cons_self ..)
    rw [e] at q
    have q : [c] = [45] := q
    injection q with q
    omega
  · obtain ⟨n, rfl⟩ : ∃ n : Nat, z = -((n + 1 : Nat) : Int) := ⟨(-z).toNat - 1, by omega⟩
    have et : TL.tl (drop1 (numS (-((n + 1 : Nat) : Int)))) = TL.numL (n + 1) := by rw [tl_drop1, numS_neg]; rfl
    obtain ⟨i1, i2⟩ := isNum_of et (by omega)
    rw [if_pos, if_pos, i2]
    · refine ⟨i1, fun q => ?_⟩
      injection q with q
      have q := congrArg TL.tl q
      rw [numS_neg] at q
      have q : 45 :: TL.numL (n + 1) = [45, 48] := q
      injection q with _ q
      have hd := numL_head (n + 1) (by omega)
      rw [q] at hd
      exact hd rfl
    · refine congrArg V.str (tl_inj ?_)
      rw [tl_cut1, numS_neg]
      rfl
theorem numS_len {z : Int} (h : Sml z) : (numS z).length ≤ 33 := by
  obtain ⟨h1, h2⟩ := h
  rw [← tl_len]
  by_cases p : 0 ≤ z
  · obtain ⟨n, rfl⟩ := Int.eq_ofNat_of_zero_le p
    rw [numS_nat]
    exact Nat.le_trans (TL.numL_len (k := 32) (by decide) (by omega)) (by decide)
  · obtain ⟨n, rfl⟩ : ∃ n : Nat, z = -((n + 1 : Nat) : Int) := ⟨(-z).toNat - 1, by omega⟩
    rw [numS_neg, List.length_cons]
    have := TL.numL_len (n := n + 1) (k := 32) (by decide) (by omega)
    omega
/-- good pairs -/
structure Gp (q : Str × Int) : Prop where
  nm : Nm q.1
  sm : Sml q.2
theorem nm_no {t : Str} (h : Nm t) {c : Nat} (hc : c < 97) : c ∉ TL.tl t := fun m => by
  have := h.ab c m
  omega
theorem wd_tl (q : Str × Int) : TL.tl (wd q) = TL.tl q.1 ++ [61] ++ TL.tl (numS q.2) := by
  unfold wd
  rw [TL.tl_append, TL.tl_append, tl_eqs]
theorem wd_no {q : Str × Int} (h : Gp q) : 32 ∉ TL.tl (wd q) := by
  rw [wd_tl]
  intro m
  rcases List.mem_append.mp m with m | m
  · rcases List.mem_append.mp m with m | m
    · exact nm_no h.nm (by decide) m
    · exact absurd (List.mem_singleton.mp m) (by decide)
  · have := numS_signs q.2 32 m
    omega
theorem wd_len {q : Str × Int} (h : Gp q) : (wd q).length ≤ 46 := by
  have h1 := h.nm.hi
  have h2 := numS_len h.sm
  rw [← tl_len] at h2
  rw [← tl_len, wd_tl, List.length_append, List.length_append]
  show _ + 1 + _ ≤ 46
  omega
theorem one_wd {q : Str × Int} {acc : List (Str × Int)} (h : Gp q) (n : q.1 ∉ acc.map (·.1)) : one acc (wd q) = some (acc ++ [q]) := by
  unfold one
  have e : Txt.partition (wd q) eqs = (q.1, eqs, numS q.2) := TL.partition_app (S := []) tl_eqs (nm_no h.nm (by decide))
  rw [e]
  show (match readP (numS q.2) with | none => none | some z => if V.str eqs = V.str "" ∨ isName q.1 = false ∨ q.1 ∈ acc.map (·.1) then none else some (acc ++ [(q.1, z)])) = some (acc ++ [q])
  rw [read_num h.sm]
  refine if_neg ?_
  rintro (h1 | h1 | h1)
  · injection h1 with h1
    have := congrArg TL.tl h1
    rw [tl_eqs] at this
    cases this
  · rw [(isName_iff _).mpr h.nm] at h1
    cases h1
  · exact n h1
theorem rd_words : ∀ {ts acc : List (Str × Int)}, (∀ q ∈ ts, Gp q) → (acc.map (·.1) ++ ts.map (·.1)).Nodup → rdW (ts.map wd) acc = some (acc ++ ts)
  | [], acc, _, _ => by
    rw [List.append_nil]
    rfl
  | q :: r, acc, h, nd => by
    have n : q.1 ∉ acc.map (·.1) := fun m => (List.nodup_append.mp nd).2.2 q.1 m q.1 (List.mem_cons_self ..) rfl
    rw [List.map_cons, rdW, one_wd (h q (List.mem_cons_self ..)) n]
    show rdW (r.map wd) (acc ++ [q]) = _
    rw [rd_words (fun x hx => h x (List.mem_cons_of_mem _ hx)) (by
      rw [List.map_append, List.append_assoc]
      exact nd), List.append_assoc]
    rfl
def sp1 : Str := " "
def textT (ts : List (Str × Int)) : Str := Txt.join sp1 (ts.map wd)
theorem words_text {ts : List (Str × Int)} (h : ∀ q ∈ ts, Gp q) : wordsOf (textT ts) = ts.map wd := by
  unfold wordsOf
  cases ts with
  | nil => exact if_pos rfl
  | cons q r =>
    have e : Txt.split (textT (q :: r)) sp1 = (q :: r).map wd := TL.split_join (S := []) (s := 32) (by decide) (by decide +kernel) (by simp) (fun p hp => by
      obtain ⟨x, hx, rfl⟩ := List.mem_map.mp hp
      exact wd_no (h x hx))
    rw [if_neg]
    · exact e
    · intro z
      injection z with z
      rw [z] at e
      have e : [("" : Str)] = (q :: r).map wd := by
        rw [← e]
        decide +kernel
      rw [List.map_cons] at e
      injection e with e _
      have e := congrArg TL.tl e
      rw [wd_tl] at e
      have e := congrArg List.length e
      rw [List.length_append, List.length_append] at e
      have e : 0 = _ + 1 + _ := e
      omega
theorem joinL_len (s : List Nat) : ∀ l : List (List Nat), (∀ x ∈ l, x.length ≤ 46) → (TL.joinL s l).length ≤ l.length * (46 + s.length)
  | [], _ => by simp [TL.joinL]
  | [p], h => by
    have := h p (List.mem_cons_self ..)
    show p.length ≤ _
    rw [List.length_singleton]
    omega
  | p :: q :: r, h => by
    have h1 := h p (List.mem_cons_self ..)
    have ih := joinL_len s (q :: r) fun x hx => h x (List.mem_cons_of_mem _ hx)
    show (p ++ (s ++ TL.joinL s (q :: r))).length ≤ _
    rw [List.length_append, List.length_append, List.length_cons (a := p), Nat.succ_mul]
    omega
theorem text_len {ts : List (Str × Int)} (h : ∀ q ∈ ts, Gp q) (l : ts.length ≤ 100) : (textT ts).length ≤ 90000 := by
  have e : TL.tl (textT ts) = TL.joinL (TL.tl sp1) ((ts.map wd).map TL.tl) := by
    unfold textT
    rw [TL.join_eq, TL.tl_join]
  have z := joinL_len (TL.tl sp1) ((ts.map wd).map TL.tl) (fun x hx => by
    obtain ⟨y, hy, rfl⟩ := List.mem_map.mp hx
    obtain ⟨q, hq, rfl⟩ := List.mem_map.mp hy
    rw [tl_len]
    exact wd_len (h q hq))
  rw [← tl_len, e]
  rw [List.length_map, List.length_map] at z
  have : (TL.tl sp1).length = 1 := by decide
  rw [this] at z
  omega

end Hd
namespace Hd
open PySem PySem.Spec PyProof.Rows L2 Lg Pu
/-! ### str(tuning) -/
theorem emp_app (x : Str) : Str.empty ++ x = x := tl_inj (by rw [TL.tl_append]; rfl)
theorem sum46 : ∀ l : List Str, (∀ x ∈ l, x.length ≤ 46) → (l.map (·.length)).sum ≤ l.length * 46
  | [], _ => Nat.le_refl _
  | x :: l, h => by
    have h1 := h x (List.mem_cons_self ..)
    have ih := sum46 l fun y hy => h y (List.mem_cons_of_mem _ hy)
    rw [List.map_cons, List.sum_cons, List.length_cons, Nat.succ_mul]
    omega
theorem wds_sum {ts : List (Str × Int)} (h : ∀ q ∈ ts, Gp q) (l : ts.length ≤ 100) : ((ts.map wd).map (·.length)).sum + (ts.map wd).length * sp1.length ≤ 16777216 := by
  have := sum46 (ts.map wd) (fun x hx => by
    obtain ⟨q, hq, rfl⟩ := List.mem_map.mp hx
    exact wd_len (h q hq))
  rw [List.length_map] at this ⊢
  have e : sp1.length = 1 := rfl
  rw [e]
  omega
def sp_T_str (K : PySem.W.Frag) : Sp := fun vs H Q _ => ∃ (t : Addr) (ts : List (Str × Int)), vs = [.ref t] ∧ Tun K H t ts ∧ (∀ q ∈ ts, Gp q) ∧ ts.length ≤ 100 ∧ ∀ H', Sub H H' → Q (.str (textT ts)) H'
section
variable {w : World} {K : PySem.W.Frag} {mg : Str → Option Value} {base : Heap}
theorem ok_T_str (T : Tx K mg) : Ox.OkM PP w K mg base CX0 1 "Tuning" "__str__" P_Tuning_str (sp_T_str K) := by
  refine Ox.mkOkM0 T.d_Tuning_str sc_Tuning_str (fun _ _ _ _ _ _ us hl => match us, hl with | [_], _ => rfl) (fun vs H Q E h => ?_) (fun cdv A outer s H vs Q E hr h => ?_)
  · obtain ⟨t, ts, rfl, _⟩ := h
    rfl
  · obtain ⟨t, ts, rfl, ht, gp, hn, k⟩ := h
    obtain ⟨dx, a, vr, l, ta⟩ := ht.at_
    have W := Wd.start H
    refine ⟨_, (pss_one (ps_ret (kbm K PySem.F.plainAttrs_str PySem.F.slot_str_join PySem.F.type_str_join mt_join pe_str (pa_cons (pe_lc (own := [("name", 1), ("pitch", 2)]) rfl sc_Tuning_str.nd (kpi_tup K (kfld K (pv 0))) (blkOk_by (own := [("name", 1), ("pitch", 2)]) (N := N_Tuning_str) (sc := defScope s_Tuning_str) (by decide +kernel)) (fun _ _ _ _ _ => (kpg_tup K (n := 2) rfl (pgs_cons (pg_name (i := 1) sc_Tuning_str.nd rfl (.inl rfl)) (pgs_cons (pg_name (i := 2) sc_Tuning_str.nd rfl (.inl rfl)) pgs_nil)))) (fun _ _ _ _ _ => pts_nil) (fun _ _ _ _ _ => (pe_joined (.cons (pe_fmt (pv 1)) (.cons pe_str (.cons (pe_fmt (pv 2)) .nil)))))) pa_nil)))), ?_⟩
    refine ⟨rfl, _, rfl, t, _, dx, _, .ref a, rfl, ta.obj, T.k_Tuning, T.n_Tuning_level, rfl, a, rfl, ⟨_, W.t ta.lev⟩, lcW (te := fun σ H Q => tJs [tFmt (tVar 1), tC (V.str "="), tFmt (tVar 2)] Str.empty σ H fun out H1 => Q (V.str out) H1) (ItS.tup (SqT.of ta.lev)) W (fun i acc _ N => N = [] ∧ acc = ((ts.take i).map wd).map V.str) ⟨rfl, rfl⟩ ?_ ?_⟩
    · rintro D i acc J0 N v J1 H1 hi e0 ⟨hN, rfl⟩ ll e1 W hv
      rw [hN] at W
      obtain ⟨p, q, rfl, hq, hp⟩ := ta.pair (e0.trans e1) hv
      rw [ta.len] at hi
      have g := gp q (List.mem_of_getElem? hq)
      have l1 := g.nm.len
      have l2 := wd_len g
      have l3 : (q.1 ++ eqs).length ≤ 13 := by
        rw [len_add]
        show q.1.length + 1 ≤ 13
        omega
      have ev : Str.empty ++ q.1 ++ eqs ++ numS q.2 = wd q := by
        rw [emp_app]
        rfl
      refine ⟨p, _, rfl, W.t hp, rfl, _, _, rfl, _, _, rfl, rfl, rfl, _, rfl, .inl ⟨q.1, rfl, sz (by omega), q.1, rfl, (by rw [emp_app]; exact sz (by omega)), eqs, rfl, (by rw [emp_app]; exact sz (by omega)), _, rfl, .inr ⟨q.2, rfl, g.sm.log, numS q.2, rfl, (by rw [ev]; exact sz (by omega)), ?_⟩⟩⟩
      show ∃ acc, _
      rw [ev]
      refine lc_yes (e0.trans e1) W ll (by omega) ⟨rfl, ?_⟩
      rw [List.take_add_one, hq, List.map_append, List.map_append]
      rfl
    · rintro D acc J1 N H1 e1 W ⟨hN, rfl⟩
      rw [hN] at W
      rw [ta.len, List.take_length] at W
      refine ⟨sp1, D, ts.map wd, rfl, rfl, .inl (SqL.of W.hd), wds_sum gp hn, ?_⟩
      exact k _ (W.drop.subN e1)
end

end Hd
namespace Hd
open PySem PySem.Spec PyProof.Rows L2 Lg Pu
/-! ### texts of plain signs (as in k07a) -/
/-- all signs below 128 -/
def Asc (t : Str) : Prop := ∀ c ∈ TL.tl t, c < 128
theorem Nm.asc {t : Str} (h : Nm t) : Asc t := fun c hc => by
  have := h.ab c hc
  omega
theorem Asc.ok {t : Str} (h : Asc t) : PyData.strOk t = true := by
  unfold PyData.strOk
  refine Array.all_eq_true'.mpr fun c hc => ?_
  have q := h c (Array.mem_toList_iff.mpr hc)
  simp only [Bool.and_eq_true, decide_eq_true_eq]
  omega
theorem asc_up {c : Nat} (h : c < 128) : Unicode.upperOf c = [if 97 ≤ c ∧ c ≤ 122 then c - 32 else c] := by
  have q : ((List.range 128).all fun c => decide (Unicode.upperOf c = [if 97 ≤ c ∧ c ≤ 122 then c - 32 else c])) = true := by decide +kernel
  rw [List.all_eq_true] at q
  exact of_decide_eq_true (q c (List.mem_range.mpr h))
theorem tl_upper {t : Str} (h : Asc t) : TL.tl (Txt.upper t) = (TL.tl t).map fun c => if 97 ≤ c ∧ c ≤ 122 then c - 32 else c := by
  have e : TL.tl (Txt.upper t) = ((TL.tl t).map Unicode.upperOf).flatten := by
    show (placed t fun _ c => Unicode.upperOf c).toList = _
    unfold placed
    rw [Array.toList_flatten, Array.toList_mapIdx]
    refine congrArg List.flatten (List.ext_getElem? fun i => ?_)
    rw [List.getElem?_map, List.getElem?_mapIdx, List.getElem?_map, Option.map_map]
    rfl
  rw [e]
  unfold Asc at h
  revert h
  generalize TL.tl t = l
  intro h
  induction l with
  | nil => rfl
  | cons c r ih =>
    rw [List.map_cons, List.flatten_cons, asc_up (h c (List.mem_cons_self ..)), ih fun d hd => h d (List.mem_cons_of_mem _ hd)]
    rfl
theorem Asc.upper {t : Str} (h : Asc t) : Asc (Txt.upper t) ∧ (Txt.upper t).length = t.length := by
  constructor
  · intro c hc
    rw [tl_upper h] at hc
    obtain ⟨d, hd, rfl⟩ := List.mem_map.mp hc
    have := h d hd
    split <;> omega
  · rw [← tl_len, tl_upper h, List.length_map, tl_len]
theorem Asc.add {t u : Str} (h : Asc t) (g : Asc u) : Asc (t ++ u) := fun c hc => by
  rw [TL.tl_append] at hc
  rcases List.mem_append.mp hc with hc | hc
  · exact h c hc
  · exact g c hc
theorem cut_len (t : Str) (n : Nat) : (cutS t none (some (n : Int))).length ≤ n := by
  rw [← tl_len, tl_cut_to, List.length_take]
  omega
theorem Asc.rep {t : Str} (h : Asc t) (n : Nat) : Asc (Ox.repS t (n : Int)) := fun c hc => by
  rw [tl_rep] at hc
  obtain ⟨l, hl, hc⟩ := List.mem_flatten.mp hc
  rw [List.eq_of_mem_replicate hl] at hc
  exact h c hc
theorem rep_len (t : Str) (n : Nat) : (Ox.repS t (n : Int)).length = n * t.length := by
  rw [← tl_len, tl_rep, ← tl_len]
  induction n with
  | zero => simp
  | succ n ih =>
    rw [List.replicate_succ, List.flatten_cons, List.length_append, ih]
    rw [Nat.succ_mul]
    omega

end Hd
namespace Hd
open PySem PySem.Spec PyProof.Rows L2 Lg Pu
/-! ### k06: texts that are refused -/
def sp_refused (K : PySem.W.Frag) : Sp := fun vs H Q _ => ∃ t : Str, vs = [.str t] ∧ t.length ≤ 90000 ∧ (wordsOf t).length ≤ 1000 ∧ (∀ w ∈ wordsOf t, w.length ≤ 100000) ∧ rdW (wordsOf t) [] = none ∧ ∀ H', Sub H H' → Q (.bl true) H'
section
variable {w : World} {K : PySem.W.Frag} {mg : Str → Option Value} {base : Heap}
theorem ok_refused (T : Tx K mg) (G_Tuning_read : ∃ fd, FnOk PP w K mg base (L2.CX PP w) 4 (Hk.behind "Tuning" "read" K) fd P_Tuning_read (sp_T_read K) ∧ Binds K fd P_Tuning_read []) : Ok PP w K mg base CX0 6 "_law_refused" P_l_refused (sp_refused K) := by
  obtain ⟨fd1, G_Tuning_read, b_Tuning_read⟩ := G_Tuning_read
  refine mkOk0 T.d_l_refused T.g_l_refused sc_l_refused (fun _ _ _ _ _ _ us hl => match us, hl with | [_], _ => rfl) (fun vs H Q E h => ?_) (fun cdv A outer s H vs Q E hr h => ?_)
  · obtain ⟨t, rfl, _⟩ := h
    rfl
  · obtain ⟨t, rfl, lt, lw, lws, no, k⟩ := h
    refine ⟨_, (pss_cons (Fx.ptry K rfl rfl takes0 (fun W pn xe tk1 po1 => (pss_one (ps_expr (Ow.smeth (pe_glob (v := .ref (He.ga K "Tuning")) (by rfl) T.g_Tuning rfl) T.r_Tuning T.s_Tuning_read G_Tuning_read (hr.mono (by decide)) b_Tuning_read (fun σ => passAt tk1 σ) (pa_cons (pv 0) pa_nil)))))
      (.named (i := 1) sc_l_refused.nd rfl rfl ⟨rfl, by decide, .inl T.g_ForkError⟩ (fun a oe cls d pn hz hf => (pss_one (ps_ret (pe_and (pe_callB (Fx.kisX K hz hf) (by rfl) T.f_isinstance (by decide +kernel) (pa_cons (pv 1) (pa_cons (pe_glob (v := .ref (He.ga K "BadText")) (by rfl) T.g_BadText rfl) pa_nil))) (pe_and (pe_callB (Fx.kisX K hz hf) (by rfl) T.f_isinstance (by decide +kernel) (pa_cons (pv 1) (pa_cons (pe_bltn (v := .ty "ValueError") (by rfl) T.f_ValueError (by decide +kernel) rfl) pa_nil))) (pe_one (pe_cmpR op_eq (Fx.pfld (T.x_BadText w) (by decide) hz hf (pv 1)) (pv 0) (nomark _))))))))
      .nil))
      (pss_one (ps_ret pe_bl))), ?_⟩
    refine ⟨rfl, _, rfl, t, rfl, lt, lw, lws, fun ts e => (by rw [no] at e; cases e), fun _ H1 d s1 nw => ?_⟩
    have hd := (nu_of nw).2
    refine ⟨true, T.m_BadText_ForkError.1, fun _ a na => ?_, fun h => nomatch h⟩
    refine ⟨_, rfl, _, _, _, _, rfl, T.c_BadText.toExcC, .inr ⟨d, _, rfl, hd⟩, rfl, (fun u hu => hu), T.m_BadText_BadText.2, true, rfl, ite2 (fun _ => ?_) (fun h => absurd rfl h)⟩
    refine ⟨_, rfl, _, _, _, _, rfl, T.c_BadText.toExcC, .inr ⟨d, _, rfl, hd⟩, rfl, (fun u hu => hu), T.t_BadText_ValueError, true, rfl, ite2 (fun _ => ?_) (fun h => absurd rfl h)⟩
    refine ⟨_, rfl, rfl, rfl, d, _, _, rfl, hd, rfl, _, rfl, rfl, ?_⟩
    rw [decide_eq_true rfl]
    exact k _ s1
end

end Hd
namespace Hd
open PySem PySem.Spec PyProof.Rows L2 Lg Pu
/-! ### k06: words that cannot be read -/
theorem one_no {acc : List (Str × Int)} {x : Str} (h : 61 ∉ TL.tl x) : one acc x = none := by
  unfold one
  rw [TL.partition_none (S := []) tl_eqs h]
  show (match readP Str.empty with | none => none | some z => if V.str Str.empty = V.str "" ∨ isName x = false ∨ x ∈ acc.map (·.1) then none else some (acc ++ [(x, z)])) = none
  cases readP Str.empty with
  | none => rfl
  | some z => exact if_pos (.inl rfl)
theorem one_bad {acc : List (Str × Int)} {a b : Str} (h : 61 ∉ TL.tl a) (q : readP b = none ∨ isName a = false ∨ a ∈ acc.map (·.1)) : one acc (a ++ eqs ++ b) = none := by
  unfold one
  rw [TL.partition_app (S := []) tl_eqs h]
  show (match readP b with | none => none | some z => if V.str eqs = V.str "" ∨ isName a = false ∨ a ∈ acc.map (·.1) then none else some (acc ++ [(a, z)])) = none
  cases e : readP b with
  | none => rfl
  | some z =>
    rcases q with q | q | q
    · rw [q] at e
      cases e
    · exact if_pos (.inr (.inl q))
    · exact if_pos (.inr (.inr q))
theorem isNum_bad {t : Str} {c : Nat} (h : c ∈ TL.tl t) (n : ¬ (48 ≤ c ∧ c ≤ 57)) : isNum t = false := by
  have q : ((TL.tl t).all fun c => decide (c ∈ figures)) = false := by
    rw [List.all_eq_false]
    refine ⟨c, h, ?_⟩
    rw [decide_eq_false (fun m => n (mem_figures.mp m))]
    decide
  unfold isNum
  rw [q]
  simp
theorem isNum_long {t : Str} (h : 40 < t.length) : isNum t = false := by
  unfold isNum
  rw [decide_eq_false (p := t.length ≤ 40) (by omega)]
  simp
theorem isNum_nil : isNum "" = false := by
  unfold isNum
  rw [decide_eq_true rfl]
  rfl
theorem isNum_lead {t : Str} {c : Nat} {r : List Nat} (h : TL.tl t = 48 :: c :: r) : isNum t = false := by
  have q : noLead t = false := by
    unfold noLead
    rw [h]
    show (decide (V.str t = V.str "0") || !decide (V.str ⟨#[48]⟩ = V.str "0")) = false
    rw [decide_eq_false (fun e => by
      injection e with e
      rw [e] at h
      have h : [48] = 48 :: c :: r := h
      cases h), decide_eq_true (show V.str ⟨#[48]⟩ = V.str "0" from by decide +kernel)]
    rfl
  unfold isNum
  rw [q]
  simp
theorem cut1_minus {t : Str} (h : V.str (cutS t none (some (1 : Int))) = V.str "-") : (TL.tl t).take 1 = [45] := by
  injection h with h
  rw [← tl_cut1, h]
  rfl
theorem readP_none {t : Str} (h1 : (TL.tl t).take 1 ≠ [45]) (h2 : isNum t = false) : readP t = none := by
  unfold readP
  rw [if_neg (fun e => h1 (cut1_minus e)), if_neg (by rw [h2]; decide)]
theorem readP_minus {t : Str} (h2 : isNum (drop1 t) = false) (h3 : isNum t = false) : readP t = none := by
  unfold readP
  have n1 : ¬ (isNum (drop1 t) = true ∧ ¬ V.str t = V.str "-0") := fun q => by
    rw [h2] at q
    exact absurd q.1 (by decide)
  have n2 : ¬ isNum t = true := by rw [h3]; decide
  by_cases c : V.str (cutS t none (some (1 : Int))) = V.str "-"
  · rw [if_pos c, if_neg n1]
  · rw [if_neg c, if_neg n2]
/-- a bad sign behind the first place -/
theorem readP_in {t : Str} {c : Nat} (h : c ∈ (TL.tl t).drop 1) (n : ¬ (48 ≤ c ∧ c ≤ 57)) : readP t = none :=
  readP_minus (isNum_bad (by rw [tl_drop1]; exact h) n) (isNum_bad (List.mem_of_mem_drop h) n)

end Hd
namespace Hd
open PySem PySem.Spec PyProof.Rows L2 Lg Pu
/-! ### k06: spoilt texts, in plain Lean -/
theorem joinL_lenB (B : Nat) (s : List Nat) : ∀ l : List (List Nat), (∀ x ∈ l, x.length ≤ B) → (TL.joinL s l).length ≤ l.length * (B + s.length)
  | [], _ => by simp [TL.joinL]
  | [p], h => by
    have := h p (List.mem_cons_self ..)
    show p.length ≤ _
    rw [List.length_singleton]
    omega
  | p :: q :: r, h => by
    have h1 := h p (List.mem_cons_self ..)
    have ih := joinL_lenB B s (q :: r) fun x hx => h x (List.mem_cons_of_mem _ hx)
    show (p ++ (s ++ TL.joinL s (q :: r))).length ≤ _
    rw [List.length_append, List.length_append, List.length_cons (a := p), Nat.succ_mul]
    omega
theorem tl_text (l : List Str) : TL.tl (Txt.join sp1 l) = TL.joinL [32] (l.map TL.tl) := by
  rw [TL.join_eq, TL.tl_join]
  rfl
/-- a text that cannot be read -/
structure Bd (t : Str) : Prop where
  len : t.length ≤ 90000
  wl : (wordsOf t).length ≤ 1000
  ws : ∀ w ∈ wordsOf t, w.length ≤ 100000
  no : rdW (wordsOf t) [] = none
theorem Bd.of {l : List Str} (ll : l.length ≤ 10) (hl : ∀ x ∈ l, x.length ≤ 6000 ∧ 32 ∉ TL.tl x) (ne : ∃ x ∈ l, 0 < x.length) (no : rdW l [] = none) : Bd (Txt.join sp1 l) := by
  obtain ⟨x0, hx0, p0⟩ := ne
  have lne : l ≠ [] := fun e => by rw [e] at hx0; cases hx0
  have e : Txt.split (Txt.join sp1 l) sp1 = l := TL.split_join (S := []) (s := 32) (by decide) (by decide +kernel) lne (fun p hp => (hl p hp).2)
  have ew : wordsOf (Txt.join sp1 l) = l := by
    unfold wordsOf
    rw [if_neg]
    · exact e
    · intro z
      injection z with z
      rw [z] at e
      have e : [("" : Str)] = l := by
        rw [← e]
        decide +kernel
      rw [← e] at hx0
      rcases List.mem_singleton.mp hx0 with rfl
      exact absurd p0 (by decide)
  have tl := joinL_lenB 6000 [32] (l.map TL.tl) (fun x hx => by
    obtain ⟨y, hy, rfl⟩ := List.mem_map.mp hx
    rw [tl_len]
    exact (hl y hy).1)
  rw [← tl_text, tl_len, List.length_map] at tl
  have tl : (Txt.join sp1 l).length ≤ l.length * 6001 := tl
  refine ⟨by omega, by rw [ew]; omega, fun w hw => ?_, by rw [ew]; exact no⟩
  rw [ew] at hw
  have := (hl w hw).1
  omega
/-- good words, then one that is refused -/
theorem rd_bad {f : List (Str × Int)} {x : Str} {r : List Str} (gp : ∀ q ∈ f, Gp q) (nd : (f.map (·.1)).Nodup) (h : one f x = none) : rdW (f.map wd ++ x :: r) [] = none := by
  rw [rdW_app, rd_words (acc := []) gp nd]
  show rdW (x :: r) f = none
  rw [rdW, h]
  rfl
theorem one_gp {acc : List (Str × Int)} {q : Str × Int} (h : Gp q) : (q.1 ∈ acc.map (·.1) ∧ one acc (wd q) = none) ∨ (q.1 ∉ acc.map (·.1) ∧ one acc (wd q) = some (acc ++ [q])) := by
  by_cases m : q.1 ∈ acc.map (·.1)
  · exact .inl ⟨m, one_bad (nm_no h.nm (by decide)) (.inr (.inr m))⟩
  · exact .inr ⟨m, one_wd h m⟩
theorem rd_dup : ∀ {ts acc : List (Str × Int)}, (∀ q ∈ ts, Gp q) → (acc.map (·.1)).Nodup → ¬ (acc.map (·.1) ++ ts.map (·.1)).Nodup → rdW (ts.map wd) acc = none
  | [], acc, _, nd, n => absurd (by rw [List.map_nil, List.append_nil]; exact nd) n
  | q :: r, acc, h, nd, n => by
    rw [List.map_cons, rdW]
    rcases one_gp (acc := acc) (h q (List.mem_cons_self ..)) with ⟨m, e⟩ | ⟨m, e⟩
    · rw [e]
      rfl
    · rw [e]
      refine rd_dup (fun x hx => h x (List.mem_cons_of_mem _ hx)) ?_ ?_
      · rw [List.map_append, List.nodup_append]
        refine ⟨nd, by simp, fun a ha b hb => ?_⟩
        rcases List.mem_singleton.mp hb with rfl
        intro e
        have e : a = q.1 := e
        rw [e] at ha
        exact m ha
      · rw [List.map_append, List.append_assoc]
        exact n
section
variable {ts f r : List (Str × Int)} {q : Str × Int}
theorem wd_pos (q : Str × Int) : 0 < (wd q).length := by
  rw [← tl_len, wd_tl, List.length_append, List.length_append]
  show 0 < _ + 1 + _
  omega
theorem wds_ok (gp : ∀ q ∈ ts, Gp q) : ∀ x ∈ ts.map wd, x.length ≤ 6000 ∧ 32 ∉ TL.tl x := fun x hx => by
  obtain ⟨q, hq, rfl⟩ := List.mem_map.mp hx
  exact ⟨Nat.le_trans (wd_len (gp q hq)) (by decide), wd_no (gp q hq)⟩
/-- one word bent into another -/
theorem bd_word {x : Str} (gp : ∀ p ∈ f ++ q :: r, Gp p) (nd : ((f ++ q :: r).map (·.1)).Nodup) (ll : (f ++ q :: r).length ≤ 8) (hx : x.length ≤ 6000 ∧ 32 ∉ TL.tl x) (p : 0 < x.length) (no : one f x = none) : Bd (Txt.join sp1 (f.map wd ++ x :: r.map wd)) := by
  have gf : ∀ p ∈ f, Gp p := fun p hp => gp p (List.mem_append_left _ hp)
  have gr : ∀ p ∈ r, Gp p := fun p hp => gp p (List.mem_append_right _ (List.mem_cons_of_mem _ hp))
  rw [List.map_append] at nd
  refine Bd.of ?_ (fun y hy => ?_) ⟨x, List.mem_append_right _ (List.mem_cons_self ..), p⟩ (rd_bad gf (List.nodup_append.mp nd).1 no)
  · simp only [List.length_append, List.length_cons, List.length_map] at ll ⊢
    omega
  · rcases List.mem_append.mp hy with hy | hy
    · exact wds_ok gf y hy
    · rcases List.mem_cons.mp hy with rfl | hy
      · exact hx
      · exact wds_ok gr y hy
/-- name = something -/
theorem bd_num {b : Str} (gp : ∀ p ∈ f ++ q :: r, Gp p) (nd : ((f ++ q :: r).map (·.1)).Nodup) (ll : (f ++ q :: r).length ≤ 8) (lb : b.length ≤ 5500) (hb : 32 ∉ TL.tl b) (no : readP b = none) : Bd (Txt.join sp1 (f.map wd ++ (q.1 ++ eqs ++ b) :: r.map wd)) := by
  have g : Gp q := gp q (List.mem_append_right _ (List.mem_cons_self ..))
  have h1 : q.1.length ≤ 12 := g.nm.len
  have h2 : (q.1 ++ eqs ++ b).length = q.1.length + 1 + b.length := by
    rw [len_add, len_add]
    rfl
  refine bd_word gp nd ll ⟨by omega, ?_⟩ (by omega) (one_bad (nm_no g.nm (by decide)) (.inl no))
  rw [TL.tl_append, TL.tl_append, tl_eqs]
  intro m
  rcases List.mem_append.mp m with m | m
  · rcases List.mem_append.mp m with m | m
    · exact nm_no g.nm (by decide) m
    · exact absurd (List.mem_singleton.mp m) (by decide)
  · exact hb m
theorem num_cons (z : Int) : ∃ c l, TL.tl (numS z) = c :: l := by
  refine List.exists_cons_of_ne_nil ?_
  rcases Int.le_total 0 z with h | h
  · obtain ⟨n, rfl⟩ := Int.eq_ofNat_of_zero_le h
    rw [numS_nat]
    exact TL.numL_ne n
  · by_cases e : z = 0
    · subst e
      rw [show (0 : Int) = ((0 : Nat) : Int) from rfl, numS_nat]
      exact TL.numL_ne 0
    · obtain ⟨n, rfl⟩ : ∃ n : Nat, z = -((n + 1 : Nat) : Int) := ⟨(-z).toNat - 1, by omega⟩
      rw [numS_neg]
      exact List.cons_ne_nil _ _
theorem num_no (z : Int) {c : Nat} (h : c < 45 ∨ 57 < c) : c ∉ TL.tl (numS z) := fun m => by
  have := numS_signs z c m
  omega
/-- the number's bent form: `c` in front -/
theorem bd_front {c : Nat} {b : Str} (gp : ∀ p ∈ f ++ q :: r, Gp p) (nd : ((f ++ q :: r).map (·.1)).Nodup) (ll : (f ++ q :: r).length ≤ 8) (eb : TL.tl b = c :: TL.tl (numS q.2)) (hc : c = 43 ∨ c = 61 ∨ c = 48) : Bd (Txt.join sp1 (f.map wd ++ (q.1 ++ eqs ++ b) :: r.map wd)) := by
  have g : Gp q := gp q (List.mem_append_right _ (List.mem_cons_self ..))
  have hl := numS_len g.sm
  rw [← tl_len] at hl
  refine bd_num gp nd ll ?_ ?_ (readP_none ?_ ?_)
  · rw [← tl_len, eb, List.length_cons]
    omega
  · rw [eb]
    intro m
    rcases List.mem_cons.mp m with m | m
    · omega
    · exact num_no _ (by decide) m
  · rw [eb]
    intro h
    have h : [c] = [45] := h
    injection h with h
    omega
  · by_cases h : c = 48
    · subst h
      obtain ⟨d, l, e⟩ := num_cons q.2
      exact isNum_lead (by rw [eb, e])
    · exact isNum_bad (c := c) (by rw [eb]; exact List.mem_cons_self ..) (by omega)
/-- an empty word -/
theorem bd_empty (gp : ∀ p ∈ f ++ r, Gp p) (nd : ((f ++ r).map (·.1)).Nodup) (ll : (f ++ r).length ≤ 8) (ne : f ++ r ≠ []) : Bd (Txt.join sp1 (f.map wd ++ Str.empty :: r.map wd)) := by
  have gf : ∀ p ∈ f, Gp p := fun p hp => gp p (List.mem_append_left _ hp)
  have gr : ∀ p ∈ r, Gp p := fun p hp => gp p (List.mem_append_right _ hp)
  rw [List.map_append] at nd
  refine Bd.of ?_ (fun y hy => ?_) ?_ (rd_bad gf (List.nodup_append.mp nd).1 (one_no (by decide)))
  · simp only [List.length_append, List.length_cons, List.length_map] at ll ⊢
    omega
  · rcases List.mem_append.mp hy with hy | hy
    · exact wds_ok gf y hy
    · rcases List.mem_cons.mp hy with rfl | hy
      · exact ⟨by decide, by decide⟩
      · exact wds_ok gr y hy
  · obtain ⟨q, hq⟩ := List.exists_mem_of_ne_nil _ ne
    refine ⟨wd q, ?_, wd_pos q⟩
    rcases List.mem_append.mp hq with h | h
    · exact List.mem_append_left _ (List.mem_map.mpr ⟨q, h, rfl⟩)
    · exact List.mem_append_right _ (List.mem_cons_of_mem _ (List.mem_map.mpr ⟨q, h, rfl⟩))
/-- a name twice -/
theorem bd_dup (gp : ∀ p ∈ ts, Gp p) (ll : ts.length ≤ 8) (nd : ¬ (ts.map (·.1)).Nodup) : Bd (textT ts) := by
  refine Bd.of (by rw [List.length_map]; omega) (wds_ok gp) ?_ (rd_dup (acc := []) gp List.nodup_nil nd)
  cases ts with
  | nil => exact absurd List.nodup_nil nd
  | cons q r => exact ⟨wd q, List.mem_cons_self .., wd_pos q⟩
end
theorem joinL_cons {s p : List Nat} : ∀ {l : List (List Nat)}, l ≠ [] → TL.joinL s (p :: l) = p ++ (s ++ TL.joinL s l)
  | [], h => absurd rfl h
  | q :: r, _ => rfl
theorem joinL_snoc {s x : List Nat} : ∀ {l : List (List Nat)}, l ≠ [] → TL.joinL s (l ++ [x]) = TL.joinL s l ++ (s ++ x)
  | [], h => absurd rfl h
  | [p], _ => rfl
  | p :: q :: r, _ => by
    rw [List.cons_append, joinL_cons (by simp), joinL_snoc (List.cons_ne_nil _ _), joinL_cons (List.cons_ne_nil _ _)]
    simp only [List.append_assoc]
theorem joinL_last {s x y : List Nat} : ∀ l : List (List Nat), TL.joinL s (l ++ [x]) ++ y = TL.joinL s (l ++ [x ++ y])
  | [] => rfl
  | p :: l => by
    rw [List.cons_append, List.cons_append, joinL_cons (by simp), joinL_cons (by simp), ← joinL_last l]
    simp only [List.append_assoc]
theorem joinL_two {s x y : List Nat} {r : List (List Nat)} : ∀ l : List (List Nat), TL.joinL s (l ++ (x ++ (s ++ y)) :: r) = TL.joinL s (l ++ x :: y :: r)
  | [] => by
    cases r with
    | nil => rfl
    | cons z r =>
      rw [List.nil_append, List.nil_append, joinL_cons (List.cons_ne_nil z r), joinL_cons (p := x) (List.cons_ne_nil y (z :: r)), joinL_cons (p := y) (List.cons_ne_nil z r)]
      simp only [List.append_assoc]
  | p :: l => by
    rw [List.cons_append, List.cons_append, joinL_cons (by simp), joinL_cons (by simp), joinL_two l]
section
variable {ts f r : List (Str × Int)} {q : Str × Int}
theorem join_blank {l : List Str} (h : l ≠ []) : Txt.join sp1 l ++ sp1 = Txt.join sp1 (l ++ [Str.empty]) := tl_inj (by
  rw [TL.tl_append, tl_text, tl_text, List.map_append]
  show _ = TL.joinL [32] (List.map TL.tl l ++ [[]])
  rw [joinL_snoc (by simpa using h)]
  rfl)
theorem join_last (l : List Str) (x y : Str) : Txt.join sp1 (l ++ [x]) ++ y = Txt.join sp1 (l ++ [x ++ y]) := tl_inj (by
  rw [TL.tl_append, tl_text, tl_text, List.map_append, List.map_append]
  show TL.joinL [32] (List.map TL.tl l ++ [TL.tl x]) ++ TL.tl y = TL.joinL [32] (List.map TL.tl l ++ [TL.tl (x ++ y)])
  rw [joinL_last, TL.tl_append])
theorem join_two (l r : List Str) (x y : Str) : Txt.join sp1 (l ++ (x ++ sp1 ++ y) :: r) = Txt.join sp1 (l ++ x :: y :: r) := tl_inj (by
  rw [tl_text, tl_text, List.map_append, List.map_append, List.map_cons, List.map_cons, List.map_cons, TL.tl_append, TL.tl_append, List.append_assoc]
  exact joinL_two _)
theorem bd_blank (gp : ∀ p ∈ ts, Gp p) (nd : (ts.map (·.1)).Nodup) (ll : ts.length ≤ 8) (ne : ts ≠ []) : Bd (textT ts ++ sp1) := by
  unfold textT
  rw [join_blank (by simpa using ne)]
  exact bd_empty (r := []) (by rw [List.append_nil]; exact gp) (by rw [List.append_nil]; exact nd) (by rw [List.append_nil]; exact ll) (by rw [List.append_nil]; exact ne)
def nl : Str := "\n"
theorem bd_feed (gp : ∀ p ∈ ts, Gp p) (nd : (ts.map (·.1)).Nodup) (ll : ts.length ≤ 8) (ne : ts ≠ []) : Bd (textT ts ++ nl) := by
  obtain ⟨f, q, rfl⟩ : ∃ f q, ts = f ++ [q] := ⟨ts.dropLast, ts.getLast ne, (List.dropLast_concat_getLast ne).symm⟩
  have g : Gp q := gp q (List.mem_append_right _ (List.mem_cons_self ..))
  unfold textT
  rw [List.map_append]
  show Bd (Txt.join sp1 (f.map wd ++ [wd q]) ++ nl)
  rw [join_last]
  have e : wd q ++ nl = q.1 ++ eqs ++ (numS q.2 ++ nl) := tl_inj (by
    unfold wd
    simp only [TL.tl_append, List.append_assoc])
  rw [e]
  have h2 := numS_len g.sm
  have ln : nl.length = 1 := rfl
  have tn : TL.tl nl = [10] := by decide
  refine bd_num (r := []) gp nd ll (by rw [len_add]; omega) ?_ (readP_in (c := 10) ?_ (by decide))
  · rw [TL.tl_append, tn]
    intro m
    rcases List.mem_append.mp m with m | m
    · exact num_no _ (by decide) m
    · exact absurd (List.mem_singleton.mp m) (by decide)
  · obtain ⟨c, l, e⟩ := num_cons q.2
    rw [TL.tl_append, tn, e]
    exact List.mem_append_right _ (List.mem_cons_self ..)
/-- the words that `_law_spoilt` makes of a word -/
def bent (q : Str × Int) : List Str := [Txt.upper (wd q), q.1 ++ "=+" ++ numS q.2, q.1 ++ "=-0", q.1 ++ "=0" ++ numS q.2, wd q ++ sp1 ++ wd q, q.1 ++ numS q.2, q.1 ++ "==" ++ numS q.2, q.1 ++ eqs, eqs ++ numS q.2, q.1 ++ eqs ++ Ox.repS "1" (41 : Int), sp1 ++ wd q]
theorem app_mid {a b c d : Str} (h : TL.tl b = 61 :: TL.tl d) : a ++ b ++ c = a ++ eqs ++ (d ++ c) := tl_inj (by
  simp only [TL.tl_append, List.append_assoc, tl_eqs, h]
  rfl)
theorem wd_asc (h : Gp q) : Asc (wd q) := fun c hc => by
  rw [wd_tl] at hc
  rcases List.mem_append.mp hc with hc | hc
  · rcases List.mem_append.mp hc with hc | hc
    · exact h.nm.asc c hc
    · rw [List.mem_singleton.mp hc]
      decide
  · have := numS_signs q.2 c hc
    omega
theorem upper_wd (h : Gp q) : Txt.upper (wd q) = Txt.upper q.1 ++ eqs ++ numS q.2 := tl_inj (by
  rw [tl_upper (wd_asc h), wd_tl, List.map_append, List.map_append, TL.tl_append, TL.tl_append, tl_upper h.nm.asc, tl_eqs]
  have e : (TL.tl (numS q.2)).map (fun c => if 97 ≤ c ∧ c ≤ 122 then c - 32 else c) = TL.tl (numS q.2) := by
    conv => rhs; rw [← List.map_id (TL.tl (numS q.2))]
    refine List.map_congr_left fun c hc => ?_
    have := numS_signs q.2 c hc
    exact if_neg (by omega)
  rw [e]
  rfl)
theorem bent_bad (gp : ∀ p ∈ f ++ q :: r, Gp p) (nd : ((f ++ q :: r).map (·.1)).Nodup) (ll : (f ++ q :: r).length ≤ 7) : ∀ x ∈ bent q, Bd (Txt.join sp1 (f.map wd ++ x :: r.map wd)) := by
  have g : Gp q := gp q (List.mem_append_right _ (List.mem_cons_self ..))
  have ll8 : (f ++ q :: r).length ≤ 8 := by omega
  have h1 : q.1.length ≤ 12 := g.nm.len
  have h2 := numS_len g.sm
  have gw : ∀ p ∈ f ++ q :: q :: r, Gp p := fun p hp => by
    refine gp p ?_
    rcases List.mem_append.mp hp with h | h
    · exact List.mem_append_left _ h
    · refine List.mem_append_right _ ?_
      rcases List.mem_cons.mp h with rfl | h
      · exact List.mem_cons_self ..
      · exact h
  intro x hx
  unfold bent at hx
  simp only [List.mem_cons, List.not_mem_nil, or_false] at hx
  rcases hx with rfl | rfl | rfl | rfl | rfl | rfl | rfl | rfl | rfl | rfl | rfl
  · -- capital letters
    obtain ⟨c0, hc0⟩ : ∃ c, c ∈ TL.tl q.1 := List.exists_mem_of_length_pos g.nm.lo
    have up : ∀ c ∈ TL.tl (Txt.upper q.1), 65 ≤ c ∧ c ≤ 90 := fun c hc => by
      rw [tl_upper g.nm.asc] at hc
      obtain ⟨d, hd, rfl⟩ := List.mem_map.mp hc
      have := g.nm.ab d hd
      rw [if_pos this]
      omega
    have hc : c0 - 32 ∈ TL.tl (Txt.upper q.1) := by
      rw [tl_upper g.nm.asc]
      refine List.mem_map.mpr ⟨c0, hc0, if_pos (g.nm.ab c0 hc0)⟩
    have lw : (Txt.upper (wd q)).length = (wd q).length := (wd_asc g).upper.2
    have l2 := wd_len g
    have l3 := wd_pos q
    refine bd_word gp nd ll8 ⟨by omega, ?_⟩ (by omega) ?_
    · rw [upper_wd g, TL.tl_append, TL.tl_append, tl_eqs]
      intro m
      rcases List.mem_append.mp m with m | m
      · rcases List.mem_append.mp m with m | m
        · have := up 32 m
          omega
        · exact absurd (List.mem_singleton.mp m) (by decide)
      · exact num_no _ (by decide) m
    · rw [upper_wd g]
      refine one_bad (fun m => ?_) (.inr (.inl ?_))
      · have := up 61 m
        omega
      · cases e : isName (Txt.upper q.1) with
        | false => rfl
        | true =>
          have := ((isName_iff _).mp e).ab _ hc
          have := up _ hc
          omega
  · rw [app_mid (d := "+") (by decide)]
    exact bd_front gp nd ll8 (c := 43) (by rw [TL.tl_append]; rfl) (.inl rfl)
  · have e : q.1 ++ ("=-0" : Str) = q.1 ++ eqs ++ "-0" := tl_inj (by simp only [TL.tl_append, List.append_assoc]; rfl)
    rw [e]
    exact bd_num gp nd ll8 (by decide) (by decide) (by decide +kernel)
  · rw [app_mid (d := "0") (by decide)]
    exact bd_front gp nd ll8 (c := 48) (by rw [TL.tl_append]; rfl) (.inr (.inr rfl))
  · rw [join_two]
    have e : f.map wd ++ wd q :: wd q :: r.map wd = (f ++ q :: q :: r).map wd := by
      rw [List.map_append]
      rfl
    rw [e]
    refine bd_dup gw ?_ (fun n => ?_)
    · simp only [List.length_append, List.length_cons] at ll ⊢
      omega
    · rw [List.map_append] at n
      have n := (List.nodup_append.mp n).2.1
      rw [List.map_cons, List.nodup_cons] at n
      exact n.1 (List.mem_cons_self ..)
  · have hn : 61 ∉ TL.tl (q.1 ++ numS q.2) ∧ 32 ∉ TL.tl (q.1 ++ numS q.2) := by
      rw [TL.tl_append]
      constructor
      · intro m
        rcases List.mem_append.mp m with m | m
        · exact nm_no g.nm (by decide) m
        · exact num_no _ (by decide) m
      · intro m
        rcases List.mem_append.mp m with m | m
        · exact nm_no g.nm (by decide) m
        · exact num_no _ (by decide) m
    have l0 := g.nm.lo
    rw [tl_len] at l0
    have hl : (q.1 ++ numS q.2).length = q.1.length + (numS q.2).length := len_add ..
    exact bd_word gp nd ll8 ⟨by omega, hn.2⟩ (by omega) (one_no hn.1)
  · rw [app_mid (d := "=") (by decide)]
    exact bd_front gp nd ll8 (c := 61) (by rw [TL.tl_append]; rfl) (.inr (.inl rfl))
  · have e : q.1 ++ eqs = q.1 ++ eqs ++ "" := tl_inj (by simp only [TL.tl_append, List.append_assoc]; rfl)
    rw [e]
    exact bd_num gp nd ll8 (by decide) (by decide) (readP_none (by decide) isNum_nil)
  · have e : eqs ++ numS q.2 = "" ++ eqs ++ numS q.2 := tl_inj (by simp only [TL.tl_append]; rfl)
    have hl : (eqs ++ numS q.2).length = 1 + (numS q.2).length := len_add ..
    refine bd_word gp nd ll8 ⟨by omega, ?_⟩ (by omega) ?_
    · rw [TL.tl_append, tl_eqs]
      intro m
      rcases List.mem_append.mp m with m | m
      · exact absurd (List.mem_singleton.mp m) (by decide)
      · exact num_no _ (by decide) m
    · rw [e]
      exact one_bad (by decide) (.inr (.inl (by decide +kernel)))
  · exact bd_num gp nd ll8 (by decide +kernel) (by decide +kernel) (by decide +kernel)
  · have e : sp1 ++ wd q = "" ++ sp1 ++ wd q := tl_inj (by simp only [TL.tl_append]; rfl)
    rw [e, join_two]
    exact bd_empty (f := f) (r := q :: r) gp nd ll8 (by simp)
/-- a word more, with a number that cannot be read -/
theorem readP_long {b : Str} (h : 41 < b.length) : readP b = none := by
  refine readP_minus (isNum_long ?_) (isNum_long (by omega))
  rw [← tl_len, tl_drop1, List.length_drop, tl_len]
  omega
theorem bd_more {b : Str} (gp : ∀ p ∈ ts, Gp p) (nd : (ts.map (·.1)).Nodup) (ll : ts.length ≤ 8) (lb : b.length ≤ 5500) (hb : 32 ∉ TL.tl b) (no : readP b = none) : Bd (Txt.join sp1 (ts.map wd ++ [zy ++ eqs ++ b])) := by
  have hl : (zy ++ eqs ++ b).length = 13 + b.length := by
    rw [len_add]
    rfl
  refine Bd.of (by rw [List.length_append, List.length_map]; show _ + 1 ≤ _; omega) (fun y hy => ?_) ⟨zy ++ eqs ++ b, List.mem_append_right _ (List.mem_cons_self ..), by omega⟩ (rd_bad gp nd (one_bad (by decide) (.inl no)))
  rcases List.mem_append.mp hy with hy | hy
  · exact wds_ok gp y hy
  · rcases List.mem_singleton.mp hy with rfl
    refine ⟨by omega, ?_⟩
    rw [TL.tl_append]
    intro m
    rcases List.mem_append.mp m with m | m
    · exact absurd m (by decide)
    · exact hb m
/-- a word again -/
theorem bd_again {j : Nat} (gp : ∀ p ∈ ts, Gp p) (ll : ts.length ≤ 7) (hq : q ∈ ts) : Bd (textT (ts.take j ++ [q] ++ ts.drop j)) := by
  refine bd_dup (fun p hp => ?_) ?_ (fun n => ?_)
  · rcases List.mem_append.mp hp with hp | hp
    · rcases List.mem_append.mp hp with hp | hp
      · exact gp p (List.mem_of_mem_take hp)
      · rw [List.mem_singleton.mp hp]
        exact gp q hq
    · exact gp p (List.mem_of_mem_drop hp)
  · have := congrArg List.length (List.take_append_drop j ts)
    rw [List.length_append] at this
    rw [List.length_append, List.length_append]
    show _ + 1 + _ ≤ 8
    omega
  · rw [List.append_assoc] at n
    have n : (List.map (·.1) (ts.take j ++ q :: ts.drop j)).Nodup := n
    have n := ((List.perm_middle (a := q) (l₁ := ts.take j) (l₂ := ts.drop j)).map (fun x : Str × Int => x.1)).nodup_iff.mp n
    rw [List.map_cons, List.take_append_drop, List.nodup_cons] at n
    exact n.1 (List.mem_map.mpr ⟨q, hq, rfl⟩)
end
/-! the number of forty figures -/
theorem read_num40 {z : Int} (h1 : -(10 ^ 40) < z) (h2 : z < 0) : readP (numS z) = some z := by
  unfold readP
  obtain ⟨n, rfl⟩ : ∃ n : Nat, z = -((n + 1 : Nat) : Int) := ⟨(-z).toNat - 1, by omega⟩
  have et : TL.tl (drop1 (numS (-((n + 1 : Nat) : Int)))) = TL.numL (n + 1) := by rw [tl_drop1, numS_neg]; rfl
  obtain ⟨i1, i2⟩ := isNum_of et (by omega)
  rw [if_pos, if_pos, i2]
  · refine ⟨i1, fun q => ?_⟩
    injection q with q
    have q := congrArg TL.tl q
    rw [numS_neg] at q
    have q : 45 :: TL.numL (n + 1) = [45, 48] := q
    injection q with _ q
    have hd := numL_head (n + 1) (by omega)
    rw [q] at hd
    exact hd rfl
  · refine congrArg V.str (tl_inj ?_)
    rw [tl_cut1, numS_neg]
    rfl
def big : Int := 10 ^ 40 - 1
def zw : Str × Int := (zy, -big)
theorem zw_one {acc : List (Str × Int)} (n : zy ∉ acc.map (·.1)) : one acc (wd zw) = some (acc ++ [zw]) := by
  unfold one
  have e : Txt.partition (wd zw) eqs = (zy, eqs, numS (-big)) := TL.partition_app (S := []) tl_eqs (by decide)
  rw [e]
  show (match readP (numS (-big)) with | none => none | some z => if V.str eqs = V.str "" ∨ isName zy = false ∨ zy ∈ acc.map (·.1) then none else some (acc ++ [(zy, z)])) = some (acc ++ [zw])
  rw [read_num40 (by decide) (by decide)]
  refine if_neg ?_
  rintro (h1 | h1 | h1)
  · injection h1 with h1
    have := congrArg TL.tl h1
    rw [tl_eqs] at this
    cases this
  · exact absurd h1 (by decide +kernel)
  · exact n h1
theorem numS_negN {n : Nat} {z : Int} (h : 0 < n) (e : z = -(n : Int)) : TL.tl (numS z) = 45 :: TL.numL n := by
  obtain ⟨m, rfl⟩ : ∃ m, n = m + 1 := ⟨n - 1, by omega⟩
  rw [e]
  exact numS_neg m
def bigN : Nat := 10 ^ 40 - 1
theorem big_eq : big = (bigN : Int) := by decide +kernel
theorem big_tl : TL.tl (numS (-big)) = 45 :: TL.numL bigN := numS_negN (by decide) (by rw [big_eq])
theorem zw_signs : 32 ∉ TL.tl (wd zw) ∧ (wd zw).length ≤ 100 := by
  have e := big_tl
  have l := TL.numL_len (n := bigN) (k := 40) (by decide) (by decide)
  have t : TL.tl (wd zw) = TL.tl zy ++ [61] ++ (45 :: TL.numL bigN) := by
    rw [wd_tl, ← e]
    rfl
  constructor
  · rw [t]
    intro m
    rcases List.mem_append.mp m with m | m
    · exact absurd m (by decide)
    · rcases List.mem_cons.mp m with m | m
      · exact absurd m (by decide)
      · have := TL.numL_digits _ _ m
        omega
  · rw [← tl_len, t, List.length_append]
    show 13 + (TL.numL bigN).length.succ ≤ 100
    omega
theorem zw_text (q : Str × Int) : wd q ++ " zyzyzyzyzyzy=-" ++ numS big = Txt.join sp1 [wd q, wd zw] := tl_inj (by
  have e := big_tl
  have e2 : TL.tl (numS big) = TL.numL bigN := by rw [big_eq]; exact numS_nat bigN
  rw [tl_text]
  show _ = TL.tl (wd q) ++ ([32] ++ TL.tl (wd zw))
  have t : TL.tl (wd zw) = TL.tl zy ++ [61] ++ (45 :: TL.numL bigN) := by
    rw [wd_tl, ← e]
    rfl
  rw [t, TL.tl_append, TL.tl_append, e2, List.append_assoc]
  rfl)
/-- read of it -/
theorem zw_words {q : Str × Int} (g : Gp q) (n : q.1 ≠ zy) : (Txt.join sp1 [wd q, wd zw]).length ≤ 90000 ∧ wordsOf (Txt.join sp1 [wd q, wd zw]) = [wd q, wd zw] ∧ rdW [wd q, wd zw] [] = some [q, zw] := by
  obtain ⟨s1, s2⟩ := zw_signs
  have e : Txt.split (Txt.join sp1 [wd q, wd zw]) sp1 = [wd q, wd zw] := TL.split_join (S := []) (s := 32) (by decide) (by decide +kernel) (by simp) (fun p hp => by
    rcases List.mem_cons.mp hp with rfl | hp
    · exact wd_no g
    · rcases List.mem_singleton.mp hp with rfl
      exact s1)
  have lq := wd_len g
  have l : (Txt.join sp1 [wd q, wd zw]).length = (wd q).length + (1 + (wd zw).length) := by
    rw [← tl_len, tl_text]
    show (TL.tl (wd q) ++ ([32] ++ TL.tl (wd zw))).length = _
    rw [List.length_append, List.length_append, tl_len, tl_len]
    rfl
  refine ⟨by omega, ?_, ?_⟩
  · unfold wordsOf
    rw [if_neg]
    · exact e
    · intro z
      injection z with z
      have := congrArg Str.length z
      rw [l] at this
      have : (wd q).length + (1 + (wd zw).length) = 0 := this
      omega
  · rw [rdW, one_wd (acc := []) g (fun h => nomatch h)]
    show rdW [wd zw] [q] = _
    rw [rdW, zw_one]
    · rfl
    · intro m
      exact n (List.mem_singleton.mp m).symm

end Hd
namespace Hd
open PySem PySem.Spec PyProof.Rows L2 Lg Pu
/-! ### k06: the spoilt text -/
theorem idx_eq {q : Str × Int} (h : Gp q) : ∃ rest, Builtin.Str.occurrences (wd q) eqs 0 (wd q).length 1 = q.1.length :: rest := by
  have e : Txt.partition (wd q) eqs = (q.1, eqs, numS q.2) := TL.partition_app (S := []) tl_eqs (nm_no h.nm (by decide))
  have lw : (wd q).length = q.1.length + 1 + (numS q.2).length := by
    unfold wd
    rw [len_add, len_add]
    rfl
  unfold Txt.partition at e
  cases o : Builtin.Str.occurrences (wd q) eqs 0 (wd q).length 1 with
  | nil =>
    rw [o] at e
    have e := congrArg (fun z => TL.tl z.2.1) e
    have e : ([] : List Nat) = TL.tl eqs := e
    rw [tl_eqs] at e
    cases e
  | cons i rest =>
    rw [o] at e
    have e := congrArg (fun z => (z.1 : Str).length) e
    have e : (Builtin.Str.strSub (wd q) 0 i).length = q.1.length := e
    have e2 : (Builtin.Str.strSub (wd q) 0 i).length = min i (wd q).length - 0 := Array.size_extract
    refine ⟨rest, ?_⟩
    have : i = q.1.length := by omega
    rw [this]
theorem cut_nm {q : Str × Int} : cutS (wd q) none (some (q.1.length : Int)) = q.1 := tl_inj (by
  rw [tl_cut_to, wd_tl, ← tl_len, List.append_assoc, List.take_left])
theorem cut_num {q : Str × Int} : cutS (wd q) (some ((q.1.length : Int) + 1)) none = numS q.2 := tl_inj (by
  have e : (q.1.length : Int) + 1 = ((q.1.length + 1 : Nat) : Int) := by omega
  rw [e, tl_cut_from, wd_tl]
  have e : q.1.length + 1 = (TL.tl q.1 ++ [61]).length := by
    rw [List.length_append, tl_len]
    rfl
  rw [e, List.drop_left])
def sp_spoilt (K : PySem.W.Frag) : Sp := fun vs H Q _ => ∃ (p : Addr) (f r : List (Str × Int)) (q : Str × Int) (way : Int), vs = [.ref p, .int (f.length : Int), .int way] ∧ H p = some (.lst (((f ++ q :: r).map wd).map V.str)) ∧
  (∀ x ∈ f ++ q :: r, Gp x) ∧ ((f ++ q :: r).map (·.1)).Nodup ∧ (f ++ q :: r).length ≤ 7 ∧ 0 ≤ way ∧ way < 14 ∧ ∀ H' t, Sub H H' → Bd t → Q (.str t) H'
theorem bsum {l : List Str} (ll : l.length ≤ 10) (hl : ∀ x ∈ l, x.length ≤ 6000) : (l.map (·.length)).sum + l.length * sp1.length ≤ 16777216 := by
  have : ∀ l : List Str, (∀ x ∈ l, x.length ≤ 6000) → (l.map (·.length)).sum ≤ l.length * 6000 := fun l => by
    induction l with
    | nil => intro _; exact Nat.le_refl _
    | cons x l ih =>
      intro h
      have h1 := h x (List.mem_cons_self ..)
      have h2 := ih fun y hy => h y (List.mem_cons_of_mem _ hy)
      rw [List.map_cons, List.sum_cons, List.length_cons, Nat.succ_mul]
      omega
  have := this l hl
  have e : sp1.length = 1 := rfl
  rw [e]
  omega
theorem bent_len {q : Str × Int} (g : Gp q) : ∀ x ∈ bent q, x.length ≤ 6000 := by
  have h1 : q.1.length ≤ 12 := g.nm.len
  have h2 := numS_len g.sm
  have h3 := wd_len g
  have h4 : (Txt.upper (wd q)).length = (wd q).length := (wd_asc g).upper.2
  intro x hx
  unfold bent at hx
  simp only [List.mem_cons, List.not_mem_nil, or_false] at hx
  have z1 : ("=+" : Str).length = 2 := rfl
  have z2 : ("=-0" : Str).length = 3 := rfl
  have z3 : ("=0" : Str).length = 2 := rfl
  have z4 : ("==" : Str).length = 2 := rfl
  have z5 : sp1.length = 1 := rfl
  have z6 : eqs.length = 1 := rfl
  have z7 : (Ox.repS "1" (41 : Int)).length = 41 := by decide +kernel
  rcases hx with rfl | rfl | rfl | rfl | rfl | rfl | rfl | rfl | rfl | rfl | rfl <;> (try simp only [len_add]) <;> omega
section
variable {w : World} {K : PySem.W.Frag} {mg : Str → Option Value} {base : Heap}
theorem ok_spoilt (T : Tx K mg) : Ok PP w K mg base CX0 1 "_law_spoilt" P_l_spoilt (sp_spoilt K) := by
  refine mkOk0 T.d_l_spoilt T.g_l_spoilt sc_l_spoilt (fun _ _ _ _ _ _ us hl => match us, hl with | [_, _, _], _ => rfl) (fun vs H Q E h => ?_) (fun cdv A outer s H vs Q E hr h => ?_)
  · obtain ⟨p, f, r, q, way, rfl, _⟩ := h
    rfl
  · obtain ⟨p, f, r, q, way, rfl, hp, gp, nd, ll, w0, w1, k⟩ := h
    have W := Wd.start H
    have g : Gp q := gp q (List.mem_append_right _ (List.mem_cons_self ..))
    have lw := wd_len g
    have l1 : q.1.length ≤ 12 := g.nm.len
    have l2 := numS_len g.sm
    have e0 : ((f ++ q :: r).map wd).map V.str = (f.map wd).map V.str ++ V.str (wd q) :: (r.map wd).map V.str := by
      rw [List.map_append, List.map_append]
      rfl
    have lf : ((f.map wd).map V.str).length = f.length := by rw [List.length_map, List.length_map]
    have hq : (((f ++ q :: r).map wd).map V.str)[f.length]? = some (V.str (wd q)) := by
      rw [e0, List.getElem?_append_right (by omega), lf, Nat.sub_self]
      rfl
    have ct : cutV (((f ++ q :: r).map wd).map V.str) none (some (f.length : Int)) = (f.map wd).map V.str := by
      rw [cut_to, e0, ← lf, List.take_left]
    have cf : cutV (((f ++ q :: r).map wd).map V.str) (some (f.length : Int)) none = ((q :: r).map wd).map V.str := by
      rw [cut_from, e0, ← lf, List.drop_left]
      rfl
    have cf1 : cutV (((f ++ q :: r).map wd).map V.str) (some ((f.length : Int) + 1)) none = (r.map wd).map V.str := by
      have e : (f.length : Int) + 1 = ((f.length + 1 : Nat) : Int) := by omega
      rw [e, cut_from, e0, ← lf, ← List.drop_drop, List.drop_left]
      rfl
    obtain ⟨rest, hi⟩ := idx_eq g
    refine ⟨_, (pss_cons (ps_set (i := 3) sc_l_spoilt.nd rfl (.inl rfl) (pe_slice sl_str (pe_ix (kix_list K) (pv 0) (pv 1) (fun _ _ => rfl)) po_none (po_some (kbm K PySem.F.plainAttrs_str PySem.F.slot_str_index PySem.F.type_str_index mt_sindex (pe_ix (kix_list K) (pv 0) (pv 1) (fun _ _ => rfl)) (pa_cons pe_str pa_nil)))))
      (pss_cons (ps_set (i := 4) sc_l_spoilt.nd rfl (.inl rfl) (pe_slice sl_str (pe_ix (kix_list K) (pv 0) (pv 1) (fun _ _ => rfl)) (po_some (pe_op op_add (pe_callB call_len_str (by rfl) T.f_len (by decide +kernel) (pa_cons (pv 3) pa_nil)) pe_int)) po_none))
      (pss_cons (ps_if (pt_cmpR op_eq (pv 2) pe_int (nomark _)) (pss_one (ps_ret (kbm K PySem.F.plainAttrs_str PySem.F.slot_str_join PySem.F.type_str_join mt_join pe_str (pa_cons (pe_op op_cat (pe_op op_cat (pe_slice (ksl_list K) (pv 0) po_none (po_some (pv 1))) (pe_lst (pa_cons pe_str pa_nil))) (pe_slice (ksl_list K) (pv 0) (po_some (pv 1)) po_none)) pa_nil)))) pss_nil)
      (pss_cons (ps_if (pt_cmpR op_eq (pv 2) pe_int (nomark _)) (pss_one (ps_ret (pe_op op_add_str (kbm K PySem.F.plainAttrs_str PySem.F.slot_str_join PySem.F.type_str_join mt_join pe_str (pa_cons (pv 0) pa_nil)) pe_str))) pss_nil)
      (pss_cons (ps_if (pt_cmpR op_eq (pv 2) pe_int (nomark _)) (pss_one (ps_ret (pe_op op_add_str (kbm K PySem.F.plainAttrs_str PySem.F.slot_str_join PySem.F.type_str_join mt_join pe_str (pa_cons (pv 0) pa_nil)) pe_str))) pss_nil)
      (pss_cons (ps_set (i := 5) sc_l_spoilt.nd rfl (.inl rfl) (pe_lst (pa_cons (kbm0 K PySem.F.plainAttrs_str PySem.F.slot_str_upper PySem.F.type_str_upper mt_upper (pe_ix (kix_list K) (pv 0) (pv 1) (fun _ _ => rfl))) (pa_cons (pe_op op_add_str (pe_op op_add_str (pv 3) pe_str) (pv 4)) (pa_cons (pe_op op_add_str (pv 3) pe_str) (pa_cons (pe_op op_add_str (pe_op op_add_str (pv 3) pe_str) (pv 4)) (pa_cons (pe_op op_add_str (pe_op op_add_str (pe_ix (kix_list K) (pv 0) (pv 1) (fun _ _ => rfl)) pe_str) (pe_ix (kix_list K) (pv 0) (pv 1) (fun _ _ => rfl))) pa_nil)))))))
      (pss_cons (ps_set (i := 5) sc_l_spoilt.nd rfl (.inl rfl) (pe_op op_cat (pv 5) (pe_lst (pa_cons (pe_op op_add_str (pv 3) (pv 4)) (pa_cons (pe_op op_add_str (pe_op op_add_str (pv 3) pe_str) (pv 4)) (pa_cons (pe_op op_add_str (pv 3) pe_str) (pa_cons (pe_op op_add_str pe_str (pv 4)) (pa_cons (pe_op op_add_str (pe_op op_add_str (pv 3) pe_str) (pe_op Ox.op_mul_str pe_str pe_int)) pa_nil))))))))
      (pss_cons (ps_set (i := 5) sc_l_spoilt.nd rfl (.inl rfl) (pe_op op_cat (pv 5) (pe_lst (pa_cons (pe_op op_add_str pe_str (pe_ix (kix_list K) (pv 0) (pv 1) (fun _ _ => rfl))) pa_nil))))
      (pss_one (ps_ret (kbm K PySem.F.plainAttrs_str PySem.F.slot_str_join PySem.F.type_str_join mt_join pe_str (pa_cons (pe_op op_cat (pe_op op_cat (pe_slice (ksl_list K) (pv 0) po_none (po_some (pv 1))) (pe_lst (pa_cons (pe_ix (kix_list K) (pv 5) (pe_op op_sub (pv 2) pe_int) (fun _ _ => rfl)) pa_nil))) (pe_slice (ksl_list K) (pv 0) (po_some (pe_op op_add (pv 1) pe_int)) po_none)) pa_nil)))))))))))), ?_⟩
    have go : ∀ {H' : Hp} {J : Hp}, Wd H' J [] → Sub H J → ∀ t, Bd t → Q (.str t) H' := fun W e t b => k _ t (W.subN e) b
    refine ⟨_, rfl, _, rfl, p, _, _, .str (wd q), rfl, rfl, W.l hp, atI_nat hq, ?_⟩
    refine ⟨_, rfl, _, rfl, p, _, _, .str (wd q), rfl, rfl, W.l hp, atI_nat hq, rfl, wd q, eqs, _, rest, rfl, rfl, hi, _, rfl, wd q, rfl, sz (by omega), ?_⟩
    rw [cut_nm]
    refine ⟨_, rfl, _, rfl, p, _, _, .str (wd q), rfl, rfl, W.l hp, atI_nat hq, _, rfl, _, rfl, sz (by omega), _, _, rfl, rfl, _, rfl, wd q, rfl, sz (by omega), ?_⟩
    rw [cut_num]
    refine ⟨_, rfl, rfl, _, rfl, ite2 (fun h => ?_) (fun h0 => ?_)⟩
    · clear h
      refine ⟨rfl, _, rfl, _, rfl, _, rfl, p, _, rfl, W.l hp, fun a1 n1 => ?_⟩
      rw [ct]
      generalize hH : upd _ a1 _ = H1
      obtain ⟨J1, e1, h1, W⟩ := W.new n1 hH
      refine ⟨sz (by show 1 ≤ _; decide), fun a2 n2 => ?_⟩
      generalize hH : upd _ a2 _ = H2
      obtain ⟨J2, e2, h2, W⟩ := W.new n2 hH
      refine ⟨a1, a2, _, _, rfl, rfl, W.im _ _ (e2 _ _ h1), W.im _ _ h2, sz ?_, fun a3 n3 => ?_⟩
      · simp only [List.length_map, List.length_append, List.length_cons, List.length_nil] at ll ⊢
        omega
      generalize hH : upd _ a3 _ = H3
      obtain ⟨J3, e3, h3, W⟩ := W.new n3 hH
      refine ⟨_, rfl, _, rfl, _, rfl, p, _, rfl, W.l (e3 _ _ (e2 _ _ (e1 _ _ hp))), fun a4 n4 => ?_⟩
      rw [cf]
      generalize hH : upd _ a4 _ = H4
      obtain ⟨J4, e4, h4, W⟩ := W.new n4 hH
      refine ⟨a3, a4, _, _, rfl, rfl, W.im _ _ (e4 _ _ h3), W.im _ _ h4, sz ?_, fun a5 n5 => ?_⟩
      · simp only [List.length_map, List.length_append, List.length_cons, List.length_nil] at ll ⊢
        omega
      generalize hH : upd _ a5 _ = H5
      obtain ⟨J5, e5, h5, W⟩ := W.new n5 hH
      have e6 : (f.map wd).map V.str ++ [V.str ""] ++ ((q :: r).map wd).map V.str = (f.map wd ++ Str.empty :: (q :: r).map wd).map V.str := by
        rw [List.map_append, List.append_assoc]
        rfl
      rw [e6] at h5
      refine ⟨sp1, a5, _, rfl, rfl, .inl (W.l h5), ?_, ?_⟩
      · refine bsum ?_ (fun x hx => ?_)
        · simp only [List.length_map, List.length_append, List.length_cons] at ll ⊢
          omega
        · rcases List.mem_append.mp hx with hx | hx
          · exact (wds_ok (fun x hx => gp x (List.mem_append_left _ hx)) x hx).1
          · rcases List.mem_cons.mp hx with rfl | hx
            · decide
            · exact (wds_ok (fun x hx => gp x (List.mem_append_right _ hx)) x hx).1
      · exact go W (e1.trans (e2.trans (e3.trans (e4.trans e5)))) _ (bd_empty gp nd (by omega) (by simp))
    refine ⟨_, rfl, rfl, _, rfl, ite2 (fun h => ?_) (fun h1 => ?_)⟩
    · refine ⟨rfl, _, rfl, sp1, p, _, rfl, rfl, .inl (W.l hp), wds_sum gp (by omega), _, _, rfl, rfl, sz ?_, ?_⟩
      · have := text_len gp (by omega)
        have : (textT (f ++ q :: r)).length + 1 ≤ 100000 := by omega
        exact this
      · exact go W (Sub.refl _) _ (bd_blank gp nd (by omega) (by simp))
    refine ⟨_, rfl, rfl, _, rfl, ite2 (fun h => ?_) (fun h2 => ?_)⟩
    · refine ⟨rfl, _, rfl, sp1, p, _, rfl, rfl, .inl (W.l hp), wds_sum gp (by omega), _, _, rfl, rfl, sz ?_, ?_⟩
      · have := text_len gp (by omega)
        have : (textT (f ++ q :: r)).length + 1 ≤ 100000 := by omega
        exact this
      · exact go W (Sub.refl _) _ (bd_feed gp nd (by omega) (by simp))
    have q0 : ¬ way = 0 := fun e => h0 (by rw [e]; rfl)
    have q1 : ¬ way = 1 := fun e => h1 (by rw [e]; rfl)
    have q2 : ¬ way = 2 := fun e => h2 (by rw [e]; rfl)
    have t2 : ∀ s t : Str, s.length ≤ 100 → t.length ≤ 100 → s.length + t.length ≤ sizeLine := fun s t a b => sz (by omega)
    have t3 : ∀ s t : Str, s.length ≤ 40 → t.length ≤ 40 → (s ++ t).length ≤ 100 := fun s t a b => by rw [len_add]; omega
    have b1 : q.1.length ≤ 40 := by omega
    have b2 : (numS q.2).length ≤ 40 := by omega
    have b1' : q.1.length ≤ 100 := by omega
    have b2' : (numS q.2).length ≤ 100 := by omega
    have b3 : (wd q).length ≤ 100 := by omega
    have b4 : (wd q ++ sp1).length ≤ 100 := by
      rw [len_add]
      show _ + 1 ≤ 100
      omega
    refine ⟨_, rfl, _, rfl, p, _, _, .str (wd q), rfl, rfl, W.l hp, atI_nat hq, rfl, wd q, rfl, rfl, (by omega), ?_⟩
    refine ⟨_, rfl, _, _, rfl, rfl, t2 _ _ b1' (by decide), _, rfl, _, _, rfl, rfl, t2 _ _ (t3 _ _ b1 (by decide)) b2', ?_⟩
    refine ⟨_, rfl, _, _, rfl, rfl, t2 _ _ b1' (by decide), ?_⟩
    refine ⟨_, rfl, _, _, rfl, rfl, t2 _ _ b1' (by decide), _, rfl, _, _, rfl, rfl, t2 _ _ (t3 _ _ b1 (by decide)) b2', ?_⟩
    refine ⟨_, rfl, _, rfl, p, _, _, .str (wd q), rfl, rfl, W.l hp, atI_nat hq, _, _, rfl, rfl, t2 _ _ b3 (by decide), _, rfl, _, rfl, p, _, _, .str (wd q), rfl, rfl, W.l hp, atI_nat hq, _, _, rfl, rfl, t2 _ _ b4 b3, sz (by show 5 ≤ _; decide), fun a1 n1 => ?_⟩
    generalize hH : upd _ a1 _ = H1
    obtain ⟨J1, e1, g1, W⟩ := W.new n1 hH
    refine ⟨_, rfl, _, rfl, _, rfl, _, _, rfl, rfl, t2 _ _ b1' b2', ?_⟩
    refine ⟨_, rfl, _, _, rfl, rfl, t2 _ _ b1' (by decide), _, rfl, _, _, rfl, rfl, t2 _ _ (t3 _ _ b1 (by decide)) b2', ?_⟩
    refine ⟨_, rfl, _, _, rfl, rfl, t2 _ _ b1' (by decide), ?_⟩
    refine ⟨_, rfl, _, _, rfl, rfl, t2 _ _ (by decide) b2', ?_⟩
    refine ⟨_, rfl, _, _, rfl, rfl, t2 _ _ b1' (by decide), _, _, rfl, rfl, by decide, by decide, sz (by decide +kernel), _, _, rfl, rfl, t2 _ _ (t3 _ _ b1 (by decide)) (by decide +kernel), sz (by show 5 ≤ _; decide), fun a2 n2 => ?_⟩
    generalize hH : upd _ a2 _ = H2
    obtain ⟨J2, e2, g2, W⟩ := W.new n2 hH
    refine ⟨a1, a2, _, _, rfl, rfl, W.im _ _ (e2 _ _ g1), W.im _ _ g2, sz (by show 10 ≤ _; decide), fun a3 n3 => ?_⟩
    generalize hH : upd _ a3 _ = H3
    obtain ⟨J3, e3, g3, W⟩ := W.new n3 hH
    have hp3 := e3 _ _ (e2 _ _ (e1 _ _ hp))
    refine ⟨_, rfl, _, rfl, _, rfl, p, _, _, .str (wd q), rfl, rfl, W.l hp3, atI_nat hq, _, _, rfl, rfl, t2 _ _ (by decide) b3, sz (by show 1 ≤ _; decide), fun a4 n4 => ?_⟩
    generalize hH : upd _ a4 _ = H4
    obtain ⟨J4, e4, g4, W⟩ := W.new n4 hH
    refine ⟨a3, a4, _, _, rfl, rfl, W.im _ _ (e4 _ _ g3), W.im _ _ g4, sz (by show 11 ≤ _; decide), fun a5 n5 => ?_⟩
    generalize hH : upd _ a5 _ = H5
    obtain ⟨J5, e5, g5, W⟩ := W.new n5 hH
    have g5 : J5 a5 = some (.lst ((bent q).map V.str)) := g5
    have hp5 := e5 _ _ (e4 _ _ hp3)
    obtain ⟨x, hx⟩ : ∃ x, (bent q)[(way - 3).toNat]? = some x := ⟨_, List.getElem?_eq_getElem (show (way - 3).toNat < 11 by omega)⟩
    have bx := bent_bad gp nd ll x (List.mem_of_getElem? hx)
    have lx : x.length ≤ 6000 := bent_len g x (List.mem_of_getElem? hx)
    refine ⟨rfl, _, rfl, _, rfl, _, rfl, p, _, rfl, W.l hp5, fun a6 n6 => ?_⟩
    rw [ct]
    generalize hH : upd _ a6 _ = H6
    obtain ⟨J6, e6, g6, W⟩ := W.new n6 hH
    refine ⟨_, rfl, _, rfl, _, _, rfl, rfl, a5, _, _, .str x, rfl, rfl, W.l (e6 _ _ g5), atI_of (by omega) (by rw [List.getElem?_map, hx]; rfl), sz (by show 1 ≤ _; decide), fun a7 n7 => ?_⟩
    generalize hH : upd _ a7 _ = H7
    obtain ⟨J7, e7, g7, W⟩ := W.new n7 hH
    refine ⟨a6, a7, _, _, rfl, rfl, W.im _ _ (e7 _ _ g6), W.im _ _ g7, sz ?_, fun a8 n8 => ?_⟩
    · simp only [List.length_map, List.length_append, List.length_cons, List.length_nil] at ll ⊢
      omega
    generalize hH : upd _ a8 _ = H8
    obtain ⟨J8, e8, g8, W⟩ := W.new n8 hH
    refine ⟨_, rfl, _, rfl, _, _, rfl, rfl, _, rfl, p, _, rfl, W.l (e8 _ _ (e7 _ _ (e6 _ _ hp5))), fun a9 n9 => ?_⟩
    rw [cf1]
    generalize hH : upd _ a9 _ = H9
    obtain ⟨J9, e9, g9, W⟩ := W.new n9 hH
    refine ⟨a8, a9, _, _, rfl, rfl, W.im _ _ (e9 _ _ g8), W.im _ _ g9, sz ?_, fun a10 n10 => ?_⟩
    · simp only [List.length_map, List.length_append, List.length_cons, List.length_nil] at ll ⊢
      omega
    generalize hH : upd _ a10 _ = H10
    obtain ⟨J10, e10, g10, W⟩ := W.new n10 hH
    have ee : (f.map wd).map V.str ++ [V.str x] ++ (r.map wd).map V.str = (f.map wd ++ x :: r.map wd).map V.str := by
      rw [List.map_append, List.append_assoc]
      rfl
    rw [ee] at g10
    refine ⟨sp1, a10, _, rfl, rfl, .inl (W.l g10), bsum ?_ (fun y hy => ?_), ?_⟩
    · simp only [List.length_map, List.length_append, List.length_cons] at ll ⊢
      omega
    · rcases List.mem_append.mp hy with hy | hy
      · exact (wds_ok (fun x hx => gp x (List.mem_append_left _ hx)) y hy).1
      · rcases List.mem_cons.mp hy with rfl | hy
        · exact lx
        · exact (wds_ok (fun x hx => gp x (List.mem_append_right _ (List.mem_cons_of_mem _ hx))) y hy).1
    · exact go W (e1.trans (e2.trans (e3.trans (e4.trans (e5.trans (e6.trans (e7.trans (e8.trans (e9.trans e10))))))))) _ bx
end

end Hd
namespace Hd
open PySem PySem.Spec PyProof.Rows L2 Lg Pu
theorem read_text {K : PySem.W.Frag} {H : Hp} {Q : VK} {E : XK} {ts : List (Str × Int)} (gp : ∀ q ∈ ts, Gp q) (l : ts.length ≤ 100) (nd : (ts.map (·.1)).Nodup) (k : ∀ H' x, Sub H H' → Tun K (Nu H H') x ts → Q (.ref x) H') : sp_T_read K [.str (textT ts)] H Q E := by
  have ew := words_text gp
  have er : rdW (ts.map wd) [] = some ts := rd_words (acc := []) gp nd
  refine ⟨textT ts, rfl, text_len gp l, ?_, ?_, ?_, ?_⟩
  · rw [ew, List.length_map]
    omega
  · rw [ew]
    intro w hw
    obtain ⟨q, hq, rfl⟩ := List.mem_map.mp hw
    exact Nat.le_trans (wd_len (gp q hq)) (by decide)
  · rw [ew, er]
    intro us e H' x s t
    cases e
    exact k H' x s t
  · rw [ew, er]
    intro h
    cases h
theorem cut_all (xs : List V) : cutV xs none none = xs := by
  unfold cutV
  rw [HT.sIx_none, HT.sIx_none]
  simp
/-- read of a word and the long one -/
theorem read_two {K : PySem.W.Frag} {H : Hp} {Q : VK} {E : XK} {q : Str × Int} (g : Gp q) (n : q.1 ≠ zy) (k : ∀ H' x, Sub H H' → Tun K (Nu H H') x [q, zw] → Q (.ref x) H') : sp_T_read K [.str (Txt.join sp1 [wd q, wd zw])] H Q E := by
  obtain ⟨l, ew, er⟩ := zw_words g n
  refine ⟨_, rfl, l, ?_, ?_, ?_, ?_⟩
  · rw [ew]
    exact (by decide : 2 ≤ 1000)
  · rw [ew]
    intro w hw
    rcases List.mem_cons.mp hw with rfl | hw
    · exact Nat.le_trans (wd_len g) (by decide)
    · rcases List.mem_singleton.mp hw with rfl
      exact Nat.le_trans zw_signs.2 (by decide)
  · rw [ew, er]
    intro us e H' x s t
    cases e
    exact k H' x s t
  · rw [ew, er]
    intro h
    cases h
/-- the six numbers -/
def nums : List Str := ["-007", "-" ++ Ox.repS "1" (41 : Int), Ox.repS "9" (5000 : Int), "-" ++ Ox.repS "3" (5000 : Int), "--1", "-"]
theorem rep_no {c d : Nat} {x : Str} {n : Nat} (h : TL.tl x = [c]) (ne : d ≠ c) : d ∉ TL.tl (Ox.repS x (n : Int)) := fun m => by
  rw [tl_rep] at m
  obtain ⟨l, hl, hc⟩ := List.mem_flatten.mp m
  rw [List.eq_of_mem_replicate hl, h] at hc
  exact ne (List.mem_singleton.mp hc)
theorem nums_bad : ∀ b ∈ nums, b.length ≤ 5500 ∧ 32 ∉ TL.tl b ∧ readP b = none := by
  have l9 : (Ox.repS "9" (5000 : Int)).length = 5000 := rep_len "9" 5000
  have l3 : (Ox.repS "3" (5000 : Int)).length = 5000 := rep_len "3" 5000
  have l1 : (Ox.repS "1" (41 : Int)).length = 41 := rep_len "1" 41
  have z : ("-" : Str).length = 1 := rfl
  have q3 : ("-" ++ Ox.repS "3" (5000 : Int) : Str).length = 5001 := by rw [len_add, l3, z]
  have q1 : ("-" ++ Ox.repS "1" (41 : Int) : Str).length = 42 := by rw [len_add, l1, z]
  intro b hb
  unfold nums at hb
  simp only [List.mem_cons, List.not_mem_nil, or_false] at hb
  rcases hb with rfl | rfl | rfl | rfl | rfl | rfl
  · exact ⟨by decide, by decide, by decide +kernel⟩
  · refine ⟨by omega, ?_, readP_long (by omega)⟩
    rw [TL.tl_append]
    intro m
    rcases List.mem_append.mp m with m | m
    · exact absurd m (by decide)
    · exact rep_no (c := 49) (n := 41) (by decide) (by decide) m
  · exact ⟨by omega, rep_no (c := 57) (n := 5000) (by decide) (by decide), readP_long (by omega)⟩
  · refine ⟨by omega, ?_, readP_long (by omega)⟩
    rw [TL.tl_append]
    intro m
    rcases List.mem_append.mp m with m | m
    · exact absurd m (by decide)
    · exact rep_no (c := 51) (n := 5000) (by decide) (by decide) m
  · exact ⟨by decide, by decide, by decide +kernel⟩
  · exact ⟨by decide, by decide, by decide +kernel⟩
section
variable {w : World} {K : PySem.W.Frag} {mg : Str → Option Value} {base : Heap}
theorem all_law (T : Tx K mg) {fd : FuncData} (F : FunD K "law" "law" (defArgs s_law) (defBody s_law) (defScope s_law) [] [] (He.ga K "law") fd) : FnOk PP w K mg base CX0 8 (He.ga K "law") fd P_law (sp_law K) := by
  have G_l_take := ok_take T (ok_mixed (P := PP) (w := w) (base := base) T)
  have G_l_pitch := ok_pitch T G_l_take
  have G_l_bag := ok_bag (P := PP) (w := w) (base := base) T
  have G_l_name := ok_name T G_l_take
  have G_l_names := ok_names T G_l_take G_l_name
  have G_l_is_int := ok_is_int (P := PP) (w := w) (base := base) T
  have G_l_texts := ok_texts (P := PP) (w := w) (base := base) T
  have G_l_row := ok_row T G_l_is_int
  have G_is_name := ok_is_name (P := PP) (w := w) (base := base) T
  have G_Tuning_init := ok_Tuning_init T G_is_name
  have G_Tuning_names := ok_T_names (w := w) (base := base) T
  have G_Tuning_pitches := ok_T_pitches (w := w) (base := base) T
  have G_l_is_tuning := ok_is_tuning T G_l_texts G_l_row G_Tuning_names G_Tuning_pitches
  have G_Tuning_read := ok_T_read T G_is_name (ok_read_pitch T (ok_is_number (P := PP) (w := w) (base := base) T)) G_Tuning_init
  have G_l_refused := ok_refused T G_Tuning_read
  have G_l_spoilt := ok_spoilt (w := w) (base := base) T
  obtain ⟨_, G_l_take, b_l_take, g_l_take, k_l_take⟩ := G_l_take
  obtain ⟨_, G_l_pitch, b_l_pitch, g_l_pitch, k_l_pitch⟩ := G_l_pitch
  obtain ⟨_, G_l_bag, b_l_bag, g_l_bag, k_l_bag⟩ := G_l_bag
  obtain ⟨_, G_l_names, b_l_names, g_l_names, k_l_names⟩ := G_l_names
  obtain ⟨_, G_l_is_tuning, b_l_is_tuning, g_l_is_tuning, k_l_is_tuning⟩ := G_l_is_tuning
  obtain ⟨_, G_Tuning_read, b_Tuning_read⟩ := G_Tuning_read
  obtain ⟨_, G_l_refused, b_l_refused, g_l_refused, k_l_refused⟩ := G_l_refused
  obtain ⟨_, G_l_spoilt, b_l_spoilt, g_l_spoilt, k_l_spoilt⟩ := G_l_spoilt
  refine mkFn0 F sc_law (fun vs H Q E h => ?_) (fun cdv A outer s H vs Q E hr h => ?_)
  · obtain ⟨a, ns, rfl, _⟩ := h
    rfl
  · obtain ⟨a, sc, rfl, hS, hn, k⟩ := h
    have W := Wd.start H
    refine ⟨_, (pss_cons (ps_set (i := 1) sc_law.nd rfl (.inr rfl) (pe_call G_l_bag (hr.mono (by decide)) (by rfl) g_l_bag k_l_bag b_l_bag .nil pass0 (pa_cons (pv 0) pa_nil)))
      (pss_cons (ps_set (i := 2) sc_law.nd rfl (.inr rfl) (pe_call G_l_names (hr.mono (by decide)) (by rfl) g_l_names k_l_names b_l_names .nil pass0 (pa_cons (pv 1) (pa_cons (pe_op op_add pe_int (pe_call G_l_take (hr.mono (by decide)) (by rfl) g_l_take k_l_take b_l_take .nil pass0 (pa_cons (pv 1) (pa_cons pe_int pa_nil)))) pa_nil))))
      (pss_cons (ps_set (i := 3) sc_law.nd rfl (.inr rfl) (pe_lc (own := [("_law_name_here", 11)]) rfl sc_law.nd (kpi_list K (pv 2)) (blkOk_by (own := [("_law_name_here", 11)]) (N := N_law) (sc := defScope s_law) (by decide +kernel)) (fun _ _ _ _ _ => (pg_name (i := 11) sc_law.nd rfl (.inl rfl))) (fun _ _ _ _ _ => pts_nil) (fun _ _ _ _ _ => (pe_call G_l_pitch (hr.mono (by decide)) (by rfl) g_l_pitch k_l_pitch b_l_pitch .nil pass0 (pa_cons (pv 1) pa_nil)))))
      (pss_cons (ps_setLc (i := 4) (own := [("_law_k", 5)]) rfl sc_law.nd rfl rfl (sw_true rfl rfl rfl (by decide +kernel)) (pi_range1 (by rfl) T.f_range (pa_cons (pe_callB (klen K) (by rfl) T.f_len (by decide +kernel) (pa_cons (pv 2) pa_nil)) pa_nil)) (blkOk_by (own := [("_law_k", 5)]) (N := N_law) (sc := defScope s_law) (by decide +kernel)) (fun _ _ _ _ _ => (pg_name (i := 5) sc_law.nd rfl (.inl rfl))) (fun _ _ _ _ _ => pts_nil) (fun _ _ _ _ _ => (pe_op op_add_str (pe_op op_add_str (pe_ix (kix_list K) (pv 2) (pv 5) (fun _ _ => rfl)) pe_str) (pe_callTy call_str_int (by rfl) T.f_str (by decide +kernel) (pa_cons (pe_ix (kix_list K) (pv 3) (pv 5) (fun _ _ => rfl)) pa_nil)))))
      (pss_cons (ps_set (i := 5) sc_law.nd rfl (.inl rfl) (pe_call G_l_take (hr.mono (by decide)) (by rfl) g_l_take k_l_take b_l_take .nil pass0 (pa_cons (pv 1) (pa_cons (pe_callB (klen K) (by rfl) T.f_len (by decide +kernel) (pa_cons (pv 4) pa_nil)) pa_nil))))
      (pss_cons (ps_set (i := 6) sc_law.nd rfl (.inl rfl) (pe_call G_l_spoilt (hr.mono (by decide)) (by rfl) g_l_spoilt k_l_spoilt b_l_spoilt .nil pass0 (pa_cons (pv 4) (pa_cons (pv 5) (pa_cons (pe_call G_l_take (hr.mono (by decide)) (by rfl) g_l_take k_l_take b_l_take .nil pass0 (pa_cons (pv 1) (pa_cons pe_int pa_nil))) pa_nil)))))
      (pss_cons (ps_set (i := 7) sc_law.nd rfl (.inl rfl) (pe_slice (ksl_list K) (pv 4) po_none po_none))
      (pss_cons (ps_expr (kbm K PySem.F.plainAttrs_list PySem.F.slot_list_insert PySem.F.type_list_insert mt_insert (pv 7) (pa_cons (pe_call G_l_take (hr.mono (by decide)) (by rfl) g_l_take k_l_take b_l_take .nil pass0 (pa_cons (pv 1) (pa_cons (pe_op op_add (pe_callB (klen K) (by rfl) T.f_len (by decide +kernel) (pa_cons (pv 4) pa_nil)) pe_int) pa_nil))) (pa_cons (pe_ix (kix_list K) (pv 4) (pv 5) (fun _ _ => rfl)) pa_nil))))
      (pss_cons (ps_set (i := 8) sc_law.nd rfl (.inl rfl) (pe_ix (kix_list K) (pe_lst (pa_cons pe_str (pa_cons (pe_op op_add_str pe_str (pe_op Ox.op_mul_str pe_str pe_int)) (pa_cons (pe_op Ox.op_mul_str pe_str pe_int) (pa_cons (pe_op op_add_str pe_str (pe_op Ox.op_mul_str pe_str pe_int)) (pa_cons pe_str (pa_cons pe_str pa_nil))))))) (pe_call G_l_take (hr.mono (by decide)) (by rfl) g_l_take k_l_take b_l_take .nil pass0 (pa_cons (pv 1) (pa_cons pe_int pa_nil))) (fun _ _ => rfl)))
      (pss_cons (ps_if (PW.pt (pw_or (pt_not (pt_val (pe_call G_l_refused (hr.mono (by decide)) (by rfl) g_l_refused k_l_refused b_l_refused .nil pass0 (pa_cons (kbm K PySem.F.plainAttrs_str PySem.F.slot_str_join PySem.F.type_str_join mt_join pe_str (pa_cons (pv 7) pa_nil)) pa_nil)))) (pw_or1 (pt_not (pt_val (pe_call G_l_refused (hr.mono (by decide)) (by rfl) g_l_refused k_l_refused b_l_refused .nil pass0 (pa_cons (kbm K PySem.F.plainAttrs_str PySem.F.slot_str_join PySem.F.type_str_join mt_join pe_str (pa_cons (pe_op op_cat (pv 4) (pe_lst (pa_cons (pe_op op_add_str pe_str (pv 8)) pa_nil))) pa_nil)) pa_nil))))))) (pss_one (ps_ret pe_bl)) pss_nil)
      (pss_cons (ps_if (PW.pt (pw_or (pt_not (pt_val (pe_call G_l_is_tuning (hr.mono (by decide)) (by rfl) g_l_is_tuning k_l_is_tuning b_l_is_tuning .nil pass0 (pa_cons (Ow.smeth (pe_glob (v := .ref (He.ga K "Tuning")) (by rfl) T.g_Tuning rfl) T.r_Tuning T.s_Tuning_read G_Tuning_read (hr.mono (by decide)) b_Tuning_read (Ow.passAll Ow.passF) (pa_cons (kbm K PySem.F.plainAttrs_str PySem.F.slot_str_join PySem.F.type_str_join mt_join pe_str (pa_cons (pv 4) pa_nil)) pa_nil)) (pa_cons (pv 2) (pa_cons (pv 3) pa_nil)))))) (pw_or1 (pt_not (pt_val (pe_call G_l_refused (hr.mono (by decide)) (by rfl) g_l_refused k_l_refused b_l_refused .nil pass0 (pa_cons (pv 6) pa_nil))))))) (pss_one (ps_ret pe_bl)) pss_nil)
      (pss_cons (ps_set (i := 9) sc_law.nd rfl (.inl rfl) (pe_callTy call_int_str (by rfl) T.f_int (by decide +kernel) (pa_cons (pe_op Ox.op_mul_str pe_str pe_int) pa_nil)))
      (pss_cons (ps_set (i := 10) sc_law.nd rfl (.inl rfl) (Ow.smeth (pe_glob (v := .ref (He.ga K "Tuning")) (by rfl) T.g_Tuning rfl) T.r_Tuning T.s_Tuning_read G_Tuning_read (hr.mono (by decide)) b_Tuning_read (Ow.passAll Ow.passF) (pa_cons (pe_op op_add_str (pe_op op_add_str (pe_ix (kix_list K) (pv 4) (pv 5) (fun _ _ => rfl)) pe_str) (pe_callTy call_str_int (by rfl) T.f_str (by decide +kernel) (pa_cons (pv 9) pa_nil))) pa_nil)))
      (pss_cons (ps_if (pt_not (pt_val (pe_call G_l_is_tuning (hr.mono (by decide)) (by rfl) g_l_is_tuning k_l_is_tuning b_l_is_tuning .nil pass0 (pa_cons (pv 10) (pa_cons (pe_lst (pa_cons (pe_ix (kix_list K) (pv 2) (pv 5) (fun _ _ => rfl)) (pa_cons pe_str pa_nil))) (pa_cons (pe_lst (pa_cons (pe_ix (kix_list K) (pv 3) (pv 5) (fun _ _ => rfl)) (pa_cons (pe_un un_neg (pv 9)) pa_nil))) pa_nil)))))) (pss_one (ps_ret pe_bl)) pss_nil)
      (pss_one (ps_ret (pe_call G_l_is_tuning (hr.mono (by decide)) (by rfl) g_l_is_tuning k_l_is_tuning b_l_is_tuning .nil pass0 (pa_cons (Ow.smeth (pe_glob (v := .ref (He.ga K "Tuning")) (by rfl) T.g_Tuning rfl) T.r_Tuning T.s_Tuning_read G_Tuning_read (hr.mono (by decide)) b_Tuning_read (Ow.passAll Ow.passF) (pa_cons (kbm K PySem.F.plainAttrs_str PySem.F.slot_str_join PySem.F.type_str_join mt_join pe_str (pa_cons (pv 4) pa_nil)) pa_nil)) (pa_cons (pv 2) (pa_cons (pv 3) pa_nil)))))))))))))))))))), ?_⟩
    refine ⟨_, rfl, H, [], a, sc, rfl, W, hS, hn, fun H J b g e W ok => ?_⟩
    -- names
    refine ⟨_, rfl, _, rfl, J, _, b, g, 5, rfl, W, ok, by decide, fun H g m W ok m0 m1 => ⟨_, _, rfl, rfl, J, _, b, g, 1 + m, rfl, W, ok, by omega, by omega, fun H J1 g p ns e1 W ok hl nm nd zn => ?_⟩⟩
    obtain ⟨J2, e2, hp, W⟩ := W.swap.fz
    have ok := ok.mono e2
    have ln : ns.length ≤ 7 := by omega
    -- pitches
    refine ⟨_, rfl, p, rfl, ⟨_, W.l hp⟩, lcW (ItS.list (SqL.of hp)) W (fun i acc J N => ∃ (g : Bg) (ps : List Int), N = [(b, g.o)] ∧ g.Ok J ∧ acc = ps.map V.int ∧ ps.length = i ∧ ∀ z ∈ ps, Sml z) ⟨g, [], rfl, ok, rfl, rfl, (fun _ h => nomatch h)⟩ ?_ ?_⟩
    · rintro D i acc J0 N x J1 H hi e0 ⟨g, ps, hN, ok, rfl, hl, sm⟩ l e1 W hx
      rw [hN] at W
      rw [List.length_map] at hi
      refine ⟨rfl, _, rfl, J1, _, b, g, rfl, W, ok.mono e1, fun H g r W ok p0 p1 => lc_yes (N := [(b, g.o)]) (e0.trans e1) W l (by omega) ⟨g, ps ++ [r], rfl, ok, by rw [List.map_append]; rfl, by rw [List.length_append, hl]; rfl, fun z hz => ?_⟩⟩
      rcases List.mem_append.mp hz with hz | hz
      · exact sm z hz
      · rcases List.mem_singleton.mp hz with rfl
        exact ⟨by omega, by omega⟩
    rintro f acc J3 N H e3 W ⟨g, ps, hN, ok, rfl, hlp, sm⟩
    rw [hN] at W
    rw [List.length_map] at hlp
    obtain ⟨J4, e4, hf, W⟩ := W.fz
    have hp := e4 _ _ (e3 _ _ hp)
    have lnp : ns.length = ps.length := hlp.symm
    have hok : ∀ x ∈ ns, PyData.strOk x = true := fun x hx => (nm x hx).ok
    have gp : ∀ q ∈ ns.zip ps, Gp q := fun q hq => ⟨nm _ (List.of_mem_zip hq).1, sm _ (List.of_mem_zip hq).2⟩
    have zf := zip_fst lnp
    have zs := zip_snd lnp
    have zl := zip_len lnp
    -- words
    refine ⟨_, rfl, p, _, rfl, .inl (W.l hp), _, rfl, by omega, by rw [List.length_map]; omega, lcW ItS.range W (fun i acc _ N => N = [(b, g.o)] ∧ acc = (((ns.zip ps).take i).map wd).map V.str) ⟨rfl, rfl⟩ ?_ ?_⟩
    · rintro D i acc J0 N x J1 H hi e0 ⟨hN, rfl⟩ l e1 W rfl
      rw [hN] at W
      rw [List.length_map] at hi
      have hi : i < ns.length := by simpa using hi
      have hz : (ns.zip ps)[i]? = some (ns[i], ps[i]'(by omega)) := by
        rw [List.getElem?_zip_eq_some]
        exact ⟨List.getElem?_eq_getElem hi, List.getElem?_eq_getElem (by omega)⟩
      have gg := gp _ (List.mem_of_getElem? hz)
      have l2 := wd_len gg
      have l1 : ns[i].length ≤ 12 := (nm _ (List.getElem_mem hi)).len
      have e01 := e0.trans e1
      refine ⟨rfl, _, rfl, _, rfl, p, _, _, .str ns[i], rfl, rfl, W.l (e01 _ _ hp), atI_n0 (gV (List.getElem?_eq_getElem hi)), _, _, rfl, rfl, ?_, _, rfl, _, rfl, f, _, _, .int (ps[i]'(by omega)), rfl, rfl, W.l (e01 _ _ hf), atI_n0 (gI (List.getElem?_eq_getElem (by omega))), _, rfl, gg.sm.log, _, _, rfl, rfl, ?_, lc_yes (N := [(b, g.o)]) e01 W l (by omega) ⟨rfl, ?_⟩⟩
      · exact sz (by show ns[i].length + 1 ≤ 100000; omega)
      · refine sz ?_
        have e : (ns[i] ++ eqs).length = ns[i].length + 1 := len_add ..
        have h3 := numS_len gg.sm
        have h3 : (Str.ofString (toString (ps[i]'(by omega)))).length ≤ 33 := h3
        show (ns[i] ++ eqs).length + _ ≤ 100000
        omega
      · rw [List.take_add_one, hz, List.map_append, List.map_append]
        rfl
    rintro D acc J7 N H e7 W ⟨hN, rfl⟩
    rw [hN] at W
    have tz : (ns.zip ps).take ((ns.map V.str).length : Int).toNat = ns.zip ps := List.take_of_length_le (by rw [List.length_map, zl]; simp)
    rw [tz] at W
    obtain ⟨J8, e8, hD, W⟩ := W.fz
    have e78 := e7.trans e8
    have hp := e78 _ _ hp
    have hf := e78 _ _ hf
    have ok := ok.mono (e4.trans e78)
    have nd2 : ((ns.zip ps).map (·.1)).Nodup := by rw [zf]; exact nd
    generalize hts : ns.zip ps = ts at gp zf zs zl hD nd2
    clear e7 e8 e78 tz
    -- k
    refine ⟨_, rfl, _, rfl, D, _, rfl, .inl (W.l hD), J8, _, b, g, _, rfl, W, ok, by rw [List.length_map, List.length_map]; omega, fun H g m W ok m0 m1 => ?_⟩
    rw [List.length_map, List.length_map, zl] at m1
    obtain ⟨kN, rfl⟩ := Int.eq_ofNat_of_zero_le m0
    have hk : kN < ns.length := by omega
    obtain ⟨fr, q, bk, rfl, lf⟩ : ∃ fr q bk, ts = fr ++ q :: bk ∧ fr.length = kN := ⟨ts.take kN, ts[kN]'(by omega), ts.drop (kN + 1), by rw [← List.drop_eq_getElem_cons, List.take_append_drop], by rw [List.length_take]; omega⟩
    subst lf
    have gq : Gp q := gp q (List.mem_append_right _ (List.mem_cons_self ..))
    have hq : (((fr ++ q :: bk).map wd).map V.str)[fr.length]? = some (V.str (wd q)) := by
      rw [List.map_append, List.map_append, List.getElem?_append_right (by simp)]
      simp
    have l6 : (fr ++ q :: bk).length ≤ 5 := by omega
    -- spoilt
    refine ⟨_, rfl, _, rfl, _, rfl, J8, _, b, g, 14, rfl, W, ok, by decide, fun H g way W ok w0 w1 => ⟨D, fr, bk, q, way, rfl, W.im _ _ hD, gp, nd2, by omega, w0, by omega, fun H9 t s9 bt => ?_⟩⟩
    obtain ⟨J9, e9, _, W⟩ := W.graft s9
    have ok := ok.mono e9
    have hD := e9 _ _ hD
    have hp := e9 _ _ hp
    have hf := e9 _ _ hf
    clear s9 e9
    -- far
    refine ⟨_, rfl, D, _, rfl, W.l hD, fun a1 n1 => ?_⟩
    rw [cut_all]
    generalize hH : upd _ a1 _ = H1
    have W := (W.newM n1 hH).swap
    refine ⟨_, rfl, .inl ⟨rfl, _, SqL.of (W.get 1)⟩, _, rfl, _, rfl, D, _, rfl, .inl (W.l hD), _, _, rfl, rfl, J9, _, b, g, _, rfl, W, ok, ?_, fun H g j W ok j0 j1 => ?_⟩
    · rw [List.length_map, List.length_map]
      omega
    rw [List.length_map, List.length_map] at j1
    refine ⟨_, rfl, _, rfl, D, _, _, .str (wd q), rfl, rfl, W.l hD, atI_nat hq, a1, _, j, _, rfl, rfl, W.get 1, szl (by rw [List.length_map, List.length_map]; omega), j0, by omega, wr_at W 1 fun H W => ?_⟩
    have W : Wd H J9 [(b, g.o), (a1, .lst ((((fr ++ q :: bk).map wd).map V.str).take j.toNat ++ [.str (wd q)] ++ (((fr ++ q :: bk).map wd).map V.str).drop j.toNat))] := W
    have ef : (((fr ++ q :: bk).map wd).map V.str).take j.toNat ++ [.str (wd q)] ++ (((fr ++ q :: bk).map wd).map V.str).drop j.toNat = (((fr ++ q :: bk).take j.toNat ++ [q] ++ (fr ++ q :: bk).drop j.toNat).map wd).map V.str := by
      simp only [List.map_append, List.map_take, List.map_drop, List.map_cons, List.map_nil]
    rw [ef] at W
    obtain ⟨Ja, ea, ha1, W⟩ := W.swap.fz
    have ok := ok.mono ea
    have hD := ea _ _ hD
    have hp := ea _ _ hp
    have hf := ea _ _ hf
    clear ef ea
    -- the number
    refine ⟨_, _, rfl, rfl, by decide, by decide, sz ?_, _, _, rfl, rfl, sz ?_, _, _, rfl, rfl, by decide, by decide, sz ?_, _, _, rfl, rfl, by decide, by decide, sz ?_, _, _, rfl, rfl, sz ?_, sz (by show 6 ≤ _; decide), fun a2 n2 => ?_⟩
    · rw [show (41 : Int) = ((41 : Nat) : Int) from rfl, rep_len]
      decide
    · rw [show (41 : Int) = ((41 : Nat) : Int) from rfl, rep_len]
      decide
    · rw [show (5000 : Int) = ((5000 : Nat) : Int) from rfl, rep_len]
      decide
    · rw [show (5000 : Int) = ((5000 : Nat) : Int) from rfl, rep_len]
      decide
    · rw [show (5000 : Int) = ((5000 : Nat) : Int) from rfl, rep_len]
      decide
    generalize hH : upd _ a2 _ = H2
    obtain ⟨Jb, eb, h2, W⟩ := W.new n2 hH
    have h2 : Jb a2 = some (.lst (nums.map V.str)) := h2
    have ok := ok.mono eb
    have hD := eb _ _ hD
    have hp := eb _ _ hp
    have hf := eb _ _ hf
    have ha1 := eb _ _ ha1
    clear eb
    refine ⟨_, rfl, Jb, _, b, g, 6, rfl, W, ok, by decide, fun H g z W ok z0 z1 => ?_⟩
    obtain ⟨x, hx⟩ : ∃ x, nums[z.toNat]? = some x := ⟨_, List.getElem?_eq_getElem (show z.toNat < 6 by omega)⟩
    obtain ⟨lx, nx, rx⟩ := nums_bad x (List.mem_of_getElem? hx)
    refine ⟨a2, _, _, .str x, rfl, rfl, W.l h2, atI_of z0 (by rw [List.getElem?_map, hx]; rfl), ?_⟩
    have W := W.drop
    clear ok h2
    have rf : ∀ {H : Hp} {t : Str} {Q : VK} {E : XK}, Bd t → (∀ H', Sub H H' → Q (.bl true) H') → sp_refused K [.str t] H Q E := fun b k => ⟨_, rfl, b.len, b.wl, b.ws, b.no, k⟩
    refine ⟨rfl, _, rfl, sp1, a1, _, rfl, rfl, .inl (W.l ha1), bsum ?_ ?_, ?_⟩
    · rw [List.length_map, List.length_append, List.length_append, List.length_take, List.length_drop]
      show _ + 1 + _ ≤ _
      omega
    · intro y hy
      obtain ⟨q', hq', rfl⟩ := List.mem_map.mp hy
      have : Gp q' := by
        rcases List.mem_append.mp hq' with h | h
        · rcases List.mem_append.mp h with h | h
          · exact gp _ (List.mem_of_mem_take h)
          · rw [List.mem_singleton.mp h]
            exact gq
        · exact gp _ (List.mem_of_mem_drop h)
      exact Nat.le_trans (wd_len this) (by decide)
    try unfold tNil
    refine rf (bd_again gp (by omega) (List.mem_append_right _ (List.mem_cons_self ..))) fun H3 s3 => ?_
    obtain ⟨Jc, ec, _, W⟩ := W.graft s3
    have hD := ec _ _ hD
    have hp := ec _ _ hp
    have hf := ec _ _ hf
    clear ec s3 ha1
    refine ⟨true, rfl, ite2 (fun h => nomatch h) (fun _ => ?_)⟩
    refine ⟨rfl, _, rfl, _, rfl, _, _, rfl, rfl, sz ?_, sz (by show 1 ≤ _; decide), fun a3 n3 => ?_⟩
    · show 13 + x.length ≤ _
      omega
    generalize hH : upd _ a3 _ = H3
    obtain ⟨Jd, ed, h3, W⟩ := W.new n3 hH
    refine ⟨D, a3, _, _, rfl, rfl, W.im _ _ (ed _ _ hD), W.im _ _ h3, sz ?_, fun a4 n4 => ?_⟩
    · rw [List.length_map, List.length_map]
      show _ + 1 ≤ _
      omega
    generalize hH : upd _ a4 _ = H4
    obtain ⟨Je, ee, h4, W⟩ := W.new n4 hH
    have hD := ee _ _ (ed _ _ hD)
    have hp := ee _ _ (ed _ _ hp)
    have hf := ee _ _ (ed _ _ hf)
    have e4 : ((fr ++ q :: bk).map wd).map V.str ++ [V.str (("zyzyzyzyzyzy=" : Str) ++ x)] = ((fr ++ q :: bk).map wd ++ [zy ++ eqs ++ x]).map V.str := by
      have e : (zy ++ eqs : Str) = "zyzyzyzyzyzy=" := by decide +kernel
      rw [e]
      simp only [List.map_append, List.map_cons, List.map_nil]
    rw [e4] at h4
    have bm := bd_more gp nd2 (by omega) lx nx rx
    refine ⟨sp1, a4, _, rfl, rfl, .inl (W.l h4), bsum ?_ ?_, ?_⟩
    · rw [List.length_append, List.length_map]
      show _ + 1 ≤ _
      omega
    · intro y hy
      rcases List.mem_append.mp hy with hy | hy
      · exact (wds_ok gp y hy).1
      · rcases List.mem_singleton.mp hy with rfl
        rw [len_add]
        show 13 + _ ≤ _
        omega
    try unfold tNil
    refine rf bm fun H5 s5 => ?_
    obtain ⟨Jf, ef, _, W⟩ := W.graft s5
    have hD := ef _ _ hD
    have hp := ef _ _ hp
    have hf := ef _ _ hf
    clear ed ee ef s5 h4 h3
    refine ⟨true, rfl, ite2 (fun h => nomatch h) (fun _ => ?_)⟩
    -- the good text
    refine ⟨rfl, rfl, _, rfl, sp1, D, _, rfl, rfl, .inl (W.l hD), wds_sum gp (by omega), ?_⟩
    try unfold tNil
    refine read_text gp (by omega) nd2 fun H6 x6 s6 hx6 => ?_
    obtain ⟨Jg, eg, eN, W⟩ := W.graft s6
    have hx6 := hx6.mono eN
    have hD := eg _ _ hD
    have hp := eg _ _ hp
    have hf := eg _ _ hf
    refine ⟨_, rfl, _, rfl, x6, p, f, _, ns, ps, rfl, hx6.mono (W.subN (Sub.refl _)), W.im _ _ hp, W.im _ _ hf, by omega, hok, fun H7 s7 => ?_⟩
    obtain ⟨Jh, eh, _, W⟩ := W.graft s7
    have hD := eh _ _ hD
    have hp := eh _ _ hp
    have hf := eh _ _ hf
    clear eg eN hx6 eh s6 s7
    rw [decide_eq_true zf, decide_eq_true zs]
    refine ⟨true, rfl, ite2 (fun h => nomatch h) (fun _ => ?_)⟩
    refine ⟨_, rfl, ?_⟩
    try unfold tNil
    refine rf bt fun H8 s8 => ?_
    obtain ⟨Ji, ei, _, W⟩ := W.graft s8
    have hD := ei _ _ hD
    have hp := ei _ _ hp
    have hf := ei _ _ hf
    clear ei s8
    refine ⟨true, rfl, ite2 (fun h => nomatch h) (fun _ => ?_)⟩
    -- forty figures
    have r40 : Ox.repS "9" (40 : Int) = numS big := by decide +kernel
    refine ⟨_, _, rfl, rfl, by decide, by decide, sz (by decide +kernel), _, big, rfl, (by decide +kernel), (by decide +kernel), ?_⟩
    have nq : q.1 ≠ zy := fun e => zn (by rw [← zf, ← e]; exact List.mem_map.mpr ⟨q, List.mem_append_right _ (List.mem_cons_self ..), rfl⟩)
    have lq := wd_len gq
    refine ⟨rfl, _, rfl, _, rfl, D, _, _, .str (wd q), rfl, rfl, W.l hD, atI_nat hq, _, _, rfl, rfl, sz ?_, _, rfl, _, rfl, by decide +kernel, _, _, rfl, rfl, sz ?_, ?_⟩
    · show _ + 15 ≤ _
      omega
    · have l1 := zw_signs.2
      have l2 : (numS big).length ≤ 100 := by decide +kernel
      have e : (wd q ++ (" zyzyzyzyzyzy=-" : Str)).length = (wd q).length + 15 := len_add ..
      show (wd q ++ (" zyzyzyzyzyzy=-" : Str)).length + (numS big).length ≤ _
      omega
    have two : ∀ {H : Hp} {Q : VK} {E : XK}, (∀ H' x, Sub H H' → Tun K (Nu H H') x [q, zw] → Q (.ref x) H') → sp_T_read K [.str (wd q ++ " zyzyzyzyzyzy=-" ++ numS big)] H Q E := fun k => by
      rw [zw_text]
      exact read_two gq nq k
    try unfold tNil
    refine two fun H10 y s10 hy => ?_
    obtain ⟨Jj, ej, eN, W⟩ := W.graft s10
    have hy := hy.mono eN
    have hD := ej _ _ hD
    have hp := ej _ _ hp
    have hf := ej _ _ hf
    clear ej eN s10
    have hn1 : (ns.map V.str)[fr.length]? = some (.str q.1) := gV (by
      rw [← zf, List.map_append, List.getElem?_append_right (by simp)]
      simp)
    have hn2 : (ps.map V.int)[fr.length]? = some (.int q.2) := gI (by
      rw [← zs, List.map_append, List.getElem?_append_right (by simp)]
      simp)
    refine ⟨_, rfl, _, rfl, _, rfl, p, _, _, .str q.1, rfl, rfl, W.l hp, atI_nat hn1, sz (by show 2 ≤ _; decide), fun a5 n5 => ?_⟩
    generalize hH : upd _ a5 _ = H11
    obtain ⟨Jk, ek, h5, W⟩ := W.new n5 hH
    refine ⟨_, rfl, _, rfl, f, _, _, .int q.2, rfl, rfl, W.l (ek _ _ hf), atI_nat hn2, _, rfl, _, rfl, sz (by show 2 ≤ _; decide), fun a6 n6 => ?_⟩
    generalize hH : upd _ a6 _ = H12
    obtain ⟨Jl, el, h6, W⟩ := W.new n6 hH
    have hy := hy.mono (ek.trans el)
    have hD := el _ _ (ek _ _ hD)
    have hp := el _ _ (ek _ _ hp)
    have hf := el _ _ (ek _ _ hf)
    refine ⟨y, a5, a6, [q, zw], [q.1, zy], [q.2, -big], rfl, hy.mono (W.subN (Sub.refl _)), W.im _ _ (el _ _ h5), W.im _ _ h6, (by show 2 ≤ 1000; decide), ?_, fun H13 s13 => ?_⟩
    · intro z hz
      rcases List.mem_cons.mp hz with rfl | hz
      · exact gq.nm.ok
      · rcases List.mem_singleton.mp hz with rfl
        decide +kernel
    obtain ⟨Jm, em, _, W⟩ := W.graft s13
    have hD := em _ _ hD
    have hp := em _ _ hp
    have hf := em _ _ hf
    rw [decide_eq_true (show List.map (fun x => x.1) [q, zw] = [q.1, zy] from rfl), decide_eq_true (show List.map (fun x => x.2) [q, zw] = [q.2, -big] from rfl)]
    clear hy h5 h6 ek el em s13
    refine ⟨true, rfl, ite2 (fun h => nomatch h) (fun _ => ?_)⟩
    -- again
    refine ⟨rfl, rfl, _, rfl, sp1, D, _, rfl, rfl, .inl (W.l hD), wds_sum gp (by omega), ?_⟩
    try unfold tNil
    refine read_text gp (by omega) nd2 fun H6 x6 s6 hx6 => ?_
    obtain ⟨Jg, eg, eN, W⟩ := W.graft s6
    have hx6 := hx6.mono eN
    refine ⟨_, rfl, _, rfl, x6, p, f, _, ns, ps, rfl, hx6.mono (W.subN (Sub.refl _)), W.im _ _ (eg _ _ hp), W.im _ _ (eg _ _ hf), by omega, hok, fun H7 s7 => ?_⟩
    rw [decide_eq_true zf, decide_eq_true zs]
    exact k _
end

end Hd
open PySem PySem.W PySem.Calls PyProof.Rows
theorem PySem.Challenge.cw_forkbeats_k06_tuning_text_refused_holds : PySem.Challenge.rw_forkbeats_k06_tuning_text_refused.Holds := by
  w_on; o_law
  refine HandSHeadRun.head_any (r := OpenLaw.row PySem.Challenge.rw_forkbeats_k06_tuning_text_refused) (q := view (OpenLaw.row PySem.Challenge.rw_forkbeats_k06_tuning_text_refused).prog [30]) (H := Hd.hk) (ob := Hd.ob) (M := 12000) (loose := Hd.loose) (d := HandSHeadRun.topDef (OpenLaw.row PySem.Challenge.rw_forkbeats_k06_tuning_text_refused).prog 30) (kwd := []) Hd.ob_eq
    (by kernel_rfl) (fun s => by kernel_rfl) Hd.run (by kernel_rfl) (by kernel_rfl) (by kernel_rfl) (by rfl) (by first | assumption | decide +kernel) (by decide +kernel) ⟨rfl, rfl, rfl, rfl, rfl, by decide +kernel⟩ ?hw ?hc
  case hw => w_witness2
  case hc =>
    refine L2.walk_ofE (l := PySem.Challenge.rw_forkbeats_k06_tuning_text_refused) (n := 63) (k := 8) (x := "_law_script") (CX := L2.CX0) rfl (by decide) (by kernel_rfl) ⟨rfl, by decide, by decide⟩ ?F (fun _ _ _ _ z => z)
    intro w mg fa h Y G hmg0
    obtain ⟨K, KX, c⟩ := Y
    have hmg : mg ("law" : PySem.Str) = some (.ref fa) := by
      have e : (HandSHeadRun.topDef (OpenLaw.row PySem.Challenge.rw_forkbeats_k06_tuning_text_refused).prog 30).name = ("law" : PySem.Str) := by kernel_rfl
      rw [← e]
      exact hmg0
    have T := Hd.tx_of KX G c
    have eF := hmg.symm.trans T.g_law
    cases eF
    obtain ⟨fd, F⟩ := T.d_law
    have b := L2.FunD.bindsA (ps := ["_law_script"]) F fun _ _ _ _ _ _ us hl => match us, hl with | [_], _ => rfl
    exact ⟨K, fd, Lg.sp_law K, KX, fun s v => b s [v] rfl, fun H a ns hl _ hS => ⟨a, ns, rfl, hS, hl, fun _ => rfl⟩, fun base _ _ => Hd.all_law T F⟩
