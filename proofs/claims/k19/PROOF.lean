import PyProof.Rows.All
import Wide.All
import OpenK.AllK
import Wide.FinOn
import HandS.ForMost
import HandS.TupAny
import HandS.TupMul
import HandS.Conv
import HandS.Wide
import HandS.Deep
import HandS.IsInst
import HandS.SortInts
import HandS.Zip
import HandS.Rev
import HandS.Style
import HandS.Walk
import HandS.Strs
import HandS.SortOrd
import HandS.Ends
import HandS.Words
import KE.KDictZip
import KE.GoesEnum
import HandS.NoneIn
import HandS.TupLe
import HandS.Iter
import HandS.RevRange
import HandS.Dict
import HandS.TupSets
import HandS.TupLen
import KE.KDictDisplayH
import KE.KDictCopyH
import HandS.DictComp
import HandS.SortRule
import HandS.DictTup
import HandS.Flow
import HandS.Defaults
import HandS.MakeKwOnly
import HandS.SetFor
import HandS.Exc
import HandS.ExcOwn
import HandS.TryOnly
import HandS.WordsExc
import HandS.ExcBuiltin
import HandS.ExcIs
import KE.RegKIsAll
import PySem.Challenge.RW_maymeet_k19_steps_told
set_option Elab.async false
set_option linter.all false
set_option maxRecDepth 100000
set_option maxHeartbeats 4000000

set_option maxRecDepth 100000
set_option maxHeartbeats 4000000
/-! Tuples that are known to have no dict of their own. -/
namespace ML
open PySem PySem.Spec PyProof.Rows L2
section
variable {X : Cx} {pins : List (Addr × Obj)} {s : Shared} {σ : L2.St} {H : Hp} {Q : VK}
/-- what is wanted of a new tuple -/
def NewT (H : Hp) (Q : VK) (ys : List V) : Prop := ∀ p o, H p = none → o.dict = none → Q (.ref p) (upd H p (.frz o (.tup ys)))
theorem fin_tup {ys : List V} {its : List Value} {n t' : Nat} (I : Inv X pins σ H s) (r : Vals ys its) (z : ys.length ≤ sizeLine) (q : NewT H Q ys) :
    EP X pins σ Q (.ref s.heap.objs.size) { s with heap := s.heap.push { cls := .type "tuple", data := .seq its.toArray n }, toks := t' } := by
  have e : (s.heap.push { cls := .type "tuple", data := .seq its.toArray n }).get? s.heap.objs.size = some { cls := .type "tuple", data := .seq its.toArray n } := Heap.get?_push_size _ rfl
  have new : ObjOk X.prog X.w (upd H s.heap.objs.size (.frz { cls := .type "tuple", data := .seq its.toArray n } (.tup ys))) (s.heap.push { cls := .type "tuple", data := .seq its.toArray n }) s.heap.objs.size (.frz { cls := .type "tuple", data := .seq its.toArray n } (.tup ys)) :=
    ⟨e, z, its, r, _, e, rfl, _, rfl⟩
  exact ⟨.ref s.heap.objs.size, _, I.laid (t' := t') (fun _ _ w => Heap.get?_push_of_some _ w) (Nat.le_refl _) new, rfl, q _ _ (I.hok.fresh (Nat.le_refl _)) rfl⟩
def tTupF (t : TA) : TE := fun σ H Q => t σ H fun xs H1 => xs.length ≤ sizeLine ∧ NewT H1 Q xs
theorem pe_tupF {es : List Expr} {t : TA} {k : Nat} {pos : Pos} (h : PA X es t) : PE X (.Tuple es k pos) (tTupF t) := ⟨fun pins s σ H Q I hq =>
  wpAny_Tuple_spliced (thn (h.run pos pins s σ H _ I hq) fun us s1 ⟨xs, H1, I1, r, z, q⟩ => ⟨by rw [← r.length]; exact z, fin_tup (t' := s1.toks) I1 r z q⟩)⟩
def rCatF (K : PySem.W.Frag) : R2 := fun x y H Q => ∃ a b xs ys, x = .ref a ∧ y = .ref b ∧ SqT K H a xs ∧ SqT K H b ys ∧ xs.length + ys.length ≤ sizeLine ∧ (xs = [] → Q (.ref b) H) ∧ (xs ≠ [] → ys = [] → Q (.ref a) H) ∧ (xs ≠ [] → ys ≠ [] → NewT H Q (xs ++ ys))
theorem op_catF : OpR X (binaryOp .Add) (rCatF X.K) := by
  intro pins s σ H x y v u Q I rx ry ⟨a, b, xs, ys, ex, ey, ha, hb, hz, q0, q1, q2⟩
  subst ex ey
  cases rx
  cases ry
  obtain ⟨m1, r1, p1, _⟩ := I.tuple ha
  obtain ⟨m2, r2, p2, _⟩ := I.tuple hb
  by_cases hx : xs = []
  · subst hx
    cases r1
    exact cat_tup0 p1 p2 ⟨.ref b, H, I, rfl, q0 rfl⟩
  · exact HT.cat_tup p1 p2 (fun z => hx (r1.nil_iff.mp z)) (fun z => ⟨.ref a, H, I, rfl, q1 hx (r2.nil_iff.mp z)⟩)
      (fun z => fin_tup (t' := s.toks) I (r1.append r2) (by rw [List.length_append]; exact hz) (q2 hx fun w => z (r2.nil_iff.mpr w))) (by rw [← r1.length, ← r2.length]; exact hz)
def rSlF (K : PySem.W.Frag) : V → Option Int → Option Int → Hp → VK → Prop := fun x lo hi H Q => ∃ a xs, x = .ref a ∧ SqT K H a xs ∧
  (HT.sIx xs.length 0 lo = 0 ∧ HT.sIx xs.length xs.length hi = xs.length → Q (.ref a) H) ∧ (¬ (HT.sIx xs.length 0 lo = 0 ∧ HT.sIx xs.length xs.length hi = xs.length) → NewT H Q (cutV xs lo hi))
theorem sl_tupF : SlR X (rSlF X.K) := by
  intro pins s σ H x v vl vu lo hi sl Q I rx hs pl pu ⟨a, xs, ex, hx, q1, q2⟩
  subst ex
  cases rx
  obtain ⟨its, r, ht, hz⟩ := I.tuple hx
  have hlen : its.toArray.size = xs.length := r.length.symm
  refine ⟨"tuple", _, PyProof.Rows.slot_tuple_getitem.lookup, ht.typeIs, ?_⟩
  by_cases hw : HT.sIx xs.length 0 lo = 0 ∧ HT.sIx xs.length xs.length hi = xs.length
  · exact getItem_tuple_whole ht hs pl pu (hlen ▸ hw) ⟨.ref a, H, I, rfl, q1 hw⟩
  · refine HT.getItem_tuple_cut ht hs pl pu (hlen ▸ hw) ?_ (hlen ▸ hz)
    rw [hlen]
    exact fin_tup (t' := s.toks) I ((r.drop (HT.sIx xs.length 0 lo)).take _) (Nat.le_trans (cutV_length xs lo hi) hz) (q2 hw)
theorem call_tupleF : CallR X (.type "tuple") (fun xs H Q => ∃ p ys, xs = [.ref p] ∧ ((SqL X.K H p ys ∧ NewT H Q ys) ∨ (SqT X.K H p ys ∧ Q (.ref p) H))) := by
  intro pins s σ H xs us Q I r ⟨p, ys, ex, h⟩
  subst ex
  obtain ⟨u, eu, rx⟩ := vals1 r
  subst eu
  cases rx
  rcases h with ⟨hq, q⟩ | ⟨hq, q⟩
  · obtain ⟨its, r', pl, hz⟩ := I.list hq
    have hlen := r'.length
    refine call_tuple_list pl.isList (fun h' kp => ?_) (by simp only [List.size_toArray]; omega)
    have I1 : Inv X pins σ H { s with heap := h' } := I.kept (t' := s.toks) kp
    exact fin_tup (t' := s.toks) I1 r' hz q
  · obtain ⟨its, r', pl, hz⟩ := I.tuple hq
    exact call_tuple_same pl ⟨.ref p, H, I, rfl, q⟩
def tTupRgF (te : L2.St → Hp → (Int → Int → Hp → Prop) → Prop) : TE := fun σ H Q => te σ H fun a b H1 => RgOk a b ∧ NewT H1 Q (rgV a b)
theorem pe_tupRgF {e : Expr} {te : L2.St → Hp → (Int → Int → Hp → Prop) → Prop} {p pos : Pos} (hc : X.calm = true) (hg : Gl X "tuple") (hm : X.mg "tuple" = none) (he : PRg X e te) (na : starEach [e] X.env = (false, eval e X.env) :: starEach [] X.env := by rfl) : PE X (.Call (.Name "tuple" p) [e] [] pos) (tTupRgF te) := by
  refine ⟨fun pins s σ H Q I h => Call_ (ld_blt I hg hm boot_tuple (PyProof.Rows.callWith_type1 (args_cons (thn (he pins s σ H _ I h) fun x s1 ⟨r, a, b, t, u, v, H1, ex, hr, I1, ok, q⟩ => args_nil ?_) na) na))⟩
  subst ex
  obtain ⟨b1, b2, b3, b4, b5⟩ := ok
  refine call_tuple_range (n := (b - a).toNat) (I1.ok.hd hc) hr (small_one b1 b2 b3 b4) (rangeSize_nat a b) b5 fun h' tk acc hk hi => ?_
  have I2 : Inv X pins σ H1 { s1 with heap := h', toks := tk } := I1.kept hk
  have z := fin_tup (n := 0) (t' := tk) I2 (vals_rg hi) (by rw [rgV_length, sizeLine_eq]; omega) q
  rw [Array.toArray_toList] at z
  exact z
end
section
variable {X : Cx}
/-- t * k, any k -/
theorem tuple_mul1 (l : Addr) (items : Array Value) (n : Nat) (dd : Option Addr) (sl : Array (Option Value)) (u : Tok) :
    Meets (Builtin.«tuple.__mul__» ⟨[.ref l, .int 1 u], []⟩) (fun _ R s => s.heap.get? l = some { cls := .type "tuple", dict := dd, data := .seq items n, slots := sl } ∧ R (.ok (.ret (Value.ref l))) s) :=
  .of_wp fun prog w A R s h => by
    obtain ⟨hp, g, d, tk, os⟩ := s
    obtain ⟨hl, h⟩ := h
    have f1 := AutoSeq1.idx_int
    wp_walk using wpAny_loadPart' hl
    exact ⟨_, rfl, h⟩
theorem tuple_mul0 (l : Addr) (items : Array Value) (n : Nat) (dd : Option Addr) (sl : Array (Option Value)) (x : Int) (u : Tok) (c0 : (decide (x < -(2 ^ 63)) || decide (x ≥ 2 ^ 63)) = false) (c1 : (items.isEmpty || x == 1) = false) (c2 : (decide (x ≤ 0) || items.isEmpty) = true) :
    Meets (Builtin.«tuple.__mul__» ⟨[.ref l, .int x u], []⟩) (fun _ R s => s.heap.get? l = some { cls := .type "tuple", dict := dd, data := .seq items n, slots := sl } ∧
      R (.ok (.ret (Value.ref s.heap.objs.size))) { s with heap := s.heap.push { cls := Value.type "tuple", data := Data.seq #[] }, toks := s.toks }) :=
  .of_wp fun prog w A R s h => by
    obtain ⟨hp, g, d, tk, os⟩ := s
    obtain ⟨hl, h⟩ := h
    have f1 := AutoSeq1.idx_int
    wp_walk using wpAny_loadPart' hl
    repeat (first
      | (refine wpAny_ite_false (decide_eq_false (by rw [c0]; exact Bool.false_ne_true)) ?_; wp_walk using wpAny_loadPart' hl)
      | (refine wpAny_ite_false (decide_eq_false (by rw [c1]; exact Bool.false_ne_true)) ?_; wp_walk using wpAny_loadPart' hl)
      | (refine wpAny_ite_true (decide_eq_true c2) ?_; wp_walk using wpAny_loadPart' hl))
    exact ⟨_, rfl, h⟩
def rRepF (K : PySem.W.Frag) : R2 := fun x y H Q => ∃ l k xs, x = .ref l ∧ y = .int k ∧ SqT K H l xs ∧ xs ≠ [] ∧ -1000 ≤ k ∧ k ≤ 1000 ∧ xs.length ≤ 1000 ∧ (k = 1 → Q (.ref l) H) ∧ (k ≠ 1 → NewT H Q (List.replicate k.toNat xs).flatten)
theorem op_repF : OpR X (binaryOp .Mult) (rRepF X.K) := by
  intro pins s σ H x y v u Q I rx ry ⟨l, k, xs, ex, ey, hT, hne, lo, hi, hz, q1, q2⟩
  subst ex ey
  cases rx
  obtain ⟨t, et⟩ := ry
  subst et
  obtain ⟨its, r, ⟨⟨cls, dd, data, sl⟩, ho, hc, n, hd⟩, hs⟩ := I.tuple hT
  simp only at hc hd
  subst hc hd
  have hle : its.length = xs.length := r.length.symm
  have ie : its.toArray.isEmpty = false := by
    cases its with
    | nil => exact absurd (List.eq_nil_of_length_eq_zero hle.symm) hne
    | cons a b => rfl
  have c0 : (decide (k < -(2 ^ 63)) || decide (k ≥ 2 ^ 63)) = false := by
    rw [decide_eq_false (by omega), decide_eq_false (by omega)] <;> rfl
  by_cases k1 : k = 1
  · subst k1
    exact wpAny_binaryOp_repeat_ref (T := "tuple") (U := "int") (by decide) ⟨_, ho, rfl⟩ (fun s' => typeIs_int s' 1 t) noFill_tuple_mul F.fills_int_mul F.slot_int_rmul repeat_tuple F.slot_int_index.lookup
      (call_meets F.slot_int_rmul (typeIs_int s 1 t) F.entry_int_rmul (F.args_int_rmul_2 _ _) (int_rmul_tuple 1 t l its.toArray n dd sl) ⟨ho, rfl, ⟨_, ho, rfl⟩, call_meets F.slot_tuple_mul ⟨_, ho, rfl⟩ F.entry_tuple_mul (F.args_tuple_mul_2 _ _) (tuple_mul1 l its.toArray n dd sl t) ⟨ho, ⟨.ref l, H, I, rfl, q1 rfl⟩⟩⟩)
  · have q := q2 k1
    have c1 : (its.toArray.isEmpty || k == 1) = false := by
      rw [ie, Bool.false_or]
      exact beq_eq_false_iff_ne.mpr k1
    by_cases k0 : k ≤ 0
    · have c2 : (decide (k ≤ 0) || its.toArray.isEmpty) = true := by rw [decide_eq_true k0]; rfl
      have zk : k.toNat = 0 := by omega
      rw [zk] at q
      exact wpAny_binaryOp_repeat_ref (T := "tuple") (U := "int") (by decide) ⟨_, ho, rfl⟩ (fun s' => typeIs_int s' k t) noFill_tuple_mul F.fills_int_mul F.slot_int_rmul repeat_tuple F.slot_int_index.lookup
        (call_meets F.slot_int_rmul (typeIs_int s k t) F.entry_int_rmul (F.args_int_rmul_2 _ _) (int_rmul_tuple k t l its.toArray n dd sl) ⟨ho, rfl, ⟨_, ho, rfl⟩, call_meets F.slot_tuple_mul ⟨_, ho, rfl⟩ F.entry_tuple_mul (F.args_tuple_mul_2 _ _) (tuple_mul0 l its.toArray n dd sl k t c0 c1 c2) ⟨ho, fin_tup (its := []) (n := 0) (t' := s.toks) I .nil (Nat.zero_le _) q⟩⟩)
    · have c2 : (decide (k ≤ 0) || its.toArray.isEmpty) = false := by rw [ie, Bool.or_false]; exact decide_eq_false k0
      have a1 : k.toNat * xs.length ≤ 1000 * 1000 := Nat.mul_le_mul (by omega) hz
      have hsz0 : its.toArray.size = xs.length := hle
      have hm : ((its.toArray.size : Nat) : Int) * k ≤ 1000000 := by
        rw [hsz0]
        have a2 : ((xs.length : Nat) : Int) * k ≤ 1000 * k := Int.mul_le_mul_of_nonneg_right (by omega) (by omega)
        omega
      have c4 : Builtin.Tuple.tupleTooMany (((its.toArray.size : Nat) : Int) * k) = false := by
        show decide _ = false
        rw [sizeLine_eq]
        exact decide_eq_false (by omega)
      refine wpAny_binaryOp_repeat_ref (T := "tuple") (U := "int") (by decide) ⟨_, ho, rfl⟩ (fun s' => typeIs_int s' k t) noFill_tuple_mul F.fills_int_mul F.slot_int_rmul repeat_tuple F.slot_int_index.lookup
        (call_meets F.slot_int_rmul (typeIs_int s k t) F.entry_int_rmul (F.args_int_rmul_2 _ _) (int_rmul_tuple k t l its.toArray n dd sl) ⟨ho, rfl, ⟨_, ho, rfl⟩, call_meets F.slot_tuple_mul ⟨_, ho, rfl⟩ F.entry_tuple_mul (F.args_tuple_mul_2 _ _)
          (tuple_mulW l its.toArray n dd sl k t c0 c1 c2 (by omega) c4 (by rw [size_rep, List.size_toArray, PyProof.Rows.lm_len_rep_flat, hle, sizeLine_eq]; omega)) ⟨ho, ?_⟩⟩)
      rw [size_rep]
      exact fin_tup (n := 0) (t' := s.toks) I (r.rep k.toNat) (by rw [PyProof.Rows.lm_len_rep_flat, sizeLine_eq]; omega) q
end
end ML

set_option maxRecDepth 100000
set_option maxHeartbeats 4000000
/-! A def's promise where no repr is under way (so that repr tells the whole text). -/
namespace ML
open PySem PySem.Spec PyProof.Rows L2
/-- room, and no repr under way -/
structure Rm (k : Nat) (A : Around) : Prop extends L2.Room k A where
  gu : A.guards = some []
theorem Rm.mono {j k : Nat} {A : Around} (r : Rm k A) (h : j ≤ k) : Rm j A := ⟨r.toRoom.mono h, r.gu⟩
theorem Rm.deeper {k : Nat} {A : Around} (r : Rm (k + 1) A) (env : Env) : Rm k (A.deeper env) := ⟨r.toRoom.deeper env, r.gu⟩
structure FnG (P : Program) (w : World) (K : PySem.W.Frag) (mg : Str → Option Value) (base : Heap) (k : Nat) (f : Addr) (fd : FuncData) (ps : List Str) (sp : Sp) : Prop where
  many : ∀ {vs : List V} {H : Hp} {Q : VK} {E : XK}, sp vs H Q E → vs.length = ps.length
  go : ∀ {A : Around} {outer : List Env} {s : Shared} {H : Hp} {args : Args} {us : List Value} {vs : List V} {Q : VK} {E : XK},
    Rm k A → Env0 P w K mg base A outer s H → BindsTo s fd args (ps.zip us) → Vals vs us → sp vs H Q E →
    codeAny (model P w) A (.call (.ref f) args) (CR L2.CX0 outer P w H s Q E) s
section
variable {P : Program} {w : World} {K : PySem.W.Frag} {mg : Str → Option Value} {base : Heap}
theorem zip_kinds {N ps : List Str} {sc : Scope} (S : FnScope N ps sc) (n : Nat) (us : List Value) :
    ∀ y ∈ ps.zip us, sc.names.lookup y.1 = some .local ∨ (sc.names.lookup y.1 = some .cell ∧ ((cellsFrom n sc.names []).lookup y.1).isSome = true) := by
  intro y hy
  have hm : y.1 ∈ ps := (List.of_mem_zip (a := y.1) (b := y.2) hy).1
  cases S.par y.1 hm with
  | inl q => exact .inl q
  | inr q => exact .inr ⟨q, PySem.W.cellsFrom_some _ _ _ (.inl q)⟩
/-- a def of the text, by its body -/
theorem okG {x qual : Str} {st : Stmt} {f : Addr} {fd : FuncData} {N ps : List Str} {k : Nat} {sp : Sp} (F : Fun K x qual st f fd) (S : FnScope N ps (defScope st)) (many : ∀ {vs : List V} {H : Hp} {Q : VK} {E : XK}, sp vs H Q E → vs.length = ps.length)
    (body : ∀ (cdv : Value) (A : Around) (outer : List Env) (s : Shared) (H : Hp) (vs : List V) (Q : VK) (E : XK), Rm k (A.deeper (envOfC qual (defScope st) s.heap.objs.size f cdv)) → sp vs H Q E →
      ∃ t, PSs (cxOf L2.CX0 P w K mg base N qual (defScope st) f cdv A outer s H E).nox (defBody st) t ∧ t { nx := fun _ H' => Q .non H', rt := Q } (start N vs) H) : FnG P w K mg base (k + 1) f fd ps sp := by
  obtain ⟨oc, od, kV, doc, pm, an, cdv, ct, osl, rfl, found, code⟩ := F.ex
  constructor
  · exact many
  intro A outer s H args us vs Q E room env binds rel wish
  have up : ∀ b o, base.get? b = some o → s.heap.get? b = some o := fun b o e => (env.bs b o e).1
  have inK := env.mod.kin.keeps up
  obtain ⟨t, runs, ends⟩ := body cdv A outer s H vs Q E (room.deeper _) wish
  apply codeAny_call_function room.depth (inK _ _ found) rfl S.co S.gen rfl (PySem.W.codeRec_of inK code)
  apply binds
  apply wpAny_newFunctionEnv_cells S.kind (zip_kinds S _ us)
  rintro _ rfl s1 began
  refine ⟨(env.mod.nolimit.keeps up).keeps began.toInCall.keep, codeAny_func ?_⟩
  have J0 := inv_start (CX := L2.CX0) (P := P) (w := w) (mg := mg) (E := E) S room.hd env (many wish) rel began
  refine wpAny_mono (runs.nox.run [] s1 (start N vs) H _ J0 ends) ?_ (fun _ _ h => h)
  rintro (_ | _ | _ | u) s2 h
  · obtain ⟨σ2, H2, J, q⟩ := h
    exact ⟨.non, H2, J.os, J.bare, J.base, J.hok, rfl, q⟩
  · exact h.elim fun _ h => h.elim fun _ h => h.2.elim
  · exact h.elim fun _ h => h.elim fun _ h => h.2.elim
  · obtain ⟨v, σ2, H2, J, rv, q⟩ := h
    exact ⟨v, H2, J.os, J.bare, J.base, J.hok, rv, q⟩
end
section
variable {X : Cx} {k : Nat} {f : Addr} {fd : FuncData} {ps : List Str} {sp : Sp}
theorem cr_ends {pins : List (Addr × Obj)} {σ : L2.St} {H : Hp} {s s2 : Shared} {Q : VK} {r : Result} (I : Inv X pins σ H s) (h : CR L2.CX0 X.stack X.prog X.w H s Q (fun _ _ _ => False) r s2) :
    ∃ u, r = .ok (.ret u) ∧ EP X pins σ Q u s2 := by
  rcases r with e | fl
  · exact h.elim
  · rcases fl with _ | _ | _ | u
    · exact h.elim
    · exact h.elim
    · exact h.elim
    · exact ⟨u, rfl, I.after h⟩
theorem FnG.called (F : FnG X.prog X.w X.K X.mg X.base k f fd ps sp) (room : Rm k X.A) {pins : List (Addr × Obj)} {σ : L2.St} {H : Hp} {s : Shared} {Q : VK} {args : Args} {us : List Value} {vs : List V}
    (I : Inv X pins σ H s) (b : BindsTo s fd args (ps.zip us)) (rel : Vals vs us) (wish : sp vs H Q (fun _ _ _ => False)) :
    codeAny (model X.prog X.w) X.A (.call (.ref f) args) (fun r s2 => ∃ u, r = .ok (.ret u) ∧ EP X pins σ Q u s2) s :=
  codeAny_mono (F.go room I.env0 b rel wish) fun _ _ h => cr_ends I h
theorem FnG.run (F : FnG X.prog X.w X.K X.mg X.base k f fd ps sp) (room : Rm k X.A) (hb : Binds X.K fd ps []) {pins : List (Addr × Obj)} {σ : L2.St} {H : Hp} {s : Shared} {Q : VK} {us : List Value} {vs : List V}
    (I : Inv X pins σ H s) (rel : Vals vs us) (wish : sp (vs ++ []) H Q (fun _ _ _ => False)) : wpAny (model X.prog X.w) X.A (call (.ref f) us) (EP X pins σ Q) X.xe s := by
  rw [List.append_nil] at wish
  have b := hb s us I.kIn (by rw [List.append_nil, ← rel.length]; exact F.many wish)
  rw [List.append_nil] at b
  refine wpAny_call (codeAny_mono (F.called room I b rel wish) ?_)
  rintro _ s2 ⟨u, rfl, h⟩
  exact h
/-- f(e, ..) -/
theorem pg_call {x : Str} {p pos : Pos} {e : Expr} {es : List Expr} {t : TA} (F : FnG X.prog X.w X.K X.mg X.base k f fd ps sp) (room : Rm k X.A) (hg : Gl X x) (hm : X.mg x = some (.ref f)) (hk : PySem.W.keepIn X.K (.ref f) = true) (hb : Binds X.K fd ps [])
    (ha : PA X (e :: es) t) (hdb : (x == ("__debug__" : Str)) = false := by decide) (he : starEach (e :: es) X.env = (false, eval e X.env) :: starEach es X.env := by rfl) (hpl : (backTo pos (starEach es X.env)).any (·.1) = false := by rfl) :
    PE X (.Call (.Name x p) (e :: es) [] pos) (tCall sp [] (fun _ _ _ => False) t) := by
  constructor
  intro pins s σ H Q I h
  apply wpAny_Call_Name_kw
  refine ld_glob I hg hm ?_ hdb
  apply PySem.W.callWith_K (h₀ := X.base) I.ok.mod.kin hk _ he hpl
  refine thn (ha.run pos pins s σ H _ I h) ?_
  rintro us s1 ⟨vs, H1, J, rel, wish⟩
  exact ⟨J.kIn, F.run room hb J rel wish⟩
/-- f() -/
theorem pg_call0 {x : Str} {p pos : Pos} (F : FnG X.prog X.w X.K X.mg X.base k f fd ps sp) (room : Rm k X.A) (hg : Gl X x) (hm : X.mg x = some (.ref f)) (hk : PySem.W.keepIn X.K (.ref f) = true) (hb : Binds X.K fd ps [])
    (hdb : (x == ("__debug__" : Str)) = false := by decide) : PE X (.Call (.Name x p) [] [] pos) (tCall sp [] (fun _ _ _ => False) tNil) := by
  constructor
  intro pins s σ H Q I h
  apply wpAny_Call_Name_kw
  refine ld_glob I hg hm ?_ hdb
  exact PySem.W.callWith_K0 I.kIn hk (F.run (us := []) room hb I .nil h)
end
/-! ### the head -/
/-- the script in the heap ahead of the law's call -/
structure Scr (P : Program) (w : World) (K : PySem.W.Frag) (h : Heap) (a : Addr) (ns : List Int) (H : Hp) : Prop where
  only : Only H
  seq : SqL K H a (ns.map V.int)
  ok : HOk P w H h
  at1 : ∀ b, b ≠ a → H b = none
  no : ∀ o, K.lookup a = some o → H a = none
theorem scr_ex {P : Program} {w : World} {K : PySem.W.Frag} {h : Heap} {a : Addr} {vs : List Value} {ns : List Int} (KX : K.In h) (ha : h.get? a = some { cls := .type "list", data := .seq vs.toArray }) (hi : IntsAre vs ns) (hl : ns.length ≤ sizeLine) : ∃ H, Scr P w K h a ns H := by
  have hv := vals_ints hi
  have sz : vs.length ≤ sizeLine := by rw [hi.length]; exact hl
  rcases q : K.lookup a with _ | o
  · refine ⟨upd (fun _ => none) a (.frz { cls := .type "list", data := .seq vs.toArray } (.lst (ns.map V.int))), fun b => ?_, .inl (.inr ⟨_, upd_same⟩), fun b u e => ?_, fun b hb => by rw [upd_ne hb], fun o z => by rw [q] at z; cases z⟩
    · by_cases hb : b = a
      · subst hb
        exact .inr ⟨_, _, upd_same⟩
      · exact .inl (by rw [upd_ne hb])
    · by_cases hb : b = a
      · subst hb
        rw [upd_same] at e
        cases e
        exact ⟨ha, by rw [List.length_map]; exact hl, vs, _, hv, ha⟩
      · rw [upd_ne hb] at e
        cases e
  · have e := KX a o q
    rw [ha] at e
    cases e
    exact ⟨fun _ => none, fun _ => .inl rfl, .inr ⟨_, vs.toArray, _, q, rfl, rfl, rfl, by rw [List.size_toArray]; exact sz, by simpa using hv⟩, fun _ _ e => (nomatch e), fun _ _ => rfl, fun _ _ => rfl⟩
theorem Scr.env {P : Program} {w : World} {K : PySem.W.Frag} {s : Shared} {a : Addr} {vs : List Value} {ns : List Int} {H : Hp} {mg mb : Str → Option Value} (S : Scr P w K s.heap a ns H) (KX : K.In s.heap) (hns : s.heap.Ns mainGlobals mg) (hb : s.heap.Ns builtinsNs mb) (hbb : ∀ x : Str, x ≠ "__name__" → mb x = bootBuiltins x) (hlim : s.heap.NoLimit) (hg : s.gens = #[])
    (ha : s.heap.get? a = some { cls := .type "list", data := .seq vs.toArray }) : Env0 P w K mg (hidT s.heap H) callerA [] s H := by
  have here : ∀ {b : Addr} {o : Obj}, s.heap.get? b = some o → (b = a → H a = none) → (hidT s.heap H).get? b = some o := fun {b o} e n => by
    by_cases hb : b = a
    · subst hb
      exact hidT_get e (n rfl)
    · exact hidT_get e (S.at1 b hb)
  have ns2 : ∀ {b : Addr} {m : Str → Option Value}, s.heap.Ns b m → (hidT s.heap H).Ns b m := by
    rintro b m ⟨o, es, ep, e, d, r⟩
    refine ⟨o, es, ep, here e fun z => ?_, d, r⟩
    rw [z, ha] at e
    cases e
    cases d
  obtain ⟨mc, l1, l2⟩ := hlim
  have m : Mod K mg (hidT s.heap H) := ⟨fun b o e => here (KX b o e) fun z => S.no o (z ▸ e), ns2 hns, ⟨mb, ns2 hb, hbb⟩, ⟨mc, ns2 l1, l2⟩⟩
  exact { frames := rfl, mod := m, bs := fun b o e => of_hidT e, bsz := by rw [hidT_size]; exact Nat.le_refl _, funs := trivial, frf := fun b z => (nomatch z), hok := S.ok, bare := .of_eq hg }
theorem Scr.old {P : Program} {w : World} {K : PySem.W.Frag} {h h' : Heap} {a : Addr} {ns : List Int} {H H' : Hp} (S : Scr P w K h a ns H) (un : Un (frs []) [] H H' h h') (ok : HOk P w H' h') : OldK h h' := by
  refine OldK.of_keep fun b o e => ?_
  rcases S.only b with z | ⟨o1, xs, z⟩
  · exact un.keep b o e z (fun z => by cases z) (fun z => by cases z)
  · have e1 := (S.ok b _ z).1
    have e2 := (ok b _ (un.frzs b o1 _ z)).1
    exact (Option.some.inj (e.symm.trans e1)) ▸ e2
/-- the goal that k_head leaves -/
theorem walkG {l : PySem.W.OpenLaw} {n k : Nat} {q : Program} {loose : List Str} {XP : (Str → Option Value) → Heap → Prop} {YP : World → Heap → Prop} {d : DefRec} {K : Params → PySem.W.Frag} {sp : PySem.W.Frag → Sp} {x : Str}
    (most : l.most = some n) (fits : n ≤ sizeLine) (plain : d.params.defaults = []) (room : Rm k callerA) (inK : ∀ (w : World) (h : Heap), YP w h → (K w.params).In h)
    (F : ∀ (w : World) (mg : Str → Option Value) (fa : Addr) (h : Heap), (K w.params).In h → h.Ns mainGlobals mg → mg d.name = some (.ref fa) →
      ∃ fd : FuncData, (∀ (s : Shared) (u : Value), BindsTo s fd ⟨[u], []⟩ [(x, u)]) ∧ ∀ base : Heap, (K w.params).In base → base.Ns mainGlobals mg → FnG l.prog w (K w.params) mg base k fa fd [x] (sp (K w.params)))
    (holds : ∀ (K : PySem.W.Frag) (H : Hp) (a : Addr) (ns : List Int), ns.length ≤ n → Only H → SqL K H a (ns.map V.int) → sp K [.ref a] H (fun v _ => v = .bl true) (fun _ _ _ => False)) :
    PySem.W.WalkO q loose XP YP l.row.toRowW d [] (fun f vs => PySem.call f vs) := by
  apply Att.attach_call most plain
  intro w s₀ s mg mb fa o pm cd doc a vs ns G Y _ _ _ named obj isI len gens
  have KX := inK w _ Y
  obtain ⟨fd, binds, prom⟩ := F w mg fa _ KX G.T.g named
  obtain ⟨H, S⟩ := scr_ex (P := l.prog) (w := w) KX obj isI (Nat.le_trans len fits)
  have env := S.env KX G.T.g G.T.b G.T.builtins G.T.nolimit gens obj
  have run := (prom _ env.mod.kin env.mod.glob).go (us := [.ref a]) (vs := [V.ref a]) room env (binds s (.ref a)) (.cons rfl .nil) (holds (K w.params) H a ns len S.only S.seq)
  refine codeAny_mono run ?_
  rintro (_ | _ | _ | _ | u) s2 h
  · exact h.elim
  · exact h.elim
  · exact h.elim
  · exact h.elim
  · obtain ⟨v, H2, os, bare, un, ok, rv, rfl⟩ := h
    cases rv
    exact ⟨rfl, S.old un ok, os, bare⟩
end ML

set_option maxRecDepth 100000
set_option maxHeartbeats 4000000
/-! The mirror layer: defs as plain functions over data. -/
namespace ML
open PySem PySem.Spec PyProof.Rows L2

class KF where
  k : PySem.W.Frag
variable [KF]
abbrev Mu := List (Option PyData)
/-- what an expression gives: data; the owned list of a slot; a fresh list -/
inductive MV where
  | dat (d : PyData) | own (i : Nat) | fre (ds : List PyData)
abbrev ME := Mu → Option (MV × Mu)
abbrev MA := Mu → Option (List MV × Mu)
abbrev MT := Mu → Option (Bool × Mu)
inductive Out where
  | nx (m : Mu) | rt (x : MV) (m : Mu) | bk (m : Mu) | ct (m : Mu)
abbrev MS := Mu → Option Out

/-! ### data in a heap -/
theorem rd_mono {H H' : Hp} {a : Addr} {o : HO} (e : Same H H') (h : Rd H a o) : Rd H' a o := by
  rcases h with h | ⟨u, h⟩
  · exact .inl (e _ _ h)
  · exact .inr ⟨u, e _ _ h⟩
def kD : Key → PyData
  | .inl i => .int i
  | .inr x => .str x
/-- the script, as data: it is no list to the mirrors -/
def scrD (ns : List Int) : PyData := .dict ((.none, .none) :: ns.map fun n => (.none, .int n))
/-- a dict whose keys are tuples of ints: their places, what they hold, the values -/
def DiP (a : Addr) (kvs : List (List Int × Addr × V)) (h : Heap) : Prop := (a == sysModules) = false ∧ kvs.length ≤ sizeLine ∧ ∃ (P : Program) (w : World) (xs : List (List Int × Addr × Value)),
  Paired (fun (p : List Int × Addr × V) (q : List Int × Addr × Value) => p.1 = q.1 ∧ p.2.1 = q.2.1 ∧ RelV p.2.2 q.2.2) kvs xs ∧ (xs.map (·.1)).Nodup ∧
  ∃ o es ep, h.get? a = some o ∧ o.ExactDict ∧ o.data = .dict es ep ∧ es.toList = xs.map (entryOfKey (tupleKind (intKind P w)))
def DiT (a : Addr) (kvs : List (List Int × Addr × V)) : HO := .ext (DiP a kvs)
mutual
inductive Dq (G : Hp) : V → PyData → Prop
  | non : Dq G .non .none
  | bl (b : Bool) : Dq G (.bl b) (.bool b)
  | int (i : Int) : Dq G (.int i) (.int i)
  | str (x : Str) : Dq G (.str x) (.str x)
  | lst {a : Addr} {xs : List V} {ds : List PyData} : Rd G a (.lst xs) → DqAll G xs ds → Dq G (.ref a) (.list ds)
  | tup {a : Addr} {o : Obj} {xs : List V} {ds : List PyData} : G a = some (.frz o (.tup xs)) → o.dict = Option.none → DqAll G xs ds → Dq G (.ref a) (.tuple ds)
  | dicK {a : Addr} {kvs : List (Key × V)} {es : List (PyData × PyData)} : Rd G a (.dK kvs) → es ≠ [] → DqKv G kvs es → Dq G (.ref a) (.dict es)
  | scr {a : Addr} {ns : List Int} : SqL KF.k G a (ns.map V.int) → Dq G (.ref a) (scrD ns)
  | dicT {a : Addr} {o : Obj} {kvs : List (List Int × Addr × V)} {es : List (PyData × PyData)} : G a = some (.frz o (DiT a kvs)) → DqKt G kvs es → Dq G (.ref a) (.dict es)
inductive DqAll (G : Hp) : List V → List PyData → Prop
  | nil : DqAll G [] []
  | cons {v : V} {vs : List V} {d : PyData} {ds : List PyData} : Dq G v d → DqAll G vs ds → DqAll G (v :: vs) (d :: ds)
inductive DqKv (G : Hp) : List (Key × V) → List (PyData × PyData) → Prop
  | nil : DqKv G [] []
  | cons {k : Key} {v : V} {vs : List (Key × V)} {d : PyData} {ds : List (PyData × PyData)} : Dq G v d → DqKv G vs ds → DqKv G ((k, v) :: vs) ((kD k, d) :: ds)
inductive DqKt (G : Hp) : List (List Int × Addr × V) → List (PyData × PyData) → Prop
  | nil : DqKt G [] []
  | cons {k : List Int} {b : Addr} {o : Obj} {v : V} {vs : List (List Int × Addr × V)} {d : PyData} {ds : List (PyData × PyData)} : G b = some (.frz o (.tup (k.map V.int))) → o.dict = Option.none → Dq G v d → DqKt G vs ds → DqKt G ((k, b, v) :: vs) ((.tuple (k.map .int), d) :: ds)
end
mutual
theorem dq_mono {G G' : Hp} (e : Same G G') : ∀ {d : PyData} {v : V}, Dq G v d → Dq G' v d
  | .none, _, h => by cases h; exact .non
  | .bool _, _, h => by cases h; exact .bl _
  | .int _, _, h => by cases h; exact .int _
  | .str _, _, h => by cases h; exact .str _
  | .list ds, _, h => by
    cases h with
    | lst h1 h2 => exact .lst (rd_mono e h1) (dqa_mono e h2)
  | .tuple ds, _, h => by
    cases h with
    | tup h1 h0 h2 => exact .tup (e _ _ h1) h0 (dqa_mono e h2)
  | .dict es, v, h => by
    generalize hd : PyData.dict es = d at h
    cases h with
    | dicK h1 h0 h2 => cases hd; exact .dicK (rd_mono e h1) h0 (dqk_mono e h2)
    | dicT h1 h2 => cases hd; exact .dicT (e _ _ h1) (dqt_mono e h2)
    | scr h1 => exact .scr (e.seq h1)
    | non => cases hd
    | bl _ => cases hd
    | int _ => cases hd
    | str _ => cases hd
    | lst _ _ => cases hd
    | tup _ _ _ => cases hd
theorem dqa_mono {G G' : Hp} (e : Same G G') : ∀ {ds : List PyData} {vs : List V}, DqAll G vs ds → DqAll G' vs ds
  | [], _, h => by cases h; exact .nil
  | d :: ds, _, h => by
    cases h with
    | cons h1 h2 => exact .cons (dq_mono e h1) (dqa_mono e h2)
theorem dqk_mono {G G' : Hp} (e : Same G G') : ∀ {ds : List (PyData × PyData)} {vs : List (Key × V)}, DqKv G vs ds → DqKv G' vs ds
  | [], _, h => by cases h; exact .nil
  | (_, d) :: ds, _, h => by
    cases h with
    | cons h1 h2 => exact .cons (dq_mono e h1) (dqk_mono e h2)
theorem dqt_mono {G G' : Hp} (e : Same G G') : ∀ {ds : List (PyData × PyData)} {vs : List (List Int × Addr × V)}, DqKt G vs ds → DqKt G' vs ds
  | [], _, h => by cases h; exact .nil
  | (_, d) :: ds, _, h => by
    cases h with
    | cons h1 h0 h2 h3 => exact .cons (e _ _ h1) h0 (dq_mono e h2) (dqt_mono e h3)
end
mutual
theorem dq_dp {K : PySem.W.Frag} {G : Hp} : ∀ {d : PyData} {v : V}, d.hasDict = false → Dq G v d → Dp K G v d
  | .none, _, _, h => by cases h; exact .non
  | .bool _, _, _, h => by cases h; exact .bl _
  | .int _, _, _, h => by cases h; exact .int _
  | .str _, _, _, h => by cases h; exact .str _
  | .list ds, _, n, h => by
    cases h with
    | lst h1 h2 => exact .lst (.inl h1) (dqa_dp (by simpa [PyData.hasDict] using n) h2)
  | .tuple ds, _, n, h => by
    cases h with
    | tup h1 h0 h2 => exact .tup (.inl (.inr ⟨_, h1⟩)) (dqa_dp (by simpa [PyData.hasDict] using n) h2)
  | .dict es, _, n, h => by simp [PyData.hasDict] at n
theorem dqa_dp {K : PySem.W.Frag} {G : Hp} : ∀ {ds : List PyData} {vs : List V}, PyData.hasDictAll ds = false → DqAll G vs ds → DpAll K G vs ds
  | [], _, _, h => by cases h; exact .nil
  | d :: ds, _, n, h => by
    rw [PyData.hasDictAll, Bool.or_eq_false_iff] at n
    cases h with
    | cons h1 h2 => exact .cons (dq_dp n.1 h1) (dqa_dp n.2 h2)
end
theorem dqa_len {G : Hp} : ∀ {vs : List V} {ds : List PyData}, DqAll G vs ds → vs.length = ds.length
  | _, _, .nil => rfl
  | _, _, .cons _ t => by rw [List.length_cons, List.length_cons, dqa_len t]
theorem dqa_get {G : Hp} : ∀ {vs : List V} {ds : List PyData} {i : Nat} {d : PyData}, DqAll G vs ds → ds[i]? = some d → ∃ v, vs[i]? = some v ∧ Dq G v d
  | _, _, _, _, .nil, h => by simp at h
  | _, _, 0, _, .cons r _, h => by simp at h; subst h; exact ⟨_, by simp, r⟩
  | _, _, i + 1, _, .cons _ t, h => by
    obtain ⟨v, h1, h2⟩ := dqa_get (i := i) t (by simpa using h)
    exact ⟨v, by simpa using h1, h2⟩
theorem dqa_get' {G : Hp} : ∀ {vs : List V} {ds : List PyData} {i : Nat} {v : V}, DqAll G vs ds → vs[i]? = some v → ∃ d, ds[i]? = some d ∧ Dq G v d
  | _, _, _, _, .nil, h => by simp at h
  | _, _, 0, _, .cons r _, h => by simp at h; subst h; exact ⟨_, by simp, r⟩
  | _, _, i + 1, _, .cons _ t, h => by
    obtain ⟨v, h1, h2⟩ := dqa_get' (i := i) t (by simpa using h)
    exact ⟨v, by simpa using h1, h2⟩
theorem dqa_app {G : Hp} : ∀ {vs ws : List V} {ds es : List PyData}, DqAll G vs ds → DqAll G ws es → DqAll G (vs ++ ws) (ds ++ es)
  | _, _, _, _, .nil, h => h
  | _, _, _, _, .cons r t, h => .cons r (dqa_app t h)
theorem dqa_drop {G : Hp} : ∀ {vs : List V} {ds : List PyData} (n : Nat), DqAll G vs ds → DqAll G (vs.drop n) (ds.drop n)
  | _, _, 0, h => h
  | _, _, _ + 1, .nil => .nil
  | _, _, n + 1, .cons _ t => dqa_drop n t
theorem dqa_take {G : Hp} : ∀ {vs : List V} {ds : List PyData} (n : Nat), DqAll G vs ds → DqAll G (vs.take n) (ds.take n)
  | _, _, 0, h => .nil
  | _, _, _ + 1, .nil => .nil
  | _, _, n + 1, .cons r t => .cons r (dqa_take n t)
theorem dqa_set {G : Hp} : ∀ {vs : List V} {ds : List PyData} {v : V} {d : PyData} (n : Nat), DqAll G vs ds → Dq G v d → DqAll G (vs.set n v) (ds.set n d)
  | _, _, _, _, _, .nil, _ => .nil
  | _, _, _, _, 0, .cons _ t, h => .cons h t
  | _, _, _, _, n + 1, .cons r t, h => .cons r (dqa_set n t h)
theorem dqa_erase {G : Hp} : ∀ {vs : List V} {ds : List PyData} (n : Nat), DqAll G vs ds → DqAll G (vs.eraseIdx n) (ds.eraseIdx n)
  | _, _, _, .nil => .nil
  | _, _, 0, .cons _ t => t
  | _, _, n + 1, .cons r t => .cons r (dqa_erase n t)
theorem dqa_rev {G : Hp} : ∀ {vs : List V} {ds : List PyData}, DqAll G vs ds → DqAll G vs.reverse ds.reverse
  | _, _, .nil => .nil
  | _, _, .cons r t => by
    rw [List.reverse_cons, List.reverse_cons]
    exact dqa_app (dqa_rev t) (.cons r .nil)
theorem dq_int {G : Hp} {v : V} {i : Int} (h : Dq G v (.int i)) : v = .int i := by cases h; rfl
theorem dq_bl {G : Hp} {v : V} {i : Bool} (h : Dq G v (.bool i)) : v = .bl i := by cases h; rfl
theorem dq_str {G : Hp} {v : V} {i : Str} (h : Dq G v (.str i)) : v = .str i := by cases h; rfl
theorem dq_non {G : Hp} {v : V} (h : Dq G v .none) : v = .non := by cases h; rfl
theorem dqa_ints {G : Hp} : ∀ {vs : List V} {ns : List Int}, DqAll G vs (ns.map .int) → vs = ns.map V.int
  | _, [], h => by cases h; rfl
  | _, n :: ns, h => by
    cases h with
    | cons r t => cases r; rw [dqa_ints t]; rfl
theorem dqa_bools {G : Hp} : ∀ {vs : List V} {ns : List Bool}, DqAll G vs (ns.map .bool) → vs = ns.map V.bl
  | _, [], h => by cases h; rfl
  | _, n :: ns, h => by
    cases h with
    | cons r t => cases r; rw [dqa_bools t]; rfl
theorem dqa_of_ints {G : Hp} : ∀ (ns : List Int), DqAll G (ns.map V.int) (ns.map .int)
  | [] => .nil
  | n :: ns => .cons (.int n) (dqa_of_ints ns)
/-! ### growing -/
structure Grow (G H G' H' : Hp) : Prop where
  g : Same G G'
  h : Same H H'
  gh : Same G' H'
  fr : ∀ a, H a ≠ none → G a = none → G' a = none
theorem Grow.refl {G H : Hp} (e : Same G H) : Grow G H G H := ⟨.refl _, .refl _, e, fun _ _ h => h⟩
theorem same_live {H H' : Hp} (e : Same H H') {a : Addr} (h : H a ≠ none) : H' a ≠ none := by
  cases q : H a with
  | none => exact absurd q h
  | some o => rw [e _ _ q]; exact fun z => nomatch z
theorem Grow.trans {G H G1 H1 G2 H2 : Hp} (a : Grow G H G1 H1) (b : Grow G1 H1 G2 H2) : Grow G H G2 H2 :=
  ⟨a.g.trans b.g, a.h.trans b.h, b.gh, fun x h g => b.fr x (same_live a.h h) (a.fr x h g)⟩
/-- a new object, frozen at once -/
theorem Grow.new {G H : Hp} (e : Same G H) {p : Addr} {o : HO} (n : H p = none) : Grow G H (upd G p o) (upd H p o) := by
  have ng : G p = none := e.free n
  refine ⟨fun b u q => by rw [upd_ne (ne_of_none q ng)]; exact q, fun b u q => by rw [upd_ne (ne_of_none q n)]; exact q, fun b u q => ?_, fun a h g => ?_⟩
  · by_cases hb : b = p
    · subst hb; rw [upd_same] at q ⊢; exact q
    · rw [upd_ne hb] at q ⊢; exact e _ _ q
  · have : a ≠ p := fun z => h (z ▸ n)
    rw [upd_ne this]; exact g
/-- a new object, not frozen -/
theorem Grow.free {G H : Hp} (e : Same G H) {p : Addr} {o : HO} (n : H p = none) : Grow G H G (upd H p o) := by
  refine ⟨.refl _, fun b u q => by rw [upd_ne (ne_of_none q n)]; exact q, fun b u q => ?_, fun a h g => g⟩
  rw [upd_ne (ne_of_none (e _ _ q) n)]; exact e _ _ q

/-! ### the def at work -/
structure Act where
  O : List Nat
  P : List Nat
  pa : Nat → Addr
  G : Hp
  H : Hp
def Own (A : Act) (σ : L2.St) (a : Addr) : Prop := ∃ i, i ∈ A.O ∧ σ[i]? = some (some (.ref a))
structure Step (A : Act) (σ : L2.St) (G H G' H' : Hp) : Prop where
  g : Same G G'
  h : ∀ a o, H a = some o → ¬ Own A σ a → H' a = some o
  fr : ∀ a, H a ≠ none → G a = none → G' a = none
  lv : ∀ a, H a ≠ none → H' a ≠ none
theorem Step.refl {A : Act} {σ : L2.St} {G H : Hp} : Step A σ G H G H := ⟨.refl _, fun _ _ h _ => h, fun _ _ h => h, fun _ h => h⟩
theorem Step.trans {A : Act} {σ : L2.St} {G H G1 H1 G2 H2 : Hp} (a : Step A σ G H G1 H1) (b : Step A σ G1 H1 G2 H2) : Step A σ G H G2 H2 :=
  ⟨a.g.trans b.g, fun x o h n => b.h x o (a.h x o h n) n, fun x h g => b.fr x (a.lv x h) (a.fr x h g), fun x h => b.lv x (a.lv x h)⟩
theorem Grow.step {A : Act} {σ : L2.St} {G H G' H' : Hp} (a : Grow G H G' H') : Step A σ G H G' H' := ⟨a.g, fun x o h _ => a.h x o h, a.fr, fun _ h => same_live a.h h⟩

/-- what stands where a def's own list or dict is -/
def OwnD (G : Hp) (p : Addr) (o : HO) (d : PyData) : Prop := (∃ vs ds, o = .lst vs ∧ d = .list ds ∧ DqAll G vs ds) ∨ ∃ kvs es, o = DiT p kvs ∧ d = .dict es ∧ DqKt G kvs es
theorem OwnD.mono {G G' : Hp} {p : Addr} {o : HO} {d : PyData} (e : Same G G') : OwnD G p o d → OwnD G' p o d
  | .inl ⟨vs, ds, h1, h2, h3⟩ => .inl ⟨vs, ds, h1, h2, dqa_mono e h3⟩
  | .inr ⟨kvs, es, h1, h2, h3⟩ => .inr ⟨kvs, es, h1, h2, dqt_mono e h3⟩
structure Rl (A : Act) (G : Hp) (μ : Mu) (σ : L2.St) (H : Hp) : Prop where
  len : σ.length = μ.length
  ext : Same G H
  up : Same A.G G
  fr : ∀ a o, A.H a = some o → (∀ i, i ∈ A.P → A.pa i ≠ a) → H a = some o
  lv : ∀ a, A.H a ≠ none → H a ≠ none
  fg : ∀ a, A.H a ≠ none → A.G a = none → G a = none
  val : ∀ i d, μ[i]? = some (some d) → i ∉ A.O → ∃ v, σ[i]? = some (some v) ∧ Dq G v d
  own : ∀ i d, μ[i]? = some (some d) → i ∈ A.O → ∃ p o, σ[i]? = some (some (.ref p)) ∧ H p = some o ∧ OwnD G p o d ∧ G p = none ∧ (A.H p = none ∨ (i ∈ A.P ∧ p = A.pa i))
  liv : ∀ i a, i ∈ A.O → σ[i]? = some (some (.ref a)) → H a ≠ none
  sep : ∀ i j p, i ∈ A.O → j ∈ A.O → σ[i]? = some (some (.ref p)) → σ[j]? = some (some (.ref p)) → i = j
  par : ∀ i, i ∈ A.P → i ∈ A.O ∧ σ[i]? = some (some (.ref (A.pa i))) ∧ A.H (A.pa i) ≠ none ∧ A.G (A.pa i) = none

section
variable {A : Act} {G G' H H' : Hp} {μ : Mu} {σ : L2.St}
/-- all that stood stands -/
theorem Rl.grow (R : Rl A G μ σ H) (g : Grow G H G' H') : Rl A G' μ σ H' where
  len := R.len
  ext := g.gh
  up := R.up.trans g.g
  fr := fun a o h n => g.h a o (R.fr a o h n)
  lv := fun a h => same_live g.h (R.lv a h)
  fg := fun a h n => g.fr a (R.lv a h) (R.fg a h n)
  val := fun i d h n => let ⟨v, e, r⟩ := R.val i d h n; ⟨v, e, dq_mono g.g r⟩
  own := fun i d h n => by
    obtain ⟨p, o, s, hp, r, gp, q⟩ := R.own i d h n
    exact ⟨p, o, s, g.h _ _ hp, r.mono g.g, g.fr p (by rw [hp]; exact fun z => nomatch z) gp, q⟩
  liv := fun i a h e => same_live g.h (R.liv i a h e)
  sep := R.sep
  par := R.par

/-- a list of one's own -/
theorem Rl.ownL (R : Rl A G μ σ H) (i : Nat) {ds : List PyData} (h : μ[i]? = some (some (.list ds))) (n : i ∈ A.O) : ∃ p vs ds', PyData.list ds = .list ds' ∧ σ[i]? = some (some (.ref p)) ∧ H p = some (.lst vs) ∧ DqAll G vs ds' ∧ G p = none ∧ (A.H p = none ∨ (i ∈ A.P ∧ p = A.pa i)) := by
  obtain ⟨p, o, s, hp, r, gp, q⟩ := R.own i _ h n
  rcases r with ⟨vs, ds', rfl, e, r⟩ | ⟨kvs, es, _, e, _⟩
  · exact ⟨p, vs, ds', e, s, hp, r, gp, q⟩
  · cases e

/-! ### values of expressions -/
def RelMV (A : Act) (G : Hp) (σ : L2.St) (H : Hp) (v : V) : MV → Prop
  | .dat d => Dq G v d
  | .own i => i ∈ A.O ∧ σ[i]? = some (some v)
  | .fre ds => ∃ p vs, v = .ref p ∧ H p = some (.lst vs) ∧ DqAll G vs ds ∧ G p = none ∧ A.H p = none ∧ ¬ Own A σ p
theorem RelMV.step {v : V} {x : MV} (s : Step A σ G H G' H') (r : RelMV A G σ H v x) : RelMV A G' σ H' v x := by
  cases x with
  | dat d => exact dq_mono s.g r
  | own i => exact r
  | fre ds =>
    obtain ⟨p, vs, e, h, a, g, n, o⟩ := r
    exact ⟨p, vs, e, s.h _ _ h o, dqa_mono s.g a, s.fr p (by rw [h]; exact fun z => nomatch z) g, n, o⟩
def deref (μ : Mu) : MV → Option PyData
  | .dat d => some d
  | .own i => (μ[i]?).join
  | .fre ds => some (.list ds)
/-- what may be read off at once -/
inductive Db (G H : Hp) : V → PyData → Prop
  | dat {v : V} {d : PyData} : Dq G v d → Db G H v d
  | lst {p : Addr} {vs : List V} {ds : List PyData} : H p = some (.lst vs) → DqAll G vs ds → Db G H (.ref p) (.list ds)
  | dic {p : Addr} {kvs : List (List Int × Addr × V)} {es : List (PyData × PyData)} : H p = some (DiT p kvs) → DqKt G kvs es → Db G H (.ref p) (.dict es)
theorem Db.l {v : V} {ds : List PyData} (h : Db G H v (.list ds)) (e : Same G H) : ∃ p vs, v = .ref p ∧ Rd H p (.lst vs) ∧ DqAll G vs ds := by
  cases h with
  | dat h =>
    cases h with
    | lst h1 h2 => exact ⟨_, _, rfl, rd_mono e h1, h2⟩
  | lst h1 h2 => exact ⟨_, _, rfl, .inl h1, h2⟩
theorem Db.t {v : V} {ds : List PyData} (h : Db G H v (.tuple ds)) (e : Same G H) : ∃ p vs, v = .ref p ∧ Rd H p (.tup vs) ∧ DqAll G vs ds := by
  cases h with
  | dat h =>
    cases h with
    | tup h1 h0 h2 => exact ⟨_, _, rfl, .inr ⟨_, e _ _ h1⟩, h2⟩
theorem Db.tt {v : V} {ds : List PyData} (h : Db G H v (.tuple ds)) (e : Same G H) : ∃ p o vs, v = .ref p ∧ H p = some (.frz o (.tup vs)) ∧ o.dict = Option.none ∧ DqAll G vs ds := by
  cases h with
  | dat h =>
    cases h with
    | tup h1 h0 h2 => exact ⟨_, _, _, rfl, e _ _ h1, h0, h2⟩
theorem Db.i {v : V} {i : Int} (h : Db G H v (.int i)) : v = .int i := by
  cases h with
  | dat h => exact dq_int h
theorem Db.b {v : V} {i : Bool} (h : Db G H v (.bool i)) : v = .bl i := by
  cases h with
  | dat h => exact dq_bl h
theorem Db.s {v : V} {i : Str} (h : Db G H v (.str i)) : v = .str i := by
  cases h with
  | dat h => exact dq_str h
theorem Db.dq {v : V} {d : PyData} (h : Db G H v d) (e : Same G H) (hn : d.hasDict = false) : Dq H v d := by
  cases h with
  | dat h => exact dq_mono e h
  | lst h1 h2 => exact .lst (.inl h1) (dqa_mono e h2)
  | dic h1 h2 => cases hn
theorem RelMV.db {v : V} {x : MV} {d : PyData} (R : Rl A G μ σ H) (r : RelMV A G σ H v x) (h : deref μ x = some d) : Db G H v d := by
  cases x with
  | dat d' => cases h; exact .dat r
  | own i =>
    have e : μ[i]? = some (some d) := by
      show μ[i]? = _
      have : (μ[i]?).join = some d := h
      cases q : μ[i]? with
      | none => rw [q] at this; cases this
      | some o => rw [q] at this; exact congrArg some this
    obtain ⟨p, o, e2, e3, e4, _⟩ := R.own i d e r.1
    have e5 : v = .ref p := by
      have := e2.symm.trans r.2
      exact (Option.some.inj (Option.some.inj this)).symm
    subst e5
    rcases e4 with ⟨vs, ds, rfl, rfl, e4⟩ | ⟨kvs, es, rfl, rfl, e4⟩
    · exact .lst e3 e4
    · exact .dic e3 e4
  | fre ds =>
    cases h
    obtain ⟨p, vs, e, h, a, _⟩ := r
    subst e
    exact .lst h a
/-- what an operation gives -/
def ResV (H G' H' : Hp) (v : V) : MV → Prop
  | .dat d => Dq G' v d
  | .own _ => False
  | .fre ds => ∃ p vs, v = .ref p ∧ H p = none ∧ H' p = some (.lst vs) ∧ DqAll G' vs ds ∧ G' p = none
theorem ResV.rel {v : V} {x : MV} (R : Rl A G μ σ H) (r : ResV H G' H' v x) : RelMV A G' σ H' v x := by
  cases x with
  | dat d => exact r
  | own i => exact r.elim
  | fre ds =>
    obtain ⟨p, vs, e, h, a, b, c⟩ := r
    refine ⟨p, vs, e, a, b, c, ?_, fun ⟨i, hi, hs⟩ => R.liv i p hi hs h⟩
    cases q : A.H p with
    | none => rfl
    | some o => exact absurd h (R.lv p (by rw [q]; exact fun z => nomatch z))
end

/-! ### readings -/
def tMT (A : Act) (m : MT) : TT := fun σ H Q => ∃ G μ b μ', Rl A G μ σ H ∧ m μ = some (b, μ') ∧ ∀ G' H', Step A σ G H G' H' → Rl A G' μ' σ H' → Q b H'
inductive RelMVs (A : Act) (G : Hp) (σ : L2.St) (H : Hp) : List V → List MV → Prop
  | nil : RelMVs A G σ H [] []
  | cons {v : V} {vs : List V} {x : MV} {xs : List MV} : RelMV A G σ H v x → RelMVs A G σ H vs xs → RelMVs A G σ H (v :: vs) (x :: xs)
theorem RelMVs.step {A : Act} {G G' H H' : Hp} {σ : L2.St} (s : Step A σ G H G' H') : ∀ {vs : List V} {xs : List MV}, RelMVs A G σ H vs xs → RelMVs A G' σ H' vs xs
  | _, _, .nil => .nil
  | _, _, .cons r t => .cons (r.step s) (RelMVs.step s t)
def tMA (A : Act) (m : MA) : TA := fun σ H Q => ∃ G μ xs μ', Rl A G μ σ H ∧ m μ = some (xs, μ') ∧ ∀ G' H' vs, Step A σ G H G' H' → Rl A G' μ' σ H' → RelMVs A G' σ H' vs xs → Q vs H'
def Sat (A : Act) (D : Ends) (G : Hp) : Out → Prop
  | .nx μ' => ∀ σ' G' H', Same G G' → Rl A G' μ' σ' H' → D.nx σ' H'
  | .rt x μ' => ∀ v σ' G' H', Same G G' → Rl A G' μ' σ' H' → ResV A.H G' H' v x → D.rt v H'
  | .bk μ' => ∀ σ' G' H', Same G G' → Rl A G' μ' σ' H' → D.bk σ' H'
  | .ct μ' => ∀ σ' G' H', Same G G' → Rl A G' μ' σ' H' → D.ct σ' H'
def tS (A : Act) (s : MS) : TS := fun D σ H => ∃ G μ o, Rl A G μ σ H ∧ s μ = some o ∧ Sat A D G o

section
variable {X : Cx} {e : Expr} {st : Stmt} {ss : List Stmt}
theorem pe_to {t t' : TE} (h : PE X e t) (k : ∀ σ H Q, t' σ H Q → t σ H Q) : PE X e t' := ⟨fun pins s σ H Q I w => h.run pins s σ H Q I (k σ H Q w)⟩
theorem pt_to {t t' : TT} (h : PT X e t) (k : ∀ σ H Q, t' σ H Q → t σ H Q) : PT X e t' := ⟨fun pins s σ H Q I w => h.run pins s σ H Q I (k σ H Q w)⟩
theorem pa_to {es : List Expr} {t t' : TA} (h : PA X es t) (k : ∀ σ H Q, t' σ H Q → t σ H Q) : PA X es t' := ⟨fun pos pins s σ H Q I w => h.run pos pins s σ H Q I (k σ H Q w)⟩
theorem ps_to {t t' : TS} (h : PS X st t) (k : ∀ D σ H, t' D σ H → t D σ H) : PS X st t' := ⟨fun pins s σ H D I w => h.run pins s σ H D I (k D σ H w)⟩
theorem pss_to {t t' : TS} (h : PSs X ss t) (k : ∀ D σ H, t' D σ H → t D σ H) : PSs X ss t' := ⟨fun pins s σ H D I w => h.run pins s σ H D I (k D σ H w)⟩
end
end ML

set_option maxRecDepth 100000
set_option maxHeartbeats 4000000
namespace ML
open PySem PySem.Spec PyProof.Rows L2
variable [KF]
/-! ### fresh since the start -/
def Nw (H : Hp) (v : V) : MV → Prop
  | .fre _ => ∀ p, v = .ref p → H p = none
  | _ => True
theorem Nw.back {A : Act} {σ : L2.St} {G H G' H' : Hp} {v : V} {x : MV} (s : Step A σ G H G' H') (n : Nw H' v x) : Nw H v x := by
  cases x with
  | dat d => trivial
  | own i => trivial
  | fre ds =>
    intro p e
    have := n p e
    cases q : H p with
    | none => rfl
    | some o => exact absurd this (s.lv p (by rw [q]; exact fun z => nomatch z))
theorem ResV.nw {H G' H' : Hp} {v : V} {x : MV} (r : ResV H G' H' v x) : Nw H v x := by
  cases x with
  | dat d => trivial
  | own i => trivial
  | fre ds =>
    obtain ⟨p, vs, e, h, _⟩ := r
    subst e
    intro q e
    cases e
    exact h
/-- an expression as a mirror -/
def tE (A : Act) (m : ME) : TE := fun σ H Q => ∃ G μ x μ', Rl A G μ σ H ∧ m μ = some (x, μ') ∧ ∀ G' H' v, Step A σ G H G' H' → Rl A G' μ' σ H' → RelMV A G' σ H' v x → Nw H v x → Q v H'

/-! ### combinators -/
def mVar (i : Nat) : ME := fun μ => match μ[i]? with | some (some d) => some (.dat d, μ) | _ => none
def mOwn (i : Nat) : ME := fun μ => match μ[i]? with | some (some _) => some (.own i, μ) | _ => none
def mC (d : PyData) : ME := fun μ => some (.dat d, μ)
def mBin (f : PyData → PyData → Option MV) (ma mb : ME) : ME := fun μ => (ma μ).bind fun p => (mb p.2).bind fun q => (deref q.2 p.1).bind fun a => (deref q.2 q.1).bind fun b => (f a b).map fun z => (z, q.2)
def mUn (f : PyData → Option MV) (ma : ME) : ME := fun μ => (ma μ).bind fun p => (deref p.2 p.1).bind fun a => (f a).map fun z => (z, p.2)
def isB : PyData → Option Bool | .bool b => some b | _ => none
def mTest (m : ME) : MT := fun μ => (m μ).bind fun p => (deref p.2 p.1).bind fun a => (isB a).map fun b => (b, p.2)
def tru : PyData → Option Bool
  | .none => some false
  | .bool b => some b
  | .int i => some (i != 0)
  | .str y => if y.length ≤ sizeLine then some ((y.length : Int) != 0) else none
  | .list xs => some (!xs.isEmpty)
  | .tuple xs => some (!xs.isEmpty)
  | .dict _ => none
def mTruth (m : ME) : MT := fun μ => (m μ).bind fun p => (deref p.2 p.1).bind fun a => (tru a).map fun b => (b, p.2)
def mNotT (m : MT) : MT := fun μ => (m μ).map fun p => (!p.1, p.2)
def mAndT (a b : MT) : MT := fun μ => (a μ).bind fun p => if p.1 = true then b p.2 else some (false, p.2)
def mOrT (a b : MT) : MT := fun μ => (a μ).bind fun p => if p.1 = true then some (true, p.2) else b p.2
def mAndV (a b : ME) : ME := fun μ => (mTest a μ).bind fun p => if p.1 = true then b p.2 else some (.dat (.bool false), p.2)
def mOrV (a b : ME) : ME := fun μ => (mTest a μ).bind fun p => if p.1 = true then some (.dat (.bool true), p.2) else b p.2
def mNotV (a : ME) : ME := fun μ => (mTest a μ).map fun p => (.dat (.bool (!p.1)), p.2)
def mIf (c : MT) (a b : ME) : ME := fun μ => (c μ).bind fun p => if p.1 = true then a p.2 else b p.2
def mNil : MA := fun μ => some ([], μ)
def mCons (a : ME) (r : MA) : MA := fun μ => (a μ).bind fun p => (r p.2).map fun q => (p.1 :: q.1, q.2)
def dats : List MV → Option (List PyData)
  | [] => some []
  | .dat d :: r => (dats r).map fun ds => d :: ds
  | _ :: _ => none
def derefs (μ : Mu) : List MV → Option (List PyData)
  | [] => some []
  | x :: r => (deref μ x).bind fun d => (derefs μ r).map fun ds => d :: ds
/-- what may be lent to a def: no own dict -/
def derefL (μ : Mu) : MV → Option PyData
  | .dat d => some d
  | .own i => match (μ[i]?).join with
    | some (.dict _) => none
    | x => x
  | .fre ds => some (.list ds)
def derefsL (μ : Mu) : List MV → Option (List PyData)
  | [] => some []
  | x :: r => (derefL μ x).bind fun d => (derefsL μ r).map fun ds => d :: ds
def mTup (m : MA) : ME := fun μ => (m μ).bind fun p => (dats p.1).bind fun ds => if ds.length ≤ 100000 then some (.dat (.tuple ds), p.2) else none
def mLst (m : MA) : ME := fun μ => (m μ).bind fun p => (dats p.1).bind fun ds => if ds.length ≤ 100000 then some (.fre ds, p.2) else none
def frz : MV → Option MV
  | .dat d => some (.dat d)
  | .fre ds => some (.dat (.list ds))
  | .own _ => none
def mFrz (m : ME) : ME := fun μ => (m μ).bind fun p => (frz p.1).map fun z => (z, p.2)
/-- a built-in's call -/
def mCallB (f : List PyData → Option MV) (m : MA) : ME := fun μ => (m μ).bind fun p => (derefs p.2 p.1).bind fun ds => (f ds).map fun z => (z, p.2)

theorem sz5 {n : Nat} (h : n ≤ 100000) : n ≤ sizeLine := Nat.le_trans h (by decide)

section
variable {X : Cx} {A : Act}
theorem bind2 {α β : Type} {o : Option α} {f : α → Option β} {z : β} (h : o.bind f = some z) : ∃ a, o = some a ∧ f a = some z := by
  cases o with
  | none => cases h
  | some a => exact ⟨a, rfl, h⟩
theorem map2 {α β : Type} {o : Option α} {f : α → β} {z : β} (h : o.map f = some z) : ∃ a, o = some a ∧ f a = z := by
  cases o with
  | none => cases h
  | some a => exact ⟨a, rfl, Option.some.inj h⟩
theorem notO {O : List Nat} {i : Nat} (h : O.contains i = false) : i ∉ O := fun z => by
  have : O.contains i = true := by simpa using z
  rw [h] at this; cases this
theorem inO {O : List Nat} {i : Nat} (h : O.contains i = true) : i ∈ O := by simpa using h
theorem qe_var (i : Nat) {x : Str} {pos : Pos} (hO : A.O.contains i = false := by rfl) (hN : X.N[i]? = some x := by rfl) (hv : Vis X.env.scope x := by first | exact Or.inl rfl | exact Or.inr (Or.inl rfl) | exact Or.inr (Or.inr rfl)) (hd : (x == ("__debug__" : Str)) = false := by decide)
    (hcd : (x == ("__classdict__" : Str)) = false := by decide) : PE X (.Name x pos) (tE A (mVar i)) := pe_to (pv i hN hv hd hcd) fun σ H Q ⟨G, μ, z, μ', R, e, k⟩ => by
  unfold mVar at e
  split at e
  · rename_i d hm
    cases e
    obtain ⟨v, hs, r⟩ := R.val i d hm (notO hO)
    exact ⟨v, hs, k G H v .refl R r trivial⟩
  · cases e
theorem qe_own (i : Nat) {x : Str} {pos : Pos} (hO : A.O.contains i = true := by rfl) (hN : X.N[i]? = some x := by rfl) (hv : Vis X.env.scope x := by first | exact Or.inl rfl | exact Or.inr (Or.inl rfl) | exact Or.inr (Or.inr rfl)) (hd : (x == ("__debug__" : Str)) = false := by decide)
    (hcd : (x == ("__classdict__" : Str)) = false := by decide) : PE X (.Name x pos) (tE A (mOwn i)) := pe_to (pv i hN hv hd hcd) fun σ H Q ⟨G, μ, z, μ', R, e, k⟩ => by
  unfold mOwn at e
  split at e
  · rename_i d hm
    cases e
    obtain ⟨p, o, e2, _⟩ := R.own i d hm (inO hO)
    exact ⟨_, e2, k G H _ .refl R ⟨inO hO, e2⟩ trivial⟩
  · cases e
theorem qe_c {e : Expr} {v : V} {d : PyData} (h : PE X e (tC v)) (hd : ∀ G, Dq G v d) : PE X e (tE A (mC d)) := pe_to h fun σ H Q ⟨G, μ, z, μ', R, e, k⟩ => by
  cases e
  exact k G H v .refl R (hd G) trivial

/-! ### operators -/
def OpOk (X : Cx) (g : Value → Value → Sem Value) (f : PyData → PyData → Option MV) : Prop := ∃ r, OpR X g r ∧ ∀ G H x y a b z Q, Same G H → Db G H x a → Db G H y b → f a b = some z →
  (∀ G' H' v, Grow G H G' H' → ResV H G' H' v z → Q v H') → r x y H Q
def orF (f g : PyData → PyData → Option MV) : PyData → PyData → Option MV := fun a b => match f a b with | some z => some z | none => g a b
theorem OpR.or {g : Value → Value → Sem Value} {r r' : R2} (h : OpR X g r) (h' : OpR X g r') : OpR X g (fun x y H Q => r x y H Q ∨ r' x y H Q) := by
  intro pins s σ H x y v u Q I rx ry q
  rcases q with q | q
  · exact h pins s σ H x y v u Q I rx ry q
  · exact h' pins s σ H x y v u Q I rx ry q
theorem OpOk.or {g : Value → Value → Sem Value} {f f' : PyData → PyData → Option MV} (h : OpOk X g f) (h' : OpOk X g f') : OpOk X g (orF f f') := by
  obtain ⟨r, h1, h2⟩ := h
  obtain ⟨r', h3, h4⟩ := h'
  refine ⟨_, OpR.or h1 h3, fun G H x y a b z Q e hx hy hz k => ?_⟩
  unfold orF at hz
  split at hz
  · rename_i w hw
    cases hz
    exact .inl (h2 G H x y a b _ Q e hx hy hw k)
  · exact .inr (h4 G H x y a b _ Q e hx hy hz k)
theorem bin_read {f : PyData → PyData → Option MV} {ma mb : ME} {r : R2} (hm : ∀ G H x y a b z Q, Same G H → Db G H x a → Db G H y b → f a b = some z → (∀ G' H' v, Grow G H G' H' → ResV H G' H' v z → Q v H') → r x y H Q)
    {σ : L2.St} {H : Hp} {Q : VK} (h : tE A (mBin f ma mb) σ H Q) : tOp r (tE A ma) (tE A mb) σ H Q := by
  obtain ⟨G, μ, z, μ', R, e, k⟩ := h
  obtain ⟨p, e1, e⟩ := bind2 e
  obtain ⟨q, e2, e⟩ := bind2 e
  obtain ⟨a, e3, e⟩ := bind2 e
  obtain ⟨b, e4, e⟩ := bind2 e
  obtain ⟨w, e5, e⟩ := map2 e
  cases e
  refine ⟨G, μ, p.1, p.2, R, e1, fun G1 H1 v1 s1 R1 q1 n1 => ⟨G1, p.2, q.1, q.2, R1, e2, fun G2 H2 v2 s2 R2 q2 n2 => ?_⟩⟩
  exact hm G2 H2 v1 v2 a b z Q R2.ext ((q1.step s2).db R2 e3) (q2.db R2 e4) e5 fun G3 H3 v g rs => k G3 H3 v ((s1.trans s2).trans g.step) (R2.grow g) (rs.rel R2) ((rs.nw.back s2).back s1)
theorem qe_bin {a b : Expr} {op : Operator} {pos : Pos} {f : PyData → PyData → Option MV} {ma mb : ME} (ho : OpOk X (binaryOp op) f) (ha : PE X a (tE A ma)) (hb : PE X b (tE A mb)) : PE X (.BinOp a op b pos) (tE A (mBin f ma mb)) := by
  obtain ⟨r, hr, hm⟩ := ho
  exact pe_to (pe_op hr ha hb) fun σ H Q h => bin_read hm h
theorem qe_cmp {a b : Expr} {op : CmpOp} {pos : Pos} {f : PyData → PyData → Option MV} {ma mb : ME} (ho : OpOk X (compareOp op) f) (ha : PE X a (tE A ma)) (hb : PE X b (tE A mb)) (hm : behindInMarks op b = false := by first | exact nomark _ | rfl) : PE X (.Compare a [op] [b] pos) (tE A (mBin f ma mb)) := by
  obtain ⟨r, hr, hmm⟩ := ho
  exact pe_to (pe_cmpR hr ha hb hm) fun σ H Q h => bin_read hmm h
def UnOk (X : Cx) (g : Value → Sem Value) (f : PyData → Option MV) : Prop := ∃ r, UnR X g r ∧ ∀ G H x a z Q, Same G H → Db G H x a → f a = some z →
  (∀ G' H' v, Grow G H G' H' → ResV H G' H' v z → Q v H') → r x H Q
theorem qe_un {a : Expr} {op : UnaryOp} {pos : Pos} {f : PyData → Option MV} {ma : ME} (ho : UnOk X (unaryOp op) f) (ha : PE X a (tE A ma)) : PE X (.UnaryOp op a pos) (tE A (mUn f ma)) := by
  obtain ⟨r, hr, hm⟩ := ho
  refine pe_to (pe_un hr ha) fun σ H Q ⟨G, μ, z, μ', R, e, k⟩ => ?_
  obtain ⟨p, e1, e⟩ := bind2 e
  obtain ⟨a, e3, e⟩ := bind2 e
  obtain ⟨w, e5, e⟩ := map2 e
  cases e
  refine ⟨G, μ, p.1, p.2, R, e1, fun G1 H1 v1 s1 R1 q1 n1 => ?_⟩
  exact hm G1 H1 v1 a z Q R1.ext (q1.db R1 e3) e5 fun G3 H3 v g rs => k G3 H3 v (s1.trans g.step) (R1.grow g) (rs.rel R1) (rs.nw.back s1)
/-! ### tests, and, or, not, if -/
theorem isB_some {a : PyData} {b : Bool} (h : isB a = some b) : a = .bool b := by
  cases a with
  | bool c => cases h; rfl
  | _ => cases h
theorem qt_val {e : Expr} {m : ME} (h : PE X e (tE A m)) (he : ∀ whole, isTrue e X.env whole = (do let v ← whole; standAt e.pos; holding [v] (truthy v)) := by intro _; rfl) : PT X e (tMT A (mTest m)) :=
  pt_to (pt_val h he) fun σ H Q ⟨G, μ, b, μ', R, e, k⟩ => by
    obtain ⟨p, e1, e⟩ := bind2 e
    obtain ⟨a, e3, e⟩ := bind2 e
    obtain ⟨w, e5, e⟩ := map2 e
    cases e
    refine ⟨G, μ, p.1, p.2, R, e1, fun G1 H1 v1 s1 R1 q1 n1 => ?_⟩
    have := q1.db R1 e3
    rw [isB_some e5] at this
    exact ⟨b, this.b, k G1 H1 s1 R1⟩
theorem tru_ok {K : PySem.W.Frag} {G H : Hp} {v : V} {d : PyData} {b : Bool} (e : Same G H) (h : Db G H v d) (ht : tru d = some b) : TruV K v H b := by
  cases d with
  | none =>
    cases ht
    cases h with
    | dat h => cases h; rfl
  | bool c => cases ht; rw [h.b]; rfl
  | int i => cases ht; rw [h.i]; rfl
  | str y =>
    rw [h.s]
    have ht : (if y.length ≤ sizeLine then some ((y.length : Int) != 0) else none) = some b := ht
    split at ht
    · rename_i hz
      cases ht
      exact ⟨hz, rfl⟩
    · cases ht
  | list ds =>
    cases ht
    obtain ⟨p, vs, rfl, hs, ha⟩ := h.l e
    refine .inl ⟨vs, .inl hs, ?_⟩
    cases ha <;> rfl
  | tuple ds =>
    cases ht
    obtain ⟨p, vs, rfl, hs, ha⟩ := h.t e
    refine .inr (.inl ⟨vs, .inl hs, ?_⟩)
    cases ha <;> rfl
  | dict _ => cases ht
theorem qt_truth {e : Expr} {m : ME} (h : PE X e (tE A m)) (he : ∀ whole, isTrue e X.env whole = (do let v ← whole; standAt e.pos; holding [v] (truthy v)) := by intro _; rfl) : PT X e (tMT A (mTruth m)) :=
  pt_to (pt_truth h he) fun σ H Q ⟨G, μ, b, μ', R, e, k⟩ => by
    obtain ⟨p, e1, e⟩ := bind2 e
    obtain ⟨a, e3, e⟩ := bind2 e
    obtain ⟨w, e5, e⟩ := map2 e
    cases e
    refine ⟨G, μ, p.1, p.2, R, e1, fun G1 H1 v1 s1 R1 q1 n1 => ?_⟩
    exact ⟨b, tru_ok R1.ext (q1.db R1 e3) e5, k G1 H1 s1 R1⟩
theorem qt_not {a : Expr} {pos : Pos} {m : MT} (h : PT X a (tMT A m)) : PT X (.UnaryOp .Not a pos) (tMT A (mNotT m)) := pt_to (pt_not h) fun σ H Q ⟨G, μ, b, μ', R, e, k⟩ => by
  obtain ⟨p, e1, e⟩ := map2 e
  cases e
  exact ⟨G, μ, p.1, p.2, R, e1, fun G1 H1 s1 R1 => k G1 H1 s1 R1⟩
theorem qw_and1 {a : Expr} {pos : Pos} {m : MT} (h : PT X a (tMT A m)) : PW X (.BoolOp .And [a] pos) (tMT A m) := pw_and1 h
theorem qw_or1 {a : Expr} {pos : Pos} {m : MT} (h : PT X a (tMT A m)) : PW X (.BoolOp .Or [a] pos) (tMT A m) := pw_or1 h
theorem pw_to' {e : Expr} {t t' : TT} (h : PW X e t) (k : ∀ σ H Q, t' σ H Q → t σ H Q) : PW X e t' := ⟨fun whole pins s σ H Q I w => h.run whole pins s σ H Q I (k σ H Q w)⟩
theorem qw_and {a b : Expr} {rest : List Expr} {pos : Pos} {m n : MT} (h : PT X a (tMT A m)) (h2 : PW X (.BoolOp .And (b :: rest) pos) (tMT A n)) : PW X (.BoolOp .And (a :: b :: rest) pos) (tMT A (mAndT m n)) :=
  pw_to' (pw_and h h2) fun σ H Q ⟨G, μ, c, μ', R, e, k⟩ => by
    obtain ⟨p, e1, e⟩ := bind2 e
    refine ⟨G, μ, p.1, p.2, R, e1, fun G1 H1 s1 R1 => ?_⟩
    obtain ⟨p1, p2⟩ := p
    cases p1 with
    | true =>
      rw [if_pos rfl] at e ⊢
      exact ⟨G1, p2, c, μ', R1, e, fun G2 H2 s2 R2 => k G2 H2 (s1.trans s2) R2⟩
    | false =>
      rw [if_neg Bool.false_ne_true] at e ⊢
      cases e
      exact k G1 H1 s1 R1
theorem qw_or {a b : Expr} {rest : List Expr} {pos : Pos} {m n : MT} (h : PT X a (tMT A m)) (h2 : PW X (.BoolOp .Or (b :: rest) pos) (tMT A n)) : PW X (.BoolOp .Or (a :: b :: rest) pos) (tMT A (mOrT m n)) :=
  pw_to' (pw_or h h2) fun σ H Q ⟨G, μ, c, μ', R, e, k⟩ => by
    obtain ⟨p, e1, e⟩ := bind2 e
    refine ⟨G, μ, p.1, p.2, R, e1, fun G1 H1 s1 R1 => ?_⟩
    obtain ⟨p1, p2⟩ := p
    cases p1 with
    | true =>
      rw [if_pos rfl] at e ⊢
      cases e
      exact k G1 H1 s1 R1
    | false =>
      rw [if_neg Bool.false_ne_true] at e ⊢
      exact ⟨G1, p2, c, μ', R1, e, fun G2 H2 s2 R2 => k G2 H2 (s1.trans s2) R2⟩
theorem test_read {m : ME} {σ : L2.St} {G H : Hp} {μ : Mu} {w : Bool} {μ1 : Mu} {Q : VK} (R : Rl A G μ σ H) (e : mTest m μ = some (w, μ1))
    (k : ∀ G1 H1, Step A σ G H G1 H1 → Rl A G1 μ1 σ H1 → Q (.bl w) H1) : tE A m σ H Q := by
  obtain ⟨p, e1, e⟩ := bind2 e
  obtain ⟨a, e3, e⟩ := bind2 e
  obtain ⟨w', e5, e⟩ := map2 e
  cases e
  refine ⟨G, μ, p.1, p.2, R, e1, fun G1 H1 v1 s1 R1 q1 n1 => ?_⟩
  have := q1.db R1 e3
  rw [isB_some e5] at this
  rw [this.b]
  exact k G1 H1 s1 R1
theorem qe_and {a b : Expr} {rest : List Expr} {pos : Pos} {m n : ME} (h : PE X a (tE A m)) (h2 : PE X (.BoolOp .And (b :: rest) pos) (tE A n)) : PE X (.BoolOp .And (a :: b :: rest) pos) (tE A (mAndV m n)) :=
  pe_to (pe_and h h2) fun σ H Q ⟨G, μ, c, μ', R, e, k⟩ => by
    obtain ⟨⟨p1, p2⟩, e1, e⟩ := bind2 e
    refine test_read R e1 fun G1 H1 s1 R1 => ⟨p1, rfl, ?_⟩
    cases p1 with
    | true =>
      rw [if_pos rfl] at e ⊢
      exact ⟨G1, p2, c, μ', R1, e, fun G2 H2 v s2 R2 q2 n2 => k G2 H2 v (s1.trans s2) R2 q2 (n2.back s1)⟩
    | false =>
      rw [if_neg Bool.false_ne_true] at e ⊢
      cases e
      exact k G1 H1 _ s1 R1 (.bl false) trivial
theorem qe_or {a b : Expr} {rest : List Expr} {pos : Pos} {m n : ME} (h : PE X a (tE A m)) (h2 : PE X (.BoolOp .Or (b :: rest) pos) (tE A n)) : PE X (.BoolOp .Or (a :: b :: rest) pos) (tE A (mOrV m n)) :=
  pe_to (pe_or h h2) fun σ H Q ⟨G, μ, c, μ', R, e, k⟩ => by
    obtain ⟨⟨p1, p2⟩, e1, e⟩ := bind2 e
    refine test_read R e1 fun G1 H1 s1 R1 => ⟨p1, rfl, ?_⟩
    cases p1 with
    | true =>
      rw [if_pos rfl] at e ⊢
      cases e
      exact k G1 H1 _ s1 R1 (.bl true) trivial
    | false =>
      rw [if_neg Bool.false_ne_true] at e ⊢
      exact ⟨G1, p2, c, μ', R1, e, fun G2 H2 v s2 R2 q2 n2 => k G2 H2 v (s1.trans s2) R2 q2 (n2.back s1)⟩
theorem qe_one {a : Expr} {op : BoolOp} {pos : Pos} {m : ME} (h : PE X a (tE A m)) : PE X (.BoolOp op [a] pos) (tE A m) := pe_one h
theorem qe_not {a : Expr} {pos : Pos} {m : ME} (h : PE X a (tE A m)) : PE X (.UnaryOp .Not a pos) (tE A (mNotV m)) :=
  pe_to (pe_not h) fun σ H Q ⟨G, μ, c, μ', R, e, k⟩ => by
    obtain ⟨⟨p1, p2⟩, e1, e⟩ := map2 e
    cases e
    exact test_read R e1 fun G1 H1 s1 R1 => ⟨p1, rfl, k G1 H1 _ s1 R1 (.bl _) trivial⟩
theorem qe_if {c a b : Expr} {pos : Pos} {mc : MT} {m n : ME} (hc : PT X c (tMT A mc)) (h : PE X a (tE A m)) (h2 : PE X b (tE A n)) : PE X (.IfExp c a b pos) (tE A (mIf mc m n)) :=
  pe_to (pe_ifExp hc h h2) fun σ H Q ⟨G, μ, c, μ', R, e, k⟩ => by
    obtain ⟨⟨p1, p2⟩, e1, e⟩ := bind2 e
    refine ⟨G, μ, p1, p2, R, e1, fun G1 H1 s1 R1 => ?_⟩
    cases p1 with
    | true =>
      rw [if_pos rfl] at e ⊢
      exact ⟨G1, p2, c, μ', R1, e, fun G2 H2 v s2 R2 q2 n2 => k G2 H2 v (s1.trans s2) R2 q2 (n2.back s1)⟩
    | false =>
      rw [if_neg Bool.false_ne_true] at e ⊢
      exact ⟨G1, p2, c, μ', R1, e, fun G2 H2 v s2 R2 q2 n2 => k G2 H2 v (s1.trans s2) R2 q2 (n2.back s1)⟩
/-! ### lists of arguments, displays -/
def Nws (H : Hp) (vs : List V) (xs : List MV) : Prop := True
theorem qa_nil : PA X [] (tMA A mNil) := pa_to pa_nil fun σ H Q ⟨G, μ, xs, μ', R, e, k⟩ => by
  cases e
  exact k G H [] .refl R .nil
theorem qa_cons {a : Expr} {es : List Expr} {m : ME} {r : MA} (h : PE X a (tE A m)) (hr : PA X es (tMA A r)) (hs : starEach (a :: es) X.env = (false, eval a X.env) :: starEach es X.env := by rfl) : PA X (a :: es) (tMA A (mCons m r)) :=
  pa_to (pa_cons h hr hs) fun σ H Q ⟨G, μ, xs, μ', R, e, k⟩ => by
    obtain ⟨p, e1, e⟩ := bind2 e
    obtain ⟨q, e2, e⟩ := map2 e
    cases e
    exact ⟨G, μ, p.1, p.2, R, e1, fun G1 H1 v1 s1 R1 q1 n1 => ⟨G1, p.2, q.1, q.2, R1, e2, fun G2 H2 vs s2 R2 q2 => k G2 H2 (v1 :: vs) (s1.trans s2) R2 (.cons (q1.step s2) q2)⟩⟩
theorem dats_ok {G H : Hp} {σ : L2.St} : ∀ {vs : List V} {xs : List MV} {ds : List PyData}, RelMVs A G σ H vs xs → dats xs = some ds → DqAll G vs ds
  | _, _, _, .nil, e => by cases e; exact .nil
  | _, _, _, .cons (x := .dat d) r t, e => by
    obtain ⟨es, e1, e2⟩ := map2 e
    cases e2
    exact .cons r (dats_ok t e1)
  | _, _, _, .cons (x := .own _) r t, e => by cases e
  | _, _, _, .cons (x := .fre _) r t, e => by cases e
inductive DbAll (G H : Hp) : List V → List PyData → Prop
  | nil : DbAll G H [] []
  | cons {v : V} {vs : List V} {d : PyData} {ds : List PyData} : Db G H v d → DbAll G H vs ds → DbAll G H (v :: vs) (d :: ds)
theorem derefs_ok {G H : Hp} {σ : L2.St} {μ : Mu} (R : Rl A G μ σ H) : ∀ {vs : List V} {xs : List MV} {ds : List PyData}, RelMVs A G σ H vs xs → derefs μ xs = some ds → DbAll G H vs ds
  | _, _, _, .nil, e => by cases e; exact .nil
  | _, _, _, .cons r t, e => by
    obtain ⟨d, e1, e⟩ := bind2 e
    obtain ⟨es, e2, e⟩ := map2 e
    cases e
    exact .cons (r.db R e1) (derefs_ok R t e2)
theorem qe_tup {es : List Expr} {n : Nat} {pos : Pos} {m : MA} (h : PA X es (tMA A m)) : PE X (.Tuple es n pos) (tE A (mTup m)) := pe_to (pe_tupF h) fun σ H Q ⟨G, μ, z, μ', R, e, k⟩ => by
  obtain ⟨p, e1, e⟩ := bind2 e
  obtain ⟨ds, e2, e⟩ := bind2 e
  split at e
  · rename_i hl
    cases e
    refine ⟨G, μ, p.1, p.2, R, e1, fun G1 H1 vs s1 R1 q1 => ?_⟩
    have q := dats_ok q1 e2
    refine ⟨by rw [dqa_len q]; exact sz5 hl, fun t o ht od => ?_⟩
    have g := Grow.new (o := .frz o (.tup vs)) R1.ext ht
    exact k _ _ _ (s1.trans g.step) (R1.grow g) (.tup upd_same od (dqa_mono g.g q)) trivial
  · cases e
theorem qe_lst {es : List Expr} {pos : Pos} {m : MA} (h : PA X es (tMA A m)) : PE X (.List es pos) (tE A (mLst m)) := pe_to (pe_lst h) fun σ H Q ⟨G, μ, z, μ', R, e, k⟩ => by
  obtain ⟨p, e1, e⟩ := bind2 e
  obtain ⟨ds, e2, e⟩ := bind2 e
  split at e
  · rename_i hl
    cases e
    refine ⟨G, μ, p.1, p.2, R, e1, fun G1 H1 vs s1 R1 q1 => ?_⟩
    have q := dats_ok q1 e2
    refine ⟨by rw [dqa_len q]; exact sz5 hl, fun t ht => ?_⟩
    have g := Grow.free (o := .lst vs) R1.ext ht
    have rs : ResV H1 G1 (upd H1 t (.lst vs)) (.ref t) (.fre ds) := ⟨t, vs, rfl, ht, upd_same, q, R1.ext.free ht⟩
    exact k _ _ _ (s1.trans g.step) (R1.grow g) (rs.rel R1) (rs.nw.back s1)
  · cases e
/-- a fresh list is frozen -/
theorem frz_to {m : ME} {σ : L2.St} {H : Hp} {Q : VK} : tE A (mFrz m) σ H Q → tE A m σ H Q := fun ⟨G, μ, z, μ', R, e, k⟩ => by
  obtain ⟨p, e1, e⟩ := bind2 e
  obtain ⟨w, e2, e⟩ := map2 e
  cases e
  refine ⟨G, μ, p.1, p.2, R, e1, fun G1 H1 v s1 R1 q1 n1 => ?_⟩
  obtain ⟨x, μ1⟩ := p
  cases x with
  | own i => cases e2
  | dat d => cases e2; exact k G1 H1 v s1 R1 q1 trivial
  | fre ds =>
    cases e2
    obtain ⟨p, vs, ev, hp, ha, gp, ap, no⟩ := q1
    subst ev
    have hn := n1 p rfl
    have sg : Same G1 (upd G1 p (.lst vs)) := fun b u q => by rw [upd_ne (ne_of_none q gp)]; exact q
    have eg : Same (upd G1 p (.lst vs)) H1 := fun b u q => by
      by_cases hb : b = p
      · subst hb; rw [upd_same] at q; cases q; exact hp
      · rw [upd_ne hb] at q; exact R1.ext _ _ q
    refine k _ H1 _ ⟨s1.g.trans sg, s1.h, fun a h g => ?_, s1.lv⟩ ?_ (.lst (.inl upd_same) (dqa_mono sg ha)) trivial
    · rw [upd_ne (fun z => h (by rw [z]; exact hn))]; exact s1.fr a h g
    · refine ⟨R1.len, eg, R1.up.trans sg, R1.fr, R1.lv, fun a h g => ?_, fun i d h n => ?_, fun i d h n => ?_, R1.liv, R1.sep, R1.par⟩
      · rw [upd_ne (fun z => h (by rw [z]; exact ap))]; exact R1.fg a h g
      · obtain ⟨u, e, r⟩ := R1.val i d h n
        exact ⟨u, e, dq_mono sg r⟩
      · obtain ⟨q, o, s, hq, r, gq, c⟩ := R1.own i d h n
        refine ⟨q, o, s, hq, r.mono sg, ?_, c⟩
        rw [upd_ne (fun z => no ⟨i, n, by rw [← z]; exact s⟩)]; exact gq
theorem qe_frz {e : Expr} {m : ME} (h : PE X e (tE A m)) : PE X e (tE A (mFrz m)) := pe_to h fun _ _ _ w => frz_to w
/-! ### calls of built-ins -/
def CallOk (X : Cx) (g : Value) (f : List PyData → Option MV) : Prop := ∃ r, CallR X g r ∧ ∀ G H xs ds z Q, Same G H → DbAll G H xs ds → f ds = some z → (∀ G' H' v, Grow G H G' H' → ResV H G' H' v z → Q v H') → r xs H Q
def orC (f g : List PyData → Option MV) : List PyData → Option MV := fun a => match f a with | some z => some z | none => g a
theorem CallOk.or {g : Value} {f f' : List PyData → Option MV} (h : CallOk X g f) (h' : CallOk X g f') : CallOk X g (orC f f') := by
  obtain ⟨r, h1, h2⟩ := h
  obtain ⟨r', h3, h4⟩ := h'
  refine ⟨_, CallR.or h1 h3, fun G H xs ds z Q e hx hz k => ?_⟩
  unfold orC at hz
  split at hz
  · rename_i w hw
    cases hz
    exact .inl (h2 G H xs ds _ Q e hx hw k)
  · exact .inr (h4 G H xs ds _ Q e hx hz k)
theorem call_read {f : List PyData → Option MV} {ma : MA} {r : List V → Hp → VK → Prop} (hm : ∀ G H xs ds z Q, Same G H → DbAll G H xs ds → f ds = some z → (∀ G' H' v, Grow G H G' H' → ResV H G' H' v z → Q v H') → r xs H Q)
    {σ : L2.St} {H : Hp} {Q : VK} (h : tE A (mCallB f ma) σ H Q) : tCB r (tMA A ma) σ H Q := by
  obtain ⟨G, μ, z, μ', R, e, k⟩ := h
  obtain ⟨p, e1, e⟩ := bind2 e
  obtain ⟨ds, e3, e⟩ := bind2 e
  obtain ⟨w, e5, e⟩ := map2 e
  cases e
  exact ⟨G, μ, p.1, p.2, R, e1, fun G1 H1 vs s1 R1 q1 => hm G1 H1 vs ds z Q R1.ext (derefs_ok R1 q1 e3) e5 fun G3 H3 v g rs => k G3 H3 v (s1.trans g.step) (R1.grow g) (rs.rel R1) (rs.nw.back s1)⟩
theorem qe_callB {x : Str} {p pos : Pos} {id : String} {a : Expr} {es : List Expr} {f : List PyData → Option MV} {m : MA} (hc : CallOk X (.builtin id) f) (hg : Gl X x) (hm : X.mg x = none) (hv : bootBuiltins x = some (.builtin id)) (ha : PA X (a :: es) (tMA A m))
    (hn : x ≠ "__name__" := by decide) (hdb : (x == ("__debug__" : Str)) = false := by decide)
    (he : starEach (a :: es) X.env = (false, eval a X.env) :: starEach es X.env := by rfl) (hpl : (backTo pos (starEach es X.env)).any (·.1) = false := by rfl) : PE X (.Call (.Name x p) (a :: es) [] pos) (tE A (mCallB f m)) := by
  obtain ⟨r, hr, hmm⟩ := hc
  exact pe_to (pe_callB hr hg hm hv ha hn hdb he hpl) fun σ H Q h => call_read hmm h
theorem qe_callTy {x : Str} {p pos : Pos} {T : String} {a : Expr} {es : List Expr} {f : List PyData → Option MV} {m : MA} (hc : CallOk X (.type T) f) (hg : Gl X x) (hm : X.mg x = none) (hv : bootBuiltins x = some (.type T)) (ha : PA X (a :: es) (tMA A m))
    (hn : x ≠ "__name__" := by decide) (hdb : (x == ("__debug__" : Str)) = false := by decide)
    (he : starEach (a :: es) X.env = (false, eval a X.env) :: starEach es X.env := by rfl) (hpl : (backTo pos (starEach es X.env)).any (·.1) = false := by rfl) : PE X (.Call (.Name x p) (a :: es) [] pos) (tE A (mCallB f m)) := by
  obtain ⟨r, hr, hmm⟩ := hc
  exact pe_to (pe_callTy hr hg hm hv ha hn hdb he hpl) fun σ H Q h => call_read hmm h
end
end ML

set_option maxRecDepth 100000
set_option maxHeartbeats 4000000
namespace ML
open PySem PySem.Spec PyProof.Rows L2
variable [KF]
section
variable {X : Cx} {A : Act}
theorem OpOk.sub {g : Value → Value → Sem Value} {f f' : PyData → PyData → Option MV} (h : OpOk X g f') (k : ∀ a b z, f a b = some z → f' a b = some z) : OpOk X g f := by
  obtain ⟨r, h1, h2⟩ := h
  exact ⟨r, h1, fun G H x y a b z Q e hx hy hz kk => h2 G H x y a b z Q e hx hy (k a b z hz) kk⟩
theorem CallOk.sub {g : Value} {f f' : List PyData → Option MV} (h : CallOk X g f') (k : ∀ a z, f a = some z → f' a = some z) : CallOk X g f := by
  obtain ⟨r, h1, h2⟩ := h
  exact ⟨r, h1, fun G H xs ds z Q e hx hz kk => h2 G H xs ds z Q e hx (k ds z hz) kk⟩
theorem orF_l {f g : PyData → PyData → Option MV} {a b : PyData} {z : MV} (h : f a b = some z) : orF f g a b = some z := by
  unfold orF
  rw [h]
theorem orF_r {f g : PyData → PyData → Option MV} {a b : PyData} {z : MV} (h : f a b = none) (h2 : g a b = some z) : orF f g a b = some z := by
  unfold orF
  rw [h]
  exact h2
/-- two ints -/
def fI (C : Int → Int → Bool) (g : Int → Int → PyData) : PyData → PyData → Option MV
  | .int i, .int j => if C i j = true then some (.dat (g i j)) else none
  | _, _ => none
theorem ok_I {g : Value → Value → Sem Value} {C : Int → Int → Prop} {c : Int → Int → Bool} {f : Int → Int → V} {d : Int → Int → PyData} (h : OpR X g (rI C f)) (hc : ∀ i j, c i j = true → C i j) (hd : ∀ G i j, Dq G (f i j) (d i j)) : OpOk X g (fI c d) := by
  refine ⟨_, h, fun G H x y a b z Q e hx hy hz k => ?_⟩
  cases a <;> first | (cases hz; done) | skip
  cases b <;> first | (cases hz; done) | skip
  rename_i i j
  have hz : (if c i j = true then some (MV.dat (d i j)) else none) = some z := hz
  split at hz
  · rename_i q
    cases hz
    exact ⟨i, j, hx.i, hy.i, hc i j q, k G H _ (.refl e) (hd G i j)⟩
  · cases hz
theorem ok_I0 {g : Value → Value → Sem Value} {f : Int → Int → V} {d : Int → Int → PyData} (h : OpR X g (rI0 f)) (hd : ∀ G i j, Dq G (f i j) (d i j)) : OpOk X g (fI (fun _ _ => true) d) := by
  refine ⟨_, h, fun G H x y a b z Q e hx hy hz k => ?_⟩
  cases a <;> first | (cases hz; done) | skip
  cases b <;> first | (cases hz; done) | skip
  rename_i i j
  cases hz
  exact ⟨i, j, hx.i, hy.i, k G H _ (.refl e) (hd G i j)⟩
/-! ### + -/
theorem Rd.obj {pins : List (Addr × Obj)} {s : Shared} {σ : L2.St} {H : Hp} {l : Addr} {xs : List V} (I : Inv X pins σ H s) (h : Rd H l (.lst xs)) : xs.length ≤ sizeLine ∧ ∃ (its : List Value) (n : Nat), Vals xs its ∧ xs.length = its.length ∧ s.heap.get? l = some { cls := .type "list", data := .seq its.toArray n } := by
  obtain ⟨z, its, n, r, e⟩ := h.ok I.hok
  exact ⟨z, its, n, r, r.length, e⟩
def rCatL : R2 := fun x y H Q => ∃ l b xs zs, x = .ref l ∧ y = .ref b ∧ Rd H l (.lst xs) ∧ Rd H b (.lst zs) ∧ xs.length + zs.length ≤ sizeLine ∧ ∀ p, H p = none → Q (.ref p) (upd H p (.lst (xs ++ zs)))
theorem op_catL : OpR X (binaryOp .Add) rCatL := by
  intro pins s σ H x y v u Q I rx ry h
  obtain ⟨l, b, xs, zs, rfl, rfl, hH, hB, hz, q⟩ := h
  cases rx
  cases ry
  obtain ⟨z, its, n, r, hl, e⟩ := Rd.obj I hH
  obtain ⟨z2, its2, n2, r2, hl2, e2⟩ := Rd.obj I hB
  refine PySem.P.add_list e e2 ?_ (by rw [List.size_toArray, List.size_toArray]; omega)
  have ea : its.toArray ++ its2.toArray = (its ++ its2).toArray := by simp
  rw [ea]
  exact ⟨.ref _, _, I.lnew (t' := s.toks) (r.append r2) (by rw [List.length_append]; omega), rfl, q _ I.fresh⟩
def fCatL : PyData → PyData → Option MV
  | .list a, .list b => if a.length + b.length ≤ 100000 then some (.fre (a ++ b)) else none
  | _, _ => none
theorem res_fre {G H : Hp} {p : Addr} {vs : List V} {ds : List PyData} (e : Same G H) (n : H p = none) (h : DqAll G vs ds) : ResV H G (upd H p (.lst vs)) (.ref p) (.fre ds) := ⟨p, vs, rfl, n, upd_same, h, e.free n⟩
theorem ok_catL : OpOk X (binaryOp .Add) fCatL := by
  refine ⟨_, op_catL, fun G H x y a b z Q e hx hy hz k => ?_⟩
  cases a <;> first | (cases hz; done) | skip
  cases b <;> first | (cases hz; done) | skip
  rename_i a b
  have hz : (if a.length + b.length ≤ 100000 then some (MV.fre (a ++ b)) else none) = some z := hz
  split at hz
  · rename_i q
    cases hz
    obtain ⟨p, vs, rfl, h1, h2⟩ := hx.l e
    obtain ⟨p', vs', rfl, h1', h2'⟩ := hy.l e
    exact ⟨p, p', vs, vs', rfl, rfl, h1, h1', by rw [dqa_len h2, dqa_len h2']; exact sz5 q, fun t ht => k _ _ _ (.free e ht) (res_fre e ht (dqa_app h2 h2'))⟩
  · cases hz
def fCatT : PyData → PyData → Option MV
  | .tuple a, .tuple b => if a.length + b.length ≤ 100000 then some (.dat (.tuple (a ++ b))) else none
  | _, _ => none
theorem res_tup {G H : Hp} {p : Addr} {o : Obj} {vs : List V} {ds : List PyData} (e : Same G H) (n : H p = none) (od : o.dict = none) (h : DqAll G vs ds) : ResV H (upd G p (.frz o (.tup vs))) (upd H p (.frz o (.tup vs))) (.ref p) (.dat (.tuple ds)) :=
  Dq.tup upd_same od (dqa_mono (Grow.new (o := .frz o (.tup vs)) e n).g h)
theorem ok_catT : OpOk X (binaryOp .Add) fCatT := by
  refine ⟨_, op_catF, fun G H x y a b z Q e hx hy hz k => ?_⟩
  cases a <;> first | (cases hz; done) | skip
  cases b <;> first | (cases hz; done) | skip
  rename_i a b
  have hz : (if a.length + b.length ≤ 100000 then some (MV.dat (.tuple (a ++ b))) else none) = some z := hz
  split at hz
  · rename_i q
    cases hz
    obtain ⟨p, vs, rfl, h1, h2⟩ := hx.t e
    obtain ⟨p', vs', rfl, h1', h2'⟩ := hy.t e
    refine ⟨p, p', vs, vs', rfl, rfl, .inl h1, .inl h1', by rw [dqa_len h2, dqa_len h2']; exact sz5 q, fun e0 => ?_, fun _ e0 => ?_, fun _ _ t o ht od => k _ _ _ (.new e ht) (res_tup e ht od (dqa_app h2 h2'))⟩
    · subst e0
      cases h2
      cases hy with
      | dat hy => exact k G H _ (.refl e) hy
    · subst e0
      cases h2'
      cases hx with
      | dat hx => rw [List.append_nil] at k; exact k G H _ (.refl e) hx
  · cases hz
def fAddS : PyData → PyData → Option MV
  | .str a, .str b => if a.length + b.length ≤ 100000 then some (.dat (.str (a ++ b))) else none
  | _, _ => none
theorem ok_addS : OpOk X (binaryOp .Add) fAddS := by
  refine ⟨_, op_add_str, fun G H x y a b z Q e hx hy hz k => ?_⟩
  cases a <;> first | (cases hz; done) | skip
  cases b <;> first | (cases hz; done) | skip
  rename_i a b
  have hz : (if a.length + b.length ≤ 100000 then some (MV.dat (.str (a ++ b))) else none) = some z := hz
  split at hz
  · rename_i q
    cases hz
    exact ⟨a, b, hx.s, hy.s, sz5 q, k G H _ (.refl e) (.str _)⟩
  · cases hz
def dAdd : PyData → PyData → Option MV
  | .int i, .int j => some (.dat (.int (i + j)))
  | .list a, .list b => if a.length + b.length ≤ 100000 then some (.fre (a ++ b)) else none
  | .tuple a, .tuple b => if a.length + b.length ≤ 100000 then some (.dat (.tuple (a ++ b))) else none
  | .str a, .str b => if a.length + b.length ≤ 100000 then some (.dat (.str (a ++ b))) else none
  | _, _ => none
theorem ok_add : OpOk X (binaryOp .Add) dAdd := by
  refine OpOk.sub (((ok_I0 (d := fun i j => .int (i + j)) op_add fun _ _ _ => .int _).or ok_catL).or (ok_catT.or ok_addS)) fun a b z h => ?_
  cases a <;> cases b <;> first | (cases h; done) | exact orF_l (orF_l h) | exact orF_l (orF_r rfl h) | exact orF_r rfl (orF_l h) | exact orF_r rfl (orF_r rfl h)
def dSub : PyData → PyData → Option MV
  | .int i, .int j => some (.dat (.int (i - j)))
  | _, _ => none
theorem ok_sub : OpOk X (binaryOp .Sub) dSub := OpOk.sub (ok_I0 (d := fun i j => .int (i - j)) op_sub fun _ _ _ => .int _) fun a b z h => by
  cases a <;> cases b <;> first | (cases h; done) | exact h
/-! ### * -/
def rRepL : R2 := fun x y H Q => ∃ l k xs, x = .ref l ∧ y = .int k ∧ Rd H l (.lst xs) ∧ -(2 ^ 63) ≤ k ∧ k < 2 ^ 63 ∧ xs.length * k.toNat ≤ sizeLine ∧
  ∀ p, H p = none → Q (.ref p) (upd H p (.lst (List.replicate k.toNat xs).flatten))
theorem op_repL : OpR X (binaryOp .Mult) rRepL := by
  intro pins s σ H x y v u Q I rx ry h
  obtain ⟨l, k, xs, rfl, rfl, hH, h1, h2, hz, q⟩ := h
  cases rx
  obtain ⟨t, rfl⟩ := ry
  obtain ⟨z, its, n, r, hl, e⟩ := Rd.obj I hH
  have hlen : its.toArray.size * k.toNat ≤ sizeLine := by rw [List.size_toArray, ← hl]; exact hz
  have hcap : ¬ its.toArray.size * k.toNat > (2 ^ 63 - 1) / 8 := by
    have : (sizeLine : Nat) ≤ (2 ^ 63 - 1) / 8 := by decide
    omega
  have hfit : ¬ (!Builtin.List.listFitsIndex k) = true := by
    rw [fitsIndex_both h1 h2]
    exact Bool.false_ne_true
  have hlong : ¬ Builtin.List.listTooLong (its.toArray.size * k.toNat) = true := by
    rw [notLongL hlen]
    exact Bool.false_ne_true
  have hnew : List.foldl (fun x1 x2 => x1 ++ x2) #[] (List.replicate (if its.toArray.isEmpty = true then 0 else k.toNat) its.toArray) = (List.replicate k.toNat its).flatten.toArray := by
    have f0 : ∀ m : Nat, List.foldl (fun x1 x2 => x1 ++ x2) #[] (List.replicate m its.toArray) = (List.replicate m its).flatten.toArray := fun m => by
      have := foldl_rep its m []
      rw [List.nil_append] at this
      exact this
    rw [f0]
    cases its with
    | nil => simp
    | cons a r' => rw [if_neg (by simp)]
  refine wpAny_binaryOp_repeat_ref (T := "list") (U := "int") (by decide) ⟨_, e, rfl⟩ (fun s' => typeIs_int s' k t) noFill_list_mul F.fills_int_mul F.slot_int_rmul repeat_list F.slot_int_index.lookup
    (call_meets F.slot_int_rmul (typeIs_int s k t) F.entry_int_rmul (F.args_int_rmul_2 _ _) (int___rmul___int_list k t l its.toArray n)
      ⟨e, rfl, ⟨_, e, rfl⟩, call_meets F.slot_list_mul ⟨_, e, rfl⟩ F.entry_list_mul (F.args_list_mul_2 _ _) (AutoListH.list___mul___list_int_3 l its.toArray n k t hfit hcap hlong) ⟨e, ?_⟩⟩)
  rw [hnew]
  exact ⟨.ref _, _, I.lnew (t' := s.toks) (r.rep k.toNat) (by rw [PyProof.Rows.lm_len_rep_flat, Nat.mul_comm]; exact hz), rfl, q _ I.fresh⟩
theorem dqa_rep {G : Hp} {vs : List V} {ds : List PyData} (h : DqAll G vs ds) : ∀ n : Nat, DqAll G (List.replicate n vs).flatten (List.replicate n ds).flatten
  | 0 => .nil
  | n + 1 => by
    rw [List.replicate_succ, List.replicate_succ, List.flatten_cons, List.flatten_cons]
    exact dqa_app h (dqa_rep h n)
def fRepL : PyData → PyData → Option MV
  | .list a, .int k => if k ≤ 100000 ∧ a.length * k.toNat ≤ 100000 ∧ -1000 ≤ k then some (.fre (List.replicate k.toNat a).flatten) else none
  | _, _ => none
theorem ok_repL : OpOk X (binaryOp .Mult) fRepL := by
  refine ⟨_, op_repL, fun G H x y a b z Q e hx hy hz k => ?_⟩
  cases a <;> first | (cases hz; done) | skip
  cases b <;> first | (cases hz; done) | skip
  rename_i a b
  have hz : (if b ≤ 100000 ∧ a.length * b.toNat ≤ 100000 ∧ -1000 ≤ b then some (MV.fre (List.replicate b.toNat a).flatten) else none) = some z := hz
  split at hz
  · rename_i q
    cases hz
    obtain ⟨p, vs, rfl, h1, h2⟩ := hx.l e
    exact ⟨p, b, vs, rfl, hy.i, h1, by omega, by omega, by rw [dqa_len h2]; exact sz5 q.2.1, fun t ht => k _ _ _ (.free e ht) (res_fre e ht (dqa_rep h2 _))⟩
  · cases hz
def repTB (a : List PyData) (k : Int) : Bool := decide (-1000 ≤ k ∧ k ≤ 1000 ∧ a.length ≤ 1000) && !a.isEmpty
def fRepT : PyData → PyData → Option MV
  | .tuple a, .int k => if repTB a k = true then some (.dat (.tuple (List.replicate k.toNat a).flatten)) else none
  | _, _ => none
theorem ok_repT : OpOk X (binaryOp .Mult) fRepT := by
  refine ⟨_, op_repF, fun G H x y a b z Q e hx hy hz k => ?_⟩
  cases a <;> first | (cases hz; done) | skip
  cases b <;> first | (cases hz; done) | skip
  rename_i a b
  have hz : (if repTB a b = true then some (MV.dat (.tuple (List.replicate b.toNat a).flatten)) else none) = some z := hz
  split at hz
  · rename_i q
    cases hz
    unfold repTB at q
    rw [Bool.and_eq_true] at q
    have q1 := of_decide_eq_true q.1
    obtain ⟨p, vs, rfl, h1, h2⟩ := id (hx.t e)
    refine ⟨p, b, vs, rfl, hy.i, .inl h1, fun e0 => ?_, q1.1, q1.2.1, by rw [dqa_len h2]; exact q1.2.2, fun e1 => ?_, fun _ t o ht od => k _ _ _ (.new e ht) (res_tup e ht od (dqa_rep h2 _))⟩
    · subst e0
      cases h2
      exact absurd q.2 (by decide)
    · subst e1
      cases hx with
      | dat hx =>
        have z1 : (List.replicate (1 : Int).toNat a).flatten = a := by simp
        rw [z1] at k
        exact k G H _ (.refl e) hx
  · cases hz
def mulB (i j : Int) : Bool := decide ((-(2 ^ 64) < i ∧ i < 2 ^ 64) ∨ (-(2 ^ 64) < j ∧ j < 2 ^ 64))
def dMul : PyData → PyData → Option MV
  | .int i, .int j => if mulB i j = true then some (.dat (.int (i * j))) else none
  | .list a, .int k => if k ≤ 100000 ∧ a.length * k.toNat ≤ 100000 ∧ -1000 ≤ k then some (.fre (List.replicate k.toNat a).flatten) else none
  | .tuple a, .int k => if repTB a k = true then some (.dat (.tuple (List.replicate k.toNat a).flatten)) else none
  | _, _ => none
theorem ok_mul : OpOk X (binaryOp .Mult) dMul := by
  refine OpOk.sub ((ok_I (c := mulB) (d := fun i j => .int (i * j)) op_mul (fun i j h => by show _ ∨ _; exact of_decide_eq_true h) fun _ _ _ => .int _).or (ok_repL.or ok_repT)) fun a b z h => ?_
  cases a <;> cases b <;> first | (cases h; done) | exact orF_l h | exact orF_r rfl (orF_l h) | exact orF_r rfl (orF_r rfl h)
def divB (_ j : Int) : Bool := decide (0 < j ∧ j.natAbs.log2 < 9000)
def dDiv : PyData → PyData → Option MV := fI divB fun i j => .int (i / j)
theorem ok_div : OpOk X (binaryOp .FloorDiv) dDiv := ok_I op_fdivW (fun i j h => by show _ ∧ _; exact of_decide_eq_true h) fun _ _ _ => .int _
def modB (_ j : Int) : Bool := decide (0 < j)
def dMod : PyData → PyData → Option MV := fI modB fun i j => .int (i % j)
theorem ok_mod : OpOk X (binaryOp .Mod) dMod := ok_I op_mod (fun i j h => of_decide_eq_true h) fun _ _ _ => .int _
def powB (i j : Int) : Bool := decide (0 ≤ j ∧ (Builtin.Int.intBits i : Int) * j ≤ 2 ^ 27)
theorem op_powW : OpR X (binaryOp .Pow) (rI (fun i j => 0 ≤ j ∧ (Builtin.Int.intBits i : Int) * j ≤ 2 ^ 27) fun i j => .int (i ^ j.toNat)) := opI fun _ _ _ _ _ _ _ hc q => pow_int hc.1 hc.2 q
def dPow : PyData → PyData → Option MV := fI powB fun i j => .int (i ^ j.toNat)
theorem ok_pow : OpOk X (binaryOp .Pow) dPow := ok_I op_powW (fun i j h => of_decide_eq_true h) fun _ _ _ => .int _
/-! ### compares -/
def dLt : PyData → PyData → Option MV := fI (fun _ _ => true) fun i j => .bool (decide (i < j))
def dLe : PyData → PyData → Option MV := fI (fun _ _ => true) fun i j => .bool (decide (i ≤ j))
def dGt : PyData → PyData → Option MV := fI (fun _ _ => true) fun i j => .bool (decide (j < i))
def dGe : PyData → PyData → Option MV := fI (fun _ _ => true) fun i j => .bool (decide (j ≤ i))
theorem ok_lt : OpOk X (compareOp .Lt) dLt := ok_I0 op_lt fun _ _ _ => .bl _
theorem ok_le : OpOk X (compareOp .LtE) dLe := ok_I0 op_le fun _ _ _ => .bl _
theorem ok_gt : OpOk X (compareOp .Gt) dGt := ok_I0 op_gt fun _ _ _ => .bl _
theorem ok_ge : OpOk X (compareOp .GtE) dGe := ok_I0 op_ge fun _ _ _ => .bl _
theorem shaped_nodict {d : PyData} (h : SeqAt.shaped d = true) : d.hasDict = false := PyData.hasDict_of_canLay d (Bool.and_eq_true_iff.mp h).1
def dEq : PyData → PyData → Option MV := fun a b => if SeqAt.shaped a = true ∧ SeqAt.shaped b = true then some (.dat (.bool (PyData.eqv a b))) else none
def dNe : PyData → PyData → Option MV := fun a b => if SeqAt.shaped a = true ∧ SeqAt.shaped b = true then some (.dat (.bool (!PyData.eqv a b))) else none
theorem ok_eq {k : Nat} (hr : Rm k X.A) : OpOk X (compareOp .Eq) dEq := by
  refine ⟨_, op_eqD hr.units, fun G H x y a b z Q e hx hy hz kk => ?_⟩
  unfold dEq at hz
  split at hz
  · rename_i q
    cases hz
    exact ⟨a, b, dq_dp (shaped_nodict q.1) (hx.dq e (shaped_nodict q.1)), dq_dp (shaped_nodict q.2) (hy.dq e (shaped_nodict q.2)), q.1, q.2, kk G H _ (.refl e) (.bl _)⟩
  · cases hz
theorem ok_ne {k : Nat} (hr : Rm k X.A) : OpOk X (compareOp .NotEq) dNe := by
  refine ⟨_, op_neD hr.units, fun G H x y a b z Q e hx hy hz kk => ?_⟩
  unfold dNe at hz
  split at hz
  · rename_i q
    cases hz
    exact ⟨a, b, dq_dp (shaped_nodict q.1) (hx.dq e (shaped_nodict q.1)), dq_dp (shaped_nodict q.2) (hy.dq e (shaped_nodict q.2)), q.1, q.2, kk G H _ (.refl e) (.bl _)⟩
  · cases hz
def isNon : PyData → Bool | .none => true | _ => false
def dIs : PyData → PyData → Option MV := fun a b => match b with | .none => some (.dat (.bool (isNon a))) | _ => none
def dIsNot : PyData → PyData → Option MV := fun a b => match b with | .none => some (.dat (.bool (!isNon a))) | _ => none
theorem non_iff {G H : Hp} {x : V} {a : PyData} (h : Db G H x a) : decide (x = V.non) = isNon a := by
  cases h with
  | dat h => cases h <;> rfl
  | lst _ _ => rfl
  | dic _ _ => rfl
theorem ok_is : OpOk X (compareOp .Is) dIs := by
  refine ⟨_, op_isN, fun G H x y a b z Q e hx hy hz k => ?_⟩
  cases b <;> first | (cases hz; done) | skip
  cases hz
  cases hy with
  | dat hy => exact ⟨dq_non hy, by rw [non_iff hx]; exact k G H _ (.refl e) (.bl _)⟩
theorem ok_isNot : OpOk X (compareOp .IsNot) dIsNot := by
  refine ⟨_, op_notN, fun G H x y a b z Q e hx hy hz k => ?_⟩
  cases b <;> first | (cases hz; done) | skip
  cases hz
  cases hy with
  | dat hy => exact ⟨dq_non hy, by rw [non_iff hx]; exact k G H _ (.refl e) (.bl _)⟩
/-! ### in: flat things -/
def flatD : PyData → Bool
  | .none | .bool _ | .int _ | .str _ => true
  | _ => false
theorem dq_eqV {G : Hp} {x y : V} {a b : PyData} (hx : Dq G x a) (hy : Dq G y b) (fa : flatD a = true) (fb : flatD b = true) : eqV x y = PyData.eqv a b := by
  cases hx <;> cases hy <;> first | (cases fa; done) | (cases fb; done) | rfl | (simp [eqV, PyData.eqv]; done)
end
end ML

set_option maxRecDepth 100000
set_option maxHeartbeats 4000000
namespace ML
open PySem PySem.Spec PyProof.Rows L2
variable [KF]
section
variable {X : Cx} {A : Act}
/-! ### subscripts -/
def IxOk (X : Cx) (f : PyData → PyData → Option MV) : Prop := ∃ r, IxR X r ∧ ∀ G H x y a b z Q, Same G H → Db G H x a → Db G H y b → f a b = some z → (∀ G' H' v, Grow G H G' H' → ResV H G' H' v z → Q v H') → r x y H Q
theorem atI_rel {G : Hp} {vs : List V} {ds : List PyData} {i : Int} {d : PyData} (h : DqAll G vs ds) (e : atI ds i = some d) : ∃ v, atI vs i = some v ∧ Dq G v d := by
  unfold atI at e ⊢
  rw [dqa_len h]
  obtain ⟨j, e1, e2⟩ := bind2 e
  rw [e1]
  obtain ⟨v, h1, h2⟩ := dqa_get h e2
  exact ⟨v, h1, h2⟩
def dIx : PyData → PyData → Option MV
  | .list ds, .int i => (atI ds i).map .dat
  | .tuple ds, .int i => (atI ds i).map .dat
  | .str z, .int i => if z.length ≤ sizeLine then (atI z.cps.toList i).map fun c => .dat (.str ⟨#[c]⟩) else none
  | _, _ => none
theorem ok_ix : IxOk X dIx := by
  refine ⟨_, (ix_list.or ix_tup).or ix_str, fun G H x y a b z Q e hx hy hz k => ?_⟩
  cases a <;> first | (cases hz; done) | skip
  all_goals (cases b <;> first | (cases hz; done) | skip)
  · rename_i s i
    have hz : (if s.length ≤ sizeLine then (atI s.cps.toList i).map fun c => MV.dat (.str ⟨#[c]⟩) else none) = some z := hz
    split at hz
    · rename_i q
      obtain ⟨c, e1, e2⟩ := map2 hz
      cases e2
      exact .inr ⟨s, i, c, hx.s, hy.i, q, e1, k G H _ (.refl e) (.str _)⟩
    · cases hz
  · rename_i ds i
    obtain ⟨d, e1, e2⟩ := map2 (show (atI ds i).map MV.dat = some z from hz)
    cases e2
    obtain ⟨p, vs, rfl, h1, h2⟩ := hx.l e
    obtain ⟨v, h3, h4⟩ := atI_rel h2 e1
    exact .inl (.inl ⟨p, vs, i, v, rfl, hy.i, .inl h1, h3, k G H v (.refl e) h4⟩)
  · rename_i ds i
    obtain ⟨d, e1, e2⟩ := map2 (show (atI ds i).map MV.dat = some z from hz)
    cases e2
    obtain ⟨p, vs, rfl, h1, h2⟩ := hx.t e
    obtain ⟨v, h3, h4⟩ := atI_rel h2 e1
    exact .inl (.inr ⟨p, vs, i, v, rfl, hy.i, .inl h1, h3, k G H v (.refl e) h4⟩)
theorem qe_ix {a b : Expr} {pos : Pos} {f : PyData → PyData → Option MV} {ma mb : ME} (ho : IxOk X f) (ha : PE X a (tE A ma)) (hb : PE X b (tE A mb)) (hs : PlainIx b := by exact fun _ _ => rfl) : PE X (.Subscript a b pos) (tE A (mBin f ma mb)) := by
  obtain ⟨r, hr, hm⟩ := ho
  exact pe_to (pe_ix hr ha hb hs) fun σ H Q h => bin_read hm h
/-! ### slices -/
abbrev MO := Mu → Option (Option Int × Mu)
def tMO (A : Act) (m : MO) : TO := fun σ H Q => ∃ G μ o μ', Rl A G μ σ H ∧ m μ = some (o, μ') ∧ ∀ G' H', Step A σ G H G' H' → Rl A G' μ' σ H' → Q o H'
def mNoP : MO := fun μ => some (none, μ)
def isI : PyData → Option Int | .int i => some i | _ => none
def mPart (m : ME) : MO := fun μ => (m μ).bind fun p => (deref p.2 p.1).bind fun a => (isI a).map fun i => (some i, p.2)
theorem isI_some {a : PyData} {b : Int} (h : isI a = some b) : a = .int b := by
  cases a with
  | int c => cases h; rfl
  | _ => cases h
theorem po_to {e : Option Expr} {t t' : TO} (h : PO X e t) (k : ∀ σ H Q, t' σ H Q → t σ H Q) : PO X e t' := ⟨fun pins s σ H Q I w => h.run pins s σ H Q I (k σ H Q w)⟩
theorem qo_none : PO X none (tMO A mNoP) := po_to po_none fun σ H Q ⟨G, μ, o, μ', R, e, k⟩ => by
  cases e
  exact k G H .refl R
theorem qo_some {e : Expr} {m : ME} (h : PE X e (tE A m)) : PO X (some e) (tMO A (mPart m)) := po_to (po_some h) fun σ H Q ⟨G, μ, o, μ', R, e, k⟩ => by
  obtain ⟨p, e1, e⟩ := bind2 e
  obtain ⟨a, e2, e⟩ := bind2 e
  obtain ⟨i, e3, e⟩ := map2 e
  cases e
  refine ⟨G, μ, p.1, p.2, R, e1, fun G1 H1 v1 s1 R1 q1 n1 => ?_⟩
  have := q1.db R1 e2
  rw [isI_some e3] at this
  exact ⟨i, this.i, k G1 H1 s1 R1⟩
def cutD {α : Type} (ds : List α) (lo hi : Option Int) : List α := (ds.drop (HT.sIx ds.length 0 lo)).take (HT.sIx ds.length ds.length hi - HT.sIx ds.length 0 lo)
theorem cut_rel {G : Hp} {vs : List V} {ds : List PyData} {lo hi : Option Int} (h : DqAll G vs ds) : DqAll G (cutV vs lo hi) (cutD ds lo hi) := by
  unfold cutV cutD
  rw [dqa_len h]
  exact dqa_take _ (dqa_drop _ h)
def dSl : PyData → Option Int → Option Int → Option MV
  | .list ds, lo, hi => some (.fre (cutD ds lo hi))
  | .tuple ds, lo, hi => some (.dat (.tuple (cutD ds lo hi)))
  | _, _, _ => none
def mSl (m : ME) (l h : MO) : ME := fun μ => (m μ).bind fun p => (l p.2).bind fun q => (h q.2).bind fun r => (deref r.2 p.1).bind fun a => (dSl a q.1 r.1).map fun z => (z, r.2)
theorem cut_all {α : Type} {xs : List α} {lo hi : Option Int} (h1 : HT.sIx xs.length 0 lo = 0) (h2 : HT.sIx xs.length xs.length hi = xs.length) : cutD xs lo hi = xs := by
  unfold cutD
  rw [h1, h2]
  simp
theorem qe_sl {e : Expr} {lo hi : Option Expr} {p2 pos : Pos} {m : ME} {l h : MO} (he : PE X e (tE A m)) (hl : PO X lo (tMO A l)) (hu : PO X hi (tMO A h)) : PE X (.Subscript e (.Slice lo hi none p2) pos) (tE A (mSl m l h)) := by
  refine pe_to (pe_slice (sl_list.or sl_tupF) he hl hu) fun σ H Q ⟨G, μ, z, μ', R, e, k⟩ => ?_
  obtain ⟨p, e1, e⟩ := bind2 e
  obtain ⟨q, e2, e⟩ := bind2 e
  obtain ⟨r, e3, e⟩ := bind2 e
  obtain ⟨a, e4, e⟩ := bind2 e
  obtain ⟨w, e5, e⟩ := map2 e
  cases e
  refine ⟨G, μ, p.1, p.2, R, e1, fun G1 H1 v1 s1 R1 q1 n1 => ⟨G1, p.2, q.1, q.2, R1, e2, fun G2 H2 s2 R2 => ⟨G2, q.2, r.1, r.2, R2, e3, fun G3 H3 s3 R3 => ?_⟩⟩⟩
  have hb := ((q1.step s2).step s3).db R3 e4
  have fin : ∀ G4 H4 v, Grow G3 H3 G4 H4 → ResV H3 G4 H4 v z → Q v H4 := fun G4 H4 v g rs => k G4 H4 v (((s1.trans s2).trans s3).trans g.step) (R3.grow g) (rs.rel R3) (((rs.nw.back s3).back s2).back s1)
  cases a with
  | list ds =>
    cases e5
    obtain ⟨a, vs, rfl, h1, h2⟩ := hb.l R3.ext
    exact .inl ⟨a, vs, rfl, .inl h1, fun t ht => fin _ _ _ (.free R3.ext ht) (res_fre R3.ext ht (cut_rel h2))⟩
  | tuple ds =>
    cases e5
    obtain ⟨a, vs, rfl, h1, h2⟩ := id (hb.t R3.ext)
    refine .inr ⟨a, vs, rfl, .inl h1, fun hc => ?_, fun _ t o ht od => fin _ _ _ (.new R3.ext ht) (res_tup R3.ext ht od (cut_rel h2))⟩
    rw [dqa_len h2] at hc
    refine fin G3 H3 _ (.refl R3.ext) ?_
    rw [cut_all hc.1 hc.2]
    cases hb with
    | dat hb => exact hb
  | _ => cases e5
/-! ### built-ins by their calls -/
theorem db1 {G H : Hp} {xs : List V} {d : PyData} (h : DbAll G H xs [d]) : ∃ v, xs = [v] ∧ Db G H v d := by
  cases h with
  | cons h t => cases t; exact ⟨_, rfl, h⟩
theorem db2 {G H : Hp} {xs : List V} {d e : PyData} (h : DbAll G H xs [d, e]) : ∃ v w, xs = [v, w] ∧ Db G H v d ∧ Db G H w e := by
  cases h with
  | cons h t =>
    cases t with
    | cons h2 t => cases t; exact ⟨_, _, rfl, h, h2⟩
/-- one argument -/
def c1 (f : PyData → Option MV) : List PyData → Option MV
  | [a] => f a
  | _ => none
def c2 (f : PyData → PyData → Option MV) : List PyData → Option MV
  | [a, b] => f a b
  | _ => none
theorem ok_c1 {g : Value} {f : PyData → Option MV} {r : List V → Hp → VK → Prop} (hr : CallR X g r) (h : ∀ G H x a z Q, Same G H → Db G H x a → f a = some z → (∀ G' H' v, Grow G H G' H' → ResV H G' H' v z → Q v H') → r [x] H Q) : CallOk X g (c1 f) := by
  refine ⟨_, hr, fun G H xs ds z Q e hx hz k => ?_⟩
  match ds, hz with
  | [a], hz =>
    obtain ⟨v, rfl, h1⟩ := db1 hx
    exact h G H v a z Q e h1 hz k
theorem ok_c2 {g : Value} {f : PyData → PyData → Option MV} {r : List V → Hp → VK → Prop} (hr : CallR X g r) (h : ∀ G H x y a b z Q, Same G H → Db G H x a → Db G H y b → f a b = some z → (∀ G' H' v, Grow G H G' H' → ResV H G' H' v z → Q v H') → r [x, y] H Q) : CallOk X g (c2 f) := by
  refine ⟨_, hr, fun G H xs ds z Q e hx hz k => ?_⟩
  match ds, hz with
  | [a, b], hz =>
    obtain ⟨v, w, rfl, h1, h2⟩ := db2 hx
    exact h G H v w a b z Q e h1 h2 hz k
def dLen : PyData → Option MV
  | .list ds => some (.dat (.int ds.length))
  | .tuple ds => some (.dat (.int ds.length))
  | .str z => if z.length ≤ sizeLine then some (.dat (.int z.length)) else none
  | _ => none
theorem ok_len : CallOk X (.builtin "len") (c1 dLen) := ok_c1 call_len fun G H x a z Q e hx hz k => by
  cases a <;> first | (cases hz; done) | skip
  · rename_i y
    have hz : (if y.length ≤ sizeLine then some (MV.dat (.int y.length)) else none) = some z := hz
    split at hz
    · rename_i q
      cases hz
      exact ⟨x, _, rfl, by rw [hx.s]; exact ⟨q, rfl⟩, k G H _ (.refl e) (.int _)⟩
    · cases hz
  · cases hz
    obtain ⟨p, vs, rfl, h1, h2⟩ := hx.l e
    exact ⟨_, vs.length, rfl, .inl ⟨vs, .inl h1, rfl⟩, by rw [dqa_len h2]; exact k G H _ (.refl e) (.int _)⟩
  · cases hz
    obtain ⟨p, vs, rfl, h1, h2⟩ := hx.t e
    exact ⟨_, vs.length, rfl, .inr ⟨vs, .inl h1, rfl⟩, by rw [dqa_len h2]; exact k G H _ (.refl e) (.int _)⟩
def dAbs : PyData → Option MV
  | .int i => some (.dat (.int (if i < 0 then -i else i)))
  | _ => none
theorem ok_abs : CallOk X (.builtin "abs") (c1 dAbs) := ok_c1 call_abs fun G H x a z Q e hx hz k => by
  cases a <;> first | (cases hz; done) | skip
  cases hz
  exact ⟨_, by rw [hx.i], k G H _ (.refl e) (.int _)⟩
def dMax : PyData → PyData → Option MV
  | .int i, .int j => some (.dat (.int (if j > i then j else i)))
  | _, _ => none
theorem ok_max (hc : X.calm = true := by rfl) : CallOk X (.builtin "max") (c2 dMax) := ok_c2 (call_max2 hc) fun G H x y a b z Q e hx hy hz k => by
  cases a <;> first | (cases hz; done) | skip
  cases b <;> first | (cases hz; done) | skip
  cases hz
  exact ⟨_, _, by rw [hx.i, hy.i], k G H _ (.refl e) (.int _)⟩
def dMin : PyData → PyData → Option MV
  | .int i, .int j => some (.dat (.int (if j < i then j else i)))
  | _, _ => none
theorem ok_min (hc : X.calm = true := by rfl) : CallOk X (.builtin "min") (c2 dMin) := ok_c2 (call_min2 hc) fun G H x y a b z Q e hx hy hz k => by
  cases a <;> first | (cases hz; done) | skip
  cases b <;> first | (cases hz; done) | skip
  cases hz
  exact ⟨_, _, by rw [hx.i, hy.i], k G H _ (.refl e) (.int _)⟩
def dInt : PyData → Option MV
  | .int i => some (.dat (.int i))
  | .bool b => some (.dat (.int (if b then 1 else 0)))
  | _ => none
theorem ok_int : CallOk X (.type "int") (c1 dInt) := ok_c1 call_int1 fun G H x a z Q e hx hz k => by
  cases a <;> first | (cases hz; done) | skip
  · cases hz
    exact .inr ⟨_, by rw [hx.b], k G H _ (.refl e) (.int _)⟩
  · cases hz
    exact .inl ⟨_, by rw [hx.i], k G H _ (.refl e) (.int _)⟩
def dList : PyData → Option MV
  | .list ds => some (.fre ds)
  | .tuple ds => some (.fre ds)
  | _ => none
theorem ok_list : CallOk X (.type "list") (c1 dList) := ok_c1 call_list_of fun G H x a z Q e hx hz k => by
  cases a <;> first | (cases hz; done) | skip
  · cases hz
    obtain ⟨p, vs, rfl, h1, h2⟩ := hx.l e
    exact ⟨p, vs, rfl, .inl (.inl h1), fun t ht => k _ _ _ (.free e ht) (res_fre e ht h2)⟩
  · cases hz
    obtain ⟨p, vs, rfl, h1, h2⟩ := hx.t e
    exact ⟨p, vs, rfl, .inr (.inl h1), fun t ht => k _ _ _ (.free e ht) (res_fre e ht h2)⟩
def dTuple : PyData → Option MV
  | .list ds => some (.dat (.tuple ds))
  | .tuple ds => some (.dat (.tuple ds))
  | _ => none
theorem ok_tuple : CallOk X (.type "tuple") (c1 dTuple) := ok_c1 call_tupleF fun G H x a z Q e hx hz k => by
  cases a <;> first | (cases hz; done) | skip
  · cases hz
    obtain ⟨p, vs, rfl, h1, h2⟩ := hx.l e
    exact ⟨p, vs, rfl, .inl ⟨.inl h1, fun t o ht od => k _ _ _ (.new e ht) (res_tup e ht od h2)⟩⟩
  · cases hz
    obtain ⟨p, vs, rfl, h1, h2⟩ := id (hx.t e)
    refine ⟨p, vs, rfl, .inr ⟨.inl h1, k G H _ (.refl e) ?_⟩⟩
    cases hx with
    | dat hx => exact hx
def intsOf : List PyData → Option (List Int)
  | [] => some []
  | .int i :: r => (intsOf r).map fun is => i :: is
  | _ :: _ => none
theorem intsOf_some : ∀ {ds : List PyData} {ns : List Int}, intsOf ds = some ns → ds = ns.map .int
  | [], _, h => by cases h; rfl
  | .int i :: r, _, h => by
    obtain ⟨is, e1, e2⟩ := map2 h
    cases e2
    rw [intsOf_some e1]; rfl
  | .none :: _, _, h => by cases h
  | .bool _ :: _, _, h => by cases h
  | .str _ :: _, _, h => by cases h
  | .list _ :: _, _, h => by cases h
  | .tuple _ :: _, _, h => by cases h
  | .dict _ :: _, _, h => by cases h
theorem intsOf_map : ∀ ns : List Int, intsOf (ns.map .int) = some ns
  | [] => rfl
  | n :: ns => by
    show (intsOf (ns.map .int)).map _ = _
    rw [intsOf_map ns]; rfl
def boolsOf : List PyData → Option (List Bool)
  | [] => some []
  | .bool i :: r => (boolsOf r).map fun is => i :: is
  | _ :: _ => none
theorem boolsOf_some : ∀ {ds : List PyData} {ns : List Bool}, boolsOf ds = some ns → ds = ns.map .bool
  | [], _, h => by cases h; rfl
  | .bool i :: r, _, h => by
    obtain ⟨is, e1, e2⟩ := map2 h
    cases e2
    rw [boolsOf_some e1]; rfl
  | .none :: _, _, h => by cases h
  | .int _ :: _, _, h => by cases h
  | .str _ :: _, _, h => by cases h
  | .list _ :: _, _, h => by cases h
  | .tuple _ :: _, _, h => by cases h
  | .dict _ :: _, _, h => by cases h
theorem boolsOf_map : ∀ ns : List Bool, boolsOf (ns.map .bool) = some ns
  | [] => rfl
  | n :: ns => by
    show (boolsOf (ns.map .bool)).map _ = _
    rw [boolsOf_map ns]; rfl
def dSum : PyData → Option MV
  | .list ds => (intsOf ds).map fun ns => .dat (.int ns.sum)
  | _ => none
theorem ok_sum (hc : X.calm = true := by rfl) : CallOk X (.builtin "sum") (c1 dSum) := ok_c1 (cr_sum hc) fun G H x a z Q e hx hz k => by
  cases a <;> first | (cases hz; done) | skip
  obtain ⟨ns, e1, e2⟩ := map2 hz
  cases e2
  cases intsOf_some e1
  obtain ⟨p, vs, rfl, h1, h2⟩ := hx.l e
  cases dqa_ints h2
  exact ⟨p, ns, rfl, .inl h1, k G H _ (.refl e) (.int _)⟩
def dAll : PyData → Option MV
  | .list ds => (boolsOf ds).map fun bs => .dat (.bool (bs.all id))
  | _ => none
theorem ok_all (hc : X.calm = true := by rfl) : CallOk X (.builtin "all") (c1 dAll) := ok_c1 (cr_all hc) fun G H x a z Q e hx hz k => by
  cases a <;> first | (cases hz; done) | skip
  obtain ⟨ns, e1, e2⟩ := map2 hz
  cases e2
  cases boolsOf_some e1
  obtain ⟨p, vs, rfl, h1, h2⟩ := hx.l e
  cases dqa_bools h2
  exact ⟨p, ns, rfl, .inl h1, k G H _ (.refl e) (.bl _)⟩
def dAny : PyData → Option MV
  | .list ds => (boolsOf ds).map fun bs => .dat (.bool (bs.any id))
  | _ => none
theorem ok_any (hc : X.calm = true := by rfl) : CallOk X (.builtin "any") (c1 dAny) := ok_c1 (cr_any hc) fun G H x a z Q e hx hz k => by
  cases a <;> first | (cases hz; done) | skip
  obtain ⟨ns, e1, e2⟩ := map2 hz
  cases e2
  cases boolsOf_some e1
  obtain ⟨p, vs, rfl, h1, h2⟩ := hx.l e
  cases dqa_bools h2
  exact ⟨p, ns, rfl, .inl h1, k G H _ (.refl e) (.bl _)⟩
/-! ### list(range(..)), tuple(range(..)) -/
def rgD (a b : Int) : List PyData := (List.range (b - a).toNat).map fun i => .int (a + (i : Nat))
theorem rg_rel (G : Hp) (a b : Int) : DqAll G (rgV a b) (rgD a b) := by
  unfold rgV rgD
  induction List.range (b - a).toNat with
  | nil => exact .nil
  | cons x r ih => exact .cons (.int _) ih
def rgB (a b : Int) : Bool := decide (a.natAbs ≤ 1000000 ∧ b.natAbs ≤ 1000000)
theorem rgB_ok {a b : Int} (h : rgB a b = true) : RgOk a b := by
  have h := of_decide_eq_true h
  exact ⟨by omega, by omega, by omega, by omega, by omega⟩
def mRg1 (t : Bool) (m : ME) : ME := fun μ => (m μ).bind fun p => (deref p.2 p.1).bind fun a => (isI a).bind fun n => if rgB 0 n = true then some (if t then .dat (.tuple (rgD 0 n)) else .fre (rgD 0 n), p.2) else none
theorem qe_listRg1 {e : Expr} {p pos p' pos' : Pos} {m : ME} (hg : Gl X "list") (hm : X.mg "list" = none) (hg2 : Gl X "range") (hm2 : X.mg "range" = none) (he : PE X e (tE A m)) (hc : X.calm = true := by rfl)
    (na : starEach [e] X.env = (false, eval e X.env) :: starEach [] X.env := by rfl) (na2 : starEach [Expr.Call (.Name "range" p') [e] [] pos'] X.env = (false, eval (Expr.Call (.Name "range" p') [e] [] pos') X.env) :: starEach [] X.env := by rfl) :
    PE X (.Call (.Name "list" p) [.Call (.Name "range" p') [e] [] pos'] [] pos) (tE A (mRg1 false m)) := pe_to (pe_listRg hc hg hm (prg_1 hg2 hm2 he na) na2) fun σ H Q ⟨G, μ, z, μ', R, e, k⟩ => by
  obtain ⟨p, e1, e⟩ := bind2 e
  obtain ⟨a, e2, e⟩ := bind2 e
  obtain ⟨i, e3, e⟩ := bind2 e
  split at e
  · rename_i hb
    cases e
    refine ⟨G, μ, p.1, p.2, R, e1, fun G1 H1 v1 s1 R1 q1 n1 => ?_⟩
    have := q1.db R1 e2
    rw [isI_some e3] at this
    refine ⟨i, this.i, rgB_ok hb, fun t ht => ?_⟩
    have rs := res_fre R1.ext ht (rg_rel G1 0 i)
    exact k _ _ _ (s1.trans (Grow.free R1.ext ht).step) (R1.grow (.free R1.ext ht)) (rs.rel R1) (rs.nw.back s1)
  · cases e
theorem qe_tupRg1 {e : Expr} {p pos p' pos' : Pos} {m : ME} (hg : Gl X "tuple") (hm : X.mg "tuple" = none) (hg2 : Gl X "range") (hm2 : X.mg "range" = none) (he : PE X e (tE A m)) (hc : X.calm = true := by rfl)
    (na : starEach [e] X.env = (false, eval e X.env) :: starEach [] X.env := by rfl) (na2 : starEach [Expr.Call (.Name "range" p') [e] [] pos'] X.env = (false, eval (Expr.Call (.Name "range" p') [e] [] pos') X.env) :: starEach [] X.env := by rfl) :
    PE X (.Call (.Name "tuple" p) [.Call (.Name "range" p') [e] [] pos'] [] pos) (tE A (mRg1 true m)) := pe_to (pe_tupRgF hc hg hm (prg_1 hg2 hm2 he na) na2) fun σ H Q ⟨G, μ, z, μ', R, e, k⟩ => by
  obtain ⟨p, e1, e⟩ := bind2 e
  obtain ⟨a, e2, e⟩ := bind2 e
  obtain ⟨i, e3, e⟩ := bind2 e
  split at e
  · rename_i hb
    cases e
    refine ⟨G, μ, p.1, p.2, R, e1, fun G1 H1 v1 s1 R1 q1 n1 => ?_⟩
    have := q1.db R1 e2
    rw [isI_some e3] at this
    refine ⟨i, this.i, rgB_ok hb, fun t o ht od => ?_⟩
    exact k _ _ _ (s1.trans (Grow.new R1.ext ht).step) (R1.grow (.new R1.ext ht)) (res_tup R1.ext ht od (rg_rel G1 0 i)) trivial
  · cases e
/-! ### isinstance(x, T) -/
def kindOf : PyData → String
  | .none => "NoneType"
  | .bool _ => "bool"
  | .int _ => "int"
  | .str _ => "str"
  | .list _ => "list"
  | .tuple _ => "tuple"
  | .dict _ => "dict"
theorem ty_of {K : PySem.W.Frag} {G H : Hp} {v : V} {d : PyData} (e : Same G H) (h : Db G H v d) (n : d.hasDict = false) : TyX K H v (.type (kindOf d)) := by
  cases d with
  | none =>
    cases h with
    | dat h => cases h; exact .base .non
  | bool b => rw [h.b]; exact .base (.bl b)
  | int b => rw [h.i]; exact .base (.int b)
  | str b => rw [h.s]; exact .base (.str b)
  | list ds =>
    obtain ⟨p, vs, rfl, h1, _⟩ := h.l e
    rcases h1 with h1 | ⟨o, h1⟩
    · exact .base (.lst h1)
    · exact .base (.frz h1)
  | tuple ds =>
    obtain ⟨p, vs, rfl, h1, _⟩ := h.t e
    rcases h1 with h1 | ⟨o, h1⟩
    · exact .base (.tup h1)
    · exact .fTuple h1
  | dict _ => simp [PyData.hasDict] at n
def isTy (T : String) : PyData → Bool := fun d => match d with
  | .bool _ => T == "bool" || T == "int"
  | d => kindOf d == T
def noDictTop : PyData → Bool | .dict _ => false | _ => true
def mIsi (T : String) (m : ME) : ME := fun μ => (m μ).bind fun p => (deref p.2 p.1).bind fun a => if noDictTop a = true then some (.dat (.bool (isTy T a)), p.2) else none
end
end ML

set_option maxRecDepth 100000
set_option maxHeartbeats 4000000
namespace ML
open PySem PySem.Spec PyProof.Rows L2
variable [KF]
section
variable {X : Cx} {A : Act}
/-! ### isinstance -/
def tyB (T k : String) : Bool := k == T || (k == "bool" && T == "int")
def fIsi (T : String) (a : PyData) : Option MV := if a.hasDict = false then some (.dat (.bool (tyB T (kindOf a)))) else none
def mIs (T : String) (m : ME) : ME := fun μ => (m μ).bind fun p => (deref p.2 p.1).bind fun a => (fIsi T a).map fun z => (z, p.2)
theorem qe_isi {e : Expr} {p p2 pos : Pos} {x : Str} {T : String} {m : ME} (hg : Gl X "isinstance") (hm : X.mg "isinstance" = none) (hg2 : Gl X x) (hm2 : X.mg x = none) (hv2 : bootBuiltins x = some (.type T)) (he : PE X e (tE A m))
    (kt : (["NoneType", "bool", "int", "str", "list", "tuple"].all fun k => kitB k T == some (tyB T k)) = true := by decide +kernel) (hv : bootBuiltins "isinstance" = some (.builtin "isinstance") := by first | rfl | decide +kernel)
    (hn : x ≠ "__name__" := by decide) (hdb : (x == ("__debug__" : Str)) = false := by decide)
    (h1 : starEach [e, .Name x p2] X.env = (false, eval e X.env) :: starEach [.Name x p2] X.env := by rfl) (h2 : starEach [Expr.Name x p2] X.env = (false, eval (Expr.Name x p2) X.env) :: starEach [] X.env := by rfl)
    (h3 : (backTo pos (starEach [Expr.Name x p2] X.env)).any (·.1) = false := by rfl) : PE X (.Call (.Name "isinstance" p) [e, .Name x p2] [] pos) (tE A (mIs T m)) := by
  refine pe_to (pe_callB call_isi hg hm hv (pa_cons he (pa_cons (pe_bltn (v := .ty T) hg2 hm2 hv2 rfl hn hdb) pa_nil h2) h1) (by decide) (by decide) h1 h3) fun σ H Q ⟨G, μ, z, μ', R, e, k⟩ => ?_
  obtain ⟨p, e1, e⟩ := bind2 e
  obtain ⟨a, e2, e⟩ := bind2 e
  obtain ⟨w, e3, e⟩ := map2 e
  cases e
  unfold fIsi at e3
  split at e3
  · rename_i nd
    cases e3
    refine ⟨G, μ, p.1, p.2, R, e1, fun G1 H1 v1 s1 R1 q1 n1 => ⟨v1, .ty T, _, _, _, rfl, .ty T, ty_of R1.ext (q1.db R1 e2) nd, kit_ty (r := tyB T (kindOf a)) ?_, k G1 H1 _ s1 R1 (.bl _) trivial⟩⟩
    rw [List.all_eq_true] at kt
    have mem : kindOf a ∈ ["NoneType", "bool", "int", "str", "list", "tuple"] := by
      cases a with
      | dict _ => simp [PyData.hasDict] at nd
      | _ => simp [kindOf]
    exact eq_of_beq (kt _ mem)
  · cases e3
/-! ### methods that change an owned list -/
def getL (μ : Mu) (i : Nat) : Option (List PyData) := match μ[i]? with | some (some (.list ds)) => some ds | _ => none
theorem getL_some {μ : Mu} {i : Nat} {ds : List PyData} (h : getL μ i = some ds) : μ[i]? = some (some (.list ds)) := by
  unfold getL at h
  split at h
  · rename_i e
    cases h
    exact e
  · cases h
theorem Rl.upd {G H : Hp} {μ : Mu} {σ : L2.St} {i : Nat} {p : Addr} {vs : List V} {ds ds0 : List PyData} (R : Rl A G μ σ H) (hi : i ∈ A.O) (hs : σ[i]? = some (some (.ref p))) (hm : μ[i]? = some (some (.list ds0))) (h : DqAll G vs ds) : Rl A G (μ.set i (some (.list ds))) σ (upd H p (.lst vs)) ∧ Step A σ G H G (upd H p (.lst vs)) := by
  obtain ⟨q, ws, es, e1, e2, e3, e4, e5, e6⟩ := R.ownL i hm hi
  have eq : q = p := by
    have := e2.symm.trans hs
    exact V.ref.inj (Option.some.inj (Option.some.inj this))
  subst eq
  have hlt : i < μ.length := (List.getElem?_eq_some_iff.mp hm).1
  refine ⟨⟨by rw [List.length_set]; exact R.len, fun b u q' => ?_, R.up, fun a o h n => ?_, fun a h => ?_, R.fg, fun j d h n => ?_, fun j d hj n => ?_, fun j a h e => ?_, R.sep, R.par⟩, .refl _, fun a o h n => ?_, fun _ _ h => h, fun a h => ?_⟩
  · rw [upd_ne (ne_of_none q' e5)]; exact R.ext _ _ q'
  · have : a ≠ q := fun z => by
      rcases e6 with e6 | ⟨e6, e7⟩
      · rw [z, e6] at h; cases h
      · exact n i e6 (by rw [z, e7])
    rw [upd_ne this]
    exact R.fr a o h n
  · by_cases z : a = q
    · rw [z, upd_same]; exact fun z => nomatch z
    · rw [upd_ne z]; exact R.lv a h
  · have : i ≠ j := fun z => n (z ▸ hi)
    rw [List.getElem?_set_ne this] at h
    exact R.val j d h n
  · by_cases z : i = j
    · subst z
      rw [List.getElem?_set_self hlt] at hj
      cases hj
      exact ⟨q, _, e2, upd_same, .inl ⟨vs, ds, rfl, rfl, h⟩, e5, e6⟩
    · rw [List.getElem?_set_ne z] at hj
      obtain ⟨q2, o2, f2, f3, f4, f5, f6⟩ := R.own j d hj n
      have : q2 ≠ q := fun y => z (R.sep i j q hi n e2 (y ▸ f2))
      exact ⟨q2, o2, f2, by rw [upd_ne this]; exact f3, f4, f5, f6⟩
  · by_cases z : a = q
    · rw [z, upd_same]; exact fun z => nomatch z
    · rw [upd_ne z]; exact R.liv j a h e
  · have : a ≠ q := fun z => n ⟨i, hi, z ▸ e2⟩
    rw [upd_ne this]; exact h
  · by_cases z : a = q
    · rw [z, upd_same]; exact fun z => nomatch z
    · rw [upd_ne z]; exact h
def MutOk (X : Cx) (id : String) (f : List PyData → List PyData → Option (PyData × List PyData)) : Prop := ∃ r, MtR X id r ∧ ∀ G H p vs ds xs es z ds' Q, Same G H → H p = some (.lst vs) → DqAll G vs ds → G p = none → DqAll G xs es → f ds es = some (z, ds') →
  (∀ v vs', DqAll G vs' ds' → Dq G v z → Q v (upd H p (.lst vs'))) → r (.ref p) xs H Q
def mMut (f : List PyData → List PyData → Option (PyData × List PyData)) (i : Nat) (m : MA) : ME := fun μ => (getL μ i).bind fun _ => (m μ).bind fun p => (dats p.1).bind fun es => (getL p.2 i).bind fun ds => (f ds es).map fun q => (.dat q.1, p.2.set i (some (.list q.2)))
theorem mut_read {r : V → List V → Hp → VK → Prop} {f : List PyData → List PyData → Option (PyData × List PyData)} (i : Nat) (hO : A.O.contains i = true)
    (hm : ∀ G H p vs ds xs es z ds' Q, Same G H → H p = some (.lst vs) → DqAll G vs ds → G p = none → DqAll G xs es → f ds es = some (z, ds') → (∀ v vs', DqAll G vs' ds' → Dq G v z → Q v (upd H p (.lst vs'))) → r (.ref p) xs H Q)
    {K : PySem.W.Frag} {m : MA} {σ : L2.St} {H : Hp} {Q : VK} (h : tE A (mMut f i m) σ H Q) : tBM K "list" r (tVar i) (tMA A m) σ H Q := by
  obtain ⟨G, μ, z, μ', R, e, k⟩ := h
  obtain ⟨ds0, e0, e⟩ := bind2 e
  obtain ⟨p, e1, e⟩ := bind2 e
  obtain ⟨es, e2, e⟩ := bind2 e
  obtain ⟨ds, e3, e⟩ := bind2 e
  obtain ⟨q, e4, e⟩ := map2 e
  cases e
  obtain ⟨a, vs, ds1, f1, f2, f3, f4, f5, f6⟩ := R.ownL i (getL_some e0) (inO hO)
  refine ⟨.ref a, f2, .inl ⟨rfl, vs, .inl (.inl f3)⟩, G, μ, p.1, p.2, R, e1, fun G1 H1 xs s1 R1 q1 => ?_⟩
  obtain ⟨a2, vs2, ds2, g1, g2, g3, g4, g5, g6⟩ := R1.ownL i (getL_some e3) (inO hO)
  have ea : a2 = a := V.ref.inj (Option.some.inj (Option.some.inj (g2.symm.trans f2)))
  subst ea
  cases g1
  refine hm G1 H1 a2 vs2 ds xs es q.1 q.2 Q R1.ext g3 g4 g5 (dats_ok q1 e2) e4 fun v vs' h1 h2 => ?_
  obtain ⟨R2, s2⟩ := R1.upd (inO hO) g2 (getL_some e3) h1
  exact k G1 _ v (s1.trans s2) R2 h2 trivial
theorem qe_mut {x : Str} {px : Pos} {name : Str} {apos cpos : Pos} {id : String} {a : Expr} {es : List Expr} {f : List PyData → List PyData → Option (PyData × List PyData)} {m : MA} (i : Nat) (hf : MutOk X id f) (slot : Slot "list" name id) (hty : typeOf (.builtin id) = pure (.type "method_descriptor")) (ha : PA X (a :: es) (tMA A m))
    (hO : A.O.contains i = true := by rfl) (hN : X.N[i]? = some x := by rfl) (hv : Vis X.env.scope x := by first | exact Or.inl rfl | exact Or.inr (Or.inl rfl) | exact Or.inr (Or.inr rfl)) (hd : (x == ("__debug__" : Str)) = false := by decide) (hcd : (x == ("__classdict__" : Str)) = false := by decide)
    (hbase : attributeBase (.Name x px) name X.env (eval (.Name x px) X.env) = eval (.Name x px) X.env := by rfl)
    (hfew : ((backTo cpos (starEach (a :: es) X.env)).all (fun x => !x.1) && (backToKw cpos (keywordEach [] X.env)).all (fun x => x.1.isSome)
      && decide ((a :: es).length + ([] : List Keyword).length + (if ([] : List Keyword).isEmpty then 0 else 1) < 30)) = true := by rfl)
    (hline : (apos.endLine == cpos.line) = true := by rfl) (hs : starEach (a :: es) X.env = (false, eval a X.env) :: starEach es X.env := by rfl) (hplain : (backTo cpos (starEach es X.env)).any (·.1) = false := by rfl) :
    PE X (.Call (.Attribute (.Name x px) name apos) (a :: es) [] cpos) (tE A (mMut f i m)) := by
  obtain ⟨r, hr, hm⟩ := hf
  exact pe_to (pe_bm PySem.F.plainAttrs_list slot hty hr (pv i hN hv hd hcd) ha hbase hfew hline hs hplain) fun σ H Q h => mut_read i hO hm h
theorem qe_mut0 {x : Str} {px : Pos} {name : Str} {apos cpos : Pos} {id : String} {f : List PyData → List PyData → Option (PyData × List PyData)} (i : Nat) (hf : MutOk X id f) (slot : Slot "list" name id) (hty : typeOf (.builtin id) = pure (.type "method_descriptor"))
    (hO : A.O.contains i = true := by rfl) (hN : X.N[i]? = some x := by rfl) (hv : Vis X.env.scope x := by first | exact Or.inl rfl | exact Or.inr (Or.inl rfl) | exact Or.inr (Or.inr rfl)) (hd : (x == ("__debug__" : Str)) = false := by decide) (hcd : (x == ("__classdict__" : Str)) = false := by decide)
    (hbase : attributeBase (.Name x px) name X.env (eval (.Name x px) X.env) = eval (.Name x px) X.env := by rfl) (hline : (apos.endLine == cpos.line) = true := by rfl) :
    PE X (.Call (.Attribute (.Name x px) name apos) [] [] cpos) (tE A (mMut f i mNil)) := by
  obtain ⟨r, hr, hm⟩ := hf
  refine pe_to (pe_bm0 PySem.F.plainAttrs_list slot hty hr (pv i hN hv hd hcd) hbase hline) fun σ H Q h => ?_
  obtain ⟨a, h1, h2, h3⟩ := mut_read (K := X.K) i hO hm h
  refine ⟨a, h1, h2, ?_⟩
  obtain ⟨G, μ, xs, μ', R, e, k⟩ := h3
  cases e
  exact k G H [] .refl R .nil
def dAppend : List PyData → List PyData → Option (PyData × List PyData)
  | ds, [d] => if ds.length < 100000 then some (.none, ds ++ [d]) else none
  | _, _ => none
theorem ok_append : MutOk X "list.append" dAppend := ⟨_, mt_append, fun G H p vs ds xs es z ds' Q e hp hd gp hx hz k => by
  match es, hz with
  | [d], hz =>
    cases hx with
    | cons h t =>
      cases t
      have hz : (if ds.length < 100000 then some (PyData.none, ds ++ [d]) else none) = some (z, ds') := hz
      split at hz
      · rename_i hl
        cases hz
        exact ⟨p, vs, _, rfl, rfl, hp, by rw [dqa_len hd]; exact Nat.lt_of_lt_of_le hl (by decide), k _ _ (dqa_app hd (.cons h .nil)) .non⟩
      · cases hz⟩
def dPop : List PyData → List PyData → Option (PyData × List PyData)
  | ds, [] => (ds[ds.length - 1]?).map fun d => (d, ds.dropLast)
  | _, _ => none
theorem dqa_dropLast {G : Hp} {vs : List V} {ds : List PyData} (h : DqAll G vs ds) : DqAll G vs.dropLast ds.dropLast := by
  rw [List.dropLast_eq_take, List.dropLast_eq_take, dqa_len h]
  exact dqa_take _ h
theorem ok_pop : MutOk X "list.pop" dPop := ⟨_, mt_pop, fun G H p vs ds xs es z ds' Q e hp hd gp hx hz k => by
  match es, hz with
  | [], hz =>
    cases hx
    obtain ⟨d, e1, e2⟩ := map2 hz
    cases e2
    obtain ⟨v, h1, h2⟩ := dqa_get hd e1
    exact ⟨p, vs, v, rfl, rfl, hp, by rw [dqa_len hd]; exact h1, k _ _ (dqa_dropLast hd) h2⟩⟩
def dPopAt : List PyData → List PyData → Option (PyData × List PyData)
  | ds, [.int i] => if 0 ≤ i ∧ i < 100000 then (ds[i.toNat]?).map fun d => (d, ds.eraseIdx i.toNat) else none
  | _, _ => none
theorem ok_popAt : MutOk X "list.pop" dPopAt := ⟨_, mt_popAt, fun G H p vs ds xs es z ds' Q e hp hd gp hx hz k => by
  match es, hz with
  | [.int i], hz =>
    cases hx with
    | cons h t =>
      cases t
      have hz : (if 0 ≤ i ∧ i < 100000 then (ds[i.toNat]?).map fun d => (d, ds.eraseIdx i.toNat) else none) = some (z, ds') := hz
      split at hz
      · rename_i hl
        obtain ⟨d, e1, e2⟩ := map2 hz
        cases e2
        obtain ⟨v, h1, h2⟩ := dqa_get hd e1
        have hlt := (List.getElem?_eq_some_iff.mp h1).1
        refine ⟨p, vs, i, i.toNat, v, rfl, by rw [dq_int h], hp, by omega, by omega, ?_, h1, k _ _ (dqa_erase _ hd) h2⟩
        exact (ixN_seq (show ixN vs.length i = some i.toNat by unfold ixN; rw [if_pos hl.1, if_pos (by omega)])).1
      · cases hz⟩
def dReverse : List PyData → List PyData → Option (PyData × List PyData)
  | ds, [] => some (.none, ds.reverse)
  | _, _ => none
theorem ok_reverse : MutOk X "list.reverse" dReverse := ⟨_, mt_reverse, fun G H p vs ds xs es z ds' Q e hp hd gp hx hz k => by
  match es, hz with
  | [], hz =>
    cases hx
    cases hz
    exact ⟨p, vs, rfl, rfl, hp, k _ _ (dqa_rev hd) .non⟩⟩
/-! ### statements -/
theorem Sat.mono {D : Ends} {G G' : Hp} {o : Out} (e : Same G G') (h : Sat A D G o) : Sat A D G' o := by
  cases o with
  | nx m => exact fun σ' G2 H2 e2 R2 => h σ' G2 H2 (e.trans e2) R2
  | rt x m => exact fun v σ' G2 H2 e2 R2 => h v σ' G2 H2 (e.trans e2) R2
  | bk m => exact fun σ' G2 H2 e2 R2 => h σ' G2 H2 (e.trans e2) R2
  | ct m => exact fun σ' G2 H2 e2 R2 => h σ' G2 H2 (e.trans e2) R2
def sNext : MS := fun μ => some (.nx μ)
def sSeq (s r : MS) : MS := fun μ => (s μ).bind fun o => match o with | .nx μ' => r μ' | o => some o
def sIf (c : MT) (s t : MS) : MS := fun μ => (c μ).bind fun p => if p.1 = true then s p.2 else t p.2
def asD : MV → Option PyData | .dat d => some d | _ => none
def asF : MV → Option (List PyData) | .fre ds => some ds | _ => none
def sAsg (i : Nat) (m : ME) : MS := fun μ => (m μ).bind fun p => (asD p.1).map fun d => .nx (p.2.set i (some d))
def sAsgO (i : Nat) (m : ME) : MS := fun μ => (m μ).bind fun p => (asF p.1).map fun d => .nx (p.2.set i (some (.list d)))
def sDrop (m : ME) : MS := fun μ => (m μ).map fun p => .nx p.2
def sStop : MS := fun _ => none
def retV (P : List Nat) (μ : Mu) : MV → Option MV
  | .dat d => some (.dat d)
  | .fre ds => some (.fre ds)
  | .own i => if P.contains i = true then none else (getL μ i).map .fre
def sRet (P : List Nat) (m : ME) : MS := fun μ => (m μ).bind fun p => (retV P p.2 p.1).map fun x => .rt x p.2
theorem asD_some {x : MV} {d : PyData} (h : asD x = some d) : x = .dat d := by
  cases x <;> cases h; rfl
theorem asF_some {x : MV} {d : List PyData} (h : asF x = some d) : x = .fre d := by
  cases x <;> cases h; rfl
theorem qss_nil : PSs X [] (tS A sNext) := pss_to pss_nil fun D σ H ⟨G, μ, o, R, e, k⟩ => by
  cases e
  exact k σ G H (.refl _) R
theorem qs_pass {pos : Pos} : PS X (.Pass pos) (tS A sNext) := ps_to ps_pass fun D σ H ⟨G, μ, o, R, e, k⟩ => by
  cases e
  exact k σ G H (.refl _) R
theorem qs_break {pos : Pos} : PS X (.Break pos) (tS A fun μ => some (.bk μ)) := ps_to ps_break fun D σ H ⟨G, μ, o, R, e, k⟩ => by
  cases e
  exact k σ G H (.refl _) R
theorem qs_cont {pos : Pos} : PS X (.Continue pos) (tS A fun μ => some (.ct μ)) := ps_to ps_continue fun D σ H ⟨G, μ, o, R, e, k⟩ => by
  cases e
  exact k σ G H (.refl _) R
theorem qs_stop {st : Stmt} : PS X st (tS A sStop) := ps_to ps_never fun D σ H ⟨G, μ, o, R, e, k⟩ => by cases e
theorem qss_one {st : Stmt} {s : MS} (h : PS X st (tS A s)) : PSs X [st] (tS A s) := pss_one h
theorem qss_cons {st : Stmt} {r : List Stmt} {s t : MS} (h : PS X st (tS A s)) (h2 : PSs X r (tS A t)) : PSs X (st :: r) (tS A (sSeq s t)) := pss_to (pss_cons h h2) fun D σ H ⟨G, μ, o, R, e, k⟩ => by
  obtain ⟨o1, e1, e⟩ := bind2 e
  refine ⟨G, μ, o1, R, e1, ?_⟩
  cases o1 with
  | nx m => exact fun σ' G' H' s' R' => ⟨G', m, o, R', e, k.mono s'⟩
  | rt x m => cases e; exact k
  | bk m => cases e; exact k
  | ct m => cases e; exact k
theorem qs_if {c : Expr} {a b : List Stmt} {pos : Pos} {mc : MT} {s t : MS} (hc : PT X c (tMT A mc)) (h : PSs X a (tS A s)) (h2 : PSs X b (tS A t)) : PS X (.If c a b pos) (tS A (sIf mc s t)) := ps_to (ps_if hc h h2) fun D σ H ⟨G, μ, o, R, e, k⟩ => by
  obtain ⟨⟨p1, p2⟩, e1, e⟩ := bind2 e
  refine ⟨G, μ, p1, p2, R, e1, fun G1 H1 s1 R1 => ?_⟩
  cases p1 with
  | true =>
    rw [if_pos rfl] at e ⊢
    exact ⟨G1, p2, o, R1, e, k.mono s1.g⟩
  | false =>
    rw [if_neg Bool.false_ne_true] at e ⊢
    exact ⟨G1, p2, o, R1, e, k.mono s1.g⟩
theorem qs_drop {e : Expr} {pos : Pos} {m : ME} (h : PE X e (tE A m)) (hs : swapsWith e none pos.line X.env = pure false := by rfl) : PS X (.Expr e pos) (tS A (sDrop m)) := ps_to (ps_expr h hs) fun D σ H ⟨G, μ, o, R, e, k⟩ => by
  obtain ⟨p, e1, e⟩ := map2 e
  cases e
  exact ⟨G, μ, p.1, p.2, R, e1, fun G1 H1 v s1 R1 q1 n1 => k σ G1 H1 s1.g R1⟩
theorem qs_ret {e : Expr} {pos : Pos} {m : ME} (P : List Nat) (h : PE X e (tE A m)) (hP : A.P = P := by rfl) : PS X (.Return (some e) pos) (tS A (sRet P m)) := ps_to (ps_ret h) fun D σ H ⟨G, μ, o, R, e, k⟩ => by
  obtain ⟨p, e1, e⟩ := bind2 e
  obtain ⟨x, e2, e⟩ := map2 e
  cases e
  refine ⟨G, μ, p.1, p.2, R, e1, fun G1 H1 v s1 R1 q1 n1 => k v σ G1 H1 s1.g R1 ?_⟩
  obtain ⟨y, m2⟩ := p
  cases y with
  | dat d => cases e2; exact q1
  | fre ds =>
    cases e2
    obtain ⟨p, vs, ev, h1, h2, h3, h4, h5⟩ := q1
    exact ⟨p, vs, ev, h4, h1, h2, h3⟩
  | own i =>
    have e2 : (if P.contains i = true then none else (getL m2 i).map MV.fre) = some x := e2
    split at e2
    · cases e2
    · rename_i hn
      obtain ⟨ds, e3, e4⟩ := map2 e2
      cases e4
      obtain ⟨a, vs, ds1, f1, f2, f3, f4, f5, f6⟩ := R1.ownL i (getL_some e3) q1.1
      have ev : v = .ref a := Option.some.inj (Option.some.inj (q1.2.symm.trans f2))
      cases f1
      refine ⟨a, vs, ev, ?_, f3, f4, f5⟩
      rcases f6 with f6 | ⟨f6, _⟩
      · exact f6
      · rw [hP] at f6
        exact absurd (by simpa using f6) hn
theorem qs_retN {pos : Pos} : PS X (.Return none pos) (tS A fun μ => some (.rt (.dat .none) μ)) := ps_to ps_retN fun D σ H ⟨G, μ, o, R, e, k⟩ => by
  cases e
  exact k .non σ G H (.refl _) R .non
/-- a slot is stored -/
theorem Rl.set {G H : Hp} {μ : Mu} {σ : L2.St} {i : Nat} {v : V} {d : PyData} (R : Rl A G μ σ H) (hi : i ∉ A.O) (h : Dq G v d) : Rl A G (μ.set i (some d)) (σ.set i (some v)) H := by
  have ne : ∀ {j}, j ∈ A.O → i ≠ j := fun hj z => hi (z ▸ hj)
  refine ⟨by rw [List.length_set, List.length_set]; exact R.len, R.ext, R.up, R.fr, R.lv, R.fg, fun j e hj n => ?_, fun j e hj n => ?_, fun j a n e => ?_, fun j k p n1 n2 e1 e2 => ?_, fun j n => ?_⟩
  · by_cases z : i = j
    · subst z
      have hlt : i < μ.length := by
        have := (List.getElem?_eq_some_iff.mp hj).1
        rw [List.length_set] at this; exact this
      rw [List.getElem?_set_self hlt] at hj
      cases hj
      exact ⟨v, List.getElem?_set_self (by rw [R.len]; exact hlt), h⟩
    · rw [List.getElem?_set_ne z] at hj
      obtain ⟨u, q, r⟩ := R.val j e hj n
      exact ⟨u, by rw [List.getElem?_set_ne z]; exact q, r⟩
  · rw [List.getElem?_set_ne (ne n)] at hj ⊢
    exact R.own j e hj n
  · rw [List.getElem?_set_ne (ne n)] at e
    exact R.liv j a n e
  · rw [List.getElem?_set_ne (ne n1)] at e1
    rw [List.getElem?_set_ne (ne n2)] at e2
    exact R.sep j k p n1 n2 e1 e2
  · obtain ⟨a, b, c⟩ := R.par j n
    exact ⟨a, by rw [List.getElem?_set_ne (ne a)]; exact b, c⟩
theorem Rl.setO {G H : Hp} {μ : Mu} {σ : L2.St} {i : Nat} {p : Addr} {vs : List V} {ds : List PyData} (R : Rl A G μ σ H) (hi : i ∈ A.O) (hP : i ∉ A.P) (hp : H p = some (.lst vs)) (ha : DqAll G vs ds) (gp : G p = none) (ap : A.H p = none) (no : ¬ Own A σ p) :
    Rl A G (μ.set i (some (.list ds))) (σ.set i (some (.ref p))) H := by
  have lt : ∀ {j : Nat} {e}, (μ.set i (some (.list ds)))[j]? = some (some e) → j < μ.length := fun hj => by
    have := (List.getElem?_eq_some_iff.mp hj).1
    rw [List.length_set] at this; exact this
  refine ⟨by rw [List.length_set, List.length_set]; exact R.len, R.ext, R.up, R.fr, R.lv, R.fg, fun j e hj n => ?_, fun j e hj n => ?_, fun j a n e => ?_, fun j k q n1 n2 e1 e2 => ?_, fun j n => ?_⟩
  · have z : i ≠ j := fun z => n (z ▸ hi)
    rw [List.getElem?_set_ne z] at hj ⊢
    exact R.val j e hj n
  · by_cases z : i = j
    · subst z
      have hlt := lt hj
      rw [List.getElem?_set_self hlt] at hj
      cases hj
      exact ⟨p, _, List.getElem?_set_self (by rw [R.len]; exact hlt), hp, .inl ⟨vs, ds, rfl, rfl, ha⟩, gp, .inl ap⟩
    · rw [List.getElem?_set_ne z] at hj ⊢
      exact R.own j e hj n
  · by_cases z : i = j
    · subst z
      by_cases hlt : i < σ.length
      · rw [List.getElem?_set_self hlt] at e
        cases e
        rw [hp]; exact fun z => nomatch z
      · rw [List.getElem?_eq_none (by rw [List.length_set]; omega)] at e
        cases e
    · rw [List.getElem?_set_ne z] at e
      exact R.liv j a n e
  · by_cases z : i = j
    · by_cases z2 : i = k
      · rw [← z, ← z2]
      · rw [List.getElem?_set_ne z2] at e2
        subst z
        by_cases hlt : i < σ.length
        · rw [List.getElem?_set_self hlt] at e1
          cases e1
          exact absurd ⟨k, n2, e2⟩ no
        · rw [List.getElem?_eq_none (by rw [List.length_set]; omega)] at e1
          cases e1
    · rw [List.getElem?_set_ne z] at e1
      by_cases z2 : i = k
      · subst z2
        by_cases hlt : i < σ.length
        · rw [List.getElem?_set_self hlt] at e2
          cases e2
          exact absurd ⟨j, n1, e1⟩ no
        · rw [List.getElem?_eq_none (by rw [List.length_set]; omega)] at e2
          cases e2
      · rw [List.getElem?_set_ne z2] at e2
        exact R.sep j k q n1 n2 e1 e2
  · obtain ⟨a, b, c⟩ := R.par j n
    have z : i ≠ j := fun z => hP (z ▸ n)
    exact ⟨a, by rw [List.getElem?_set_ne z]; exact b, c⟩
theorem asg_read {te : TE} {i : Nat} {m : ME} (hO : A.O.contains i = false) (h : ∀ σ H Q, tE A m σ H Q → te σ H Q) {D : Ends} {σ : L2.St} {H : Hp} (w : tS A (sAsg i m) D σ H) : tAsg te (gName i) D σ H := by
  obtain ⟨G, μ, o, R, e, k⟩ := w
  obtain ⟨p, e1, e⟩ := bind2 e
  obtain ⟨d, e2, e⟩ := map2 e
  cases e
  refine h σ H _ ⟨G, μ, p.1, p.2, R, e1, fun G1 H1 v s1 R1 q1 n1 => ?_⟩
  rw [asD_some e2] at q1
  exact k _ G1 H1 s1.g (R1.set (notO hO) q1)
theorem asgO_read {te : TE} {i : Nat} {m : ME} (hO : A.O.contains i = true) (hP : A.P.contains i = false) (h : ∀ σ H Q, tE A m σ H Q → te σ H Q) {D : Ends} {σ : L2.St} {H : Hp} (w : tS A (sAsgO i m) D σ H) : tAsg te (gName i) D σ H := by
  obtain ⟨G, μ, o, R, e, k⟩ := w
  obtain ⟨p, e1, e⟩ := bind2 e
  obtain ⟨d, e2, e⟩ := map2 e
  cases e
  refine h σ H _ ⟨G, μ, p.1, p.2, R, e1, fun G1 H1 v s1 R1 q1 n1 => ?_⟩
  rw [asF_some e2] at q1
  obtain ⟨q, vs, ev, h1, h2, h3, h4, h5⟩ := q1
  subst ev
  exact k _ G1 H1 s1.g (R1.setO (inO hO) (notO hP) h1 h2 h3 h4 h5)
theorem qs_asg {x : Str} {e : Expr} {pos pos' : Pos} {m : ME} (i : Nat) (he : PE X e (tE A m)) (hO : A.O.contains i = false := by rfl) (hN : X.N.Nodup) (hi : X.N[i]? = some x := by rfl) (hx : Loc X.env.scope x := by first | exact .inl rfl | exact .inr rfl) (hs : swapsWith e (some (.Name x pos')) pos.line X.env = pure false := by rfl)
    (hf : X.fn x = true ∨ X.env.scope.names.lookup x = some .local := by first | exact .inl rfl | exact .inr rfl) : PS X (.Assign [.Name x pos'] e pos) (tS A (sAsg i m)) := ps_to (ps_set hN hi hx he hs hf) fun D σ H w => asg_read hO (fun _ _ _ h => h) w
theorem qs_asgO {x : Str} {e : Expr} {pos pos' : Pos} {m : ME} (i : Nat) (he : PE X e (tE A m)) (hO : A.O.contains i = true := by rfl) (hP : A.P.contains i = false := by rfl) (hN : X.N.Nodup) (hi : X.N[i]? = some x := by rfl) (hx : Loc X.env.scope x := by first | exact .inl rfl | exact .inr rfl) (hs : swapsWith e (some (.Name x pos')) pos.line X.env = pure false := by rfl)
    (hf : X.fn x = true ∨ X.env.scope.names.lookup x = some .local := by first | exact .inl rfl | exact .inr rfl) : PS X (.Assign [.Name x pos'] e pos) (tS A (sAsgO i m)) := ps_to (ps_set hN hi hx he hs hf) fun D σ H w => asgO_read hO hP (fun _ _ _ h => h) w
/-! ### xs[i] = e, of an owned list -/
def sSet (i : Nat) (m n : ME) : MS := fun μ => (m μ).bind fun p => (asD p.1).bind fun d => (getL p.2 i).bind fun _ => (n p.2).bind fun q => (deref q.2 q.1).bind fun a => (isI a).bind fun j => (getL q.2 i).bind fun ds => (ixN ds.length j).map fun c => .nx (q.2.set i (some (.list (ds.set c d))))
theorem qs_set {x : Str} {px : Pos} {e ix : Expr} {pos spos : Pos} {m n : ME} (i : Nat) (he : PE X e (tE A m)) (hix : PE X ix (tE A n)) (hO : A.O.contains i = true := by rfl) (hN : X.N[i]? = some x := by rfl) (hv : Vis X.env.scope x := by first | exact Or.inl rfl | exact Or.inr (Or.inl rfl) | exact Or.inr (Or.inr rfl)) (hd : (x == ("__debug__" : Str)) = false := by decide) (hcd : (x == ("__classdict__" : Str)) = false := by decide)
    (ha : ∀ v, assign (.Subscript (.Name x px) ix spos) X.env v = (do
      let ov ← holding [v] (eval (.Name x px) X.env)
      let iv ← holding [v, ov] (eval ix X.env)
      standAt spos
      holding [v, ov, iv] (setItem ov iv v)
      release [v, ov, iv] []) := by intro _; rfl)
    (hs : swapsWithSole [.Subscript (.Name x px) ix spos] e pos.line X.env = pure false := by rfl) (hw : swappedStores [.Subscript (.Name x px) ix spos] e X.env = pure none := by rfl)
    (h1 : (assignEach [.Subscript (.Name x px) ix spos] X.env).map (·.2) = [assign (.Subscript (.Name x px) ix spos) X.env] := by rfl) :
    PS X (.Assign [.Subscript (.Name x px) ix spos] e pos) (tS A (sSet i m n)) := ps_to (ps_asg he (pg_sub (pv i hN hv hd hcd) hix set_list ha) hs hw h1) fun D σ H ⟨G, μ, o, R, e, k⟩ => by
  obtain ⟨p, e1, e⟩ := bind2 e
  obtain ⟨d, e2, e⟩ := bind2 e
  obtain ⟨ds0, e3, e⟩ := bind2 e
  obtain ⟨q, e4, e⟩ := bind2 e
  obtain ⟨a, e5, e⟩ := bind2 e
  obtain ⟨j, e6, e⟩ := bind2 e
  obtain ⟨ds, e7, e⟩ := bind2 e
  obtain ⟨c, e8, e⟩ := map2 e
  cases e
  refine ⟨G, μ, p.1, p.2, R, e1, fun G1 H1 v s1 R1 q1 n1 => ?_⟩
  rw [asD_some e2] at q1
  obtain ⟨a1, vs, ds1, f1, f2, f3, f4, f5, f6⟩ := R1.ownL i (getL_some e3) (inO hO)
  refine ⟨.ref a1, f2, G1, p.2, q.1, q.2, R1, e4, fun G2 H2 w s2 R2 q2 n2 => ?_⟩
  obtain ⟨a2, vs2, ds2, g1, g2, g3, g4, g5, g6⟩ := R2.ownL i (getL_some e7) (inO hO)
  have ea : a2 = a1 := V.ref.inj (Option.some.inj (Option.some.inj (g2.symm.trans f2)))
  subst ea
  cases g1
  have hw := q2.db R2 e5
  rw [isI_some e6] at hw
  refine ⟨a2, vs2, j, c, rfl, hw.i, g3, by rw [dqa_len g4]; exact e8, ?_⟩
  obtain ⟨R3, s3⟩ := R2.upd (inO hO) g2 (getL_some e7) (dqa_set c g4 (dq_mono s2.g q1))
  exact k σ G2 _ (s1.g.trans s2.g) R3
/-! ### x += e, x a local -/
def IpOk (X : Cx) (op : Operator) (f : PyData → PyData → Option PyData) : Prop := ∃ t, PIp X op t ∧ ∀ G H x y a b z Q, Same G H → Db G H x a → Db G H y b → f a b = some z → (∀ v, Dq G v z → Q v H) → t x y H Q
def dAddI : PyData → PyData → Option PyData
  | .int i, .int j => some (.int (i + j))
  | _, _ => none
def dSubI : PyData → PyData → Option PyData
  | .int i, .int j => some (.int (i - j))
  | _, _ => none
theorem ok_ipAdd : IpOk X .Add dAddI := ⟨_, ip_add, fun G H x y a b z Q e hx hy hz k => by
  cases a <;> first | (cases hz; done) | skip
  cases b <;> first | (cases hz; done) | skip
  cases hz
  exact ⟨_, _, hx.i, hy.i, k _ (.int _)⟩⟩
theorem ok_ipSub : IpOk X .Sub dSubI := ⟨_, ip_sub, fun G H x y a b z Q e hx hy hz k => by
  cases a <;> first | (cases hz; done) | skip
  cases b <;> first | (cases hz; done) | skip
  cases hz
  exact ⟨_, _, hx.i, hy.i, k _ (.int _)⟩⟩
def sAug (i : Nat) (f : PyData → PyData → Option PyData) (m : ME) : MS := fun μ => (μ[i]?).join.bind fun a => (m μ).bind fun p => (deref p.2 p.1).bind fun b => (f a b).map fun z => .nx (p.2.set i (some z))
theorem join_some {μ : Mu} {i : Nat} {a : PyData} (h : (μ[i]?).join = some a) : μ[i]? = some (some a) := by
  cases q : μ[i]? with
  | none => rw [q] at h; cases h
  | some o => rw [q] at h; exact congrArg some h
theorem qs_aug {x : Str} {e : Expr} {op : Operator} {pos pos' : Pos} {f : PyData → PyData → Option PyData} {m : ME} (i : Nat) (ho : IpOk X op f) (he : PE X e (tE A m)) (hO : A.O.contains i = false := by rfl) (hN : X.N.Nodup) (hi : X.N[i]? = some x := by rfl) (hx : Loc X.env.scope x := by first | exact .inl rfl | exact .inr rfl)
    (hf : X.fn x = true ∨ X.env.scope.names.lookup x = some .local := by first | exact .inl rfl | exact .inr rfl) : PS X (.AugAssign (.Name x pos') op e pos) (tS A (sAug i f m)) := by
  obtain ⟨t, ht, hm⟩ := ho
  refine ps_to (ps_aug hN hi hx he ht hf) fun D σ H ⟨G, μ, o, R, e, k⟩ => ?_
  obtain ⟨a, e0, e⟩ := bind2 e
  obtain ⟨p, e1, e⟩ := bind2 e
  obtain ⟨b, e2, e⟩ := bind2 e
  obtain ⟨z, e3, e⟩ := map2 e
  cases e
  obtain ⟨v, hs, r⟩ := R.val i a (join_some e0) (notO hO)
  refine ⟨v, hs, G, μ, p.1, p.2, R, e1, fun G1 H1 w s1 R1 q1 n1 => ?_⟩
  exact hm G1 H1 v w a b z _ R1.ext (.dat (dq_mono s1.g r)) (q1.db R1 e2) e3 fun u hu => k _ G1 H1 s1.g (R1.set (notO hO) hu)
end
end ML

set_option maxRecDepth 100000
set_option maxHeartbeats 4000000
namespace ML
open PySem PySem.Spec PyProof.Rows L2
variable [KF]
theorem wipe_at {σ : L2.St} {j : Nat} : ∀ {vs : List Nat}, (wipe σ vs)[j]? = if j ∈ vs then (σ[j]?).map (fun _ => none) else σ[j]?
  | [] => by simp [wipe]
  | v :: vs => by
    unfold wipe
    have ih := wipe_at (σ := σ) (j := j) (vs := vs)
    by_cases h : v = j
    · subst h
      rw [if_pos (by simp)]
      by_cases hl : v < σ.length
      · rw [List.getElem?_set_self (by rw [wipe_length]; exact hl), List.getElem?_eq_getElem hl]; rfl
      · rw [List.getElem?_eq_none (by rw [List.length_set, wipe_length]; omega), List.getElem?_eq_none (by omega)]; rfl
    · rw [List.getElem?_set_ne h, ih]
      have : (j ∈ v :: vs) ↔ (j ∈ vs) := by
        rw [List.mem_cons]
        exact ⟨fun z => z.elim (fun e => absurd e.symm h) id, .inr⟩
      simp only [this]
theorem wipe_ext {σ τ : L2.St} {vs : List Nat} (h : ∀ j, j ∉ vs → σ[j]? = τ[j]?) (hl : σ.length = τ.length) : wipe σ vs = wipe τ vs := by
  apply List.ext_getElem?
  intro j
  rw [wipe_at, wipe_at]
  split
  · by_cases hj : j < σ.length
    · rw [List.getElem?_eq_getElem hj, List.getElem?_eq_getElem (by omega)]; rfl
    · rw [List.getElem?_eq_none (by omega), List.getElem?_eq_none (by omega)]
  · rename_i hn
    exact h j hn
theorem wipe_agree {σ τ : L2.St} {vs : List Nat} (e : wipe σ vs = wipe τ vs) {j : Nat} (h : j ∉ vs) : σ[j]? = τ[j]? := by
  have := congrArg (fun l : L2.St => l[j]?) e
  simp only [wipe_at, if_neg h] at this
  exact this
def wipeM (μ : Mu) : List Nat → Mu
  | [] => μ
  | v :: vs => (wipeM μ vs).set v none
theorem wipeM_len (μ : Mu) : ∀ vs, (wipeM μ vs).length = μ.length
  | [] => rfl
  | v :: vs => by unfold wipeM; rw [List.length_set, wipeM_len μ vs]
theorem wipeM_at {σ : Mu} {j : Nat} : ∀ {vs : List Nat}, (wipeM σ vs)[j]? = if j ∈ vs then (σ[j]?).map (fun _ => none) else σ[j]?
  | [] => by simp [wipeM]
  | v :: vs => by
    unfold wipeM
    have ih := wipeM_at (σ := σ) (j := j) (vs := vs)
    by_cases h : v = j
    · subst h
      rw [if_pos (by simp)]
      by_cases hl : v < σ.length
      · rw [List.getElem?_set_self (by rw [wipeM_len]; exact hl), List.getElem?_eq_getElem hl]; rfl
      · rw [List.getElem?_eq_none (by rw [List.length_set, wipeM_len]; omega), List.getElem?_eq_none (by omega)]; rfl
    · rw [List.getElem?_set_ne h, ih]
      have : (j ∈ v :: vs) ↔ (j ∈ vs) := by
        rw [List.mem_cons]
        exact ⟨fun z => z.elim (fun e => absurd e.symm h) id, .inr⟩
      simp only [this]
/-- the slots vs as they were in μ, the others as in ν -/
def restM (μ ν : Mu) : List Nat → Mu
  | [] => ν
  | v :: vs => (restM μ ν vs).set v (μ[v]?).join
theorem restM_len (μ ν : Mu) : ∀ vs, (restM μ ν vs).length = ν.length
  | [] => rfl
  | v :: vs => by unfold restM; rw [List.length_set, restM_len μ ν vs]
theorem restM_out {μ ν : Mu} {j : Nat} : ∀ {vs : List Nat}, j ∉ vs → (restM μ ν vs)[j]? = ν[j]?
  | [], _ => rfl
  | v :: vs, h => by
    unfold restM
    rw [List.getElem?_set_ne (fun z => h (by simp [z])), restM_out (fun z => h (List.mem_cons_of_mem _ z))]
theorem restM_in {μ ν : Mu} {j : Nat} {d : PyData} : ∀ {vs : List Nat}, j ∈ vs → (restM μ ν vs)[j]? = some (some d) → μ[j]? = some (some d)
  | [], h, _ => by cases h
  | v :: vs, h, e => by
    unfold restM at e
    by_cases hv : v = j
    · subst hv
      by_cases hl : v < (restM μ ν vs).length
      · rw [List.getElem?_set_self hl] at e
        exact join_some (Option.some.inj e)
      · rw [List.getElem?_eq_none (by rw [List.length_set]; omega)] at e
        cases e
    · rw [List.getElem?_set_ne hv] at e
      exact restM_in ((List.mem_cons.mp h).elim (fun z => absurd z.symm hv) id) e
section
variable {X : Cx} {A : Act}
def disj (vs O : List Nat) : Bool := vs.all fun v => !O.contains v
theorem disj_out {vs O : List Nat} (h : disj vs O = true) {i : Nat} (hi : i ∈ O) : i ∉ vs := fun z => by
  have := List.all_eq_true.mp h i z
  rw [show O.contains i = true by simpa using hi] at this
  cases this
theorem own_wipe {σ τ : L2.St} {vs : List Nat} (d : disj vs A.O = true) (e : wipe σ vs = wipe τ vs) {a : Addr} : Own A σ a → Own A τ a := fun ⟨i, h1, h2⟩ => ⟨i, h1, by rw [← wipe_agree e (disj_out d h1)]; exact h2⟩
theorem Step.slots {σ τ : L2.St} {vs : List Nat} {G H G' H' : Hp} (d : disj vs A.O = true) (e : wipe σ vs = wipe τ vs) (s : Step A σ G H G' H') : Step A τ G H G' H' :=
  ⟨s.g, fun a o h n => s.h a o h fun z => n (own_wipe d e z), s.fr, s.lv⟩
theorem wipe_wipe (σ : L2.St) (vs : List Nat) : wipe (wipe σ vs) vs = wipe σ vs := wipe_ext (fun j h => by rw [wipe_at, if_neg h]) (wipe_length _ _)
theorem Rl.wipe {G H : Hp} {μ : Mu} {σ : L2.St} (R : Rl A G μ σ H) {vs : List Nat} (d : disj vs A.O = true) : Rl A G (wipeM μ vs) (L2.wipe σ vs) H := by
  refine ⟨by rw [wipe_length, wipeM_len]; exact R.len, R.ext, R.up, R.fr, R.lv, R.fg, fun j e hj n => ?_, fun j e hj n => ?_, fun j a n e => ?_, fun j k p n1 n2 e1 e2 => ?_, fun j n => ?_⟩
  · rw [wipeM_at] at hj
    split at hj
    · cases q : μ[j]? with
      | none => rw [q] at hj; cases hj
      | some o => rw [q] at hj; cases hj
    · rename_i hn
      rw [wipe_at, if_neg hn]
      exact R.val j e hj n
  · rw [wipeM_at, if_neg (disj_out d n)] at hj
    rw [wipe_at, if_neg (disj_out d n)]
    exact R.own j e hj n
  · rw [wipe_at, if_neg (disj_out d n)] at e
    exact R.liv j a n e
  · rw [wipe_at, if_neg (disj_out d n1)] at e1
    rw [wipe_at, if_neg (disj_out d n2)] at e2
    exact R.sep j k p n1 n2 e1 e2
  · obtain ⟨a, b, c⟩ := R.par j n
    exact ⟨a, by rw [wipe_at, if_neg (disj_out d a)]; exact b, c⟩
theorem Rl.unwipe {G H G1 H1 : Hp} {μ ν : Mu} {σ : L2.St} {vs : List Nat} (R : Rl A G μ σ H) (d : disj vs A.O = true) (g : Same G G1) (R1 : Rl A G1 ν (L2.wipe σ vs) H1) : Rl A G1 (restM μ ν vs) σ H1 := by
  have at' : ∀ {j}, j ∈ A.O → σ[j]? = (L2.wipe σ vs)[j]? := fun hj => by rw [wipe_at, if_neg (disj_out d hj)]
  refine ⟨by rw [restM_len, ← R1.len, wipe_length], R1.ext, R1.up, R1.fr, R1.lv, R1.fg, fun j e hj n => ?_, fun j e hj n => ?_, fun j a n e => ?_, fun j k p n1 n2 e1 e2 => ?_, fun j n => ?_⟩
  · by_cases h : j ∈ vs
    · obtain ⟨v, q, r⟩ := R.val j e (restM_in h hj) n
      exact ⟨v, q, dq_mono g r⟩
    · rw [restM_out h] at hj
      obtain ⟨v, q, r⟩ := R1.val j e hj n
      rw [wipe_at, if_neg h] at q
      exact ⟨v, q, r⟩
  · rw [restM_out (disj_out d n)] at hj
    rw [at' n]
    exact R1.own j e hj n
  · exact R1.liv j a n (by rw [← at' n]; exact e)
  · exact R1.sep j k p n1 n2 (by rw [← at' n1]; exact e1) (by rw [← at' n2]; exact e2)
  · obtain ⟨a, b, c⟩ := R1.par j n
    exact ⟨a, by rw [at' a]; exact b, c⟩
/-! ### targets -/
def tG (A : Act) (r : Hp → V → PyData → Prop) (tg : PyData → Mu → Option Mu) (sl : List Nat) : TG := fun v σ H Q => ∃ G μ d μ', Rl A G μ σ H ∧ r G v d ∧ tg d μ = some μ' ∧ ∀ σ', Rl A G μ' σ' H → (∀ vs, (∀ j, j ∈ sl → j ∈ vs) → wipe σ' vs = wipe σ vs) → Q σ' H
def tGs (A : Act) (tg : List PyData → Mu → Option Mu) (sl : List Nat) : TGs := fun xs σ H Q => ∃ G μ d μ', Rl A G μ σ H ∧ DqAll G xs d ∧ tg d μ = some μ' ∧ ∀ σ', Rl A G μ' σ' H → (∀ vs, (∀ j, j ∈ sl → j ∈ vs) → wipe σ' vs = wipe σ vs) → Q σ' H
def Dw (G : Hp) (v : V) (d : PyData) : Prop := Dq G v d ∨ ∃ p vs ds, v = .ref p ∧ d = .tuple ds ∧ Rd G p (.tup vs) ∧ DqAll G vs ds
theorem Dw.tup {G : Hp} {v : V} {ds : List PyData} (h : Dw G v (.tuple ds)) : ∃ p vs, v = .ref p ∧ Rd G p (.tup vs) ∧ DqAll G vs ds := by
  rcases h with h | ⟨p, vs, es, e1, e2, e3, e4⟩
  · cases h with
    | tup h1 h0 h2 => exact ⟨_, _, rfl, .inr ⟨_, h1⟩, h2⟩
  · cases e2
    exact ⟨p, vs, e1, e3, e4⟩
def gN (i : Nat) : PyData → Mu → Option Mu := fun d μ => some (μ.set i (some d))
def gT (n : Nat) (f : List PyData → Mu → Option Mu) : PyData → Mu → Option Mu := fun d μ => match d with
  | .tuple ds => if ds.length = n then f ds μ else none
  | _ => none
def gsN : List PyData → Mu → Option Mu := fun ds μ => match ds with | [] => some μ | _ => none
def gsC (f : PyData → Mu → Option Mu) (r : List PyData → Mu → Option Mu) : List PyData → Mu → Option Mu := fun ds μ => match ds with | d :: ds => (f d μ).bind fun μ' => r ds μ' | [] => none
theorem pg_to {e : Expr} {t t' : TG} (h : PG X e t) (k : ∀ v σ H Q, t' v σ H Q → t v σ H Q) : PG X e t' := ⟨fun pins s σ H v u Q I r w => h.run pins s σ H v u Q I r (k v σ H Q w)⟩
theorem pgs_to {e : List Expr} {t t' : TGs} (h : PGs X e t) (k : ∀ v σ H Q, t' v σ H Q → t v σ H Q) : PGs X e t' := ⟨fun pins s σ H v u Q I r w => h.run pins s σ H v u Q I r (k v σ H Q w)⟩
theorem qg_name {x : Str} {pos : Pos} (i : Nat) (hN : X.N.Nodup) (hO : A.O.contains i = false := by rfl) (hi : X.N[i]? = some x := by rfl) (hx : Loc X.env.scope x := by first | exact .inl rfl | exact .inr rfl) (hf : X.fn x = true ∨ X.env.scope.names.lookup x = some .local := by first | exact .inl rfl | exact .inr rfl) :
    PG X (.Name x pos) (tG A Dq (gN i) [i]) := pg_to (pg_name hN hi hx hf) fun v σ H Q ⟨G, μ, d, μ', R, h, e, k⟩ => by
  cases e
  refine k _ (R.set (notO hO) h) fun vs hv => wipe_ext (fun j hj => ?_) (by rw [List.length_set])
  rw [List.getElem?_set_ne (fun z => hj (by rw [← z]; exact hv i (by simp)))]
theorem qgs_nil : PGs X [] (tGs A gsN []) := pgs_to pgs_nil fun v σ H Q ⟨G, μ, d, μ', R, h, e, k⟩ => by
  unfold gsN at e
  split at e
  · cases e
    cases h
    exact ⟨rfl, k σ R fun _ _ => rfl⟩
  · cases e
theorem qgs_cons {a : Expr} {es : List Expr} {f : PyData → Mu → Option Mu} {r : List PyData → Mu → Option Mu} {s1 s2 : List Nat} (h : PG X a (tG A Dq f s1)) (h2 : PGs X es (tGs A r s2))
    (hs : (assignEach (a :: es) X.env).map (·.2) = assign a X.env :: (assignEach es X.env).map (·.2) := by rfl) : PGs X (a :: es) (tGs A (gsC f r) (s1 ++ s2)) := pgs_to (pgs_cons h h2 hs) fun v σ H Q ⟨G, μ, d, μ', R, hd, e, k⟩ => by
  unfold gsC at e
  split at e
  · rename_i d1 ds
    obtain ⟨μ1, e1, e2⟩ := bind2 e
    cases hd with
    | cons hd1 hd2 =>
      refine ⟨_, _, rfl, G, μ, d1, μ1, R, hd1, e1, fun σ1 R1 w1 => ⟨G, μ1, ds, μ', R1, hd2, e2, fun σ2 R2 w2 => k σ2 R2 fun vs hv => ?_⟩⟩
      exact (w2 vs fun j hj => hv j (List.mem_append_right _ hj)).trans (w1 vs fun j hj => hv j (List.mem_append_left _ hj))
  · cases e
theorem qg_tup {es : List Expr} {k : Nat} {pos : Pos} {f : List PyData → Mu → Option Mu} {sl : List Nat} {n : Nat} (h : PGs X es (tGs A f sl)) (hc : X.calm = true := by rfl)
    (hn : (assignEach es X.env).length = n := by rfl) (hst : (assignEach es X.env).findIdx? (·.1) = none := by rfl) : PG X (.Tuple es k pos) (tG A Dw (gT n f) sl) := pg_to (pg_tup hc h hn hst) fun v σ H Q ⟨G, μ, d, μ', R, hd, e, k⟩ => by
  unfold gT at e
  split at e
  · rename_i ds
    split at e
    · rename_i hl
      obtain ⟨p, vs, ev, h1, h2⟩ := hd.tup
      exact ⟨_, _, ev, .inl (rd_mono R.ext h1), by rw [dqa_len h2]; exact hl, G, μ, ds, μ', R, h2, e, k⟩
    · cases e
  · cases e
theorem qg_w {e : Expr} {f : PyData → Mu → Option Mu} {sl : List Nat} (h : PG X e (tG A Dw f sl)) : PG X e (tG A Dq f sl) := pg_to h fun v σ H Q ⟨G, μ, d, μ', R, hd, e, k⟩ => ⟨G, μ, d, μ', R, .inl hd, e, k⟩
def sAsgT (tg : PyData → Mu → Option Mu) (m : ME) : MS := fun μ => (m μ).bind fun p => (asD p.1).bind fun d => (tg d p.2).map .nx
theorem qs_asgT {tgt e : Expr} {pos : Pos} {m : ME} {f : PyData → Mu → Option Mu} {sl : List Nat} (he : PE X e (tE A m)) (hg : PG X tgt (tG A Dq f sl)) (hs : swapsWithSole [tgt] e pos.line X.env = pure false := by rfl) (hw : swappedStores [tgt] e X.env = pure none := by rfl)
    (h1 : (assignEach [tgt] X.env).map (·.2) = [assign tgt X.env] := by rfl) : PS X (.Assign [tgt] e pos) (tS A (sAsgT f m)) := ps_to (ps_asg he hg hs hw h1) fun D σ H ⟨G, μ, o, R, e, k⟩ => by
  obtain ⟨p, e1, e⟩ := bind2 e
  obtain ⟨d, e2, e⟩ := bind2 e
  obtain ⟨m2, e3, e⟩ := map2 e
  cases e
  refine ⟨G, μ, p.1, p.2, R, e1, fun G1 H1 v s1 R1 q1 n1 => ?_⟩
  rw [asD_some e2] at q1
  exact ⟨G1, p.2, d, m2, R1, q1, e3, fun σ' R' _ => k σ' G1 H1 s1.g R'⟩
/-! ### what is walked -/
structure IterOk (r : Hp → V → PyData → Prop) (J : It) (G0 : Hp) (ds : List PyData) : Prop where
  go : ∀ G H i d, Same G0 G → Same G H → ds[i]? = some d → J.go i H ∧ ∀ x H', J.yld i H x H' → ∃ G', Grow G H G' H' ∧ r G' x d
  stop : ∀ G H, Same G0 G → Same G H → J.stop ds.length H
abbrev MI := Mu → Option (List PyData × Mu)
def tI (A : Act) (r : Hp → V → PyData → Prop) (mi : MI) : TI := fun σ H R => ∃ G μ ds μ', Rl A G μ σ H ∧ mi μ = some (ds, μ') ∧ ∀ G' H' J, Step A σ G H G' H' → Rl A G' μ' σ H' → IterOk r J G' ds → R J H'
theorem pi_to {tg e : Expr} {t t' : TI} (h : PI X tg e t) (k : ∀ σ H Q, t' σ H Q → t σ H Q) : PI X tg e t' := ⟨fun pins s σ H Q I w => h.run pins s σ H Q I (k σ H Q w)⟩
theorem iter_list {K : PySem.W.Frag} {G0 : Hp} {a : Addr} {vs : List V} {ds : List PyData} (h : Rd G0 a (.lst vs)) (hd : DqAll G0 vs ds) : IterOk Dq (Itl K a) G0 ds := by
  refine ⟨fun G H i d e1 e2 hi => ?_, fun G H e1 e2 => ⟨vs, .inl (rd_mono (e1.trans e2) h), by rw [dqa_len hd]; exact Nat.le_refl _⟩⟩
  obtain ⟨v, hv, hq⟩ := dqa_get hd hi
  refine ⟨⟨vs, v, .inl (rd_mono (e1.trans e2) h), hv⟩, fun x H' ⟨eh, y⟩ => ?_⟩
  subst eh
  have := y vs (.inl (rd_mono (e1.trans e2) h))
  rw [hv] at this
  cases this
  exact ⟨G, .refl e2, dq_mono e1 hq⟩
theorem iter_tup {K : PySem.W.Frag} {G0 : Hp} {a : Addr} {vs : List V} {ds : List PyData} (h : Rd G0 a (.tup vs)) (hd : DqAll G0 vs ds) : IterOk Dq (Itt K a) G0 ds := by
  refine ⟨fun G H i d e1 e2 hi => ?_, fun G H e1 e2 => ⟨vs, .inl (rd_mono (e1.trans e2) h), by rw [dqa_len hd]; exact Nat.le_refl _⟩⟩
  obtain ⟨v, hv, hq⟩ := dqa_get hd hi
  refine ⟨⟨vs, v, .inl (rd_mono (e1.trans e2) h), hv⟩, fun x H' ⟨eh, y⟩ => ?_⟩
  subst eh
  have := y vs (.inl (rd_mono (e1.trans e2) h))
  rw [hv] at this
  cases this
  exact ⟨G, .refl e2, dq_mono e1 hq⟩
def itD : PyData → Option (List PyData) | .list ds => some ds | .tuple ds => some ds | _ => none
/-- over a list or a tuple that stands still -/
def mIt (m : ME) : MI := fun μ => (m μ).bind fun p => (asD p.1).bind fun d => (itD d).map fun ds => (ds, p.2)
def listD : PyData → Option (List PyData) | .list ds => some ds | _ => none
def tupD : PyData → Option (List PyData) | .tuple ds => some ds | _ => none
def mItL (m : ME) : MI := fun μ => (m μ).bind fun p => (asD p.1).bind fun d => (listD d).map fun ds => (ds, p.2)
def mItT (m : ME) : MI := fun μ => (m μ).bind fun p => (asD p.1).bind fun d => (tupD d).map fun ds => (ds, p.2)
theorem qi_list {tg l : Expr} {m : ME} (h : PE X l (tE A m)) : PI X tg l (tI A Dq (mItL m)) := pi_to (pi_list h) fun σ H Q ⟨G, μ, ds, μ', R, e, k⟩ => by
  obtain ⟨p, e1, e⟩ := bind2 e
  obtain ⟨d, e2, e⟩ := bind2 e
  obtain ⟨es, e3, e⟩ := map2 e
  cases e
  refine ⟨G, μ, p.1, p.2, R, e1, fun G1 H1 v s1 R1 q1 n1 => ?_⟩
  rw [asD_some e2] at q1
  unfold listD at e3
  split at e3
  · cases e3
    cases q1 with
    | lst h1 h2 => exact ⟨_, rfl, ⟨_, .inl (rd_mono R1.ext h1)⟩, k G1 H1 _ s1 R1 (iter_list h1 h2)⟩
  · cases e3
theorem qi_tup {tg l : Expr} {m : ME} (h : PE X l (tE A m)) : PI X tg l (tI A Dq (mItT m)) := pi_to (pi_tup h) fun σ H Q ⟨G, μ, ds, μ', R, e, k⟩ => by
  obtain ⟨p, e1, e⟩ := bind2 e
  obtain ⟨d, e2, e⟩ := bind2 e
  obtain ⟨es, e3, e⟩ := map2 e
  cases e
  refine ⟨G, μ, p.1, p.2, R, e1, fun G1 H1 v s1 R1 q1 n1 => ?_⟩
  rw [asD_some e2] at q1
  unfold tupD at e3
  split at e3
  · cases e3
    cases q1 with
    | tup h1 h0 h2 => exact ⟨_, rfl, ⟨_, .inl (.inr ⟨_, R1.ext _ _ h1⟩)⟩, k G1 H1 _ s1 R1 (iter_tup (.inr ⟨_, h1⟩) h2)⟩
  · cases e3
theorem PI.or {tg l : Expr} {w1 w2 : TI} (h1 : PI X tg l w1) (h2 : PI X tg l w2) : PI X tg l (fun σ H R => w1 σ H R ∨ w2 σ H R) := ⟨fun pins s σ H R I h => h.elim (h1.run pins s σ H R I) (h2.run pins s σ H R I)⟩
theorem qi_any {tg l : Expr} {m : ME} (h : PE X l (tE A m)) : PI X tg l (tI A Dq (mIt m)) := pi_to (PI.or (qi_list h) (qi_tup h)) fun σ H Q ⟨G, μ, ds, μ', R, e, k⟩ => by
  obtain ⟨p, e1, e⟩ := bind2 e
  obtain ⟨d, e2, e⟩ := bind2 e
  obtain ⟨es, e3, e⟩ := map2 e
  cases e
  unfold itD at e3
  split at e3
  · cases e3
    exact .inl ⟨G, μ, ds, p.2, R, by unfold mItL; rw [e1]; show (asD p.1).bind _ = _; rw [e2]; rfl, k⟩
  · cases e3
    exact .inr ⟨G, μ, ds, p.2, R, by unfold mItT; rw [e1]; show (asD p.1).bind _ = _; rw [e2]; rfl, k⟩
  · cases e3
theorem iter_rg {G0 : Hp} {a b : Int} : IterOk Dq (Itr a (b - a).toNat) G0 (rgD a b) := by
  have hl : (rgD a b).length = (b - a).toNat := by unfold rgD; rw [List.length_map, List.length_range]
  refine ⟨fun G H i d e1 e2 hi => ?_, fun G H e1 e2 => by show _ ≤ _; rw [hl]; exact Nat.le_refl _⟩
  have hlt : i < (b - a).toNat := by rw [← hl]; exact (List.getElem?_eq_some_iff.mp hi).1
  refine ⟨hlt, fun x H' ⟨eh, y⟩ => ?_⟩
  subst eh
  subst y
  unfold rgD at hi
  rw [List.getElem?_map, List.getElem?_range hlt] at hi
  cases hi
  exact ⟨G, .refl e2, .int _⟩
def mIR1 (m : MA) : MI := fun μ => (m μ).bind fun p => (derefs p.2 p.1).bind fun es => match es with | [.int n] => if rgB 0 n = true then some (rgD 0 n, p.2) else none | _ => none
def mIR2 (m : MA) : MI := fun μ => (m μ).bind fun p => (derefs p.2 p.1).bind fun es => match es with | [.int a, .int n] => if rgB a n = true then some (rgD a n, p.2) else none | _ => none
theorem qi_range1 {tg a : Expr} {p pos : Pos} {m : MA} (hg : Gl X "range") (hm : X.mg "range" = none) (ha : PA X [a] (tMA A m)) (hs : starEach [a] X.env = [(false, eval a X.env)] := by rfl) : PI X tg (.Call (.Name "range" p) [a] [] pos) (tI A Dq (mIR1 m)) :=
  pi_to (pi_range1 hg hm ha hs) fun σ H Q ⟨G, μ, ds, μ', R, e, k⟩ => by
    obtain ⟨p, e1, e⟩ := bind2 e
    obtain ⟨d, e2, e⟩ := bind2 e
    split at e
    · rename_i n
      split at e
      · rename_i hb
        cases e
        refine ⟨G, μ, p.1, p.2, R, e1, fun G1 H1 v s1 R1 q1 => ?_⟩
        obtain ⟨w, rfl, h1⟩ := db1 (derefs_ok R1 q1 e2)
        have rb := rgB_ok hb
        refine ⟨n, by rw [h1.i], rb.2.2.1, rb.2.2.2.1, ?_⟩
        have := iter_rg (G0 := G1) (a := 0) (b := n)
        rw [Int.sub_zero] at this
        exact k G1 H1 _ s1 R1 this
      · cases e
    · cases e
theorem qi_range2 {tg a b : Expr} {p pos : Pos} {m : MA} (hg : Gl X "range") (hm : X.mg "range" = none) (ha : PA X [a, b] (tMA A m)) (hs : starEach [a, b] X.env = [(false, eval a X.env), (false, eval b X.env)] := by rfl) (hs2 : starEach [b] X.env = [(false, eval b X.env)] := by rfl) : PI X tg (.Call (.Name "range" p) [a, b] [] pos) (tI A Dq (mIR2 m)) :=
  pi_to (pi_range2 hg hm ha hs hs2) fun σ H Q ⟨G, μ, ds, μ', R, e, k⟩ => by
    obtain ⟨p, e1, e⟩ := bind2 e
    obtain ⟨d, e2, e⟩ := bind2 e
    split at e
    · rename_i i n
      split at e
      · rename_i hb
        cases e
        refine ⟨G, μ, p.1, p.2, R, e1, fun G1 H1 v s1 R1 q1 => ?_⟩
        obtain ⟨w, w2, rfl, h1, h2⟩ := db2 (derefs_ok R1 q1 e2)
        have rb := rgB_ok hb
        exact ⟨i, n, by rw [h1.i, h2.i], ⟨rb.1, rb.2.1, rb.2.2.1, rb.2.2.2.1⟩, k G1 H1 _ s1 R1 iter_rg⟩
      · cases e
    · cases e
/-! ### for -/
def loopM (tg : PyData → Mu → Option Mu) (b : MS) : List PyData → Mu → Option Out
  | [], μ => some (.nx μ)
  | d :: ds, μ => (tg d μ).bind fun μ1 => (b μ1).bind fun o => match o with
    | .nx μ2 => loopM tg b ds μ2
    | .ct μ2 => loopM tg b ds μ2
    | .bk μ2 => some (.nx μ2)
    | .rt x μ2 => some (.rt x μ2)
def sFor (mi : MI) (tg : PyData → Mu → Option Mu) (b : MS) : MS := fun μ => (mi μ).bind fun p => loopM tg b p.1 p.2
theorem qs_for {r : Hp → V → PyData → Prop} {tg iter : Expr} {body : List Stmt} {pos : Pos} {mi : MI} {f : PyData → Mu → Option Mu} {sl : List Nat} {b : MS} (hi : PI X tg iter (tI A r mi)) (hg : PG X tg (tG A r f sl)) (hb : PSs X body (tS A b)) (hp : PassesOwn (model X.prog X.w) X.A X.env X.xe := by exact PassesOwn.never) (hc : X.calm = true := by rfl)
    (hs : ∀ x, foldedSetIterable iter X.env x = pure x := by intro _; rfl) : PS X (.For tg iter body [] pos) (tS A (sFor mi f b)) := ps_to (ps_for hp hc hi hg hb hs) fun D σ H ⟨G, μ, o, R, e, k⟩ => by
  obtain ⟨⟨ds, μ1⟩, e1, e⟩ := bind2 e
  refine ⟨G, μ, ds, μ1, R, e1, fun G1 H1 J s1 R1 it => ?_⟩
  have k := k.mono s1.g
  refine ⟨fun i m σ H => i ≤ ds.length ∧ m = ds.length - i ∧ ∃ G μ o, Same G1 G ∧ Rl A G μ σ H ∧ loopM f b (ds.drop i) μ = some o ∧ Sat A D G o, ⟨_, Nat.zero_le _, rfl, G1, μ1, o, .refl _, R1, e, k⟩, ?_⟩
  rintro i m σ2 H2 ⟨hi, rfl, G2, μ2, o2, g2, R2, e2, k2⟩
  by_cases hlt : i < ds.length
  · right
    obtain ⟨go, y⟩ := it.go G2 H2 i ds[i] g2 R2.ext (List.getElem?_eq_getElem hlt)
    refine ⟨go, fun σ' H' => i + 1 ≤ ds.length ∧ ∃ G μ o, Same G1 G ∧ Rl A G μ σ' H' ∧ loopM f b (ds.drop (i + 1)) μ = some o ∧ Sat A D G o, fun σ' H' ⟨h1, h2⟩ => ⟨_, by omega, h1, rfl, h2⟩, fun x H' hy => ?_⟩
    obtain ⟨G3, g3, hx⟩ := y x H' hy
    rw [List.drop_eq_getElem_cons hlt] at e2
    obtain ⟨μ3, e3, e4⟩ := bind2 e2
    refine ⟨G3, μ2, _, μ3, R2.grow g3, hx, e3, fun σ3 R3 _ => ?_⟩
    obtain ⟨o4, e5, e6⟩ := bind2 e4
    refine ⟨G3, μ3, o4, R3, e5, ?_⟩
    have k3 := k2.mono g3.g
    cases o4 with
    | nx μ4 => exact fun σ' G' H' s' R' => ⟨hlt, G', μ4, o2, (g2.trans g3.g).trans s', R', e6, k3.mono s'⟩
    | ct μ4 => exact fun σ' G' H' s' R' => ⟨hlt, G', μ4, o2, (g2.trans g3.g).trans s', R', e6, k3.mono s'⟩
    | bk μ4 => cases e6; exact k3
    | rt x μ4 => cases e6; exact k3
  · left
    have hi' : i = ds.length := by omega
    subst hi'
    refine ⟨it.stop G2 H2 g2 R2.ext, ?_⟩
    rw [List.drop_length] at e2
    cases e2
    exact k2 σ2 G2 H2 (.refl _) R2
/-! ### while -/
def whileN (c : MT) (b : MS) : Nat → Mu → Option Out
  | 0, _ => none
  | n + 1, μ => (c μ).bind fun p => if p.1 = true then (b p.2).bind fun o => match o with
    | .nx μ2 => whileN c b n μ2
    | .ct μ2 => whileN c b n μ2
    | .bk μ2 => some (.nx μ2)
    | .rt x μ2 => some (.rt x μ2) else some (.nx p.2)
open Classical in
noncomputable def sWhile (c : MT) (b : MS) : MS := fun μ => if h : ∃ o, ∃ n, whileN c b n μ = some o then some h.choose else none
theorem whileN_more {c : MT} {b : MS} : ∀ {n m : Nat} {μ : Mu} {o : Out}, whileN c b n μ = some o → n ≤ m → whileN c b m μ = some o
  | 0, _, _, _, h, _ => by cases h
  | n + 1, 0, _, _, _, hm => by omega
  | n + 1, m + 1, μ, o, h, hm => by
    unfold whileN at h ⊢
    obtain ⟨p, e1, e2⟩ := bind2 h
    rw [e1]
    show (if p.1 = true then _ else _) = _
    split
    · rename_i hp
      rw [if_pos hp] at e2
      obtain ⟨o1, e3, e4⟩ := bind2 e2
      rw [e3]
      cases o1 with
      | nx μ2 => exact whileN_more e4 (by omega)
      | ct μ2 => exact whileN_more e4 (by omega)
      | bk μ2 => exact e4
      | rt x μ2 => exact e4
    · rename_i hp
      rw [if_neg hp] at e2
      exact e2
theorem sWhile_of {c : MT} {b : MS} {n : Nat} {μ : Mu} {o : Out} (h : whileN c b n μ = some o) : sWhile c b μ = some o := by
  have hex : ∃ o, ∃ n, whileN c b n μ = some o := ⟨o, n, h⟩
  unfold sWhile
  rw [dif_pos hex]
  obtain ⟨m, hm⟩ := hex.choose_spec
  have h1 := whileN_more h (Nat.le_max_left n m)
  have h2 := whileN_more hm (Nat.le_max_right n m)
  exact h2.symm.trans h1
theorem sWhile_to {c : MT} {b : MS} {μ : Mu} {o : Out} (h : sWhile c b μ = some o) : ∃ n, whileN c b n μ = some o := by
  unfold sWhile at h
  split at h
  · rename_i hex
    cases h
    exact hex.choose_spec
  · cases h
theorem qs_while {c : Expr} {body : List Stmt} {pos : Pos} {mc : MT} {b : MS} (h1 : PT X c (tMT A mc)) (hb : PSs X body (tS A b)) (hp : PassesOwn (model X.prog X.w) X.A X.env X.xe := by exact PassesOwn.never) : PS X (.While c body [] pos) (tS A (sWhile mc b)) := ps_to (ps_while hp h1 hb) fun D σ H ⟨G, μ, o, R, e, k⟩ => by
  obtain ⟨n, e⟩ := sWhile_to e
  refine ⟨fun m σ H => ∃ G μ o, Rl A G μ σ H ∧ whileN mc b m μ = some o ∧ Sat A D G o, ⟨n, G, μ, o, R, e, k⟩, ?_⟩
  rintro m σ2 H2 ⟨G2, μ2, o2, R2, e2, k2⟩
  match m, e2 with
  | m + 1, e2 =>
    obtain ⟨⟨p1, p2⟩, e3, e4⟩ := bind2 e2
    refine ⟨G2, μ2, p1, p2, R2, e3, fun G3 H3 s3 R3 => ?_⟩
    have k3 := k2.mono s3.g
    cases p1 with
    | true =>
      rw [if_pos rfl] at e4
      obtain ⟨o5, e5, e6⟩ := bind2 e4
      refine iteT ⟨fun σ' H' => ∃ G μ o, Rl A G μ σ' H' ∧ whileN mc b m μ = some o ∧ Sat A D G o, fun σ' H' h => ⟨m, by omega, h⟩, G3, p2, o5, R3, e5, ?_⟩
      cases o5 with
      | nx μ4 => exact fun σ' G' H' s' R' => ⟨G', μ4, o2, R', e6, k3.mono s'⟩
      | ct μ4 => exact fun σ' G' H' s' R' => ⟨G', μ4, o2, R', e6, k3.mono s'⟩
      | bk μ4 => cases e6; exact k3
      | rt x μ4 => cases e6; exact k3
    | false =>
      rw [if_neg Bool.false_ne_true] at e4
      cases e4
      exact iteF (k3 σ2 G3 H3 (.refl _) R3)
/-! ### comprehensions -/
def lcM (tg : PyData → Mu → Option Mu) (tt : MT) (te : ME) (vs : List Nat) : List PyData → Mu → List PyData → Option (List PyData × Mu)
  | [], μ, acc => some (acc, μ)
  | d :: ds, μ, acc => (tg d μ).bind fun μ1 => (tt μ1).bind fun p => if p.1 = true then (te p.2).bind fun q => (asD q.1).bind fun y => if acc.length < 100000 then lcM tg tt te vs ds (wipeM q.2 vs) (acc ++ [y]) else none
    else lcM tg tt te vs ds (wipeM p.2 vs) acc
def mLc (mi : MI) (tg : PyData → Mu → Option Mu) (tt : MT) (te : ME) (vs : List Nat) : ME := fun μ => (mi μ).bind fun p => (lcM tg tt te vs p.1 (wipeM p.2 vs) []).map fun q => (.fre q.1, restM p.2 q.2 vs)
def mYes : MT := fun μ => some (true, μ)
theorem pts_to {ifs : List Expr} {t t' : TT} (h : PTs X ifs t) (k : ∀ σ H Q, t' σ H Q → t σ H Q) : PTs X ifs t' := ⟨fun pins s σ H Q I w => h.run pins s σ H Q I (k σ H Q w)⟩
theorem qts_nil : PTs X [] (tMT A mYes) := pts_to pts_nil fun σ H Q ⟨G, μ, b, μ', R, e, k⟩ => by
  cases e
  exact k G H .refl R
theorem qts_one {c : Expr} {m : MT} (h : PT X c (tMT A m)) : PTs X [c] (tMT A m) := pts_one h
theorem lc_read {r : Hp → V → PyData → Prop} {mi : MI} {f : PyData → Mu → Option Mu} {sl vs : List Nat} {tt : MT} {te : ME} (hd : disj vs A.O = true) (hsl : ∀ j, j ∈ sl → j ∈ vs) {σ : L2.St} {H : Hp} {Q : VK} (w : tE A (mLc mi f tt te vs) σ H Q) : tLc (tI A r mi) (tG A r f sl) (tMT A tt) (tE A te) vs σ H Q := by
  obtain ⟨G, μ, z, μ', R, e, k⟩ := w
  obtain ⟨⟨ds, μ1⟩, e1, e⟩ := bind2 e
  obtain ⟨⟨res, μe⟩, e2, e⟩ := map2 e
  cases e
  refine ⟨G, μ, ds, μ1, R, e1, fun G1 H1 J s1 R1 it D hD => ?_⟩
  have hD0 : H D = none := by
    cases q : H D with
    | none => rfl
    | some o => exact absurd hD (s1.lv D (by rw [q]; exact fun z => nomatch z))
  have hAD : A.H D = none := by
    cases q : A.H D with
    | none => rfl
    | some o => exact absurd hD (R1.lv D (by rw [q]; exact fun z => nomatch z))
  have hoD : ¬ Own A σ D := fun ⟨i, hi, hs⟩ => R1.liv i D hi hs hD
  have gD : G1 D = none := R1.ext.free hD
  have g0 := Grow.free (o := .lst []) R1.ext hD
  have R0 : Rl A G1 (wipeM μ1 vs) (wipe σ vs) (upd H1 D (.lst [])) := (R1.grow g0).wipe hd
  refine ⟨fun i m H' => i ≤ ds.length ∧ m = ds.length - i ∧ ∃ G' μi acc av, Step A σ G1 H1 G' H' ∧ Rl A G' μi (wipe σ vs) H' ∧ H' D = some (.lst av) ∧ DqAll G' av acc ∧ G' D = none ∧ lcM f tt te vs (ds.drop i) μi acc = some (res, μe),
    ⟨_, Nat.zero_le _, rfl, G1, _, [], [], g0.step, R0, upd_same, .nil, gD, e2⟩, ?_⟩
  rintro i m H2 ⟨hi, rfl, G2, μ2, acc, av, s2, R2, h2, a2, d2, e3⟩
  by_cases hlt : i < ds.length
  · right
    obtain ⟨go, y⟩ := it.go G2 H2 i ds[i] s2.g R2.ext (List.getElem?_eq_getElem hlt)
    refine ⟨go, fun H' => i + 1 ≤ ds.length ∧ ∃ G' μi acc av, Step A σ G1 H1 G' H' ∧ Rl A G' μi (wipe σ vs) H' ∧ H' D = some (.lst av) ∧ DqAll G' av acc ∧ G' D = none ∧ lcM f tt te vs (ds.drop (i + 1)) μi acc = some (res, μe), fun H' ⟨p1, p2⟩ => ⟨_, by omega, p1, rfl, p2⟩, fun x H' hy => ?_⟩
    obtain ⟨G3, g3, hx⟩ := y x H' hy
    rw [List.drop_eq_getElem_cons hlt] at e3
    obtain ⟨μ3, e4, e5⟩ := bind2 e3
    refine ⟨G3, μ2, _, μ3, R2.grow g3, hx, e4, fun σ3 R3 w3 => ?_⟩
    have ws : wipe σ3 vs = wipe σ vs := (w3 vs hsl).trans (wipe_wipe σ vs)
    have hoD3 : ¬ Own A σ3 D := fun z => hoD (own_wipe hd ws z)
    have hl2 : H2 D ≠ none := by rw [h2]; exact fun z => nomatch z
    obtain ⟨⟨b, μ4⟩, e6, e7⟩ := bind2 e5
    refine ⟨ws, G3, μ3, b, μ4, R3, e6, fun G4 H4 s4 R4 => ?_⟩
    have h4 : H4 D = some (.lst av) := s4.h _ _ (g3.h _ _ h2) hoD3
    have d4 : G4 D = none := s4.fr D (same_live g3.h hl2) (g3.fr D hl2 d2)
    have st4 : Step A σ G1 H1 G4 H4 := (s2.trans g3.step).trans (s4.slots hd ws)
    cases b with
    | true =>
      rw [if_pos rfl] at e7
      obtain ⟨⟨q1, μ5⟩, e8, e9⟩ := bind2 e7
      obtain ⟨yd, e10, e11⟩ := bind2 e9
      split at e11
      · rename_i hz
        refine iteT ⟨G4, μ4, q1, μ5, R4, e8, fun G5 H5 v s5 R5 q5 n5 => ?_⟩
        have q5 : RelMV A G5 σ3 H5 v (.dat yd) := by rw [← asD_some e10]; exact q5
        have h5 : H5 D = some (.lst av) := s5.h _ _ h4 hoD3
        have hl4 : H4 D ≠ none := by rw [h4]; exact fun z => nomatch z
        have d5 : G5 D = none := s5.fr D hl4 d4
        have a5 : DqAll G5 (av ++ [v]) (acc ++ [yd]) := dqa_app (dqa_mono ((g3.g.trans s4.g).trans s5.g) a2) (.cons q5 .nil)
        refine ⟨av, h5, by rw [dqa_len a2]; exact Nat.lt_of_lt_of_le hz (by decide), hlt, G5, wipeM μ5 vs, acc ++ [yd], av ++ [v], ?_, ?_, upd_same, a5, d5, e11⟩
        · have st5 : Step A σ G1 H1 G5 H5 := st4.trans (s5.slots hd ws)
          refine ⟨st5.g, fun a o h n => ?_, st5.fr, fun a h => ?_⟩
          · have : a ≠ D := fun z => by rw [z, hD] at h; cases h
            rw [upd_ne this]; exact st5.h a o h n
          · by_cases z : a = D
            · rw [z, upd_same]; exact fun z => nomatch z
            · rw [upd_ne z]; exact st5.lv a h
        · have R6 := R5.wipe hd
          rw [ws] at R6
          have ow : ∀ {a}, Own A (wipe σ vs) a → Own A σ a := fun z => own_wipe hd (wipe_wipe σ vs) z
          refine ⟨R6.len, fun b u q => ?_, R6.up, fun a o h n => ?_, fun a h => ?_, R6.fg, R6.val, fun j d hj n => ?_, fun j a n e => ?_, R6.sep, R6.par⟩
          · rw [upd_ne (ne_of_none q d5)]; exact R6.ext _ _ q
          · have : a ≠ D := fun z => by rw [z, hAD] at h; cases h
            rw [upd_ne this]; exact R6.fr a o h n
          · by_cases z : a = D
            · rw [z, upd_same]; exact fun z => nomatch z
            · rw [upd_ne z]; exact R6.lv a h
          · obtain ⟨q, o2, f2, f3, f4⟩ := R6.own j d hj n
            have : q ≠ D := fun z => hoD (ow ⟨j, n, z ▸ f2⟩)
            exact ⟨q, o2, f2, by rw [upd_ne this]; exact f3, f4⟩
          · by_cases z : a = D
            · rw [z, upd_same]; exact fun z => nomatch z
            · rw [upd_ne z]; exact R6.liv j a n e
      · cases e11
    | false =>
      rw [if_neg Bool.false_ne_true] at e7
      refine iteF ⟨hlt, G4, wipeM μ4 vs, acc, av, st4, ?_, h4, dqa_mono (g3.g.trans s4.g) a2, d4, e7⟩
      have R6 := R4.wipe hd
      rw [ws] at R6
      exact R6
  · left
    have hi' : i = ds.length := by omega
    subst hi'
    refine ⟨it.stop G2 H2 s2.g R2.ext, ?_⟩
    rw [List.drop_length] at e3
    cases e3
    have R9 := R1.unwipe hd s2.g R2
    exact k G2 H2 _ (s1.trans s2) R9 ⟨D, av, rfl, h2, a2, d2, hAD, hoD⟩ fun p ep => by cases ep; exact hD0
theorem qe_lc {r : Hp → V → PyData → Prop} {elt tg iter : Expr} {ifs : List Expr} {scope : Scope} {own : List (Str × Nat)} {pos : Pos} {mi : MI} {f : PyData → Mu → Option Mu} {sl : List Nat} {tt : MT} {te : ME} (vs : List Nat) (hN : X.N.Nodup) (hi : PI X tg iter (tI A r mi)) (ok : BlkOk X.N X.env.scope scope own)
    (hg : ∀ (s : Shared) (H : Hp) (C : Addr) (cl : List (Str × Addr)) (fp : List Addr), PG (X.blk s H scope (compEnvC scope cl C X.env) fp) tg (tG A r f sl)) (ht : ∀ (s : Shared) (H : Hp) (C : Addr) (cl : List (Str × Addr)) (fp : List Addr), PTs (X.blk s H scope (compEnvC scope cl C X.env) fp) ifs (tMT A tt))
    (he : ∀ (s : Shared) (H : Hp) (C : Addr) (cl : List (Str × Addr)) (fp : List Addr), PE (X.blk s H scope (compEnvC scope cl C X.env) fp) elt (tE A te)) (hv : own.map (·.2) = vs := by rfl) (hd : disj vs A.O = true := by rfl) (hsl : ∀ j, j ∈ sl → j ∈ vs := by decide) (hc : X.calm = true := by rfl) (hs : ∀ x, foldedSetIterable iter X.env x = pure x := by intro _; rfl) :
    PE X (.ListComp elt [⟨tg, iter, ifs, 0⟩] scope pos) (tE A (mLc mi f tt te vs)) := pe_to (pe_lc hc hN hi ok hg ht he hs) fun σ H Q w => by
  rw [hv]
  exact lc_read hd hsl w
/-- name = [..] on one line, the name a local: the list frozen; kept as one's own -/
theorem qs_lc {r : Hp → V → PyData → Prop} {y : Str} {py : Pos} {elt tg iter : Expr} {ifs : List Expr} {scope : Scope} {own : List (Str × Nat)} {pos spos : Pos} {mi : MI} {f : PyData → Mu → Option Mu} {sl : List Nat} {tt : MT} {te : ME} (i : Nat) (vs : List Nat) (hN : X.N.Nodup) (hi : PI X tg iter (tI A r mi)) (ok : BlkOk X.N X.env.scope scope own)
    (hg : ∀ (s : Shared) (H : Hp) (C : Addr) (cl : List (Str × Addr)) (fp : List Addr), PG (X.blk s H scope (compEnvC scope cl C X.env) fp) tg (tG A r f sl)) (ht : ∀ (s : Shared) (H : Hp) (C : Addr) (cl : List (Str × Addr)) (fp : List Addr), PTs (X.blk s H scope (compEnvC scope cl C X.env) fp) ifs (tMT A tt))
    (he : ∀ (s : Shared) (H : Hp) (C : Addr) (cl : List (Str × Addr)) (fp : List Addr), PE (X.blk s H scope (compEnvC scope cl C X.env) fp) elt (tE A te)) (hO : A.O.contains i = false := by rfl) (hy : X.N[i]? = some y := by rfl) (hyl : X.env.scope.names.lookup y = some .local := by rfl)
    (hsw : swapsWith (.ListComp elt [⟨tg, iter, ifs, 0⟩] scope pos) (some (.Name y py)) spos.line X.env = pure true := by exact sw_true rfl rfl rfl (by decide +kernel))
    (hv : own.map (·.2) = vs := by rfl) (hd : disj vs A.O = true := by rfl) (hsl : ∀ j, j ∈ sl → j ∈ vs := by decide) (hc : X.calm = true := by rfl) (hs : ∀ x, foldedSetIterable iter X.env x = pure x := by intro _; rfl) :
    PS X (.Assign [.Name y py] (.ListComp elt [⟨tg, iter, ifs, 0⟩] scope pos) spos) (tS A (sAsg i (mFrz (mLc mi f tt te vs)))) := ps_to (ps_setLc hc hN hy hyl hsw hi ok hg ht he hs) fun D σ H w => by
  rw [hv]
  exact asg_read hO (fun σ H Q h => lc_read hd hsl (frz_to h)) w
theorem qs_lcO {r : Hp → V → PyData → Prop} {y : Str} {py : Pos} {elt tg iter : Expr} {ifs : List Expr} {scope : Scope} {own : List (Str × Nat)} {pos spos : Pos} {mi : MI} {f : PyData → Mu → Option Mu} {sl : List Nat} {tt : MT} {te : ME} (i : Nat) (vs : List Nat) (hN : X.N.Nodup) (hi : PI X tg iter (tI A r mi)) (ok : BlkOk X.N X.env.scope scope own)
    (hg : ∀ (s : Shared) (H : Hp) (C : Addr) (cl : List (Str × Addr)) (fp : List Addr), PG (X.blk s H scope (compEnvC scope cl C X.env) fp) tg (tG A r f sl)) (ht : ∀ (s : Shared) (H : Hp) (C : Addr) (cl : List (Str × Addr)) (fp : List Addr), PTs (X.blk s H scope (compEnvC scope cl C X.env) fp) ifs (tMT A tt))
    (he : ∀ (s : Shared) (H : Hp) (C : Addr) (cl : List (Str × Addr)) (fp : List Addr), PE (X.blk s H scope (compEnvC scope cl C X.env) fp) elt (tE A te)) (hO : A.O.contains i = true := by rfl) (hP : A.P.contains i = false := by rfl) (hy : X.N[i]? = some y := by rfl) (hyl : X.env.scope.names.lookup y = some .local := by rfl)
    (hsw : swapsWith (.ListComp elt [⟨tg, iter, ifs, 0⟩] scope pos) (some (.Name y py)) spos.line X.env = pure true := by exact sw_true rfl rfl rfl (by decide +kernel))
    (hv : own.map (·.2) = vs := by rfl) (hd : disj vs A.O = true := by rfl) (hsl : ∀ j, j ∈ sl → j ∈ vs := by decide) (hc : X.calm = true := by rfl) (hs : ∀ x, foldedSetIterable iter X.env x = pure x := by intro _; rfl) :
    PS X (.Assign [.Name y py] (.ListComp elt [⟨tg, iter, ifs, 0⟩] scope pos) spos) (tS A (sAsgO i (mLc mi f tt te vs))) := ps_to (ps_setLc hc hN hy hyl hsw hi ok hg ht he hs) fun D σ H w => by
  rw [hv]
  exact asgO_read hO hP (fun σ H Q h => lc_read hd hsl h) w
end
end ML

set_option maxRecDepth 100000
set_option maxHeartbeats 4000000
namespace ML
open PySem PySem.Spec PyProof.Rows L2
variable [KF]
/-! ### the script -/
theorem scr_inv {G : Hp} {v : V} {es : List (PyData × PyData)} (h : Dq G v (.dict ((.none, .none) :: es))) : ∃ (a : Addr) (ns : List Int), v = .ref a ∧ es = ns.map (fun n => (PyData.none, PyData.int n)) ∧ SqL KF.k G a (ns.map V.int) := by
  generalize hd : PyData.dict ((.none, .none) :: es) = d at h
  cases h with
  | scr h1 =>
    rename_i a ns
    unfold scrD at hd
    injection hd with hd
    injection hd with _ hd
    exact ⟨a, ns, rfl, hd, h1⟩
  | dicK h1 h0 h2 =>
    cases hd
    rename_i kvs
    cases kvs with
    | nil => cases h2
    | cons kv r =>
      obtain ⟨k, v⟩ := kv
      cases k <;> cases h2
  | dicT h1 h2 => cases hd; cases h2
  | _ => cases hd
theorem scr_db {G H : Hp} {v : V} {es : List (PyData × PyData)} (e : Same G H) (h : Db G H v (.dict ((.none, .none) :: es))) : ∃ (a : Addr) (ns : List Int), v = .ref a ∧ es = ns.map (fun n => (PyData.none, PyData.int n)) ∧ SqL KF.k H a (ns.map V.int) := by
  cases h with
  | dat h =>
    obtain ⟨a, ns, h1, h2, h3⟩ := scr_inv h
    exact ⟨a, ns, h1, h2, e.seq h3⟩
  | dic h1 h2 => cases h2
section
variable {X : Cx} {A : Act}
def dLenS : PyData → Option MV
  | .dict ((.none, .none) :: es) => some (.dat (.int es.length))
  | _ => none
theorem ok_lenS (hK : X.K = KF.k := by rfl) : CallOk X (.builtin "len") (c1 dLenS) := ok_c1 call_len fun G H x a z Q e hx hz k => by
  unfold dLenS at hz
  split at hz
  · cases hz
    obtain ⟨p, ns, rfl, e1, h1⟩ := scr_db e hx
    subst e1
    refine ⟨_, ns.length, rfl, .inl ⟨ns.map V.int, hK ▸ h1, by rw [List.length_map]⟩, ?_⟩
    rw [List.length_map] at k
    exact k G H _ (.refl e) (.int _)
  · cases hz
def dIxS : PyData → PyData → Option MV
  | .dict ((.none, .none) :: es), .int i => (atI es i).map fun p => .dat p.2
  | _, _ => none
theorem atI_map {α β : Type} (f : α → β) (xs : List α) (i : Int) : atI (xs.map f) i = (atI xs i).map f := by
  unfold atI
  rw [List.length_map]
  cases ixN xs.length i with
  | none => rfl
  | some j => simp
theorem ok_ixS (hK : X.K = KF.k := by rfl) : IxOk X dIxS := by
  refine ⟨_, ix_list, fun G H x y a b z Q e hx hy hz k => ?_⟩
  unfold dIxS at hz
  split at hz
  · rename_i es i
    obtain ⟨p, ns, rfl, e1, h1⟩ := scr_db e hx
    subst e1
    rw [atI_map] at hz
    obtain ⟨w, h2, h3⟩ := map2 hz
    obtain ⟨n, h4, h5⟩ := map2 h2
    subst h5
    cases h3
    exact ⟨p, ns.map V.int, i, .int n, rfl, hy.i, hK ▸ h1, by rw [atI_map, h4]; rfl, k G H _ (.refl e) (.int _)⟩
  · cases hz
/-! ### promises -/
def spP (n : Nat) (F : List PyData → Option MV) : Sp := fun vs H Q _ => ∃ G ds x, vs.length = n ∧ DqAll G vs ds ∧ Same G H ∧ F ds = some x ∧ ∀ G' H' v, Grow G H G' H' → ResV H G' H' v x → Q v H'
def spB (n : Nat) (F : List PyData → List PyData → Option (MV × List PyData)) : Sp := fun vs H Q _ => ∃ G p ws bs es ds x es', vs = V.ref p :: ws ∧ vs.length = n ∧ H p = some (.lst bs) ∧ DqAll G bs es ∧ G p = none ∧ DqAll G ws ds ∧ Same G H ∧ F es ds = some (x, es') ∧
  ∀ v G' H' bs', Same G G' → Same G' H' → (∀ a o, H a = some o → a ≠ p → H' a = some o) → (∀ a, H a ≠ none → H' a ≠ none) → (∀ a, H a ≠ none → G a = none → G' a = none) → H' p = some (.lst bs') → DqAll G' bs' es' → ResV H G' H' v x → Q v H'
def start0 (N : Nat) (ds : List PyData) : Mu := ds.map some ++ List.replicate (N - ds.length) none
def fnP (N : Nat) (b : MS) (ds : List PyData) : Option MV := match b (start0 N ds) with
  | some (.rt x _) => some x
  | some (.nx _) => some (.dat .none)
  | _ => none
def fnB (N : Nat) (b : MS) (es ds : List PyData) : Option (MV × List PyData) := match b (start0 N (.list es :: ds)) with
  | some (.rt x μ) => (getL μ 0).map fun es' => (x, es')
  | some (.nx μ) => (getL μ 0).map fun es' => (.dat .none, es')
  | _ => none
theorem start_at {N : List Str} {vs : List V} {i : Nat} {v : V} (h : (start N vs)[i]? = some (some v)) : vs[i]? = some v := by
  unfold L2.start at h
  by_cases hi : i < vs.length
  · rw [List.getElem?_append_left (by rw [List.length_map]; exact hi), List.getElem?_map] at h
    cases q : vs[i]? with
    | none => rw [q] at h; cases h
    | some w => rw [q] at h; cases h; rfl
  · rw [List.getElem?_append_right (by rw [List.length_map]; omega), List.getElem?_replicate] at h
    split at h <;> cases h
theorem start_get {N : List Str} {vs : List V} {i : Nat} {v : V} (h : vs[i]? = some v) : (start N vs)[i]? = some (some v) := by
  have hi := (List.getElem?_eq_some_iff.mp h).1
  unfold L2.start
  rw [List.getElem?_append_left (by rw [List.length_map]; exact hi), List.getElem?_map, h]; rfl
theorem start0_at {N : Nat} {ds : List PyData} {i : Nat} {v : PyData} (h : (start0 N ds)[i]? = some (some v)) : ds[i]? = some v := by
  unfold start0 at h
  by_cases hi : i < ds.length
  · rw [List.getElem?_append_left (by rw [List.length_map]; exact hi), List.getElem?_map] at h
    cases q : ds[i]? with
    | none => rw [q] at h; cases h
    | some w => rw [q] at h; cases h; rfl
  · rw [List.getElem?_append_right (by rw [List.length_map]; omega), List.getElem?_replicate] at h
    split at h <;> cases h
theorem start_len {N : List Str} {vs : List V} {ds : List PyData} (h : vs.length = ds.length) : (start N vs).length = (start0 N.length ds).length := by
  unfold L2.start start0
  rw [List.length_append, List.length_append, List.length_map, List.length_map, List.length_replicate, List.length_replicate, h]
abbrev act0 (O : List Nat) (G H : Hp) : Act := ⟨O, [], fun _ => 0, G, H⟩
abbrev actB (O : List Nat) (p : Addr) (G H : Hp) : Act := ⟨O, [0], fun _ => p, G, H⟩
section
variable {P : Program} {w : World} {K : PySem.W.Frag} {mg : Str → Option Value} {base : Heap}
theorem ok_pure {x qual : Str} {st : Stmt} {f : Addr} {fd : FuncData} {N ps : List Str} {k : Nat} (F : Fun K x qual st f fd) (S : FnScope N ps (defScope st)) (O : List Nat) (b : MS) (hO : (O.all fun i => decide (ps.length ≤ i)) = true)
    (hb : ∀ (cdv : Value) (A : Around) (outer : List Env) (s : Shared) (H : Hp) (E : XK) (G : Hp), Rm k (A.deeper (envOfC qual (defScope st) s.heap.objs.size f cdv)) → PSs (cxOf CX0 P w K mg base N qual (defScope st) f cdv A outer s H E).nox (defBody st) (tS (act0 O G H) b)) :
    FnG P w K mg base (k + 1) f fd ps (spP ps.length (fnP N.length b)) := by
  refine okG F S (fun {vs H Q E} h => ?_) (fun cdv A outer s H vs Q E hr h => ?_)
  · obtain ⟨G, ds, x, h1, _⟩ := h
    exact h1
  · obtain ⟨G, ds, x, h1, h2, h3, h4, k⟩ := h
    refine ⟨_, hb cdv A outer s H E G hr, ?_⟩
    have big : ∀ i, i ∈ O → vs.length ≤ i := fun i hi => by
      have := of_decide_eq_true (List.all_eq_true.mp hO i hi)
      omega
    have hl := dqa_len h2
    have R : Rl (act0 O G H) G (start0 N.length ds) (start N vs) H := by
      refine ⟨start_len hl, h3, .refl _, fun a o h _ => h, fun a h => h, fun a _ h => h, fun i d h n => ?_, fun i d h n => ?_, fun i a n h => ?_, fun i j p n1 n2 e1 e2 => ?_, fun i n => by cases n⟩
      · obtain ⟨v, e1, e2⟩ := dqa_get h2 (start0_at h)
        exact ⟨v, start_get e1, e2⟩
      · have := (List.getElem?_eq_some_iff.mp (start0_at h)).1
        have := big i n
        omega
      · have := (List.getElem?_eq_some_iff.mp (start_at h)).1
        have := big i n
        omega
      · have := (List.getElem?_eq_some_iff.mp (start_at e1)).1
        have := big i n1
        omega
    have fin : ∀ {v σ' G' H' μ'}, Same G G' → Rl (act0 O G H) G' μ' σ' H' → ResV H G' H' v x → Q v H' := fun s' R' r => k _ _ _ ⟨s', fun a o h => R'.fr a o h (fun i hi => by cases hi), R'.ext, R'.fg⟩ r
    unfold fnP at h4
    cases q : b (start0 N.length ds) with
    | none => rw [q] at h4; cases h4
    | some o =>
      rw [q] at h4
      refine ⟨G, _, o, R, q, ?_⟩
      cases o with
      | nx m => cases h4; exact fun σ' G' H' s' R' => fin s' R' .non
      | rt y m => cases h4; exact fun v σ' G' H' s' R' r => fin s' R' r
      | bk m => cases h4
      | ct m => cases h4
theorem ok_bag {x qual : Str} {st : Stmt} {f : Addr} {fd : FuncData} {N ps : List Str} {k : Nat} (F : Fun K x qual st f fd) (S : FnScope N ps (defScope st)) (O : List Nat) (b : MS) (hO : (O.all fun i => i == 0 || decide (ps.length ≤ i)) = true) (h0 : O.contains 0 = true)
    (hb : ∀ (cdv : Value) (A : Around) (outer : List Env) (s : Shared) (H : Hp) (E : XK) (p : Addr) (G : Hp), Rm k (A.deeper (envOfC qual (defScope st) s.heap.objs.size f cdv)) → PSs (cxOf CX0 P w K mg base N qual (defScope st) f cdv A outer s H E).nox (defBody st) (tS (actB O p G H) b)) :
    FnG P w K mg base (k + 1) f fd ps (spB ps.length (fnB N.length b)) := by
  refine okG F S (fun {vs H Q E} h => ?_) (fun cdv A outer s H vs Q E hr h => ?_)
  · obtain ⟨G, p, ws, bs, es, ds, x, es', h1, h2, _⟩ := h
    exact h2
  · obtain ⟨G, p, ws, bs, es, ds, x, es', rfl, hn, h1, h2, h3, h4, h5, h6, k⟩ := h
    refine ⟨_, hb cdv A outer s H E p G hr, ?_⟩
    have big : ∀ i, i ∈ O → i ≠ 0 → (V.ref p :: ws).length ≤ i := fun i hi n => by
      have := List.all_eq_true.mp hO i hi
      rcases (Bool.or_eq_true _ _ |>.mp this) with z | z
      · exact absurd (eq_of_beq z) n
      · have := of_decide_eq_true z; omega
    have hl := dqa_len h4
    have R : Rl (actB O p G H) G (start0 N.length (.list es :: ds)) (start N (V.ref p :: ws)) H := by
      refine ⟨start_len (by rw [List.length_cons, List.length_cons, hl]), h5, .refl _, fun a o h _ => h, fun a h => h, fun a _ h => h, fun i d h n => ?_, fun i d h n => ?_, fun i a n h => ?_, fun i j q n1 n2 e1 e2 => ?_, fun i n => ?_⟩
      · have h := start0_at h
        match i, h with
        | 0, h => exact absurd (inO h0) n
        | i + 1, h =>
          obtain ⟨v, e1, e2⟩ := dqa_get h4 (by simpa using h)
          exact ⟨v, start_get (by simpa using e1), e2⟩
      · have h := start0_at h
        match i, h with
        | 0, h =>
          have h : PyData.list es = d := by simpa using h
          exact ⟨p, _, start_get (by simp), h1, .inl ⟨bs, es, rfl, h.symm, h2⟩, h3, .inr ⟨by simp, rfl⟩⟩
        | i + 1, h =>
          have h9 := (List.getElem?_eq_some_iff.mp h).1
          have := big (i + 1) n (by omega)
          rw [List.length_cons] at this h9
          omega
      · have h := start_at h
        match i, h with
        | 0, h =>
          have h : p = a := by simpa using h
          rw [← h, h1]; exact fun z => nomatch z
        | i + 1, h =>
          have h9 := (List.getElem?_eq_some_iff.mp h).1
          have := big (i + 1) n (by omega)
          omega
      · have z1 : i = 0 := by
          have h9 := (List.getElem?_eq_some_iff.mp (start_at e1)).1
          by_cases z : i = 0
          · exact z
          · have := big i n1 z; omega
        have z2 : j = 0 := by
          have h9 := (List.getElem?_eq_some_iff.mp (start_at e2)).1
          by_cases z : j = 0
          · exact z
          · have := big j n2 z; omega
        rw [z1, z2]
      · have z : i = 0 := by simpa using n
        subst z
        exact ⟨inO h0, start_get (by simp), (by show H p ≠ none; rw [h1]; exact fun z => nomatch z), h3⟩
    have fin : ∀ {v σ' G' H' μ'}, Same G G' → Rl (actB O p G H) G' μ' σ' H' → getL μ' 0 = some es' → ResV H G' H' v x → Q v H' := fun {v σ' G' H' μ'} s' R' e r => by
      obtain ⟨q, vs2, ds2, f1, f2, f3, f4, f5, f6⟩ := R'.ownL 0 (getL_some e) (inO h0)
      have z := (R'.par 0 (by simp)).2.1
      have z2 : q = p := V.ref.inj (Option.some.inj (Option.some.inj (f2.symm.trans z)))
      subst z2
      cases f1
      exact k v G' H' vs2 s' R'.ext (fun a o h n => R'.fr a o h fun i hi z => n z.symm) R'.lv R'.fg f3 f4 r
    unfold fnB at h6
    cases q : b (start0 N.length (.list es :: ds)) with
    | none => rw [q] at h6; cases h6
    | some o =>
      rw [q] at h6
      refine ⟨G, _, o, R, q, ?_⟩
      cases o with
      | nx m =>
        obtain ⟨es2, e1, e2⟩ := map2 h6
        cases e2
        exact fun σ' G' H' s' R' => fin s' R' e1 .non
      | rt y m =>
        obtain ⟨es2, e1, e2⟩ := map2 h6
        cases e2
        exact fun v σ' G' H' s' R' r => fin s' R' e1 r
      | bk m => cases h6
      | ct m => cases h6
end
/-! ### calls of defs -/
def mCall (n : Nat) (F : List PyData → Option MV) (m : MA) : ME := fun μ => (m μ).bind fun p => (dats p.1).bind fun ds => if ds.length = n then (F ds).map fun z => (z, p.2) else none
def scalD : PyData → Bool
  | .none | .bool _ | .int _ | .str _ => true
  | _ => false
def scalV : MV → Bool | .dat d => scalD d | _ => false
/-- the same, whatever is handed in: the answer is a flat thing -/
def mCallS (n : Nat) (F : List PyData → Option MV) (m : MA) : ME := fun μ => (m μ).bind fun p => (derefsL p.2 p.1).bind fun ds => if ds.length = n then (F ds).bind fun z => if scalV z = true then some (z, p.2) else none else none
def mBag (n : Nat) (F : List PyData → List PyData → Option (MV × List PyData)) (i : Nat) (m : MA) : ME := fun μ => (getL μ i).bind fun _ => (m μ).bind fun p => (dats p.1).bind fun ds => (getL p.2 i).bind fun es => if ds.length + 1 = n then (F es ds).map fun q => (q.1, p.2.set i (some (.list q.2))) else none
theorem call_rd {n : Nat} {F : List PyData → Option MV} {m : MA} {E : XK} {σ : L2.St} {H : Hp} {Q : VK} (h : tE A (mCall n F m) σ H Q) : tCall (spP n F) [] E (tMA A m) σ H Q := by
  obtain ⟨G, μ, z, μ', R, e, k⟩ := h
  obtain ⟨p, e1, e⟩ := bind2 e
  obtain ⟨ds, e2, e⟩ := bind2 e
  split at e
  · rename_i hl
    obtain ⟨x, e3, e⟩ := map2 e
    cases e
    refine ⟨G, μ, p.1, p.2, R, e1, fun G1 H1 vs s1 R1 q1 => ?_⟩
    have q2 := dats_ok q1 e2
    show spP n F (vs ++ []) H1 Q E
    rw [List.append_nil]
    exact ⟨G1, ds, z, by rw [dqa_len q2]; exact hl, q2, R1.ext, e3, fun G2 H2 v g rs => k G2 H2 v (s1.trans g.step) (R1.grow g) (rs.rel R1) (rs.nw.back s1)⟩
  · cases e
theorem lent_ok {G H : Hp} {σ : L2.St} {μ : Mu} (R : Rl A G μ σ H) {v : V} {x : MV} {d : PyData} (r : RelMV A G σ H v x) (h : derefL μ x = some d) : Dq H v d := by
  have hd : deref μ x = some d := by
    cases x with
    | dat _ => exact h
    | fre _ => exact h
    | own i =>
      show (μ[i]?).join = some d
      have h : (match (μ[i]?).join with | some (.dict _) => none | x => x) = some d := h
      split at h
      · cases h
      · exact h
  have q := r.db R hd
  cases x with
  | dat d' => cases h; exact dq_mono R.ext r
  | own i =>
    cases q with
    | dat h => exact dq_mono R.ext h
    | lst h1 h2 => exact .lst (.inl h1) (dqa_mono R.ext h2)
    | dic h1 h2 =>
      have h : (match (μ[i]?).join with | some (.dict _) => none | x => x) = some (.dict _) := h
      have hd : (μ[i]?).join = some (.dict _) := hd
      rw [hd] at h
      cases h
  | fre ds =>
    cases h
    cases q with
    | dat h => exact dq_mono R.ext h
    | lst h1 h2 => exact .lst (.inl h1) (dqa_mono R.ext h2)
theorem lents_ok {G H : Hp} {σ : L2.St} {μ : Mu} (R : Rl A G μ σ H) : ∀ {vs : List V} {xs : List MV} {ds : List PyData}, RelMVs A G σ H vs xs → derefsL μ xs = some ds → DqAll H vs ds
  | _, _, _, .nil, e => by cases e; exact .nil
  | _, _, _, .cons r t, e => by
    obtain ⟨d, e1, e⟩ := bind2 e
    obtain ⟨es, e2, e⟩ := map2 e
    cases e
    exact .cons (lent_ok R r e1) (lents_ok R t e2)
theorem scal_any {G G' : Hp} {v : V} {d : PyData} (h : Dq G v d) (s : scalD d = true) : Dq G' v d := by
  cases h <;> first | exact .non | exact .bl _ | exact .int _ | exact .str _ | cases s
theorem callS_rd {n : Nat} {F : List PyData → Option MV} {m : MA} {E : XK} {σ : L2.St} {H : Hp} {Q : VK} (h : tE A (mCallS n F m) σ H Q) : tCall (spP n F) [] E (tMA A m) σ H Q := by
  obtain ⟨G, μ, z, μ', R, e, k⟩ := h
  obtain ⟨p, e1, e⟩ := bind2 e
  obtain ⟨ds, e2, e⟩ := bind2 e
  split at e
  · rename_i hl
    obtain ⟨x, e3, e⟩ := bind2 e
    split at e
    · rename_i hs
      cases e
      refine ⟨G, μ, p.1, p.2, R, e1, fun G1 H1 vs s1 R1 q1 => ?_⟩
      have q2 := lents_ok R1 q1 e2
      show spP n F (vs ++ []) H1 Q E
      rw [List.append_nil]
      refine ⟨H1, ds, z, by rw [dqa_len q2]; exact hl, q2, .refl _, e3, fun G2 H2 v g rs => ?_⟩
      cases z with
      | dat d =>
        have g2 : Grow G1 H1 G1 H2 := ⟨.refl _, g.h, R1.ext.trans g.h, fun _ _ h => h⟩
        exact k G1 H2 v (s1.trans g2.step) (R1.grow g2) (scal_any (show Dq G2 v d from rs) hs) trivial
      | own i => cases hs
      | fre ds => cases hs
    · cases e
  · cases e
theorem bag_rd {n i : Nat} {F : List PyData → List PyData → Option (MV × List PyData)} {m : MA} {E : XK} {σ : L2.St} {H : Hp} {Q : VK} (hO : A.O.contains i = true) (h : tE A (mBag n F i m) σ H Q) : tCall (spB n F) [] E (tCons (tVar i) (tMA A m)) σ H Q := by
  obtain ⟨G, μ, z, μ', R, e, k⟩ := h
  obtain ⟨ds0, e0, e⟩ := bind2 e
  obtain ⟨p, e1, e⟩ := bind2 e
  obtain ⟨ds, e2, e⟩ := bind2 e
  obtain ⟨es, e3, e⟩ := bind2 e
  split at e
  · rename_i hl
    obtain ⟨⟨x, es'⟩, e4, e⟩ := map2 e
    cases e
    obtain ⟨a, vs, ds1, f1, f2, f3, f4, f5, f6⟩ := R.ownL i (getL_some e0) (inO hO)
    refine ⟨.ref a, f2, G, μ, p.1, p.2, R, e1, fun G1 H1 xs s1 R1 q1 => ?_⟩
    obtain ⟨a2, vs2, ds2, g1, g2, g3, g4, g5, g6⟩ := R1.ownL i (getL_some e3) (inO hO)
    have ea : a2 = a := V.ref.inj (Option.some.inj (Option.some.inj (g2.symm.trans f2)))
    subst ea
    cases g1
    have q2 := dats_ok q1 e2
    show spB n F ((V.ref a2 :: xs) ++ []) H1 Q E
    rw [List.append_nil]
    refine ⟨G1, a2, xs, vs2, es, ds, x, es', rfl, by rw [List.length_cons, dqa_len q2]; exact hl, g3, g4, g5, q2, R1.ext, e4, fun v G2 H2 bs' h1 h2 h3 h4 h5 h6 h7 h8 => ?_⟩
    have st : Step A σ G1 H1 G2 H2 := ⟨h1, fun b o hb n => h3 b o hb fun z => n ⟨i, inO hO, by rw [z]; exact g2⟩, h5, h4⟩
    have hi : i < p.2.length := (List.getElem?_eq_some_iff.mp (getL_some e3)).1
    have R2 : Rl A G2 (p.2.set i (some (.list es'))) σ H2 := by
      refine ⟨by rw [List.length_set]; exact R1.len, h2, R1.up.trans h1, fun b o hb n => ?_, fun b hb => h4 b (R1.lv b hb), fun b hb n => h5 b (R1.lv b hb) (R1.fg b hb n), fun j d hj n => ?_, fun j d hj n => ?_, fun j b n hb => h4 b (R1.liv j b n hb), R1.sep, R1.par⟩
      · refine h3 b o (R1.fr b o hb n) fun z => ?_
        rcases g6 with g6 | ⟨g6, g7⟩
        · rw [z, g6] at hb; cases hb
        · exact n i g6 (by rw [z, g7])
      · have z : i ≠ j := fun z => n (z ▸ inO hO)
        rw [List.getElem?_set_ne z] at hj
        obtain ⟨u, w1, w2⟩ := R1.val j d hj n
        exact ⟨u, w1, dq_mono h1 w2⟩
      · by_cases z : i = j
        · subst z
          rw [List.getElem?_set_self hi] at hj
          cases hj
          exact ⟨a2, _, g2, h6, .inl ⟨bs', es', rfl, rfl, h7⟩, h5 a2 (by rw [g3]; exact fun z => nomatch z) g5, g6⟩
        · rw [List.getElem?_set_ne z] at hj
          obtain ⟨q, o2, w2, w3, w4, w5, w6⟩ := R1.own j d hj n
          have : q ≠ a2 := fun y => z (R1.sep i j a2 (inO hO) n g2 (y ▸ w2))
          exact ⟨q, o2, w2, h3 _ _ w3 this, w4.mono h1, h5 q (by rw [w3]; exact fun z => nomatch z) w5, w6⟩
    exact k G2 H2 v (s1.trans st) R2 (h8.rel R1) (h8.nw.back s1)
  · cases e
theorem qe_call {j n : Nat} {f : Addr} {fd : FuncData} {ps : List Str} {F : List PyData → Option MV} {x : Str} {p pos : Pos} {a : Expr} {es : List Expr} {m : MA} (ok : FnG X.prog X.w X.K X.mg X.base j f fd ps (spP n F)) (hr : Rm j X.A) (hg : Gl X x) (hm : X.mg x = some (.ref f)) (hk : PySem.W.keepIn X.K (.ref f) = true) (hb : Binds X.K fd ps [])
    (ha : PA X (a :: es) (tMA A m)) (hdb : (x == ("__debug__" : Str)) = false := by decide) (he : starEach (a :: es) X.env = (false, eval a X.env) :: starEach es X.env := by rfl) (hpl : (backTo pos (starEach es X.env)).any (·.1) = false := by rfl) : PE X (.Call (.Name x p) (a :: es) [] pos) (tE A (mCall n F m)) :=
  pe_to (pg_call ok hr hg hm hk hb ha hdb he hpl) fun σ H Q h => call_rd h
theorem qe_callS {j n : Nat} {f : Addr} {fd : FuncData} {ps : List Str} {F : List PyData → Option MV} {x : Str} {p pos : Pos} {a : Expr} {es : List Expr} {m : MA} (ok : FnG X.prog X.w X.K X.mg X.base j f fd ps (spP n F)) (hr : Rm j X.A) (hg : Gl X x) (hm : X.mg x = some (.ref f)) (hk : PySem.W.keepIn X.K (.ref f) = true) (hb : Binds X.K fd ps [])
    (ha : PA X (a :: es) (tMA A m)) (hdb : (x == ("__debug__" : Str)) = false := by decide) (he : starEach (a :: es) X.env = (false, eval a X.env) :: starEach es X.env := by rfl) (hpl : (backTo pos (starEach es X.env)).any (·.1) = false := by rfl) : PE X (.Call (.Name x p) (a :: es) [] pos) (tE A (mCallS n F m)) :=
  pe_to (pg_call ok hr hg hm hk hb ha hdb he hpl) fun σ H Q h => callS_rd h
theorem qe_call0 {j : Nat} {f : Addr} {fd : FuncData} {ps : List Str} {F : List PyData → Option MV} {x : Str} {p pos : Pos} (ok : FnG X.prog X.w X.K X.mg X.base j f fd ps (spP 0 F)) (hr : Rm j X.A) (hg : Gl X x) (hm : X.mg x = some (.ref f)) (hk : PySem.W.keepIn X.K (.ref f) = true) (hb : Binds X.K fd ps [])
    (hdb : (x == ("__debug__" : Str)) = false := by decide) : PE X (.Call (.Name x p) [] [] pos) (tE A (mCall 0 F mNil)) :=
  pe_to (pg_call0 ok hr hg hm hk hb hdb) fun σ H Q h => by
    obtain ⟨G, μ, xs, μ', R, e, k⟩ := call_rd (E := E0) h
    cases e
    exact k G H [] .refl R .nil
theorem qe_bag {j n : Nat} {f : Addr} {fd : FuncData} {ps : List Str} {F : List PyData → List PyData → Option (MV × List PyData)} {x y : Str} {p p1 pos : Pos} {es : List Expr} {m : MA} (i : Nat) (ok : FnG X.prog X.w X.K X.mg X.base j f fd ps (spB n F)) (hr : Rm j X.A) (hg : Gl X x) (hm : X.mg x = some (.ref f)) (hk : PySem.W.keepIn X.K (.ref f) = true) (hb : Binds X.K fd ps [])
    (ha : PA X es (tMA A m)) (hO : A.O.contains i = true := by rfl) (hN : X.N[i]? = some y := by rfl) (hv : Vis X.env.scope y := by first | exact Or.inl rfl | exact Or.inr (Or.inl rfl) | exact Or.inr (Or.inr rfl)) (hd : (y == ("__debug__" : Str)) = false := by decide) (hcd : (y == ("__classdict__" : Str)) = false := by decide)
    (hdb : (x == ("__debug__" : Str)) = false := by decide) (he : starEach (.Name y p1 :: es) X.env = (false, eval (.Name y p1) X.env) :: starEach es X.env := by rfl) (hpl : (backTo pos (starEach es X.env)).any (·.1) = false := by rfl) : PE X (.Call (.Name x p) (.Name y p1 :: es) [] pos) (tE A (mBag n F i m)) :=
  pe_to (pg_call ok hr hg hm hk hb (pa_cons (pv i hN hv hd hcd) ha he) hdb he hpl) fun σ H Q h => bag_rd hO h
end
end ML

set_option maxRecDepth 100000
set_option maxHeartbeats 4000000
namespace ML
open PySem PySem.Spec PyProof.Rows L2 RZ
variable [KF]
section
variable {X : Cx} {A : Act}
/-! ### small words -/
theorem qe_int {n : Int} {j : Nat} {pos : Pos} : PE X (.Constant (.int n) j pos) (tE A (mC (.int n))) := qe_c pe_int fun _ => .int _
theorem qe_bool {b : Bool} {j : Nat} {pos : Pos} : PE X (.Constant (.bool b) j pos) (tE A (mC (.bool b))) := qe_c pe_bl fun _ => .bl _
theorem qe_none {j : Nat} {pos : Pos} : PE X (.Constant .none j pos) (tE A (mC .none)) := qe_c pe_non fun _ => .non
theorem qe_str {z : Str} {j : Nat} {pos : Pos} : PE X (.Constant (.str z) j pos) (tE A (mC (.str z))) := qe_c pe_str fun _ => .str _
theorem qe_globI {x : Str} {pos : Pos} {n : Int} {t : Tok} (hm : X.mg x = some (.int n t)) (hg : Gl X x := by rfl) (hd : (x == ("__debug__" : Str)) = false := by decide) : PE X (.Name x pos) (tE A (mC (.int n))) := qe_c (pe_glob (v := .int n) hg hm ⟨t, rfl⟩ hd) fun _ => .int _
def dNeg : PyData → Option MV
  | .int i => some (.dat (.int (-i)))
  | _ => none
theorem ok_neg : UnOk X (unaryOp .USub) dNeg := ⟨_, un_neg, fun G H x a z Q e hx hz k => by
  cases a <;> first | (cases hz; done) | skip
  cases hz
  exact ⟨_, hx.i, k G H _ (.refl e) (.int _)⟩⟩
/-! ### a op b op' c -/
def mChain (f g : PyData → PyData → Option MV) (a b c : ME) : ME := fun μ => (a μ).bind fun p => (b p.2).bind fun q => (deref q.2 p.1).bind fun x => (deref q.2 q.1).bind fun y => (f x y).bind fun z => (asD z).bind fun d => (isB d).bind fun k =>
  if k = true then (c q.2).bind fun r => (deref r.2 q.1).bind fun y2 => (deref r.2 r.1).bind fun w => (g y2 w).map fun z => (z, r.2) else some (.dat (.bool false), q.2)
def MatR (r : R2) (f : PyData → PyData → Option MV) : Prop := ∀ G H x y a b z Q, Same G H → Db G H x a → Db G H y b → f a b = some z → (∀ G' H' v, Grow G H G' H' → ResV H G' H' v z → Q v H') → r x y H Q
theorem chain_rd {f g : PyData → PyData → Option MV} {r r' : R2} {ma mb mc : ME} (hf : MatR r f) (hg : MatR r' g) {σ : L2.St} {H : Hp} {Q : VK} (h : tE A (mChain f g ma mb mc) σ H Q) : tChain r r' (tE A ma) (tE A mb) (tE A mc) σ H Q := by
  obtain ⟨G, μ, z, μ', R, e, k⟩ := h
  obtain ⟨p, e1, e⟩ := bind2 e
  obtain ⟨q, e2, e⟩ := bind2 e
  obtain ⟨x, e3, e⟩ := bind2 e
  obtain ⟨y, e4, e⟩ := bind2 e
  obtain ⟨z1, e5, e⟩ := bind2 e
  obtain ⟨d, e6, e⟩ := bind2 e
  obtain ⟨b1, e7, e⟩ := bind2 e
  refine ⟨G, μ, p.1, p.2, R, e1, fun G1 H1 v1 s1 R1 q1 n1 => ⟨G1, p.2, q.1, q.2, R1, e2, fun G2 H2 v2 s2 R2 q2 n2 => ?_⟩⟩
  refine hf G2 H2 v1 v2 x y z1 _ R2.ext ((q1.step s2).db R2 e3) (q2.db R2 e4) e5 fun G3 H3 v g3 rs => ?_
  rw [asD_some e6, isB_some e7] at rs
  have s3 := (s1.trans s2).trans g3.step (σ := σ)
  have R3 := R2.grow g3
  refine ⟨b1, dq_bl rs, ?_⟩
  cases b1 with
  | true =>
    rw [if_pos rfl] at e
    obtain ⟨w, f1, e⟩ := bind2 e
    obtain ⟨y2, f2, e⟩ := bind2 e
    obtain ⟨w2, f3, e⟩ := bind2 e
    obtain ⟨z2, f4, e⟩ := map2 e
    cases e
    refine iteT ⟨G3, q.2, w.1, w.2, R3, f1, fun G4 H4 v4 s4 R4 q4 n4 => ?_⟩
    exact hg G4 H4 v2 v4 y2 w2 z Q R4.ext (((q2.step g3.step).step s4).db R4 f2) (q4.db R4 f3) f4 fun G5 H5 v5 g5 r5 => k G5 H5 v5 ((s3.trans s4).trans g5.step) (R4.grow g5) (r5.rel R4) ((r5.nw.back s4).back s3)
  | false =>
    rw [if_neg Bool.false_ne_true] at e
    cases e
    exact iteF (k G3 H3 _ s3 R3 (.bl false) trivial)
theorem qe_chain {a b c : Expr} {op op' : CmpOp} {pos : Pos} {f g : PyData → PyData → Option MV} {ma mb mc : ME} (ho : OpOk X (compareOp op) f) (ho' : OpOk X (compareOp op') g) (ha : PE X a (tE A ma)) (hb : PE X b (tE A mb)) (hc : PE X c (tE A mc))
    (hm : lastMarks [op, op'] [b, c] = false := by with_unfolding_all rfl) : PE X (.Compare a [op, op'] [b, c] pos) (tE A (mChain f g ma mb mc)) := by
  obtain ⟨r, hr, hf⟩ := ho
  obtain ⟨r', hr', hg⟩ := ho'
  exact pe_to (pe_chain hr hr' ha hb hc hm) fun σ H Q h => chain_rd hf hg h
theorem test_rd {m : ME} {σ : L2.St} {H : Hp} {Q : Bool → Hp → Prop} (h : tMT A (mTest m) σ H Q) : tTest (tE A m) σ H Q := by
  obtain ⟨G, μ, b, μ', R, e, k⟩ := h
  obtain ⟨p, e1, e⟩ := bind2 e
  obtain ⟨a, e3, e⟩ := bind2 e
  obtain ⟨w, e5, e⟩ := map2 e
  cases e
  refine ⟨G, μ, p.1, p.2, R, e1, fun G1 H1 v1 s1 R1 q1 n1 => ?_⟩
  have := q1.db R1 e3
  rw [isB_some e5] at this
  exact ⟨b, this.b, k G1 H1 s1 R1⟩
theorem qt_cmp {a b : Expr} {op : CmpOp} {pos : Pos} {f : PyData → PyData → Option MV} {ma mb : ME} (ho : OpOk X (compareOp op) f) (ha : PE X a (tE A ma)) (hb : PE X b (tE A mb)) (hm : behindInMarks op b = false := by first | exact nomark _ | rfl) : PT X (.Compare a [op] [b] pos) (tMT A (mTest (mBin f ma mb))) := by
  obtain ⟨r, hr, hmm⟩ := ho
  exact pt_to (pt_cmpR hr ha hb hm) fun σ H Q h => bin_read hmm (test_rd h)
theorem qt_chain {a b c : Expr} {op op' : CmpOp} {pos : Pos} {f g : PyData → PyData → Option MV} {ma mb mc : ME} (ho : OpOk X (compareOp op) f) (ho' : OpOk X (compareOp op') g) (ha : PE X a (tE A ma)) (hb : PE X b (tE A mb)) (hc : PE X c (tE A mc))
    (hm : lastMarks [op, op'] [b, c] = false := by with_unfolding_all rfl) : PT X (.Compare a [op, op'] [b, c] pos) (tMT A (mTest (mChain f g ma mb mc))) := by
  obtain ⟨r, hr, hf⟩ := ho
  obtain ⟨r', hr', hg⟩ := ho'
  exact pt_to (pt_chain hr hr' ha hb hc hm) fun σ H Q h => chain_rd hf hg (test_rd h)
/-! ### in -/
def allD (f : PyData → Bool) (ds : List PyData) : Bool := ds.all f
theorem dqa_flat {G : Hp} : ∀ {vs : List V} {ds : List PyData}, DqAll G vs ds → ds.all flatD = true → vs.all flatV = true
  | _, _, .nil, _ => rfl
  | _, _, .cons h t, e => by
    rw [List.all_cons, Bool.and_eq_true] at e ⊢
    refine ⟨?_, dqa_flat t e.2⟩
    cases h <;> first | rfl | (cases e.1)
theorem dq_flat {G : Hp} {v : V} {d : PyData} (h : Dq G v d) (e : flatD d = true) : flatV v = true := by
  cases h <;> first | rfl | (cases e)
theorem inV_eq {G : Hp} {x : V} {a : PyData} (hx : Dq G x a) (fa : flatD a = true) : ∀ {vs : List V} {ds : List PyData}, DqAll G vs ds → ds.all flatD = true → inV x vs = ds.any fun d => PyData.eqv d a
  | _, _, .nil, _ => rfl
  | _, _, .cons h t, e => by
    rw [List.all_cons, Bool.and_eq_true] at e
    unfold inV
    rw [List.any_cons, List.any_cons, dq_eqV h hx e.1 fa]
    have := inV_eq hx fa t e.2
    unfold inV at this
    rw [this]
def inB (a : PyData) (ds : List PyData) : Option Bool := if flatD a = true ∧ ds.all flatD = true then some (ds.any fun d => PyData.eqv d a) else none
/-- in a list or tuple of flat things -/
def dIn (neg : Bool) : PyData → PyData → Option MV
  | a, .list ds => (inB a ds).map fun b => .dat (.bool (if neg then !b else b))
  | a, .tuple ds => (inB a ds).map fun b => .dat (.bool (if neg then !b else b))
  | _, _ => none
theorem in_core {neg : Bool} {g : Value → Value → Sem Value} (hop : OpR X g (rIn X.K neg)) : OpOk X g (dIn neg) := by
  refine ⟨_, hop, fun G H x y a b z Q e hx hy hz k => ?_⟩
  have go : ∀ {p vs ds}, y = .ref p → (SqL X.K H p vs ∨ SqT X.K H p vs) → DqAll G vs ds → (inB a ds).map (fun b => MV.dat (.bool (if neg then !b else b))) = some z → rIn X.K neg x y H Q := fun {p vs ds} ey hs hd hz => by
    obtain ⟨b1, e1, e2⟩ := map2 hz
    unfold inB at e1
    split at e1
    · rename_i q
      cases e1
      cases e2
      have hx' : Dq G x a := by
        cases hx with
        | dat h => exact h
        | lst _ _ => cases q.1
        | dic _ _ => cases q.1
      refine ⟨p, vs, ey, hs, dq_flat hx' q.1, dqa_flat hd q.2, ?_⟩
      rw [inV_eq hx' q.1 hd q.2]
      exact k G H _ (.refl e) (.bl _)
    · cases e1
  cases b <;> first | (cases hz; done) | skip
  · obtain ⟨p, vs, ey, h1, h2⟩ := hy.l e
    exact go ey (.inl (.inl h1)) h2 hz
  · obtain ⟨p, vs, ey, h1, h2⟩ := hy.t e
    exact go ey (.inr (.inl h1)) h2 hz
theorem ok_in : OpOk X (compareOp .In) (dIn false) := in_core op_in_seq
theorem ok_notIn : OpOk X (compareOp .NotIn) (dIn true) := in_core op_notIn_seq
/-! ### zip -/
def zipD : List PyData → List PyData → List PyData
  | a :: as, b :: bs => .tuple [a, b] :: zipD as bs
  | _, _ => []
theorem zipD_get : ∀ {as bs : List PyData} {i : Nat} {d : PyData}, (zipD as bs)[i]? = some d → ∃ a b, d = .tuple [a, b] ∧ as[i]? = some a ∧ bs[i]? = some b
  | [], _, _, _, h => by simp [zipD] at h
  | _ :: _, [], _, _, h => by simp [zipD] at h
  | a :: as, b :: bs, 0, d, h => by simp [zipD] at h; exact ⟨a, b, h.symm, rfl, rfl⟩
  | a :: as, b :: bs, i + 1, d, h => by
    obtain ⟨x, y, h1, h2, h3⟩ := zipD_get (as := as) (bs := bs) (i := i) (d := d) (by simpa [zipD] using h)
    exact ⟨x, y, h1, by simpa using h2, by simpa using h3⟩
theorem zipD_len : ∀ as bs : List PyData, (zipD as bs).length = min as.length bs.length
  | [], _ => by simp [zipD]
  | _ :: _, [] => by simp [zipD]
  | a :: as, b :: bs => by rw [zipD, List.length_cons, zipD_len as bs, List.length_cons, List.length_cons]; omega
theorem new_pair {G H : Hp} {T : Addr} {x y : V} {a b : PyData} (e : Same G H) (n : H T = none) (hx : Dq G x a) (hy : Dq G y b) : ∃ G', Grow G H G' (upd H T (.tup [x, y])) ∧ Dw G' (.ref T) (.tuple [a, b]) := by
  have g := Grow.new (o := .tup [x, y]) e n
  exact ⟨_, g, .inr ⟨T, [x, y], [a, b], rfl, rfl, .inl upd_same, .cons (dq_mono g.g hx) (.cons (dq_mono g.g hy) .nil)⟩⟩
theorem iter_zip {K : PySem.W.Frag} {G0 : Hp} {a b : Addr} {xs ys : List V} {as bs : List PyData} (h : Rd G0 a (.lst xs)) (h' : Rd G0 b (.lst ys)) (ha : DqAll G0 xs as) (hb : DqAll G0 ys bs) : IterOk Dw (Itz K a b) G0 (zipD as bs) := by
  have at1 : ∀ {G H : Hp}, Same G0 G → Same G H → SqL K H a xs := fun e1 e2 => .inl (rd_mono (e1.trans e2) h)
  have at2 : ∀ {G H : Hp}, Same G0 G → Same G H → SqL K H b ys := fun e1 e2 => .inl (rd_mono (e1.trans e2) h')
  refine ⟨fun G H i d e1 e2 hi => ?_, fun G H e1 e2 => ⟨xs, ys, at1 e1 e2, at2 e1 e2, by rw [zipD_len, dqa_len ha, dqa_len hb]; omega⟩⟩
  obtain ⟨p, q, ed, hp, hq⟩ := zipD_get hi
  subst ed
  obtain ⟨x, hx, rx⟩ := dqa_get ha hp
  obtain ⟨y, hy, ry⟩ := dqa_get hb hq
  refine ⟨⟨xs, ys, x, y, at1 e1 e2, at2 e1 e2, hx, hy⟩, fun v H' ⟨T, x', y', ev, nT, eH, f1, f2⟩ => ?_⟩
  subst ev eH
  cases (f1 xs (at1 e1 e2)).symm.trans hx
  cases (f2 ys (at2 e1 e2)).symm.trans hy
  exact new_pair e2 nT (dq_mono e1 rx) (dq_mono e1 ry)
theorem iter_zipT {K : PySem.W.Frag} {G0 : Hp} {a b : Addr} {xs ys : List V} {as bs : List PyData} (h : Rd G0 a (.tup xs)) (h' : Rd G0 b (.tup ys)) (ha : DqAll G0 xs as) (hb : DqAll G0 ys bs) : IterOk Dw (ItzT K a b) G0 (zipD as bs) := by
  have at1 : ∀ {G H : Hp}, Same G0 G → Same G H → SqT K H a xs := fun e1 e2 => .inl (rd_mono (e1.trans e2) h)
  have at2 : ∀ {G H : Hp}, Same G0 G → Same G H → SqT K H b ys := fun e1 e2 => .inl (rd_mono (e1.trans e2) h')
  refine ⟨fun G H i d e1 e2 hi => ?_, fun G H e1 e2 => ⟨xs, ys, at1 e1 e2, at2 e1 e2, by rw [zipD_len, dqa_len ha, dqa_len hb]; omega⟩⟩
  obtain ⟨p, q, ed, hp, hq⟩ := zipD_get hi
  subst ed
  obtain ⟨x, hx, rx⟩ := dqa_get ha hp
  obtain ⟨y, hy, ry⟩ := dqa_get hb hq
  refine ⟨⟨xs, ys, x, y, at1 e1 e2, at2 e1 e2, hx, hy⟩, fun v H' ⟨T, x', y', ev, nT, eH, f1, f2⟩ => ?_⟩
  subst ev eH
  cases (f1 xs (at1 e1 e2)).symm.trans hx
  cases (f2 ys (at2 e1 e2)).symm.trans hy
  exact new_pair e2 nT (dq_mono e1 rx) (dq_mono e1 ry)
def mIZ (m : MA) : MI := fun μ => (m μ).bind fun p => (dats p.1).bind fun es => match es with
  | [.list a, .list b] => some (zipD a b, p.2)
  | [.tuple a, .tuple b] => some (zipD a b, p.2)
  | _ => none
theorem qi_zip {a b : Expr} {m : MA} {p pos tpos : Pos} {elts : List Expr} {kk : Nat} (hg : Gl X "zip") (hm : X.mg "zip" = none) (ha : PA X [a, b] (tMA A m))
    (hs : starEach [a, b] X.env = (false, eval a X.env) :: starEach [b] X.env := by rfl) (hpl : (backTo pos (starEach [b] X.env)).any (·.1) = false := by rfl) : PI X (.Tuple elts kk tpos) (.Call (.Name "zip" p) [a, b] [] pos) (tI A Dw (mIZ m)) :=
  pi_to (pi_zipA hg hm ha hs hpl) fun σ H Q ⟨G, μ, ds, μ', R, e, k⟩ => by
    obtain ⟨p, e1, e⟩ := bind2 e
    obtain ⟨d, e2, e⟩ := bind2 e
    refine ⟨G, μ, p.1, p.2, R, e1, fun G1 H1 v s1 R1 q1 => ?_⟩
    have q := dats_ok q1 e2
    split at e
    · cases e
      cases q with
      | cons h1 t =>
        cases t with
        | cons h2 t =>
          cases t
          cases h1 with
          | lst f1 g1 =>
            cases h2 with
            | lst f2 g2 => exact ⟨_, _, _, _, rfl, .inl ⟨.inl (rd_mono R1.ext f1), .inl (rd_mono R1.ext f2), k G1 H1 _ s1 R1 (iter_zip f1 f2 g1 g2)⟩⟩
    · cases e
      cases q with
      | cons h1 t =>
        cases t with
        | cons h2 t =>
          cases t
          cases h1 with
          | tup f1 _ g1 =>
            cases h2 with
            | tup f2 _ g2 => exact ⟨_, _, _, _, rfl, .inr ⟨.inl (.inr ⟨_, R1.ext _ _ f1⟩), .inl (.inr ⟨_, R1.ext _ _ f2⟩), k G1 H1 _ s1 R1 (iter_zipT (.inr ⟨_, f1⟩) (.inr ⟨_, f2⟩) g1 g2)⟩⟩
    · cases e
/-! ### enumerate(list) -/
def enumD (n : Nat) : List PyData → List PyData
  | [] => []
  | d :: ds => .tuple [.int (n : Nat), d] :: enumD (n + 1) ds
theorem enumD_get : ∀ {ds : List PyData} {n i : Nat} {d : PyData}, (enumD n ds)[i]? = some d → ∃ a, d = .tuple [.int ((n + i : Nat) : Int), a] ∧ ds[i]? = some a
  | [], _, _, _, h => by simp [enumD] at h
  | x :: ds, n, 0, d, h => by simp [enumD] at h; exact ⟨x, by rw [← h]; simp, rfl⟩
  | x :: ds, n, i + 1, d, h => by
    obtain ⟨a, h1, h2⟩ := enumD_get (ds := ds) (n := n + 1) (i := i) (d := d) (by simpa [enumD] using h)
    exact ⟨a, by rw [h1]; congr 3; omega, by simpa using h2⟩
theorem enumD_len : ∀ (ds : List PyData) (n : Nat), (enumD n ds).length = ds.length
  | [], _ => rfl
  | _ :: ds, n => by rw [enumD, List.length_cons, enumD_len ds, List.length_cons]
theorem iter_enum {K : PySem.W.Frag} {G0 : Hp} {a : Addr} {xs : List V} {as : List PyData} (h : Rd G0 a (.lst xs)) (ha : DqAll G0 xs as) : IterOk Dw (Ite K a) G0 (enumD 0 as) := by
  have at1 : ∀ {G H : Hp}, Same G0 G → Same G H → SqL K H a xs := fun e1 e2 => .inl (rd_mono (e1.trans e2) h)
  refine ⟨fun G H i d e1 e2 hi => ?_, fun G H e1 e2 => ⟨xs, at1 e1 e2, by rw [enumD_len, dqa_len ha]; exact Nat.le_refl _⟩⟩
  obtain ⟨p, ed, hp⟩ := enumD_get hi
  subst ed
  obtain ⟨x, hx, rx⟩ := dqa_get ha hp
  refine ⟨⟨xs, x, at1 e1 e2, hx⟩, fun v H' ⟨T, x', ev, nT, eH, f1⟩ => ?_⟩
  subst ev eH
  cases (f1 xs (at1 e1 e2)).symm.trans hx
  rw [Nat.zero_add]
  exact new_pair e2 nT (.int _) (dq_mono e1 rx)
def mIEL (m : MA) : MI := fun μ => (m μ).bind fun p => (dats p.1).bind fun es => match es with
  | [.list a] => some (enumD 0 a, p.2)
  | _ => none
theorem qi_enumL {a : Expr} {m : MA} {p pos tpos : Pos} {elts : List Expr} {kk : Nat} (hg : Gl X "enumerate") (hm : X.mg "enumerate" = none) (ha : PA X [a] (tMA A m)) (hs : starEach [a] X.env = [(false, eval a X.env)] := by rfl) :
    PI X (.Tuple elts kk tpos) (.Call (.Name "enumerate" p) [a] [] pos) (tI A Dw (mIEL m)) :=
  pi_to (pi_enum hg hm ha hs) fun σ H Q ⟨G, μ, ds, μ', R, e, k⟩ => by
    obtain ⟨p, e1, e⟩ := bind2 e
    obtain ⟨d, e2, e⟩ := bind2 e
    refine ⟨G, μ, p.1, p.2, R, e1, fun G1 H1 v s1 R1 q1 => ?_⟩
    have q := dats_ok q1 e2
    split at e
    · cases e
      cases q with
      | cons h1 t =>
        cases t
        cases h1 with
        | lst f1 g1 => exact ⟨_, _, rfl, .inl (rd_mono R1.ext f1), k G1 H1 _ s1 R1 (iter_enum f1 g1)⟩
    · cases e
end
end ML

set_option maxRecDepth 100000
set_option maxHeartbeats 4000000
namespace ML
open PySem PySem.Spec PyProof.Rows L2 RZ
section
variable {prog : Program} {w : World} {A : Around} {E : Value → Shared → Prop} {s : Shared}
/-- what a tuple's items are collected into -/
theorem collect_tup {t : Addr} {vs : List Value} {Q : List Value → Shared → Prop} (ht : IsTup s.heap t vs.toArray) (hz : vs.length ≤ sizeLine)
    (q : Q vs { s with heap := (s.heap.push (seqObj "list" #[] 0)).update s.heap.objs.size (Obj.mapSeq (· ++ vs.toArray)) }) : wpAny (model prog w) A (collect (.ref t)) Q E s := by
  obtain ⟨o, eo, ec, n, ed⟩ := id ht
  have new0 : (s.heap.push (seqObj "list" #[] 0)).get? s.heap.objs.size = some (seqObj "list" #[] 0) := Heap.get?_push_size _ rfl
  have eo' : (s.heap.push (seqObj "list" #[] 0)).get? t = some o := Heap.get?_push_of_some _ eo
  have tt : (Value.type "tuple" == Value.type "tuple") = true := by rfl
  unfold collect
  refine wpAny_bind (wpAny_runValue (codeAny_builtin entry_proto_collect' (show wpAny _ _ (do again (.builtin "list.__iadd__" ⟨[← newList [], .ref t], []⟩)) _ _ s from
    wpAny_bind (wpAny_newList (wpAny_pure ⟨Code.quiet_builtin _ (by decide +kernel), codeAny_builtin entry_list_iadd' ?_⟩)))))
  show wpAny _ _ (Builtin.List.listExtendWith (.ref s.heap.objs.size) (.ref t) (.ref s.heap.objs.size)) _ _ { s with heap := s.heap.push (seqObj "list" #[] 0) }
  unfold Builtin.List.listExtendWith
  refine wpAny_bind (wpAny_typeOf (T := "tuple") ⟨o, eo', ec⟩ ?_)
  rw [if_pos (by rw [tt]; simp)]
  refine wpAny_bind (listItems_at eo' ed (wpAny_bind (listItems_at (xs := #[]) (n := 0) new0 rfl ?_)))
  rw [if_neg (by simp)]
  refine wpAny_bind (listUpdate_at (xs := #[]) (n := 0) new0 rfl (wpAny_pure ?_) (Nat.zero_le _) (by show (#[] ++ vs.toArray).size ≤ sizeLine + 1; simp only [Array.size_append, List.size_toArray, List.length_nil]; omega))
  show wpAny (model prog w) A (do
      let c ← load s.heap.objs.size
      match c.data with
      | .seq ys _ => pure ys.toList
      | _ => unsupported "internal:collect") Q E { s with heap := (s.heap.push (seqObj "list" #[] 0)).update s.heap.objs.size (Obj.mapSeq (· ++ vs.toArray)) }
  refine wpAny_bind (wpAny_load (get?_update_seq new0 _) ?_)
  show wpAny _ _ (pure ((#[] : Array Value) ++ vs.toArray).toList) Q E _
  rw [show ((#[] : Array Value) ++ vs.toArray).toList = vs by simp]
  exact wpAny_pure q
open SrtO in
theorem sorted_tupI {t : Addr} {vs : List Value} {ns : List Int} {Q : Value → Shared → Prop} (ht : IsTup s.heap t vs.toArray) (hi : IntsAre vs ns) (hz : vs.length ≤ sizeLine)
    (q : ∀ (out : List Value) (ns' : List Int), IntsAre out ns' → ns'.Perm ns → ns'.Pairwise (· ≤ ·) → Q (.ref (s.heap.objs.size + 1)) { s with heap := sortedAll s.heap vs out.toArray }) : wpAny (model prog w) A (call (.builtin "sorted") [.ref t]) Q E s := by
  have full : ∀ b o, s.heap.get? b = some o → b ≠ s.heap.objs.size + 1 ∧ (((s.heap.push (seqObj "list" #[] 0)).update s.heap.objs.size (Obj.mapSeq (· ++ vs.toArray))).push (seqObj "list" vs.toArray 0)).get? b = some o := fun b o e => by
    have lt : b < s.heap.objs.size := Heap.lt_size e
    exact ⟨Nat.ne_of_lt (Nat.lt_succ_of_lt lt), Heap.get?_push_of_some _ ((Heap.get?_update_ne _ _ _ _ (Nat.ne_of_lt lt)).trans (Heap.get?_push_of_some _ e))⟩
  have sz : ((s.heap.push (seqObj "list" #[] 0)).update s.heap.objs.size (Obj.mapSeq (· ++ vs.toArray))).objs.size = s.heap.objs.size + 1 := (Heap.size_update ..).trans (size_push' _ _)
  have at1 : (((s.heap.push (seqObj "list" #[] 0)).update s.heap.objs.size (Obj.mapSeq (· ++ vs.toArray))).push (seqObj "list" vs.toArray 0)).get? (s.heap.objs.size + 1) = some (seqObj "list" vs.toArray 0) := sz ▸ Heap.get?_push_size _ rfl
  refine Calls.call_function_entry kind_sorted plain_sorted entry_sorted (args_sorted1 _) ?_
  unfold Builtin.«sorted»
  refine wpAny_bind (m := checkCount "sorted" 1 1 _) (wpAny_pure (wpAny_bind (collect_tup ht hz (wpAny_bind (wpAny_newList ?_ hz)))))
  show wpAny _ _ _ _ _ { s with heap := ((s.heap.push (seqObj "list" #[] 0)).update s.heap.objs.size (Obj.mapSeq (· ++ vs.toArray))).push (seqObj "list" vs.toArray 0) }
  rw [sz]
  refine wpAny_bind (wpAny_holding (wpAny_call_entry slot_list_sort ⟨_, at1, rfl⟩ entry_list_sort (list_sort_ord swo_int at1 hz (fun h2 => ints_sortable hi h2) fun out a1 a2 => ⟨_, rfl, wpAny_pure ⟨_, rfl, ?_⟩⟩) (args_list_sort _)))
  obtain ⟨b1, b2, b3⟩ := ints_out hi a1 a2
  exact q out _ b1 b2 b3
end
variable [KF]
section
variable {X : Cx} {A : Act}
theorem sort_one {ns ms : List Int} (h : ns.Perm ms) (s1 : ns.Pairwise (· ≤ ·)) (s2 : ms.Pairwise (· ≤ ·)) : ns = ms := h.eq_of_pairwise (fun a b _ _ h1 h2 => Int.le_antisymm h1 h2) s1 s2
def sortI (ns : List Int) : List Int := ns.mergeSort (fun a b => decide (a ≤ b))
theorem sortI_perm (ns : List Int) : (sortI ns).Perm ns := List.mergeSort_perm _ _
theorem sortI_sorted (ns : List Int) : (sortI ns).Pairwise (· ≤ ·) := by
  have := List.pairwise_mergeSort (le := fun a b : Int => decide (a ≤ b)) (fun a b c h1 h2 => decide_eq_true (Int.le_trans (of_decide_eq_true h1) (of_decide_eq_true h2))) (fun a b => by
    rcases Int.le_total a b with h | h
    · simp [h]
    · simp [h]) ns
  exact this.imp fun h => of_decide_eq_true h
theorem sort_is {ns ms : List Int} (h : ms.Perm ns) (s : ms.Pairwise (· ≤ ·)) : ms = sortI ns := sort_one (h.trans (sortI_perm ns).symm) s (sortI_sorted ns)
def rSortT (K : PySem.W.Frag) : List V → Hp → VK → Prop := fun vs H Q => ∃ (a : Addr) (ns : List Int), vs = [V.ref a] ∧ SqT K H a (ns.map V.int) ∧ ∀ p, H p = none → Q (.ref p) (upd H p (.lst ((sortI ns).map V.int)))
theorem call_sortT : CallR X (.builtin "sorted") (rSortT X.K) := by
  intro pins s σ H vs us Q I r ⟨a, ns, ev, hs, q⟩
  subst ev
  obtain ⟨its, rv, ht, hz⟩ := I.tuple hs
  rw [Vals.ref1 r]
  refine sorted_tupI ht rv.ints (by rw [← rv.length]; exact hz) fun out ns' h1 h2 h3 => ?_
  cases sort_is h2 h3
  obtain ⟨ep, he'⟩ := PyProof.Rows.sortedAll_at s.heap its out.toArray
  have z : ((sortI ns).map V.int).length ≤ sizeLine := by rw [List.length_map, (sortI_perm ns).length_eq]; rwa [List.length_map] at hz
  have new : ObjOk X.prog X.w (upd H (s.heap.objs.size + 1) (.lst ((sortI ns).map V.int))) (sortedAll s.heap its out.toArray) (s.heap.objs.size + 1) (.lst ((sortI ns).map V.int)) := ⟨z, out, ep, vals_of_ints h1, he'⟩
  exact ⟨.ref _, _, I.laid (t' := s.toks) (fun _ _ => PyProof.Rows.sortedAll_old) (Nat.le_succ _) new, rfl, q _ (I.hok.fresh (Nat.le_succ _))⟩
def dSorted : PyData → Option MV
  | .list ds => (intsOf ds).map fun ns => .fre ((sortI ns).map .int)
  | .tuple ds => (intsOf ds).map fun ns => .fre ((sortI ns).map .int)
  | _ => none
theorem ok_sorted : CallOk X (.builtin "sorted") (c1 dSorted) := ok_c1 (CallR.or cr_sortedI call_sortT) fun G H x a z Q e hx hz k => by
  cases a <;> first | (cases hz; done) | skip
  · obtain ⟨ns, e1, e2⟩ := map2 hz
    cases e2
    cases intsOf_some e1
    obtain ⟨p, vs, rfl, h1, h2⟩ := hx.l e
    cases dqa_ints h2
    refine .inl ⟨p, ns, rfl, .inl h1, fun ns' t hp hs ht => ?_⟩
    cases sort_is hp hs
    exact k _ _ _ (.free e ht) (res_fre e ht (dqa_of_ints _))
  · obtain ⟨ns, e1, e2⟩ := map2 hz
    cases e2
    cases intsOf_some e1
    obtain ⟨p, vs, rfl, h1, h2⟩ := hx.t e
    cases dqa_ints h2
    exact .inr ⟨p, ns, rfl, .inl h1, fun t ht => k _ _ _ (.free e ht) (res_fre e ht (dqa_of_ints _))⟩
/-! ### xs.extend(ys) -/
def dExtend : List PyData → List PyData → Option (PyData × List PyData)
  | ds, [.list es] => if ds.length + es.length ≤ 100000 then some (.none, ds ++ es) else none
  | _, _ => none
/-- xs[i], xs[j] = a, b: both in one owned list -/
def sSet2 (i : Nat) (m n1 n2 : ME) : MS := fun μ => (m μ).bind fun p => (asD p.1).bind fun d => match d with
  | .tuple [a, b] => (getL p.2 i).bind fun _ => (n1 p.2).bind fun q => (deref q.2 q.1).bind fun x => (isI x).bind fun j => (getL q.2 i).bind fun ds => (ixN ds.length j).bind fun c =>
      (n2 (q.2.set i (some (.list (ds.set c a))))).bind fun q2 => (deref q2.2 q2.1).bind fun x2 => (isI x2).bind fun j2 => (getL q2.2 i).bind fun ds2 => (ixN ds2.length j2).map fun c2 => .nx (q2.2.set i (some (.list (ds2.set c2 b))))
  | _ => none
theorem set_one {i : Nat} {n : ME} {ti : TE} (hO : A.O.contains i = true) (ht : ∀ σ H Q, tE A n σ H Q → ti σ H Q) {G H : Hp} {μ μ2 : Mu} {σ : L2.St} {v : V} {a : PyData} {ds : List PyData} {y : MV} {x : PyData} {j : Int} {c : Nat} (R : Rl A G μ σ H) (hv : Dq G v a) (e0 : ∃ es, getL μ i = some es)
    (e1 : n μ = some (y, μ2)) (e2 : deref μ2 y = some x) (e3 : isI x = some j) (e4 : getL μ2 i = some ds) (e5 : ixN ds.length j = some c) {Q : L2.St → Hp → Prop}
    (k : ∀ G' H', Same G G' → Rl A G' (μ2.set i (some (.list (ds.set c a)))) σ H' → Q σ H') : gSub (tVar i) ti rSetL v σ H Q := by
  obtain ⟨es, e0⟩ := e0
  obtain ⟨a1, vs, ds1, f1, f2, f3, f4, f5, f6⟩ := R.ownL i (getL_some e0) (inO hO)
  refine ⟨.ref a1, f2, ht _ _ _ ⟨G, μ, y, μ2, R, e1, fun G2 H2 w s2 R2 q2 n2 => ?_⟩⟩
  obtain ⟨a2, vs2, ds2, g1, g2, g3, g4, g5, g6⟩ := R2.ownL i (getL_some e4) (inO hO)
  have ea : a2 = a1 := V.ref.inj (Option.some.inj (Option.some.inj (g2.symm.trans f2)))
  subst ea
  cases g1
  have hw := q2.db R2 e2
  rw [isI_some e3] at hw
  refine ⟨a2, vs2, j, c, rfl, hw.i, g3, by rw [dqa_len g4]; exact e5, ?_⟩
  obtain ⟨R3, s3⟩ := R2.upd (inO hO) g2 (getL_some e4) (dqa_set c g4 (dq_mono s2.g hv))
  exact k G2 _ s2.g R3
theorem qs_set2 {x : Str} {px px2 : Pos} {e ix ix2 : Expr} {pos spos spos2 tpos : Pos} {kk : Nat} {m n n2 : ME} (i : Nat) (he : PE X e (tE A m)) (hix : PE X ix (tE A n)) (hix2 : PE X ix2 (tE A n2)) (hO : A.O.contains i = true := by rfl) (hN : X.N[i]? = some x := by rfl) (hv : Vis X.env.scope x := by first | exact Or.inl rfl | exact Or.inr (Or.inl rfl) | exact Or.inr (Or.inr rfl)) (hd : (x == ("__debug__" : Str)) = false := by decide) (hcd : (x == ("__classdict__" : Str)) = false := by decide)
    (hc : X.calm = true := by rfl)
    (ha : ∀ v, assign (.Subscript (.Name x px) ix spos) X.env v = (do
      let ov ← holding [v] (eval (.Name x px) X.env)
      let iv ← holding [v, ov] (eval ix X.env)
      standAt spos
      holding [v, ov, iv] (setItem ov iv v)
      release [v, ov, iv] []) := by intro _; rfl)
    (ha2 : ∀ v, assign (.Subscript (.Name x px2) ix2 spos2) X.env v = (do
      let ov ← holding [v] (eval (.Name x px2) X.env)
      let iv ← holding [v, ov] (eval ix2 X.env)
      standAt spos2
      holding [v, ov, iv] (setItem ov iv v)
      release [v, ov, iv] []) := by intro _; rfl)
    (hs : swapsWithSole [.Tuple [.Subscript (.Name x px) ix spos, .Subscript (.Name x px2) ix2 spos2] kk tpos] e pos.line X.env = pure false := by rfl) (hw : swappedStores [.Tuple [.Subscript (.Name x px) ix spos, .Subscript (.Name x px2) ix2 spos2] kk tpos] e X.env = pure none := by rfl)
    (h1 : (assignEach [.Tuple [.Subscript (.Name x px) ix spos, .Subscript (.Name x px2) ix2 spos2] kk tpos] X.env).map (·.2) = [assign (.Tuple [.Subscript (.Name x px) ix spos, .Subscript (.Name x px2) ix2 spos2] kk tpos) X.env] := by rfl)
    (h2 : (assignEach [.Subscript (.Name x px) ix spos, .Subscript (.Name x px2) ix2 spos2] X.env).map (·.2) = assign (.Subscript (.Name x px) ix spos) X.env :: (assignEach [.Subscript (.Name x px2) ix2 spos2] X.env).map (·.2) := by rfl)
    (h3 : (assignEach [.Subscript (.Name x px2) ix2 spos2] X.env).map (·.2) = assign (.Subscript (.Name x px2) ix2 spos2) X.env :: (assignEach [] X.env).map (·.2) := by rfl)
    (h4 : (assignEach [.Subscript (.Name x px) ix spos, .Subscript (.Name x px2) ix2 spos2] X.env).length = 2 := by rfl) (h5 : (assignEach [.Subscript (.Name x px) ix spos, .Subscript (.Name x px2) ix2 spos2] X.env).findIdx? (·.1) = none := by rfl) :
    PS X (.Assign [.Tuple [.Subscript (.Name x px) ix spos, .Subscript (.Name x px2) ix2 spos2] kk tpos] e pos) (tS A (sSet2 i m n n2)) :=
  ps_to (ps_asg he (pg_tup hc (pgs_cons (pg_sub (pv i hN hv hd hcd) hix set_list ha) (pgs_cons (pg_sub (pv i hN hv hd hcd) hix2 set_list ha2) pgs_nil h3) h2) h4 h5) hs hw h1) fun D σ H ⟨G, μ, o, R, e, k⟩ => by
    obtain ⟨p, e1, e⟩ := bind2 e
    obtain ⟨d, e2, e⟩ := bind2 e
    split at e
    · rename_i a b
      obtain ⟨es0, f0, e⟩ := bind2 e
      obtain ⟨q, f1, e⟩ := bind2 e
      obtain ⟨x1, f2, e⟩ := bind2 e
      obtain ⟨j, f3, e⟩ := bind2 e
      obtain ⟨ds, f4, e⟩ := bind2 e
      obtain ⟨c, f5, e⟩ := bind2 e
      obtain ⟨q2, g1, e⟩ := bind2 e
      obtain ⟨x2, g2, e⟩ := bind2 e
      obtain ⟨j2, g3, e⟩ := bind2 e
      obtain ⟨ds2, g4, e⟩ := bind2 e
      obtain ⟨c2, g5, e⟩ := map2 e
      cases e
      refine ⟨G, μ, p.1, p.2, R, e1, fun G1 H1 v s1 R1 r1 n1 => ?_⟩
      rw [asD_some e2] at r1
      obtain ⟨t, vs, ev, t1, t2⟩ := Dw.tup (.inl r1)
      cases t2 with
      | cons ra t2 =>
        cases t2 with
        | cons rb t2 =>
          cases t2
          refine ⟨t, _, ev, .inl (rd_mono R1.ext t1), rfl, _, _, rfl, ?_⟩
          refine set_one hO (fun _ _ _ h => h) R1 ra ⟨es0, f0⟩ f1 f2 f3 f4 f5 fun G2 H2 sg R2 => ⟨_, _, rfl, ?_⟩
          have hlt : i < q.2.length := (List.getElem?_eq_some_iff.mp (getL_some f4)).1
          have f6 : getL (q.2.set i (some (.list (ds.set c a)))) i = some (ds.set c a) := by
            unfold getL
            rw [List.getElem?_set_self hlt]
          exact set_one hO (fun _ _ _ h => h) R2 (dq_mono sg rb) ⟨_, f6⟩ g1 g2 g3 g4 g5 fun G3 H3 sg3 R3 => ⟨rfl, k σ G3 H3 ((s1.g.trans sg).trans sg3) R3⟩
    · cases e
/-! ### xs[::-1] -/
def dRev : PyData → Option MV
  | .list ds => some (.fre ds.reverse)
  | _ => none
theorem qe_revL {e : Expr} {k : Nat} {p1 p2 p3 pos : Pos} {m : ME} (he : PE X e (tE A m)) : PE X (.Subscript e (.Slice none none (some (.UnaryOp .USub (.Constant (.int 1) k p1) p2)) p3) pos) (tE A (mUn dRev m)) := pe_to (pe_revL he) fun σ H Q ⟨G, μ, z, μ', R, e, k⟩ => by
  obtain ⟨p, e1, e⟩ := bind2 e
  obtain ⟨a, e3, e⟩ := bind2 e
  obtain ⟨w, e5, e⟩ := map2 e
  cases e
  refine ⟨G, μ, p.1, p.2, R, e1, fun G1 H1 v1 s1 R1 q1 n1 => ?_⟩
  have hb := q1.db R1 e3
  cases a <;> first | (cases e5; done) | skip
  cases e5
  obtain ⟨q, vs, ev, h1, h2⟩ := hb.l R1.ext
  refine ⟨q, vs, ev, .inl h1, fun t ht => ?_⟩
  have rs := res_fre R1.ext ht (dqa_rev h2)
  exact k _ _ _ (s1.trans (Grow.free R1.ext ht).step) (R1.grow (.free R1.ext ht)) (rs.rel R1) (rs.nw.back s1)
/-! ### a, b = x, y of plain locals -/
def sPar (i j : Nat) (m : MA) : MS := fun μ => (m μ).bind fun p => (dats p.1).bind fun ds => match ds with | [a, b] => some (.nx ((p.2.set i (some a)).set j (some b))) | _ => none
theorem qs_par {x y : Str} {a b : Expr} {m : MA} {px py pt : Pos} {kt k2 : Nat} {pt2 pos : Pos} (i j : Nat) (hN : X.N.Nodup) (ha : PA X [a, b] (tMA A m)) (hO : A.O.contains i = false := by rfl) (hO2 : A.O.contains j = false := by rfl) (hi : X.N[i]? = some x := by rfl) (hj : X.N[j]? = some y := by rfl) (hij : i ≠ j := by decide)
    (hx : X.env.scope.names.lookup x = some .local := by rfl) (hy : X.env.scope.names.lookup y = some .local := by rfl) (hc : X.calm = true := by rfl)
    (hw : swappedStores [.Tuple [.Name x px, .Name y py] kt pt] (.Tuple [a, b] k2 pt2) X.env = pure (some [x, y]) := by rfl)
    (hs : swapsWithSole [.Tuple [.Name x px, .Name y py] kt pt] (.Tuple [a, b] k2 pt2) pos.line X.env = pure false := by rfl) : PS X (.Assign [.Tuple [.Name x px, .Name y py] kt pt] (.Tuple [a, b] k2 pt2) pos) (tS A (sPar i j m)) :=
  ps_to (ps_par hc hN hi hj hij hx hy ha hw hs) fun D σ H ⟨G, μ, o, R, e, k⟩ => by
    obtain ⟨p, e1, e⟩ := bind2 e
    obtain ⟨ds, e2, e⟩ := bind2 e
    refine ⟨G, μ, p.1, p.2, R, e1, fun G1 H1 vs s1 R1 q1 => ?_⟩
    have q := dats_ok q1 e2
    split at e
    · cases e
      cases q with
      | cons h1 t =>
        cases t with
        | cons h2 t =>
          cases t
          exact ⟨_, _, rfl, k _ G1 H1 s1.g ((R1.set (notO hO) h1).set (notO hO2) h2)⟩
    · cases e
end
end ML

set_option maxRecDepth 100000
set_option maxHeartbeats 4000000
namespace ML
open PySem PySem.Spec PyProof.Rows L2 RZ
/-! ### where the built-ins stand -/
theorem bt_len : bootBuiltins "len" = some (.builtin "len") := by decide +kernel
theorem bt_abs : bootBuiltins "abs" = some (.builtin "abs") := by decide +kernel
theorem bt_max : bootBuiltins "max" = some (.builtin "max") := by decide +kernel
theorem bt_min : bootBuiltins "min" = some (.builtin "min") := by decide +kernel
theorem bt_sum : bootBuiltins "sum" = some (.builtin "sum") := by decide +kernel
theorem bt_all : bootBuiltins "all" = some (.builtin "all") := by decide +kernel
theorem bt_any : bootBuiltins "any" = some (.builtin "any") := by decide +kernel
theorem bt_sorted : bootBuiltins "sorted" = some (.builtin "sorted") := by decide +kernel
theorem bt_int : bootBuiltins "int" = some (.type "int") := by decide +kernel
theorem bt_bool : bootBuiltins "bool" = some (.type "bool") := by decide +kernel
theorem bt_str : bootBuiltins "str" = some (.type "str") := by decide +kernel
theorem bt_list : bootBuiltins "list" = some (.type "list") := by decide +kernel
theorem bt_tuple : bootBuiltins "tuple" = some (.type "tuple") := by decide +kernel
theorem bt_dict : bootBuiltins "dict" = some (.type "dict") := by decide +kernel
section
variable {X : Cx}
/-! ### a tuple's methods -/
def tBMT (r : V → List V → Hp → VK → Prop) (to : TE) (t : TA) : TE := fun σ H Q => to σ H fun x H1 => (∃ a ob xs, x = V.ref a ∧ H1 a = some (.frz ob (.tup xs)) ∧ ob.dict = none) ∧ t σ H1 fun ys H2 => r x ys H2 Q
theorem pe_bmT {o e : Expr} {es : List Expr} {to : TE} {t : TA} {name : Str} {apos cpos : Pos} {id : String} {r : V → List V → Hp → VK → Prop} (slot : Slot "tuple" name id) (hty : typeOf (.builtin id) = pure (.type "method_descriptor")) (hm : MtR X id r) (ho : PE X o to) (ha : PA X (e :: es) t)
    (hbase : attributeBase o name X.env (eval o X.env) = eval o X.env := by rfl)
    (hfew : ((backTo cpos (starEach (e :: es) X.env)).all (fun x => !x.1) && (backToKw cpos (keywordEach [] X.env)).all (fun x => x.1.isSome)
      && decide ((e :: es).length + ([] : List Keyword).length + (if ([] : List Keyword).isEmpty then 0 else 1) < 30)) = true := by rfl)
    (hline : (apos.endLine == cpos.line) = true := by rfl) (hs : starEach (e :: es) X.env = (false, eval e X.env) :: starEach es X.env := by rfl) (hplain : (backTo cpos (starEach es X.env)).any (·.1) = false := by rfl) :
    PE X (.Call (.Attribute o name apos) (e :: es) [] cpos) (tBMT r to t) := by
  refine ⟨fun pins s σ H Q I h => wpAny_Call_method_late hbase hfew hline rfl (thn (ho.run pins s σ H _ I h) fun v s1 ⟨x, H1, I1, r1, ⟨a, ob, xs, ex, ha1, hd⟩, q1⟩ => ?_)⟩
  subst ex
  cases r1
  obtain ⟨g0, _, its, _, o2, g1, g2, _⟩ := I1.hok a _ ha1
  have go : o2 = ob := Option.some.inj (g1.symm.trans g0)
  have tys : s1.TypeIs (.ref a) "tuple" := ⟨o2, g1, g2⟩
  refine ⟨"tuple", id, PySem.F.plainAttrs_tuple, slot, hty, tys, fun b eb => by cases eb; exact ⟨ob, g0, hd⟩, ?_⟩
  have hA := ha.run cpos pins s1 σ H1 _ I1 q1
  rw [hs] at hA ⊢
  refine Calls.callWith_builtin (show (false || (backTo cpos (starEach es X.env)).any (·.1)) = false by rw [hplain]; rfl) (Calls.evalArgs_plain (thn hA fun us s2 ⟨vs, H2, I2, r2, q2⟩ => ?_))
  exact hm pins s2 σ H2 (.ref a) vs (.ref a) us Q I2 rfl r2 q2
def rIndexT (K : PySem.W.Frag) : V → List V → Hp → VK → Prop := fun x xs H Q => ∃ (a : Addr) (ys : List V) (y : V) (j : Nat) (z : V), x = V.ref a ∧ xs = [y] ∧ SqT K H a ys ∧ flatV y = true ∧ ys.all flatV = true ∧ ys[j]? = some z ∧ eqV z y = true ∧
  (∀ (m : Nat) (z' : V), m < j → ys[m]? = some z' → eqV z' y = false) ∧ Q (.int (j : Nat)) H
theorem mt_indexT : MtR X "tuple.index" (rIndexT X.K) := by
  intro pins s σ H x xs v us Q I rx rxs ⟨a, ys, y, j, z, ex, exs, hs, fy, fys, hz, hzj, hno, q⟩
  subst ex exs
  cases rx
  obtain ⟨uy, eu, ry⟩ := vals1 rxs
  subst eu
  obtain ⟨its, rv, ⟨⟨cls, dd, dt, sl⟩, ho, hc, n, hd⟩, hlen⟩ := I.tuple hs
  simp only at hc hd
  subst hc hd
  have hl : its.toArray.size = ys.length := rv.length.symm
  have pick : ∀ (m : Nat) (hm : m < its.toArray.size) (w : V), ys[m]? = some w → eqU y its.toArray[m] = eqV w y := fun m hm w hw => by
    obtain ⟨u, hu, ru⟩ := rv.get hw
    have e1 : its.toArray[m] = u := by
      have := (List.getElem?_eq_some_iff.mp hu).2
      simpa using this
    rw [e1]
    exact eqU_of ru (flat_at fys hw)
  have hj : j < its.toArray.size := by rw [hl]; exact (List.getElem?_eq_some_iff.mp hz).1
  refine call_meets PySem.F.slot_tuple_index ⟨_, ho, rfl⟩ PySem.F.entry_tuple_index (PySem.F.args_tuple_index_2 _ _) (TI.tuple_indexAt a its.toArray n dd sl uy (eqU y) j hj ?_ ?_)
    ⟨ho, fun w hw => mem_eqAt ry fy rv fys w (by simpa using hw), ⟨.int (j : Nat), H, I.tok _, ⟨_, rfl⟩, q⟩⟩
  · rw [pick j hj z hz]; exact hzj
  · intro m hm hmj
    have hy : ys[m]? = some ys[m] := List.getElem?_eq_getElem (by rw [← hl]; exact hm)
    rw [pick m hm _ hy]
    exact hno m _ hmj hy
end
variable [KF]
section
variable {X : Cx} {A : Act}
/-! ### xs.index(x), t.index(x) -/
def idxOf (d : PyData) : List PyData → Option Nat
  | [] => none
  | x :: xs => if PyData.eqv x d = true then some 0 else (idxOf d xs).map (· + 1)
theorem idxOf_some {d : PyData} : ∀ {ds : List PyData} {j : Nat}, idxOf d ds = some j → ∃ z, ds[j]? = some z ∧ PyData.eqv z d = true ∧ ∀ m z', m < j → ds[m]? = some z' → PyData.eqv z' d = false
  | [], _, h => by cases h
  | x :: xs, j, h => by
    unfold idxOf at h
    split at h
    · rename_i hx
      cases h
      exact ⟨x, rfl, hx, fun m z' hm _ => absurd hm (Nat.not_lt_zero m)⟩
    · rename_i hx
      obtain ⟨i, e1, e2⟩ := map2 h
      subst e2
      obtain ⟨z, h1, h2, h3⟩ := idxOf_some e1
      refine ⟨z, by simpa using h1, h2, fun m z' hm hz => ?_⟩
      cases m with
      | zero =>
        simp at hz
        subst hz
        exact Bool.eq_false_iff.mpr hx
      | succ m => exact h3 m z' (by omega) (by simpa using hz)
def dIndexAt (ds : List PyData) (d : PyData) : Option PyData := if flatD d = true ∧ ds.all flatD = true then (idxOf d ds).map fun j => .int (j : Nat) else none
def mIndex (m n : ME) : ME := fun μ => (m μ).bind fun p => (asD p.1).bind fun a => (n p.2).bind fun q => (asD q.1).bind fun d => match a with
  | .list ds => (dIndexAt ds d).map fun z => (.dat z, q.2)
  | .tuple ds => (dIndexAt ds d).map fun z => (.dat z, q.2)
  | _ => none
theorem PE.or {e : Expr} {t u : TE} (h : PE X e t) (h' : PE X e u) : PE X e (fun σ H Q => t σ H Q ∨ u σ H Q) := ⟨fun pins s σ H Q I w => w.elim (h.run pins s σ H Q I) (h'.run pins s σ H Q I)⟩
theorem index_core {G : Hp} {vs : List V} {ds : List PyData} {y : V} {d : PyData} {z : PyData} (ha : DqAll G vs ds) (hy : Dq G y d) (h : dIndexAt ds d = some z) : ∃ (j : Nat) (w : V), z = .int (j : Nat) ∧ flatV y = true ∧ vs.all flatV = true ∧ vs[j]? = some w ∧ eqV w y = true ∧ ∀ (m : Nat) (z' : V), m < j → vs[m]? = some z' → eqV z' y = false := by
  unfold dIndexAt at h
  split at h
  · rename_i hf
    obtain ⟨j, e1, e2⟩ := map2 h
    obtain ⟨x, h1, h2, h3⟩ := idxOf_some e1
    obtain ⟨w, w1, w2⟩ := dqa_get ha h1
    have fx : flatD x = true := List.all_eq_true.mp hf.2 x (List.mem_of_getElem? h1)
    refine ⟨j, w, e2.symm, dq_flat hy hf.1, dqa_flat ha hf.2, w1, by rw [dq_eqV w2 hy fx hf.1]; exact h2, fun m z' hm hz => ?_⟩
    obtain ⟨x', x1, x2⟩ := dqa_get' ha hz
    rw [dq_eqV x2 hy (List.all_eq_true.mp hf.2 x' (List.mem_of_getElem? x1)) hf.1]
    exact h3 m x' hm x1
  · cases h
theorem qe_index {o e : Expr} {apos cpos : Pos} {m n : ME} (ho : PE X o (tE A m)) (ha : PE X e (tE A n))
    (hbase : attributeBase o "index" X.env (eval o X.env) = eval o X.env := by rfl)
    (hfew : ((backTo cpos (starEach [e] X.env)).all (fun x => !x.1) && (backToKw cpos (keywordEach [] X.env)).all (fun x => x.1.isSome)
      && decide (([e] : List Expr).length + ([] : List Keyword).length + (if ([] : List Keyword).isEmpty then 0 else 1) < 30)) = true := by rfl)
    (hline : (apos.endLine == cpos.line) = true := by rfl) (hs : starEach [e] X.env = (false, eval e X.env) :: starEach [] X.env := by rfl) (hplain : (backTo cpos (starEach [] X.env)).any (·.1) = false := by rfl) :
    PE X (.Call (.Attribute o "index" apos) [e] [] cpos) (tE A (mIndex m n)) := by
  refine pe_to (PE.or (pe_bm PySem.F.plainAttrs_list PySem.F.slot_list_index PySem.F.type_list_index mt_index ho (pa_cons ha pa_nil hs) hbase hfew hline hs hplain) (pe_bmT PySem.F.slot_tuple_index PySem.F.type_tuple_index mt_indexT ho (pa_cons ha pa_nil hs) hbase hfew hline hs hplain)) fun σ H Q ⟨G, μ, z, μ', R, e, k⟩ => ?_
  obtain ⟨p, e1, e⟩ := bind2 e
  obtain ⟨a, e2, e⟩ := bind2 e
  obtain ⟨q, e3, e⟩ := bind2 e
  obtain ⟨d, e4, e⟩ := bind2 e
  cases a <;> first | (cases e; done) | skip
  · obtain ⟨y, e5, e6⟩ := map2 e
    cases e6
    left
    refine ⟨G, μ, p.1, p.2, R, e1, fun G1 H1 v1 s1 R1 q1 n1 => ?_⟩
    rw [asD_some e2] at q1
    cases q1 with
    | @lst a vs _ h1 h2 =>
      refine ⟨.inl ⟨rfl, vs, .inl (rd_mono R1.ext h1)⟩, G1, p.2, q.1, q.2, R1, e3, fun G2 H2 v2 s2 R2 q2 n2 => ?_⟩
      rw [asD_some e4] at q2
      obtain ⟨j, w, ez, f1, f2, f3, f4, f5⟩ := index_core (dqa_mono s2.g h2) q2 e5
      subst ez
      exact ⟨a, vs, v2, j, w, rfl, rfl, .inl (rd_mono (s2.g.trans R2.ext) h1), f1, f2, f3, f4, f5, k G2 H2 _ (s1.trans s2) R2 (.int _) trivial⟩
  · obtain ⟨y, e5, e6⟩ := map2 e
    cases e6
    right
    refine ⟨G, μ, p.1, p.2, R, e1, fun G1 H1 v1 s1 R1 q1 n1 => ?_⟩
    rw [asD_some e2] at q1
    cases q1 with
    | @tup a ob vs _ h1 h0 h2 =>
      refine ⟨⟨a, ob, vs, rfl, R1.ext _ _ h1, h0⟩, G1, p.2, q.1, q.2, R1, e3, fun G2 H2 v2 s2 R2 q2 n2 => ?_⟩
      rw [asD_some e4] at q2
      obtain ⟨j, w, ez, f1, f2, f3, f4, f5⟩ := index_core (dqa_mono s2.g h2) q2 e5
      subst ez
      exact ⟨a, vs, v2, j, w, rfl, rfl, .inl (.inr ⟨ob, R2.ext _ _ (s2.g _ _ h1)⟩), f1, f2, f3, f4, f5, k G2 H2 _ (s1.trans s2) R2 (.int _) trivial⟩
/-! ### a temporary handed to a def that changes it -/
def mBagT (n : Nat) (F : List PyData → List PyData → Option (MV × List PyData)) (m0 : ME) (m : MA) : ME := fun μ => (m0 μ).bind fun p0 => (asF p0.1).bind fun es => (m p0.2).bind fun p => (dats p.1).bind fun ds => if ds.length + 1 = n then (F es ds).map fun q => (q.1, p.2) else none
theorem bagT_rd {n : Nat} {F : List PyData → List PyData → Option (MV × List PyData)} {m0 : ME} {m : MA} {E : XK} {σ : L2.St} {H : Hp} {Q : VK} (h : tE A (mBagT n F m0 m) σ H Q) : tCall (spB n F) [] E (tCons (tE A m0) (tMA A m)) σ H Q := by
  obtain ⟨G, μ, z, μ', R, e, k⟩ := h
  obtain ⟨p0, e0, e⟩ := bind2 e
  obtain ⟨es, e00, e⟩ := bind2 e
  obtain ⟨p, e1, e⟩ := bind2 e
  obtain ⟨ds, e2, e⟩ := bind2 e
  split at e
  · rename_i hl
    obtain ⟨⟨x, es'⟩, e4, e⟩ := map2 e
    cases e
    refine ⟨G, μ, p0.1, p0.2, R, e0, fun G0 H0 v0 s0 R0 q0 n0 => ⟨G0, p0.2, p.1, p.2, R0, e1, fun G1 H1 xs s1 R1 q1 => ?_⟩⟩
    rw [asF_some e00] at q0 n0
    obtain ⟨a2, vs2, ev, g3, g4, g5, g6, g7⟩ := q0.step s1
    subst ev
    have hs0 := n0 a2 rfl
    have q2 := dats_ok q1 e2
    show spB n F ((V.ref a2 :: xs) ++ []) H1 Q E
    rw [List.append_nil]
    refine ⟨G1, a2, xs, vs2, es, ds, x, es', rfl, by rw [List.length_cons, dqa_len q2]; exact hl, g3, g4, g5, q2, R1.ext, e4, fun v G2 H2 bs' h1 h2 h3 h4 h5 h6 h7 h8 => ?_⟩
    have s01 := s0.trans s1
    have st : Step A σ G H G2 H2 := ⟨s01.g.trans h1, fun b o hb nb => h3 b o (s01.h b o hb nb) (fun zz => by rw [zz, hs0] at hb; cases hb), fun b hb nb => h5 b (s01.lv b hb) (s01.fr b hb nb), fun b hb => h4 b (s01.lv b hb)⟩
    have R2 : Rl A G2 p.2 σ H2 := by
      refine ⟨R1.len, h2, R1.up.trans h1, fun b o hb nb => ?_, fun b hb => h4 b (R1.lv b hb), fun b hb nb => h5 b (R1.lv b hb) (R1.fg b hb nb), fun j d hj nn => ?_, fun j d hj nn => ?_, fun j b nn hb => h4 b (R1.liv j b nn hb), R1.sep, R1.par⟩
      · exact h3 b o (R1.fr b o hb nb) fun zz => by rw [zz, g6] at hb; cases hb
      · obtain ⟨u, w1, w2⟩ := R1.val j d hj nn
        exact ⟨u, w1, dq_mono h1 w2⟩
      · obtain ⟨q, o2, w2, w3, w4, w5, w6⟩ := R1.own j d hj nn
        have : q ≠ a2 := fun y => g7 ⟨j, nn, y ▸ w2⟩
        exact ⟨q, o2, w2, h3 _ _ w3 this, w4.mono h1, h5 q (by rw [w3]; exact fun z => nomatch z) w5, w6⟩
    exact k G2 H2 v st R2 (h8.rel R1) (h8.nw.back s01)
  · cases e
theorem qe_bagT {j n : Nat} {f : Addr} {fd : FuncData} {ps : List Str} {F : List PyData → List PyData → Option (MV × List PyData)} {x : Str} {p pos : Pos} {a : Expr} {es : List Expr} {m0 : ME} {m : MA} (ok : FnG X.prog X.w X.K X.mg X.base j f fd ps (spB n F)) (hr : Rm j X.A) (hg : Gl X x) (hm : X.mg x = some (.ref f)) (hk : PySem.W.keepIn X.K (.ref f) = true) (hb : Binds X.K fd ps [])
    (ha0 : PE X a (tE A m0)) (ha : PA X es (tMA A m)) (hdb : (x == ("__debug__" : Str)) = false := by decide) (he : starEach (a :: es) X.env = (false, eval a X.env) :: starEach es X.env := by rfl) (hpl : (backTo pos (starEach es X.env)).any (·.1) = false := by rfl) : PE X (.Call (.Name x p) (a :: es) [] pos) (tE A (mBagT n F m0 m)) :=
  pe_to (pg_call ok hr hg hm hk hb (pa_cons ha0 ha he) hdb he hpl) fun σ H Q h => bagT_rd h
/-! ### f(k = v, ..) -/
def permL {α : Type} (pl : List Nat) (ws : List α) : List α := pl.filterMap (ws[·]?)
theorem perm_vals {pl : List Nat} {vs : List V} {us : List Value} (r : Vals vs us) : Vals (permL pl vs) (permL pl us) := by
  unfold permL
  induction pl with
  | nil => exact .nil
  | cons i pl ih =>
    rw [List.filterMap_cons, List.filterMap_cons]
    cases e : vs[i]? with
    | none => rw [Vals.none_of r e]; exact ih
    | some v =>
      obtain ⟨u, e2, r2⟩ := r.get e
      rw [e2]
      exact .cons r2 ih
theorem perm_dqa {G : Hp} {pl : List Nat} {vs : List V} {ds : List PyData} (r : DqAll G vs ds) : DqAll G (permL pl vs) (permL pl ds) := by
  unfold permL
  induction pl with
  | nil => exact .nil
  | cons i pl ih =>
    rw [List.filterMap_cons, List.filterMap_cons]
    cases e : ds[i]? with
    | none =>
      have : vs[i]? = none := by
        have h1 := List.getElem?_eq_none_iff.mp e
        exact List.getElem?_eq_none_iff.mpr (by rw [dqa_len r]; exact h1)
      rw [this]; exact ih
    | some d =>
      obtain ⟨v, e2, r2⟩ := dqa_get r e
      rw [e2]
      exact .cons r2 ih
theorem kb_of {K : PySem.W.Frag} {x qual : Str} {st : Stmt} {f : Addr} {fd : FuncData} {ps ks : List Str} {pl : List Nat} {n : Nat} (F : Fun K x qual st f fd)
    (h : ∀ (kV doc pm : Value) (an : Option Addr) (cdv ct : Value) (ws : List Value), ws.length = n → bindArgs (PySem.W.fnOf x qual (defArgs st) (defBody st) (defScope st) .none kV doc pm an cdv ct) ⟨[], ks.zip ws⟩ = pure (ps.zip (permL pl ws))) : ∀ (s : Shared) (ws : List Value), ws.length = n → BindsTo s fd ⟨[], ks.zip ws⟩ (ps.zip (permL pl ws)) := by
  obtain ⟨oc, od, kV, doc, pm, an, cdv, ct, osl, rfl, lk, hcd⟩ := F.ex
  exact fun s ws hl => .of_eq (h kV doc pm an cdv ct ws hl)
theorem pk_to {kws : List Keyword} {t t' : TA} (h : PK X kws t) (k : ∀ σ H Q, t' σ H Q → t σ H Q) : PK X kws t' := ⟨fun pos pins s σ H Q I w => h.run pos pins s σ H Q I (k σ H Q w)⟩
theorem qk_nil : PK X [] (tMA A mNil) := pk_to pk_nil fun σ H Q ⟨G, μ, xs, μ', R, e, k⟩ => by
  cases e
  exact k G H [] .refl R .nil
theorem qk_cons {a : Expr} {kws : List Keyword} {nm : Option Str} {kpos : Pos} {m : ME} {r : MA} (h : PE X a (tE A m)) (hr : PK X kws (tMA A r)) : PK X (⟨nm, a, kpos⟩ :: kws) (tMA A (mCons m r)) :=
  pk_to (pk_cons h hr) fun σ H Q ⟨G, μ, xs, μ', R, e, k⟩ => by
    obtain ⟨p, e1, e⟩ := bind2 e
    obtain ⟨q, e2, e⟩ := map2 e
    cases e
    exact ⟨G, μ, p.1, p.2, R, e1, fun G1 H1 v1 s1 R1 q1 n1 => ⟨G1, p.2, q.1, q.2, R1, e2, fun G2 H2 vs s2 R2 q2 => k G2 H2 (v1 :: vs) (s1.trans s2) R2 (.cons (q1.step s2) q2)⟩⟩
def mCallK (n : Nat) (pl : List Nat) (F : List PyData → Option MV) (m : MA) : ME := fun μ => (m μ).bind fun p => (dats p.1).bind fun ds => if ds.length = n ∧ (permL pl ds).length = n then (F (permL pl ds)).map fun z => (z, p.2) else none
theorem qe_callK {j n : Nat} {f : Addr} {fd : FuncData} {ps ks : List Str} {F : List PyData → Option MV} {x : Str} {p pos : Pos} {kws : List Keyword} {m : MA} (pl : List Nat) (ok : FnG X.prog X.w X.K X.mg X.base j f fd ps (spP n F)) (hr : Rm j X.A) (hg : Gl X x) (hm : X.mg x = some (.ref f)) (hk : PySem.W.keepIn X.K (.ref f) = true)
    (hb : ∀ (s : Shared) (ws : List Value), ws.length = n → BindsTo s fd ⟨[], ks.zip ws⟩ (ps.zip (permL pl ws))) (hkw : PK X kws (tMA A m)) (hall : (backToKw pos (keywordEach kws X.env)).all (·.1.isSome) = true := by rfl) (hks : (backToKw pos (keywordEach kws X.env)).filterMap (·.1) = ks := by rfl)
    (hdb : (x == ("__debug__" : Str)) = false := by decide) (hpl : ((backTo pos (starEach [] X.env)).any (·.1) || (backToKw pos (keywordEach kws X.env)).any (·.1.isNone)) = false := by rfl) : PE X (.Call (.Name x p) [] kws pos) (tE A (mCallK n pl F m)) := by
  refine ⟨fun pins s σ H Q I ⟨G, μ, z, μ', R, e, k⟩ => wpAny_Call_Name_kw (ld_glob I hg hm ?_ hdb)⟩
  obtain ⟨p, e1, e⟩ := bind2 e
  obtain ⟨ds, e2, e⟩ := bind2 e
  split at e
  · rename_i hl
    obtain ⟨y, e3, e⟩ := map2 e
    cases e
    have run := hkw.run pos pins s σ H (fun zs H2 => spP n F (permL pl zs) H2 Q E0 ∧ zs.length = n) I ⟨G, μ, p.1, p.2, R, e1, fun G1 H1 vs s1 R1 q1 => by
      have q2 := dats_ok q1 e2
      refine ⟨⟨G1, permL pl ds, z, ?_, perm_dqa q2, R1.ext, e3, fun G2 H2 v g rs => k G2 H2 v (s1.trans g.step) (R1.grow g) (rs.rel R1) (rs.nw.back s1)⟩, by rw [dqa_len q2]; exact hl.1⟩
      rw [dqa_len (perm_dqa q2)]; exact hl.2⟩
    refine PySem.W.callWith_KW0 (h₀ := X.base) I.ok.mod.kin hk hall (thn run fun ws s2 ⟨zs, H2, I2, rz, q2, hz⟩ => ⟨I2.kIn, ?_⟩) hpl
    rw [hks]
    have r2 := perm_vals (pl := pl) rz
    refine wpAny_call (codeAny_mono (ok.go (us := permL pl ws) (vs := permL pl zs) (Q := Q) (E := E0) hr I2.env0 (hb s2 ws (by rw [← rz.length]; exact hz)) r2 q2) fun r s' hq => ?_)
    cases r with
    | error e => exact pass0 pins σ H2 s2 e s' I2 hq
    | ok fl =>
      cases fl with
      | ret u => exact I2.after hq
      | next => exact hq.elim
      | brk => exact hq.elim
      | cont => exact hq.elim
  · cases e
/-! ### isinstance(x, (T, U)) -/
def fIsi2 (T U : String) (a : PyData) : Option MV := if a.hasDict = false then some (.dat (.bool (tyB T (kindOf a) || tyB U (kindOf a)))) else none
def mIs2 (T U : String) (m : ME) : ME := fun μ => (m μ).bind fun p => (deref p.2 p.1).bind fun a => (fIsi2 T U a).map fun z => (z, p.2)
theorem qe_isi2 {e : Expr} {p p2 p3 p4 pos : Pos} {kk : Nat} {x y : Str} {T U : String} {m : ME} (hg : Gl X "isinstance") (hm : X.mg "isinstance" = none) (hg2 : Gl X x) (hm2 : X.mg x = none) (hv2 : bootBuiltins x = some (.type T)) (hg3 : Gl X y) (hm3 : X.mg y = none) (hv3 : bootBuiltins y = some (.type U)) (he : PE X e (tE A m))
    (kt : (["NoneType", "bool", "int", "str", "list", "tuple"].all fun k => kitB k T == some (tyB T k) && kitB k U == some (tyB U k)) = true := by decide +kernel) (hv : bootBuiltins "isinstance" = some (.builtin "isinstance") := by first | rfl | decide +kernel)
    (hn : x ≠ "__name__" := by decide) (hdb : (x == ("__debug__" : Str)) = false := by decide) (hn3 : y ≠ "__name__" := by decide) (hdb3 : (y == ("__debug__" : Str)) = false := by decide)
    (h1 : starEach [e, .Tuple [.Name x p2, .Name y p3] kk p4] X.env = (false, eval e X.env) :: starEach [.Tuple [.Name x p2, .Name y p3] kk p4] X.env := by rfl)
    (h2 : starEach [Expr.Tuple [.Name x p2, .Name y p3] kk p4] X.env = (false, eval (Expr.Tuple [.Name x p2, .Name y p3] kk p4) X.env) :: starEach [] X.env := by rfl)
    (h3 : (backTo pos (starEach [Expr.Tuple [.Name x p2, .Name y p3] kk p4] X.env)).any (·.1) = false := by rfl)
    (h4 : starEach [Expr.Name x p2, .Name y p3] X.env = (false, eval (Expr.Name x p2) X.env) :: starEach [.Name y p3] X.env := by rfl) (h5 : starEach [Expr.Name y p3] X.env = (false, eval (Expr.Name y p3) X.env) :: starEach [] X.env := by rfl) :
    PE X (.Call (.Name "isinstance" p) [e, .Tuple [.Name x p2, .Name y p3] kk p4] [] pos) (tE A (mIs2 T U m)) := by
  refine pe_to (pe_callB call_isiT hg hm hv (pa_cons he (pa_cons (pe_tup (pa_cons (pe_bltn (v := .ty T) hg2 hm2 hv2 rfl hn hdb) (pa_cons (pe_bltn (v := .ty U) hg3 hm3 hv3 rfl hn3 hdb3) pa_nil h5) h4)) pa_nil h2) h1) (by decide) (by decide) h1 h3) fun σ H Q ⟨G, μ, z, μ', R, e, k⟩ => ?_
  obtain ⟨p, e1, e⟩ := bind2 e
  obtain ⟨a, e2, e⟩ := bind2 e
  obtain ⟨w, e3, e⟩ := map2 e
  cases e
  unfold fIsi2 at e3
  split at e3
  · rename_i nd
    cases e3
    refine ⟨G, μ, p.1, p.2, R, e1, fun G1 H1 v1 s1 R1 q1 n1 => ⟨by show 2 ≤ sizeLine; decide, fun t ht => ?_⟩⟩
    have mem : kindOf a ∈ ["NoneType", "bool", "int", "str", "list", "tuple"] := by
      cases a with
      | dict _ => simp [PyData.hasDict] at nd
      | _ => simp [kindOf]
    have kt' := List.all_eq_true.mp kt _ mem
    rw [Bool.and_eq_true] at kt'
    have k1 : kitB (kindOf a) T = some (tyB T (kindOf a)) := eq_of_beq kt'.1
    have k2 : kitB (kindOf a) U = some (tyB U (kindOf a)) := eq_of_beq kt'.2
    have g := Grow.free (o := .tup [.ty T, .ty U]) R1.ext ht
    refine ⟨v1, t, [.ty T, .ty U], .type (kindOf a), [.type T, .type U], tyB T (kindOf a) || tyB U (kindOf a), rfl, upd_same, .cons (.ty T) (.cons (.ty U) .nil), ty_of g.gh ((q1.step g.step).db (R1.grow g) e2) nd, ?_, k G1 _ _ (s1.trans g.step) (R1.grow g) (.bl _) trivial⟩
    refine kitAny_cons (kit_ty k1) (fun hb => ?_) (fun hb => by rw [hb]; rfl)
    refine kitAny_cons (kit_ty k2) (fun hb2 => ?_) (fun hb2 => by rw [hb2]; cases tyB T (kindOf a) <;> rfl)
    rw [hb, hb2]
    rfl
  · cases e3
/-! ### a def that calls itself, at no depth -/
theorem ok_none {P : Program} {w : World} {K : PySem.W.Frag} {mg : Str → Option Value} {base : Heap} {j n : Nat} {f : Addr} {fd : FuncData} {ps : List Str} {F : List PyData → Option MV} (hF : F = fun _ => none) : FnG P w K mg base j f fd ps (spP n F) := by
  subst hF
  exact ⟨(fun {vs H Q E} ⟨_, _, _, _, _, _, h, _⟩ => by cases h), (fun {A outer s H args us vs Q E} hr he hb r ⟨_, _, _, _, _, _, h, _⟩ => by cases h)⟩
end
/-! ### a comprehension within one -/
def relab (sc1 sc : Scope) : Scope := { sc with names := sc.names.map fun (n, k) => if k == NameKind.free && sc1.kind == .function && sc1.names.lookup n == some .cell then (n, NameKind.cell) else (n, k) }
theorem blk_in {N : List Str} {sc2 scope : Scope} {own : List (Str × Nat)} {cl : List (Str × Addr)} {C : Addr} {env : Env} (sc1 : Scope) (h : blkC N (relab sc1 sc2) scope own = true) (he : env.scope = sc1 := by rfl) : BlkOk N (compEnvC sc2 cl C env).scope scope own := by
  subst he
  exact blkOk_by h
/-! ### the law -/
omit [KF] in
theorem law_end {K : PySem.W.Frag} {F : List PyData → Option MV} {H : Hp} {a : Addr} {ns : List Int} {E : XK} (h : F [scrD ns] = some (.dat (.bool true))) (hS : SqL K H a (ns.map V.int)) : @spP ⟨K⟩ 1 F [.ref a] H (fun v _ => v = .bl true) E :=
  letI : KF := ⟨K⟩
  ⟨H, [scrD ns], .dat (.bool true), rfl, .cons (.scr hS) .nil, .refl H, h, fun G' H' v g r => dq_bl r⟩
end ML

set_option maxRecDepth 100000
set_option maxHeartbeats 4000000
namespace ML
open PySem PySem.Spec PyProof.Rows L2 RZ
variable [KF]
section
variable {X : Cx} {A : Act}
/-! ### an answer that is flat, told from all that stands: the owned lists are lent -/
def mLend (O : List Nat) (m : ME) : ME := fun μ => if O.all (fun i => match μ[i]? with | some (some (.dict _)) => false | _ => true) = true then (m μ).bind fun p => if scalV p.1 = true then some (p.1, μ) else none else none
theorem rl_lend {G H : Hp} {μ : Mu} {σ : L2.St} (R : Rl A G μ σ H) (nd : ∀ i ∈ A.O, ∀ es, μ[i]? ≠ some (some (.dict es))) : Rl (act0 [] H H) H μ σ H := by
  refine ⟨R.len, .refl _, .refl _, fun _ _ h _ => h, fun _ h => h, fun _ _ h => h, fun i d hi _ => ?_, (fun i d hi hn => nomatch hn), (fun i a hn => nomatch hn), (fun i j p hn => nomatch hn), (fun i hn => nomatch hn)⟩
  by_cases ho : i ∈ A.O
  · obtain ⟨p, o, h1, h2, h3, _⟩ := R.own i d hi ho
    rcases h3 with ⟨vs, ds, rfl, rfl, h3⟩ | ⟨kvs, es, rfl, rfl, h3⟩
    · exact ⟨.ref p, h1, .lst (.inl h2) (dqa_mono R.ext h3)⟩
    · exact absurd hi (nd i ho es)
  · obtain ⟨v, h1, h2⟩ := R.val i d hi ho
    exact ⟨v, h1, dq_mono R.ext h2⟩
theorem qe_lend {e : Expr} {m : ME} {O : List Nat} (h : ∀ G0 H0 : Hp, PE X e (tE (act0 [] G0 H0) m)) (hO : A.O = O := by rfl) : PE X e (tE A (mLend O m)) := by
  refine ⟨fun pins s σ H Q I ⟨G, μ, z, μ', R, e, k⟩ => ?_⟩
  have e : (if O.all (fun i => match μ[i]? with | some (some (.dict _)) => false | _ => true) = true then (m μ).bind fun p => if scalV p.1 = true then some (p.1, μ) else none else none) = some (z, μ') := e
  split at e
  case isFalse => cases e
  rename_i ha
  have nd : ∀ i ∈ A.O, ∀ es, μ[i]? ≠ some (some (.dict es)) := fun i hi es hq => by
    have := List.all_eq_true.mp ha i (hO ▸ hi)
    rw [hq] at this
    cases this
  obtain ⟨p, e1, e⟩ := bind2 e
  split at e
  · rename_i hs
    cases e
    refine (h H H).run pins s σ H Q I ⟨H, μ, p.1, p.2, rl_lend R nd, e1, fun G1 H1 v s1 R1 q1 n1 => ?_⟩
    have sm : Same H H1 := fun a o ha => s1.h a o ha fun ⟨i, hi, _⟩ => by cases hi
    have g2 : Grow G H G H1 := ⟨.refl _, sm, R.ext.trans sm, fun _ _ h => h⟩
    cases hz : p.1 with
    | dat d =>
      rw [hz] at q1 hs
      exact k G H1 v g2.step (R.grow g2) (by rw [hz]; exact scal_any (show Dq G1 v d from q1) hs) (by rw [hz]; trivial)
    | own i => rw [hz] at hs; cases hs
    | fre ds => rw [hz] at hs; cases hs
  · cases e
end
/-! ### t[::-1] -/
namespace TR
open HT
variable {prog : Program} {w : World} {A : Around} {E : Value → Shared → Prop} {s : Shared}
theorem applied_rev {sl : Addr} {va vb vc : Value} {n : Nat} {Q : Int × Int × Nat → Shared → Prop} (hs : s.heap.IsSliceOf sl va vb vc) (pa : IsPart va none) (pb : IsPart vb none) (pc : IsPart vc (some (-1)))
    (h : Q ((n : Int) - 1, -1, n) s) : wpAny (model prog w) A (Builtin.Slice.sliceApplied (.ref sl) (pure (n : Int))) Q E s := by
  obtain ⟨o1, h1, h2, h3⟩ := id hs
  unfold Builtin.Slice.sliceApplied Builtin.Slice.sliceFields
  refine wpAny_bind (wpAny_bind (wpAny_field h1 h3 (x := va) rfl (wpAny_bind (wpAny_field h1 h3 (x := vb) rfl (wpAny_bind (wpAny_field h1 h3 (x := vc) rfl (wpAny_pure ?_)))))))
  refine wpAny_bind (slicePart_ pc ?_)
  show wpAny _ _ (if ((-1 : Int) == 0) = true then _ else _) _ _ s
  rw [if_neg (show ¬ ((-1 : Int) == 0) = true by decide)]
  refine wpAny_bind (slicePart_ pa (wpAny_bind (slicePart_ pb (wpAny_bind (wpAny_pure ?_)))))
  have e1 : Builtin.Slice.sliceAdjust none none (-1) (n : Int) = ((n : Int) - 1, -1) := rfl
  have e2 : Builtin.Slice.slicePlaces ((n : Int) - 1) (-1) (-1) = n := by
    unfold Builtin.Slice.slicePlaces
    rw [if_neg (by decide)]
    by_cases z : n = 0
    · subst z; rfl
    · rw [if_pos (by omega), show (- -1 : Int) = 1 by decide, Int.ediv_one]
      omega
  show wpAny _ _ (match Builtin.Slice.sliceAdjust none none (-1) (n : Int) with | (a, b) => pure (a, (-1 : Int), Builtin.Slice.slicePlaces a b (-1))) _ _ s
  rw [e1]
  show wpAny _ _ (pure ((n : Int) - 1, (-1 : Int), Builtin.Slice.slicePlaces ((n : Int) - 1) (-1) (-1))) _ _ s
  rw [e2]
  exact wpAny_pure h
theorem fm_congr {α β : Type} {f g : α → Option β} : ∀ {l : List α}, (∀ x ∈ l, f x = g x) → l.filterMap f = l.filterMap g
  | [], _ => rfl
  | x :: l, h => by
    rw [List.filterMap_cons, List.filterMap_cons, h x (by simp), fm_congr fun y hy => h y (by simp [hy])]
theorem pick_rev (xs : Array Value) : ((List.range xs.size).filterMap fun (m : Nat) => xs[(((xs.size : Int) - 1) + (m : Int) * -1).toNat]?).toArray = xs.toList.reverse.toArray := by
  have e : (List.range xs.size).filterMap (fun (m : Nat) => xs[(((xs.size : Int) - 1) + (m : Int) * -1).toNat]?) = ((List.range xs.size).map fun k => xs.size - 1 - k).filterMap (xs[·]?) := by
    rw [List.filterMap_map]
    refine fm_congr fun m hm => ?_
    have hm := List.mem_range.mp hm
    show xs[(((xs.size : Int) - 1) + (m : Int) * -1).toNat]? = xs[xs.size - 1 - m]?
    rw [show (((xs.size : Int) - 1) + (m : Int) * -1).toNat = xs.size - 1 - m by omega]
  rw [e, PySem.W.krv_range, List.filterMap_reverse, PySem.W.krv_all]
theorem getItem_rev {t sl : Addr} {items : Array Value} {va vb vc : Value} {Q : Value → Shared → Prop} (q1 : IsTup s.heap t items) (q2 : s.heap.IsSliceOf sl va vb vc) (pa : IsPart va none) (pb : IsPart vb none) (pc : IsPart vc (some (-1)))
    (h : Q (.ref s.heap.objs.size) { s with heap := s.heap.push { cls := .type "tuple", data := .seq items.toList.reverse.toArray } }) (z : items.size ≤ sizeLine) : wpAny (model prog w) A (getItem (.ref t) (.ref sl)) Q E s := by
  have hz : sizeOk (.seq items.toList.reverse.toArray) := by
    show items.toList.reverse.toArray.size ≤ sizeLine
    rw [List.size_toArray, List.length_reverse, Array.length_toList]
    exact z
  obtain ⟨o1, h1, h2, h3⟩ := id q2
  have q3 : s.TypeIs (.ref sl) "slice" := ⟨o1, h1, h2⟩
  unfold getItem
  (try with_reducible refine wpAny_holding ?_); (first | refine wpAny_bind (wpAny_pure ?_) | skip)
  refine wpAny_bind (wpAny_sequenceKey q1.typeIs (by decide) (wpAny_bind (wpAny_callSpecial?_slot (name := Str.ofString "__getitem__") q1.typeIs PyProof.Rows.slot_tuple_getitem (wpAny_call_entry PyProof.Rows.slot_tuple_getitem q1.typeIs entry_tuple_getitem ?_ (args_tuple_getitem _ _)))))
  show wpAny _ _ (Builtin.Tuple.tupleItemsOf (.ref t) >>= _) _ _ s
  refine wpAny_bind (tupleItemsOf_ q1 (wpAny_bind (wpAny_typeOf q3 ?_)))
  rw [if_pos (by decide)]
  refine wpAny_bind (applied_rev q2 pa pb pc ?_)
  have hno : ¬ (((items.size : Int) - 1 == 0 && (-1 : Int) == 1 && items.size == items.size) = true) := by
    rw [show ((-1 : Int) == 1) = false from rfl, Bool.and_false, Bool.false_and]
    exact Bool.false_ne_true
  show wpAny _ _ (if ((items.size : Int) - 1 == 0 && (-1 : Int) == 1 && items.size == items.size) = true then _ else _) _ _ s
  rw [if_neg hno, pick_rev]
  first
    | exact wpAny_bind (m := Builtin.Tuple.tupleExact _) (wpAny_newObj_type (wpAny_pure ⟨_, rfl, wpAny_pure h⟩) hz)
    | exact wpAny_bind (m := Builtin.Tuple.tupleExact _) (wpAny_newObj_type (wpAny_bind (wpAny_pure (wpAny_pure ⟨_, rfl, wpAny_pure h⟩))) hz)
    | exact wpAny_bind (wpAny_bind (m := Builtin.Tuple.tupleExact _) (wpAny_newObj_type (wpAny_pure (wpAny_pure ⟨_, rfl, wpAny_pure h⟩)) hz))
    | exact wpAny_bind (wpAny_bind (m := Builtin.Tuple.tupleExact _) (wpAny_newObj_type (wpAny_pure ⟨_, rfl, wpAny_pure h⟩) hz))
end TR
section
variable {X : Cx} {A : Act}
def tRevT (K : PySem.W.Frag) (te : TE) : TE := fun σ H Q => te σ H fun x H1 => ∃ a xs, x = .ref a ∧ SqT K H1 a xs ∧ NewT H1 Q xs.reverse
theorem pe_revT {e : Expr} {te : TE} {k : Nat} {p1 p2 p3 pos : Pos} (he : PE X e te) : PE X (.Subscript e (.Slice none none (some (.UnaryOp .USub (.Constant (.int 1) k p1) p2)) p3) pos) (tRevT X.K te) := by
  refine ⟨fun pins s σ H Q I h => Subscript_ (thn (he.run pins s σ H _ I h) fun v s1 ⟨x, H1, I1, r1, a, xs, ex, hx, q⟩ => ?_)⟩
  subst ex
  cases r1
  have part : PO X (some (.UnaryOp .USub (.Constant (.int 1) k p1) p2)) (tPart (tUn (rU fun i => .int (-i)) (tC (.int 1)))) := po_some (pe_un un_neg pe_int)
  refine wpAny_Slice (thn (po_none.run pins s1 σ H1 (fun o G => o = none ∧ G = H1) I1 ⟨rfl, rfl⟩) fun va s2 ⟨l, H2, I2, pa, el, e2⟩ => ?_)
  subst el e2
  refine thn (po_none.run pins s2 σ H2 (fun o G => o = none ∧ G = H2) I2 ⟨rfl, rfl⟩) fun vb s3 ⟨u, H3, I3, pb, eu, e3⟩ => ?_
  subst eu e3
  refine thn (part.run pins s3 σ H3 (fun o G => o = some (-1) ∧ G = H3) I3 ⟨1, rfl, -1, rfl, rfl, rfl⟩) fun vc s4 ⟨o, H4, I4, pc, eo, e4⟩ => ?_
  subst eo e4
  have I5 : Inv X pins σ H4 { s4 with heap := s4.heap.push { cls := .type "slice", data := .fields #[va, vb, vc] } } := I4.kept (t' := s4.toks) fun b ob q => Heap.get?_push_of_some _ q
  obtain ⟨its, r, ht, hz⟩ := I5.tuple hx
  have hlen := r.length
  show wpAny (model X.prog X.w) X.A (subscriptTail e (.Slice none none (some (.UnaryOp .USub (.Constant (.int 1) k p1) p2)) p3) (.ref a) (.ref s4.heap.objs.size)) (EP X pins σ Q) X.xe { s4 with heap := s4.heap.push { cls := .type "slice", data := .fields #[va, vb, vc] } }
  refine tail_any (ops := [.ref a, .ref s4.heap.objs.size]) ht.typeIs (PyProof.Rows.slot_tuple_getitem.lookup) ?_ (by with_unfolding_all rfl)
  refine TR.getItem_rev ht (Heap.IsSliceOf.new _ va vb vc) pa pb pc ?_ (by rw [List.size_toArray]; omega)
  exact fin_tup (t' := s4.toks) I5 r.reverse (by rw [List.length_reverse]; exact hz) q
def dRevA : PyData → Option MV
  | .list ds => some (.fre ds.reverse)
  | .tuple ds => some (.dat (.tuple ds.reverse))
  | _ => none
theorem qe_rev {e : Expr} {k : Nat} {p1 p2 p3 pos : Pos} {m : ME} (he : PE X e (tE A m)) : PE X (.Subscript e (.Slice none none (some (.UnaryOp .USub (.Constant (.int 1) k p1) p2)) p3) pos) (tE A (mUn dRevA m)) := pe_to (PE.or (pe_revL he) (pe_revT he)) fun σ H Q ⟨G, μ, z, μ', R, e, k⟩ => by
  obtain ⟨p, e1, e⟩ := bind2 e
  obtain ⟨a, e3, e⟩ := bind2 e
  obtain ⟨w, e5, e⟩ := map2 e
  cases e
  cases a with
  | list ds =>
    cases e5
    refine .inl ⟨G, μ, p.1, p.2, R, e1, fun G1 H1 v1 s1 R1 q1 n1 => ?_⟩
    obtain ⟨q, vs, ev, h1, h2⟩ := (q1.db R1 e3).l R1.ext
    refine ⟨q, vs, ev, .inl h1, fun t ht => ?_⟩
    have rs := res_fre R1.ext ht (dqa_rev h2)
    exact k _ _ _ (s1.trans (Grow.free R1.ext ht).step) (R1.grow (.free R1.ext ht)) (rs.rel R1) (rs.nw.back s1)
  | tuple ds =>
    cases e5
    refine .inr ⟨G, μ, p.1, p.2, R, e1, fun G1 H1 v1 s1 R1 q1 n1 => ?_⟩
    obtain ⟨q, vs, ev, h1, h2⟩ := (q1.db R1 e3).t R1.ext
    refine ⟨q, vs, ev, .inl h1, fun t o ht od => ?_⟩
    have rs := res_tup R1.ext ht od (dqa_rev h2)
    exact k _ _ _ (s1.trans (Grow.new R1.ext ht).step) (R1.grow (.new R1.ext ht)) (rs.rel R1) (rs.nw.back s1)
  | _ => cases e5
end
end ML

set_option maxRecDepth 100000
set_option maxHeartbeats 4000000
/-! enumerate(zip(xs, ys)) over lists -/
namespace EZ
open PySem PySem.Spec
section
variable {prog : Program} {w : World} {A : Around} {E : Value → Shared → Prop} {s : Shared}
/-- a zip, whatever it knows of the tuple that it gave out last -/
abbrev ZG (h : Heap) (zz tI tO : Addr) (f0 : Value) (f : Bool) : Prop := h.get? zz = some { cls := .type "zip", dict := none, data := .fields #[f0, .bool f, .bool false, .ref tI, .ref tO], slots := #[] }
theorem alive_or {a : Addr} {Q : Option Obj → Shared → Prop} (h : Q (s.heap.get? a) s) : wpAny (model prog w) A (loadIfAlive a) Q E s := fun _ _ _ => h
/-- its own tuple is told free -/
def Free (prog : Program) (w : World) (s : Shared) (zz : Addr) : Prop := ∀ (A : Around) (E : Value → Shared → Prop) (Q : Bool → Shared → Prop), Q true s → wpAny (model prog w) A (Builtin.SmallTypes.ownedTupleIsFree (.ref zz)) Q E s
theorem free_none {zz tI tO : Addr} {f : Bool} (m : ZG s.heap zz tI tO .none f) : Free prog w s zz := fun A E Q q => by
  unfold Builtin.SmallTypes.ownedTupleIsFree
  exact wpAny_bind (wpAny_field m rfl (x := .none) rfl (wpAny_pure q))
theorem free_dead {zz tI tO T : Addr} {f : Bool} (m : ZG s.heap zz tI tO (rawInt T) f) (d : s.heap.get? T = none) : Free prog w s zz := fun A E Q q => by
  unfold Builtin.SmallTypes.ownedTupleIsFree
  refine wpAny_bind (wpAny_field m rfl (x := rawInt T) rfl ?_)
  show wpAny _ _ (loadIfAlive ((T : Int).toNat) >>= _) _ _ _
  rw [Int.toNat_natCast]
  refine wpAny_bind (alive_or ?_)
  rw [d]
  exact wpAny_pure q
theorem again_item {zz tI tO ia ib la lb : Addr} {j k : Nat} {us vs : Array Value} {u v a b f0 : Value} {f : Bool} {Q : Value → Shared → Prop} (D : ZipApart zz tI tO ia ib la lb)
    (m : ZG s.heap zz tI tO f0 f) (fr : Free prog w s zz) (mI : IsPair s.heap tI (.ref ia) (.ref ib)) (mO : IsPair s.heap tO a b)
    (p1 : s.heap.IsListIter ia la j) (p2 : s.heap.IsListIter ib lb k) (q1 : s.heap.IsList la us) (q2 : s.heap.IsList lb vs) (hu : us[j]? = some u) (hv : vs[k]? = some v)
    (fin : ∀ h', ZG h' zz tI tO (rawInt s.heap.objs.size) false → IsPair h' tO u v → h'.IsListIter ia la (j + 1) → h'.IsListIter ib lb (k + 1) → IsPair h' s.heap.objs.size u v → h'.objs.size = s.heap.objs.size + 1 →
      (∀ c o, c ≠ zz → c ≠ tO → c ≠ ia → c ≠ ib → s.heap.get? c = some o → h'.get? c = some o) → Q (.ref s.heap.objs.size) { s with heap := h' }) :
    wpAny (model prog w) A (Builtin.«zip.__next__» ⟨[.ref zz], []⟩) (fun fin s' => ∃ y, fin = .done (.ret y) ∧ Q y s') E s := by
  show wpAny _ _ (field (.ref zz) 2 >>= _) _ _ _
  refine wpAny_bind (wpAny_field m rfl (x := .bool false) rfl ?_)
  show wpAny _ _ (field (.ref zz) 3 >>= _) _ _ _
  refine wpAny_bind (wpAny_field m rfl (x := .ref tI) rfl (wpAny_bind (wpAny_seqItems mI rfl ?_)))
  show wpAny _ _ (Builtin.SmallTypes.ownedTupleIsFree (.ref zz) >>= _) _ _ _
  refine wpAny_bind (fr _ _ _ ?_)
  simp only [if_true]
  refine wpAny_bind (wpAny_rule (wpAny_bind (wpAny_field m rfl (x := .ref tO) rfl (wpAny_bind (wpAny_setField_rec m (by simp) fun g1 m1 e1 => ?_)))))
  replace m1 : ZG g1 zz tI tO .ellipsis f := m1
  refine wpAny_bind ?_
  simp only [List.zipIdx_cons, List.zipIdx_nil, List.forIn_cons, List.forIn_nil]
  refine wpAny_bind (wpAny_bind (wpAny_onRaise ?_))
  show wpAny _ _ (Builtin.SmallTypes.nextOf (.ref ia) >>= _) _ _ _
  refine wpAny_bind (wpAny_nextOf_list_item (p1.extBut e1.extBut D.i1z) (q1.extBut e1.extBut D.l1z) hu fun g2 p1' e2 => wpAny_pure ?_)
  have mO2 : IsPair g2 tO a b := e2.extBut _ _ D.TOi1 (e1.extBut _ _ D.TOz mO)
  refine wpAny_bind (wpAny_seqItems mO2 rfl (wpAny_bind (wpAny_updateSeq_pair mO2 fun g3 mO3 e3 => ?_)))
  replace mO3 : IsPair g3 tO u b := mO3
  refine wpAny_bind (wpAny_letGo (wpAny_pure (wpAny_bind (wpAny_bind (wpAny_onRaise ?_)))))
  show wpAny _ _ (Builtin.SmallTypes.nextOf (.ref ib) >>= _) _ _ _
  have p2a := ((p2.extBut e1.extBut D.i2z).extBut e2.extBut D.i12.symm).extBut e3.extBut D.TOi2.symm
  have q2a := ((q2.extBut e1.extBut D.l2z).extBut e2.extBut D.l2i1).extBut e3.extBut D.l2TO
  refine wpAny_bind (wpAny_nextOf_list_item p2a q2a hv fun g4 p2' e4 => wpAny_pure ?_)
  have mO4 : IsPair g4 tO u b := e4.extBut _ _ D.TOi2 mO3
  refine wpAny_bind (wpAny_seqItems mO4 rfl (wpAny_bind (wpAny_updateSeq_pair mO4 fun g5 mO5 e5 => ?_)))
  replace mO5 : IsPair g5 tO u v := mO5
  refine wpAny_bind (wpAny_letGo (wpAny_pure (wpAny_pure (wpAny_bind (wpAny_seqItems mO5 rfl (wpAny_bind (wpAny_newTuple ?_)))))))
  have z5 : g5.objs.size = s.heap.objs.size := by rw [e5.1, e4.1, e3.1, e2.1, e1.1]
  have m5 : ZG g5 zz tI tO .ellipsis f := e5.extBut _ _ D.TOz.symm (e4.extBut _ _ D.i2z.symm (e3.extBut _ _ D.TOz.symm (e2.extBut _ _ D.i1z.symm m1)))
  have k5 : ∀ c o, c ≠ zz → c ≠ tO → c ≠ ia → c ≠ ib → s.heap.get? c = some o → g5.get? c = some o := fun c o n1 n2 n3 n4 x =>
    e5.extBut _ _ n2 (e4.extBut _ _ n4 (e3.extBut _ _ n2 (e2.extBut _ _ n3 (e1.extBut _ _ n1 x))))
  have p1b : g5.IsListIter ia la (j + 1) := ((p1'.extBut e3.extBut D.TOi1.symm).extBut e4.extBut D.i12).extBut e5.extBut D.TOi1.symm
  have p2b : g5.IsListIter ib lb (k + 1) := p2'.extBut e5.extBut D.TOi2.symm
  have lt : zz < g5.objs.size := Heap.lt_size m5
  show wpAny _ _ (Builtin.SmallTypes.ownedTupleHandOut (.ref zz) (.ref g5.objs.size) >>= _) _ _ _
  refine wpAny_bind ?_
  unfold Builtin.SmallTypes.ownedTupleHandOut
  have m6 : ZG (g5.push { cls := .type "tuple", data := .seq #[u, v] }) zz tI tO .ellipsis f := Heap.get?_push_of_some _ m5
  refine wpAny_bind (wpAny_setField_rec m6 (by simp) fun g7 m7 e7 => ?_)
  replace m7 : ZG g7 zz tI tO (rawInt g5.objs.size) f := m7
  refine wpAny_setField_rec m7 (by simp) fun g8 m8 e8 => ?_
  replace m8 : ZG g8 zz tI tO (rawInt g5.objs.size) false := m8
  have up : ∀ c o, c ≠ zz → g5.get? c = some o → g8.get? c = some o := fun c o n x => e8.extBut _ _ n (e7.extBut _ _ n (Heap.get?_push_of_some _ x))
  have t8 : IsPair g8 g5.objs.size u v := e8.extBut _ _ (Nat.ne_of_gt lt) (e7.extBut _ _ (Nat.ne_of_gt lt) (Heap.get?_push_size _ rfl))
  have z8 : g8.objs.size = g5.objs.size + 1 := by rw [e8.1, e7.1, Heap.size_push]
  rw [z5] at m8 t8 z8
  refine wpAny_pure ⟨_, rfl, ?_⟩
  show Q (.ref g5.objs.size) _
  rw [z5]
  exact fin g8 m8 (up _ _ D.TOz mO5) (p1b.at fun o x => up _ o D.i1z x) (p2b.at fun o x => up _ o D.i2z x) t8 z8 fun c o n1 n2 n3 n4 x => up c o n1 (k5 c o n1 n2 n3 n4 x)
theorem again_end {zz tI tO ia ib la lb : Addr} {j k : Nat} {us vs : Array Value} {a b f0 : Value} {f : Bool} {Q : Fin → Shared → Prop} (hh : A.handled = none) (D : ZipApart zz tI tO ia ib la lb)
    (m : ZG s.heap zz tI tO f0 f) (fr : Free prog w s zz) (mI : IsPair s.heap tI (.ref ia) (.ref ib)) (mO : IsPair s.heap tO a b)
    (p1 : s.heap.IsListIter ia la j) (p2 : s.heap.IsListIter ib lb k) (q1 : s.heap.IsList la us) (q2 : s.heap.IsList lb vs) (hend : us[j]? = none ∨ vs[k]? = none)
    (fin : ∀ h' e, (∀ c o, c ≠ zz → c ≠ tO → c ≠ ia → c ≠ ib → s.heap.get? c = some o → h'.get? c = some o) → (∃ o, h'.get? e = some o ∧ o.cls = .type "StopIteration") → E (.ref e) { s with heap := h' }) :
    wpAny (model prog w) A (Builtin.«zip.__next__» ⟨[.ref zz], []⟩) Q E s := by
  show wpAny _ _ (field (.ref zz) 2 >>= _) _ _ _
  refine wpAny_bind (wpAny_field m rfl (x := .bool false) rfl ?_)
  show wpAny _ _ (field (.ref zz) 3 >>= _) _ _ _
  refine wpAny_bind (wpAny_field m rfl (x := .ref tI) rfl (wpAny_bind (wpAny_seqItems mI rfl ?_)))
  show wpAny _ _ (Builtin.SmallTypes.ownedTupleIsFree (.ref zz) >>= _) _ _ _
  refine wpAny_bind (fr _ _ _ ?_)
  simp only [if_true]
  refine wpAny_bind (wpAny_rule (wpAny_bind (wpAny_field m rfl (x := .ref tO) rfl (wpAny_bind (wpAny_setField_rec m (by simp) fun g1 m1 e1 => ?_)))))
  replace m1 : ZG g1 zz tI tO .ellipsis f := m1
  refine wpAny_bind ?_
  simp only [List.zipIdx_cons, List.zipIdx_nil, List.forIn_cons, List.forIn_nil]
  refine wpAny_bind (wpAny_bind (wpAny_onRaise ?_))
  show wpAny _ _ (Builtin.SmallTypes.nextOf (.ref ia) >>= _) _ _ _
  cases hu : us[j]? with
  | none =>
    refine wpAny_bind (wpAny_nextOf_list_end hh (p1.extBut e1.extBut D.i1z) (q1.extBut e1.extBut D.l1z) hu fun g2 e e2 ⟨oe, x1, x2⟩ => ?_)
    have m2 : ZG g2 zz tI tO .ellipsis f := e2 _ _ D.i1z.symm m1
    have ne : e ≠ zz := fun x => by subst x; rw [m2] at x1; cases x1; simp at x2
    refine wpAny_setField_rec m2 (by simp) fun g3 _ e3 => fin g3 e (fun c o n1 _ n3 _ x => e3.extBut _ _ n1 (e2 _ _ n3 (e1.extBut _ _ n1 x))) ⟨oe, e3.extBut _ _ ne x1, x2⟩
  | some u =>
    have hv : vs[k]? = none := by rcases hend with h | h; rw [hu] at h; cases h; exact h
    refine wpAny_bind (wpAny_nextOf_list_item (p1.extBut e1.extBut D.i1z) (q1.extBut e1.extBut D.l1z) hu fun g2 p1' e2 => wpAny_pure ?_)
    have mO2 : IsPair g2 tO a b := e2.extBut _ _ D.TOi1 (e1.extBut _ _ D.TOz mO)
    refine wpAny_bind (wpAny_seqItems mO2 rfl (wpAny_bind (wpAny_updateSeq_pair mO2 fun g3 mO3 e3 => ?_)))
    refine wpAny_bind (wpAny_letGo (wpAny_pure (wpAny_bind (wpAny_bind (wpAny_onRaise ?_)))))
    show wpAny _ _ (Builtin.SmallTypes.nextOf (.ref ib) >>= _) _ _ _
    have p2a := ((p2.extBut e1.extBut D.i2z).extBut e2.extBut D.i12.symm).extBut e3.extBut D.TOi2.symm
    have q2a := ((q2.extBut e1.extBut D.l2z).extBut e2.extBut D.l2i1).extBut e3.extBut D.l2TO
    refine wpAny_bind (wpAny_nextOf_list_end hh p2a q2a hv fun g4 e e4 ⟨oe, x1, x2⟩ => ?_)
    have m4 : ZG g4 zz tI tO .ellipsis f := e4 _ _ D.i2z.symm (e3.extBut _ _ D.TOz.symm (e2.extBut _ _ D.i1z.symm m1))
    have ne : e ≠ zz := fun x => by subst x; rw [m4] at x1; cases x1; simp at x2
    refine wpAny_setField_rec m4 (by simp) fun g5 _ e5 => fin g5 e (fun c o n1 n2 n3 n4 x => e5.extBut _ _ n1 (e4 _ _ n4 (e3.extBut _ _ n2 (e2.extBut _ _ n3 (e1.extBut _ _ n1 x))))) ⟨oe, e5.extBut _ _ ne x1, x2⟩
/-- a zip of two lists at their places k, whatever became of its last tuple -/
def ZS (la lb zz tI tO ia ib : Addr) (k : Nat) (h : Heap) : Prop :=
  (∃ f0 f, ZG h zz tI tO f0 f ∧ ((f0 = .none) ∨ ∃ T : Addr, f0 = rawInt T)) ∧ IsPair h tI (.ref ia) (.ref ib) ∧ (∃ a b, IsPair h tO a b) ∧ h.IsListIter ia la k ∧ h.IsListIter ib lb k
theorem ZS.keep {la lb zz tI tO ia ib : Addr} {k : Nat} {h h' : Heap} (st : ZS la lb zz tI tO ia ib k h) (kp : ∀ c ∈ [zz, tI, tO, ia, ib], ∀ o, h.get? c = some o → h'.get? c = some o) : ZS la lb zz tI tO ia ib k h' := by
  obtain ⟨⟨f0, f, m, z⟩, mI, ⟨a, b, mO⟩, p1, p2⟩ := st
  exact ⟨⟨f0, f, kp zz (by simp) _ m, z⟩, kp tI (by simp) _ mI, ⟨a, b, kp tO (by simp) _ mO⟩, p1.at fun o x => kp ia (by simp) o x, p2.at fun o x => kp ib (by simp) o x⟩
theorem ZS.item {zz tI tO ia ib la lb : Addr} {k : Nat} {us vs : Array Value} {u v : Value} {Q : Value → Shared → Prop} (D : ZipApart zz tI tO ia ib la lb) (st : ZS la lb zz tI tO ia ib k s.heap)
    (q1 : s.heap.IsList la us) (q2 : s.heap.IsList lb vs) (hu : us[k]? = some u) (hv : vs[k]? = some v)
    (fin : ∀ h', ZS la lb zz tI tO ia ib (k + 1) h' → IsPair h' s.heap.objs.size u v → h'.objs.size = s.heap.objs.size + 1 → (∀ c o, c ∉ [zz, tI, tO, ia, ib] → s.heap.get? c = some o → h'.get? c = some o) → Q (.ref s.heap.objs.size) { s with heap := h' }) :
    wpAny (model prog w) A (Builtin.SmallTypes.nextOf (.ref zz)) Q E s := by
  obtain ⟨⟨f0, f, m, z⟩, mI, ⟨a, b, mO⟩, p1, p2⟩ := st
  have ty : s.TypeIs (.ref zz) "zip" := ⟨_, m, rfl⟩
  have held : ∀ {T : Addr} {oT : Obj}, f0 = rawInt T → s.heap.get? T = some oT → wpAny (model prog w) A.in1 (Builtin.«zip.__next__» ⟨[.ref zz], []⟩) (fun fin s' => ∃ y, fin = .done (.ret y) ∧ wpAny (model prog w) A (pure y) Q E s') E s := fun e al => by
    subst e
    refine zip_next_item_held D m al mI p1 p2 q1 q2 hu hv fun h' m' p1' p2' t' z' kp => wpAny_pure (fin h' ?_ t' z' fun c o n x => kp c o (fun y => n (by simp [y])) (fun y => n (by simp [y])) (fun y => n (by simp [y])) x)
    exact ⟨⟨_, _, m', .inr ⟨_, rfl⟩⟩, kp _ _ D.TIz D.TIi1 D.TIi2 mI, ⟨a, b, kp _ _ D.TOz D.TOi1 D.TOi2 mO⟩, p1', p2'⟩
  have free : Free prog w s zz → wpAny (model prog w) A.in1 (Builtin.«zip.__next__» ⟨[.ref zz], []⟩) (fun fin s' => ∃ y, fin = .done (.ret y) ∧ wpAny (model prog w) A (pure y) Q E s') E s := fun fr => by
    refine again_item D m fr mI mO p1 p2 q1 q2 hu hv fun h' m' mO' p1' p2' t' z' kp => wpAny_pure (fin h' ?_ t' z' fun c o n x => kp c o (fun y => n (by simp [y])) (fun y => n (by simp [y])) (fun y => n (by simp [y])) (fun y => n (by simp [y])) x)
    exact ⟨⟨_, _, m', .inr ⟨_, rfl⟩⟩, kp _ _ D.TIz D.TITO D.TIi1 D.TIi2 mI, ⟨_, _, mO'⟩, p1', p2'⟩
  have main : wpAny (model prog w) A.in1 (Builtin.«zip.__next__» ⟨[.ref zz], []⟩) (fun fin s' => ∃ y, fin = .done (.ret y) ∧ wpAny (model prog w) A (pure y) Q E s') E s := by
    rcases z with e | ⟨T, e⟩
    · subst e; exact free (free_none m)
    · cases al : s.heap.get? T with
      | none => subst e; exact free (free_dead m al)
      | some oT => exact held e al
  unfold Builtin.SmallTypes.nextOf
  refine wpAny_bind (wpAny_callSpecial?_slot (name := Str.ofString "__next__") ty F.slot_zip_next (wpAny_call_entry F.slot_zip_next ty F.entry_zip_next ?_ (F.args_zip_next_1 _)))
  exact main
end
end EZ

set_option maxRecDepth 100000
set_option maxHeartbeats 4000000
namespace EZ
open PySem PySem.Spec
/-- enumerate(z) of a zip that nothing was drawn of -/
theorem new_enum_zip (zz tI tO : Addr) : Meets (Builtin.«enumerate.__new__» ⟨[.type "enumerate", .ref zz], []⟩) (fun _ R s => IsZip s.heap zz tI tO .none ∧
    R (.ok (.ret (.ref s.heap.objs.size))) { s with heap := s.heap.push { cls := .type "enumerate", data := .fields #[.none, .bool false, .ref zz, rawInt 0, .none, .none] } }) :=
  .of_wp fun prog w A R s h => by
    obtain ⟨hp, g, d, tk, os⟩ := s
    obtain ⟨h1, h⟩ := h
    have sb := sub_enumerate
    have it1 : ∀ {A' : Around} {E : Value → Shared → Prop} {Q : Value → Shared → Prop}, Q (.ref zz) ⟨hp, g, d, tk, os⟩ → wpAny (model prog w) A' (pyIter (.ref zz)) Q E ⟨hp, g, d, tk, os⟩ := fun q => wpAny_pyIter_zip h1 q
    wp_walk using it1
    refine wpAny_stack_any fun st => wpAny_pure ?_
    split
    · rename_i c _ _ _ _ _
      cases (c == Value.type "enumerate") <;> (wp_walk using it1; exact ⟨_, rfl, h⟩)
    · wp_walk using it1
      exact ⟨_, rfl, h⟩
/-- enumerate(v) of a thing whose iterator is one new object -/
theorem new_enum_of {v : Value} {o : Obj} {H : Heap → Prop} (B : Begins v o H) : Meets (Builtin.«enumerate.__new__» ⟨[.type "enumerate", v], []⟩) (fun _ R s => H s.heap ∧
    R (.ok (.ret (.ref (s.heap.push o).objs.size))) { s with heap := (s.heap.push o).push { cls := .type "enumerate", data := .fields #[.none, .bool false, .ref s.heap.objs.size, rawInt 0, .none, .none] } }) :=
  .of_wp fun prog w A R s h => by
    obtain ⟨hp, g, d, tk, os⟩ := s
    obtain ⟨h1, h⟩ := h
    have sb := sub_enumerate
    have it1 : ∀ {A' : Around} {E : Value → Shared → Prop} {Q : Value → Shared → Prop}, Q (.ref hp.objs.size) ⟨hp.push o, g, d, tk, os⟩ → wpAny (model prog w) A' (pyIter v) Q E ⟨hp, g, d, tk, os⟩ := fun q => B.iter prog w _ _ ⟨hp, g, d, tk, os⟩ _ h1 q
    wp_walk using it1
    refine wpAny_stack_any fun st => wpAny_pure ?_
    split
    · rename_i c _ _ _ _ _
      cases (c == Value.type "enumerate") <;> (wp_walk using it1; exact ⟨_, rfl, h⟩)
    · wp_walk using it1
      exact ⟨_, rfl, h⟩
section
variable {prog : Program} {w : World} {A : Around} {E : Value → Shared → Prop} {s : Shared}
theorem call_enum_zip {zz tI tO : Addr} {Q : Value → Shared → Prop} (m : IsZip s.heap zz tI tO .none)
    (h : ∀ h', IsEnum h' s.heap.objs.size zz 0 .none → h'.objs.size = s.heap.objs.size + 1 → (∀ b o, s.heap.get? b = some o → h'.get? b = some o) → Q (.ref s.heap.objs.size) { s with heap := h' }) :
    wpAny (model prog w) A (call (.type "enumerate") [.ref zz]) Q E s := by
  refine callType_new F.called_enumerate (by decide) (F.typeCall_enumerate_1 _) (F.newCall_enumerate_1 _) (fun obj => F.args_object_init_2 obj _) F.entry_enumerate_new (new_enum_zip zz tI tO) ⟨m, ?_⟩
  have he : IsEnum (s.heap.push { cls := .type "enumerate", data := .fields #[.none, .bool false, .ref zz, rawInt 0, .none, .none] }) s.heap.objs.size zz 0 .none := Heap.get?_push_size _ rfl
  exact ⟨⟨_, he, rfl⟩, h _ he (Heap.size_push ..) fun b o x => Heap.get?_push_of_some _ x⟩
theorem call_enum_of {v : Value} {o : Obj} {H : Heap → Prop} {Q : Value → Shared → Prop} (B : Begins v o H) (h1 : H s.heap)
    (h : ∀ h', IsEnum h' (s.heap.objs.size + 1) s.heap.objs.size 0 .none → h'.get? s.heap.objs.size = some o → h'.objs.size = s.heap.objs.size + 2 → (∀ b o, s.heap.get? b = some o → h'.get? b = some o) → Q (.ref (s.heap.objs.size + 1)) { s with heap := h' }) :
    wpAny (model prog w) A (call (.type "enumerate") [v]) Q E s := by
  refine callType_new F.called_enumerate (by decide) (F.typeCall_enumerate_1 _) (F.newCall_enumerate_1 _) (fun obj => F.args_object_init_2 obj _) F.entry_enumerate_new (new_enum_of B) ⟨h1, ?_⟩
  have z1 : (s.heap.push o).objs.size = s.heap.objs.size + 1 := Heap.size_push ..
  show _ ∧ _
  rw [z1]
  have he : IsEnum ((s.heap.push o).push { cls := .type "enumerate", data := .fields #[.none, .bool false, .ref s.heap.objs.size, rawInt 0, .none, .none] }) (s.heap.objs.size + 1) s.heap.objs.size 0 .none := by
    have x := Heap.get?_push_size (s.heap.push o) (o := { cls := .type "enumerate", data := .fields #[.none, .bool false, .ref s.heap.objs.size, rawInt 0, .none, .none] }) rfl
    rw [z1] at x; exact x
  exact ⟨⟨_, he, rfl⟩, h _ he (Heap.get?_push_of_some _ (Heap.get?_push_size _ B.free)) (by rw [Heap.size_push, z1]) fun b o x => Heap.get?_push_of_some _ (Heap.get?_push_of_some _ x)⟩
/-- a turn of enumerate over an iterator that may lay new objects; g1 is the heap behind the inner turn -/
theorem enum_step {e it : Addr} {i : Nat} {old : Value} {fp : List Addr} {P : Value → Heap → Prop} {Q : Option Value → Shared → Prop} (he : IsEnum s.heap e it i old) (hef : e ∉ fp)
    (next : ∀ (E' : Value → Shared → Prop) (Q' : Value → Shared → Prop), (∀ x g1 tk, P x g1 → s.heap.objs.size ≤ g1.objs.size → (∀ c o, c ∉ fp → s.heap.get? c = some o → g1.get? c = some o) → Q' x { s with heap := g1, toks := tk }) → wpAny (model prog w) A.in1 (Builtin.SmallTypes.nextOf (.ref it)) Q' E' s)
    (fin : ∀ x g1 tk h', P x g1 → s.heap.objs.size ≤ g1.objs.size → (∀ c o, c ∉ fp → s.heap.get? c = some o → g1.get? c = some o) → IsEnumOut h' e it ((i : Int) + 1) x g1.objs.size →
      h'.get? g1.objs.size = some { cls := .type "tuple", data := .seq #[.int i tk, x] } → h'.objs.size = g1.objs.size + 1 → (∀ b o, b ≠ e → g1.get? b = some o → h'.get? b = some o) → Q (some (.ref g1.objs.size)) { s with heap := h', toks := tk + 1 }) :
    wpAny (model prog w) A (pyNext (.ref e)) Q E s := by
  have ty : s.TypeIs (.ref e) "enumerate" := ⟨_, he, rfl⟩
  unfold pyNext
  refine wpAny_bind (wpAny_attempt (wpAny_callSpecial?_slot (name := Str.ofString "__next__") ty F.slot_enumerate_next (wpAny_call_entry F.slot_enumerate_next ty F.entry_enumerate_next ?_ (F.args_enumerate_next_1 _))))
  obtain ⟨hp, g, d, tk₀, os⟩ := s
  show wpAny _ _ (field (.ref e) 2 >>= _) _ _ _
  refine wpAny_bind (wpAny_field he rfl (x := .ref it) rfl (wpAny_bind (next _ _ fun x g1 tk px le kp => ?_)))
  have he1 : IsEnum g1 e it i old := kp e _ hef he
  show wpAny _ _ (field (.ref e) 3 >>= _) _ _ ⟨g1, g, d, tk, os⟩
  refine wpAny_bind (wpAny_field he1 rfl (x := rawInt i) rfl ?_)
  show wpAny _ _ (field (.ref e) 4 >>= _) _ _ ⟨g1, g, d, tk, os⟩
  refine wpAny_bind (wpAny_field he1 rfl (x := .none) rfl ?_)
  show wpAny _ _ (mkInt i >>= _) _ _ ⟨g1, g, d, tk, os⟩
  refine wpAny_bind (wpAny_mkInt ?_)
  show wpAny _ _ (setField (.ref e) 3 (rawInt ((i : Int) + 1)) >>= _) _ _ ⟨g1, g, d, tk + 1, os⟩
  refine wpAny_bind (wpAny_setField_rec he1 (by simp) fun g2 he2 s2 => ?_)
  replace s2 : Heap.SameBut e g1 g2 := s2
  replace he2 : IsEnum g2 e it ((i : Int) + 1) old := he2
  show wpAny _ _ (setField (.ref e) 4 .none >>= _) _ _ ⟨g2, g, d, tk + 1, os⟩
  refine wpAny_bind (wpAny_setField_rec he2 (by simp) fun g3 he3 s3 => ?_)
  replace s3 : Heap.SameBut e g2 g3 := s3
  replace he3 : IsEnum g3 e it ((i : Int) + 1) old := he3
  show wpAny _ _ (newTuple [.int i tk, x] >>= _) _ _ ⟨g3, g, d, tk + 1, os⟩
  refine wpAny_bind (wpAny_newTuple ?_)
  have he4 : IsEnum (g3.push { cls := .type "tuple", data := .seq #[.int i tk, x] }) e it ((i : Int) + 1) old := Heap.get?_push_of_some _ he3
  generalize hg4 : g3.push { cls := .type "tuple", data := .seq #[.int i tk, x] } = g4 at he4
  have z3 : g3.objs.size = g1.objs.size := by rw [s3.1, s2.1]
  have el : e < g1.objs.size := Heap.lt_size he1
  have t4 : g4.get? g1.objs.size = some { cls := .type "tuple", data := .seq #[.int i tk, x] } := by rw [← hg4, ← z3]; exact Heap.get?_push_size _ rfl
  have z4 : g4.objs.size = g1.objs.size + 1 := by rw [← hg4, Heap.size_push, z3]
  have k4 : ∀ b o, b ≠ e → g1.get? b = some o → g4.get? b = some o := fun b o n y => by
    rw [← hg4]; exact Heap.get?_push_of_some _ (s3.extBut b o n (s2.extBut b o n y))
  show wpAny _ _ (Builtin.SmallTypes.ownedTupleIsFree (.ref e) >>= _) _ _ ⟨g4, g, d, tk + 1, os⟩
  rw [z3]
  clear hg4 he3 s3 he2 s2 z3 g3 g2
  refine wpAny_bind ?_
  unfold Builtin.SmallTypes.ownedTupleIsFree
  refine wpAny_bind (wpAny_field he4 rfl (x := .none) rfl (wpAny_pure ?_))
  simp only [if_true]
  refine wpAny_bind (wpAny_rule (wpAny_bind (wpAny_field he4 rfl (x := old) rfl (wpAny_bind (wpAny_setField_rec he4 (by simp) fun g5 he5 s5 => ?_)))))
  replace s5 : Heap.SameBut e g4 g5 := s5
  replace he5 : IsEnum g5 e it ((i : Int) + 1) x := he5
  show wpAny _ _ (Builtin.SmallTypes.ownedTupleHandOut (.ref e) (.ref g1.objs.size) >>= _) _ _ ⟨g5, g, d, tk + 1, os⟩
  refine wpAny_bind ?_
  unfold Builtin.SmallTypes.ownedTupleHandOut
  refine wpAny_bind (wpAny_setField_rec he5 (by simp) fun g6 he6 s6 => ?_)
  replace s6 : Heap.SameBut e g5 g6 := s6
  replace he6 : IsEnumOut g6 e it ((i : Int) + 1) x g1.objs.size := he6
  refine wpAny_setField_rec he6 (by simp) fun g7 he7 s7 => ?_
  replace s7 : Heap.SameBut e g6 g7 := s7
  replace he7 : IsEnumOut g7 e it ((i : Int) + 1) x g1.objs.size := he7
  have up : ∀ b o, b ≠ e → g4.get? b = some o → g7.get? b = some o := fun b o n y => s7.extBut b o n (s6.extBut b o n (s5.extBut b o n y))
  refine wpAny_bind (wpAny_letGo (wpAny_pure ⟨_, rfl, wpAny_pure (fin x g1 tk g7 px le kp he7 (up _ _ (Nat.ne_of_gt el) t4) ?_ fun b o n y => up b o n (k4 b o n y))⟩))
  rw [s7.1, s6.1, s5.1, z4]
/-- its end -/
theorem enum_stop {e it : Addr} {i : Int} {old : Value} {fp : List Addr} {Q : Option Value → Shared → Prop} (he : IsEnum s.heap e it i old)
    (next : ∀ (E' : Value → Shared → Prop) (Q' : Value → Shared → Prop), (∀ h' x, (∀ c o, c ∉ fp → s.heap.get? c = some o → h'.get? c = some o) → (∃ o, h'.get? x = some o ∧ o.cls = .type "StopIteration") → E' (.ref x) { s with heap := h' }) → wpAny (model prog w) A.in1 (Builtin.SmallTypes.nextOf (.ref it)) Q' E' s)
    (fin : ∀ h', (∀ c o, c ∉ fp → s.heap.get? c = some o → h'.get? c = some o) → Q none { s with heap := h' }) : wpAny (model prog w) A (pyNext (.ref e)) Q E s := by
  have ty : s.TypeIs (.ref e) "enumerate" := ⟨_, he, rfl⟩
  unfold pyNext
  refine wpAny_bind (wpAny_attempt (wpAny_callSpecial?_slot (name := Str.ofString "__next__") ty F.slot_enumerate_next (wpAny_call_entry F.slot_enumerate_next ty F.entry_enumerate_next ?_ (F.args_enumerate_next_1 _))))
  show wpAny _ _ (field (.ref e) 2 >>= _) _ _ _
  refine wpAny_bind (wpAny_field he rfl (x := .ref it) rfl (wpAny_bind (next _ _ fun h' x kp ⟨o, x1, x2⟩ => ?_)))
  exact wpAny_bind (wpAny_isInstance (T := "StopIteration") (b := true) ⟨o, x1, x2⟩ isSubtype_stop (wpAny_pure (fin _ kp)))
end
end EZ

set_option maxRecDepth 100000
set_option maxHeartbeats 4000000
namespace EZ
open PySem PySem.Spec PyProof.Rows L2 RZ
theorem ZS.stop {prog : Program} {w : World} {A : Around} {E : Value → Shared → Prop} {s : Shared} {zz tI tO ia ib la lb : Addr} {k : Nat} {us vs : Array Value} {Q : Value → Shared → Prop} (hh : A.handled = none) (D : ZipApart zz tI tO ia ib la lb) (st : ZS la lb zz tI tO ia ib k s.heap)
    (q1 : s.heap.IsList la us) (q2 : s.heap.IsList lb vs) (hend : us[k]? = none ∨ vs[k]? = none)
    (fin : ∀ h' e, (∀ c o, c ∉ [zz, tI, tO, ia, ib] → s.heap.get? c = some o → h'.get? c = some o) → (∃ o, h'.get? e = some o ∧ o.cls = .type "StopIteration") → E (.ref e) { s with heap := h' }) :
    wpAny (model prog w) A (Builtin.SmallTypes.nextOf (.ref zz)) Q E s := by
  obtain ⟨⟨f0, f, m, z⟩, mI, ⟨a, b, mO⟩, p1, p2⟩ := st
  have ty : s.TypeIs (.ref zz) "zip" := ⟨_, m, rfl⟩
  have hh1 : A.in1.handled = none := hh
  have out : ∀ {c : Addr} {o : Obj}, c ∉ [zz, tI, tO, ia, ib] → c ≠ zz ∧ c ≠ tO ∧ c ≠ ia ∧ c ≠ ib := fun n => ⟨fun y => n (by simp [y]), fun y => n (by simp [y]), fun y => n (by simp [y]), fun y => n (by simp [y])⟩
  have main : ∀ {R : Fin → Shared → Prop}, wpAny (model prog w) A.in1 (Builtin.«zip.__next__» ⟨[.ref zz], []⟩) R E s := by
    intro R
    have free : Free prog w s zz → wpAny (model prog w) A.in1 (Builtin.«zip.__next__» ⟨[.ref zz], []⟩) R E s := fun fr =>
      again_end hh1 D m fr mI mO p1 p2 q1 q2 hend fun h' e kp he => fin h' e (fun c o n x => kp c o (fun y => n (by simp [y])) (fun y => n (by simp [y])) (fun y => n (by simp [y])) (fun y => n (by simp [y])) x) he
    rcases z with e | ⟨T, e⟩
    · subst e; exact free (free_none m)
    · cases al : s.heap.get? T with
      | none => subst e; exact free (free_dead m al)
      | some oT =>
        subst e
        exact zip_next_end_held hh1 D m al mI p1 p2 q1 q2 hend fun h' e kp he => fin h' e (fun c o n x => kp c o (fun y => n (by simp [y])) (fun y => n (by simp [y])) (fun y => n (by simp [y])) x) he
  unfold Builtin.SmallTypes.nextOf
  exact wpAny_bind (wpAny_callSpecial?_slot (name := Str.ofString "__next__") ty F.slot_zip_next (wpAny_call_entry F.slot_zip_next ty F.entry_zip_next main (F.args_zip_next_1 _)))
/-- the lists at a and b as they stand at each turn: (i, (x, y)) -/
def Itez (K : PySem.W.Frag) (a b : Addr) : It :=
  ⟨fun i H => ∃ (xs ys : List V) (x y : V), SqL K H a xs ∧ SqL K H b ys ∧ xs[i]? = some x ∧ ys[i]? = some y,
    fun i H v H' => ∃ S T x y, v = .ref T ∧ H S = none ∧ H T = none ∧ S ≠ T ∧ H' = upd (upd H S (.tup [x, y])) T (.tup [.int (i : Nat), .ref S]) ∧ (∀ xs, SqL K H a xs → xs[i]? = some x) ∧ ∀ ys, SqL K H b ys → ys[i]? = some y,
    fun i H => ∃ xs ys : List V, SqL K H a xs ∧ SqL K H b ys ∧ (xs.length ≤ i ∨ ys.length ≤ i)⟩
theorem turn_ez {P : Program} {w : World} {K : PySem.W.Frag} {elts : List Expr} {kk : Nat} {tpos : Pos} {a b e zz tI tO ia ib : Addr} (D : ZipApart zz tI tO ia ib a b) (ne : e ∉ [zz, tI, tO, ia, ib]) :
    Turn P w K (.Tuple elts kk tpos) (Itez K a b) (e :: [zz, tI, tO, ia, ib]) e (fun i h => (∃ old, IsEnum h e zz ((i : Nat) : Int) old) ∧ ZS a b zz tI tO ia ib i h) where
  mem := by simp
  obj := fun i h st c hc => by
    obtain ⟨⟨old, he⟩, ⟨f0, f, m, _⟩, mI, ⟨x, y, mO⟩, ⟨o1, e1, _, d1⟩, ⟨o2, e2, _, d2⟩⟩ := st
    rcases List.mem_cons.mp hc with q | hc
    · rw [q]; exact ⟨_, he, fun v q => nomatch q⟩
    have e' : c = zz ∨ c = tI ∨ c = tO ∨ c = ia ∨ c = ib := by simpa using hc
    rcases e' with q | q | q | q | q
    · rw [q]; exact ⟨_, m, fun v q => nomatch q⟩
    · rw [q]; exact ⟨_, mI, fun v q => nomatch q⟩
    · rw [q]; exact ⟨_, mO, fun v q => nomatch q⟩
    · rw [q]; exact ⟨o1, e1, fun v q => by rw [d1] at q; cases q⟩
    · rw [q]; exact ⟨o2, e2, fun v q => by rw [d2] at q; cases q⟩
  keep := fun i h h' st k => let ⟨⟨old, he⟩, zs⟩ := st; ⟨⟨old, k e (by simp) _ he⟩, zs.keep fun c hc o x => k c (List.mem_cons_of_mem _ hc) o x⟩
  item := by
    intro X hP hw hK hc i pins s σ H E I hf st hg
    subst hP hw hK
    obtain ⟨⟨old, he⟩, zs⟩ := st
    obtain ⟨xs, ys, x, y, hqx, hqy, hx, hy⟩ := hg
    obtain ⟨its, rv, p1, _⟩ := I.list hqx
    obtain ⟨its2, rv2, p2, _⟩ := I.list hqy
    obtain ⟨u, hu, ru⟩ := rv.get hx
    obtain ⟨u2, hu2, ru2⟩ := rv2.get hy
    have el : e < s.heap.objs.size := Heap.lt_size he
    refine enum_step (fp := [zz, tI, tO, ia, ib]) (P := fun v g1 => v = .ref s.heap.objs.size ∧ ZS a b zz tI tO ia ib (i + 1) g1 ∧ IsPair g1 s.heap.objs.size u u2 ∧ g1.objs.size = s.heap.objs.size + 1) he ne
      (fun E' Q' fin => ZS.item D zs p1.isList p2.isList (by simpa using hu) (by simpa using hu2) fun h' st' t' z' kp => fin (.ref s.heap.objs.size) h' s.toks ⟨rfl, st', t', z'⟩ (by omega) kp) fun v g1 tk h' px le kp ho hT hsz hk => ?_
    obtain ⟨ev, st', t', z'⟩ := px
    subst ev
    refine ⟨_, rfl, wpAny_letOwnedTupleGo_enum (s := { s with heap := h', toks := tk + 1 }) ho fun h'' he' sb => ?_⟩
    have up : ∀ c o, c ≠ e → g1.get? c = some o → h''.get? c = some o := fun c o n q => (sb.2 c n).trans (hk c o n q)
    have new1 : ObjOk X.prog X.w (upd H s.heap.objs.size (.tup [x, y])) g1 s.heap.objs.size (.tup [x, y]) := ⟨by show 2 ≤ sizeLine; decide, [u, u2], .cons ru (.cons ru2 .nil), ⟨_, t', rfl, _, rfl⟩⟩
    have I1 : Inv X pins σ (upd H s.heap.objs.size (.tup [x, y])) { s with heap := g1, toks := tk } := I.turnedNew (t' := tk) (ch := [zz, tI, tO, ia, ib]) (fun c o hb q => kp c o hb q) (fun c hc => hf c (List.mem_cons_of_mem _ hc)) (Nat.le_refl _) new1
    have fe := hf e (by simp)
    have fe1 : FpOk X pins (upd H s.heap.objs.size (.tup [x, y])) e := ⟨by rw [upd_ne (Nat.ne_of_lt el)]; exact fe.1, fe.2⟩
    have el1 : e < g1.objs.size := Nat.lt_of_lt_of_le el le
    have hT2 : h''.get? g1.objs.size = some { cls := .type "tuple", data := .seq #[.int i tk, .ref s.heap.objs.size] } := (sb.2 _ (Nat.ne_of_gt el1)).trans hT
    have new2 : ObjOk X.prog X.w (upd (upd H s.heap.objs.size (.tup [x, y])) g1.objs.size (.tup [.int (i : Nat), .ref s.heap.objs.size])) h'' g1.objs.size (.tup [.int (i : Nat), .ref s.heap.objs.size]) :=
      ⟨by show 2 ≤ sizeLine; decide, [.int i tk, .ref s.heap.objs.size], .cons ⟨_, rfl⟩ (.cons rfl .nil), ⟨_, hT2, rfl, _, rfl⟩⟩
    have I2 : Inv X pins σ (upd (upd H s.heap.objs.size (.tup [x, y])) g1.objs.size (.tup [.int (i : Nat), .ref s.heap.objs.size])) { s with heap := h'', toks := tk + 1 } :=
      I1.turnedNew (t' := tk + 1) (ch := [e]) (fun c o hb q => up c o (fun q' => hb (by simp [q'])) q) (fun c hc => by rw [List.mem_singleton.mp hc]; exact fe1) (Nat.le_refl _) new2
    refine ⟨.ref g1.objs.size, _, I2, rfl, ⟨s.heap.objs.size, g1.objs.size, x, y, rfl, I.hok.fresh (Nat.le_refl _), I.hok.fresh le, by rw [z']; exact Nat.ne_of_lt (Nat.lt_succ_self _), rfl, fun l hl => by rw [I.list_inj hl hqx]; exact hx, fun l hl => by rw [I.list_inj hl hqy]; exact hy⟩, ⟨⟨.ref s.heap.objs.size, ?_⟩, st'.keep fun c hc o q => up c o (fun q' => ne (q' ▸ hc)) q⟩, fun c hcm => ?_⟩
    · have e1 : ((i + 1 : Nat) : Int) = (i : Int) + 1 := by omega
      rw [e1]; exact he'
    · have lt : c < s.heap.objs.size := by
        rcases List.mem_cons.mp hcm with q | hc2
        · rw [q]; exact el
        obtain ⟨⟨f0, f, m, _⟩, mI, ⟨x', y', mO⟩, ⟨o1, e1, _⟩, ⟨o2, e2, _⟩⟩ := zs
        have e' : c = zz ∨ c = tI ∨ c = tO ∨ c = ia ∨ c = ib := by simpa using hc2
        rcases e' with q | q | q | q | q
        · rw [q]; exact Heap.lt_size m
        · rw [q]; exact Heap.lt_size mI
        · rw [q]; exact Heap.lt_size mO
        · rw [q]; exact Heap.lt_size e1
        · rw [q]; exact Heap.lt_size e2
      rw [upd_ne (Nat.ne_of_lt (Nat.lt_of_lt_of_le lt le)), upd_ne (Nat.ne_of_lt lt)]
      exact (hf c hcm).1
  done := by
    intro X hP hw hK hc i pins s σ H E I hf st hg
    subst hP hw hK
    obtain ⟨⟨old, he⟩, zs⟩ := st
    obtain ⟨xs, ys, hqx, hqy, hend⟩ := hg
    obtain ⟨its, rv, p1, _⟩ := I.list hqx
    obtain ⟨its2, rv2, p2, _⟩ := I.list hqy
    have l1 := rv.length
    have l2 := rv2.length
    have hn : its.toArray[i]? = none ∨ its2.toArray[i]? = none := by
      rcases hend with q | q
      · exact .inl (by simp; omega)
      · exact .inr (by simp; omega)
    exact enum_stop (fp := [zz, tI, tO, ia, ib]) he (fun E' Q' fin => ZS.stop (I.ok.hd hc) D zs p1.isList p2.isList hn fin) fun h' kp => ⟨rfl, I.turnedL (t' := s.toks) (ch := e :: [zz, tI, tO, ia, ib]) (fun c o hb q => kp c o (fun q' => hb (List.mem_cons_of_mem _ q')) q) hf⟩
  self := fun A i s Q E st h => let ⟨⟨_, he⟩, _⟩ := st; wpAny_pyIter_enum he h
def iEz (K : PySem.W.Frag) (ta : TA) : TI := fun σ H R => ta σ H fun vs H1 => ∃ a b xs ys, vs = [.ref a, .ref b] ∧ SqL K H1 a xs ∧ SqL K H1 b ys ∧ R (Itez K a b) H1
theorem pi_ez {X : Cx} {e e2 : Expr} {ta : TA} {p p2 pos pos2 tpos : Pos} {elts : List Expr} {kk : Nat} (hg : Gl X "enumerate") (hm : X.mg "enumerate" = none) (hg2 : Gl X "zip") (hm2 : X.mg "zip" = none) (ha : PA X [e, e2] ta)
    (hs1 : starEach [.Call (.Name "zip" p2) [e, e2] [] pos2] X.env = (false, eval (.Call (.Name "zip" p2) [e, e2] [] pos2) X.env) :: starEach [] X.env := by rfl) (hpl1 : (backTo pos (starEach [] X.env)).any (·.1) = false := by rfl)
    (hs : starEach [e, e2] X.env = (false, eval e X.env) :: starEach [e2] X.env := by rfl) (hpl : (backTo pos2 (starEach [e2] X.env)).any (·.1) = false := by rfl) :
    PI X (.Tuple elts kk tpos) (.Call (.Name "enumerate" p) [.Call (.Name "zip" p2) [e, e2] [] pos2] [] pos) (iEz X.K ta) := by
  refine ⟨fun pins s σ H R I h => ?_⟩
  refine Call_ (ld_blt I hg hm boot_enumerate (PyProof.Rows.callWith_type1 (args_cons ?_ hs1) hs1 hpl1))
  refine Call_ (ld_blt I hg2 hm2 PyProof.Rows.boot_zip (PyProof.Rows.callWith_type1 (thn (ha.run pos2 pins s σ H _ I h) fun us s1 ⟨vs, H1, I1, r1, a, b, xs, ys, ex, hqx, hqy, q⟩ => ?_) hs hpl))
  subst ex
  cases r1 with
  | cons r rr =>
    cases rr with
    | cons r' rr =>
      cases rr
      cases r
      cases r'
      obtain ⟨its, rv, p1, _⟩ := I1.list hqx
      obtain ⟨its2, rv2, p2, _⟩ := I1.list hqy
      refine call_zip_2 p1.isList p2.isList fun h' hz hTI hTO h1 h2 hsz hk => args_nil (call_enum_zip hz fun h'' he hsz2 hk2 => wpAny_pyIter_enum he ?_)
      have I2 : Inv X pins σ H1 { s1 with heap := h'' } := I1.kept (t' := s1.toks) fun b ob q => hk2 b ob (hk b ob q)
      have fresh : ∀ c, c ∈ h'.objs.size :: [s1.heap.objs.size + 4, s1.heap.objs.size + 2, s1.heap.objs.size + 3, s1.heap.objs.size, s1.heap.objs.size + 1] → FpOk X pins H1 c := fun c hcm => by
        have e' : c = h'.objs.size ∨ c = s1.heap.objs.size + 4 ∨ c = s1.heap.objs.size + 2 ∨ c = s1.heap.objs.size + 3 ∨ c = s1.heap.objs.size ∨ c = s1.heap.objs.size + 1 := by simpa using hcm
        have hle : s1.heap.objs.size ≤ c := by
          have hs3 := hsz
          omega
        exact I1.fpOk hle (I1.hok.fresh hle)
      have D := PySem.W.ktu_apart s1.heap.objs.size a b p1.lt p2.lt
      have ne : h'.objs.size ∉ [s1.heap.objs.size + 4, s1.heap.objs.size + 2, s1.heap.objs.size + 3, s1.heap.objs.size, s1.heap.objs.size + 1] := by
        have hs3 := hsz
        simp
        omega
      have zs : ZS a b (s1.heap.objs.size + 4) (s1.heap.objs.size + 2) (s1.heap.objs.size + 3) s1.heap.objs.size (s1.heap.objs.size + 1) 0 h'' :=
        ⟨⟨_, _, hk2 _ _ hz, .inl rfl⟩, hk2 _ _ hTI, ⟨_, _, hk2 _ _ hTO⟩, h1.at fun o q => hk2 _ o q, h2.at fun o q => hk2 _ o q⟩
      exact ⟨h'.objs.size, _, _, _, H1, rfl, I2, turn_ez D ne, ⟨⟨.none, he⟩, zs⟩, fresh, q⟩
end EZ

set_option maxRecDepth 100000
set_option maxHeartbeats 4000000
namespace EZ
open PySem PySem.Spec PyProof.Rows L2 RZ
/-! ### enumerate(tuple) -/
def IteT (K : PySem.W.Frag) (a : Addr) : It :=
  ⟨fun i H => ∃ (xs : List V) (x : V), SqT K H a xs ∧ xs[i]? = some x, fun i H v H' => ∃ T x, v = .ref T ∧ H T = none ∧ H' = upd H T (.tup [.int (i : Nat), x]) ∧ ∀ xs, SqT K H a xs → xs[i]? = some x, fun i H => ∃ xs : List V, SqT K H a xs ∧ xs.length ≤ i⟩
theorem turn_enumT {P : Program} {w : World} {K : PySem.W.Frag} {elts : List Expr} {kk : Nat} {tpos : Pos} (a e it : Addr) :
    Turn P w K (.Tuple elts kk tpos) (IteT K a) (e :: [it]) e (fun i h => (∃ old, IsEnum h e it ((i : Nat) : Int) old) ∧ h.IsTupleIter it a i ∧ e ≠ it) where
  mem := by simp
  obj := fun i h st b hb => by
    obtain ⟨⟨old, he⟩, ⟨o, h1, h2, h3⟩, _⟩ := st
    rcases List.mem_cons.mp hb with z | z
    · rw [z]; exact ⟨_, he, fun v q => nomatch q⟩
    · rw [List.mem_singleton.mp z]; exact ⟨o, h1, fun v q => by rw [h3] at q; cases q⟩
  keep := fun i h h' st k => let ⟨⟨old, he⟩, hi, ne⟩ := st; ⟨⟨old, k e (by simp) _ he⟩, hi.at fun o q => k it (by simp) o q, ne⟩
  item := by
    intro X hP hw hK hc i pins s σ H E I hf st hg
    subst hP hw hK
    obtain ⟨⟨old, he⟩, hit, hne⟩ := st
    obtain ⟨xs, x, hq, hx⟩ := hg
    obtain ⟨its, rv, p, hz⟩ := I.tuple hq
    obtain ⟨u, hu, ru⟩ := rv.get hx
    have el : e < s.heap.objs.size := Heap.lt_size he
    have il : it < s.heap.objs.size := by obtain ⟨_, q, _⟩ := hit; exact Heap.lt_size q
    refine enum_step (fp := [it]) (P := fun v g1 => v = u ∧ g1.IsTupleIter it a (i + 1) ∧ g1.objs.size = s.heap.objs.size) he (by simpa using hne)
      (fun E' Q' fin => nextOf_tuple_item hit (show s.heap.IsTuple a its.toArray from p) (by simpa using hu) fun h' hit' sb => fin u h' s.toks ⟨rfl, hit', sb.1⟩ (Nat.le_of_eq sb.1.symm) fun c o hc q => (sb.2 c (by simpa using hc)).trans q) fun v g1 tk h' px le kp ho hT hsz hk => ?_
    obtain ⟨ev, hit', z1⟩ := px
    subst ev
    refine ⟨_, rfl, wpAny_letOwnedTupleGo_enum (s := { s with heap := h', toks := tk + 1 }) ho fun h'' he' sb => ?_⟩
    have up : ∀ c o, c ≠ e → g1.get? c = some o → h''.get? c = some o := fun c o n q => (sb.2 c n).trans (hk c o n q)
    have hT2 : h''.get? g1.objs.size = some { cls := .type "tuple", data := .seq #[.int i tk, v] } := (sb.2 _ (by rw [z1]; exact Nat.ne_of_gt el)).trans hT
    have new : ObjOk X.prog X.w (upd H g1.objs.size (.tup [.int (i : Nat), x])) h'' g1.objs.size (.tup [.int (i : Nat), x]) :=
      ⟨by show 2 ≤ sizeLine; decide, [.int i tk, v], .cons ⟨_, rfl⟩ (.cons ru .nil), ⟨_, hT2, rfl, _, rfl⟩⟩
    have I1 : Inv X pins σ (upd H g1.objs.size (.tup [.int (i : Nat), x])) { s with heap := h'', toks := tk + 1 } :=
      I.turnedNew (t' := tk + 1) (ch := e :: [it]) (fun c o hb q => up c o (fun q' => hb (by simp [q'])) (kp c o (fun q' => hb (List.mem_cons_of_mem _ q')) q)) hf le new
    refine ⟨.ref g1.objs.size, _, I1, rfl, ⟨g1.objs.size, x, rfl, I.hok.fresh le, rfl, fun l hl => by rw [I.tuple_inj hl hq]; exact hx⟩, ⟨⟨v, ?_⟩, hit'.at fun o q => up it o (Ne.symm hne) q, hne⟩, fun c hcm => ?_⟩
    · have e1 : ((i + 1 : Nat) : Int) = (i : Int) + 1 := by omega
      rw [e1]; exact he'
    · have lt : c < s.heap.objs.size := by
        rcases List.mem_cons.mp hcm with q | q
        · rw [q]; exact el
        · rw [List.mem_singleton.mp q]; exact il
      rw [upd_ne (by rw [z1]; exact Nat.ne_of_lt lt)]
      exact (hf c hcm).1
  done := by
    intro X hP hw hK hc i pins s σ H E I hf st hg
    subst hP hw hK
    obtain ⟨⟨old, he⟩, hit, hne⟩ := st
    obtain ⟨xs, hq, hx⟩ := hg
    obtain ⟨its, rv, p, hz⟩ := I.tuple hq
    have hl := rv.length
    have hh := I.ok.hd hc
    exact enum_stop (fp := [it]) he (fun E' Q' fin => nextOf_tuple_end (A := X.A.in1) hh hit (show s.heap.IsTuple a its.toArray from p) (by simp; omega) fun h' x eb hx => fin h' x (fun c o hc q => eb c o (by simpa using hc) q) hx)
      fun h' kp => ⟨rfl, I.turnedL (t' := s.toks) (ch := e :: [it]) (fun c o hb q => kp c o (fun q' => hb (List.mem_cons_of_mem _ q')) q) hf⟩
  self := fun A i s Q E st h => let ⟨⟨_, he⟩, _⟩ := st; wpAny_pyIter_enum he h
def iEnumA (K : PySem.W.Frag) (ta : TA) : TI := fun σ H R => ta σ H fun vs H1 => ∃ a xs, vs = [.ref a] ∧ ((SqL K H1 a xs ∧ R (Ite K a) H1) ∨ (SqT K H1 a xs ∧ R (IteT K a) H1))
theorem pi_enumA {X : Cx} {e : Expr} {ta : TA} {p pos tpos : Pos} {elts : List Expr} {kk : Nat} (hg : Gl X "enumerate") (hm : X.mg "enumerate" = none) (ha : PA X [e] ta) (hs : starEach [e] X.env = [(false, eval e X.env)] := by rfl) :
    PI X (.Tuple elts kk tpos) (.Call (.Name "enumerate" p) [e] [] pos) (iEnumA X.K ta) := by
  refine ⟨fun pins s σ H R I h => ?_⟩
  refine Call_ (ld_blt I hg hm boot_enumerate (PyProof.Rows.callWith_type1 (thn (ha.run pos pins s σ H _ I h) fun us s1 ⟨vs, H1, I1, r1, a, xs, ex, q1⟩ => ?_) hs rfl))
  subst ex
  cases r1 with
  | cons r rr =>
    cases rr
    cases r
    have fresh : ∀ c, c ∈ (s1.heap.objs.size + 1) :: [s1.heap.objs.size] → FpOk X pins H1 c := fun c hc => by
      have hle : s1.heap.objs.size ≤ c := by
        rcases List.mem_cons.mp hc with z | z
        · rw [z]; exact Nat.le_add_right _ _
        · rw [List.mem_singleton.mp z]; exact Nat.le_refl _
      exact I1.fpOk hle (I1.hok.fresh hle)
    rcases q1 with ⟨hq, q⟩ | ⟨hq, q⟩
    · obtain ⟨its, rv, p', hz⟩ := I1.list hq
      refine call_enumerate_list p'.isList fun h' he hit hsz hk => wpAny_pyIter_enum he ?_
      exact ⟨s1.heap.objs.size + 1, [s1.heap.objs.size + 1, s1.heap.objs.size], _, _, H1, rfl, I1.kept (t' := s1.toks) hk, turn_enum a (s1.heap.objs.size + 1) s1.heap.objs.size, ⟨⟨.none, he⟩, hit, Nat.succ_ne_self _⟩, fresh, q⟩
    · obtain ⟨its, rv, p', hz⟩ := I1.tuple hq
      refine call_enum_of (begins_tuple a its.toArray) (show s1.heap.IsTuple a its.toArray from p') fun h' he hit hsz hk => wpAny_pyIter_enum he ?_
      exact ⟨s1.heap.objs.size + 1, [s1.heap.objs.size + 1, s1.heap.objs.size], _, _, H1, rfl, I1.kept (t' := s1.toks) hk, turn_enumT a (s1.heap.objs.size + 1) s1.heap.objs.size, ⟨⟨.none, he⟩, ⟨_, hit, rfl, rfl⟩, Nat.succ_ne_self _⟩, fresh, q⟩
end EZ
namespace ML
open PySem PySem.Spec PyProof.Rows L2 RZ EZ
variable [KF]
section
variable {X : Cx} {A : Act}
theorem iter_enumT {K : PySem.W.Frag} {G0 : Hp} {a : Addr} {xs : List V} {as : List PyData} (h : Rd G0 a (.tup xs)) (ha : DqAll G0 xs as) : IterOk Dw (IteT K a) G0 (enumD 0 as) := by
  have at1 : ∀ {G H : Hp}, Same G0 G → Same G H → SqT K H a xs := fun e1 e2 => .inl (rd_mono (e1.trans e2) h)
  refine ⟨fun G H i d e1 e2 hi => ?_, fun G H e1 e2 => ⟨xs, at1 e1 e2, by rw [enumD_len, dqa_len ha]; exact Nat.le_refl _⟩⟩
  obtain ⟨p, ed, hp⟩ := enumD_get hi
  subst ed
  obtain ⟨x, hx, rx⟩ := dqa_get ha hp
  refine ⟨⟨xs, x, at1 e1 e2, hx⟩, fun v H' ⟨T, x', ev, nT, eH, f1⟩ => ?_⟩
  subst ev eH
  cases (f1 xs (at1 e1 e2)).symm.trans hx
  rw [Nat.zero_add]
  exact new_pair e2 nT (.int _) (dq_mono e1 rx)
def mIE (m : MA) : MI := fun μ => (m μ).bind fun p => (dats p.1).bind fun es => match es with
  | [.list a] => some (enumD 0 a, p.2)
  | [.tuple a] => some (enumD 0 a, p.2)
  | _ => none
theorem qi_enum {a : Expr} {m : MA} {p pos tpos : Pos} {elts : List Expr} {kk : Nat} (hg : Gl X "enumerate") (hm : X.mg "enumerate" = none) (ha : PA X [a] (tMA A m)) (hs : starEach [a] X.env = [(false, eval a X.env)] := by rfl) :
    PI X (.Tuple elts kk tpos) (.Call (.Name "enumerate" p) [a] [] pos) (tI A Dw (mIE m)) :=
  pi_to (pi_enumA hg hm ha hs) fun σ H Q ⟨G, μ, ds, μ', R, e, k⟩ => by
    obtain ⟨p, e1, e⟩ := bind2 e
    obtain ⟨d, e2, e⟩ := bind2 e
    refine ⟨G, μ, p.1, p.2, R, e1, fun G1 H1 v s1 R1 q1 => ?_⟩
    have q := dats_ok q1 e2
    split at e
    · cases e
      cases q with
      | cons h1 t =>
        cases t
        cases h1 with
        | lst f1 g1 => exact ⟨_, _, rfl, .inl ⟨.inl (rd_mono R1.ext f1), k G1 H1 _ s1 R1 (iter_enum f1 g1)⟩⟩
    · cases e
      cases q with
      | cons h1 t =>
        cases t
        cases h1 with
        | tup f1 _ g1 => exact ⟨_, _, rfl, .inr ⟨.inl (.inr ⟨_, R1.ext _ _ f1⟩), k G1 H1 _ s1 R1 (iter_enumT (.inr ⟨_, f1⟩) g1)⟩⟩
    · cases e
/-! ### pairs of pairs -/
inductive DwAll (G : Hp) : List V → List PyData → Prop
  | nil : DwAll G [] []
  | cons {v : V} {vs : List V} {d : PyData} {ds : List PyData} : Dw G v d → DwAll G vs ds → DwAll G (v :: vs) (d :: ds)
theorem dwa_len {G : Hp} {vs : List V} {ds : List PyData} (h : DwAll G vs ds) : vs.length = ds.length := by
  induction h with
  | nil => rfl
  | cons _ _ ih => rw [List.length_cons, List.length_cons, ih]
def Dww (G : Hp) (v : V) (d : PyData) : Prop := ∃ p vs ds, v = .ref p ∧ d = .tuple ds ∧ Rd G p (.tup vs) ∧ DwAll G vs ds
theorem iter_ez {K : PySem.W.Frag} {G0 : Hp} {a b : Addr} {xs ys : List V} {as bs : List PyData} (h : Rd G0 a (.lst xs)) (h' : Rd G0 b (.lst ys)) (ha : DqAll G0 xs as) (hb : DqAll G0 ys bs) : IterOk Dww (Itez K a b) G0 (enumD 0 (zipD as bs)) := by
  have at1 : ∀ {G H : Hp}, Same G0 G → Same G H → SqL K H a xs := fun e1 e2 => .inl (rd_mono (e1.trans e2) h)
  have at2 : ∀ {G H : Hp}, Same G0 G → Same G H → SqL K H b ys := fun e1 e2 => .inl (rd_mono (e1.trans e2) h')
  refine ⟨fun G H i d e1 e2 hi => ?_, fun G H e1 e2 => ⟨xs, ys, at1 e1 e2, at2 e1 e2, by rw [enumD_len, zipD_len, dqa_len ha, dqa_len hb]; omega⟩⟩
  obtain ⟨c, ed, hc⟩ := enumD_get hi
  obtain ⟨p, q, ec, hp, hq⟩ := zipD_get hc
  subst ed ec
  obtain ⟨x, hx, rx⟩ := dqa_get ha hp
  obtain ⟨y, hy, ry⟩ := dqa_get hb hq
  refine ⟨⟨xs, ys, x, y, at1 e1 e2, at2 e1 e2, hx, hy⟩, fun v H' ⟨S, T, x', y', ev, nS, nT, ne, eH, f1, f2⟩ => ?_⟩
  subst ev eH
  cases (f1 xs (at1 e1 e2)).symm.trans hx
  cases (f2 ys (at2 e1 e2)).symm.trans hy
  have g1 := Grow.new (o := .tup [x, y]) e2 nS
  have nT' : upd H S (.tup [x, y]) T = none := by rw [upd_ne (Ne.symm ne)]; exact nT
  have g2 := Grow.new (o := .tup [.int (i : Nat), .ref S]) g1.gh nT'
  refine ⟨_, ⟨g1.g.trans g2.g, g1.h.trans g2.h, g2.gh, fun c hc gc => ?_⟩, T, [.int (i : Nat), .ref S], [.int (i : Nat), .tuple [p, q]], rfl, by rw [Nat.zero_add], .inl upd_same, .cons (.inl (.int _)) (.cons (.inr ⟨S, [x, y], [p, q], rfl, rfl, .inl (g2.g _ _ upd_same), .cons (dq_mono ((e1.trans g1.g).trans g2.g) rx) (.cons (dq_mono ((e1.trans g1.g).trans g2.g) ry) .nil)⟩) .nil)⟩
  have n1 := g1.fr c hc gc
  refine g2.fr c ?_ n1
  cases q : H c with
  | none => exact absurd q hc
  | some o => rw [g1.h c o q]; exact fun z => nomatch z
def mIEz (m : MA) : MI := fun μ => (m μ).bind fun p => (dats p.1).bind fun es => match es with
  | [.list a, .list b] => some (enumD 0 (zipD a b), p.2)
  | _ => none
theorem qi_ez {a b : Expr} {m : MA} {p p2 pos pos2 tpos : Pos} {elts : List Expr} {kk : Nat} (hg : Gl X "enumerate") (hm : X.mg "enumerate" = none) (hg2 : Gl X "zip") (hm2 : X.mg "zip" = none) (ha : PA X [a, b] (tMA A m))
    (hs1 : starEach [.Call (.Name "zip" p2) [a, b] [] pos2] X.env = (false, eval (.Call (.Name "zip" p2) [a, b] [] pos2) X.env) :: starEach [] X.env := by rfl) (hpl1 : (backTo pos (starEach [] X.env)).any (·.1) = false := by rfl)
    (hs : starEach [a, b] X.env = (false, eval a X.env) :: starEach [b] X.env := by rfl) (hpl : (backTo pos2 (starEach [b] X.env)).any (·.1) = false := by rfl) :
    PI X (.Tuple elts kk tpos) (.Call (.Name "enumerate" p) [.Call (.Name "zip" p2) [a, b] [] pos2] [] pos) (tI A Dww (mIEz m)) :=
  pi_to (pi_ez hg hm hg2 hm2 ha hs1 hpl1 hs hpl) fun σ H Q ⟨G, μ, ds, μ', R, e, k⟩ => by
    obtain ⟨p, e1, e⟩ := bind2 e
    obtain ⟨d, e2, e⟩ := bind2 e
    refine ⟨G, μ, p.1, p.2, R, e1, fun G1 H1 v s1 R1 q1 => ?_⟩
    have q := dats_ok q1 e2
    split at e
    · cases e
      cases q with
      | cons h1 t =>
        cases t with
        | cons h2 t =>
          cases t
          cases h1 with
          | lst f1 g1 =>
            cases h2 with
            | lst f2 g2 => exact ⟨_, _, _, _, rfl, .inl (rd_mono R1.ext f1), .inl (rd_mono R1.ext f2), k G1 H1 _ s1 R1 (iter_ez f1 f2 g1 g2)⟩
    · cases e
/-! ### targets that hold targets -/
def isTupD : PyData → Bool | .tuple _ => true | _ => false
def gNw (i : Nat) : PyData → Mu → Option Mu := fun d μ => if isTupD d = true then none else some (μ.set i (some d))
theorem qg_nameW {x : Str} {pos : Pos} (i : Nat) (hN : X.N.Nodup) (hO : A.O.contains i = false := by rfl) (hi : X.N[i]? = some x := by rfl) (hx : Loc X.env.scope x := by first | exact .inl rfl | exact .inr rfl) (hf : X.fn x = true ∨ X.env.scope.names.lookup x = some .local := by first | exact .inl rfl | exact .inr rfl) :
    PG X (.Name x pos) (tG A Dw (gNw i) [i]) := pg_to (qg_name (A := A) i hN hO hi hx hf) fun v σ H Q ⟨G, μ, d, μ', R, h, e, k⟩ => by
  unfold gNw at e
  split at e
  · cases e
  · rename_i nt
    cases e
    refine ⟨G, μ, d, _, R, ?_, rfl, k⟩
    rcases h with h | ⟨p, vs, ds, _, ed, _⟩
    · exact h
    · subst ed; exact absurd rfl nt
def tGsW (A : Act) (tg : List PyData → Mu → Option Mu) (sl : List Nat) : TGs := fun xs σ H Q => ∃ G μ d μ', Rl A G μ σ H ∧ DwAll G xs d ∧ tg d μ = some μ' ∧ ∀ σ', Rl A G μ' σ' H → (∀ vs, (∀ j, j ∈ sl → j ∈ vs) → wipe σ' vs = wipe σ vs) → Q σ' H
theorem qgw_nil : PGs X [] (tGsW A gsN []) := pgs_to pgs_nil fun v σ H Q ⟨G, μ, d, μ', R, h, e, k⟩ => by
  unfold gsN at e
  split at e
  · cases e
    cases h
    exact ⟨rfl, k σ R fun _ _ => rfl⟩
  · cases e
theorem qgw_cons {a : Expr} {es : List Expr} {f : PyData → Mu → Option Mu} {r : List PyData → Mu → Option Mu} {s1 s2 : List Nat} (h : PG X a (tG A Dw f s1)) (h2 : PGs X es (tGsW A r s2))
    (hs : (assignEach (a :: es) X.env).map (·.2) = assign a X.env :: (assignEach es X.env).map (·.2) := by rfl) : PGs X (a :: es) (tGsW A (gsC f r) (s1 ++ s2)) := pgs_to (pgs_cons h h2 hs) fun v σ H Q ⟨G, μ, d, μ', R, hd, e, k⟩ => by
  unfold gsC at e
  split at e
  · rename_i d1 ds
    obtain ⟨μ1, e1, e2⟩ := bind2 e
    cases hd with
    | cons hd1 hd2 =>
      refine ⟨_, _, rfl, G, μ, d1, μ1, R, hd1, e1, fun σ1 R1 w1 => ⟨G, μ1, ds, μ', R1, hd2, e2, fun σ2 R2 w2 => k σ2 R2 fun vs hv => ?_⟩⟩
      exact (w2 vs fun j hj => hv j (List.mem_append_right _ hj)).trans (w1 vs fun j hj => hv j (List.mem_append_left _ hj))
  · cases e
theorem qg_tupW {es : List Expr} {k : Nat} {pos : Pos} {f : List PyData → Mu → Option Mu} {sl : List Nat} {n : Nat} (h : PGs X es (tGsW A f sl)) (hc : X.calm = true := by rfl)
    (hn : (assignEach es X.env).length = n := by rfl) (hst : (assignEach es X.env).findIdx? (·.1) = none := by rfl) : PG X (.Tuple es k pos) (tG A Dww (gT n f) sl) := pg_to (pg_tup hc h hn hst) fun v σ H Q ⟨G, μ, d, μ', R, ⟨p, vs, ds, ev, ed, hr, hw⟩, e, k⟩ => by
  subst ed
  have e : (if ds.length = n then f ds μ else none) = some μ' := e
  split at e
  · rename_i hl
    exact ⟨_, _, ev, .inl (rd_mono R.ext hr), by rw [dwa_len hw]; exact hl, G, μ, ds, μ', R, hw, e, k⟩
  · cases e
end
end ML

set_option maxRecDepth 100000
set_option maxHeartbeats 4000000
namespace ML
open PySem PySem.Spec PyProof.Rows L2 RZ EZ
variable [KF]
section
variable {X : Cx} {A : Act}
/-! ### xs.extend(a fresh list) -/
def mExt (i : Nat) (m : ME) : ME := fun μ => (getL μ i).bind fun _ => (m μ).bind fun p => (asF p.1).bind fun es => (getL p.2 i).bind fun ds => if ds.length + es.length ≤ 100000 then some (.dat .none, p.2.set i (some (.list (ds ++ es)))) else none
theorem ext_read (i : Nat) (hO : A.O.contains i = true) {K : PySem.W.Frag} {m : ME} {σ : L2.St} {H : Hp} {Q : VK} (h : tE A (mExt i m) σ H Q) : tBM K "list" rExtend (tVar i) (tMA A (mCons m mNil)) σ H Q := by
  obtain ⟨G, μ, z, μ', R, e, k⟩ := h
  obtain ⟨ds0, e0, e⟩ := bind2 e
  obtain ⟨p, e1, e⟩ := bind2 e
  obtain ⟨es, e2, e⟩ := bind2 e
  obtain ⟨ds, e3, e⟩ := bind2 e
  split at e
  · rename_i hl
    cases e
    obtain ⟨a, vs, ds1, f1, f2, f3, f4, f5, f6⟩ := R.ownL i (getL_some e0) (inO hO)
    refine ⟨.ref a, f2, .inl ⟨rfl, vs, .inl (.inl f3)⟩, G, μ, [p.1], p.2, R, by show ((m μ).bind fun p => (mNil p.2).map fun q => (p.1 :: q.1, q.2)) = _; rw [e1]; rfl, fun G1 H1 xs s1 R1 q1 => ?_⟩
    obtain ⟨a2, vs2, ds2, g1, g2, g3, g4, g5, g6⟩ := R1.ownL i (getL_some e3) (inO hO)
    have ea : a2 = a := V.ref.inj (Option.some.inj (Option.some.inj (g2.symm.trans f2)))
    subst ea
    cases g1
    rw [asF_some e2] at q1
    cases q1 with
    | cons h1 t =>
      cases t
      obtain ⟨b, us, ev, h2, h3, h4, h5, h6⟩ := h1
      subst ev
      obtain ⟨R2, s2⟩ := R1.upd (inO hO) g2 (getL_some e3) (dqa_app g4 h3)
      exact ⟨a2, b, vs2, us, rfl, rfl, g3, h2, by rw [dqa_len g4, dqa_len h3]; exact Nat.le_trans hl (by decide), k G1 _ .non (s1.trans s2) R2 .non trivial⟩
  · cases e
theorem qe_ext {x : Str} {px : Pos} {apos cpos : Pos} {a : Expr} {m : ME} (i : Nat) (ha : PE X a (tE A m))
    (hO : A.O.contains i = true := by rfl) (hN : X.N[i]? = some x := by rfl) (hv : Vis X.env.scope x := by first | exact Or.inl rfl | exact Or.inr (Or.inl rfl) | exact Or.inr (Or.inr rfl)) (hd : (x == ("__debug__" : Str)) = false := by decide) (hcd : (x == ("__classdict__" : Str)) = false := by decide)
    (hbase : attributeBase (.Name x px) "extend" X.env (eval (.Name x px) X.env) = eval (.Name x px) X.env := by rfl)
    (hfew : ((backTo cpos (starEach [a] X.env)).all (fun x => !x.1) && (backToKw cpos (keywordEach [] X.env)).all (fun x => x.1.isSome)
      && decide (([a] : List Expr).length + ([] : List Keyword).length + (if ([] : List Keyword).isEmpty then 0 else 1) < 30)) = true := by rfl)
    (hline : (apos.endLine == cpos.line) = true := by rfl) (hs : starEach [a] X.env = (false, eval a X.env) :: starEach [] X.env := by rfl) (hplain : (backTo cpos (starEach [] X.env)).any (·.1) = false := by rfl) :
    PE X (.Call (.Attribute (.Name x px) "extend" apos) [a] [] cpos) (tE A (mExt i m)) :=
  pe_to (pe_bm PySem.F.plainAttrs_list PySem.F.slot_list_extend PySem.F.type_list_extend mt_extend (pv i hN hv hd hcd) (qa_cons ha qa_nil hs) hbase hfew hline hs hplain) fun σ H Q h => ext_read i hO h
end
end ML

set_option maxRecDepth 100000
set_option maxHeartbeats 4000000
namespace ML
open PySem PySem.Spec PyProof.Rows L2 RZ EZ
variable [KF]
section
variable {X : Cx} {A : Act}
/-! ### a, b = a tuple or a list -/
theorem PG.or {e : Expr} {t u : TG} (h : PG X e t) (h' : PG X e u) : PG X e (fun v σ H Q => t v σ H Q ∨ u v σ H Q) := ⟨fun pins s σ H v w Q I r q => q.elim (h.run pins s σ H v w Q I r) (h'.run pins s σ H v w Q I r)⟩
def gTL (n : Nat) (f : List PyData → Mu → Option Mu) : PyData → Mu → Option Mu := fun d μ => match d with
  | .tuple ds => if ds.length = n then f ds μ else none
  | .list ds => if ds.length = n then f ds μ else none
  | _ => none
theorem qg_tupL {es : List Expr} {k : Nat} {pos : Pos} {f : List PyData → Mu → Option Mu} {sl : List Nat} {n : Nat} (h : PGs X es (tGs A f sl)) (hc : X.calm = true := by rfl)
    (hn : (assignEach es X.env).length = n := by rfl) (hst : (assignEach es X.env).findIdx? (·.1) = none := by rfl) : PG X (.Tuple es k pos) (tG A Dq (gTL n f) sl) := pg_to (PG.or (pg_tup hc h hn hst) (pg_unl hc h hn hst)) fun v σ H Q ⟨G, μ, d, μ', R, hd, e, k⟩ => by
  cases hd with
  | tup h1 h0 h2 =>
    have e : (if _ = n then f _ μ else none) = some μ' := e
    split at e
    · rename_i hl
      exact .inl ⟨_, _, rfl, .inl (.inr ⟨_, R.ext _ _ h1⟩), by rw [dqa_len h2]; exact hl, G, μ, _, μ', R, h2, e, k⟩
    · cases e
  | lst h1 h2 =>
    have e : (if _ = n then f _ μ else none) = some μ' := e
    split at e
    · rename_i hl
      exact .inr ⟨_, _, rfl, .inl (rd_mono R.ext h1), by rw [dqa_len h2]; exact hl, G, μ, _, μ', R, h2, e, k⟩
    · cases e
  | _ => cases e
end
end ML

set_option maxRecDepth 100000
set_option maxHeartbeats 4000000
namespace ML
open PySem PySem.Spec PyProof.Rows L2 RZ EZ
variable [KF]
section
variable {X : Cx} {A : Act}
/-! ### is True, is False -/
def dIsB : PyData → PyData → Option MV
  | .bool a, .bool b => some (.dat (.bool (decide (a = b))))
  | _, _ => none
def dIsNotB : PyData → PyData → Option MV
  | .bool a, .bool b => some (.dat (.bool (!decide (a = b))))
  | _, _ => none
theorem ok_isB : OpOk X (compareOp .Is) dIsB := by
  refine ⟨_, op_is_bl, fun G H x y a b z Q e hx hy hz k => ?_⟩
  cases a <;> first | (cases hz; done) | skip
  cases b <;> first | (cases hz; done) | skip
  cases hz
  exact ⟨_, _, hx.b, hy.b, k G H _ (.refl e) (.bl _)⟩
theorem ok_isNotB : OpOk X (compareOp .IsNot) dIsNotB := by
  refine ⟨_, op_isnot_bl, fun G H x y a b z Q e hx hy hz k => ?_⟩
  cases a <;> first | (cases hz; done) | skip
  cases b <;> first | (cases hz; done) | skip
  cases hz
  exact ⟨_, _, hx.b, hy.b, k G H _ (.refl e) (.bl _)⟩
end
end ML

set_option maxRecDepth 100000
set_option maxHeartbeats 4000000
namespace ML
open PySem PySem.Spec PyProof.Rows L2 RZ
section
variable [KF] {X : Cx} {A : Act}
/-! ### comprehensions of two clauses -/
def lc2M (f : PyData → Mu → Option Mu) (tt : MT) (mi1 : MI) (f1 : PyData → Mu → Option Mu) (tt1 : MT) (te : ME) (vs vs1 : List Nat) : List PyData → Mu → List PyData → Option (List PyData × Mu)
  | [], μ, acc => some (acc, μ)
  | d :: ds, μ, acc => (f d μ).bind fun μ1 => (tt μ1).bind fun p => if p.1 = true then (mi1 p.2).bind fun q => (lcM f1 tt1 te vs1 q.1 (wipeM q.2 vs1) acc).bind fun z => lc2M f tt mi1 f1 tt1 te vs vs1 ds (wipeM z.2 vs) z.1
    else lc2M f tt mi1 f1 tt1 te vs vs1 ds (wipeM p.2 vs) acc
def mLc2 (mi : MI) (f : PyData → Mu → Option Mu) (tt : MT) (mi1 : MI) (f1 : PyData → Mu → Option Mu) (tt1 : MT) (te : ME) (vs vs1 : List Nat) : ME := fun μ => (mi μ).bind fun p => (lc2M f tt mi1 f1 tt1 te vs vs1 p.1 (wipeM p.2 vs) []).map fun q => (.fre q.1, restM p.2 q.2 vs)
theorem wipe_sub {vs vs1 : List Nat} (h : ∀ j, j ∈ vs1 → j ∈ vs) (σ : L2.St) : wipe (wipe σ vs1) vs = wipe σ vs := wipe_ext (fun j hj => by rw [wipe_at, if_neg (fun z => hj (h j z))]) (wipe_length _ _)
/-- a row of things put to the list D, one by one -/
theorem lc_inner {r : Hp → V → PyData → Prop} {f : PyData → Mu → Option Mu} {sl vs : List Nat} {tt : MT} {te : ME} (hd : disj vs A.O = true) (hsl : ∀ j, j ∈ sl → j ∈ vs) {σ : L2.St} {G0 H0 G1 H1 : Hp} {μ1 μe : Mu} {ds acc res : List PyData} {av : List V} {J : It} {D : Addr}
    (hD : H0 D = none) (s0 : Step A σ G0 H0 G1 H1) (R1 : Rl A G1 μ1 σ H1) (it : IterOk r J G1 ds) (hAD : A.H D = none) (hoD : ¬ Own A σ D) (h1 : H1 D = some (.lst av)) (a1 : DqAll G1 av acc) (g1 : G1 D = none) (e : lcM f tt te vs ds (wipeM μ1 vs) acc = some (res, μe)) {Nx : Hp → Prop}
    (hNx : ∀ G' H' av', Step A σ G0 H0 G' H' → Rl A G' μe (wipe σ vs) H' → H' D = some (.lst av') → DqAll G' av' res → G' D = none → Nx H') :
    ∃ W : Nat → Nat → Hp → Prop, (∃ m, W 0 m H1) ∧ ∀ j k H, W j k H → (J.stop j H ∧ Nx H) ∨ (J.go j H ∧ ∃ Nx1 : Hp → Prop, (∀ H', Nx1 H' → ∃ k', k' < k ∧ W (j + 1) k' H') ∧ ∀ x H', J.yld j H x H' → tG A r f sl x (wipe σ vs) H' fun σ3 H5 => wipe σ3 vs = wipe σ vs ∧ tMT A tt σ3 H5 fun b H6 =>
      if b = true then tE A te σ3 H6 fun y H7 => ∃ acc, H7 D = some (.lst acc) ∧ acc.length < sizeLine ∧ Nx1 (upd H7 D (.lst (acc ++ [y]))) else Nx1 H6) := by
  have hlD : H1 D ≠ none := by rw [h1]; exact fun z => nomatch z
  refine ⟨fun i m H' => i ≤ ds.length ∧ m = ds.length - i ∧ ∃ G' μi acc av, Same G1 G' ∧ Step A σ G0 H0 G' H' ∧ Rl A G' μi (wipe σ vs) H' ∧ H' D = some (.lst av) ∧ DqAll G' av acc ∧ G' D = none ∧ lcM f tt te vs (ds.drop i) μi acc = some (res, μe),
    ⟨_, Nat.zero_le _, rfl, G1, _, acc, av, .refl _, s0, R1.wipe hd, h1, a1, g1, e⟩, ?_⟩
  rintro i m H2 ⟨hi, rfl, G2, μ2, acc, av, g2, s2, R2, h2, a2, d2, e3⟩
  by_cases hlt : i < ds.length
  · right
    obtain ⟨go, y⟩ := it.go G2 H2 i ds[i] g2 R2.ext (List.getElem?_eq_getElem hlt)
    refine ⟨go, fun H' => i + 1 ≤ ds.length ∧ ∃ G' μi acc av, Same G1 G' ∧ Step A σ G0 H0 G' H' ∧ Rl A G' μi (wipe σ vs) H' ∧ H' D = some (.lst av) ∧ DqAll G' av acc ∧ G' D = none ∧ lcM f tt te vs (ds.drop (i + 1)) μi acc = some (res, μe), fun H' ⟨p1, p2⟩ => ⟨_, by omega, p1, rfl, p2⟩, fun x H' hy => ?_⟩
    obtain ⟨G3, g3, hx⟩ := y x H' hy
    rw [List.drop_eq_getElem_cons hlt] at e3
    obtain ⟨μ3, e4, e5⟩ := bind2 e3
    refine ⟨G3, μ2, _, μ3, R2.grow g3, hx, e4, fun σ3 R3 w3 => ?_⟩
    have ws : wipe σ3 vs = wipe σ vs := (w3 vs hsl).trans (wipe_wipe σ vs)
    have hoD3 : ¬ Own A σ3 D := fun z => hoD (own_wipe hd ws z)
    have hl2 : H2 D ≠ none := by rw [h2]; exact fun z => nomatch z
    obtain ⟨⟨b, μ4⟩, e6, e7⟩ := bind2 e5
    refine ⟨ws, G3, μ3, b, μ4, R3, e6, fun G4 H4 s4 R4 => ?_⟩
    have h4 : H4 D = some (.lst av) := s4.h _ _ (g3.h _ _ h2) hoD3
    have d4 : G4 D = none := s4.fr D (same_live g3.h hl2) (g3.fr D hl2 d2)
    have st4 : Step A σ G0 H0 G4 H4 := (s2.trans g3.step).trans (s4.slots hd ws)
    cases b with
    | true =>
      rw [if_pos rfl] at e7
      obtain ⟨⟨q1, μ5⟩, e8, e9⟩ := bind2 e7
      obtain ⟨yd, e10, e11⟩ := bind2 e9
      split at e11
      · rename_i hz
        refine iteT ⟨G4, μ4, q1, μ5, R4, e8, fun G5 H5 v s5 R5 q5 n5 => ?_⟩
        have q5 : RelMV A G5 σ3 H5 v (.dat yd) := by rw [← asD_some e10]; exact q5
        have h5 : H5 D = some (.lst av) := s5.h _ _ h4 hoD3
        have hl4 : H4 D ≠ none := by rw [h4]; exact fun z => nomatch z
        have d5 : G5 D = none := s5.fr D hl4 d4
        have a5 : DqAll G5 (av ++ [v]) (acc ++ [yd]) := dqa_app (dqa_mono ((g3.g.trans s4.g).trans s5.g) a2) (.cons q5 .nil)
        refine ⟨av, h5, by rw [dqa_len a2]; exact Nat.lt_of_lt_of_le hz (by decide), hlt, G5, wipeM μ5 vs, acc ++ [yd], av ++ [v], ((g2.trans g3.g).trans s4.g).trans s5.g, ?_, ?_, upd_same, a5, d5, e11⟩
        · have st5 : Step A σ G0 H0 G5 H5 := st4.trans (s5.slots hd ws)
          refine ⟨st5.g, fun a o h n => ?_, st5.fr, fun a h => ?_⟩
          · have : a ≠ D := fun z => by rw [z, hD] at h; cases h
            rw [upd_ne this]; exact st5.h a o h n
          · by_cases z : a = D
            · rw [z, upd_same]; exact fun z => nomatch z
            · rw [upd_ne z]; exact st5.lv a h
        · have R6 := R5.wipe hd
          rw [ws] at R6
          have ow : ∀ {a}, Own A (wipe σ vs) a → Own A σ a := fun z => own_wipe hd (wipe_wipe σ vs) z
          refine ⟨R6.len, fun b u q => ?_, R6.up, fun a o h n => ?_, fun a h => ?_, R6.fg, R6.val, fun j d hj n => ?_, fun j a n e => ?_, R6.sep, R6.par⟩
          · rw [upd_ne (ne_of_none q d5)]; exact R6.ext _ _ q
          · have : a ≠ D := fun z => by rw [z, hAD] at h; cases h
            rw [upd_ne this]; exact R6.fr a o h n
          · by_cases z : a = D
            · rw [z, upd_same]; exact fun z => nomatch z
            · rw [upd_ne z]; exact R6.lv a h
          · obtain ⟨q, o2, f2, f3, f4⟩ := R6.own j d hj n
            have : q ≠ D := fun z => hoD (ow ⟨j, n, z ▸ f2⟩)
            exact ⟨q, o2, f2, by rw [upd_ne this]; exact f3, f4⟩
          · by_cases z : a = D
            · rw [z, upd_same]; exact fun z => nomatch z
            · rw [upd_ne z]; exact R6.liv j a n e
      · cases e11
    | false =>
      rw [if_neg Bool.false_ne_true] at e7
      refine iteF ⟨hlt, G4, wipeM μ4 vs, acc, av, (g2.trans g3.g).trans s4.g, st4, ?_, h4, dqa_mono (g3.g.trans s4.g) a2, d4, e7⟩
      have R6 := R4.wipe hd
      rw [ws] at R6
      exact R6
  · left
    have hi' : i = ds.length := by omega
    subst hi'
    refine ⟨it.stop G2 H2 g2 R2.ext, ?_⟩
    rw [List.drop_length] at e3
    cases e3
    exact hNx G2 H2 av s2 R2 h2 a2 d2

theorem lc2_read {r r1 : Hp → V → PyData → Prop} {mi mi1 : MI} {f f1 : PyData → Mu → Option Mu} {sl sl1 vs vs1 : List Nat} {tt tt1 : MT} {te : ME} (hd : disj vs A.O = true) (hd1 : disj vs1 A.O = true) (hsl : ∀ j, j ∈ sl → j ∈ vs) (hsl1 : ∀ j, j ∈ sl1 → j ∈ vs1) (hv1 : ∀ j, j ∈ vs1 → j ∈ vs) {σ : L2.St} {H : Hp} {Q : VK} (w : tE A (mLc2 mi f tt mi1 f1 tt1 te vs vs1) σ H Q) :
    tLc2 (tI A r mi) (tG A r f sl) (tMT A tt) (tI A r1 mi1) (tG A r1 f1 sl1) (tMT A tt1) (tE A te) vs vs1 σ H Q := by
  obtain ⟨G, μ, z, μ', R, e, k⟩ := w
  obtain ⟨⟨ds, μ1⟩, e1, e⟩ := bind2 e
  obtain ⟨⟨res, μe⟩, e2, e⟩ := map2 e
  cases e
  refine ⟨G, μ, ds, μ1, R, e1, fun G1 H1 J s1 R1 it D hD => ?_⟩
  have hD0 : H D = none := by
    cases q : H D with
    | none => rfl
    | some o => exact absurd hD (s1.lv D (by rw [q]; exact fun z => nomatch z))
  have hAD : A.H D = none := by
    cases q : A.H D with
    | none => rfl
    | some o => exact absurd hD (R1.lv D (by rw [q]; exact fun z => nomatch z))
  have hoD : ¬ Own A σ D := fun ⟨i, hi, hs⟩ => R1.liv i D hi hs hD
  have gD : G1 D = none := R1.ext.free hD
  have g0 := Grow.free (o := .lst []) R1.ext hD
  have R0 : Rl A G1 (wipeM μ1 vs) (wipe σ vs) (upd H1 D (.lst [])) := (R1.grow g0).wipe hd
  refine ⟨fun i m H' => i ≤ ds.length ∧ m = ds.length - i ∧ ∃ G' μi acc av, Step A σ G1 H1 G' H' ∧ Rl A G' μi (wipe σ vs) H' ∧ H' D = some (.lst av) ∧ DqAll G' av acc ∧ G' D = none ∧ lc2M f tt mi1 f1 tt1 te vs vs1 (ds.drop i) μi acc = some (res, μe),
    ⟨_, Nat.zero_le _, rfl, G1, _, [], [], g0.step, R0, upd_same, .nil, gD, e2⟩, ?_⟩
  rintro i m H2 ⟨hi, rfl, G2, μ2, acc, av, s2, R2, h2, a2, d2, e3⟩
  by_cases hlt : i < ds.length
  · right
    obtain ⟨go, y⟩ := it.go G2 H2 i ds[i] s2.g R2.ext (List.getElem?_eq_getElem hlt)
    refine ⟨go, fun H' => i + 1 ≤ ds.length ∧ ∃ G' μi acc av, Step A σ G1 H1 G' H' ∧ Rl A G' μi (wipe σ vs) H' ∧ H' D = some (.lst av) ∧ DqAll G' av acc ∧ G' D = none ∧ lc2M f tt mi1 f1 tt1 te vs vs1 (ds.drop (i + 1)) μi acc = some (res, μe), fun H' ⟨p1, p2⟩ => ⟨_, by omega, p1, rfl, p2⟩, fun x H' hy => ?_⟩
    obtain ⟨G3, g3, hx⟩ := y x H' hy
    rw [List.drop_eq_getElem_cons hlt] at e3
    obtain ⟨μ3, e4, e5⟩ := bind2 e3
    refine ⟨G3, μ2, _, μ3, R2.grow g3, hx, e4, fun σ3 R3 w3 => ?_⟩
    have ws : wipe σ3 vs = wipe σ vs := (w3 vs hsl).trans (wipe_wipe σ vs)
    have hoD3 : ¬ Own A σ3 D := fun z => hoD (own_wipe hd ws z)
    have hl2 : H2 D ≠ none := by rw [h2]; exact fun z => nomatch z
    obtain ⟨⟨b, μ4⟩, e6, e7⟩ := bind2 e5
    refine ⟨ws, G3, μ3, b, μ4, R3, e6, fun G4 H4 s4 R4 => ?_⟩
    have h4 : H4 D = some (.lst av) := s4.h _ _ (g3.h _ _ h2) hoD3
    have d4 : G4 D = none := s4.fr D (same_live g3.h hl2) (g3.fr D hl2 d2)
    have st4 : Step A σ G1 H1 G4 H4 := (s2.trans g3.step).trans (s4.slots hd ws)
    cases b with
    | true =>
      rw [if_pos rfl] at e7
      obtain ⟨⟨ds1, μ5⟩, e8, e9⟩ := bind2 e7
      obtain ⟨⟨res1, μ6⟩, e10, e11⟩ := bind2 e9
      refine iteT ⟨G4, μ4, ds1, μ5, R4, e8, fun G5 H5 J1 s5 R5 it1 => ?_⟩
      have h5 : H5 D = some (.lst av) := s5.h _ _ h4 hoD3
      have hl4 : H4 D ≠ none := by rw [h4]; exact fun z => nomatch z
      have d5 : G5 D = none := s5.fr D hl4 d4
      have st5 : Step A σ3 G1 H1 G5 H5 := (st4.slots hd ws.symm).trans s5
      refine lc_inner (A := A) hd1 hsl1 hD st5 R5 it1 hAD hoD3 h5 (dqa_mono ((g3.g.trans s4.g).trans s5.g) a2) d5 e10 fun G' H' av' s' R' h' a' d' => ?_
      refine ⟨hlt, G', wipeM μ6 vs, res1, av', s'.slots hd ws, ?_, h', a', d', e11⟩
      have R7 := R'.wipe hd
      rw [wipe_sub hv1, ws] at R7
      exact R7
    | false =>
      rw [if_neg Bool.false_ne_true] at e7
      refine iteF ⟨hlt, G4, wipeM μ4 vs, acc, av, st4, ?_, h4, dqa_mono (g3.g.trans s4.g) a2, d4, e7⟩
      have R6 := R4.wipe hd
      rw [ws] at R6
      exact R6
  · left
    have hi' : i = ds.length := by omega
    subst hi'
    refine ⟨it.stop G2 H2 s2.g R2.ext, ?_⟩
    rw [List.drop_length] at e3
    cases e3
    have R9 := R1.unwipe hd s2.g R2
    exact k G2 H2 _ (s1.trans s2) R9 ⟨D, av, rfl, h2, a2, d2, hAD, hoD⟩ fun p ep => by cases ep; exact hD0
section
variable {r r1 : Hp → V → PyData → Prop} {elt tg iter tg1 iter1 : Expr} {ifs ifs1 : List Expr} {scope : Scope} {own : List (Str × Nat)} {pos : Pos} {mi mi1 : MI} {f f1 : PyData → Mu → Option Mu} {sl sl1 : List Nat} {tt tt1 : MT} {te : ME}
theorem qe_lc2 (vs vs1 : List Nat) (hN : X.N.Nodup) (hi : PI X tg iter (tI A r mi)) (ok : BlkOk X.N X.env.scope scope own)
    (hg : ∀ (s : Shared) (H : Hp) (C : Addr) (cl : List (Str × Addr)) (fp : List Addr), PG (X.blk s H scope (compEnvC scope cl C X.env) fp) tg (tG A r f sl)) (ht : ∀ (s : Shared) (H : Hp) (C : Addr) (cl : List (Str × Addr)) (fp : List Addr), PTs (X.blk s H scope (compEnvC scope cl C X.env) fp) ifs (tMT A tt))
    (hi1 : ∀ (s : Shared) (H : Hp) (C : Addr) (cl : List (Str × Addr)) (fp : List Addr), PI (X.blk s H scope (compEnvC scope cl C X.env) fp) tg1 iter1 (tI A r1 mi1))
    (hg1 : ∀ (s : Shared) (H : Hp) (C : Addr) (cl : List (Str × Addr)) (fp : List Addr), PG (X.blk s H scope (compEnvC scope cl C X.env) fp) tg1 (tG A r1 f1 sl1)) (ht1 : ∀ (s : Shared) (H : Hp) (C : Addr) (cl : List (Str × Addr)) (fp : List Addr), PTs (X.blk s H scope (compEnvC scope cl C X.env) fp) ifs1 (tMT A tt1))
    (he : ∀ (s : Shared) (H : Hp) (C : Addr) (cl : List (Str × Addr)) (fp : List Addr), PE (X.blk s H scope (compEnvC scope cl C X.env) fp) elt (tE A te)) (hv : own.map (·.2) = vs := by rfl) (hd : disj vs A.O = true := by rfl) (hd1 : disj vs1 A.O = true := by rfl) (hsl : ∀ j, j ∈ sl → j ∈ vs := by decide) (hsl1 : ∀ j, j ∈ sl1 → j ∈ vs1 := by decide) (hv1 : ∀ j, j ∈ vs1 → j ∈ vs := by decide) (hc : X.calm = true := by rfl) (hs : ∀ x, foldedSetIterable iter X.env x = pure x := by intro _; rfl) (hs1 : ∀ env x, foldedSetIterable iter1 env x = pure x := by intro _ _; rfl) :
    PE X (.ListComp elt [⟨tg, iter, ifs, 0⟩, ⟨tg1, iter1, ifs1, 0⟩] scope pos) (tE A (mLc2 mi f tt mi1 f1 tt1 te vs vs1)) := pe_to (pe_lc2 (vs1 := vs1) hc hN hi ok (fun i hi => by rw [hv]; exact hv1 i hi) hg ht hi1 hg1 ht1 he hs hs1) fun σ H Q w => by
  rw [hv]
  exact lc2_read hd hd1 hsl hsl1 hv1 w
theorem qs_lc2 {y : Str} {py spos : Pos} (i : Nat) (vs vs1 : List Nat) (hN : X.N.Nodup) (hi : PI X tg iter (tI A r mi)) (ok : BlkOk X.N X.env.scope scope own)
    (hg : ∀ (s : Shared) (H : Hp) (C : Addr) (cl : List (Str × Addr)) (fp : List Addr), PG (X.blk s H scope (compEnvC scope cl C X.env) fp) tg (tG A r f sl)) (ht : ∀ (s : Shared) (H : Hp) (C : Addr) (cl : List (Str × Addr)) (fp : List Addr), PTs (X.blk s H scope (compEnvC scope cl C X.env) fp) ifs (tMT A tt))
    (hi1 : ∀ (s : Shared) (H : Hp) (C : Addr) (cl : List (Str × Addr)) (fp : List Addr), PI (X.blk s H scope (compEnvC scope cl C X.env) fp) tg1 iter1 (tI A r1 mi1))
    (hg1 : ∀ (s : Shared) (H : Hp) (C : Addr) (cl : List (Str × Addr)) (fp : List Addr), PG (X.blk s H scope (compEnvC scope cl C X.env) fp) tg1 (tG A r1 f1 sl1)) (ht1 : ∀ (s : Shared) (H : Hp) (C : Addr) (cl : List (Str × Addr)) (fp : List Addr), PTs (X.blk s H scope (compEnvC scope cl C X.env) fp) ifs1 (tMT A tt1))
    (he : ∀ (s : Shared) (H : Hp) (C : Addr) (cl : List (Str × Addr)) (fp : List Addr), PE (X.blk s H scope (compEnvC scope cl C X.env) fp) elt (tE A te)) (hO : A.O.contains i = false := by rfl) (hy : X.N[i]? = some y := by rfl) (hyl : X.env.scope.names.lookup y = some .local := by rfl)
    (hsw : swapsWith (.ListComp elt [⟨tg, iter, ifs, 0⟩, ⟨tg1, iter1, ifs1, 0⟩] scope pos) (some (.Name y py)) spos.line X.env = pure true := by exact sw_true rfl rfl rfl (by decide +kernel))
    (hv : own.map (·.2) = vs := by rfl) (hd : disj vs A.O = true := by rfl) (hd1 : disj vs1 A.O = true := by rfl) (hsl : ∀ j, j ∈ sl → j ∈ vs := by decide) (hsl1 : ∀ j, j ∈ sl1 → j ∈ vs1 := by decide) (hv1 : ∀ j, j ∈ vs1 → j ∈ vs := by decide) (hc : X.calm = true := by rfl) (hs : ∀ x, foldedSetIterable iter X.env x = pure x := by intro _; rfl) (hs1 : ∀ env x, foldedSetIterable iter1 env x = pure x := by intro _ _; rfl) :
    PS X (.Assign [.Name y py] (.ListComp elt [⟨tg, iter, ifs, 0⟩, ⟨tg1, iter1, ifs1, 0⟩] scope pos) spos) (tS A (sAsg i (mFrz (mLc2 mi f tt mi1 f1 tt1 te vs vs1)))) := ps_to (ps_setLc2 (vs1 := vs1) hc hN hy hyl hsw hi ok (fun i hi => by rw [hv]; exact hv1 i hi) hg ht hi1 hg1 ht1 he hs hs1) fun D σ H w => by
  rw [hv]
  exact asg_read hO (fun σ H Q h => lc2_read hd hd1 hsl hsl1 hv1 (frz_to h)) w
theorem qs_lc2O {y : Str} {py spos : Pos} (i : Nat) (vs vs1 : List Nat) (hN : X.N.Nodup) (hi : PI X tg iter (tI A r mi)) (ok : BlkOk X.N X.env.scope scope own)
    (hg : ∀ (s : Shared) (H : Hp) (C : Addr) (cl : List (Str × Addr)) (fp : List Addr), PG (X.blk s H scope (compEnvC scope cl C X.env) fp) tg (tG A r f sl)) (ht : ∀ (s : Shared) (H : Hp) (C : Addr) (cl : List (Str × Addr)) (fp : List Addr), PTs (X.blk s H scope (compEnvC scope cl C X.env) fp) ifs (tMT A tt))
    (hi1 : ∀ (s : Shared) (H : Hp) (C : Addr) (cl : List (Str × Addr)) (fp : List Addr), PI (X.blk s H scope (compEnvC scope cl C X.env) fp) tg1 iter1 (tI A r1 mi1))
    (hg1 : ∀ (s : Shared) (H : Hp) (C : Addr) (cl : List (Str × Addr)) (fp : List Addr), PG (X.blk s H scope (compEnvC scope cl C X.env) fp) tg1 (tG A r1 f1 sl1)) (ht1 : ∀ (s : Shared) (H : Hp) (C : Addr) (cl : List (Str × Addr)) (fp : List Addr), PTs (X.blk s H scope (compEnvC scope cl C X.env) fp) ifs1 (tMT A tt1))
    (he : ∀ (s : Shared) (H : Hp) (C : Addr) (cl : List (Str × Addr)) (fp : List Addr), PE (X.blk s H scope (compEnvC scope cl C X.env) fp) elt (tE A te)) (hO : A.O.contains i = true := by rfl) (hP : A.P.contains i = false := by rfl) (hy : X.N[i]? = some y := by rfl) (hyl : X.env.scope.names.lookup y = some .local := by rfl)
    (hsw : swapsWith (.ListComp elt [⟨tg, iter, ifs, 0⟩, ⟨tg1, iter1, ifs1, 0⟩] scope pos) (some (.Name y py)) spos.line X.env = pure true := by exact sw_true rfl rfl rfl (by decide +kernel))
    (hv : own.map (·.2) = vs := by rfl) (hd : disj vs A.O = true := by rfl) (hd1 : disj vs1 A.O = true := by rfl) (hsl : ∀ j, j ∈ sl → j ∈ vs := by decide) (hsl1 : ∀ j, j ∈ sl1 → j ∈ vs1 := by decide) (hv1 : ∀ j, j ∈ vs1 → j ∈ vs := by decide) (hc : X.calm = true := by rfl) (hs : ∀ x, foldedSetIterable iter X.env x = pure x := by intro _; rfl) (hs1 : ∀ env x, foldedSetIterable iter1 env x = pure x := by intro _ _; rfl) :
    PS X (.Assign [.Name y py] (.ListComp elt [⟨tg, iter, ifs, 0⟩, ⟨tg1, iter1, ifs1, 0⟩] scope pos) spos) (tS A (sAsgO i (mLc2 mi f tt mi1 f1 tt1 te vs vs1))) := ps_to (ps_setLc2 (vs1 := vs1) hc hN hy hyl hsw hi ok (fun i hi => by rw [hv]; exact hv1 i hi) hg ht hi1 hg1 ht1 he hs hs1) fun D σ H w => by
  rw [hv]
  exact asgO_read hO hP (fun σ H Q h => lc2_read hd hd1 hsl hsl1 hv1 h) w
end
end
end ML

set_option maxRecDepth 100000
set_option maxHeartbeats 4000000
namespace ML
open PySem PySem.Spec PyProof.Rows L2 RZ
variable [KF]
section
variable {X : Cx} {A : Act}
/-! ### t < u of tuples of ints -/
def dLtT : PyData → PyData → Option MV
  | .tuple a, .tuple b => (intsOf a).bind fun ns => (intsOf b).map fun ms => .dat (.bool (HT.lexLt ns ms))
  | _, _ => none
theorem ok_ltT {k : Nat} (hr : Rm k X.A) : OpOk X (compareOp .Lt) dLtT := by
  refine ⟨_, op_ltT (Nat.lt_of_le_of_lt (Nat.le_add_right _ 64) hr.units), fun G H x y a b z Q e hx hy hz kk => ?_⟩
  cases a <;> first | (cases hz; done) | skip
  cases b <;> first | (cases hz; done) | skip
  obtain ⟨ns, e1, hz⟩ := bind2 hz
  obtain ⟨ms, e2, e3⟩ := map2 hz
  cases e3
  rw [intsOf_some e1] at hx
  rw [intsOf_some e2] at hy
  obtain ⟨p, vs, rfl, h1, h2⟩ := hx.t e
  obtain ⟨p', vs', rfl, h1', h2'⟩ := hy.t e
  cases dqa_ints h2
  cases dqa_ints h2'
  exact ⟨p, p', ns, ms, rfl, rfl, .inl h1, .inl h1', kk G H _ (.refl e) (.bl _)⟩
/-! ### in a list of things of any depth -/
def dInD (neg : Bool) : PyData → PyData → Option MV
  | a, .list ds => if SeqAt.shaped a = true ∧ SeqAt.shaped (.list ds) = true then some (.dat (.bool (if neg then !(ds.any fun z => PyData.eqv z a) else ds.any fun z => PyData.eqv z a))) else none
  | _, _ => none
theorem inD_rel {neg : Bool} {H G : Hp} {x y : V} {a b : PyData} {z : MV} {Q : VK} (e : Same G H) (hx : Db G H x a) (hy : Db G H y b) (hz : dInD neg a b = some z) (k : ∀ G' H' v, Grow G H G' H' → ResV H G' H' v z → Q v H') :
    ∃ d ds, Dp X.K H x d ∧ Dp X.K H y (.list ds) ∧ SeqAt.shaped d = true ∧ SeqAt.shaped (.list ds) = true ∧ Q (.bl (if neg then !(ds.any fun z => PyData.eqv z d) else ds.any fun z => PyData.eqv z d)) H := by
  cases b <;> first | (cases hz; done) | skip
  rename_i ds
  have hz : (if SeqAt.shaped a = true ∧ SeqAt.shaped (.list ds) = true then some (MV.dat (.bool (if neg then !(ds.any fun z => PyData.eqv z a) else ds.any fun z => PyData.eqv z a))) else none) = some z := hz
  split at hz
  · rename_i q
    cases hz
    exact ⟨a, ds, dq_dp (shaped_nodict q.1) (hx.dq e (shaped_nodict q.1)), dq_dp (shaped_nodict q.2) (hy.dq e (shaped_nodict q.2)), q.1, q.2, k G H _ (.refl e) (.bl _)⟩
  · cases hz
theorem ok_inD {k : Nat} (hr : Rm k X.A) : OpOk X (compareOp .In) (dInD false) := ⟨_, op_inD (by have := hr.un; omega), fun G H x y a b z Q e hx hy hz kk => by
  obtain ⟨d, ds, h1, h2, h3, h4, h5⟩ := inD_rel (X := X) e hx hy hz kk
  exact ⟨d, ds, h1, h2, h3, h4, h5⟩⟩
theorem ok_notInD {k : Nat} (hr : Rm k X.A) : OpOk X (compareOp .NotIn) (dInD true) := ⟨_, op_notInD (by have := hr.un; omega), fun G H x y a b z Q e hx hy hz kk => by
  obtain ⟨d, ds, h1, h2, h3, h4, h5⟩ := inD_rel (X := X) e hx hy hz kk
  exact ⟨d, ds, h1, h2, h3, h4, h5⟩⟩
def dInX (neg : Bool) : PyData → PyData → Option MV := fun a b => orF (dIn neg) (dInD neg) a b
theorem ok_inX {k : Nat} (hr : Rm k X.A) : OpOk X (compareOp .In) (dInX false) := ok_in.or (ok_inD hr)
theorem ok_notInX {k : Nat} (hr : Rm k X.A) : OpOk X (compareOp .NotIn) (dInX true) := ok_notIn.or (ok_notInD hr)
/-! ### range downwards -/
def rgDn (a b : Int) : List PyData := (List.range (a - b).toNat).map fun i => .int (a - (i : Nat))
theorem iter_dn {G0 : Hp} {a b : Int} : IterOk Dq (Itc a (-1) (a - b).toNat) G0 (rgDn a b) := by
  have hl : (rgDn a b).length = (a - b).toNat := by unfold rgDn; rw [List.length_map, List.length_range]
  refine ⟨fun G H i d e1 e2 hi => ?_, fun G H e1 e2 => by show _ ≤ _; rw [hl]; exact Nat.le_refl _⟩
  have hlt : i < (a - b).toNat := by rw [← hl]; exact (List.getElem?_eq_some_iff.mp hi).1
  refine ⟨hlt, fun x H' ⟨eh, y⟩ => ?_⟩
  subst eh
  subst y
  unfold rgDn at hi
  rw [List.getElem?_map, List.getElem?_range hlt] at hi
  cases hi
  have : a + (i : Int) * (-1) = a - (i : Int) := by omega
  rw [this]
  exact ⟨G, .refl e2, .int _⟩
def mIR3 (m : MA) : MI := fun μ => (m μ).bind fun p => (derefs p.2 p.1).bind fun es => match es with | [.int a, .int n, .int c] => if c = -1 ∧ rgB a n = true then some (rgDn a n, p.2) else none | _ => none
theorem qi_range3 {tg a b c : Expr} {p pos : Pos} {m : MA} (hg : Gl X "range") (hm : X.mg "range" = none) (ha : PA X [a, b, c] (tMA A m)) (hs : starEach [a, b, c] X.env = (false, eval a X.env) :: starEach [b, c] X.env := by rfl) (hpl : (backTo pos (starEach [b, c] X.env)).any (·.1) = false := by rfl) : PI X tg (.Call (.Name "range" p) [a, b, c] [] pos) (tI A Dq (mIR3 m)) :=
  pi_to (pi_range3 hg hm ha hs hpl) fun σ H Q ⟨G, μ, ds, μ', R, e, k⟩ => by
    obtain ⟨p, e1, e⟩ := bind2 e
    obtain ⟨d, e2, e⟩ := bind2 e
    split at e
    · rename_i i n c
      split at e
      · rename_i hb
        cases e
        obtain ⟨rfl, hb⟩ := hb
        refine ⟨G, μ, p.1, p.2, R, e1, fun G1 H1 v s1 R1 q1 => ?_⟩
        have dd := derefs_ok R1 q1 e2
        cases dd with
        | cons h1 dd =>
          cases dd with
          | cons h2 dd =>
            cases dd with
            | cons h3 dd =>
              cases dd
              have rb := rgB_ok hb
              exact ⟨i, n, -1, (i - n).toNat, by rw [h1.i, h2.i, h3.i], .neg rb.1 rb.2.1 rb.2.2.1 rb.2.2.2.1, k G1 H1 _ s1 R1 iter_dn⟩
      · cases e
    · cases e
/-! ### list(range(a, b)), tuple(range(a, b)) -/
def mRg2 (t : Bool) (m n : ME) : ME := fun μ => (m μ).bind fun p => (asD p.1).bind fun a => (n p.2).bind fun q => (asD q.1).bind fun b => match a, b with
  | .int i, .int j => if rgB i j = true then some (if t then .dat (.tuple (rgD i j)) else .fre (rgD i j), q.2) else none
  | _, _ => none
section
variable {e f : Expr} {p pos p' pos' : Pos} {m n : ME}
theorem qe_listRg2 (hg : Gl X "list") (hm : X.mg "list" = none) (hg2 : Gl X "range") (hm2 : X.mg "range" = none) (he : PE X e (tE A m)) (hf : PE X f (tE A n)) (hc : X.calm = true := by rfl)
    (na : starEach [e, f] X.env = (false, eval e X.env) :: starEach [f] X.env := by rfl) (nb : starEach [f] X.env = (false, eval f X.env) :: starEach [] X.env := by rfl) (hp : (backTo pos' (starEach [f] X.env)).any (·.1) = false := by rfl)
    (na2 : starEach [Expr.Call (.Name "range" p') [e, f] [] pos'] X.env = (false, eval (Expr.Call (.Name "range" p') [e, f] [] pos') X.env) :: starEach [] X.env := by rfl) :
    PE X (.Call (.Name "list" p) [.Call (.Name "range" p') [e, f] [] pos'] [] pos) (tE A (mRg2 false m n)) := pe_to (pe_listRg hc hg hm (prg_2 hg2 hm2 he hf na nb hp) na2) fun σ H Q ⟨G, μ, z, μ', R, e, k⟩ => by
  obtain ⟨p, e1, y1⟩ := bind2 e
  obtain ⟨a, e2, y2⟩ := bind2 y1
  obtain ⟨q, e3, y3⟩ := bind2 y2
  obtain ⟨b, e4, y4⟩ := bind2 y3
  clear y1 y2 y3
  have two : ∃ i j, a = .int i ∧ b = .int j := by
    cases a <;> first | (cases y4; done) | skip
    cases b <;> first | (cases y4; done) | skip
    exact ⟨_, _, rfl, rfl⟩
  obtain ⟨i, j, rfl, rfl⟩ := two
  have e : (if rgB i j = true then some (if false = true then MV.dat (.tuple (rgD i j)) else .fre (rgD i j), q.2) else none) = some (z, μ') := y4
  split at e
  · rename_i hb
    cases e
    refine ⟨G, μ, p.1, p.2, R, e1, fun G1 H1 v1 s1 R1 q1 n1 => ⟨G1, p.2, q.1, q.2, R1, e3, fun G2 H2 v2 s2 R2 q2 n2 => ?_⟩⟩
    rw [asD_some e2] at q1
    rw [asD_some e4] at q2
    refine ⟨i, j, dq_int q1, dq_int q2, rgB_ok hb, fun t ht => ?_⟩
    have rs := res_fre R2.ext ht (rg_rel G2 i j)
    exact k _ _ _ ((s1.trans s2).trans (Grow.free R2.ext ht).step) (R2.grow (.free R2.ext ht)) (rs.rel R2) (rs.nw.back (s1.trans s2))
  · cases e
theorem qe_tupRg2 (hg : Gl X "tuple") (hm : X.mg "tuple" = none) (hg2 : Gl X "range") (hm2 : X.mg "range" = none) (he : PE X e (tE A m)) (hf : PE X f (tE A n)) (hc : X.calm = true := by rfl)
    (na : starEach [e, f] X.env = (false, eval e X.env) :: starEach [f] X.env := by rfl) (nb : starEach [f] X.env = (false, eval f X.env) :: starEach [] X.env := by rfl) (hp : (backTo pos' (starEach [f] X.env)).any (·.1) = false := by rfl)
    (na2 : starEach [Expr.Call (.Name "range" p') [e, f] [] pos'] X.env = (false, eval (Expr.Call (.Name "range" p') [e, f] [] pos') X.env) :: starEach [] X.env := by rfl) :
    PE X (.Call (.Name "tuple" p) [.Call (.Name "range" p') [e, f] [] pos'] [] pos) (tE A (mRg2 true m n)) := pe_to (pe_tupRgF hc hg hm (prg_2 hg2 hm2 he hf na nb hp) na2) fun σ H Q ⟨G, μ, z, μ', R, e, k⟩ => by
  obtain ⟨p, e1, y1⟩ := bind2 e
  obtain ⟨a, e2, y2⟩ := bind2 y1
  obtain ⟨q, e3, y3⟩ := bind2 y2
  obtain ⟨b, e4, y4⟩ := bind2 y3
  clear y1 y2 y3
  have two : ∃ i j, a = .int i ∧ b = .int j := by
    cases a <;> first | (cases y4; done) | skip
    cases b <;> first | (cases y4; done) | skip
    exact ⟨_, _, rfl, rfl⟩
  obtain ⟨i, j, rfl, rfl⟩ := two
  have e : (if rgB i j = true then some (if true = true then MV.dat (.tuple (rgD i j)) else .fre (rgD i j), q.2) else none) = some (z, μ') := y4
  split at e
  · rename_i hb
    cases e
    refine ⟨G, μ, p.1, p.2, R, e1, fun G1 H1 v1 s1 R1 q1 n1 => ⟨G1, p.2, q.1, q.2, R1, e3, fun G2 H2 v2 s2 R2 q2 n2 => ?_⟩⟩
    rw [asD_some e2] at q1
    rw [asD_some e4] at q2
    refine ⟨i, j, dq_int q1, dq_int q2, rgB_ok hb, fun t o ht od => ?_⟩
    exact k _ _ _ ((s1.trans s2).trans (Grow.new R2.ext ht).step) (R2.grow (.new R2.ext ht)) (res_tup R2.ext ht od (rg_rel G2 i j)) trivial
  · cases e
end
end
end ML

set_option maxRecDepth 100000
set_option maxHeartbeats 4000000
namespace ML
open PySem PySem.Spec PyProof.Rows L2 RZ
/-! ### dicts whose keys are tuples of ints, in the heap -/
abbrev RelT (kvs : List (List Int × Addr × V)) (xs : List (List Int × Addr × Value)) : Prop := Paired (fun (p : List Int × Addr × V) (q : List Int × Addr × Value) => p.1 = q.1 ∧ p.2.1 = q.2.1 ∧ RelV p.2.2 q.2.2) kvs xs
def atT (kvs : List (List Int × Addr × V)) (k : List Int) : Option V := (kvs.find? fun q => decide (q.1 = k)).map (·.2.2)
def putT (kvs : List (List Int × Addr × V)) (k : List Int) (b : Addr) (v : V) : List (List Int × Addr × V) := if (atT kvs k).isSome = true then kvs.map (fun q => if q.1 = k then (q.1, q.2.1, v) else q) else kvs ++ [(k, b, v)]
theorem RelT.val {kvs : List (List Int × Addr × V)} {xs : List (List Int × Addr × Value)} (r : RelT kvs xs) (k : List Int) : RelO (atT kvs k) ((atKey xs k).map (·.2)) := by
  induction r with
  | nil => exact True.intro
  | @cons p q ps qs h t ih =>
    obtain ⟨h1, _, h3⟩ := h
    by_cases z : p.1 = k
    · have z' : q.1 = k := h1.symm.trans z
      have w1 : atT (p :: ps) k = some p.2.2 := by simp [atT, List.find?_cons, z]
      have w2 : atKey (q :: qs) k = some q.2 := by simp [atKey, List.find?_cons, z']
      rw [w1, w2]; exact h3
    · have z' : ¬ q.1 = k := fun y => z (h1.trans y)
      have w1 : atT (p :: ps) k = atT ps k := by simp [atT, List.find?_cons, z]
      have w2 : atKey (q :: qs) k = atKey qs k := by simp [atKey, List.find?_cons, z']
      rw [w1, w2]; exact ih
theorem RelT.put {kvs : List (List Int × Addr × V)} {xs : List (List Int × Addr × Value)} (r : RelT kvs xs) (k : List Int) (b : Addr) {y : V} {u : Value} (ry : RelV y u) : RelT (putT kvs k b y) (storedH xs k b u) := by
  have e : (atT kvs k).isSome = (atKey xs k).isSome := by rw [(r.val k).isSome_eq, Option.isSome_map]
  unfold putT storedH
  rw [e]
  by_cases z : (atKey xs k).isSome = true
  · rw [if_pos z, if_pos z]
    clear e z
    induction r with
    | nil => exact .nil
    | @cons p q ps qs h t ih =>
      rw [List.map_cons, List.map_cons]
      refine .cons ?_ ih
      obtain ⟨h1, h2, h3⟩ := h
      unfold putAt
      by_cases y : p.1 = k
      · rw [if_pos y, if_pos (h1.symm.trans y)]; exact ⟨h1, h2, ry⟩
      · rw [if_neg y, if_neg (fun z => y (h1.trans z))]; exact ⟨h1, h2, h3⟩
  · rw [if_neg z, if_neg z]
    exact Paired.snoc r ⟨rfl, rfl, ry⟩
theorem putT_len (kvs : List (List Int × Addr × V)) (k : List Int) (b : Addr) (v : V) : (putT kvs k b v).length ≤ kvs.length + 1 := by
  unfold putT
  split
  · rw [List.length_map]; omega
  · rw [List.length_append]; exact Nat.le_refl _
/-- the keys are tuples that stand -/
def KeysT (H : Hp) (kvs : List (List Int × Addr × V)) : Prop := ∀ q ∈ kvs, ∃ o : Obj, H q.2.1 = some (.frz o (.tup (q.1.map V.int)))
theorem RelT.mem {kvs : List (List Int × Addr × V)} {xs : List (List Int × Addr × Value)} (r : RelT kvs xs) : ∀ x ∈ xs, ∃ q ∈ kvs, q.1 = x.1 ∧ q.2.1 = x.2.1 := by
  induction r with
  | nil => intro x hx; cases hx
  | @cons p q ps qs h t ih =>
    intro x hx
    rcases List.mem_cons.mp hx with e | hx
    · subst e; exact ⟨p, by simp, h.1, h.2.1⟩
    · obtain ⟨y, h1, h2⟩ := ih x hx
      exact ⟨y, by simp [h1], h2⟩
/-- a dict, as it stands or still -/
def HasD (H : Hp) (a : Addr) (kvs : List (List Int × Addr × V)) : Prop := H a = some (DiT a kvs) ∨ ∃ o, H a = some (.frz o (DiT a kvs))
section
variable {X : Cx} {pins : List (Addr × Obj)} {σ : L2.St} {H : Hp} {s : Shared} {a : Addr} {kvs : List (List Int × Addr × V)}
theorem di_of (I : Inv X pins σ H s) (hd : HasD H a kvs) (hk : KeysT H kvs) : (a == sysModules) = false ∧ kvs.length ≤ sizeLine ∧ ∃ xs, RelT kvs xs ∧ s.heap.DictOfH (tupleKind (intKind X.prog X.w)) a xs := by
  obtain ⟨lo, z, P, w, xs, rel, nd, o, es, ep, h1, h2, h3, h4⟩ := (show ObjOk X.prog X.w H s.heap a (DiT a kvs) from hd.elim (fun z => I.hok a _ z) fun ⟨o, z⟩ => (show ObjOk X.prog X.w H s.heap a (.frz o (DiT a kvs)) from I.hok a _ z).2).1
  refine ⟨lo, z, xs, rel, o, es, ep, h1, h2, h3, h4, fun x hx => ?_, nd⟩
  obtain ⟨q, hq, e1, e2⟩ := RelT.mem rel x hx
  obtain ⟨ob, hb⟩ := hk q hq
  rw [← e1, ← e2]
  exact I.isT (.inl (.inr ⟨ob, hb⟩))
theorem di_new {P : Program} {w : World} {H' : Hp} {h' : Heap} {xs : List (List Int × Addr × Value)} (lo : (a == sysModules) = false) (z : kvs.length ≤ sizeLine) (r : RelT kvs xs) (dd : h'.DictOfH (tupleKind (intKind P w)) a xs) : ObjOk P w H' h' a (DiT a kvs) := by
  obtain ⟨o, es, ep, h1, h2, h3, h4, _, nd⟩ := dd
  refine ⟨⟨lo, z, P, w, xs, r, nd, o, es, ep, h1, h2, h3, h4⟩, ⟨o, h1⟩, fun k1 k2 hp hk => ?_⟩
  obtain ⟨lo', z', P', w', xs', r', nd', o', es', ep', q1, q2, q3, q4⟩ := hp
  exact ⟨lo', z', P', w', xs', r', nd', o', es', ep', hk _ q1, q2, q3, q4⟩
/-- t in d -/
def rInT (neg : Bool) : R2 := fun x y H Q => ∃ (b : Addr) (o : Obj) (k : List Int) (a : Addr) (kvs : List (List Int × Addr × V)), x = .ref b ∧ y = .ref a ∧ H b = some (.frz o (.tup (k.map V.int))) ∧ HasD H a kvs ∧ KeysT H kvs ∧ Q (.bl (if neg then !(atT kvs k).isSome else (atT kvs k).isSome)) H
theorem op_inT (hu : X.A.units + 1 < cLine) : OpR X (compareOp .In) (rInT false) := by
  intro pins s σ H x y v u Q I rx ry h
  obtain ⟨b, o, k, a, kvs, rfl, rfl, hb, hd, hk, q⟩ := h
  cases rx
  cases ry
  obtain ⟨lo, z, xs, rel, dd⟩ := di_of I hd hk
  refine wpAny_in_heap (tupleKind_room_in1 hu) (I.isT (.inl (.inr ⟨o, hb⟩))) lo dd ?_
  have e := (rel.val k).isSome_eq
  rw [Option.isSome_map] at e
  rw [← e]
  exact ⟨.bl _, H, I.tok _, rfl, q⟩
theorem op_notInT (hu : X.A.units + 1 < cLine) : OpR X (compareOp .NotIn) (rInT true) := by
  intro pins s σ H x y v u Q I rx ry h
  obtain ⟨b, o, k, a, kvs, rfl, rfl, hb, hd, hk, q⟩ := h
  cases rx
  cases ry
  obtain ⟨lo, z, xs, rel, dd⟩ := di_of I hd hk
  refine wpAny_notIn_heap (tupleKind_room_in1 hu) (I.isT (.inl (.inr ⟨o, hb⟩))) lo dd ?_
  have e := (rel.val k).isSome_eq
  rw [Option.isSome_map] at e
  rw [← e]
  exact ⟨.bl _, H, I.tok _, rfl, q⟩
/-- list(d) -/
def rListT : List V → Hp → VK → Prop := fun xs H Q => ∃ (a : Addr) (kvs : List (List Int × Addr × V)), xs = [.ref a] ∧ HasD H a kvs ∧ KeysT H kvs ∧ ∀ p, H p = none → Q (.ref p) (upd H p (.lst (kvs.map fun q => .ref q.2.1)))
theorem call_listT (hc : X.calm = true) : CallR X (.type "list") rListT := by
  intro pins s σ H xs us Q I r q
  obtain ⟨a, kvs, rfl, hd, hk, q⟩ := q
  obtain ⟨u, eu, rx⟩ := vals1 r
  subst eu
  cases rx
  obtain ⟨lo, z, ys, rel, dd⟩ := di_of I hd hk
  obtain ⟨es, ep, raw, hs, at1⟩ := dd.raw
  have hl : es.size = kvs.length := by rw [hs, ← Paired.length rel]
  refine PySem.W.kdl_call (PySem.KdlSrc.rawDict (prog := X.prog) (w := X.w) (es := es) (ep := ep) lo) (I.ok.hd hc) raw (by rw [hl]; exact z) fun h' tk acc c' hkp hD hacc => ?_
  have hv : Vals (kvs.map fun q => V.ref q.2.1) acc.toList := by
    have len : acc.toList.length = kvs.length := by rw [Array.length_toList, hacc.1, hl]
    have gen : ∀ (l : List V) (m : List Value), l.length = m.length → (∀ j (h1 : j < l.length) (h2 : j < m.length), RelV l[j] m[j]) → Vals l m := by
      intro l
      induction l with
      | nil => intro m hm _; rw [List.length_eq_zero_iff.mp hm.symm]; exact .nil
      | cons x l ih =>
        intro m hm hr
        cases m with
        | nil => cases hm
        | cons y m => exact .cons (hr 0 (by simp) (by simp)) (ih m (by simpa using hm) fun j h1 h2 => hr (j + 1) (by simpa using h1) (by simpa using h2))
    refine gen _ _ (by rw [List.length_map, len]) fun j h1 h2 => ?_
    rw [List.length_map] at h1
    obtain ⟨hi, e1⟩ := hacc.2 j acc.toList[j] (by rw [← Array.getElem?_toList, List.getElem?_eq_getElem h2])
    obtain ⟨y, y1, y2, _, _⟩ := at1 j hi
    have hy : j < ys.length := by rw [← Paired.length rel]; exact h1
    have ey : y = ys[j] := by rw [List.getElem?_eq_getElem hy] at y1; exact (Option.some.inj y1).symm
    have same : kvs[j].2.1 = ys[j].2.1 := by
      have : ∀ {l : List (List Int × Addr × V)} {m : List (List Int × Addr × Value)} (q : RelT l m) (i : Nat) (h1 : i < l.length) (h2 : i < m.length), l[i].2.1 = m[i].2.1 := by
        intro l m q
        induction q with
        | nil => intro i h1 _; cases h1
        | @cons p q ps qs hh t ih =>
          intro i h1 h2
          cases i with
          | zero => exact hh.2.1
          | succ i => exact ih i (by simpa using h1) (by simpa using h2)
      exact this rel j h1 hy
    rw [List.getElem_map, e1, y2, ey, same]
    exact rfl
  refine ⟨.ref s.heap.objs.size, upd H s.heap.objs.size (.lst (kvs.map fun q => .ref q.2.1)), I.laid (t' := tk) hkp (Nat.le_refl _) ?_, rfl, q _ (I.hok.fresh (Nat.le_refl _))⟩
  exact ⟨by rw [List.length_map]; exact z, acc.toList, c', hv, by rw [Array.toArray_toList]; exact hD⟩
/-- len(d) -/
def rLnT : List V → Hp → VK → Prop := fun xs H Q => ∃ (a : Addr) (kvs : List (List Int × Addr × V)), xs = [.ref a] ∧ HasD H a kvs ∧ KeysT H kvs ∧ Q (.int (kvs.length : Nat)) H
theorem call_lenT : CallR X (.builtin "len") rLnT := by
  intro pins s σ H xs us Q I r q
  obtain ⟨a, kvs, rfl, hd, hk, q⟩ := q
  obtain ⟨u, eu, rx⟩ := vals1 r
  subst eu
  cases rx
  obtain ⟨lo, z, ys, rel, dd⟩ := di_of I hd hk
  have hz : ys.length ≤ sizeLine := by rw [← Paired.length rel]; exact z
  refine call_len_dictH lo dd (by rw [sizeLine_eq] at hz; omega) ?_
  rw [← Paired.length rel]
  exact ⟨.int _, H, I.tok _, ⟨_, rfl⟩, q⟩
/-- d[t] = v -/
def sPutT (td ty tv : TE) : TS := fun D σ H => tv σ H fun v H1 => td σ H1 fun x H2 => ty σ H2 fun y H3 => ∃ (a b : Addr) (o : Obj) (k : List Int) (kvs : List (List Int × Addr × V)), x = .ref a ∧ y = .ref b ∧ H3 b = some (.frz o (.tup (k.map V.int))) ∧ H3 a = some (DiT a kvs) ∧ KeysT H3 kvs ∧ kvs.length < sizeLine ∧
  D.nx σ (upd H3 a (DiT a (putT kvs k b v)))
theorem ps_putT {o i value : Expr} {pos pos' : Pos} {td ty tv : TE} (hu : X.A.units + 1 < cLine) (ho : PE X o td) (hi : PE X i ty) (hv : PE X value tv) (hs : swapsWith value (some (.Subscript o i pos')) pos.line X.env = pure false) :
    PS X (.Assign [.Subscript o i pos'] value pos) (sPutT td ty tv) := by
  refine ⟨fun pins s σ H D I h => ?_⟩
  refine wpAny_Assign_Subscript (thn (hv.run pins s σ H _ I h) fun r s1 ⟨v, H1, I1, rv, q1⟩ => thn (ho.run pins s1 σ H1 _ I1 q1) fun u s2 ⟨x, H2, I2, rx, q2⟩ => thn (hi.run pins s2 σ H2 _ I2 q2) fun iv s3 ⟨y, H3, I3, ry, w⟩ => ?_) hs
  obtain ⟨a, b, ob, k, kvs, rfl, rfl, hb, hd, hk, hl, q3⟩ := w
  cases rx
  cases ry
  obtain ⟨lo, z, xs, rel, dd⟩ := di_of I3 (.inl hd) hk
  have hz : xs.length ≤ sizeLine := by rw [← Paired.length rel]; exact z
  refine wpAny_setItem_heap (hsz := hz) (tupleKind_room_in1 hu) (I3.isT (.inl (.inr ⟨ob, hb⟩))) dd fun h' dd' hsb => ?_
  have he : ∃ q, h'.get? a = some q := by
    obtain ⟨q, _, _, hq, _⟩ := dd'
    exact ⟨q, hq⟩
  exact ⟨σ, _, I3.write (x := a) (e := a) (by rw [hd]; trivial) (.inl rfl) (fun c q hc e => (hsb.2 c hc).trans e) he (di_new lo (by have := putT_len kvs k b v; omega) (rel.put k b rv) dd'), q3⟩
/-- {t: v} -/
def tDispT (tk tv : TE) : TE := fun σ H Q => ∀ p, H p = none → tk σ (upd H p (DiT p [])) fun x H1 => tv σ H1 fun y H2 => H2 p = some (DiT p []) ∧ ∃ (b : Addr) (o : Obj) (k : List Int), x = .ref b ∧ H2 b = some (.frz o (.tup (k.map V.int))) ∧ Q (.ref p) (upd H2 p (DiT p [(k, b, y)]))
theorem pe_dispT {kx vx : Expr} {pos : Pos} {tk tv : TE} (hu : X.A.units + 1 < cLine) (hk : PE X kx tk) (hv : PE X vx tv) : PE X (.Dict [some kx] [vx] pos) (tDispT tk tv) := by
  refine ⟨fun pins s σ H Q I q => ?_⟩
  have hn := I.hok.fresh (Nat.le_refl s.heap.objs.size)
  have lo : (s.heap.objs.size == sysModules) = false := beq_eq_false_iff_ne.mpr (Nat.ne_of_gt I.big)
  have new0 : (s.heap.push { cls := .type "dict", data := .dict #[] }).DictOfH (tupleKind (intKind X.prog X.w)) s.heap.objs.size [] := Heap.DictOfH.new s.heap
  have I1 := I.laid (a := s.heap.objs.size) (o := DiT s.heap.objs.size []) (h' := s.heap.push { cls := .type "dict", data := .dict #[] }) (t' := s.toks) (fun _ _ q => Heap.get?_push_of_some _ q) (Nat.le_refl _) (di_new lo (Nat.zero_le _) .nil new0)
  have P := pps_cons (pos := pos) hk hv (pps_nil (X := X) (pos := pos))
  refine wpAny_Dict_any (by rfl) rfl (fun z => nomatch z) (by simp) (thn (P.run pins _ σ _ (fun ps H2 => match ps with
    | [(x, y)] => H2 s.heap.objs.size = some (DiT s.heap.objs.size []) ∧ ∃ (b : Addr) (o : Obj) (k : List Int), x = .ref b ∧ H2 b = some (.frz o (.tup (k.map V.int))) ∧ Q (.ref s.heap.objs.size) (upd H2 s.heap.objs.size (DiT s.heap.objs.size [(k, b, y)]))
    | _ => False) I1 (q _ hn)) fun ws s2 hw => ?_)
  obtain ⟨ps, H2, I2, rel, hq⟩ := hw
  match ps, rel, hq with
  | [(x, y)], rel, ⟨hd, b, o, k, ex, hb, hq⟩ =>
    subst ex
    cases rel with
    | @cons p2 w2 _ _ r t =>
      cases t
      obtain ⟨u1, u2⟩ := w2
      obtain ⟨r1, r2⟩ := r
      cases r1
      obtain ⟨lo2, z, xs, rel2, dd⟩ := di_of I2 (.inl hd) (fun q hq => nomatch hq)
      cases rel2
      show wpAny _ _ (forIn [(Value.ref b, u2)] PUnit.unit _) _ _ _
      refine wpAny_storeAllH (knd := tupleKind (intKind X.prog X.w)) (show X.A.units < cLine by omega) [(Value.ref b, u2)] [(k, b, u2)] [] s2 _ ⟨rfl, rfl, I2.isT (.inl (.inr ⟨o, hb⟩)), trivial⟩ dd (by rw [sizeLine_eq]; simp) fun h' tk dd' hsb => ?_
      have he : ∃ q, h'.get? s.heap.objs.size = some q := by
        obtain ⟨q, _, _, hq, _⟩ := dd'
        exact ⟨q, hq⟩
      refine ⟨.ref s.heap.objs.size, _, I2.write (x := s.heap.objs.size) (e := s.heap.objs.size) (t' := tk) (by rw [hd]; trivial) (.inl rfl) (fun c q hc e => (hsb.2 c hc).trans e) he (di_new (xs := [(k, b, u2)]) lo (by rw [sizeLine_eq]; simp) (.cons ⟨rfl, rfl, r2⟩ .nil) dd'), rfl, hq⟩
/-- {} -/
def tDispE : TE := fun σ H Q => ∀ p, H p = none → Q (.ref p) (upd H p (DiT p []))
theorem pe_dispE {pos : Pos} : PE X (.Dict [] [] pos) tDispE := by
  refine ⟨fun pins s σ H Q I q => ?_⟩
  have hn := I.hok.fresh (Nat.le_refl s.heap.objs.size)
  have lo : (s.heap.objs.size == sysModules) = false := beq_eq_false_iff_ne.mpr (Nat.ne_of_gt I.big)
  have new0 : (s.heap.push { cls := .type "dict", data := .dict #[] }).DictOfH (tupleKind (intKind X.prog X.w)) s.heap.objs.size [] := Heap.DictOfH.new s.heap
  have I1 := I.laid (a := s.heap.objs.size) (o := DiT s.heap.objs.size []) (h' := s.heap.push { cls := .type "dict", data := .dict #[] }) (t' := s.toks) (fun _ _ q => Heap.get?_push_of_some _ q) (Nat.le_refl _) (di_new lo (Nat.zero_le _) .nil new0)
  exact wpAny_Dict_empty ⟨.ref s.heap.objs.size, _, I1, rfl, q _ hn⟩
end
/-! ### dicts in the mirror -/
variable [KF]
def keyI : PyData → Option (List Int)
  | .tuple ds => intsOf ds
  | _ => none
def keysI : List (PyData × PyData) → Option (List (List Int))
  | [] => some []
  | e :: es => (keyI e.1).bind fun k => (keysI es).map fun ks => k :: ks
def getE (es : List (PyData × PyData)) (k : List Int) : Option PyData := (es.find? fun e => decide (keyI e.1 = some k)).map (·.2)
def putE (es : List (PyData × PyData)) (k : List Int) (d : PyData) : List (PyData × PyData) := if (getE es k).isSome = true then es.map (fun e => if keyI e.1 = some k then (e.1, d) else e) else es ++ [(.tuple (k.map .int), d)]
theorem keyI_map (k : List Int) : keyI (.tuple (k.map .int)) = some k := intsOf_map k
theorem keyI_some {d : PyData} {k : List Int} (h : keyI d = some k) : d = .tuple (k.map .int) := by
  cases d <;> first | (cases h; done) | skip
  rw [intsOf_some h]
inductive RelD (G : Hp) : Option V → Option PyData → Prop
  | no : RelD G none none
  | so {v : V} {d : PyData} : Dq G v d → RelD G (some v) (some d)
section
variable {G : Hp}
theorem dqt_get {kvs : List (List Int × Addr × V)} {es : List (PyData × PyData)} (h : DqKt G kvs es) (k : List Int) : RelD G (atT kvs k) (getE es k) := by
  match kvs, es, h with
  | _, _, .nil => exact .no
  | _, _, .cons (k := k') (b := b) (v := v) (vs := vs) (d := d) (ds := ds) h1 h0 h2 h3 =>
    have ih := dqt_get h3 k
    by_cases z : k' = k
    · have w1 : atT ((k', b, v) :: vs) k = some v := by simp [atT, List.find?_cons, z]
      have w2 : getE ((.tuple (k'.map .int), d) :: ds) k = some d := by
        unfold getE
        rw [List.find?_cons, keyI_map, z]
        simp
      rw [w1, w2]
      exact .so h2
    · have w1 : atT ((k', b, v) :: vs) k = atT vs k := by simp [atT, List.find?_cons, z]
      have w2 : getE ((.tuple (k'.map .int), d) :: ds) k = getE ds k := by
        unfold getE
        rw [List.find?_cons, keyI_map]
        have : ¬ some k' = some k := fun y => z (Option.some.inj y)
        rw [decide_eq_false this]
      rw [w1, w2]
      exact ih
theorem RelD.some_eq {o : Option V} {p : Option PyData} (h : RelD G o p) : o.isSome = p.isSome := by cases h <;> rfl
theorem dqt_app {kvs ws : List (List Int × Addr × V)} {es fs : List (PyData × PyData)} : DqKt G kvs es → DqKt G ws fs → DqKt G (kvs ++ ws) (es ++ fs)
  | .nil, h => h
  | .cons h1 h0 h2 h3, h => .cons h1 h0 h2 (dqt_app h3 h)
theorem dqt_put {kvs : List (List Int × Addr × V)} {es : List (PyData × PyData)} (h : DqKt G kvs es) {k : List Int} {b : Addr} {o : Obj} {v : V} {d : PyData} (hb : G b = some (.frz o (.tup (k.map V.int)))) (ho : o.dict = none) (hv : Dq G v d) : DqKt G (putT kvs k b v) (putE es k d) := by
  unfold putT putE
  rw [(dqt_get h k).some_eq]
  by_cases z : (getE es k).isSome = true
  · rw [if_pos z, if_pos z]
    clear z
    have go : ∀ {kvs : List (List Int × Addr × V)} {es : List (PyData × PyData)}, DqKt G kvs es → DqKt G (kvs.map fun q => if q.1 = k then (q.1, q.2.1, v) else q) (es.map fun e => if keyI e.1 = some k then (e.1, d) else e) := by
      intro kvs
      induction kvs with
      | nil => intro es h; cases h; exact .nil
      | cons q kvs ih =>
        intro es h
        cases h with
        | @cons k' b' o' v' vs d' ds h1 h0 h2 h3 =>
          rw [List.map_cons, List.map_cons]
          have e1 : keyI (PyData.tuple (k'.map .int)) = some k' := keyI_map k'
          by_cases y : k' = k
          · rw [if_pos y, if_pos (by rw [e1, y])]
            exact .cons h1 h0 hv (ih h3)
          · rw [if_neg y, if_neg (by rw [e1]; exact fun z => y (Option.some.inj z))]
            exact .cons h1 h0 h2 (ih h3)
    exact go h
  · rw [if_neg z, if_neg z]
    exact dqt_app h (.cons hb ho hv .nil)
theorem dqt_len {kvs : List (List Int × Addr × V)} {es : List (PyData × PyData)} : DqKt G kvs es → kvs.length = es.length
  | .nil => rfl
  | .cons _ _ _ h => by rw [List.length_cons, List.length_cons, dqt_len h]
theorem dqt_keys {H : Hp} (e : Same G H) {kvs : List (List Int × Addr × V)} {es : List (PyData × PyData)} (h : DqKt G kvs es) : KeysT H kvs := by
  match kvs, es, h with
  | _, _, .nil => exact fun q hq => nomatch hq
  | _, _, .cons h1 h0 h2 h3 =>
    intro q hq
    rcases List.mem_cons.mp hq with z | hq
    · subst z; exact ⟨_, e _ _ h1⟩
    · exact dqt_keys e h3 q hq
theorem dqt_list {kvs : List (List Int × Addr × V)} {es : List (PyData × PyData)} (h : DqKt G kvs es) : DqAll G (kvs.map fun q => V.ref q.2.1) (es.map (·.1)) := by
  match kvs, es, h with
  | _, _, .nil => exact .nil
  | _, _, .cons (k := k) h1 h0 h2 h3 => exact .cons (.tup h1 h0 (dqa_of_ints k)) (dqt_list h3)
/-- a dict, all of whose keys are tuples of ints -/
theorem db_dic {H : Hp} {v : V} {es : List (PyData × PyData)} {ks : List (List Int)} (e : Same G H) (h : Db G H v (.dict es)) (hk : keysI es = some ks) : ∃ a kvs, v = .ref a ∧ HasD H a kvs ∧ DqKt G kvs es := by
  cases h with
  | dic h1 h2 => exact ⟨_, _, rfl, .inl h1, h2⟩
  | dat h =>
    generalize hd : PyData.dict es = d at h
    cases h with
    | dicT h1 h2 => cases hd; exact ⟨_, _, rfl, .inr ⟨_, e _ _ h1⟩, h2⟩
    | dicK h1 h0 h2 =>
      cases hd
      cases h2 with
      | nil => exact absurd rfl h0
      | @cons k v vs d ds h3 h4 =>
        obtain ⟨k0, hk0, _⟩ := bind2 hk
        have hk0 := keyI_some hk0
        cases k <;> cases hk0
    | scr h1 =>
      unfold scrD at hd
      injection hd with hd
      subst hd
      obtain ⟨k0, hk0, _⟩ := bind2 hk
      cases keyI_some hk0
    | non => cases hd
    | bl _ => cases hd
    | int _ => cases hd
    | str _ => cases hd
    | lst _ _ => cases hd
    | tup _ _ _ => cases hd
end
section
variable {X : Cx} {A : Act}
/-! t in d -/
def dInT (neg : Bool) : PyData → PyData → Option MV
  | a, .dict es => (keyI a).bind fun k => (keysI es).map fun _ => .dat (.bool (if neg then !(getE es k).isSome else (getE es k).isSome))
  | _, _ => none
theorem inT_core {neg : Bool} {g : Value → Value → Sem Value} (hop : OpR X g (rInT neg)) : OpOk X g (dInT neg) := by
  refine ⟨_, hop, fun G H x y a b z Q e hx hy hz k => ?_⟩
  cases b <;> first | (cases hz; done) | skip
  rename_i es
  obtain ⟨ki, e1, hz⟩ := bind2 hz
  obtain ⟨ks, e2, e3⟩ := map2 hz
  cases e3
  rw [keyI_some e1] at hx
  obtain ⟨b, o, vs, rfl, h1, h0, h2⟩ := hx.tt e
  cases dqa_ints h2
  obtain ⟨a, kvs, rfl, h3, h4⟩ := db_dic e hy e2
  refine ⟨b, o, ki, a, kvs, rfl, rfl, h1, h3, dqt_keys e h4, ?_⟩
  rw [(dqt_get h4 ki).some_eq]
  exact k G H _ (.refl e) (.bl _)
def dInZ (neg : Bool) : PyData → PyData → Option MV := fun a b => orF (dInX neg) (dInT neg) a b
theorem ok_inZ {k : Nat} (hr : Rm k X.A) : OpOk X (compareOp .In) (dInZ false) := (ok_inX hr).or (inT_core (op_inT (by have := hr.un; omega)))
theorem ok_notInZ {k : Nat} (hr : Rm k X.A) : OpOk X (compareOp .NotIn) (dInZ true) := (ok_notInX hr).or (inT_core (op_notInT (by have := hr.un; omega)))
/-! list(d) -/
def dListT : PyData → Option MV
  | .dict es => (keysI es).map fun _ => .fre (es.map (·.1))
  | _ => none
theorem ok_listT (hc : X.calm = true := by rfl) : CallOk X (.type "list") (c1 dListT) := ok_c1 (call_listT hc) fun G H x a z Q e hx hz k => by
  cases a <;> first | (cases hz; done) | skip
  rename_i es
  obtain ⟨ks, e2, e3⟩ := map2 hz
  cases e3
  obtain ⟨a, kvs, rfl, h3, h4⟩ := db_dic e hx e2
  exact ⟨a, kvs, rfl, h3, dqt_keys e h4, fun p hp => k _ _ _ (.free e hp) (res_fre e hp (dqt_list h4))⟩
/-! len(d) -/
def dLenT : PyData → Option MV
  | .dict es => (keysI es).map fun _ => .dat (.int es.length)
  | _ => none
theorem ok_lenT : CallOk X (.builtin "len") (c1 dLenT) := ok_c1 call_lenT fun G H x a z Q e hx hz k => by
  cases a <;> first | (cases hz; done) | skip
  rename_i es
  obtain ⟨ks, e2, e3⟩ := map2 hz
  cases e3
  obtain ⟨a, kvs, rfl, h3, h4⟩ := db_dic e hx e2
  refine ⟨a, kvs, rfl, h3, dqt_keys e h4, ?_⟩
  rw [dqt_len h4]
  exact k G H _ (.refl e) (.int _)
def dLenZ : PyData → Option MV := fun a => match dLen a with | some z => some z | none => dLenT a
theorem ok_lenZ : CallOk X (.builtin "len") (c1 dLenZ) := CallOk.sub (ok_len.or ok_lenT) fun a z h => by
  match a, h with
  | [d], h => exact h
  | [], h => cases h
  | _ :: _ :: _, h => cases h
def dListZ : PyData → Option MV := fun a => match dList a with | some z => some z | none => dListT a
theorem ok_listZ (hc : X.calm = true := by rfl) : CallOk X (.type "list") (c1 dListZ) := CallOk.sub (ok_list.or (ok_listT hc)) fun a z h => by
  match a, h with
  | [d], h =>
    have h : (match dList d with | some z => some z | none => dListT d) = some z := h
    show (match dList d with | some z => some z | none => dListT d) = some z
    exact h
  | [], h => cases h
  | _ :: _ :: _, h => cases h
end
end ML

set_option maxRecDepth 100000
set_option maxHeartbeats 4000000
namespace ML
open PySem PySem.Spec PyProof.Rows L2 RZ
variable [KF]
section
variable {X : Cx} {A : Act}
/-! ### a def's own dict -/
theorem Rl.ownT {G H : Hp} {μ : Mu} {σ : L2.St} (R : Rl A G μ σ H) (i : Nat) {es : List (PyData × PyData)} (h : μ[i]? = some (some (.dict es))) (n : i ∈ A.O) : ∃ p kvs es', PyData.dict es = .dict es' ∧ σ[i]? = some (some (.ref p)) ∧ H p = some (DiT p kvs) ∧ DqKt G kvs es' ∧ G p = none ∧ (A.H p = none ∨ (i ∈ A.P ∧ p = A.pa i)) := by
  obtain ⟨p, o, s, hp, r, gp, q⟩ := R.own i _ h n
  rcases r with ⟨vs, ds', _, e, _⟩ | ⟨kvs, es', rfl, e, r⟩
  · cases e
  · exact ⟨p, kvs, es', e, s, hp, r, gp, q⟩
theorem Rl.updT {G H : Hp} {μ : Mu} {σ : L2.St} {i : Nat} {p : Addr} {kvs : List (List Int × Addr × V)} {ds ds0 : List (PyData × PyData)} (R : Rl A G μ σ H) (hi : i ∈ A.O) (hs : σ[i]? = some (some (.ref p))) (hm : μ[i]? = some (some (.dict ds0))) (h : DqKt G kvs ds) : Rl A G (μ.set i (some (.dict ds))) σ (L2.upd H p (DiT p kvs)) ∧ Step A σ G H G (L2.upd H p (DiT p kvs)) := by
  obtain ⟨q, ws, es, e1, e2, e3, e4, e5, e6⟩ := R.ownT i hm hi
  have eq : q = p := by
    have := e2.symm.trans hs
    exact V.ref.inj (Option.some.inj (Option.some.inj this))
  subst eq
  have hlt : i < μ.length := (List.getElem?_eq_some_iff.mp hm).1
  refine ⟨⟨by rw [List.length_set]; exact R.len, fun b u q' => ?_, R.up, fun a o h n => ?_, fun a h => ?_, R.fg, fun j d h n => ?_, fun j d hj n => ?_, fun j a h e => ?_, R.sep, R.par⟩, .refl _, fun a o h n => ?_, fun _ _ h => h, fun a h => ?_⟩
  · rw [upd_ne (ne_of_none q' e5)]; exact R.ext _ _ q'
  · have : a ≠ q := fun z => by
      rcases e6 with e6 | ⟨e6, e7⟩
      · rw [z, e6] at h; cases h
      · exact n i e6 (by rw [z, e7])
    rw [upd_ne this]
    exact R.fr a o h n
  · by_cases z : a = q
    · rw [z, upd_same]; exact fun z => nomatch z
    · rw [upd_ne z]; exact R.lv a h
  · have : i ≠ j := fun z => n (z ▸ hi)
    rw [List.getElem?_set_ne this] at h
    exact R.val j d h n
  · by_cases z : i = j
    · subst z
      rw [List.getElem?_set_self hlt] at hj
      cases hj
      exact ⟨q, _, e2, upd_same, .inr ⟨kvs, ds, rfl, rfl, h⟩, e5, e6⟩
    · rw [List.getElem?_set_ne z] at hj
      obtain ⟨q2, o2, f2, f3, f4, f5, f6⟩ := R.own j d hj n
      have : q2 ≠ q := fun y => z (R.sep i j q hi n e2 (y ▸ f2))
      exact ⟨q2, o2, f2, by rw [upd_ne this]; exact f3, f4, f5, f6⟩
  · by_cases z : a = q
    · rw [z, upd_same]; exact fun z => nomatch z
    · rw [upd_ne z]; exact R.liv j a h e
  · have : a ≠ q := fun z => n ⟨i, hi, z ▸ e2⟩
    rw [upd_ne this]; exact h
  · by_cases z : a = q
    · rw [z, upd_same]; exact fun z => nomatch z
    · rw [upd_ne z]; exact h
theorem Rl.setOT {G H : Hp} {μ : Mu} {σ : L2.St} {i : Nat} {p : Addr} {kvs : List (List Int × Addr × V)} {ds : List (PyData × PyData)} (R : Rl A G μ σ H) (hi : i ∈ A.O) (hP : i ∉ A.P) (hp : H p = some (DiT p kvs)) (ha : DqKt G kvs ds) (gp : G p = none) (ap : A.H p = none) (no : ¬ Own A σ p) :
    Rl A G (μ.set i (some (.dict ds))) (σ.set i (some (.ref p))) H := by
  have lt : ∀ {j : Nat} {e}, (μ.set i (some (.dict ds)))[j]? = some (some e) → j < μ.length := fun hj => by
    have := (List.getElem?_eq_some_iff.mp hj).1
    rw [List.length_set] at this; exact this
  refine ⟨by rw [List.length_set, List.length_set]; exact R.len, R.ext, R.up, R.fr, R.lv, R.fg, fun j e hj n => ?_, fun j e hj n => ?_, fun j a n e => ?_, fun j k q n1 n2 e1 e2 => ?_, fun j n => ?_⟩
  · have z : i ≠ j := fun z => n (z ▸ hi)
    rw [List.getElem?_set_ne z] at hj ⊢
    exact R.val j e hj n
  · by_cases z : i = j
    · subst z
      have hlt := lt hj
      rw [List.getElem?_set_self hlt] at hj
      cases hj
      exact ⟨p, _, List.getElem?_set_self (by rw [R.len]; exact hlt), hp, .inr ⟨kvs, ds, rfl, rfl, ha⟩, gp, .inl ap⟩
    · rw [List.getElem?_set_ne z] at hj ⊢
      exact R.own j e hj n
  · by_cases z : i = j
    · subst z
      by_cases hlt : i < σ.length
      · rw [List.getElem?_set_self hlt] at e
        cases e
        rw [hp]; exact fun z => nomatch z
      · rw [List.getElem?_eq_none (by rw [List.length_set]; omega)] at e
        cases e
    · rw [List.getElem?_set_ne z] at e
      exact R.liv j a n e
  · by_cases z : i = j
    · by_cases z2 : i = k
      · rw [← z, ← z2]
      · rw [List.getElem?_set_ne z2] at e2
        subst z
        by_cases hlt : i < σ.length
        · rw [List.getElem?_set_self hlt] at e1
          cases e1
          exact absurd ⟨k, n2, e2⟩ no
        · rw [List.getElem?_eq_none (by rw [List.length_set]; omega)] at e1
          cases e1
    · rw [List.getElem?_set_ne z] at e1
      by_cases z2 : i = k
      · subst z2
        by_cases hlt : i < σ.length
        · rw [List.getElem?_set_self hlt] at e2
          cases e2
          exact absurd ⟨j, n1, e1⟩ no
        · rw [List.getElem?_eq_none (by rw [List.length_set]; omega)] at e2
          cases e2
      · rw [List.getElem?_set_ne z2] at e2
        exact R.sep j k q n1 n2 e1 e2
  · obtain ⟨a, b, c⟩ := R.par j n
    have z : i ≠ j := fun z => hP (z ▸ n)
    exact ⟨a, by rw [List.getElem?_set_ne z]; exact b, c⟩

def getK (μ : Mu) (i : Nat) : Option (List (PyData × PyData)) := match μ[i]? with
  | some (some (.dict es)) => some es
  | _ => none
theorem getK_some {μ : Mu} {i : Nat} {es : List (PyData × PyData)} (h : getK μ i = some es) : μ[i]? = some (some (.dict es)) := by
  unfold getK at h
  split at h
  · rename_i e
    cases h
    exact e
  · cases h
/-- another object altered -/
theorem Rl.other {G H : Hp} {μ : Mu} {σ : L2.St} {p : Addr} {o : HO} (R : Rl A G μ σ H) (gp : G p = none) (ap : A.H p = none) (no : ¬ Own A σ p) : Rl A G μ σ (L2.upd H p o) := by
  refine ⟨R.len, fun b u q => ?_, R.up, fun a o' h n => ?_, fun a h => ?_, R.fg, R.val, fun j d hj n => ?_, fun j a n e => ?_, R.sep, R.par⟩
  · rw [upd_ne (ne_of_none q gp)]; exact R.ext _ _ q
  · have : a ≠ p := fun z => by rw [z, ap] at h; cases h
    rw [upd_ne this]; exact R.fr a o' h n
  · by_cases z : a = p
    · rw [z, upd_same]; exact fun z => nomatch z
    · rw [upd_ne z]; exact R.lv a h
  · obtain ⟨q, o2, f2, f3, f4⟩ := R.own j d hj n
    have : q ≠ p := fun z => no ⟨j, n, z ▸ f2⟩
    exact ⟨q, o2, f2, by rw [upd_ne this]; exact f3, f4⟩
  · by_cases z : a = p
    · rw [z, upd_same]; exact fun z => nomatch z
    · rw [upd_ne z]; exact R.liv j a n e
/-- found = {t: v} -/
def sAsgD (i : Nat) (mk mv : ME) : MS := fun μ => (mk μ).bind fun p => (asD p.1).bind fun a => (keyI a).bind fun _ => (mv p.2).bind fun q => (asD q.1).map fun d => .nx (q.2.set i (some (.dict [(a, d)])))
theorem asgD_read {i : Nat} {mk mv : ME} (hO : A.O.contains i = true) (hP : A.P.contains i = false) {D : Ends} {σ : L2.St} {H : Hp} (w : tS A (sAsgD i mk mv) D σ H) : tAsg (tDispT (tE A mk) (tE A mv)) (gName i) D σ H := by
  obtain ⟨G, μ, o, R, e, k⟩ := w
  obtain ⟨p1, e1, e⟩ := bind2 e
  obtain ⟨a, e2, e⟩ := bind2 e
  obtain ⟨ki, e3, e⟩ := bind2 e
  obtain ⟨p2, e4, e⟩ := bind2 e
  obtain ⟨d, e5, e⟩ := map2 e
  cases e
  intro p hp
  have g0 := Grow.free (o := DiT p []) R.ext hp
  have hA : A.H p = none := by
    cases q : A.H p with
    | none => rfl
    | some o => exact absurd hp (R.lv p (by rw [q]; exact fun z => nomatch z))
  have no : ¬ Own A σ p := fun ⟨i, hi, hs⟩ => R.liv i p hi hs hp
  have live : L2.upd H p (DiT p []) p ≠ none := by rw [upd_same]; exact fun z => nomatch z
  refine ⟨G, μ, p1.1, p1.2, R.grow g0, e1, fun G1 H1 x s1 R1 q1 n1 => ⟨G1, p1.2, p2.1, p2.2, R1, e4, fun G2 H2 y s2 R2 q2 n2 => ?_⟩⟩
  rw [asD_some e2, keyI_some e3] at q1
  rw [asD_some e5] at q2
  have h1 : H1 p = some (DiT p []) := s1.h _ _ upd_same no
  have h2 : H2 p = some (DiT p []) := s2.h _ _ h1 no
  have gp1 : G1 p = none := s1.fr p live (R.ext.free hp)
  have gp2 : G2 p = none := s2.fr p (by rw [h1]; exact fun z => nomatch z) gp1
  refine ⟨h2, ?_⟩
  cases q1 with
  | @tup b ob xs ds w1 w0 w2 =>
    cases dqa_ints w2
    refine ⟨b, ob, ki, rfl, R2.ext _ _ (s2.g _ _ w1), ?_⟩
    have R3 : Rl A G2 p2.2 σ (L2.upd H2 p (DiT p [(ki, b, y)])) := R2.other gp2 hA no
    have kt : DqKt G2 [(ki, b, y)] [(a, d)] := by
      rw [keyI_some e3]
      exact .cons (s2.g _ _ w1) w0 q2 .nil
    exact k _ G2 _ (s1.g.trans s2.g) (R3.setOT (inO hO) (notO hP) upd_same kt gp2 hA no)
theorem qs_dispO {k : Nat} {x : Str} {kx vx : Expr} {pos pos' pos2 : Pos} {mk mv : ME} (i : Nat) (hr : Rm k X.A) (hk : PE X kx (tE A mk)) (hv : PE X vx (tE A mv)) (hO : A.O.contains i = true := by rfl) (hP : A.P.contains i = false := by rfl) (hN : X.N.Nodup) (hi : X.N[i]? = some x := by rfl) (hx : Loc X.env.scope x := by first | exact .inl rfl | exact .inr rfl) (hs : swapsWith (.Dict [some kx] [vx] pos2) (some (.Name x pos')) pos.line X.env = pure false := by rfl)
    (hf : X.fn x = true ∨ X.env.scope.names.lookup x = some .local := by first | exact .inl rfl | exact .inr rfl) : PS X (.Assign [.Name x pos'] (.Dict [some kx] [vx] pos2) pos) (tS A (sAsgD i mk mv)) :=
  ps_to (ps_set hN hi hx (pe_dispT (by have := hr.un; omega) hk hv) hs hf) fun D σ H w => asgD_read hO hP w
/-- found = {} -/
def sAsgE (i : Nat) : MS := fun μ => some (.nx (μ.set i (some (.dict []))))
theorem asgE_read {i : Nat} (hO : A.O.contains i = true) (hP : A.P.contains i = false) {D : Ends} {σ : L2.St} {H : Hp} (w : tS A (sAsgE i) D σ H) : tAsg tDispE (gName i) D σ H := by
  obtain ⟨G, μ, o, R, e, k⟩ := w
  cases e
  intro p hp
  have g0 := Grow.free (o := DiT p []) R.ext hp
  have hA : A.H p = none := by
    cases q : A.H p with
    | none => rfl
    | some o => exact absurd hp (R.lv p (by rw [q]; exact fun z => nomatch z))
  have no : ¬ Own A σ p := fun ⟨i, hi, hs⟩ => R.liv i p hi hs hp
  exact k _ G _ (.refl G) ((R.grow g0).setOT (inO hO) (notO hP) upd_same .nil (R.ext.free hp) hA no)
theorem qs_dispE {x : Str} {pos pos' pos2 : Pos} (i : Nat) (hO : A.O.contains i = true := by rfl) (hP : A.P.contains i = false := by rfl) (hN : X.N.Nodup) (hi : X.N[i]? = some x := by rfl) (hx : Loc X.env.scope x := by first | exact .inl rfl | exact .inr rfl) (hs : swapsWith (.Dict [] [] pos2) (some (.Name x pos')) pos.line X.env = pure false := by rfl)
    (hf : X.fn x = true ∨ X.env.scope.names.lookup x = some .local := by first | exact .inl rfl | exact .inr rfl) : PS X (.Assign [.Name x pos'] (.Dict [] [] pos2) pos) (tS A (sAsgE i)) :=
  ps_to (ps_set hN hi hx pe_dispE hs hf) fun D σ H w => asgE_read hO hP w
/-- found[t] = v -/
def sPutD (i : Nat) (m n : ME) : MS := fun μ => (m μ).bind fun p => (asD p.1).bind fun d => (getK p.2 i).bind fun _ => (n p.2).bind fun q => (asD q.1).bind fun a => (keyI a).bind fun k => (getK q.2 i).bind fun es => if es.length < 100000 then some (.nx (q.2.set i (some (.dict (putE es k d))))) else none
theorem qs_putD {k : Nat} {x : Str} {px : Pos} {e ix : Expr} {pos spos : Pos} {m n : ME} (i : Nat) (hr : Rm k X.A) (he : PE X e (tE A m)) (hix : PE X ix (tE A n)) (hO : A.O.contains i = true := by rfl) (hN : X.N[i]? = some x := by rfl) (hv : Vis X.env.scope x := by first | exact Or.inl rfl | exact Or.inr (Or.inl rfl) | exact Or.inr (Or.inr rfl)) (hd : (x == ("__debug__" : Str)) = false := by decide) (hcd : (x == ("__classdict__" : Str)) = false := by decide)
    (hs : swapsWith e (some (.Subscript (.Name x px) ix spos)) pos.line X.env = pure false := by rfl) :
    PS X (.Assign [.Subscript (.Name x px) ix spos] e pos) (tS A (sPutD i m n)) := ps_to (ps_putT (by have := hr.un; omega) (pv i hN hv hd hcd) hix he hs) fun D σ H ⟨G, μ, o, R, e, kk⟩ => by
  obtain ⟨p, e1, e⟩ := bind2 e
  obtain ⟨d, e2, e⟩ := bind2 e
  obtain ⟨es0, e3, e⟩ := bind2 e
  obtain ⟨q, e4, e⟩ := bind2 e
  obtain ⟨a, e5, e⟩ := bind2 e
  obtain ⟨ki, e6, e⟩ := bind2 e
  obtain ⟨es, e7, e⟩ := bind2 e
  split at e
  · rename_i hl
    cases e
    refine ⟨G, μ, p.1, p.2, R, e1, fun G1 H1 v s1 R1 q1 n1 => ?_⟩
    rw [asD_some e2] at q1
    obtain ⟨a1, kv1, es1, f1, f2, f3, f4, f5, f6⟩ := R1.ownT i (getK_some e3) (inO hO)
    refine ⟨.ref a1, f2, G1, p.2, q.1, q.2, R1, e4, fun G2 H2 w s2 R2 q2 n2 => ?_⟩
    obtain ⟨a2, kv2, es2, g1, g2, g3, g4, g5, g6⟩ := R2.ownT i (getK_some e7) (inO hO)
    have ea : a2 = a1 := V.ref.inj (Option.some.inj (Option.some.inj (g2.symm.trans f2)))
    subst ea
    cases g1
    rw [asD_some e5, keyI_some e6] at q2
    cases q2 with
    | @tup b ob xs ds w1 w0 w2 =>
      cases dqa_ints w2
      obtain ⟨R3, s3⟩ := R2.updT (inO hO) g2 (getK_some e7) (dqt_put g4 w1 w0 (dq_mono s2.g q1))
      exact ⟨a2, b, ob, ki, kv2, rfl, rfl, R2.ext _ _ w1, g3, dqt_keys R2.ext g4, by rw [dqt_len g4]; exact Nat.lt_of_lt_of_le hl (by decide), kk σ G2 _ (s1.g.trans s2.g) R3⟩
  · cases e
/-- return found: the dict is altered no more -/
def sRetD (P : List Nat) (i : Nat) : MS := fun μ => if P.contains i = true then none else (getK μ i).map fun es => .rt (.dat (.dict es)) (μ.set i none)
theorem Rl.freezeA {G H : Hp} {μ : Mu} {σ : L2.St} {i : Nat} {p : Addr} {o0 : HO} (R : Rl A G μ σ H) (hi : i ∈ A.O) (hs : σ[i]? = some (some (.ref p))) (hp : H p = some o0) (gp : G p = none) (ap : A.H p = none) : Same G (L2.upd G p o0) ∧ Rl A (L2.upd G p o0) (μ.set i none) σ H := by
  have sg : Same G (L2.upd G p o0) := fun b u q => by rw [upd_ne (ne_of_none q gp)]; exact q
  refine ⟨sg, by rw [List.length_set]; exact R.len, fun b u q => ?_, R.up.trans sg, R.fr, R.lv, fun a h g => ?_, fun j d h n => ?_, fun j d hj n => ?_, R.liv, R.sep, R.par⟩
  · by_cases z : b = p
    · subst z; rw [upd_same] at q; cases q; exact hp
    · rw [upd_ne z] at q; exact R.ext _ _ q
  · rw [upd_ne (fun z => h (by rw [z]; exact ap))]; exact R.fg a h g
  · have z : i ≠ j := fun z => n (z ▸ hi)
    rw [List.getElem?_set_ne z] at h
    obtain ⟨u, e, r⟩ := R.val j d h n
    exact ⟨u, e, dq_mono sg r⟩
  · by_cases z : i = j
    · subst z
      by_cases hlt : i < μ.length
      · rw [List.getElem?_set_self hlt] at hj; cases hj
      · rw [List.getElem?_eq_none (by rw [List.length_set]; omega)] at hj; cases hj
    · rw [List.getElem?_set_ne z] at hj
      obtain ⟨q, o, s, hq, r, gq, c⟩ := R.own j d hj n
      refine ⟨q, o, s, hq, r.mono sg, ?_, c⟩
      have : q ≠ p := fun y => z (R.sep i j p hi n hs (by rw [← y]; exact s))
      rw [upd_ne this]
      exact gq
/-- .. told as still -/
theorem Rl.freezeB {G H : Hp} {μ : Mu} {σ : L2.St} {i : Nat} {p : Addr} {o0 : HO} (fz : HO) (R : Rl A G μ σ H) (hi : i ∈ A.O) (hs : σ[i]? = some (some (.ref p))) (hp : H p = some o0) (gp : G p = none) (ap : A.H p = none) : Same G (L2.upd G p fz) ∧ Rl A (L2.upd G p fz) (μ.set i none) σ (L2.upd H p fz) := by
  have sg : Same G (L2.upd G p fz) := fun b u q => by rw [upd_ne (ne_of_none q gp)]; exact q
  refine ⟨sg, by rw [List.length_set]; exact R.len, fun b u q => ?_, R.up.trans sg, fun a o' h n => ?_, fun a h => ?_, fun a h g => ?_, fun j d h n => ?_, fun j d hj n => ?_, fun j a n e => ?_, R.sep, R.par⟩
  · by_cases z : b = p
    · subst z; rw [upd_same] at q ⊢; exact q
    · rw [upd_ne z] at q ⊢; exact R.ext _ _ q
  · have : a ≠ p := fun z => by rw [z, ap] at h; cases h
    rw [upd_ne this]; exact R.fr a o' h n
  · by_cases z : a = p
    · rw [z, upd_same]; exact fun z => nomatch z
    · rw [upd_ne z]; exact R.lv a h
  · rw [upd_ne (fun z => h (by rw [z]; exact ap))]; exact R.fg a h g
  · have z : i ≠ j := fun z => n (z ▸ hi)
    rw [List.getElem?_set_ne z] at h
    obtain ⟨u, e, r⟩ := R.val j d h n
    exact ⟨u, e, dq_mono sg r⟩
  · by_cases z : i = j
    · subst z
      by_cases hlt : i < μ.length
      · rw [List.getElem?_set_self hlt] at hj; cases hj
      · rw [List.getElem?_eq_none (by rw [List.length_set]; omega)] at hj; cases hj
    · rw [List.getElem?_set_ne z] at hj
      obtain ⟨q, o, s, hq, r, gq, c⟩ := R.own j d hj n
      have : q ≠ p := fun y => z (R.sep i j p hi n hs (by rw [← y]; exact s))
      refine ⟨q, o, s, by rw [upd_ne this]; exact hq, r.mono sg, ?_, c⟩
      rw [upd_ne this]
      exact gq
  · by_cases z : a = p
    · rw [z, upd_same]; exact fun z => nomatch z
    · rw [upd_ne z]; exact R.liv j a n e
/-- a dict may be told as still from now on -/
theorem ps_frz {st : Stmt} {t : TS} (h : PS X st t) : PS X st (fun D σ H => t D σ H ∨ ∃ a kvs, H a = some (DiT a kvs) ∧ ∀ o, t D σ (L2.upd H a (.frz o (DiT a kvs)))) := ⟨fun pins s σ H D I w => by
  rcases w with w | ⟨a, kvs, hd, w⟩
  · exact h.run pins s σ H D I w
  · have ok := show ObjOk X.prog X.w H s.heap a (DiT a kvs) from I.hok a _ hd
    obtain ⟨o, ho⟩ := ok.2.1
    have I2 := I.write (x := a) (e := a) (h' := s.heap) (t' := s.toks) (o := .frz o (DiT a kvs)) (by rw [hd]; trivial) (.inl rfl) (fun _ _ _ e => e) ⟨o, ho⟩ ⟨ho, ok⟩
    exact h.run pins s σ _ D I2 (w o)⟩
theorem qs_retD {x : Str} {px pos : Pos} (i : Nat) (P : List Nat) (hO : A.O.contains i = true := by rfl) (hPi : P.contains i = false := by rfl) (hN : X.N[i]? = some x := by rfl) (hv : Vis X.env.scope x := by first | exact Or.inl rfl | exact Or.inr (Or.inl rfl) | exact Or.inr (Or.inr rfl)) (hd : (x == ("__debug__" : Str)) = false := by decide)
    (hcd : (x == ("__classdict__" : Str)) = false := by decide) (hP : A.P = P := by rfl) : PS X (.Return (some (.Name x px)) pos) (tS A (sRetD P i)) := ps_to (ps_frz (ps_ret (pv i hN hv hd hcd))) fun D σ H ⟨G, μ, o, R, e, k⟩ => by
  have e : (if P.contains i = true then none else (getK μ i).map fun es => Out.rt (.dat (.dict es)) (μ.set i none)) = some o := e
  rw [if_neg (by rw [hPi]; exact Bool.false_ne_true)] at e
  obtain ⟨es, e1, e2⟩ := map2 e
  cases e2
  obtain ⟨p, kvs, es', f1, f2, f3, f4, f5, f6⟩ := R.ownT i (getK_some e1) (inO hO)
  cases f1
  have ap : A.H p = none := by
    rcases f6 with f6 | ⟨f6, _⟩
    · exact f6
    · rw [hP] at f6
      have : P.contains i = true := by simpa using f6
      rw [hPi] at this
      cases this
  refine .inr ⟨p, kvs, f3, fun o => ?_⟩
  obtain ⟨sg, R2⟩ := R.freezeB (.frz o (DiT p kvs)) (inO hO) f2 f3 f5 ap
  exact ⟨.ref p, f2, k _ σ _ _ sg R2 (.dicT upd_same (dqt_mono sg f4))⟩
/-- x = y, y a list or dict of one's own, that is altered no more -/
def sMove (P : List Nat) (i j : Nat) : MS := fun μ => if P.contains j = true then none else match μ[j]? with
  | some (some (.list ds)) => some (.nx ((μ.set j none).set i (some (.list ds))))
  | some (some (.dict es)) => some (.nx ((μ.set j none).set i (some (.dict es))))
  | _ => none
theorem qs_move {x y : Str} {py pos pos' : Pos} (i j : Nat) (P : List Nat) (hOi : A.O.contains i = false := by rfl) (hO : A.O.contains j = true := by rfl) (hPj : P.contains j = false := by rfl) (hP : A.P = P := by rfl) (hN : X.N.Nodup) (hi : X.N[i]? = some x := by rfl) (hx : Loc X.env.scope x := by first | exact .inl rfl | exact .inr rfl)
    (hs : swapsWith (.Name y py) (some (.Name x pos')) pos.line X.env = pure false := by rfl) (hf : X.fn x = true ∨ X.env.scope.names.lookup x = some .local := by first | exact .inl rfl | exact .inr rfl)
    (hNj : X.N[j]? = some y := by rfl) (hv : Vis X.env.scope y := by first | exact Or.inl rfl | exact Or.inr (Or.inl rfl) | exact Or.inr (Or.inr rfl)) (hd : (y == ("__debug__" : Str)) = false := by decide) (hcd : (y == ("__classdict__" : Str)) = false := by decide) :
    PS X (.Assign [.Name x pos'] (.Name y py) pos) (tS A (sMove P i j)) := ps_to (ps_frz (ps_set hN hi hx (pv j hNj hv hd hcd) hs hf)) fun D σ H ⟨G, μ, o, R, e, k⟩ => by
  have e : (if P.contains j = true then none else match μ[j]? with
    | some (some (.list ds)) => some (Out.nx ((μ.set j none).set i (some (.list ds))))
    | some (some (.dict es)) => some (Out.nx ((μ.set j none).set i (some (.dict es))))
    | _ => none) = some o := e
  rw [if_neg (by rw [hPj]; exact Bool.false_ne_true)] at e
  have apn : ∀ p, (A.H p = none ∨ (j ∈ A.P ∧ p = A.pa j)) → A.H p = none := fun p f5 => by
    rcases f5 with f5 | ⟨f5, _⟩
    · exact f5
    · rw [hP] at f5
      have : P.contains j = true := by simpa using f5
      rw [hPj] at this
      cases this
  split at e
  · rename_i ds hm
    cases e
    obtain ⟨p, ob, f1, f2, f3, f4, f5⟩ := R.own j _ hm (inO hO)
    obtain ⟨sg, R2⟩ := R.freezeA (inO hO) f1 f2 f4 (apn p f5)
    rcases f3 with ⟨vs, ds', rfl, ed, f3⟩ | ⟨kvs, es, _, ed, f3⟩
    · cases ed
      exact .inl ⟨.ref p, f1, k _ _ H sg (R2.set (notO hOi) (.lst (.inl upd_same) (dqa_mono sg f3)))⟩
    · cases ed
  · rename_i es hm
    cases e
    obtain ⟨p, kvs, es', f1, f2, f3, f4, f5, f6⟩ := R.ownT j hm (inO hO)
    cases f1
    refine .inr ⟨p, kvs, f3, fun o => ?_⟩
    obtain ⟨sg, R2⟩ := R.freezeB (.frz o (DiT p kvs)) (inO hO) f2 f3 f5 (apn p f6)
    exact ⟨.ref p, f2, k _ _ _ sg (R2.set (notO hOi) (.dicT upd_same (dqt_mono sg f4)))⟩
  · cases e
end
end ML

set_option maxRecDepth 100000
set_option maxHeartbeats 4000000
namespace ML
open PySem PySem.Spec PyProof.Rows L2 RZ
variable [KF]
/-! ### for t in d: a still dict whose keys are tuples of ints -/
def ItT (d : Addr) (o : Obj) (kvs : List (List Int × Addr × V)) : It :=
  ⟨fun i H => H d = some (.frz o (DiT d kvs)) ∧ i < kvs.length, fun i H x H' => H' = H ∧ ∃ q, kvs[i]? = some q ∧ x = .ref q.2.1, fun i H => H d = some (.frz o (DiT d kvs)) ∧ kvs.length ≤ i⟩
theorem frz_di {X : Cx} {pins : List (Addr × Obj)} {σ : L2.St} {H : Hp} {s : Shared} {d : Addr} {o : Obj} {kvs : List (List Int × Addr × V)} (I : Inv X pins σ H s) (hd : H d = some (.frz o (DiT d kvs))) :
    (d == sysModules) = false ∧ s.heap.get? d = some o ∧ o.ExactDict ∧ ∃ es ep, o.data = .dict es ep ∧ es.size = kvs.length ∧ ∀ (i : Nat) q, kvs[i]? = some q → ∃ en : DictEntry, es[i]? = some en ∧ en.key = .ref q.2.1 ∧ RelV q.2.2 en.val := by
  obtain ⟨g, ok⟩ := show s.heap.get? d = some o ∧ ObjOk X.prog X.w H s.heap d (DiT d kvs) from I.hok d _ hd
  obtain ⟨lo, z, P, w, xs, rel, nd, o', es, ep, h1, h2, h3, h4⟩ := ok.1
  rw [g] at h1
  cases h1
  have hs := size_of_entries h4
  refine ⟨lo, g, h2, es, ep, h3, by rw [hs]; exact (Paired.length rel).symm, fun i q hq => ?_⟩
  have e := entry_at h4 i
  have same : ∀ {l : List (List Int × Addr × V)} {m : List (List Int × Addr × Value)} (r : RelT l m) (i : Nat) (q : List Int × Addr × V), l[i]? = some q → ∃ y, m[i]? = some y ∧ q.2.1 = y.2.1 ∧ RelV q.2.2 y.2.2 := by
    intro l m r
    induction r with
    | nil => intro i q h; cases h
    | @cons p q ps qs hh t ih =>
      intro i r h
      cases i with
      | zero => cases h; exact ⟨_, rfl, hh.2.1, hh.2.2⟩
      | succ i => exact ih i r h
  obtain ⟨y, hy, ey, rv⟩ := same rel i q hq
  rw [hy] at e
  exact ⟨_, e, by rw [ey]; rfl, rv⟩
theorem turn_T {P : Program} {w : World} {K : PySem.W.Frag} {tg : Expr} {d : Addr} {o : Obj} {es : Array DictEntry} {ep : Nat} {kvs : List (List Int × Addr × V)} (it : Addr) (hod : o.data = .dict es ep) : Turn P w K tg (ItT d o kvs) [it] it (fun i h => h.IsKeyIter it d i kvs.length ep) where
  mem := by simp
  obj := fun i h st b hb => by
    have e : b = it := by simpa using hb
    subst e
    obtain ⟨oi, e, c, dd⟩ := st
    exact ⟨oi, e, fun v z => by rw [dd] at z; cases z⟩
  keep := fun i h h' st k => st.at fun oi e => k it (by simp) oi e
  item := by
    intro X hP hw hK hc i pins s σ H E I hf st hg
    subst hP hw hK
    obtain ⟨hd, hi⟩ := hg
    obtain ⟨f0, f1, f2, f3, f4, f5⟩ := hf it (by simp)
    obtain ⟨hs, hgd, hx, es', ep', hdt, hsz, ent⟩ := frz_di I hd
    obtain ⟨rfl, rfl⟩ := dict_ep hod hdt
    obtain ⟨q, hq⟩ : ∃ q, kvs[i]? = some q := ⟨kvs[i], List.getElem?_eq_getElem hi⟩
    obtain ⟨en, hen, hkey, _⟩ := ent i q hq
    refine next_key_item st hgd hdt hsz hen fun h' st' sb => ?_
    have I1 : Inv X pins σ H { s with heap := h' } := I.turned (t' := s.toks) (fun b ob hb e => (sb.2 b hb).trans e) f0 f1 f3 f4 f5
    obtain ⟨oi, e, c, dd⟩ := id st'
    exact ⟨en.key, rfl, go_of (s := { s with heap := h' }) e c dd (by decide) ⟨.ref q.2.1, H, I1, hkey, ⟨rfl, q, hq, rfl⟩, st', fun b hb => (hf b hb).1⟩⟩
  done := by
    intro X hP hw hK hc i pins s σ H E I hf st hg
    subst hP hw hK
    obtain ⟨hd, hi⟩ := hg
    obtain ⟨f0, f1, f2, f3, f4, f5⟩ := hf it (by simp)
    obtain ⟨hs, hgd, hx, es', ep', hdt, hsz, ent⟩ := frz_di I hd
    obtain ⟨rfl, rfl⟩ := dict_ep hod hdt
    exact next_key_end (I.ok.hd hc) st hgd hdt hsz hi fun h' eb => ⟨rfl, I.turned (t' := s.toks) (fun b ob hb e => eb b ob hb e) f0 f1 f3 f4 f5⟩
  self := fun A i s Q E st h => wpAny_pyIter_keyiter st h
def iDiT (td : TE) : TI := fun σ H R => td σ H fun x H1 => ∃ d o kvs, x = .ref d ∧ H1 d = some (.frz o (DiT d kvs)) ∧ R (ItT d o kvs) H1
section
variable {X : Cx} {A : Act} {tg e : Expr} {td : TE}
theorem pi_dictT (he : PE X e td) : PI X tg e (iDiT td) := by
  refine ⟨fun pins s σ H R I h => ?_⟩
  refine thn (he.run pins s σ H _ I h) fun u s1 ⟨x, H1, I1, rx, d, o, kvs, ex, hd, q⟩ => ?_
  subst ex
  obtain rfl : u = Value.ref d := rx
  obtain ⟨hs, hgd, hx, es, ep, hdt, hsz, ent⟩ := frz_di I1 hd
  refine iter_keys hs hgd hx hdt (pi_one (tk := s1.toks) I1 _ (turn_T _ hdt) ⟨_, Heap.get?_push_size _ rfl, rfl, ?_⟩ q)
  rw [hsz] <;> rfl
theorem dq_dic {G : Hp} {v : V} {es : List (PyData × PyData)} {ks : List (List Int)} (h : Dq G v (.dict es)) (hk : keysI es = some ks) : ∃ a o kvs, v = .ref a ∧ G a = some (.frz o (DiT a kvs)) ∧ DqKt G kvs es := by
  generalize hd : PyData.dict es = d at h
  cases h with
  | dicT h1 h2 => cases hd; exact ⟨_, _, _, rfl, h1, h2⟩
  | dicK h1 h0 h2 =>
    cases hd
    cases h2 with
    | nil => exact absurd rfl h0
    | @cons k v vs d ds h3 h4 =>
      obtain ⟨k0, hk0, _⟩ := bind2 hk
      have hk0 := keyI_some hk0
      cases k <;> cases hk0
  | scr h1 =>
    unfold scrD at hd
    injection hd with hd
    subst hd
    obtain ⟨k0, hk0, _⟩ := bind2 hk
    cases keyI_some hk0
  | non => cases hd
  | bl _ => cases hd
  | int _ => cases hd
  | str _ => cases hd
  | lst _ _ => cases hd
  | tup _ _ _ => cases hd
theorem iter_T {G0 : Hp} {a : Addr} {o : Obj} {kvs : List (List Int × Addr × V)} {es : List (PyData × PyData)} (h : G0 a = some (.frz o (DiT a kvs))) (hd : DqKt G0 kvs es) : IterOk Dq (ItT a o kvs) G0 (es.map (·.1)) := by
  have hl := dqt_list hd
  have len : kvs.length = (es.map (·.1)).length := by
    have := dqa_len hl
    rw [List.length_map] at this
    exact this
  refine ⟨fun G H i d e1 e2 hi => ?_, fun G H e1 e2 => ⟨e2 _ _ (e1 _ _ h), by rw [len]; exact Nat.le_refl _⟩⟩
  obtain ⟨v, hv, hq⟩ := dqa_get hl hi
  have hlt := (List.getElem?_eq_some_iff.mp hi).1
  refine ⟨⟨e2 _ _ (e1 _ _ h), by rw [len]; exact hlt⟩, fun x H' ⟨eh, q, hq2, ex⟩ => ?_⟩
  subst eh
  subst ex
  rw [List.getElem?_map, hq2] at hv
  cases hv
  exact ⟨G, .refl e2, dq_mono e1 hq⟩
def itKD : PyData → Option (List PyData)
  | .dict es => (keysI es).map fun _ => es.map (·.1)
  | _ => none
/-- over a dict that stands still -/
def mItD (m : ME) : MI := fun μ => (m μ).bind fun p => (asD p.1).bind fun d => (itKD d).map fun ds => (ds, p.2)
theorem qi_dict {tg l : Expr} {m : ME} (h : PE X l (tE A m)) : PI X tg l (tI A Dq (mItD m)) := pi_to (pi_dictT h) fun σ H Q ⟨G, μ, ds, μ', R, e, k⟩ => by
  obtain ⟨p, e1, e⟩ := bind2 e
  obtain ⟨d, e2, e⟩ := bind2 e
  obtain ⟨es, e3, e⟩ := map2 e
  cases e
  refine ⟨G, μ, p.1, p.2, R, e1, fun G1 H1 v s1 R1 q1 n1 => ?_⟩
  rw [asD_some e2] at q1
  cases d <;> first | (cases e3; done) | skip
  rename_i kes
  obtain ⟨ks, e4, e5⟩ := map2 e3
  cases e5
  obtain ⟨a, o, kvs, rfl, h1, h2⟩ := dq_dic q1 e4
  exact ⟨a, o, kvs, rfl, R1.ext _ _ h1, k G1 H1 _ s1 R1 (iter_T h1 h2)⟩
end
end ML

set_option maxRecDepth 100000
set_option maxHeartbeats 4000000
namespace ML
open PySem PySem.Spec PyProof.Rows L2 RZ RT
variable [KF]
section
variable {X : Cx} {A : Act}
/-! ### reversed(list or tuple) -/
theorem rev_get {α : Type} {l : List α} {i : Nat} {d : α} (h : l.reverse[i]? = some d) : i < l.length ∧ l[l.length - 1 - i]? = some d := by
  have hi : i < l.length := by
    have := (List.getElem?_eq_some_iff.mp h).1
    rw [List.length_reverse] at this
    exact this
  rw [List.getElem?_reverse hi] at h
  exact ⟨hi, h⟩
theorem iter_revL {K : PySem.W.Frag} {G0 : Hp} {a : Addr} {vs : List V} {ds : List PyData} (h : Rd G0 a (.lst vs)) (hd : DqAll G0 vs ds) : IterOk Dq (Itv K a vs.length) G0 ds.reverse := by
  have len := dqa_len hd
  refine ⟨fun G H i d e1 e2 hi => ?_, fun G H e1 e2 => by show _ ≤ _; rw [List.length_reverse, len]; exact Nat.le_refl _⟩
  obtain ⟨hlt, hg⟩ := rev_get hi
  obtain ⟨v, hv, hq⟩ := dqa_get hd hg
  rw [← len] at hv hlt
  refine ⟨⟨hlt, vs, v, .inl (rd_mono (e1.trans e2) h), hv⟩, fun x H' ⟨eh, y⟩ => ?_⟩
  subst eh
  have := y vs (.inl (rd_mono (e1.trans e2) h))
  rw [hv] at this
  cases this
  exact ⟨G, .refl e2, dq_mono e1 hq⟩
theorem iter_revT {K : PySem.W.Frag} {G0 : Hp} {a : Addr} {vs : List V} {ds : List PyData} (h : Rd G0 a (.tup vs)) (hd : DqAll G0 vs ds) : IterOk Dq (ItvT K a vs.length) G0 ds.reverse := by
  have len := dqa_len hd
  refine ⟨fun G H i d e1 e2 hi => ?_, fun G H e1 e2 => by show _ ≤ _; rw [List.length_reverse, len]; exact Nat.le_refl _⟩
  obtain ⟨hlt, hg⟩ := rev_get hi
  obtain ⟨v, hv, hq⟩ := dqa_get hd hg
  rw [← len] at hv hlt
  refine ⟨⟨hlt, vs, v, .inl (rd_mono (e1.trans e2) h), hv⟩, fun x H' ⟨eh, y⟩ => ?_⟩
  subst eh
  have := y vs (.inl (rd_mono (e1.trans e2) h))
  rw [hv] at this
  cases this
  exact ⟨G, .refl e2, dq_mono e1 hq⟩
def mIRev (m : ME) : MI := fun μ => (m μ).bind fun p => (asD p.1).bind fun d => (itD d).map fun ds => (ds.reverse, p.2)
theorem qi_rev {tg l : Expr} {p pos : Pos} {m : ME} (hg : Gl X "reversed") (hm : X.mg "reversed" = none) (h : PE X l (tE A m)) (hs : starEach [l] X.env = (false, eval l X.env) :: starEach [] X.env := by rfl) :
    PI X tg (.Call (.Name "reversed" p) [l] [] pos) (tI A Dq (mIRev m)) := pi_to (pi_revA hg hm h hs) fun σ H Q ⟨G, μ, ds, μ', R, e, k⟩ => by
  obtain ⟨p, e1, e⟩ := bind2 e
  obtain ⟨d, e2, e⟩ := bind2 e
  obtain ⟨es, e3, e⟩ := map2 e
  cases e
  refine ⟨G, μ, p.1, p.2, R, e1, fun G1 H1 v s1 R1 q1 n1 => ?_⟩
  rw [asD_some e2] at q1
  unfold itD at e3
  split at e3
  · cases e3
    cases q1 with
    | lst h1 h2 => exact ⟨_, _, rfl, .inl ⟨.inl (rd_mono R1.ext h1), k G1 H1 _ s1 R1 (iter_revL h1 h2)⟩⟩
  · cases e3
    cases q1 with
    | tup h1 h0 h2 => exact ⟨_, _, rfl, .inr ⟨.inl (.inr ⟨_, R1.ext _ _ h1⟩), k G1 H1 _ s1 R1 (iter_revT (.inr ⟨_, h1⟩) h2)⟩⟩
  · cases e3
/-! ### {k: v for ..}: keys ints or texts -/
def keyK : PyData → Option Key
  | .int i => some (.inl i)
  | .str s => some (.inr s)
  | _ => none
def putP (es : List (PyData × PyData)) (k : Key) (d : PyData) : List (PyData × PyData) := if (es.any fun e => decide (keyK e.1 = some k)) = true then es.map (fun e => if keyK e.1 = some k then (e.1, d) else e) else es ++ [(kD k, d)]
theorem keyK_kD (k : Key) : keyK (kD k) = some k := by cases k <;> rfl
theorem keyK_some {a : PyData} {k : Key} (h : keyK a = some k) : a = kD k := by
  cases a <;> first | (cases h; done) | skip
  all_goals (cases h; rfl)
theorem dqk_any {G : Hp} {kvs : List (Key × V)} {es : List (PyData × PyData)} (h : DqKv G kvs es) (k : Key) : (kvs.any fun e => decide (e.1 = k)) = es.any fun e => decide (keyK e.1 = some k) := by
  match kvs, es, h with
  | _, _, .nil => rfl
  | _, _, .cons (k := k1) h1 h2 =>
    rw [List.any_cons, List.any_cons, dqk_any h2 k, keyK_kD]
    congr 1
    exact decide_eq_decide.mpr ⟨fun e => by rw [show k1 = k from e], fun e => Option.some.inj e⟩
theorem dqk_map {G : Hp} {kvs : List (Key × V)} {es : List (PyData × PyData)} (h : DqKv G kvs es) (k : Key) {v : V} {d : PyData} (hv : Dq G v d) : DqKv G (kvs.map fun e => if e.1 = k then (e.1, v) else e) (es.map fun e => if keyK e.1 = some k then (e.1, d) else e) := by
  match kvs, es, h with
  | _, _, .nil => exact .nil
  | _, _, .cons (k := k1) h1 h2 =>
    rw [List.map_cons, List.map_cons]
    show DqKv G ((if k1 = k then (k1, v) else _) :: _) ((if keyK (kD k1) = some k then (kD k1, d) else _) :: _)
    rw [keyK_kD]
    by_cases z : k1 = k
    · rw [if_pos z, if_pos (by rw [z])]
      exact .cons hv (dqk_map h2 k hv)
    · rw [if_neg z, if_neg (fun e => z (Option.some.inj e))]
      exact .cons h1 (dqk_map h2 k hv)
theorem dqk_app {G : Hp} {kvs : List (Key × V)} {es : List (PyData × PyData)} (h : DqKv G kvs es) (k : Key) {v : V} {d : PyData} (hv : Dq G v d) : DqKv G (kvs ++ [(k, v)]) (es ++ [(kD k, d)]) := by
  match kvs, es, h with
  | _, _, .nil => exact .cons hv .nil
  | _, _, .cons h1 h2 => exact .cons h1 (dqk_app h2 k hv)
theorem dqk_put {G : Hp} {kvs : List (Key × V)} {es : List (PyData × PyData)} (h : DqKv G kvs es) (k : Key) {v : V} {d : PyData} (hv : Dq G v d) : DqKv G (putK kvs k v) (putP es k d) := by
  unfold putK putP
  rw [dqk_any h k]
  split
  · exact dqk_map h k hv
  · exact dqk_app h k hv
theorem dqk_len {G : Hp} {kvs : List (Key × V)} {es : List (PyData × PyData)} (h : DqKv G kvs es) : kvs.length = es.length := by
  match kvs, es, h with
  | _, _, .nil => rfl
  | _, _, .cons _ h2 => rw [List.length_cons, List.length_cons, dqk_len h2]
/-- a new object is told as still -/
theorem rl_still {G H : Hp} {μ : Mu} {σ : L2.St} {p : Addr} {o : HO} (R1 : Rl A G μ σ H) (hp : H p = some o) (gp : G p = none) (ap : A.H p = none) (no : ¬ Own A σ p) : Same G (L2.upd G p o) ∧ Rl A (L2.upd G p o) μ σ H := by
  have sg : Same G (L2.upd G p o) := fun b u q => by rw [upd_ne (ne_of_none q gp)]; exact q
  refine ⟨sg, R1.len, fun b u q => ?_, R1.up.trans sg, R1.fr, R1.lv, fun a h g => ?_, fun i d h n => ?_, fun i d h n => ?_, R1.liv, R1.sep, R1.par⟩
  · by_cases hb : b = p
    · subst hb; rw [upd_same] at q; cases q; exact hp
    · rw [upd_ne hb] at q; exact R1.ext _ _ q
  · rw [upd_ne (fun z => h (by rw [z]; exact ap))]; exact R1.fg a h g
  · obtain ⟨u, e, r⟩ := R1.val i d h n
    exact ⟨u, e, dq_mono sg r⟩
  · obtain ⟨q, o, s, hq, r, gq, c⟩ := R1.own i d h n
    refine ⟨q, o, s, hq, r.mono sg, ?_, c⟩
    rw [upd_ne (fun z => no ⟨i, n, by rw [← z]; exact s⟩)]; exact gq
def dcM (tg : PyData → Mu → Option Mu) (tt : MT) (tk tv : ME) (vs : List Nat) : List PyData → Mu → List (PyData × PyData) → Option (List (PyData × PyData) × Mu)
  | [], μ, acc => some (acc, μ)
  | d :: ds, μ, acc => (tg d μ).bind fun μ1 => (tt μ1).bind fun p => if p.1 = true then (tk p.2).bind fun q => (asD q.1).bind fun a => (keyK a).bind fun k => (tv q.2).bind fun q2 => (asD q2.1).bind fun y => if acc.length < 100000 then dcM tg tt tk tv vs ds (wipeM q2.2 vs) (putP acc k y) else none
    else dcM tg tt tk tv vs ds (wipeM p.2 vs) acc
def mDc (mi : MI) (tg : PyData → Mu → Option Mu) (tt : MT) (tk tv : ME) (vs : List Nat) : ME := fun μ => (mi μ).bind fun p => (dcM tg tt tk tv vs p.1 (wipeM p.2 vs) []).bind fun q => if q.1 = [] then none else some (.dat (.dict q.1), restM p.2 q.2 vs)
theorem dc_read {r : Hp → V → PyData → Prop} {mi : MI} {f : PyData → Mu → Option Mu} {sl vs : List Nat} {tt : MT} {tk te : ME} (hd : disj vs A.O = true) (hsl : ∀ j, j ∈ sl → j ∈ vs) {σ : L2.St} {H : Hp} {Q : VK} (w : tE A (mDc mi f tt tk te vs) σ H Q) : tDc (tI A r mi) (tG A r f sl) (tMT A tt) (tE A tk) (tE A te) vs σ H Q := by
  obtain ⟨G, μ, z, μ', R, e, k⟩ := w
  obtain ⟨⟨ds, μ1⟩, e1, e⟩ := bind2 e
  obtain ⟨⟨res, μe⟩, e2, e⟩ := bind2 e
  split at e
  · cases e
  rename_i hne
  cases e
  refine ⟨G, μ, ds, μ1, R, e1, fun G1 H1 J s1 R1 it D hD => ?_⟩
  have hD0 : H D = none := by
    cases q : H D with
    | none => rfl
    | some o => exact absurd hD (s1.lv D (by rw [q]; exact fun z => nomatch z))
  have hAD : A.H D = none := by
    cases q : A.H D with
    | none => rfl
    | some o => exact absurd hD (R1.lv D (by rw [q]; exact fun z => nomatch z))
  have hoD : ¬ Own A σ D := fun ⟨i, hi, hs⟩ => R1.liv i D hi hs hD
  have gD : G1 D = none := R1.ext.free hD
  have g0 := Grow.free (o := .dK []) R1.ext hD
  have R0 : Rl A G1 (wipeM μ1 vs) (wipe σ vs) (upd H1 D (.dK [])) := (R1.grow g0).wipe hd
  refine ⟨fun i m H' => i ≤ ds.length ∧ m = ds.length - i ∧ ∃ G' μi acc av, Step A σ G1 H1 G' H' ∧ Rl A G' μi (wipe σ vs) H' ∧ H' D = some (.dK av) ∧ DqKv G' av acc ∧ G' D = none ∧ dcM f tt tk te vs (ds.drop i) μi acc = some (res, μe),
    ⟨_, Nat.zero_le _, rfl, G1, _, [], [], g0.step, R0, upd_same, .nil, gD, e2⟩, ?_⟩
  rintro i m H2 ⟨hi, rfl, G2, μ2, acc, av, s2, R2, h2, a2, d2, e3⟩
  by_cases hlt : i < ds.length
  · right
    obtain ⟨go, y⟩ := it.go G2 H2 i ds[i] s2.g R2.ext (List.getElem?_eq_getElem hlt)
    refine ⟨go, fun H' => i + 1 ≤ ds.length ∧ ∃ G' μi acc av, Step A σ G1 H1 G' H' ∧ Rl A G' μi (wipe σ vs) H' ∧ H' D = some (.dK av) ∧ DqKv G' av acc ∧ G' D = none ∧ dcM f tt tk te vs (ds.drop (i + 1)) μi acc = some (res, μe), fun H' ⟨p1, p2⟩ => ⟨_, by omega, p1, rfl, p2⟩, fun x H' hy => ?_⟩
    obtain ⟨G3, g3, hx⟩ := y x H' hy
    rw [List.drop_eq_getElem_cons hlt] at e3
    obtain ⟨μ3, e4, e5⟩ := bind2 e3
    refine ⟨G3, μ2, _, μ3, R2.grow g3, hx, e4, fun σ3 R3 w3 => ?_⟩
    have ws : wipe σ3 vs = wipe σ vs := (w3 vs hsl).trans (wipe_wipe σ vs)
    have hoD3 : ¬ Own A σ3 D := fun z => hoD (own_wipe hd ws z)
    have hl2 : H2 D ≠ none := by rw [h2]; exact fun z => nomatch z
    obtain ⟨⟨b, μ4⟩, e6, e7⟩ := bind2 e5
    refine ⟨ws, G3, μ3, b, μ4, R3, e6, fun G4 H4 s4 R4 => ?_⟩
    have h4 : H4 D = some (.dK av) := s4.h _ _ (g3.h _ _ h2) hoD3
    have d4 : G4 D = none := s4.fr D (same_live g3.h hl2) (g3.fr D hl2 d2)
    have st4 : Step A σ G1 H1 G4 H4 := (s2.trans g3.step).trans (s4.slots hd ws)
    cases b with
    | true =>
      rw [if_pos rfl] at e7
      obtain ⟨⟨q1, μ5⟩, e8, e9⟩ := bind2 e7
      obtain ⟨ka, e10, e11⟩ := bind2 e9
      obtain ⟨kk, e12, e13⟩ := bind2 e11
      obtain ⟨⟨q2, μ6⟩, e14, e15⟩ := bind2 e13
      obtain ⟨yd, e16, e17⟩ := bind2 e15
      split at e17
      · rename_i hz
        refine iteT ⟨G4, μ4, q1, μ5, R4, e8, fun G5 H5 v s5 R5 q5 n5 => ?_⟩
        have q5 : Dq G5 v (kD kk) := by
          have q5 : RelMV A G5 σ3 H5 v (.dat ka) := by rw [← asD_some e10]; exact q5
          rw [← keyK_some e12]
          exact q5
        have ev : v = kV kk := by
          cases kk with
          | inl i => exact dq_int q5
          | inr s => exact dq_str q5
        have h5 : H5 D = some (.dK av) := s5.h _ _ h4 hoD3
        have hl4 : H4 D ≠ none := by rw [h4]; exact fun z => nomatch z
        have d5 : G5 D = none := s5.fr D hl4 d4
        have st5 : Step A σ G1 H1 G5 H5 := st4.trans (s5.slots hd ws)
        refine ⟨G5, μ5, q2, μ6, R5, e14, fun G6 H6 v2 s6 R6 q6 n6 => ?_⟩
        have q6 : RelMV A G6 σ3 H6 v2 (.dat yd) := by rw [← asD_some e16]; exact q6
        have h6 : H6 D = some (.dK av) := s6.h _ _ h5 hoD3
        have hl5 : H5 D ≠ none := by rw [h5]; exact fun z => nomatch z
        have d6 : G6 D = none := s6.fr D hl5 d5
        have st6 : Step A σ G1 H1 G6 H6 := st5.trans (s6.slots hd ws)
        have a6 : DqKv G6 (putK av kk v2) (putP acc kk yd) := dqk_put (dqk_mono (((g3.g.trans s4.g).trans s5.g).trans s6.g) a2) kk q6
        refine ⟨av, kk, ev, h6, by rw [dqk_len a2]; exact Nat.lt_of_lt_of_le hz (by decide), hlt, G6, wipeM μ6 vs, putP acc kk yd, putK av kk v2, ?_, ?_, upd_same, a6, d6, e17⟩
        · refine ⟨st6.g, fun a o h n => ?_, st6.fr, fun a h => ?_⟩
          · have : a ≠ D := fun z => by rw [z, hD] at h; cases h
            rw [upd_ne this]; exact st6.h a o h n
          · by_cases z : a = D
            · rw [z, upd_same]; exact fun z => nomatch z
            · rw [upd_ne z]; exact st6.lv a h
        · have R7 := R6.wipe hd
          rw [ws] at R7
          have ow : ∀ {a}, Own A (wipe σ vs) a → Own A σ a := fun z => own_wipe hd (wipe_wipe σ vs) z
          refine ⟨R7.len, fun b u q => ?_, R7.up, fun a o h n => ?_, fun a h => ?_, R7.fg, R7.val, fun j d hj n => ?_, fun j a n e => ?_, R7.sep, R7.par⟩
          · rw [upd_ne (ne_of_none q d6)]; exact R7.ext _ _ q
          · have : a ≠ D := fun z => by rw [z, hAD] at h; cases h
            rw [upd_ne this]; exact R7.fr a o h n
          · by_cases z : a = D
            · rw [z, upd_same]; exact fun z => nomatch z
            · rw [upd_ne z]; exact R7.lv a h
          · obtain ⟨q, o2, f2, f3, f4⟩ := R7.own j d hj n
            have : q ≠ D := fun z => hoD (ow ⟨j, n, z ▸ f2⟩)
            exact ⟨q, o2, f2, by rw [upd_ne this]; exact f3, f4⟩
          · by_cases z : a = D
            · rw [z, upd_same]; exact fun z => nomatch z
            · rw [upd_ne z]; exact R7.liv j a n e
      · cases e17
    | false =>
      rw [if_neg Bool.false_ne_true] at e7
      refine iteF ⟨hlt, G4, wipeM μ4 vs, acc, av, st4, ?_, h4, dqk_mono (g3.g.trans s4.g) a2, d4, e7⟩
      have R6 := R4.wipe hd
      rw [ws] at R6
      exact R6
  · left
    have hi' : i = ds.length := by omega
    subst hi'
    refine ⟨it.stop G2 H2 s2.g R2.ext, ?_⟩
    rw [List.drop_length] at e3
    cases e3
    have R9 := R1.unwipe hd s2.g R2
    obtain ⟨sg, R10⟩ := rl_still R9 h2 d2 hAD hoD
    have s12 := s1.trans s2
    refine k _ H2 _ ⟨s12.g.trans sg, s12.h, fun a h g => ?_, s12.lv⟩ R10 (.dicK (.inl upd_same) hne (dqk_mono sg a2)) trivial
    rw [upd_ne (fun z => h (by rw [z]; exact hD0))]
    exact s12.fr a h g
theorem qe_dc {r : Hp → V → PyData → Prop} {kx vx tg iter : Expr} {ifs : List Expr} {scope : Scope} {own : List (Str × Nat)} {pos : Pos} {mi : MI} {f : PyData → Mu → Option Mu} {sl : List Nat} {tt : MT} {tk te : ME} (vs : List Nat) (hN : X.N.Nodup) (hi : PI X tg iter (tI A r mi)) (ok : BlkOk X.N X.env.scope scope own)
    (hg : ∀ (s : Shared) (H : Hp) (C : Addr) (cl : List (Str × Addr)) (fp : List Addr), PG (X.blk s H scope (compEnvC scope cl C X.env) fp) tg (tG A r f sl)) (ht : ∀ (s : Shared) (H : Hp) (C : Addr) (cl : List (Str × Addr)) (fp : List Addr), PTs (X.blk s H scope (compEnvC scope cl C X.env) fp) ifs (tMT A tt))
    (hk : ∀ (s : Shared) (H : Hp) (C : Addr) (cl : List (Str × Addr)) (fp : List Addr), PE (X.blk s H scope (compEnvC scope cl C X.env) fp) kx (tE A tk))
    (he : ∀ (s : Shared) (H : Hp) (C : Addr) (cl : List (Str × Addr)) (fp : List Addr), PE (X.blk s H scope (compEnvC scope cl C X.env) fp) vx (tE A te)) (hv : own.map (·.2) = vs := by rfl) (hd : disj vs A.O = true := by rfl) (hsl : ∀ j, j ∈ sl → j ∈ vs := by decide) (hc : X.calm = true := by rfl) (hs : ∀ x, foldedSetIterable iter X.env x = pure x := by intro _; rfl) :
    PE X (.DictComp kx vx [⟨tg, iter, ifs, 0⟩] scope pos) (tE A (mDc mi f tt tk te vs)) := pe_to (pe_dc hc hN hi ok hg ht hk he hs) fun σ H Q w => by
  rw [hv]
  exact dc_read hd hsl w
/-! ### d[k] -/
def rIxK : R2 := fun x y H Q => ∃ (p : Addr) (kvs : List (Key × V)) (k : Key) (v : V), x = .ref p ∧ y = kV k ∧ Rd H p (.dK kvs) ∧ valV kvs k = some v ∧ Q v H
def rIxT' : R2 := fun x y H Q => ∃ (a b : Addr) (o : Obj) (k : List Int) (kvs : List (List Int × Addr × V)) (v : V), x = .ref a ∧ y = .ref b ∧ H b = some (.frz o (.tup (k.map V.int))) ∧ HasD H a kvs ∧ KeysT H kvs ∧ atT kvs k = some v ∧ Q v H
theorem ix_K : IxR X rIxK := by
  intro value slice pins s σ H x y v u Q I rx ry h hs
  obtain ⟨p, kvs, k, z, rfl, rfl, hq, he, q⟩ := h
  cases rx
  obtain ⟨z1, lo, vs, rel, dd⟩ := dk_rd I.hok hq
  obtain ⟨w', hw, rw'⟩ := RelO.some_of (v := z) (o := valueAt vs k) (by rw [← he]; exact rel.val k)
  exact tail_any dd.typeIs slot_dict_getitem.lookup (wpAny_getItem_of (kV_is ry) dd.mapOf hw ⟨z, H, I.tok _, rw', q⟩) hs
theorem ix_T (hu : X.A.units + 1 < cLine) : IxR X rIxT' := by
  intro value slice pins s σ H x y v u Q I rx ry h hs
  obtain ⟨a, b, o, k, kvs, z, rfl, rfl, hb, hd, hk, he, q⟩ := h
  cases rx
  cases ry
  obtain ⟨lo, z1, xs, rel, dd⟩ := di_of I hd hk
  obtain ⟨w', hw, rw'⟩ := RelO.some_of (v := z) (o := (atKey xs k).map (·.2)) (by rw [← he]; exact rel.val k)
  obtain ⟨p, hp, hp2⟩ := Option.map_eq_some_iff.mp hw
  refine tail_any dd.typeIs slot_dict_getitem.lookup (wpAny_getItem_heap (tupleKind_room_in1 hu) (I.isT (.inl (.inr ⟨o, hb⟩))) dd hp ?_) hs
  rw [hp2]
  exact ⟨z, H, I.tok _, rw', q⟩
def getP (es : List (PyData × PyData)) (k : Key) : Option PyData := (es.find? fun e => decide (keyK e.1 = some k)).map (·.2)
theorem dqk_get {G : Hp} {kvs : List (Key × V)} {es : List (PyData × PyData)} (h : DqKv G kvs es) {k : Key} {d : PyData} (e : getP es k = some d) : ∃ v, valV kvs k = some v ∧ Dq G v d := by
  match kvs, es, h with
  | _, _, .nil => cases e
  | _, _, .cons (k := k1) (v := v1) (vs := kr) (d := d1) (ds := er) h1 h2 =>
    unfold getP at e
    rw [List.find?_cons, keyK_kD] at e
    unfold valV
    rw [List.find?_cons]
    by_cases z : k1 = k
    · have t1 : decide (k1 = k) = true := decide_eq_true z
      have t2 : decide (some k1 = some k) = true := decide_eq_true (by rw [z])
      rw [show decide (((k1, v1) : Key × V).1 = k) = true from t1]
      rw [t2] at e
      cases e
      exact ⟨v1, rfl, h1⟩
    · have t1 : decide (k1 = k) = false := decide_eq_false z
      have t2 : decide (some k1 = some k) = false := decide_eq_false (fun q => z (Option.some.inj q))
      rw [show decide (((k1, v1) : Key × V).1 = k) = false from t1]
      rw [t2] at e
      exact dqk_get h2 e
def dIxK : PyData → PyData → Option MV
  | .dict es, a => (keyK a).bind fun k => (getP es k).map .dat
  | _, _ => none
theorem dqt_noK {G : Hp} {kvs : List (List Int × Addr × V)} {es : List (PyData × PyData)} (h : DqKt G kvs es) : ∀ e ∈ es, keyK e.1 = none := by
  match kvs, es, h with
  | _, _, .nil => intro e he; cases he
  | _, _, .cons h1 h0 h2 h3 =>
    intro e he
    rcases List.mem_cons.mp he with q | q
    · rw [q]; rfl
    · exact dqt_noK h3 e q
theorem dq_dK {G : Hp} {v : V} {es : List (PyData × PyData)} {k : Key} {d : PyData} (h : Dq G v (.dict es)) (hk : getP es k = some d) : ∃ a kvs, v = .ref a ∧ Rd G a (.dK kvs) ∧ DqKv G kvs es := by
  generalize hd : PyData.dict es = dd at h
  cases h with
  | dicK h1 h0 h2 => cases hd; exact ⟨_, _, rfl, h1, h2⟩
  | dicT h1 h2 =>
    cases hd
    exfalso
    have ne := dqt_noK h2
    unfold getP at hk
    obtain ⟨e, he, _⟩ := Option.map_eq_some_iff.mp hk
    have hm := List.mem_of_find?_eq_some he
    have hp := List.find?_some he
    rw [ne e hm] at hp
    simp at hp
  | scr h1 =>
    exfalso
    unfold scrD at hd
    injection hd with hd
    subst hd
    unfold getP at hk
    obtain ⟨e, he, _⟩ := Option.map_eq_some_iff.mp hk
    have hm := List.mem_of_find?_eq_some he
    have hp := List.find?_some he
    have : keyK e.1 = none := by
      rcases List.mem_cons.mp hm with q | q
      · rw [q]; rfl
      · obtain ⟨n, _, rfl⟩ := List.mem_map.mp q
        rfl
    rw [this] at hp
    simp at hp
  | non => cases hd
  | bl _ => cases hd
  | int _ => cases hd
  | str _ => cases hd
  | lst _ _ => cases hd
  | tup _ _ _ => cases hd
theorem ok_ixK : IxOk X dIxK := by
  refine ⟨_, ix_K, fun G H x y a b z Q e hx hy hz k => ?_⟩
  cases a <;> first | (cases hz; done) | skip
  rename_i es
  obtain ⟨kk, e1, hz⟩ := bind2 hz
  obtain ⟨d, e2, e3⟩ := map2 hz
  cases e3
  rw [keyK_some e1] at hy
  have ey : y = kV kk := by
    cases kk with
    | inl i => exact hy.i
    | inr s => exact hy.s
  have fin : Dq G x (.dict es) → rIxK x y H Q := fun hx => by
    obtain ⟨p, kvs, rfl, h1, h2⟩ := dq_dK hx e2
    obtain ⟨v, h3, h4⟩ := dqk_get h2 e2
    exact ⟨p, kvs, kk, v, rfl, ey, rd_mono e h1, h3, k G H v (.refl e) h4⟩
  cases hx with
  | dat h => exact fin h
  | dic h1 h2 =>
    exfalso
    have ne := dqt_noK h2
    unfold getP at e2
    obtain ⟨e, he, _⟩ := Option.map_eq_some_iff.mp e2
    have hm := List.mem_of_find?_eq_some he
    have hp := List.find?_some he
    rw [ne e hm] at hp
    simp at hp
/-- d[t], t a tuple of ints -/
def dIxT : PyData → PyData → Option MV
  | .dict es, a => (keyI a).bind fun k => (keysI es).bind fun _ => (getE es k).map .dat
  | _, _ => none
theorem ok_ixT {k : Nat} (hr : Rm k X.A) : IxOk X dIxT := by
  refine ⟨_, ix_T (by have := hr.un; omega), fun G H x y a b z Q e hx hy hz k => ?_⟩
  cases a <;> first | (cases hz; done) | skip
  rename_i es
  obtain ⟨ki, e1, hz⟩ := bind2 hz
  obtain ⟨ks, e2, hz⟩ := bind2 hz
  obtain ⟨d, e4, e3⟩ := map2 hz
  cases e3
  rw [keyI_some e1] at hy
  obtain ⟨b, o, vs, rfl, h1, h0, h2⟩ := hy.tt e
  cases dqa_ints h2
  obtain ⟨a, kvs, rfl, h3, h4⟩ := db_dic e hx e2
  have g := dqt_get h4 ki
  rw [e4] at g
  obtain ⟨v, g1, g2⟩ : ∃ v, atT kvs ki = some v ∧ Dq G v d := by
    cases hv : atT kvs ki with
    | none => rw [hv] at g; cases g
    | some v => rw [hv] at g; cases g; exact ⟨v, rfl, by assumption⟩
  exact ⟨a, b, o, ki, kvs, v, rfl, rfl, h1, h3, dqt_keys e h4, g1, k G H v (.refl e) g2⟩
end
end ML

set_option maxRecDepth 100000
set_option maxHeartbeats 4000000
namespace ML
open PySem PySem.Spec PyProof.Rows L2 RZ
/-! ### sorting by keys of two rows of ints -/
abbrev SK := List Int × List Int
def ltSK (a b : SK) : Bool := if a.1 = b.1 then HT.lexLt a.2 b.2 else HT.lexLt a.1 b.1
theorem lex_irr : ∀ x : List Int, HT.lexLt x x = false
  | [] => rfl
  | x :: xs => by rw [HT.lexLt_cons, if_pos rfl]; exact lex_irr xs
theorem lex_asym : ∀ x y : List Int, HT.lexLt x y = true → HT.lexLt y x = false
  | [], [], h => by cases h
  | [], _ :: _, _ => rfl
  | _ :: _, [], h => by cases h
  | x :: xs, y :: ys, h => by
    rw [HT.lexLt_cons] at h ⊢
    by_cases z : x = y
    · rw [if_pos z] at h
      rw [if_pos z.symm]
      exact lex_asym xs ys h
    · rw [if_neg z] at h
      rw [if_neg (fun e => z e.symm)]
      have := of_decide_eq_true h
      exact decide_eq_false (by omega)
theorem lex_tri : ∀ x y : List Int, HT.lexLt x y = false → HT.lexLt y x = false → x = y
  | [], [], _, _ => rfl
  | [], _ :: _, h, _ => by cases h
  | _ :: _, [], _, h => by cases h
  | x :: xs, y :: ys, h, h' => by
    rw [HT.lexLt_cons] at h h'
    by_cases z : x = y
    · rw [if_pos z] at h
      rw [if_pos z.symm] at h'
      rw [z, lex_tri xs ys h h']
    · rw [if_neg z] at h
      rw [if_neg (fun e => z e.symm)] at h'
      have := of_decide_eq_false h
      have := of_decide_eq_false h'
      omega
theorem lex_trans : ∀ x y z : List Int, HT.lexLt x y = true → HT.lexLt y z = true → HT.lexLt x z = true
  | [], [], _, h, _ => by cases h
  | [], _ :: _, [], _, h => by cases h
  | [], _ :: _, _ :: _, _, _ => rfl
  | _ :: _, [], _, h, _ => by cases h
  | _ :: _, _ :: _, [], _, h => by cases h
  | x :: xs, y :: ys, z :: zs, h, h' => by
    rw [HT.lexLt_cons] at h h' ⊢
    by_cases e1 : x = y
    · subst e1
      rw [if_pos rfl] at h
      by_cases e2 : x = z
      · rw [if_pos e2] at h' ⊢
        exact lex_trans xs ys zs h h'
      · rw [if_neg e2] at h' ⊢
        exact h'
    · rw [if_neg e1] at h
      have h1 := of_decide_eq_true h
      by_cases e2 : y = z
      · subst e2
        rw [if_neg e1]
        exact h
      · rw [if_neg e2] at h'
        have h2 := of_decide_eq_true h'
        rw [if_neg (by omega)]
        exact decide_eq_true (by omega)
theorem ltSK_asym {a b : SK} (h : ltSK a b = true) : ltSK b a = false := by
  unfold ltSK at h ⊢
  by_cases z : a.1 = b.1
  · rw [if_pos z] at h
    rw [if_pos z.symm]
    exact lex_asym _ _ h
  · rw [if_neg z] at h
    rw [if_neg (fun e => z e.symm)]
    exact lex_asym _ _ h
theorem ltSK_tri {a b : SK} (h : ltSK a b = false) (h' : ltSK b a = false) : a = b := by
  unfold ltSK at h h'
  by_cases z : a.1 = b.1
  · rw [if_pos z] at h
    rw [if_pos z.symm] at h'
    exact Prod.ext z (lex_tri _ _ h h')
  · rw [if_neg z] at h
    rw [if_neg (fun e => z e.symm)] at h'
    exact absurd (lex_tri _ _ h h') z
theorem ltSK_trans {a b c : SK} (h : ltSK a b = true) (h' : ltSK b c = true) : ltSK a c = true := by
  unfold ltSK at h h' ⊢
  by_cases z : a.1 = b.1
  · rw [if_pos z] at h
    by_cases w : b.1 = c.1
    · rw [if_pos w] at h'
      rw [if_pos (z.trans w)]
      exact lex_trans _ _ _ h h'
    · rw [if_neg w] at h'
      rw [if_neg (fun e => w (z.symm.trans e)), z]
      exact h'
  · rw [if_neg z] at h
    by_cases w : b.1 = c.1
    · rw [if_neg (fun e => z (e.trans w.symm)), ← w]
      exact h
    · rw [if_neg w] at h'
      have t := lex_trans _ _ _ h h'
      rw [if_neg (fun e => by rw [e, lex_asym _ _ h'] at h; cases h)]
      exact t
theorem swoSK {α : Type} (k : α → SK) : SrtO.Swo fun x y => ltSK (k x) (k y) := by
  refine ⟨fun x y h => ltSK_asym h, fun x y z h1 h2 => ?_⟩
  cases q : ltSK (k z) (k x) with
  | false => rfl
  | true =>
    cases p : ltSK (k x) (k y) with
    | true => rw [ltSK_trans q p] at h2; cases h2
    | false =>
      have := ltSK_tri p h1
      rw [this, h2] at q
      cases q
/-! a list sorted, equal ones in their order -/
def insK {α : Type} (k : α → SK) (x : α) : List α → List α
  | [] => [x]
  | y :: l => if ltSK (k y) (k x) = true then y :: insK k x l else x :: y :: l
def srtK {α : Type} (k : α → SK) : List α → List α
  | [] => []
  | x :: l => insK k x (srtK k l)
section
variable {α : Type} {k : α → SK}
theorem ins_perm (x : α) : ∀ l : List α, (insK k x l).Perm (x :: l)
  | [] => List.Perm.refl _
  | y :: l => by
    unfold insK
    split
    · exact ((ins_perm x l).cons y).trans (List.Perm.swap x y l)
    · exact List.Perm.refl _
theorem srt_perm : ∀ l : List α, (srtK k l).Perm l
  | [] => List.Perm.refl _
  | x :: l => (ins_perm x _).trans ((srt_perm l).cons x)
theorem ins_srt (x : α) : ∀ l : List α, SrtO.Srtd (fun x y => ltSK (k x) (k y)) l → SrtO.Srtd (fun x y => ltSK (k x) (k y)) (insK k x l)
  | [], _ => List.pairwise_singleton _ _
  | y :: l, h => by
    have hh := List.pairwise_cons.mp h
    unfold insK
    by_cases z : ltSK (k y) (k x) = true
    · rw [if_pos z]
      refine List.pairwise_cons.mpr ⟨fun v hv => ?_, ins_srt x l hh.2⟩
      rcases List.mem_cons.mp ((ins_perm x l).mem_iff.mp hv) with e | hv
      · rw [e]; exact ltSK_asym z
      · exact hh.1 v hv
    · rw [if_neg z]
      refine List.pairwise_cons.mpr ⟨fun v hv => ?_, h⟩
      rcases List.mem_cons.mp hv with e | hv
      · rw [e]; simpa using z
      · exact (swoSK k).tr x y v (by simpa using z) (hh.1 v hv)
theorem srt_srt : ∀ l : List α, SrtO.Srtd (fun x y => ltSK (k x) (k y)) (srtK k l)
  | [] => List.Pairwise.nil
  | x :: l => ins_srt x _ (srt_srt l)
theorem ins_stb (x : α) : ∀ l : List α, SrtO.Stb (fun x y => ltSK (k x) (k y)) (insK k x l) (x :: l)
  | [] => SrtO.Stb.refl _
  | y :: l => by
    unfold insK
    by_cases z : ltSK (k y) (k x) = true
    · rw [if_pos z]
      have a := SrtO.Stb.app (SrtO.Stb.refl (lt := fun x y => ltSK (k x) (k y)) [y]) (ins_stb x l)
      have b := SrtO.Stb.swap (swoSK k) (A := [y]) (B := [x]) (fun a ha b hb => by
        rw [List.mem_singleton.mp ha, List.mem_singleton.mp hb]; exact z)
      exact a.trans (SrtO.Stb.app b (SrtO.Stb.refl l))
    · rw [if_neg z]; exact SrtO.Stb.refl _
theorem srt_stb : ∀ l : List α, SrtO.Stb (fun x y => ltSK (k x) (k y)) (srtK k l) l
  | [] => SrtO.Stb.refl _
  | x :: l => (ins_stb x _).trans (SrtO.Stb.app (SrtO.Stb.refl [x]) (srt_stb l))
theorem srt_only {out l : List α} (h : SrtO.Srtd (fun x y => ltSK (k x) (k y)) out) (s : SrtO.Stb (fun x y => ltSK (k x) (k y)) out l) : out = srtK k l :=
  SrtO.stb_uniq (swoSK k) h (srt_srt l) (s.trans ⟨(srt_perm l).symm, fun x => ((srt_stb l).cls x).symm⟩)
theorem ins_map {β : Type} (f : β → α) (x : β) : ∀ l : List β, insK k (f x) (l.map f) = (insK (fun b => k (f b)) x l).map f
  | [] => rfl
  | y :: l => by
    rw [List.map_cons, insK, insK]
    split
    · rw [List.map_cons, ins_map f x l]
    · rfl
theorem srt_map {β : Type} (f : β → α) : ∀ l : List β, srtK k (l.map f) = (srtK (fun b => k (f b)) l).map f
  | [] => rfl
  | x :: l => by rw [List.map_cons, srtK, srtK, srt_map f l, ins_map]
/-- two lists of the same things that rise strictly are one -/
theorem rise_uniq : ∀ {l m : List α}, l.Pairwise (fun x y => ltSK (k x) (k y) = true) → m.Pairwise (fun x y => ltSK (k x) (k y) = true) → (∀ x, x ∈ l ↔ x ∈ m) → l = m
  | [], [], _, _, _ => rfl
  | [], y :: m, _, _, h => absurd ((h y).mpr (by simp)) (by simp)
  | x :: l, [], _, _, h => absurd ((h x).mp (by simp)) (by simp)
  | x :: l, y :: m, hl, hm, h => by
    have hl' := List.pairwise_cons.mp hl
    have hm' := List.pairwise_cons.mp hm
    have irr : ∀ z : α, ltSK (k z) (k z) = true → False := fun z q => by have := ltSK_asym q; rw [q] at this; cases this
    have e : x = y := by
      rcases List.mem_cons.mp ((h x).mp (by simp)) with e | q
      · exact e
      · rcases List.mem_cons.mp ((h y).mpr (by simp)) with e | q'
        · exact e.symm
        · exact (irr x (ltSK_trans (hl'.1 y q') (hm'.1 x q))).elim
    subst e
    refine congrArg (x :: ·) (rise_uniq hl'.2 hm'.2 fun z => ⟨fun q => ?_, fun q => ?_⟩)
    · rcases List.mem_cons.mp ((h z).mp (by simp [q])) with e | q'
      · exact (irr x (by have := hl'.1 z q; rw [e] at this; exact this)).elim
      · exact q'
    · rcases List.mem_cons.mp ((h z).mpr (by simp [q])) with e | q'
      · exact (irr x (by have := hm'.1 z q; rw [e] at this; exact this)).elim
      · exact q'
theorem srt_rise {l : List α} (h : l.Pairwise fun x y => k x ≠ k y) : (srtK k l).Pairwise (fun x y => ltSK (k x) (k y) = true) := by
  have p : (srtK k l).Pairwise fun x y => k x ≠ k y := ((srt_perm l).pairwise_iff (fun h e => h e.symm)).mpr h
  refine ((srt_srt l).and p).imp fun {a b} ⟨h1, h2⟩ => ?_
  cases q : ltSK (k a) (k b) with
  | true => rfl
  | false => exact absurd (ltSK_tri q h1) h2
end
/-! ### how the machine compares items -/
/-- the three kinds of items: tuples of ints; an int and a tuple of ints; a tuple of ints and anything -/
inductive Shp where
  | a | b | c
def Shp.fl : Shp → Bool
  | .a => true
  | .b => true
  | .c => false
def ItM (h : Heap) : Shp → Value → SK → Prop
  | .a, v, k => ∃ p its n ns, v = .ref p ∧ IsTup h p its ∧ IntsAre its.toList (n :: ns) ∧ k = (n :: ns, [])
  | .b, v, k => ∃ p i t b its ns, v = .ref p ∧ IsTup h p #[.int i t, .ref b] ∧ IsTup h b its ∧ IntsAre its.toList ns ∧ k = ([i], ns)
  | .c, v, k => ∃ p b y its ns, v = .ref p ∧ IsTup h p #[.ref b, y] ∧ IsTup h b its ∧ IntsAre its.toList ns ∧ k = (ns, [])
theorem tup_keep {h h' : Heap} {p : Addr} {its : Array Value} (x : IsTup h p its) (k : ∀ b o, h.get? b = some o → o.cls = .type "tuple" → h'.get? b = some o) : IsTup h' p its := by
  obtain ⟨o, e, c, n, d⟩ := x
  exact ⟨o, k _ _ e c, c, n, d⟩
theorem ItM.keeps {h h' : Heap} {sh : Shp} {v : Value} {k : SK} (x : ItM h sh v k) (kp : ∀ b o, h.get? b = some o → o.cls = .type "tuple" → h'.get? b = some o) : ItM h' sh v k := by
  cases sh with
  | a => obtain ⟨p, its, n, ns, e, x1, x2, x3⟩ := x; exact ⟨p, its, n, ns, e, tup_keep x1 kp, x2, x3⟩
  | b => obtain ⟨p, i, t, b, its, ns, e, x1, x2, x3, x4⟩ := x; exact ⟨p, i, t, b, its, ns, e, tup_keep x1 kp, tup_keep x2 kp, x3, x4⟩
  | c => obtain ⟨p, b, y, its, ns, e, x1, x2, x3, x4⟩ := x; exact ⟨p, b, y, its, ns, e, tup_keep x1 kp, tup_keep x2 kp, x3, x4⟩
section
variable {prog : Program} {w : World} {A : Around} {s : Shared}
/-- rows of ints, the shorter one less where it begins the other -/
def lxF (fin : Bool) : List Int → List Int → Bool
  | [], _ => fin
  | _ :: _, [] => fin
  | x :: xs, y :: ys => if x = y then lxF fin xs ys else decide (x < y)
theorem lxF_len : ∀ xs ys : List Int, lxF (decide (xs.length < ys.length)) xs ys = HT.lexLt xs ys
  | [], [] => rfl
  | [], _ :: _ => by rw [lxF]; exact decide_eq_true (by simp)
  | _ :: _, [] => by rw [lxF]; exact decide_eq_false (by simp)
  | x :: xs, y :: ys => by
    have e : decide ((x :: xs).length < (y :: ys).length) = decide (xs.length < ys.length) := by
      rw [List.length_cons, List.length_cons]
      by_cases z : xs.length < ys.length
      · rw [decide_eq_true z, decide_eq_true (by omega)]
      · rw [decide_eq_false z, decide_eq_false (by omega)]
    rw [e, lxF, HT.lexLt_cons, lxF_len xs ys]
theorem kat_ints {b fin : Bool} {Q : Bool → Shared → Prop} : ∀ {us vs : List Value} {ns ms : List Int} (i : Nat), IntsAre us ns → IntsAre vs ms → Q (lxF fin ns ms) s → PySem.W.KatLex prog w A b fin Q (us.zip vs) i s
  | _, _, _, _, _, .nil, _, h => PySem.W.kat_nil (by rw [lxF] at h; exact h)
  | _, _, _, _, _, .cons _ _ _, .nil, h => PySem.W.kat_nil (by rw [lxF] at h; exact h)
  | _, _, _, _, i, .cons x t r, .cons y u r', h => by
    rw [lxF] at h
    rw [List.zip_cons_cons]
    refine PySem.W.kat_cons (SeqAt.EqAt.int_int x t y u prog w _ _ ?_)
    by_cases z : x = y
    · have e : (x == y) = true := by simpa using z
      rw [e]
      rw [if_pos z] at h
      exact PySem.W.kat_yes (kat_ints (i + 1) r r' h)
    · have e : (x == y) = false := by simpa using z
      rw [e]
      rw [if_neg z] at h
      refine PySem.W.kat_no ?_
      cases (b && i == 0) with
      | true => exact oneLt_int h
      | false => exact PySem.W.kat_one _ _ (PyProof.Rows.lt_int h)
theorem int_is (x : Int) (t : Tok) : (intKind prog w).is x (.int x t) = true := by
  show Value.isInt x (.int x t) = true
  simp [Value.isInt]
theorem it_cmp {sh : Shp} (hu : A.units + 1 < cLine) {u v : Value} {k l : SK} (hx : ItM s.heap sh u k) (hy : ItM s.heap sh v l) (hc : sh = .c → k = l → u = v) : ∃ b : Bool, (b = sh.fl) ∧
    wpAny (model prog w) A (keyLt' (tuples' b) u v) (fun r s' => s' = s ∧ r = ltSK k l) (fun _ _ => False) s := by
  cases sh with
  | a =>
    refine ⟨true, rfl, ?_⟩
    obtain ⟨p, its, n, ns, rfl, ⟨o, ho, co, q, d⟩, i1, rfl⟩ := hx
    obtain ⟨p', its', n', ns', rfl, ⟨o', ho', co', q', d'⟩, i2, rfl⟩ := hy
    refine PySem.W.kat_lt ho d ho' d' (kat_ints 0 i1 i2 ⟨rfl, ?_⟩)
    have l1 := i1.length
    have l2 := i2.length
    rw [Array.length_toList] at l1 l2
    rw [l1, l2, lxF_len]
    unfold ltSK
    by_cases z : n :: ns = n' :: ns'
    · rw [if_pos z, z, lex_irr]; rfl
    · rw [if_neg z]
  | b =>
    refine ⟨true, rfl, ?_⟩
    obtain ⟨p, i, t, b, its, ns, rfl, ⟨o, ho, co, q, d⟩, hb, i1, rfl⟩ := hx
    obtain ⟨p', i', t', b', its', ns', rfl, ⟨o', ho', co', q', d'⟩, hb', i2, rfl⟩ := hy
    refine PySem.W.kat_lt ho d ho' d' ?_
    show PySem.W.KatLex prog w A true (decide (2 < 2)) _ [(.int i t, .int i' t'), (.ref b, .ref b')] 0 s
    refine PySem.W.kat_cons (SeqAt.EqAt.int_int i t i' t' prog w _ _ ?_)
    unfold ltSK
    by_cases z : i = i'
    · have e : (i == i') = true := by simpa using z
      rw [e]
      rw [if_pos (by rw [z])]
      refine PySem.W.kat_yes (PySem.W.kat_cons ?_)
      have k1 : IsTupleKey (intKind prog w) s.heap ns b := by
        obtain ⟨o, h1, h2, n, h3⟩ := hb
        refine ⟨o, its, n, h1, h2, h3, ?_⟩
        have gen : ∀ {us : List Value} {ms : List Int}, IntsAre us ms → ItemsAre (intKind prog w) ms us := fun {us ms} r => by
          induction r with
          | nil => exact .nil
          | cons x t _ ih => exact .cons (int_is x t) ih
        exact gen i1
      have k2 : IsTupleKey (intKind prog w) s.heap ns' b' := by
        obtain ⟨o, h1, h2, n, h3⟩ := hb'
        refine ⟨o, its', n, h1, h2, h3, ?_⟩
        have gen : ∀ {us : List Value} {ms : List Int}, IntsAre us ms → ItemsAre (intKind prog w) ms us := fun {us ms} r => by
          induction r with
          | nil => exact .nil
          | cons x t _ ih => exact .cons (int_is x t) ih
        exact gen i2
      refine wpAny_eqBool_tuple (by omega) k1 k2 ?_
      by_cases zz : ns = ns'
      · rw [decide_eq_true zz]
        refine PySem.W.kat_yes (PySem.W.kat_nil ⟨rfl, ?_⟩)
        rw [zz, lex_irr]
        rfl
      · rw [decide_eq_false zz]
        exact PySem.W.kat_no (PySem.W.kat_one _ _ (HT.lt_tupInts hb hb' i1 i2 (by omega) ⟨rfl, rfl⟩))
    · have e : (i == i') = false := by simpa using z
      rw [e, if_neg (fun q => z (by injection q)), HT.lexLt_cons, if_neg z]
      exact PySem.W.kat_no (oneLt_int ⟨rfl, rfl⟩)
  | c =>
    refine ⟨false, rfl, ?_⟩
    by_cases z : k = l
    · have e := hc rfl z
      subst e
      obtain ⟨p, b, y, its, ns, rfl, ⟨o, ho, co, q, d⟩, hb, i1, rfl⟩ := hx
      refine PySem.W.kat_lt ho d ho d ?_
      show PySem.W.KatLex prog w A false (decide (2 < 2)) _ [(.ref b, .ref b), (y, y)] 0 s
      refine PySem.W.kat_cons (SeqAt.EqAt.same _ prog w _ _ (PySem.W.kat_yes (PySem.W.kat_cons (SeqAt.EqAt.same _ prog w _ _ (PySem.W.kat_yes (PySem.W.kat_nil ⟨rfl, ?_⟩))))))
      rw [← z]
      unfold ltSK
      rw [if_pos rfl, lex_irr]
      rfl
    · obtain ⟨p, b, y, its, ns, rfl, ⟨o, ho, co, q, d⟩, hb, i1, rfl⟩ := hx
      obtain ⟨p', b', y', its', ns', rfl, ⟨o', ho', co', q', d'⟩, hb', i2, rfl⟩ := hy
      have ne : ns ≠ ns' := fun e => z (by rw [e])
      refine PySem.W.kat_lt ho d ho' d' ?_
      show PySem.W.KatLex prog w A false (decide (2 < 2)) _ [(.ref b, .ref b'), (y, y')] 0 s
      have k1 : IsTupleKey (intKind prog w) s.heap ns b := by
        obtain ⟨o, h1, h2, n, h3⟩ := hb
        refine ⟨o, its, n, h1, h2, h3, ?_⟩
        have gen : ∀ {us : List Value} {ms : List Int}, IntsAre us ms → ItemsAre (intKind prog w) ms us := fun {us ms} r => by
          induction r with
          | nil => exact .nil
          | cons x t _ ih => exact .cons (int_is x t) ih
        exact gen i1
      have k2 : IsTupleKey (intKind prog w) s.heap ns' b' := by
        obtain ⟨o, h1, h2, n, h3⟩ := hb'
        refine ⟨o, its', n, h1, h2, h3, ?_⟩
        have gen : ∀ {us : List Value} {ms : List Int}, IntsAre us ms → ItemsAre (intKind prog w) ms us := fun {us ms} r => by
          induction r with
          | nil => exact .nil
          | cons x t _ ih => exact .cons (int_is x t) ih
        exact gen i2
      refine PySem.W.kat_cons (wpAny_eqBool_tuple (by omega) k1 k2 ?_)
      rw [decide_eq_false ne]
      refine PySem.W.kat_no (PySem.W.kat_one _ _ (HT.lt_tupInts hb hb' i1 i2 (by omega) ⟨rfl, ?_⟩))
      unfold ltSK
      rw [if_neg ne]
theorem it_firsts {h : Heap} {sh : Shp} {k : Value → SK} : ∀ vs : List Value, (∀ v ∈ vs, ItM h sh v (k v)) → ∃ fs : List Value, PySem.W.KatTups h vs fs ∧ fs.length = vs.length ∧ ∀ f ∈ fs, match sh with | .c => ∃ q its, f = Value.ref q ∧ IsTup h q its | _ => ∃ x t, f = Value.int x t
  | [], _ => ⟨[], PySem.W.KatTups.nil, rfl, fun f hf => by cases hf⟩
  | v :: vs, hp => by
    obtain ⟨fs, h1, h2, h3⟩ := it_firsts vs fun v' hm => hp v' (List.mem_cons_of_mem _ hm)
    have hv := hp v (List.mem_cons_self ..)
    cases sh with
    | a =>
      obtain ⟨p, its, n, ns, rfl, ⟨o, ho, co, q, d⟩, i1, _⟩ := hv
      obtain ⟨t, r, hits⟩ : ∃ t r, its.toList = .int n t :: r := by
        generalize its.toList = l at i1
        cases i1 with
        | cons _ t r => exact ⟨t, _, rfl⟩
      have e0 : its[0]? = some (.int n t) := by
        rw [← Array.getElem?_toList, hits]; rfl
      refine ⟨.int n t :: fs, PySem.W.KatTups.cons ho co d e0 h1, by rw [List.length_cons, List.length_cons, h2], fun f hm => ?_⟩
      rcases List.mem_cons.mp hm with rfl | hm
      · exact ⟨n, t, rfl⟩
      · exact h3 f hm
    | b =>
      obtain ⟨p, i, t, b, its, ns, rfl, ⟨o, ho, co, q, d⟩, hb, i1, _⟩ := hv
      refine ⟨.int i t :: fs, PySem.W.KatTups.cons ho co d rfl h1, by rw [List.length_cons, List.length_cons, h2], fun f hm => ?_⟩
      rcases List.mem_cons.mp hm with rfl | hm
      · exact ⟨i, t, rfl⟩
      · exact h3 f hm
    | c =>
      obtain ⟨p, b, y, its, ns, rfl, ⟨o, ho, co, q, d⟩, hb, i1, _⟩ := hv
      refine ⟨.ref b :: fs, PySem.W.KatTups.cons ho co d rfl h1, by rw [List.length_cons, List.length_cons, h2], fun f hm => ?_⟩
      rcases List.mem_cons.mp hm with rfl | hm
      · exact ⟨b, its, rfl, hb⟩
      · exact h3 f hm
theorem it_sortable {a : Addr} {vs : List Value} {sh : Shp} {k : Value → SK} (hu : A.units + 1 < cLine) (h0 : 0 < vs.length) (hp : ∀ v ∈ vs, ItM s.heap sh v (k v)) (hc : sh = .c → ∀ u ∈ vs, ∀ v ∈ vs, k u = k v → u = v) (ha : ∀ o, s.heap.get? a = some o → o.cls ≠ .type "tuple") : SrtO.SortableO prog w A s a vs fun v u => ltSK (k v) (k u) := by
  intro h' keep
  have kp : ∀ b o, s.heap.get? b = some o → o.cls = .type "tuple" → h'.get? b = some o := fun b o e c => keep b o (fun z => ha o (z ▸ e) c) e
  have hp' : ∀ v ∈ vs, ItM h' sh v (k v) := fun v hm => (hp v hm).keeps kp
  obtain ⟨fs, h1, h2, h3⟩ := it_firsts vs hp'
  have cmp : ∀ b : Bool, (b = sh.fl) → SrtO.Cmp prog w A { s with heap := h' } (tuples' b) (fun p => p.1 ∈ vs) (SrtO.lt2 fun v u => ltSK (k v) (k u)) := fun b eb p q hm hm' => by
    obtain ⟨b', eb', r⟩ := it_cmp (prog := prog) (w := w) (A := A) (s := { s with heap := h' }) hu (hp' _ hm) (hp' _ hm') (fun e => hc e _ hm _ hm')
    have e : b = b' := eb.trans eb'.symm
    subst e
    exact r
  cases sh with
  | a =>
    refine ⟨tuples' true, fun Q E hq => PySem.W.kat_kind (T := .type "int") h1 (by omega) (fun f hm => ?_) (by rfl) ?_, cmp true rfl⟩
    · obtain ⟨x, t, rfl⟩ := h3 f hm
      exact PySem.W.Looks.now
    · have e : (Value.type "int" != Value.type "tuple") = true := by decide +kernel
      rw [e]; exact hq
  | b =>
    refine ⟨tuples' true, fun Q E hq => PySem.W.kat_kind (T := .type "int") h1 (by omega) (fun f hm => ?_) (by rfl) ?_, cmp true rfl⟩
    · obtain ⟨x, t, rfl⟩ := h3 f hm
      exact PySem.W.Looks.now
    · have e : (Value.type "int" != Value.type "tuple") = true := by decide +kernel
      rw [e]; exact hq
  | c =>
    refine ⟨tuples' false, fun Q E hq => PySem.W.kat_kind (T := .type "tuple") h1 (by omega) (fun f hm => ?_) (by rfl) ?_, cmp false rfl⟩
    · obtain ⟨q, its, rfl, o, ho, co, _⟩ := h3 f hm
      exact fun A Q E s k q => wpAny_typeOf (T := "tuple") ⟨o, k _ _ ho, co⟩ q
    · have e : (Value.type "tuple" != Value.type "tuple") = false := by decide +kernel
      rw [e]; exact hq
end
end ML

set_option maxRecDepth 100000
set_option maxHeartbeats 4000000
namespace ML
open PySem PySem.Spec PyProof.Rows L2 RZ
/-! ### sorted of a list or a dict of tuples -/
def ItV (K : PySem.W.Frag) (H : Hp) : Shp → V → SK → Prop
  | .a, x, k => ∃ t n ns, x = .ref t ∧ SqT K H t ((n :: ns).map V.int) ∧ k = (n :: ns, [])
  | .b, x, k => ∃ t i b ns, x = .ref t ∧ SqT K H t [.int i, .ref b] ∧ SqT K H b (ns.map V.int) ∧ k = ([i], ns)
  | .c, x, k => ∃ t b y ns, x = .ref t ∧ SqT K H t [.ref b, y] ∧ SqT K H b (ns.map V.int) ∧ k = (ns, [])
section
variable {X : Cx} {pins : List (Addr × Obj)} {σ : L2.St} {H : Hp} {s : Shared}
theorem itv_ref {K : PySem.W.Frag} {sh : Shp} {x : V} {k : SK} (h : ItV K H sh x k) : ∃ t, x = .ref t := by
  cases sh with
  | a => obtain ⟨t, _, _, e, _⟩ := h; exact ⟨t, e⟩
  | b => obtain ⟨t, _, _, _, e, _⟩ := h; exact ⟨t, e⟩
  | c => obtain ⟨t, _, _, _, e, _⟩ := h; exact ⟨t, e⟩
theorem itv_m (I : Inv X pins σ H s) {sh : Shp} {x : V} {u : Value} {k : SK} (h : ItV X.K H sh x k) (r : RelV x u) : ItM s.heap sh u k := by
  cases sh with
  | a =>
    obtain ⟨t, n, ns, rfl, h1, rfl⟩ := h
    cases r
    obtain ⟨its, rv, ht, hz⟩ := I.tuple h1
    exact ⟨t, its.toArray, n, ns, rfl, ht, intsAre_of rv, rfl⟩
  | b =>
    obtain ⟨t, i, b, ns, rfl, h1, h2, rfl⟩ := h
    cases r
    obtain ⟨its, rv, ht, hz⟩ := I.tuple h1
    obtain ⟨u1, u2, rfl, ⟨tk, r1⟩, r2⟩ := vals2 rv
    cases r1
    cases r2
    obtain ⟨its2, rv2, ht2, hz2⟩ := I.tuple h2
    exact ⟨t, i, _, b, its2.toArray, ns, rfl, ht, ht2, intsAre_of rv2, rfl⟩
  | c =>
    obtain ⟨t, b, y, ns, rfl, h1, h2, rfl⟩ := h
    cases r
    obtain ⟨its, rv, ht, hz⟩ := I.tuple h1
    obtain ⟨u1, u2, rfl, r1, r2⟩ := vals2 rv
    cases r1
    obtain ⟨its2, rv2, ht2, hz2⟩ := I.tuple h2
    exact ⟨t, b, u2, its2.toArray, ns, rfl, ht, ht2, intsAre_of rv2, rfl⟩
/-- sorted(xs), the items all of one kind: a new list, k tells by what they are sorted -/
def rSortK (K : PySem.W.Frag) : List V → Hp → VK → Prop := fun vs H Q => ∃ (a : Addr) (xs : List V) (k : V → SK) (sh : Shp), vs = [.ref a] ∧ SqL K H a xs ∧ (∀ x ∈ xs, ItV K H sh x (k x)) ∧ (sh = .c → ∀ x ∈ xs, ∀ y ∈ xs, k x = k y → x = y) ∧
  ∀ p, H p = none → Q (.ref p) (upd H p (.lst (srtK k xs)))
theorem cr_sortK (hu : X.A.units + 64 < cLine) : CallR X (.builtin "sorted") (rSortK X.K) := by
  intro pins s σ H vs us Q I r h
  obtain ⟨a, xs, k, sh, rfl, hs, hx, hc, q⟩ := h
  obtain ⟨its, rv, hl, hz⟩ := I.list hs
  obtain ⟨u, rfl, ru⟩ := vals1 r
  cases ru
  obtain ⟨e1, e2⟩ := refs_back rv fun x m => itv_ref (hx x m)
  have hm : ∀ v ∈ its, ItM s.heap sh v (k (backV v)) := fun v hv => by
    obtain ⟨t, rfl⟩ := e2 v hv
    exact itv_m I (hx (.ref t) (by rw [e1]; exact List.mem_map.mpr ⟨_, hv, rfl⟩)) rfl
  have hcc : sh = .c → ∀ u ∈ its, ∀ v ∈ its, k (backV u) = k (backV v) → u = v := fun z u mu v mv e => by
    obtain ⟨t, rfl⟩ := e2 u mu
    obtain ⟨t', rfl⟩ := e2 v mv
    have := hc z (.ref t) (by rw [e1]; exact List.mem_map.mpr ⟨_, mu, rfl⟩) (.ref t') (by rw [e1]; exact List.mem_map.mpr ⟨_, mv, rfl⟩) e
    cases this
    rfl
  refine SrtO.sorted_ord (swoSK fun v => k (backV v)) hl.isList (by rw [← rv.length]; exact hz) (fun h2 h₁ p hp kk => ?_) fun out h1 h2 => ?_
  · refine it_sortable (s := { s with heap := h₁ }) (A := X.A.in1.in1) (k := fun v => k (backV v)) (by show X.A.units + 1 + 1 + 1 < cLine; omega) (by omega) (fun v mv => (hm v mv).keeps fun b o e _ => (kk b o e).2) hcc fun o e => ?_
    have e' : some o = some (seqObj "list" its.toArray 0) := e.symm.trans hp
    cases e'
    intro c
    exact absurd (Value.type.inj c) (by decide)
  · have h3 : ∀ u ∈ out, ∃ a, u = Value.ref a := fun u hu => e2 u (h2.perm.mem_iff.mp hu)
    obtain ⟨n, hn⟩ := sortedAll_at s.heap its out.toArray
    have hout : out.map backV = srtK k xs := by
      rw [e1, srt_map, ← srt_only h1 h2]
    have len : (out.map backV).length ≤ sizeLine := by
      rw [List.length_map, h2.perm.length_eq, ← rv.length]; exact hz
    have new : ObjOk X.prog X.w (upd H (s.heap.objs.size + 1) (.lst (out.map backV))) (sortedAll s.heap its out.toArray) (s.heap.objs.size + 1) (.lst (out.map backV)) := ⟨len, out, n, vals_back h3, hn⟩
    refine ⟨.ref (s.heap.objs.size + 1), upd H (s.heap.objs.size + 1) (.lst (out.map backV)), I.laid (t' := s.toks) (fun _ _ => PyProof.Rows.sortedAll_old) (Nat.le_succ _) new, rfl, ?_⟩
    rw [hout]
    exact q _ (I.hok.fresh (Nat.le_succ _))
end
/-! what is sorted, as data -/
def keyA : PyData → Option SK
  | .tuple ds => match intsOf ds with | some (n :: ns) => some (n :: ns, []) | _ => none
  | _ => none
def keyB : PyData → Option SK
  | .tuple [.int i, .tuple ys] => (intsOf ys).map fun ns => ([i], ns)
  | _ => none
def keyC : PyData → Option SK
  | .tuple [.tuple ys, _] => (intsOf ys).map fun ns => (ns, [])
  | _ => none
def keyS : Shp → PyData → Option SK
  | .a => keyA
  | .b => keyB
  | .c => keyC
def keyG (sh : Shp) (d : PyData) : SK := (keyS sh d).getD ([], [])
theorem keyG_of {sh : Shp} {d : PyData} {k : SK} (h : keyS sh d = some k) : keyG sh d = k := by unfold keyG; rw [h]; rfl
variable [KF]
theorem keyB_some {d : PyData} {k : SK} (h : keyB d = some k) : ∃ i ns, d = .tuple [.int i, .tuple (ns.map .int)] ∧ k = ([i], ns) := by
  unfold keyB at h
  split at h
  · rename_i i ys
    obtain ⟨ns, q, e2⟩ := map2 h
    cases e2
    exact ⟨i, ns, by rw [intsOf_some q], rfl⟩
  · cases h
theorem keyC_some {d : PyData} {k : SK} (h : keyC d = some k) : ∃ y ns, d = .tuple [.tuple (ns.map .int), y] ∧ k = (ns, []) := by
  unfold keyC at h
  split at h
  · rename_i ys y
    obtain ⟨ns, q, e2⟩ := map2 h
    cases e2
    exact ⟨y, ns, by rw [intsOf_some q], rfl⟩
  · cases h
theorem it_dq {K : PySem.W.Frag} {G H : Hp} {sh : Shp} {x : V} {d : PyData} {k : SK} (e : Same G H) (h : Dq G x d) (hk : keyS sh d = some k) : ItV K H sh x k := by
  cases sh with
  | a =>
    cases d <;> first | (cases hk; done) | skip
    rename_i ds
    change (match intsOf ds with | some (n :: ns) => some ((n :: ns, []) : SK) | _ => none) = some k at hk
    cases q : intsOf ds with
    | none => rw [q] at hk; cases hk
    | some l =>
      cases l with
      | nil => rw [q] at hk; cases hk
      | cons n ns =>
        rw [q] at hk
        cases hk
        rw [intsOf_some q] at h
        cases h with
        | tup h1 h0 h2 =>
          cases dqa_ints h2
          exact ⟨_, n, ns, rfl, .inl (.inr ⟨_, e _ _ h1⟩), rfl⟩
  | b =>
    obtain ⟨i, ns, rfl, rfl⟩ := keyB_some hk
    cases h with
    | tup h1 h0 h2 =>
      cases h2 with
      | cons r1 t1 =>
        cases t1 with
        | cons r2 t2 =>
          cases t2
          cases r1
          cases r2 with
          | tup g1 g0 g2 =>
            cases dqa_ints g2
            exact ⟨_, i, _, ns, rfl, .inl (.inr ⟨_, e _ _ h1⟩), .inl (.inr ⟨_, e _ _ g1⟩), rfl⟩
  | c =>
    obtain ⟨y, ns, rfl, rfl⟩ := keyC_some hk
    cases h with
    | tup h1 h0 h2 =>
      cases h2 with
      | cons r1 t1 =>
        cases t1 with
        | cons r2 t2 =>
          cases t2
          cases r1 with
          | tup g1 g0 g2 =>
            cases dqa_ints g2
            exact ⟨_, _, _, ns, rfl, .inl (.inr ⟨_, e _ _ h1⟩), .inl (.inr ⟨_, e _ _ g1⟩), rfl⟩
/-- what a thing is sorted by hangs on it alone -/
theorem int_back {ns ms : List Int} (h : ns.map V.int = ms.map V.int) : ns = ms := by
  have inj : Function.Injective V.int := fun a b e => by injection e
  exact (List.map_inj_right (fun a b e => inj e)).mp h
theorem frz_inj {G : Hp} {t : Addr} {o o' : Obj} {xs ys : List V} (h : G t = some (.frz o (.tup xs))) (h' : G t = some (.frz o' (.tup ys))) : xs = ys := by
  rw [h] at h'
  cases h'
  rfl
theorem itv_fun {G : Hp} {sh : Shp} {x : V} {d d' : PyData} {k k' : SK} (h : Dq G x d) (h' : Dq G x d') (hk : keyS sh d = some k) (hk' : keyS sh d' = some k') : k = k' := by
  have ntsE : ∀ {t : Addr} {ns ms : List Int}, Dq G (.ref t) (.tuple (ns.map .int)) → Dq G (.ref t) (.tuple (ms.map .int)) → ns = ms := fun {t ns ms} a b => by
    cases a with
    | tup a1 a0 a2 =>
      cases b with
      | tup b1 b0 b2 =>
        cases frz_inj a1 b1
        exact int_back ((dqa_ints a2).symm.trans (dqa_ints b2))
  cases sh with
  | a =>
    cases d <;> first | (cases hk; done) | skip
    cases d' <;> first | (cases hk'; done) | skip
    rename_i ds ds'
    change (match intsOf ds with | some (n :: ns) => some ((n :: ns, []) : SK) | _ => none) = some k at hk
    change (match intsOf ds' with | some (n :: ns) => some ((n :: ns, []) : SK) | _ => none) = some k' at hk'
    cases q : intsOf ds with
    | none => rw [q] at hk; cases hk
    | some l =>
      cases q' : intsOf ds' with
      | none => rw [q'] at hk'; cases hk'
      | some l' =>
        rw [intsOf_some q] at h
        rw [intsOf_some q'] at h'
        rw [q] at hk
        rw [q'] at hk'
        have e : l = l' := by
          cases h with
          | tup a1 a0 a2 => exact ntsE (.tup a1 a0 a2) h'
        subst e
        cases l with
        | nil => cases hk
        | cons n ns => cases hk; cases hk'; rfl
  | b =>
    obtain ⟨i, ns, rfl, rfl⟩ := keyB_some hk
    obtain ⟨i', ns', rfl, rfl⟩ := keyB_some hk'
    cases h with
    | tup a1 a0 a2 =>
      cases h' with
      | tup b1 b0 b2 =>
        cases frz_inj a1 b1
        cases a2 with
        | cons r1 t1 =>
          cases b2 with
          | cons w1 u1 =>
            cases t1 with
            | cons r2 t2 =>
              cases u1 with
              | cons w2 u2 =>
                cases r1
                cases w1
                cases r2 with
                | tup g1 g0 g2 => rw [ntsE (.tup g1 g0 g2) w2]
  | c =>
    obtain ⟨y, ns, rfl, rfl⟩ := keyC_some hk
    obtain ⟨y', ns', rfl, rfl⟩ := keyC_some hk'
    cases h with
    | tup a1 a0 a2 =>
      cases h' with
      | tup b1 b0 b2 =>
        cases frz_inj a1 b1
        cases a2 with
        | cons r1 t1 =>
          cases b2 with
          | cons w1 u1 =>
            cases r1 with
            | tup g1 g0 g2 => rw [ntsE (.tup g1 g0 g2) w1]
theorem ins_congr {α : Type} {k k' : α → SK} (x : α) : ∀ l : List α, (∀ y ∈ x :: l, k y = k' y) → insK k x l = insK k' x l
  | [], _ => rfl
  | y :: l, h => by
    rw [insK, insK, h y (by simp), h x (by simp), ins_congr x l fun z hz => h z (by rcases List.mem_cons.mp hz with e | hz <;> simp [*])]
theorem srt_congr {α : Type} {k k' : α → SK} : ∀ l : List α, (∀ y ∈ l, k y = k' y) → srtK k l = srtK k' l
  | [], _ => rfl
  | x :: l, h => by
    rw [srtK, srtK, srt_congr l fun y hy => h y (by simp [hy])]
    refine ins_congr x _ fun y hy => ?_
    rcases List.mem_cons.mp hy with e | hy
    · exact h y (by simp [e])
    · exact h y (by simp [(srt_perm l).mem_iff.mp hy])
theorem dqa_zip {G : Hp} : ∀ {vs : List V} {ds : List PyData}, DqAll G vs ds → ∀ p ∈ vs.zip ds, Dq G p.1 p.2
  | _, _, .nil, p, h => by cases h
  | _, _, .cons r t, p, h => by
    rw [List.zip_cons_cons] at h
    rcases List.mem_cons.mp h with e | h
    · rw [e]; exact r
    · exact dqa_zip t p h
theorem dqa_of_zip {G : Hp} : ∀ l : List (V × PyData), (∀ p ∈ l, Dq G p.1 p.2) → DqAll G (l.map (·.1)) (l.map (·.2))
  | [], _ => .nil
  | p :: l, h => .cons (h p (by simp)) (dqa_of_zip l fun q hq => h q (by simp [hq]))
/-- the items' keys, chosen -/
noncomputable def kV (G : Hp) (sh : Shp) (x : V) : SK := by
  classical
  exact if h : ∃ d k, Dq G x d ∧ keyS sh d = some k then h.choose_spec.choose else ([], [])
theorem kV_of {G : Hp} {sh : Shp} {x : V} {d : PyData} {k : SK} (h : Dq G x d) (hk : keyS sh d = some k) : kV G sh x = k := by
  unfold kV
  have ex : ∃ d k, Dq G x d ∧ keyS sh d = some k := ⟨d, k, h, hk⟩
  rw [dif_pos ex]
  exact itv_fun ex.choose_spec.choose_spec.1 h ex.choose_spec.choose_spec.2 hk
theorem srt_dq {G : Hp} {sh : Shp} {vs : List V} {ds : List PyData} (h : DqAll G vs ds) (hk : ∀ d ∈ ds, ∃ k, keyS sh d = some k) : DqAll G (srtK (kV G sh) vs) (srtK (keyG sh) ds) := by
  have hl := dqa_len h
  have e1 : vs = (vs.zip ds).map (·.1) := (List.map_fst_zip (by omega)).symm
  have e2 : ds = (vs.zip ds).map (·.2) := (List.map_snd_zip (by omega)).symm
  have hz := dqa_zip h
  have c : srtK (fun p : V × PyData => kV G sh p.1) (vs.zip ds) = srtK (fun p : V × PyData => keyG sh p.2) (vs.zip ds) := srt_congr _ fun p hp => by
    have m : p.2 ∈ ds := by rw [e2]; exact List.mem_map.mpr ⟨p, hp, rfl⟩
    obtain ⟨k, hk⟩ := hk _ m
    rw [kV_of (hz p hp) hk, keyG_of hk]
  have a : srtK (kV G sh) vs = (srtK (fun p : V × PyData => keyG sh p.2) (vs.zip ds)).map (·.1) := by
    rw [← c]
    conv => lhs; rw [e1]
    exact srt_map _ _
  have b : srtK (keyG sh) ds = (srtK (fun p : V × PyData => keyG sh p.2) (vs.zip ds)).map (·.2) := by
    conv => lhs; rw [e2]
    exact srt_map _ _
  rw [a, b]
  exact dqa_of_zip _ fun p hp => hz p ((srt_perm _).mem_iff.mp hp)
def shOf (ds : List PyData) : Option Shp :=
  if ds.all (fun d => (keyA d).isSome) = true then some .a
  else if ds.all (fun d => (keyB d).isSome) = true then some .b
  else if ds.all (fun d => (keyC d).isSome) = true ∧ (ds.map (keyG .c)).Nodup then some .c
  else none
theorem shOf_keys {ds : List PyData} {sh : Shp} (h : shOf ds = some sh) : (∀ d ∈ ds, ∃ k, keyS sh d = some k) ∧ (sh = .c → (ds.map (keyG .c)).Nodup) := by
  unfold shOf at h
  split at h
  · rename_i q
    cases h
    exact ⟨fun d hd => Option.isSome_iff_exists.mp (List.all_eq_true.mp q d hd), fun e => nomatch e⟩
  · split at h
    · rename_i q
      cases h
      exact ⟨fun d hd => Option.isSome_iff_exists.mp (List.all_eq_true.mp q d hd), fun e => nomatch e⟩
    · split at h
      · rename_i q
        cases h
        exact ⟨fun d hd => Option.isSome_iff_exists.mp (List.all_eq_true.mp q.1 d hd), fun _ => q.2⟩
      · cases h
def dSortL (ds : List PyData) : Option MV := (shOf ds).map fun sh => .fre (srtK (keyG sh) ds)
def dSortK : PyData → Option MV
  | .list ds => dSortL ds
  | _ => none
theorem nodup_key {α β : Type} {f : α → β} : ∀ {l : List α} {i j : Nat} (hi : i < l.length) (hj : j < l.length), (l.map f).Nodup → f l[i] = f l[j] → i = j := fun {l i j} hi hj hn e => by
  have := (List.getElem_inj (xs := l.map f) (i := i) (j := j) (h₀ := by rw [List.length_map]; exact hi) (h₁ := by rw [List.length_map]; exact hj) hn).mp (by rw [List.getElem_map, List.getElem_map]; exact e)
  exact this
theorem dqa_mem {G : Hp} {vs : List V} {ds : List PyData} (h : DqAll G vs ds) {x : V} (hx : x ∈ vs) : ∃ i, ∃ (h1 : i < vs.length) (h2 : i < ds.length), vs[i] = x ∧ Dq G x ds[i] := by
  obtain ⟨i, h1, e⟩ := List.getElem_of_mem hx
  obtain ⟨d, e2, r⟩ := dqa_get' h (i := i) (v := x) (by rw [List.getElem?_eq_getElem h1, e])
  obtain ⟨h2, e3⟩ := List.getElem?_eq_some_iff.mp e2
  exact ⟨i, h1, h2, e, by rw [e3]; exact r⟩
section
variable {X : Cx} {A : Act}
theorem sortL_ok {G H : Hp} {vs : List V} {ds : List PyData} {z : MV} (e : Same G H) (h : DqAll G vs ds) (hz : dSortL ds = some z) : ∃ (k : V → SK) (sh : Shp), (∀ x ∈ vs, ItV X.K H sh x (k x)) ∧ (sh = .c → ∀ x ∈ vs, ∀ y ∈ vs, k x = k y → x = y) ∧ ∃ es, z = .fre es ∧ DqAll G (srtK k vs) es := by
  obtain ⟨sh, e1, e2⟩ := map2 hz
  cases e2
  obtain ⟨k1, k2⟩ := shOf_keys e1
  refine ⟨kV G sh, sh, fun x hx => ?_, fun ec x hx y hy ek => ?_, _, rfl, srt_dq h k1⟩
  · obtain ⟨i, h1, h2, ei, r⟩ := dqa_mem h hx
    obtain ⟨k, hk⟩ := k1 _ (List.getElem_mem h2)
    rw [kV_of r hk]
    exact it_dq e r hk
  · subst ec
    obtain ⟨i, h1, h2, ei, r⟩ := dqa_mem h hx
    obtain ⟨j, g1, g2, ej, r'⟩ := dqa_mem h hy
    obtain ⟨k, hk⟩ := k1 _ (List.getElem_mem h2)
    obtain ⟨k', hk'⟩ := k1 _ (List.getElem_mem g2)
    rw [kV_of r hk, kV_of r' hk'] at ek
    have := nodup_key h2 g2 (k2 rfl) (by rw [keyG_of hk, keyG_of hk', ek])
    subst this
    rw [← ei, ← ej]
theorem ok_sortK (hu : X.A.units + 64 < cLine) : CallOk X (.builtin "sorted") (c1 dSortK) := ok_c1 (cr_sortK hu) fun G H x a z Q e hx hz k => by
  cases a <;> first | (cases hz; done) | skip
  obtain ⟨p, vs, rfl, h1, h2⟩ := hx.l e
  obtain ⟨kk, sh, a1, a2, es, rfl, a3⟩ := sortL_ok (X := X) e h2 hz
  exact ⟨p, vs, kk, sh, rfl, .inl h1, a1, a2, fun t ht => k _ _ _ (.free e ht) (res_fre e ht a3)⟩
end
end ML

set_option maxRecDepth 100000
set_option maxHeartbeats 4000000
namespace ML
open PySem PySem.Spec PyProof.Rows L2 RZ
section
variable {prog : Program} {w : World} {A : Around} {E : Value → Shared → Prop} {s : Shared}
/-- what is gone through, as a list -/
theorem gone_through {T : String} {r d : Addr} {n : Nat} {P : Nat → Value → Prop} {OK : Heap → Prop} (S : PySem.W.KdlSrc prog w T r d n P OK) {R : List Value → Shared → Prop} (hh : A.handled = none) (hok : OK s.heap) (hn : n ≤ sizeLine)
    (h : ∀ (h1 : Heap) (tk : Nat) (acc : Array Value), (∀ b o, s.heap.get? b = some o → h1.get? b = some o) → s.heap.objs.size < h1.objs.size → ItemsOf P acc n → R acc.toList { s with heap := h1, toks := tk }) :
    wpAny (model prog w) A (collect (.ref r)) R E s := by
  have there := S.there _ hok
  have okP : OK (s.heap.push { cls := .type "list", data := .seq ([] : List Value).toArray }) := S.keep _ _ hok fun b _ o e => Heap.get?_push_of_some _ e
  unfold collect
  refine wpAny_bind (wpAny_runValue (codeAny_builtin entry_proto_collect' ?_))
  rw [Around.under_plainId PySem.F.plain_proto_collect _]
  refine wpAny_bind (m := newList []) (wpAny_newObj_type ?_)
  refine wpAny_pure ⟨plainId_quiet PySem.F.plain_list_iadd _, codeAny_builtin entry_list_iadd' ?_⟩
  rw [Around.under_plainId PySem.F.plain_list_iadd _]
  have hL : (s.heap.push { cls := .type "list", data := .seq ([] : List Value).toArray }).get? s.heap.objs.size = some { cls := .type "list", data := .seq #[] } := Heap.get?_push_size _ rfl
  refine wpAny_mono (PySem.W.kdl_extend (s := { s with heap := s.heap.push { cls := .type "list", data := .seq ([] : List Value).toArray } })
    (R := fun q s1 => q = .ok (.ret (.ref s.heap.objs.size)) ∧ ∃ (h1 : Heap) (tk : Nat) (acc : Array Value) (c : Nat), s1 = { s with heap := h1, toks := tk } ∧ (∀ b o, s.heap.get? b = some o → h1.get? b = some o) ∧ h1.get? s.heap.objs.size = some { cls := .type "list", dict := none, data := .seq acc c, slots := #[] } ∧ ItemsOf P acc n)
    S hh okP s.heap.objs.size (Nat.ne_of_gt there.1) (Nat.ne_of_gt there.2) (.ref s.heap.objs.size) 0 hL
    (fun h1 tk acc c kp hS it => ⟨rfl, h1, tk, acc, c, rfl, fun b o e => kp b o (Nat.ne_of_lt (Heap.lt_size e)) (Heap.get?_push_of_some _ e), hS, it⟩) hn) (fun fin s1 x => ?_) fun e s1 x => ?_
  · have go : ∀ (f : Flow) (s1 : Shared), (Except.ok f : Result) = .ok (.ret (.ref s.heap.objs.size)) ∧ (∃ (h1 : Heap) (tk : Nat) (acc : Array Value) (c : Nat), s1 = { s with heap := h1, toks := tk } ∧ (∀ b o, s.heap.get? b = some o → h1.get? b = some o) ∧ h1.get? s.heap.objs.size = some { cls := .type "list", dict := none, data := .seq acc c, slots := #[] } ∧ ItemsOf P acc n) →
        wpAny (model prog w) A (do
          let o ← load s.heap.objs.size
          match o.data with
          | .seq xs _ => pure xs.toList
          | _ => unsupported "internal:collect") R E s1 := fun f s1 ⟨_, h1, tk, acc, c, es, kp, hS, it⟩ => by
      subst es
      refine wpAny_bind (wpAny_load hS ?_)
      exact wpAny_pure (h h1 tk acc kp (Heap.lt_size hS) it)
    cases fin with
    | done f =>
      have e := x.1
      cases e
      exact go _ _ x
    | again c1 =>
      refine ⟨x.1, codeAny_mono x.2 fun q s2 y => ?_⟩
      have e := y.1
      subst e
      exact go _ _ ⟨rfl, y.2⟩
  · cases x.1
/-- sorted of what is gone through -/
theorem sorted_through {T : String} {r d : Addr} {n : Nat} {P : Nat → Value → Prop} {OK : Heap → Prop} (S : PySem.W.KdlSrc prog w T r d n P OK) {Q : Value → Shared → Prop} {ltv : Value → Value → Bool} {its : List Value} (O : SrtO.Swo ltv) (hh : A.handled = none) (hok : OK s.heap) (hn : n ≤ sizeLine)
    (hP : ∀ acc : Array Value, ItemsOf P acc n → acc.toList = its)
    (hS : 2 ≤ its.length → ∀ (h₁ : Heap) (tk : Nat) (a : Addr), h₁.get? a = some (seqObj "list" its.toArray 0) → (∀ b o, s.heap.get? b = some o → b ≠ a ∧ h₁.get? b = some o) → SrtO.SortableO prog w A.in1.in1 { s with heap := h₁, toks := tk } a its ltv)
    (h : ∀ (out : List Value) (h1 : Heap) (tk : Nat) (p : Addr), SrtO.Srtd ltv out → SrtO.Stb ltv out its → (∀ b o, s.heap.get? b = some o → h1.get? b = some o) → s.heap.objs.size ≤ p → (∃ c, h1.get? p = some (seqObj "list" out.toArray c)) → Q (.ref p) { s with heap := h1, toks := tk }) :
    wpAny (model prog w) A (call (.builtin "sorted") [.ref r]) Q E s := by
  refine Calls.call_function_entry kind_sorted plain_sorted entry_sorted (args_sorted1 _) ?_
  unfold Builtin.«sorted»
  refine wpAny_bind (m := checkCount "sorted" 1 1 _) (wpAny_pure ?_)
  refine wpAny_bind (gone_through (A := A.in1) S hh hok hn fun h1 tk acc kp lt it => ?_)
  have ei := hP acc it
  rw [ei]
  have hz : its.length ≤ sizeLine := by rw [← ei, Array.length_toList, it.1]; exact hn
  refine wpAny_bind (wpAny_newList ?_ hz)
  have ho : (h1.push (seqObj "list" its.toArray 0)).get? h1.objs.size = some (seqObj "list" its.toArray 0) := Heap.get?_push_size _ rfl
  have keep : ∀ b o, s.heap.get? b = some o → b ≠ h1.objs.size ∧ (h1.push (seqObj "list" its.toArray 0)).get? b = some o := fun b o e => ⟨Nat.ne_of_lt (Heap.lt_size (kp b o e)), Heap.get?_push_of_some _ (kp b o e)⟩
  refine wpAny_bind (wpAny_holding (wpAny_call_entry slot_list_sort ⟨_, ho, rfl⟩ entry_list_sort (SrtO.list_sort_ord O ho hz (fun h2 => hS h2 _ _ _ ho keep) fun out hs hb => ⟨_, rfl, ?_⟩) (args_list_sort _)))
  refine wpAny_pure ⟨_, rfl, h out _ _ _ hs hb (fun b o e => ?_) (Nat.le_of_lt lt) (sortedHeap_at ho)⟩
  obtain ⟨ne, g⟩ := keep b o e
  rw [sortedHeap_old ne (Heap.lt_size g)]
  exact g
end
section
variable {X : Cx} {pins : List (Addr × Obj)} {σ : L2.St} {H : Hp} {s : Shared}
/-- sorted(d) of a dict whose keys are tuples of ints -/
def rSortD (K : PySem.W.Frag) : List V → Hp → VK → Prop := fun vs H Q => ∃ (a : Addr) (kvs : List (List Int × Addr × V)) (k : V → SK) (sh : Shp), vs = [.ref a] ∧ HasD H a kvs ∧ KeysT H kvs ∧ (∀ x ∈ kvs.map (fun q => V.ref q.2.1), ItV K H sh x (k x)) ∧
  (sh = .c → ∀ x ∈ kvs.map (fun q => V.ref q.2.1), ∀ y ∈ kvs.map (fun q => V.ref q.2.1), k x = k y → x = y) ∧ ∀ p, H p = none → Q (.ref p) (upd H p (.lst (srtK k (kvs.map fun q => .ref q.2.1))))
theorem cr_sortD (hc : X.calm = true) (hu : X.A.units + 64 < cLine) : CallR X (.builtin "sorted") (rSortD X.K) := by
  intro pins s σ H vs us Q I r h
  obtain ⟨a, kvs, k, sh, rfl, hd, hk, hx, hcc, q⟩ := h
  obtain ⟨u, rfl, ru⟩ := vals1 r
  cases ru
  obtain ⟨lo, z, ys, rel, dd⟩ := di_of I hd hk
  obtain ⟨es, ep, raw, hs, at1⟩ := dd.raw
  have hl : es.size = kvs.length := by rw [hs, ← Paired.length rel]
  have same : ∀ {l : List (List Int × Addr × V)} {m : List (List Int × Addr × Value)} (q : RelT l m) (i : Nat) (h1 : i < l.length) (h2 : i < m.length), l[i].2.1 = m[i].2.1 := by
    intro l m q
    induction q with
    | nil => intro i h1 _; cases h1
    | @cons p q ps qs hh t ih =>
      intro i h1 h2
      cases i with
      | zero => exact hh.2.1
      | succ i => exact ih i (by simpa using h1) (by simpa using h2)
  have hm : ∀ v ∈ kvs.map (fun q => Value.ref q.2.1), ItM s.heap sh v (k (backV v)) := fun v hv => by
    obtain ⟨q, hq, rfl⟩ := List.mem_map.mp hv
    exact itv_m I (hx (.ref q.2.1) (List.mem_map.mpr ⟨q, hq, rfl⟩)) rfl
  refine sorted_through (its := kvs.map fun q => Value.ref q.2.1) (PySem.KdlSrc.rawDict (prog := X.prog) (w := X.w) (es := es) (ep := ep) lo) (swoSK fun v => k (backV v)) (I.ok.hd hc) raw (by rw [hl]; exact z) (fun acc hacc => ?_) (fun h2 h₁ tk p hp kk => ?_) fun out h1 tk p o1 o2 kp hp hn => ?_
  · have len : acc.toList.length = kvs.length := by rw [Array.length_toList, hacc.1, hl]
    refine List.ext_getElem (by rw [List.length_map, len]) fun j h2 h1 => ?_
    rw [List.length_map] at h1
    obtain ⟨hi, e1⟩ := hacc.2 j acc.toList[j] (by rw [← Array.getElem?_toList, List.getElem?_eq_getElem h2])
    obtain ⟨y, y1, y2, _, _⟩ := at1 j hi
    have hy : j < ys.length := by rw [← Paired.length rel]; exact h1
    have ey : y = ys[j] := by rw [List.getElem?_eq_getElem hy] at y1; exact (Option.some.inj y1).symm
    rw [List.getElem_map, e1, y2, ey, same rel j h1 hy]
  · refine it_sortable (s := { s with heap := h₁, toks := tk }) (A := X.A.in1.in1) (k := fun v => k (backV v)) (by show X.A.units + 1 + 1 + 1 < cLine; omega) (by omega) (fun v mv => (hm v mv).keeps fun b o e _ => (kk b o e).2) (fun z u mu v mv e => ?_) fun o e => ?_
    · obtain ⟨q1, hq1, rfl⟩ := List.mem_map.mp mu
      obtain ⟨q2, hq2, rfl⟩ := List.mem_map.mp mv
      have := hcc z (.ref q1.2.1) (List.mem_map.mpr ⟨q1, hq1, rfl⟩) (.ref q2.2.1) (List.mem_map.mpr ⟨q2, hq2, rfl⟩) e
      injection this with this
      rw [this]
    · have e' : some o = some (seqObj "list" (kvs.map fun q => Value.ref q.2.1).toArray 0) := e.symm.trans hp
      cases e'
      intro c
      exact absurd (Value.type.inj c) (by decide)
  · have h3 : ∀ u ∈ out, ∃ a, u = Value.ref a := fun u hu => by
      obtain ⟨q, _, e⟩ := List.mem_map.mp (o2.perm.mem_iff.mp hu)
      exact ⟨_, e.symm⟩
    obtain ⟨n, hn⟩ := hn
    have eb : (kvs.map fun q => V.ref q.2.1) = (kvs.map fun q => Value.ref q.2.1).map backV := by rw [List.map_map]; rfl
    have hout : out.map backV = srtK k (kvs.map fun q => V.ref q.2.1) := by
      rw [eb, srt_map, ← srt_only o1 o2]
    have len : (out.map backV).length ≤ sizeLine := by
      rw [List.length_map, o2.perm.length_eq, List.length_map]; exact z
    have new : ObjOk X.prog X.w (upd H p (.lst (out.map backV))) h1 p (.lst (out.map backV)) := ⟨len, out, n, vals_back h3, hn⟩
    refine ⟨.ref p, upd H p (.lst (out.map backV)), I.laid (t' := tk) kp hp new, rfl, ?_⟩
    rw [hout]
    exact q _ (I.hok.fresh hp)
end
variable [KF]
section
variable {X : Cx} {A : Act}
def dSortD : PyData → Option MV
  | .dict es => (keysI es).bind fun _ => dSortL (es.map (·.1))
  | _ => none
theorem ok_sortD (hc : X.calm = true) (hu : X.A.units + 64 < cLine) : CallOk X (.builtin "sorted") (c1 dSortD) := ok_c1 (cr_sortD hc hu) fun G H x a z Q e hx hz k => by
  cases a <;> first | (cases hz; done) | skip
  obtain ⟨ks, e1, hz⟩ := bind2 hz
  obtain ⟨p, kvs, rfl, h1, h2⟩ := db_dic e hx e1
  obtain ⟨kk, sh, a1, a2, es, rfl, a3⟩ := sortL_ok (X := X) e (dqt_list h2) hz
  exact ⟨p, kvs, kk, sh, rfl, h1, dqt_keys e h2, a1, a2, fun t ht => k _ _ _ (.free e ht) (res_fre e ht a3)⟩
def dSortZ : PyData → Option MV := fun a => match dSorted a with | some z => some z | none => match dSortK a with | some z => some z | none => dSortD a
theorem ok_sortZ {k : Nat} (hr : Rm k X.A) (hc : X.calm = true := by rfl) : CallOk X (.builtin "sorted") (c1 dSortZ) := by
  have hu : X.A.units + 64 < cLine := hr.units
  refine CallOk.sub (ok_sorted.or ((ok_sortK hu).or (ok_sortD hc hu))) fun a z h => ?_
  match a, h with
  | [a], h =>
    have h : dSortZ a = some z := h
    unfold dSortZ at h
    unfold orC
    show (match dSorted a with | some z => some z | none => match dSortK a with | some z => some z | none => dSortD a) = some z
    exact h
end
end ML

set_option maxRecDepth 100000
set_option maxHeartbeats 4000000
namespace ML
open PySem PySem.Spec PyProof.Rows L2 RZ
/-! ### d.get(t, x) -/
theorem RelO.getD' {a : Option V} {b : Option Value} {d : V} {u : Value} (h : RelO a b) (r : RelV d u) : RelV (a.getD d) (b.getD u) := by
  cases a with
  | none =>
    cases b with
    | none => exact r
    | some u => cases h
  | some v =>
    cases b with
    | none => cases h
    | some u => exact h
variable [KF]
section
variable {X : Cx} {o e f : Expr} {apos cpos : Pos} {td ty tx : TE}
def tGetT2 (td ty tx : TE) : TE := fun σ H Q => td σ H fun x H1 => ∃ (a : Addr) (kvs0 : List (List Int × Addr × V)), x = .ref a ∧ HasD H1 a kvs0 ∧ KeysT H1 kvs0 ∧ ty σ H1 fun y H2 => tx σ H2 fun z H3 =>
  ∃ (b : Addr) (ob : Obj) (k : List Int) (kvs : List (List Int × Addr × V)), y = .ref b ∧ H3 b = some (.frz ob (.tup (k.map V.int))) ∧ HasD H3 a kvs ∧ KeysT H3 kvs ∧ Q ((atT kvs k).getD z) H3
theorem pe_getT2 (hu : X.A.units + 1 < cLine) (ho : PE X o td) (he : PE X e ty) (hf : PE X f tx) (m : M2 X o "get" apos e f cpos) : PE X (.Call (.Attribute o "get" apos) [e, f] [] cpos) (tGetT2 td ty tx) := by
  refine ⟨fun pins s σ H Q I h => ?_⟩
  refine wpAny_Call_method m.base m.few m.line PySem.F.plainAttrs_dict PySem.F.slot_dict_get PySem.F.type_dict_get (thn (ho.run pins s σ H _ I h) fun u s1 ⟨x, H1, I1, rx, a, kvs0, ex, hd, hk, q1⟩ => ?_)
  subst ex
  cases rx
  obtain ⟨lo, z, xs, rel, dd⟩ := di_of I1 hd hk
  refine ⟨dd.typeIs, fun b q => ?_, ?_⟩
  · cases q
    obtain ⟨ob, _, _, h1, h2, _⟩ := dd
    exact ⟨ob, h1, h2.2.1⟩
  rw [m.trees]
  refine Calls.callWith_builtin rfl (Calls.evalArgs_plain (Calls.spliced_cons (thn (he.run pins s1 σ H1 _ I1 q1) fun iv s2 ⟨y, H2, I2, ry, q2⟩ =>
    Calls.spliced_cons (thn (hf.run pins s2 σ H2 _ I2 q2) fun fv s3 ⟨w, H3, I3, rw', b, ob, k, kvs, ey, hb, hd3, hk3, q3⟩ => Calls.spliced_nil ?_))))
  subst ey
  cases ry
  obtain ⟨lo3, z3, xs3, rel3, dd3⟩ := di_of I3 hd3 hk3
  refine call_meetsIn PySem.F.slot_dict_get dd3.typeIs PySem.F.entry_dict_get (PySem.F.args_dict_get_3 _ _ _) (meetsH_dict_get_default (tupleKind (intKind X.prog X.w)) a b lo3 fv) ⟨tupleKind_room_in1 hu, k, xs3, I3.isT (.inl (.inr ⟨ob, hb⟩)), dd3, ?_⟩
  exact ⟨(atT kvs k).getD w, H3, I3.tok _, RelO.getD' (rel3.val k) rw', q3⟩
end
/-! ### for t, v in d.items() -/
def ItP (d : Addr) (o : Obj) (kvs : List (List Int × Addr × V)) : It :=
  ⟨fun i H => H d = some (.frz o (DiT d kvs)) ∧ i < kvs.length, fun i H x H' => ∃ (p : Addr) (q : List Int × Addr × V), kvs[i]? = some q ∧ x = .ref p ∧ H p = none ∧ H' = upd H p (.tup [.ref q.2.1, q.2.2]), fun i H => H d = some (.frz o (DiT d kvs)) ∧ kvs.length ≤ i⟩
theorem turn_P {P : Program} {w : World} {K : PySem.W.Frag} {elts : List Expr} {kk : Nat} {tpos : Pos} {d : Addr} {o : Obj} {es : Array DictEntry} {ep : Nat} {kvs : List (List Int × Addr × V)} (it : Addr) (hod : o.data = .dict es ep) : Turn P w K (.Tuple elts kk tpos) (ItP d o kvs) [it] it (fun i h => ∃ ok ov, IsItemIter h it d i kvs.length ep ok ov) where
  mem := by simp
  obj := fun i h st b hb => by
    have e : b = it := by simpa using hb
    subst e
    obtain ⟨ok, ov, e⟩ := st
    exact ⟨_, e, fun v z => nomatch z⟩
  keep := fun i h h' st k => let ⟨ok, ov, e⟩ := st; ⟨ok, ov, k it (by simp) _ e⟩
  item := by
    intro X hP hw hK hc i pins s σ H E I hf st hg
    subst hP hw hK
    obtain ⟨hd, hi⟩ := hg
    obtain ⟨hs, hgd, hx, es', ep', hdt, hsz, ent⟩ := frz_di I hd
    obtain ⟨rfl, rfl⟩ := dict_ep hod hdt
    obtain ⟨q, hq⟩ : ∃ q, kvs[i]? = some q := ⟨kvs[i], List.getElem?_eq_getElem hi⟩
    obtain ⟨en, hen, hkey, hval⟩ := ent i q hq
    obtain ⟨ok, ov, he⟩ := st
    rw [← hsz] at he
    have hie : i < es'.size := by rw [hsz]; exact hi
    have een : es'[i] = en := by
      rw [Array.getElem?_eq_getElem hie] at hen
      exact Option.some.inj hen
    have hlt : it < s.heap.objs.size := Heap.lt_size he
    refine DT.nextI he ⟨o, hgd, hx, hdt⟩ hie fun h' ho hT hz hk => ?_
    rw [een] at ho hT
    refine ⟨_, rfl, wpAny_letOwnedTupleGo_items (s := { s with heap := h' }) ho fun h'' he' sb => ?_⟩
    have hT2 : h''.get? s.heap.objs.size = some { cls := .type "tuple", data := .seq #[en.key, en.val] } := (sb.2 _ (Nat.ne_of_gt hlt)).trans hT
    have new : ObjOk X.prog X.w (upd H s.heap.objs.size (.tup [.ref q.2.1, q.2.2])) h'' s.heap.objs.size (.tup [.ref q.2.1, q.2.2]) :=
      ⟨by show 2 ≤ sizeLine; decide, [en.key, en.val], .cons hkey (.cons hval .nil), ⟨_, hT2, rfl, _, rfl⟩⟩
    have I1 : Inv X pins σ (upd H s.heap.objs.size (.tup [.ref q.2.1, q.2.2])) { s with heap := h'' } :=
      I.turnedNew (t' := s.toks) (ch := [it]) (fun b ob hb e => (sb.2 b (by simpa using hb)).trans (hk b ob (by simpa using hb) e)) hf (Nat.le_refl _) new
    refine ⟨.ref s.heap.objs.size, _, I1, rfl, ⟨_, q, hq, rfl, I.hok.fresh (Nat.le_refl _), rfl⟩, ⟨en.key, en.val, ?_⟩, fun b hb => ?_⟩
    · rw [← hsz]; exact he'
    · have e : b = it := by simpa using hb
      rw [e, upd_ne (Nat.ne_of_lt hlt)]
      exact (hf it (by simp)).1
  done := by
    intro X hP hw hK hc i pins s σ H E I hf st hg
    subst hP hw hK
    obtain ⟨hd, hi⟩ := hg
    obtain ⟨f0, f1, f2, f3, f4, f5⟩ := hf it (by simp)
    obtain ⟨hs, hgd, hx, es', ep', hdt, hsz, ent⟩ := frz_di I hd
    obtain ⟨rfl, rfl⟩ := dict_ep hod hdt
    obtain ⟨ok, ov, he⟩ := st
    rw [← hsz] at he
    exact DT.endI (I.ok.hd hc) he ⟨o, hgd, hx, hdt⟩ (by rw [hsz]; exact hi) fun h' eb => ⟨rfl, I.turned (t' := s.toks) (fun b ob hb e => eb b ob hb e) f0 f1 f3 f4 f5⟩
  self := fun A i s Q E st h => let ⟨_, _, e⟩ := st; PySem.W.kcp_self e h
def iItemT (td : TE) : TI := fun σ H R => td σ H fun x H1 => ∃ d o kvs, x = .ref d ∧ H1 d = some (.frz o (DiT d kvs)) ∧ R (ItP d o kvs) H1
section
variable {X : Cx} {e : Expr} {apos cpos : Pos} {td : TE}
theorem pi_itemsT {elts : List Expr} {kk : Nat} {tpos : Pos} (he : PE X e td) (hbase : attributeBase e "items" X.env (eval e X.env) = eval e X.env := by rfl) (hline : (apos.endLine == cpos.line) = true := by rfl) :
    PI X (.Tuple elts kk tpos) (.Call (.Attribute e "items" apos) [] [] cpos) (iItemT td) := by
  refine ⟨fun pins s σ H R I h => ?_⟩
  refine wpAny_Call_method (T := "dict") (id := "dict.items") hbase rfl hline PySem.F.plainAttrs_dict PySem.F.slot_dict_items PySem.F.type_dict_items (thn (he.run pins s σ H _ I h) fun u s1 ⟨x, H1, I1, rx, d, o, kvs, ex, hd, q⟩ => ?_)
  subst ex
  cases rx
  obtain ⟨hs, hgd, hx, es, ep, hdt, hsz, ent⟩ := frz_di I1 hd
  have raw : DT.Raw s1.heap d es ep := ⟨o, hgd, hx, hdt⟩
  refine ⟨raw.typeIs, fun b q' => ?_, ?_⟩
  · cases q'
    exact ⟨o, hgd, hx.2.1⟩
  have I2 : Inv X pins σ H1 { s1 with heap := s1.heap.push { cls := .type "dict_items", data := .fields #[.ref d] } } := I1.kept (t' := s1.toks) fun b ob q => Heap.get?_push_of_some _ q
  have fin : wpAny (model X.prog X.w) X.A (pyIter (.ref s1.heap.objs.size)) (PIE X pins σ (.Tuple elts kk tpos) R) X.xe { s1 with heap := s1.heap.push { cls := .type "dict_items", data := .fields #[.ref d] } } := by
    refine DT.iterI (d := d) (es := es) (ep := ep) ⟨_, Heap.get?_push_size _ rfl, rfl, rfl⟩ (raw.push _) (pi_one (tk := s1.toks) I2 _ (turn_P _ hdt) ⟨.none, .none, ?_⟩ q)
    rw [← hsz]
    exact Heap.get?_push_size _ rfl
  show wpAny _ _ (callWith cpos (.builtin "dict.items") [.ref d] [] []) _ X.xe s1
  exact method_meetsIn PySem.F.slot_dict_items PySem.F.entry_dict_items rfl (PySem.evalArgs_none ⟨rfl, raw.typeIs, PySem.F.args_dict_items_1 _, _, DT.meetsItems (es := es) (ep := ep) hs, ⟨raw, fin⟩⟩)
end
/-! the same, mirrored -/
section
variable {X : Cx} {A : Act}
def esD : PyData → Option (List (PyData × PyData)) | .dict es => some es | _ => none
def mGet2 (d k x : ME) : ME := fun μ => (d μ).bind fun p => (deref p.2 p.1).bind fun D => (esD D).bind fun es0 => (keysI es0).bind fun _ => (k p.2).bind fun q => (asD q.1).bind fun a => (keyI a).bind fun kk => (x q.2).bind fun r => (asD r.1).bind fun z => (deref r.2 p.1).bind fun D2 => (esD D2).bind fun es => (keysI es).map fun _ => (.dat ((getE es kk).getD z), r.2)
theorem esD_some {d : PyData} {es : List (PyData × PyData)} (h : esD d = some es) : d = .dict es := by
  cases d <;> first | (cases h; done) | (cases h; rfl)
theorem qe_get2 {k : Nat} {o e f : Expr} {apos cpos : Pos} {md mk mx : ME} (hr : Rm k X.A) (ho : PE X o (tE A md)) (he : PE X e (tE A mk)) (hf : PE X f (tE A mx)) (m : M2 X o "get" apos e f cpos := by exact ⟨rfl, rfl, rfl, rfl⟩) : PE X (.Call (.Attribute o "get" apos) [e, f] [] cpos) (tE A (mGet2 md mk mx)) :=
  pe_to (pe_getT2 (by have := hr.un; omega) ho he hf m) fun σ H Q ⟨G, μ, z, μ', R, e, kk⟩ => by
  obtain ⟨p, e1, e⟩ := bind2 e
  obtain ⟨D, e2, e⟩ := bind2 e
  obtain ⟨es0, e3, e⟩ := bind2 e
  obtain ⟨ks0, e4, e⟩ := bind2 e
  obtain ⟨q, e5, e⟩ := bind2 e
  obtain ⟨a, e6, e⟩ := bind2 e
  obtain ⟨key, e7, e⟩ := bind2 e
  obtain ⟨r, e8, e⟩ := bind2 e
  obtain ⟨dx, e9, e⟩ := bind2 e
  obtain ⟨D2, e10, e⟩ := bind2 e
  obtain ⟨es, e11, e⟩ := bind2 e
  obtain ⟨ks, e12, e13⟩ := map2 e
  cases e13
  cases esD_some e3
  cases esD_some e11
  refine ⟨G, μ, p.1, p.2, R, e1, fun G1 H1 v s1 R1 q1 n1 => ?_⟩
  obtain ⟨d, kvs0, rfl, hd, hk⟩ := db_dic R1.ext (q1.db R1 e2) e4
  refine ⟨d, kvs0, rfl, hd, dqt_keys R1.ext hk, G1, p.2, q.1, q.2, R1, e5, fun G2 H2 y s2 R2 q2 n2 => ⟨G2, q.2, r.1, r.2, R2, e8, fun G3 H3 w s3 R3 q3 n3 => ?_⟩⟩
  have q1' := (q1.step s2).step s3
  obtain ⟨d', kvs, ed, hd3, hk3⟩ := db_dic R3.ext (q1'.db R3 e10) e12
  cases ed
  rw [asD_some e6, keyI_some e7] at q2
  rw [asD_some e9] at q3
  have q2 : Dq G2 y (.tuple (key.map .int)) := q2
  cases q2 with
  | @tup b ob xs ds w1 w0 w2 =>
    cases dqa_ints w2
    refine ⟨b, ob, key, kvs, rfl, R3.ext _ _ (s3.g _ _ w1), hd3, dqt_keys R3.ext hk3, kk G3 H3 _ ((s1.trans s2).trans s3) R3 ?_ ?_⟩
    · have := dqt_get hk3 key
      show Dq G3 ((atT kvs key).getD w) ((getE es key).getD dx)
      cases hx : atT kvs key with
      | none =>
        rw [hx] at this
        cases hy : getE es key with
        | none => exact q3
        | some y => rw [hy] at this; cases this
      | some x =>
        rw [hx] at this
        cases hy : getE es key with
        | none => rw [hy] at this; cases this
        | some y =>
          rw [hy] at this
          cases this with
          | so h => exact h
    · trivial
theorem iter_P {G0 : Hp} {a : Addr} {o : Obj} {kvs : List (List Int × Addr × V)} {es : List (PyData × PyData)} (h : G0 a = some (.frz o (DiT a kvs))) (hd : DqKt G0 kvs es) : IterOk Dw (ItP a o kvs) G0 (es.map fun p => .tuple [p.1, p.2]) := by
  have len : kvs.length = (es.map fun p : PyData × PyData => PyData.tuple [p.1, p.2]).length := by rw [List.length_map, dqt_len hd]
  have get : ∀ {kvs : List (List Int × Addr × V)} {es : List (PyData × PyData)} (h : DqKt G0 kvs es) (i : Nat) (p : PyData × PyData), es[i]? = some p → ∃ q, kvs[i]? = some q ∧ Dq G0 (.ref q.2.1) p.1 ∧ Dq G0 q.2.2 p.2 := by
    intro kvs es h
    induction kvs generalizing es with
    | nil => cases h; intro i p hp; simp at hp
    | cons q kvs ih =>
      intro i p hp
      cases h with
      | cons h1 h0 h2 h3 =>
        cases i with
        | zero =>
          simp at hp
          subst hp
          exact ⟨_, rfl, .tup h1 h0 (dqa_of_ints _), h2⟩
        | succ i => exact ih h3 i p (by simpa using hp)
  refine ⟨fun G H i d e1 e2 hi => ?_, fun G H e1 e2 => ⟨e2 _ _ (e1 _ _ h), by rw [len]; exact Nat.le_refl _⟩⟩
  rw [List.getElem?_map] at hi
  obtain ⟨p, hp, ed⟩ := Option.map_eq_some_iff.mp hi
  subst ed
  obtain ⟨q, hq, r1, r2⟩ := get hd i p hp
  have hlt := (List.getElem?_eq_some_iff.mp hq).1
  refine ⟨⟨e2 _ _ (e1 _ _ h), hlt⟩, fun x H' ⟨t, q', hq', ex, ht, eH⟩ => ?_⟩
  rw [hq] at hq'
  cases hq'
  subst ex eH
  refine ⟨upd G t (.tup [.ref q.2.1, q.2.2]), .new e2 ht, .inr ⟨t, _, _, rfl, rfl, .inl upd_same, ?_⟩⟩
  have sg : Same G (upd G t (.tup [.ref q.2.1, q.2.2])) := fun b u z => by rw [upd_ne (ne_of_none z (e2.free ht))]; exact z
  exact .cons (dq_mono (e1.trans sg) r1) (.cons (dq_mono (e1.trans sg) r2) .nil)
def itPD : PyData → Option (List PyData)
  | .dict es => (keysI es).map fun _ => es.map fun p => .tuple [p.1, p.2]
  | _ => none
/-- over a still dict's keys and values -/
def mItP (m : ME) : MI := fun μ => (m μ).bind fun p => (asD p.1).bind fun d => (itPD d).map fun ds => (ds, p.2)
theorem qi_items {elts : List Expr} {kk : Nat} {tpos : Pos} {l : Expr} {apos cpos : Pos} {m : ME} (h : PE X l (tE A m)) (hbase : attributeBase l "items" X.env (eval l X.env) = eval l X.env := by rfl) (hline : (apos.endLine == cpos.line) = true := by rfl) :
    PI X (.Tuple elts kk tpos) (.Call (.Attribute l "items" apos) [] [] cpos) (tI A Dw (mItP m)) := pi_to (pi_itemsT h hbase hline) fun σ H Q ⟨G, μ, ds, μ', R, e, k⟩ => by
  obtain ⟨p, e1, e⟩ := bind2 e
  obtain ⟨d, e2, e⟩ := bind2 e
  obtain ⟨es, e3, e⟩ := map2 e
  cases e
  refine ⟨G, μ, p.1, p.2, R, e1, fun G1 H1 v s1 R1 q1 n1 => ?_⟩
  rw [asD_some e2] at q1
  cases d <;> first | (cases e3; done) | skip
  rename_i kes
  obtain ⟨ks, e4, e5⟩ := map2 e3
  cases e5
  obtain ⟨a, o, kvs, rfl, h1, h2⟩ := dq_dic q1 e4
  exact ⟨a, o, kvs, rfl, R1.ext _ _ h1, k G1 H1 _ s1 R1 (iter_P h1 h2)⟩
end
end ML

set_option maxRecDepth 100000
set_option maxHeartbeats 4000000
namespace ML
open PySem PySem.Spec PyProof.Rows L2 RZ
/-! ### dict(d): a copy of a dict whose keys are tuples of ints, no two of one hash -/
def hashT (k : List Int) : Int := reduceHash (Builtin.Tuple.tupleHashOf (k.map hashInt))
section
variable {prog : Program} {w : World} {A : Around} {E : Value → Shared → Prop} {s : Shared}
theorem copy_run {a : Addr} {xs : List (List Int × Addr × Value)} {Q : Value → Shared → Prop} (hu : A.units + 8 < cLine) (lo : (a == sysModules) = false) (dd : s.heap.DictOfH (tupleKind (intKind prog w)) a xs) (hz : xs.length ≤ sizeLine) (hty : ∀ x ∈ xs, s.TypeIs (.ref x.2.1) "tuple") (hh : (xs.map fun x => hashT x.1).Nodup)
    (h : ∀ h', h'.DictOfH (tupleKind (intKind prog w)) s.heap.objs.size xs → (∀ b o, s.heap.get? b = some o → h'.get? b = some o) → Q (.ref s.heap.objs.size) { s with heap := h' }) : wpAny (model prog w) A (call (.type "dict") [.ref a]) Q E s := by
  refine callType_codes (Q₁ := fun obj s₁ => obj = .ref s.heap.objs.size ∧ s₁ = { s with heap := s.heap.push { cls := .type "dict", data := .dict #[] } }) PySem.F.kt_called_dict (PySem.F.kt_typeCall_dict_1 _) PySem.F.entry_dict_init (kt_code_dict_new _ ⟨rfl, rfl⟩) ?_
  rintro obj s₁ ⟨rfl, rfl⟩
  have new := Heap.DictOfH.new (knd := tupleKind (intKind prog w)) s.heap
  have old : (s.heap.push { cls := .type "dict", data := .dict #[] }).DictOfH (tupleKind (intKind prog w)) a xs := by
    obtain ⟨o, es, ep, h1, h2, h3, h4, h5, h6⟩ := id dd
    refine ⟨o, es, ep, Heap.get?_push_of_some _ h1, h2, h3, h4, fun x hx => ?_, h6⟩
    obtain ⟨ob, its, n, g1, g2, g3, g4⟩ := (show IsTupleKey (intKind prog w) s.heap x.1 x.2.1 from h5 x hx)
    exact ⟨ob, its, n, Heap.get?_push_of_some _ g1, g2, g3, g4⟩
  have lt : a < s.heap.objs.size := dd.lt_size
  refine ⟨new.typeIs, PySem.F.args_dict_init_2 _ _, ?_⟩
  unfold Builtin.«dict.__init__»
  refine wpAny_bind ?_
  unfold Builtin.Dict.selfAndRest
  refine wpAny_bind (wpAny_notOrdered_dict new.typeIs ?_)
  refine wpAny_pure ?_
  refine updateFrom_dictH (A := A.in1) (s := { s with heap := s.heap.push { cls := .type "dict", data := .dict #[] } }) (nm := "dict.__init__") .none (by show A.units + 1 + 1 < cLine; omega) (Nat.ne_of_gt lt) lo new old (.inr ⟨fun x hx => ?_, hh⟩) (by simpa using hz) fun h' hd' _ sb => ?_
  · obtain ⟨o, e, c⟩ := hty x hx
    exact ⟨o, Heap.get?_push_of_some _ e, c⟩
  · rw [storedAllH_nil_of_nodup xs dd.nodup] at hd'
    refine ⟨rfl, h h' hd' fun b o e => ?_⟩
    exact (sb.2 b (Nat.ne_of_lt (Heap.lt_size e))).trans (Heap.get?_push_of_some _ e)
end
variable [KF]
section
variable {X : Cx} {A : Act}
def rCopyT : List V → Hp → VK → Prop := fun xs H Q => ∃ (a : Addr) (kvs : List (List Int × Addr × V)), xs = [.ref a] ∧ HasD H a kvs ∧ KeysT H kvs ∧ (kvs.map fun q => hashT q.1).Nodup ∧ ∀ p, H p = none → Q (.ref p) (upd H p (DiT p kvs))
theorem relT_map {α : Type} {kvs : List (List Int × Addr × V)} {xs : List (List Int × Addr × Value)} (r : RelT kvs xs) (f : List Int → α) : (xs.map fun x => f x.1) = kvs.map fun q => f q.1 := by
  induction r with
  | nil => rfl
  | cons h t ih => rw [List.map_cons, List.map_cons, ih, h.1]
theorem call_copyT (hu : X.A.units + 8 < cLine) : CallR X (.type "dict") rCopyT := by
  intro pins s σ H xs us Q I r q
  obtain ⟨a, kvs, rfl, hd, hk, hn, q⟩ := q
  obtain ⟨u, eu, rx⟩ := vals1 r
  subst eu
  cases rx
  obtain ⟨lo, z, ys, rel, dd⟩ := di_of I hd hk
  have hl := Paired.length rel
  refine copy_run hu lo dd (by rw [← hl]; exact z) (fun x hx => ?_) (by rw [relT_map rel hashT]; exact hn) fun h' dd' kp => ?_
  · obtain ⟨q', hq, e1, e2⟩ := RelT.mem rel x hx
    obtain ⟨o, ho⟩ := hk q' hq
    obtain ⟨its, r1, ht, _⟩ := I.tuple (show SqT X.K H q'.2.1 (q'.1.map V.int) from .inl (.inr ⟨o, ho⟩))
    rw [← e2]
    exact ht.typeIs
  · have big : (s.heap.objs.size == sysModules) = false := beq_eq_false_iff_ne.mpr (Ne.symm (Nat.ne_of_lt I.big))
    exact ⟨.ref s.heap.objs.size, upd H s.heap.objs.size (DiT s.heap.objs.size kvs), I.laid (t' := s.toks) kp (Nat.le_refl _) (di_new big z rel dd'), rfl, q _ (I.hok.fresh (Nat.le_refl _))⟩
/-- x = dict(e) -/
def sAsgCp (i : Nat) (m : ME) : MS := fun μ => (m μ).bind fun p => (deref p.2 p.1).bind fun D => (esD D).bind fun es => (keysI es).bind fun ks => if (ks.map hashT).Nodup then some (.nx (p.2.set i (some (.dict es)))) else none
theorem dqt_keysI {G : Hp} {kvs : List (List Int × Addr × V)} {es : List (PyData × PyData)} (h : DqKt G kvs es) : keysI es = some (kvs.map (·.1)) := by
  induction kvs generalizing es with
  | nil => cases h; rfl
  | cons q kvs ih =>
    obtain ⟨ki, b, v⟩ := q
    cases h with
    | cons h1 h0 h2 h3 =>
      rw [keysI]
      show (keyI (.tuple (ki.map .int))).bind _ = _
      rw [keyI_map]
      show ((keysI _).map _) = _
      rw [ih h3]
      rfl
theorem qs_copy {k : Nat} {x : Str} {xe : Expr} {p pos pos' pos2 : Pos} {m : ME} (i : Nat) (hr : Rm k X.A) (he : PE X xe (tE A m)) (hg : Gl X "dict") (hm : X.mg "dict" = none) (hO : A.O.contains i = true := by rfl) (hP : A.P.contains i = false := by rfl) (hN : X.N.Nodup) (hi : X.N[i]? = some x := by rfl) (hx : Loc X.env.scope x := by first | exact .inl rfl | exact .inr rfl)
    (hv : bootBuiltins "dict" = some (.type "dict") := by decide +kernel)
    (hs1 : starEach [xe] X.env = (false, eval xe X.env) :: starEach [] X.env := by rfl) (hpl : (backTo pos2 (starEach [] X.env)).any (·.1) = false := by rfl)
    (hs : swapsWith (.Call (.Name "dict" p) [xe] [] pos2) (some (.Name x pos')) pos.line X.env = pure false := by rfl) (hf : X.fn x = true ∨ X.env.scope.names.lookup x = some .local := by first | exact .inl rfl | exact .inr rfl) :
    PS X (.Assign [.Name x pos'] (.Call (.Name "dict" p) [xe] [] pos2) pos) (tS A (sAsgCp i m)) :=
  ps_to (ps_set hN hi hx (pe_callTy (call_copyT (by have := hr.un; omega)) hg hm hv (pa_cons he pa_nil hs1) (by decide) (by decide) hs1 hpl) hs hf) fun D σ H ⟨G, μ, o, R, e, kk⟩ => by
  obtain ⟨q, e1, e⟩ := bind2 e
  obtain ⟨d, e2, e⟩ := bind2 e
  obtain ⟨es, e3, e⟩ := bind2 e
  obtain ⟨ks, e4, e⟩ := bind2 e
  split at e
  · rename_i hn
    cases e
    cases esD_some e3
    refine ⟨G, μ, q.1, q.2, R, e1, fun G1 H1 v s1 R1 q1 n1 => ?_⟩
    obtain ⟨a, kvs, rfl, hd, hk⟩ := db_dic R1.ext (q1.db R1 e2) e4
    have ek := dqt_keysI hk
    rw [e4] at ek
    cases ek
    rw [List.map_map] at hn
    refine ⟨a, kvs, rfl, hd, dqt_keys R1.ext hk, hn, fun t ht => ?_⟩
    have hA : A.H t = none := by
      cases z : A.H t with
      | none => rfl
      | some o => exact absurd ht (R1.lv t (by rw [z]; exact fun z => nomatch z))
    have no : ¬ Own A σ t := fun ⟨i, hi, hs⟩ => R1.liv i t hi hs ht
    exact kk _ G1 _ s1.g ((R1.grow (Grow.free R1.ext ht)).setOT (inO hO) (notO hP) upd_same hk (R1.ext.free ht) hA no)
  · cases e
/-! ### {t: v} that is altered no more -/
theorem pe_frzT {e : Expr} {t : TE} (h : PE X e t) : PE X e (fun σ H Q => t σ H fun v H1 => Q v H1 ∨ ∃ a kvs, v = .ref a ∧ H1 a = some (DiT a kvs) ∧ ∀ o, Q v (L2.upd H1 a (.frz o (DiT a kvs)))) := ⟨fun pins s σ H Q I w => by
  refine wpAny_mono (h.run pins s σ H _ I w) (fun u s1 ⟨v, H1, I1, rv, q⟩ => ?_) fun _ _ x => x
  rcases q with q | ⟨a, kvs, rfl, hd, q⟩
  · exact ⟨v, H1, I1, rv, q⟩
  · have ok := show ObjOk X.prog X.w H1 s1.heap a (DiT a kvs) from I1.hok a _ hd
    obtain ⟨o, ho⟩ := ok.2.1
    exact ⟨.ref a, _, I1.write (x := a) (e := a) (h' := s1.heap) (t' := s1.toks) (o := .frz o (DiT a kvs)) (by rw [hd]; trivial) (.inl rfl) (fun _ _ _ e => e) ⟨o, ho⟩ ⟨ho, ok⟩, rv, q o⟩⟩
def mDispF (mk mv : ME) : ME := fun μ => (mk μ).bind fun p => (asD p.1).bind fun a => (keyI a).bind fun _ => (mv p.2).bind fun q => (asD q.1).map fun d => (.dat (.dict [(a, d)]), q.2)
theorem qe_dispF {k : Nat} {kx vx : Expr} {pos : Pos} {mk mv : ME} (hr : Rm k X.A) (hk : PE X kx (tE A mk)) (hv : PE X vx (tE A mv)) : PE X (.Dict [some kx] [vx] pos) (tE A (mDispF mk mv)) :=
  pe_to (pe_frzT (pe_dispT (by have := hr.un; omega) hk hv)) fun σ H Q ⟨G, μ, z, μ', R, e, kk⟩ => by
  obtain ⟨p1, e1, e⟩ := bind2 e
  obtain ⟨a, e2, e⟩ := bind2 e
  obtain ⟨ki, e3, e⟩ := bind2 e
  obtain ⟨p2, e4, e⟩ := bind2 e
  obtain ⟨d, e5, e⟩ := map2 e
  cases e
  intro p hp
  have g0 := Grow.free (o := DiT p []) R.ext hp
  have hA : A.H p = none := by
    cases q : A.H p with
    | none => rfl
    | some o => exact absurd hp (R.lv p (by rw [q]; exact fun z => nomatch z))
  have no : ¬ Own A σ p := fun ⟨i, hi, hs⟩ => R.liv i p hi hs hp
  have live : L2.upd H p (DiT p []) p ≠ none := by rw [upd_same]; exact fun z => nomatch z
  have gp := R.ext.free hp
  refine ⟨G, μ, p1.1, p1.2, R.grow g0, e1, fun G1 H1 x s1 R1 q1 n1 => ⟨G1, p1.2, p2.1, p2.2, R1, e4, fun G2 H2 y s2 R2 q2 n2 => ?_⟩⟩
  rw [asD_some e2, keyI_some e3] at q1
  rw [asD_some e5] at q2
  have h1 : H1 p = some (DiT p []) := s1.h _ _ upd_same no
  have h2 : H2 p = some (DiT p []) := s2.h _ _ h1 no
  have gp1 : G1 p = none := s1.fr p live gp
  have gp2 : G2 p = none := s2.fr p (by rw [h1]; exact fun z => nomatch z) gp1
  refine ⟨h2, ?_⟩
  have q1 : Dq G1 x (.tuple (ki.map .int)) := q1
  cases q1 with
  | @tup b ob xs ds w1 w0 w2 =>
    cases dqa_ints w2
    have w1' := s2.g _ _ w1
    refine ⟨b, ob, ki, rfl, R2.ext _ _ w1', .inr ⟨p, [(ki, b, y)], rfl, upd_same, fun o => ?_⟩⟩
    have sg2 : Same G2 (L2.upd G2 p (.frz o (DiT p [(ki, b, y)]))) := fun c u z => by rw [upd_ne (ne_of_none z gp2)]; exact z
    have st : Step A σ G H (L2.upd G2 p (.frz o (DiT p [(ki, b, y)]))) (L2.upd (L2.upd H2 p (DiT p [(ki, b, y)])) p (.frz o (DiT p [(ki, b, y)]))) := by
      refine ⟨(s1.g.trans s2.g).trans sg2, fun c u hc nc => ?_, fun c hc gc => ?_, fun c hc => ?_⟩
      · have ne : c ≠ p := fun z => by rw [z, hp] at hc; cases hc
        rw [upd_ne ne, upd_ne ne]
        exact s2.h _ _ (s1.h _ _ (by rw [upd_ne ne]; exact hc) nc) nc
      · have ne : c ≠ p := fun z => hc (z ▸ hp)
        have hc1 : L2.upd H p (DiT p []) c ≠ none := by rw [upd_ne ne]; exact hc
        rw [upd_ne ne]
        exact s2.fr c (s1.lv c hc1) (s1.fr c hc1 gc)
      · by_cases z : c = p
        · rw [z, upd_same]; exact fun z => nomatch z
        · rw [upd_ne z, upd_ne z]
          exact s2.lv c (s1.lv c (by rw [upd_ne z]; exact hc))
    have R3 : Rl A (L2.upd G2 p (.frz o (DiT p [(ki, b, y)]))) p2.2 σ (L2.upd (L2.upd H2 p (DiT p [(ki, b, y)])) p (.frz o (DiT p [(ki, b, y)]))) := by
      have R2' := (R2.other (o := DiT p [(ki, b, y)]) gp2 hA no).other (o := .frz o (DiT p [(ki, b, y)])) gp2 hA no
      refine ⟨R2'.len, fun c u hc => ?_, R2'.up.trans sg2, R2'.fr, R2'.lv, fun c h g => ?_, fun j d' h n => ?_, fun j d' hj n => ?_, R2'.liv, R2'.sep, R2'.par⟩
      · by_cases z : c = p
        · rw [z, upd_same] at hc
          rw [z, upd_same]
          exact hc
        · rw [upd_ne z] at hc
          exact R2'.ext _ _ hc
      · rw [upd_ne (fun z => h (by rw [z]; exact hA))]; exact R2'.fg c h g
      · obtain ⟨v, f1, f2⟩ := R2'.val j d' h n
        exact ⟨v, f1, dq_mono sg2 f2⟩
      · obtain ⟨q, ob', f1, f2, f3, f4, f5⟩ := R2'.own j d' hj n
        have ne : q ≠ p := fun z => no ⟨j, n, z ▸ f1⟩
        exact ⟨q, ob', f1, f2, f3.mono sg2, by rw [upd_ne ne]; exact f4, f5⟩
    have fin : Dq (L2.upd G2 p (.frz o (DiT p [(ki, b, y)]))) (.ref p) (.dict [(a, d)]) := by
      rw [keyI_some e3]
      exact .dicT upd_same (.cons (sg2 _ _ w1') w0 (dq_mono sg2 q2) .nil)
    exact kk _ _ _ st R3 fin trivial
end
end ML

set_option maxRecDepth 100000
set_option maxHeartbeats 4000000
namespace ML
open PySem PySem.Spec PyProof.Rows L2 RZ
variable [KF]
section
variable {X : Cx} {A : Act}
/-! ### return e, where a list or dict of one's own is altered no more -/
abbrev Act.less (A : Act) (i : Nat) : Act := { A with O := A.O.filter fun j => j != i }
theorem less_mem {A : Act} {i j : Nat} : j ∈ (A.less i).O ↔ j ∈ A.O ∧ j ≠ i := by
  show j ∈ A.O.filter (fun j => j != i) ↔ _
  rw [List.mem_filter]
  simp
/-- told as still -/
theorem Rl.toLess {G G1 H H1 : Hp} {μ : Mu} {σ : L2.St} {i : Nat} (R : Rl A G1 (μ.set i none) σ H1) (hi : i ∈ A.O) (hP : i ∉ A.P) (hd : ∀ d, μ[i]? = some (some d) → ∃ v, σ[i]? = some (some v) ∧ Dq G1 v d) : Rl (A.less i) G1 μ σ H1 := by
  refine ⟨by have := R.len; rw [List.length_set] at this; exact this, R.ext, R.up, R.fr, R.lv, R.fg, fun j d h n => ?_, fun j d h n => ?_, fun j a n e => R.liv j a (less_mem.mp n).1 e, fun j k p n1 n2 e1 e2 => R.sep j k p (less_mem.mp n1).1 (less_mem.mp n2).1 e1 e2, fun j n => ?_⟩
  · by_cases z : j = i
    · subst z; exact hd d h
    · exact R.val j d (by rw [List.getElem?_set_ne (fun e => z e.symm)]; exact h) fun q => n (less_mem.mpr ⟨q, z⟩)
  · obtain ⟨h1, h2⟩ := less_mem.mp n
    exact R.own j d (by rw [List.getElem?_set_ne (fun e => h2 e.symm)]; exact h) h1
  · obtain ⟨a, b⟩ := R.par j n
    exact ⟨less_mem.mpr ⟨a, fun z => hP (z ▸ n)⟩, b⟩
theorem Rl.ofLess {G H : Hp} {μ : Mu} {σ : L2.St} {i : Nat} (R : Rl (A.less i) G μ σ H) (hP : i ∉ A.P) : Rl A G (μ.set i none) (σ.set i none) H := by
  have get : ∀ {j : Nat} {p : Addr}, (σ.set i none)[j]? = some (some (V.ref p)) → j ≠ i ∧ σ[j]? = some (some (V.ref p)) := fun {j p} e => by
    by_cases z : j = i
    · subst z
      by_cases hlt : j < σ.length
      · rw [List.getElem?_set_self hlt] at e; cases e
      · rw [List.getElem?_eq_none (by rw [List.length_set]; omega)] at e; cases e
    · rw [List.getElem?_set_ne (fun e => z e.symm)] at e
      exact ⟨z, e⟩
  have getμ : ∀ {j : Nat} {d : PyData}, (μ.set i none)[j]? = some (some d) → j ≠ i ∧ μ[j]? = some (some d) := fun {j d} e => by
    by_cases z : j = i
    · subst z
      by_cases hlt : j < μ.length
      · rw [List.getElem?_set_self hlt] at e; cases e
      · rw [List.getElem?_eq_none (by rw [List.length_set]; omega)] at e; cases e
    · rw [List.getElem?_set_ne (fun e => z e.symm)] at e
      exact ⟨z, e⟩
  refine ⟨by rw [List.length_set, List.length_set]; exact R.len, R.ext, R.up, R.fr, R.lv, R.fg, fun j d h n => ?_, fun j d h n => ?_, fun j a n e => ?_, fun j k p n1 n2 e1 e2 => ?_, fun j n => ?_⟩
  · obtain ⟨z, h⟩ := getμ h
    rw [List.getElem?_set_ne (fun e => z e.symm)]
    exact R.val j d h fun q => n (less_mem.mp q).1
  · obtain ⟨z, h⟩ := getμ h
    rw [List.getElem?_set_ne (fun e => z e.symm)]
    exact R.own j d h (less_mem.mpr ⟨n, z⟩)
  · obtain ⟨z, e⟩ := get e
    exact R.liv j a (less_mem.mpr ⟨n, z⟩) e
  · obtain ⟨z1, e1⟩ := get e1
    obtain ⟨z2, e2⟩ := get e2
    exact R.sep j k p (less_mem.mpr ⟨n1, z1⟩) (less_mem.mpr ⟨n2, z2⟩) e1 e2
  · obtain ⟨a, b⟩ := R.par j n
    have z : j ≠ i := fun z => hP (z ▸ n)
    refine ⟨(less_mem.mp a).1, ?_⟩
    rw [List.getElem?_set_ne (fun e => z e.symm)]
    exact b
/-- s returns; the slot i is told as still -/
def sFrzR (i : Nat) (s : MS) : MS := fun μ => match μ[i]? with
  | some (some (.list _)) => (s μ).bind fun o => match o with | .rt x μ' => some (.rt x (μ'.set i none)) | _ => none
  | some (some (.dict _)) => (s μ).bind fun o => match o with | .rt x μ' => some (.rt x (μ'.set i none)) | _ => none
  | _ => none
theorem rt_only {i : Nat} {s : MS} {μ : Mu} {o : Out} (h : ((s μ).bind fun o => match o with | .rt x μ' => some (Out.rt x (μ'.set i none)) | _ => none) = some o) : ∃ x μ', s μ = some (.rt x μ') ∧ o = .rt x (μ'.set i none) := by
  obtain ⟨o1, e1, e2⟩ := bind2 h
  cases o1 with
  | rt x μ' => cases e2; exact ⟨x, μ', e1, rfl⟩
  | nx _ => cases e2
  | bk _ => cases e2
  | ct _ => cases e2
theorem qs_retF {e : Expr} {pos : Pos} {s : MS} (i : Nat) (h : PS X (.Return (some e) pos) (tS (A.less i) s)) (hO : A.O.contains i = true := by rfl) (hP : A.P.contains i = false := by rfl) : PS X (.Return (some e) pos) (tS A (sFrzR i s)) :=
  ps_to (ps_frz h) fun D σ H ⟨G, μ, o, R, e, k⟩ => by
  have fin : ∀ {G1 H1 : Hp} {x : MV} {μ' : Mu}, Same G G1 → Rl (A.less i) G1 μ σ H1 → s μ = some (.rt x μ') → o = .rt x (μ'.set i none) → tS (A.less i) s D σ H1 := fun {G1 H1 x μ'} sg R1 e1 eo => by
    subst eo
    exact ⟨G1, μ, _, R1, e1, fun v σ' G' H' g' R' r' => k v (σ'.set i none) G' H' (sg.trans g') (R'.ofLess (notO hP)) r'⟩
  have apn : ∀ p, (A.H p = none ∨ (i ∈ A.P ∧ p = A.pa i)) → A.H p = none := fun p f5 => f5.elim id fun q => absurd q.1 (notO hP)
  unfold sFrzR at e
  split at e
  · rename_i ds hm
    obtain ⟨x, μ', e1, eo⟩ := rt_only e
    obtain ⟨p, ob, f1, f2, f3, f4, f5⟩ := R.own i _ hm (inO hO)
    obtain ⟨sg, R2⟩ := R.freezeA (inO hO) f1 f2 f4 (apn p f5)
    rcases f3 with ⟨vs, ds', rfl, ed, f3⟩ | ⟨kvs, es, _, ed, f3⟩
    · cases ed
      exact .inl (fin sg (R2.toLess (G := G) (H := H) (inO hO) (notO hP) fun d hd => by
        rw [hm] at hd; cases hd
        exact ⟨.ref p, f1, .lst (.inl upd_same) (dqa_mono sg f3)⟩) e1 eo)
    · cases ed
  · rename_i es hm
    obtain ⟨x, μ', e1, eo⟩ := rt_only e
    obtain ⟨p, kvs, es', f1, f2, f3, f4, f5, f6⟩ := R.ownT i hm (inO hO)
    cases f1
    refine .inr ⟨p, kvs, f3, fun ob => ?_⟩
    obtain ⟨sg, R2⟩ := R.freezeB (.frz ob (DiT p kvs)) (inO hO) f2 f3 f5 (apn p f6)
    exact fin sg (R2.toLess (G := G) (H := H) (inO hO) (notO hP) fun d hd => by
      rw [hm] at hd; cases hd
      exact ⟨.ref p, f2, .dicT upd_same (dqt_mono sg f4)⟩) e1 eo
  · cases e
/-! ### for x in a list of one's own that is altered no more -/
def tI2 (A : Act) (r : Hp → V → PyData → Prop) (mi : MI) : TI := fun σ H R => ∃ G μ ds μ', Rl A G μ σ H ∧ mi μ = some (ds, μ') ∧ ∀ G' H' J, Same G G' → Rl A G' μ' σ H' → IterOk r J G' ds → R J H'
theorem qs_for2 {r : Hp → V → PyData → Prop} {tg iter : Expr} {body : List Stmt} {pos : Pos} {mi : MI} {f : PyData → Mu → Option Mu} {sl : List Nat} {b : MS} (hi : PI X tg iter (tI2 A r mi)) (hg : PG X tg (tG A r f sl)) (hb : PSs X body (tS A b)) (hp : PassesOwn (model X.prog X.w) X.A X.env X.xe := by exact PassesOwn.never) (hc : X.calm = true := by rfl)
    (hs : ∀ x, foldedSetIterable iter X.env x = pure x := by intro _; rfl) : PS X (.For tg iter body [] pos) (tS A (sFor mi f b)) := ps_to (ps_for hp hc hi hg hb hs) fun D σ H ⟨G, μ, o, R, e, k⟩ => by
  obtain ⟨⟨ds, μ1⟩, e1, e⟩ := bind2 e
  refine ⟨G, μ, ds, μ1, R, e1, fun G1 H1 J s1 R1 it => ?_⟩
  have k := k.mono s1
  refine ⟨fun i m σ H => i ≤ ds.length ∧ m = ds.length - i ∧ ∃ G μ o, Same G1 G ∧ Rl A G μ σ H ∧ loopM f b (ds.drop i) μ = some o ∧ Sat A D G o, ⟨_, Nat.zero_le _, rfl, G1, μ1, o, .refl _, R1, e, k⟩, ?_⟩
  rintro i m σ2 H2 ⟨hi, rfl, G2, μ2, o2, g2, R2, e2, k2⟩
  by_cases hlt : i < ds.length
  · right
    obtain ⟨go, y⟩ := it.go G2 H2 i ds[i] g2 R2.ext (List.getElem?_eq_getElem hlt)
    refine ⟨go, fun σ' H' => i + 1 ≤ ds.length ∧ ∃ G μ o, Same G1 G ∧ Rl A G μ σ' H' ∧ loopM f b (ds.drop (i + 1)) μ = some o ∧ Sat A D G o, fun σ' H' ⟨h1, h2⟩ => ⟨_, by omega, h1, rfl, h2⟩, fun x H' hy => ?_⟩
    obtain ⟨G3, g3, hx⟩ := y x H' hy
    rw [List.drop_eq_getElem_cons hlt] at e2
    obtain ⟨μ3, e3, e4⟩ := bind2 e2
    refine ⟨G3, μ2, _, μ3, R2.grow g3, hx, e3, fun σ3 R3 _ => ?_⟩
    obtain ⟨o4, e5, e6⟩ := bind2 e4
    refine ⟨G3, μ3, o4, R3, e5, ?_⟩
    have k3 := k2.mono g3.g
    cases o4 with
    | nx μ4 => exact fun σ' G' H' s' R' => ⟨hlt, G', μ4, o2, (g2.trans g3.g).trans s', R', e6, k3.mono s'⟩
    | ct μ4 => exact fun σ' G' H' s' R' => ⟨hlt, G', μ4, o2, (g2.trans g3.g).trans s', R', e6, k3.mono s'⟩
    | bk μ4 => cases e6; exact k3
    | rt x μ4 => cases e6; exact k3
  · left
    have hi' : i = ds.length := by omega
    subst hi'
    refine ⟨it.stop G2 H2 g2 R2.ext, ?_⟩
    rw [List.drop_length] at e2
    cases e2
    exact k2 σ2 G2 H2 (.refl _) R2
theorem pi_frz {tg l : Expr} {t : TI} (h : PI X tg l t) : PI X tg l (fun σ H R => t σ H R ∨ ∃ a kvs, H a = some (DiT a kvs) ∧ ∀ o, t σ (L2.upd H a (.frz o (DiT a kvs))) R) := ⟨fun pins s σ H R I w => by
  rcases w with w | ⟨a, kvs, hd, w⟩
  · exact h.run pins s σ H R I w
  · have ok := show ObjOk X.prog X.w H s.heap a (DiT a kvs) from I.hok a _ hd
    obtain ⟨o, ho⟩ := ok.2.1
    exact h.run pins s σ _ R (I.write (x := a) (e := a) (h' := s.heap) (t' := s.toks) (o := .frz o (DiT a kvs)) (by rw [hd]; trivial) (.inl rfl) (fun _ _ _ e => e) ⟨o, ho⟩ ⟨ho, ok⟩) (w o)⟩
/-- over an owned list or dict: from now on it is still -/
def mIO (i : Nat) : MI := fun μ => match μ[i]? with
  | some (some (.list ds)) => some (ds, μ.set i none)
  | some (some (.dict es)) => (itKD (.dict es)).map fun ds => (ds, μ.set i none)
  | _ => none
theorem qi_own {x : Str} {pos : Pos} {tg : Expr} (i : Nat) (hO : A.O.contains i = true := by rfl) (hP : A.P.contains i = false := by rfl) (hN : X.N[i]? = some x := by rfl) (hv : Vis X.env.scope x := by first | exact Or.inl rfl | exact Or.inr (Or.inl rfl) | exact Or.inr (Or.inr rfl)) (hd : (x == ("__debug__" : Str)) = false := by decide)
    (hcd : (x == ("__classdict__" : Str)) = false := by decide) : PI X tg (.Name x pos) (tI2 A Dq (mIO i)) :=
  pi_to (PI.or (pi_list (pv i hN hv hd hcd)) (pi_frz (pi_dictT (pv i hN hv hd hcd)))) fun σ H Q ⟨G, μ, ds, μ', R, e, k⟩ => by
  have apn : ∀ p, (A.H p = none ∨ (i ∈ A.P ∧ p = A.pa i)) → A.H p = none := fun p f5 => f5.elim id fun q => absurd q.1 (notO hP)
  unfold mIO at e
  split at e
  · rename_i es hm
    cases e
    obtain ⟨p, ob, f1, f2, f3, f4, f5⟩ := R.own i _ hm (inO hO)
    obtain ⟨sg, R2⟩ := R.freezeA (inO hO) f1 f2 f4 (apn p f5)
    rcases f3 with ⟨vs, ds', rfl, ed, f3⟩ | ⟨kvs, es, _, ed, f3⟩
    · cases ed
      exact .inl ⟨.ref p, f1, p, rfl, ⟨vs, .inl (.inl f2)⟩, k _ H _ sg R2 (iter_list (.inl upd_same) (dqa_mono sg f3))⟩
    · cases ed
  · rename_i es hm
    obtain ⟨es', e1, e2⟩ := map2 e
    cases e2
    obtain ⟨ks, e4, e5⟩ := map2 e1
    cases e5
    obtain ⟨p, kvs, es'', f1, f2, f3, f4, f5, f6⟩ := R.ownT i hm (inO hO)
    cases f1
    refine .inr (.inr ⟨p, kvs, f3, fun ob => ?_⟩)
    obtain ⟨sg, R2⟩ := R.freezeB (.frz ob (DiT p kvs)) (inO hO) f2 f3 f5 (apn p f6)
    exact ⟨.ref p, f2, p, ob, kvs, rfl, upd_same, k _ _ _ sg R2 (iter_T upd_same (dqt_mono sg f4))⟩
  · cases e
end
end ML

set_option maxRecDepth 100000
set_option maxHeartbeats 4000000
namespace ML
open PySem PySem.Spec PyProof.Rows L2 RZ
variable [KF]
section
variable {X : Cx} {A : Act}
/-! ### a < b < c < d -/
def tChain3 (r r' r2 : R2) (ta tb tc td : TE) : TE := fun σ H Q => ta σ H fun x H1 => tb σ H1 fun y H2 => r x y H2 fun z H3 => ∃ k, z = .bl k ∧
  (if k = true then tc σ H3 fun w H4 => r' y w H4 fun z H5 => ∃ k, z = .bl k ∧ (if k = true then td σ H5 fun v H6 => r2 w v H6 Q else Q (.bl false) H5) else Q (.bl false) H3)
theorem pe_chain3 {a b c d : Expr} {op op' op2 : CmpOp} {pos : Pos} {r r' r2 : R2} {ta tb tc td : TE} (ho : OpR X (compareOp op) r) (ho' : OpR X (compareOp op') r') (ho2 : OpR X (compareOp op2) r2) (ha : PE X a ta) (hb : PE X b tb) (hc : PE X c tc) (hd : PE X d td)
    (hm : lastMarks [op, op', op2] [b, c, d] = false := by with_unfolding_all rfl) : PE X (.Compare a [op, op', op2] [b, c, d] pos) (tChain3 r r' r2 ta tb tc td) := by
  refine ⟨fun pins s σ H Q I h => ?_⟩
  refine Compare_chain (thn (ha.run pins s σ H _ I h) fun v s1 ⟨x, H1, I1, r1, q1⟩ => chain_link (thn (hb.run pins s1 σ H1 _ I1 q1) fun u s2 ⟨y, H2, I2, r2', q2⟩ =>
    thn (ho pins s2 σ H2 x y v u _ I2 r1 r2' q2) fun e s3 ⟨z, H3, I3, r3, k, ez, q3⟩ => ?_)) hm
  subst ez
  cases r3
  refine wpAny_truthy_bool ?_
  cases k with
  | false => exact ite_ff ⟨.bl false, H3, I3, rfl, q3⟩
  | true =>
    refine ite_tt (chain_link (thn (hc.run pins s3 σ H3 _ I3 q3) fun w' s4 ⟨z', H4, I4, r4, q4⟩ => thn (ho' pins s4 σ H4 y z' u w' _ I4 r2' r4 q4) fun e5 s5 ⟨z5, H5, I5, r5, k5, ez5, q5⟩ => ?_))
    subst ez5
    cases r5
    refine wpAny_truthy_bool ?_
    cases k5 with
    | false => exact ite_ff ⟨.bl false, H5, I5, rfl, q5⟩
    | true => exact ite_tt (chain_last (thn (hd.run pins s5 σ H5 _ I5 q5) fun w6 s6 ⟨z6, H6, I6, r6, q6⟩ => ho2 pins s6 σ H6 z' z6 w' w6 Q I6 r4 r6 q6))
def mChain3 (f g h : PyData → PyData → Option MV) (a b c d : ME) : ME := fun μ => (a μ).bind fun p => (b p.2).bind fun q => (deref q.2 p.1).bind fun x => (deref q.2 q.1).bind fun y => (f x y).bind fun z => (asD z).bind fun e => (isB e).bind fun k =>
  if k = true then (c q.2).bind fun r => (deref r.2 q.1).bind fun y2 => (deref r.2 r.1).bind fun w => (g y2 w).bind fun z => (asD z).bind fun e => (isB e).bind fun k => if k = true then (d r.2).bind fun s => (deref s.2 r.1).bind fun w2 => (deref s.2 s.1).bind fun v => (h w2 v).map fun z => (z, s.2) else some (.dat (.bool false), r.2)
  else some (.dat (.bool false), q.2)
theorem qe_chain3 {a b c d : Expr} {op op' op2 : CmpOp} {pos : Pos} {f g h : PyData → PyData → Option MV} {ma mb mc md : ME} (ho : OpOk X (compareOp op) f) (ho' : OpOk X (compareOp op') g) (ho2 : OpOk X (compareOp op2) h) (ha : PE X a (tE A ma)) (hb : PE X b (tE A mb)) (hc : PE X c (tE A mc)) (hd : PE X d (tE A md))
    (hm : lastMarks [op, op', op2] [b, c, d] = false := by with_unfolding_all rfl) : PE X (.Compare a [op, op', op2] [b, c, d] pos) (tE A (mChain3 f g h ma mb mc md)) := by
  obtain ⟨r, hr, hf⟩ := ho
  obtain ⟨r', hr', hg⟩ := ho'
  obtain ⟨r2, hr2, hh⟩ := ho2
  refine pe_to (pe_chain3 hr hr' hr2 ha hb hc hd hm) fun σ H Q ⟨G, μ, z, μ', R, e, k⟩ => ?_
  obtain ⟨p, e1, e⟩ := bind2 e
  obtain ⟨q, e2, e⟩ := bind2 e
  obtain ⟨x, e3, e⟩ := bind2 e
  obtain ⟨y, e4, e⟩ := bind2 e
  obtain ⟨z1, e5, e⟩ := bind2 e
  obtain ⟨d1, e6, e⟩ := bind2 e
  obtain ⟨k1, e7, e⟩ := bind2 e
  refine ⟨G, μ, p.1, p.2, R, e1, fun G1 H1 v1 s1 R1 q1 n1 => ⟨G1, p.2, q.1, q.2, R1, e2, fun G2 H2 v2 s2 R2 q2 n2 => ?_⟩⟩
  have q1' := q1.step s2
  refine hf G2 H2 v1 v2 x y z1 _ R2.ext (q1'.db R2 e3) (q2.db R2 e4) e5 fun G3 H3 w g3 r3 => ?_
  have ez : z1 = .dat d1 := by
    cases z1 <;> first | (cases e6; rfl) | cases e6
  subst ez
  have r3 : Dq G3 w d1 := r3
  rw [isB_some e7] at r3
  have ew := dq_bl r3
  refine ⟨k1, ew, ?_⟩
  have s3 := (s1.trans s2).trans g3.step
  have R3 := R2.grow g3
  cases k1 with
  | false =>
    rw [if_neg Bool.false_ne_true] at e ⊢
    cases e
    exact k G3 H3 _ s3 R3 (.bl false) trivial
  | true =>
    rw [if_pos rfl] at e ⊢
    obtain ⟨r, e8, e⟩ := bind2 e
    obtain ⟨y2, e9, e⟩ := bind2 e
    obtain ⟨w2, e10, e⟩ := bind2 e
    obtain ⟨z2, e11, e⟩ := bind2 e
    obtain ⟨d2, e12, e⟩ := bind2 e
    obtain ⟨k2, e13, e⟩ := bind2 e
    refine ⟨G3, q.2, r.1, r.2, R3, e8, fun G4 H4 v3 s4 R4 q4 n4 => ?_⟩
    have q2' := (q2.step g3.step).step s4
    refine hg G4 H4 v2 v3 y2 w2 z2 _ R4.ext (q2'.db R4 e9) (q4.db R4 e10) e11 fun G5 H5 w5 g5 r5 => ?_
    have ez : z2 = .dat d2 := by
      cases z2 <;> first | (cases e12; rfl) | cases e12
    subst ez
    have r5 : Dq G5 w5 d2 := r5
    rw [isB_some e13] at r5
    refine ⟨k2, dq_bl r5, ?_⟩
    have s5 := (s3.trans s4).trans g5.step
    have R5 := R4.grow g5
    cases k2 with
    | false =>
      rw [if_neg Bool.false_ne_true] at e ⊢
      cases e
      exact k G5 H5 _ s5 R5 (.bl false) trivial
    | true =>
      rw [if_pos rfl] at e ⊢
      obtain ⟨t, e14, e⟩ := bind2 e
      obtain ⟨w3, e15, e⟩ := bind2 e
      obtain ⟨v5, e16, e⟩ := bind2 e
      obtain ⟨z3, e17, e18⟩ := map2 e
      cases e18
      refine ⟨G5, r.2, t.1, t.2, R5, e14, fun G6 H6 v4 s6 R6 q6 n6 => ?_⟩
      have q4' := (q4.step g5.step).step s6
      refine hh G6 H6 v3 v4 w3 v5 _ Q R6.ext (q4'.db R6 e15) (q6.db R6 e16) e17 fun G7 H7 v7 g7 r7 => ?_
      exact k G7 H7 v7 ((s5.trans s6).trans g7.step) (R6.grow g7) (r7.rel R6) ((r7.nw.back s6).back s5)
theorem qe_globS {x : Str} {pos : Pos} {v : Str} {t : Tok} (hm : X.mg x = some (.str v t)) (hg : Gl X x := by rfl) (hd : (x == ("__debug__" : Str)) = false := by decide) : PE X (.Name x pos) (tE A (mC (.str v))) := qe_c (pe_glob (v := .str v) hg hm ⟨t, rfl⟩ hd) fun _ => .str _
/-! ### not x, by truth -/
def mNotTr (m : ME) : ME := fun μ => (m μ).bind fun p => (deref p.2 p.1).bind fun a => (tru a).map fun b => (.dat (.bool (!b)), p.2)
theorem qe_notT {a : Expr} {pos : Pos} {m : ME} (h : PE X a (tE A m)) : PE X (.UnaryOp .Not a pos) (tE A (mNotTr m)) := pe_to (pe_notT h) fun σ H Q ⟨G, μ, z, μ', R, e, k⟩ => by
  obtain ⟨p, e1, e⟩ := bind2 e
  obtain ⟨x, e2, e⟩ := bind2 e
  obtain ⟨b, e3, e⟩ := map2 e
  cases e
  exact ⟨G, μ, p.1, p.2, R, e1, fun G1 H1 v s1 R1 q1 n1 => ⟨b, tru_ok R1.ext (q1.db R1 e2) e3, k G1 H1 _ s1 R1 (.bl _) trivial⟩⟩
/-! ### tests: a if c else b; a test with own lists lent -/
theorem pt_ifExp {c a b : Expr} {pos : Pos} {tc ta tb : TT} (hc : PT X c tc) (ha : PT X a ta) (hb : PT X b tb) : PT X (.IfExp c a b pos) (fun σ H Q => tc σ H fun d H1 => if d = true then ta σ H1 Q else tb σ H1 Q) := by
  refine ⟨fun pins s σ H Q I h => ?_⟩
  refine isTrue_IfExp (thn (hc.run pins s σ H _ I h) fun d s1 ⟨H1, I1, q1⟩ => ?_)
  cases d with
  | true => exact ha.run pins s1 σ H1 Q I1 q1
  | false => exact hb.run pins s1 σ H1 Q I1 q1
def mIfT (c a b : MT) : MT := fun μ => (c μ).bind fun p => if p.1 = true then a p.2 else b p.2
theorem qt_ifE {c a b : Expr} {pos : Pos} {mc m n : MT} (hc : PT X c (tMT A mc)) (h : PT X a (tMT A m)) (h2 : PT X b (tMT A n)) : PT X (.IfExp c a b pos) (tMT A (mIfT mc m n)) :=
  pt_to (pt_ifExp hc h h2) fun σ H Q ⟨G, μ, c, μ', R, e, k⟩ => by
    obtain ⟨⟨p1, p2⟩, e1, e⟩ := bind2 e
    refine ⟨G, μ, p1, p2, R, e1, fun G1 H1 s1 R1 => ?_⟩
    cases p1 with
    | true =>
      rw [if_pos rfl] at e ⊢
      exact ⟨G1, p2, c, μ', R1, e, fun G2 H2 s2 R2 => k G2 H2 (s1.trans s2) R2⟩
    | false =>
      rw [if_neg Bool.false_ne_true] at e ⊢
      exact ⟨G1, p2, c, μ', R1, e, fun G2 H2 s2 R2 => k G2 H2 (s1.trans s2) R2⟩
def mLendT (O : List Nat) (m : MT) : MT := fun μ => if O.all (fun i => match μ[i]? with | some (some (.dict _)) => false | _ => true) = true then (m μ).map fun p => (p.1, μ) else none
theorem qt_lend {e : Expr} {m : MT} {O : List Nat} (h : ∀ G0 H0 : Hp, PT X e (tMT (act0 [] G0 H0) m)) (hO : A.O = O := by rfl) : PT X e (tMT A (mLendT O m)) := by
  refine ⟨fun pins s σ H Q I ⟨G, μ, z, μ', R, e, k⟩ => ?_⟩
  have e : (if O.all (fun i => match μ[i]? with | some (some (.dict _)) => false | _ => true) = true then (m μ).map fun p => (p.1, μ) else none) = some (z, μ') := e
  split at e
  case isFalse => cases e
  rename_i ha
  have nd : ∀ i ∈ A.O, ∀ es, μ[i]? ≠ some (some (.dict es)) := fun i hi es hq => by
    have := List.all_eq_true.mp ha i (hO ▸ hi)
    rw [hq] at this
    cases this
  obtain ⟨p, e1, e⟩ := map2 e
  cases e
  refine (h H H).run pins s σ H Q I ⟨H, μ, p.1, p.2, rl_lend R nd, e1, fun G1 H1 s1 R1 => ?_⟩
  have sm : Same H H1 := fun a o ha => s1.h a o ha fun ⟨i, hi, _⟩ => by cases hi
  have g2 : Grow G H G H1 := ⟨.refl _, sm, R.ext.trans sm, fun _ _ h => h⟩
  exact k G H1 g2.step (R.grow g2)
end
end ML

set_option maxRecDepth 100000
set_option maxHeartbeats 4000000
namespace ML
open PySem PySem.Spec PyProof.Rows L2 RZ
variable [KF]
section
variable {X : Cx} {A : Act}
/-! ### x[i] += e, x an own list -/
def rGetL : V → V → Hp → VK → Prop := fun o i H Q => ∃ p xs k v, o = .ref p ∧ i = .int k ∧ H p = some (.lst xs) ∧ L2.atI xs k = some v ∧ Q v H
theorem get_list : PGet X rGetL := by
  intro pins s σ H o i ov iv Q I ro ri h
  obtain ⟨p, xs, k, z, rfl, rfl, hp, he, q⟩ := h
  cases ro
  obtain ⟨t, rfl⟩ := ri
  obtain ⟨its, r, pl, hz⟩ := I.list (SqL.of hp)
  obtain ⟨j, h1, h2, h3, h4, h5⟩ := atI_get he
  obtain ⟨w, ew, rw'⟩ := r.get h2
  have hl := r.length
  have hn := line63
  have fin : EP X pins σ Q w s := ⟨z, H, I, rw', q⟩
  by_cases h0 : 0 ≤ k
  · have hj : k.toNat = j := by
      rw [seqIndex_of h0 h5] at h1
      exact Option.some.inj h1
    exact wpAny_getItem_list pl.isList h0 (by omega) (by rw [hj]; simpa using ew) fin
  · have hj : (k + (its.toArray.size : Int)).toNat = j := by
      rw [seqIndex_neg (by omega) h4] at h1
      rw [List.size_toArray, ← hl]
      exact Option.some.inj h1
    exact wpAny_getItem_list_neg pl.isList (by omega) (by rw [List.size_toArray] <;> omega) (by omega) (by rw [hj]; simpa using ew) fin
def sSetA (i : Nat) (f : PyData → PyData → Option PyData) (m n : ME) : MS := fun μ => (getL μ i).bind fun _ => (n μ).bind fun q => (deref q.2 q.1).bind fun a => (isI a).bind fun j => (getL q.2 i).bind fun ds0 => (L2.atI ds0 j).bind fun u => (m q.2).bind fun p => (deref p.2 p.1).bind fun b => (f u b).bind fun z => (getL p.2 i).bind fun ds => (ixN ds.length j).map fun c => .nx (p.2.set i (some (.list (ds.set c z))))
theorem qs_setA {x : Str} {px : Pos} {e ix : Expr} {op : Operator} {pos spos : Pos} {f : PyData → PyData → Option PyData} {m n : ME} (i : Nat) (ho : IpOk X op f) (he : PE X e (tE A m)) (hix : PE X ix (tE A n)) (hO : A.O.contains i = true := by rfl) (hN : X.N[i]? = some x := by rfl) (hv : Vis X.env.scope x := by first | exact Or.inl rfl | exact Or.inr (Or.inl rfl) | exact Or.inr (Or.inr rfl)) (hd : (x == ("__debug__" : Str)) = false := by decide)
    (hcd : (x == ("__classdict__" : Str)) = false := by decide)
    (ha : ∀ ov iv new, augStore ix ov iv new = (do holding [new, ov, iv] (setItem ov iv new); release [new, ov, iv] []; pure .next) := by intros; rfl) :
    PS X (.AugAssign (.Subscript (.Name x px) ix spos) op e pos) (tS A (sSetA i f m n)) := by
  obtain ⟨t, ht, hh⟩ := ho
  refine ps_to (ps_augS (pv i hN hv hd hcd) hix get_list he ht set_list ha) fun D σ H ⟨G, μ, o, R, e, k⟩ => ?_
  obtain ⟨ds00, e0, e⟩ := bind2 e
  obtain ⟨q, e4, e⟩ := bind2 e
  obtain ⟨a, e5, e⟩ := bind2 e
  obtain ⟨j, e6, e⟩ := bind2 e
  obtain ⟨ds0, e7, e⟩ := bind2 e
  obtain ⟨u, e8, e⟩ := bind2 e
  obtain ⟨p, e1, e⟩ := bind2 e
  obtain ⟨b, e2, e⟩ := bind2 e
  obtain ⟨z, e3, e⟩ := bind2 e
  obtain ⟨ds, e9, e⟩ := bind2 e
  obtain ⟨c, e10, e⟩ := map2 e
  cases e
  obtain ⟨a1, vs, ds1, f1, f2, f3, f4, f5, f6⟩ := R.ownL i (getL_some e0) (inO hO)
  refine ⟨.ref a1, f2, G, μ, q.1, q.2, R, e4, fun G2 H2 w s2 R2 q2 n2 => ?_⟩
  obtain ⟨a2, vs2, ds2, g1, g2, g3, g4, g5, g6⟩ := R2.ownL i (getL_some e7) (inO hO)
  have ea : a2 = a1 := V.ref.inj (Option.some.inj (Option.some.inj (g2.symm.trans f2)))
  subst ea
  cases g1
  have hw := q2.db R2 e5
  rw [isI_some e6] at hw
  obtain ⟨v, hv1, hv2⟩ := atI_rel g4 e8
  refine ⟨a2, vs2, j, v, rfl, hw.i, g3, hv1, ?_⟩
  refine ⟨G2, q.2, p.1, p.2, R2, e1, fun G3 H3 w3 s3 R3 q3 n3 => ?_⟩
  refine hh G3 H3 v w3 u b z _ R3.ext (.dat (dq_mono s3.g hv2)) (q3.db R3 e2) e3 fun nv hnv => ?_
  obtain ⟨a3, vs3, ds3, k1, k2, k3, k4, k5, k6⟩ := R3.ownL i (getL_some e9) (inO hO)
  have eb : a3 = a2 := V.ref.inj (Option.some.inj (Option.some.inj (k2.symm.trans g2)))
  subst eb
  cases k1
  refine ⟨a3, vs3, j, c, rfl, hw.i, k3, by rw [dqa_len k4]; exact e10, ?_⟩
  obtain ⟨R4, s4⟩ := R3.upd (inO hO) k2 (getL_some e9) (dqa_set c k4 hnv)
  exact k σ G3 _ (s2.g.trans s3.g) R4
/-! ### max, min of a list of ints -/
def maxI : List Int → Option Int
  | [] => none
  | a :: l => match maxI l with | none => some a | some b => some (max a b)
theorem maxI_some : ∀ {l : List Int} {b : Int}, maxI l = some b → b ∈ l ∧ ∀ n ∈ l, n ≤ b
  | [], _, h => by cases h
  | a :: l, b, h => by
    unfold maxI at h
    cases e : maxI l with
    | none =>
      rw [e] at h
      cases h
      have : l = [] := by
        cases l with
        | nil => rfl
        | cons c r =>
          unfold maxI at e
          cases f : maxI r with
          | none => rw [f] at e; cases e
          | some d => rw [f] at e; cases e
      subst this
      exact ⟨by simp, fun n hn => by simp at hn; omega⟩
    | some d =>
      rw [e] at h
      have h : max a d = b := Option.some.inj h
      obtain ⟨h1, h2⟩ := maxI_some e
      subst h
      refine ⟨?_, fun n hn => ?_⟩
      · by_cases q : a ≤ d
        · rw [Int.max_eq_right q]; exact List.mem_cons_of_mem _ h1
        · rw [Int.max_eq_left (by omega)]; exact List.mem_cons_self ..
      · rcases List.mem_cons.mp hn with r | r
        · omega
        · have := h2 n r; omega
theorem maxI_ne {l : List Int} {b : Int} (h : maxI l = some b) : l ≠ [] := fun e => by rw [e] at h; cases h
def minI (l : List Int) : Option Int := (maxI (l.map fun n => -n)).map fun n => -n
theorem minI_some {l : List Int} {b : Int} (h : minI l = some b) : b ∈ l ∧ ∀ n ∈ l, b ≤ n := by
  unfold minI at h
  cases e : maxI (l.map fun n => -n) with
  | none => rw [e] at h; cases h
  | some d =>
    rw [e] at h
    have h : -d = b := Option.some.inj h
    obtain ⟨h1, h2⟩ := maxI_some e
    obtain ⟨c, hc, e2⟩ := List.mem_map.mp h1
    have : b = c := by omega
    subst this
    exact ⟨hc, fun n hn => by have := h2 (-n) (List.mem_map.mpr ⟨n, hn, rfl⟩); omega⟩
theorem minI_ne {l : List Int} {b : Int} (h : minI l = some b) : l ≠ [] := fun e => by rw [e] at h; cases h
def dMax1 : PyData → Option MV
  | .list ds => (intsOf ds).bind fun ns => (maxI ns).map fun m => .dat (.int m)
  | _ => none
def dMin1 : PyData → Option MV
  | .list ds => (intsOf ds).bind fun ns => (minI ns).map fun m => .dat (.int m)
  | _ => none
theorem ok_max1 (hc : X.calm = true := by rfl) : CallOk X (.builtin "max") (c1 dMax1) := ok_c1 (cr_max hc) fun G H x a z Q e hx hz k => by
  cases a <;> first | (cases hz; done) | skip
  obtain ⟨ns, e1, hz⟩ := bind2 hz
  obtain ⟨m, e2, e3⟩ := map2 hz
  cases e3
  cases intsOf_some e1
  obtain ⟨p, vs, rfl, h1, h2⟩ := hx.l e
  cases dqa_ints h2
  obtain ⟨m1, m2⟩ := maxI_some e2
  refine ⟨p, ns, rfl, .inl h1, List.length_pos_iff.mpr (maxI_ne e2), fun w w1 w2 => ?_⟩
  have : w = m := by
    have := w2 m m1
    have := m2 w w1
    omega
  subst this
  exact k G H _ (.refl e) (.int _)
theorem ok_min1 (hc : X.calm = true := by rfl) : CallOk X (.builtin "min") (c1 dMin1) := ok_c1 (cr_min hc) fun G H x a z Q e hx hz k => by
  cases a <;> first | (cases hz; done) | skip
  obtain ⟨ns, e1, hz⟩ := bind2 hz
  obtain ⟨m, e2, e3⟩ := map2 hz
  cases e3
  cases intsOf_some e1
  obtain ⟨p, vs, rfl, h1, h2⟩ := hx.l e
  cases dqa_ints h2
  obtain ⟨m1, m2⟩ := minI_some e2
  refine ⟨p, ns, rfl, .inl h1, List.length_pos_iff.mpr (minI_ne e2), fun w w1 w2 => ?_⟩
  have : w = m := by
    have := w2 m m1
    have := m2 w w1
    omega
  subst this
  exact k G H _ (.refl e) (.int _)
end
end ML

set_option maxRecDepth 100000
set_option maxHeartbeats 4000000
/-! ### dict(l), l a list of pairs whose keys are tuples of ints -/
namespace ML
open PySem PySem.Spec PyProof.Rows L2 RZ HT
section
variable {prog : Program} {w : World} {A : Around} {E : Value → Shared → Prop}
theorem key_but {I : Addr} {h h' : Heap} {k : List Int} {a : Addr} (e : ∀ b o, b ≠ I → h.get? b = some o → h'.get? b = some o) (ha : a ≠ I) (hk : IsTupleKey (intKind prog w) h k a) : IsTupleKey (intKind prog w) h' k a := by
  obtain ⟨ob, its, n, g1, g2, g3, g4⟩ := hk
  exact ⟨ob, its, n, e _ _ ha g1, g2, g3, g4⟩
theorem dict_but {I S : Addr} {h h' : Heap} {xs : List (List Int × Addr × Value)} (e : ∀ b o, b ≠ I → h.get? b = some o → h'.get? b = some o) (hS : S ≠ I) (hx : ∀ x ∈ xs, x.2.1 ≠ I) (dd : h.DictOfH (tupleKind (intKind prog w)) S xs) : h'.DictOfH (tupleKind (intKind prog w)) S xs := by
  obtain ⟨o, es, ep, h1, h2, h3, h4, h5, h6⟩ := id dd
  exact ⟨o, es, ep, e _ _ hS h1, h2, h3, h4, fun x hm => key_but e (hx x hm) (show IsTupleKey (intKind prog w) h x.1 x.2.1 from h5 x hm), h6⟩
theorem upd_loopT {R : Result → Shared → Prop} {S I l : Addr} {items : Array Value} {res : Value} (hu : (tupleKind (intKind prog w)).room A.in1) (hh : A.handled = none) (hlI : l ≠ I) (hSI : S ≠ I) (hSl : S ≠ l) :
    ∀ (rest : List (List Int × Addr × Value)) (i : Nat) (acc : List (List Int × Addr × Value)) (ix : Int) (t : Tok) (s : Shared), items.size = i + rest.length → acc.length + rest.length ≤ sizeLine → ((acc ++ rest).map (·.1)).Nodup → (∀ x ∈ acc, x.2.1 ≠ I) →
      (∀ (j : Nat) (q : List Int × Addr × Value), rest[j]? = some q → ∃ b : Addr, items[i + j]? = some (.ref b) ∧ b ≠ S ∧ b ≠ I ∧ IsTup s.heap b #[.ref q.2.1, q.2.2] ∧ q.2.1 ≠ S ∧ q.2.1 ≠ I ∧ IsTupleKey (intKind prog w) s.heap q.1 q.2.1) →
      s.heap.IsListIter I l i → s.heap.IsList l items → s.heap.DictOfH (tupleKind (intKind prog w)) S acc →
      (∀ h' tk, h'.DictOfH (tupleKind (intKind prog w)) S (acc ++ rest) → (∀ b o, b ≠ S → b ≠ I → s.heap.get? b = some o → h'.get? b = some o) → R (.ok (.ret res)) { s with heap := h', toks := tk }) →
      codeAny (model prog w) A (.builtin "dict.update.loop" ⟨[.ref S, .ref I, .int ix t, res], []⟩) R s
  | [], i, acc, ix, t, s, hsz, hln, hnd, hac, ht, hit, hl, hm, hR => by
    refine codeAny_builtin ud_entry ?_
    rw [Around.under_plainId ud_plain _]
    show wpAny _ A.in1 (pyNext (.ref I) >>= _) _ _ s
    refine wpAny_bind (wpAny_pyNext_list_end (A := A.in1) hh hit hl (by first | exact Array.getElem?_eq_none (Nat.le_of_eq hsz) | (simp at hsz; simp; omega)) fun h' he => ?_)
    show wpAny _ A.in1 (Builtin.Dict.addKeywords S [] >>= _) _ _ _
    refine wpAny_bind (wpAny_pure (wpAny_pure ?_))
    refine hR h' s.toks ?_ fun b o _ hb e => he b o hb e
    rw [List.append_nil]
    exact dict_but (fun b o hb e => he b o hb e) hSI hac hm
  | q :: rest, i, acc, ix, t, s, hsz, hln, hnd, hac, ht, hit, hl, hm, hR => by
    obtain ⟨b, hb, hbS, hbI, htup, hkS, hkI, hk⟩ := ht 0 q rfl
    rw [List.length_cons] at hsz hln
    refine codeAny_builtin ud_entry ?_
    rw [Around.under_plainId ud_plain _]
    show wpAny _ A.in1 (pyNext (.ref I) >>= _) _ _ s
    refine wpAny_bind (wpAny_pyNext_list_item (x := .ref b) hit hl (by simpa using hb) fun h1 hit1 hs1 => ?_)
    have e1 : ∀ c o, c ≠ I → s.heap.get? c = some o → h1.get? c = some o := fun c o hc e => hs1.extBut c o hc e
    have ht1 : IsTup h1 b #[.ref q.2.1, q.2.2] := htup.extBut hs1.extBut hbI
    have hl1 : h1.IsList l items := hl.extBut hs1.extBut hlI
    have hm1 : h1.DictOfH (tupleKind (intKind prog w)) S acc := dict_but e1 hSI hac hm
    have hk1 : IsTupleKey (intKind prog w) h1 q.1 q.2.1 := key_but e1 hkI hk
    obtain ⟨o, ho, hc, n, hd⟩ := id ht1
    show wpAny _ A.in1 (holding [Value.ref b] _ >>= _) _ _ _
    refine wpAny_bind (wpAny_holding ?_)
    refine wpAny_bind (wpAny_tryCatch ?_)
    unfold Builtin.Dict.pairItems
    refine wpAny_bind (wpAny_typeOf (T := "tuple") ⟨o, ho, hc⟩ ?_)
    rw [if_pos (by first | decide | rfl | simp)]
    refine wpAny_bind (wpAny_seqItems ho hd (wpAny_pure ?_))
    show wpAny _ A.in1 (holding [.ref q.2.1, q.2.2] (dictSet S (.ref q.2.1) q.2.2)) _ _ _
    have fresh : atKey acc q.1 = none := by
      refine atKey_none_of_get fun j p e => ?_
      rw [List.map_append, List.map_cons, List.nodup_append] at hnd
      exact hnd.2.2 q.1 (List.mem_map.mpr ⟨(q.1, p), List.mem_of_getElem? e, rfl⟩) q.1 List.mem_cons_self rfl
    refine wpAny_holding (wpAny_dictSet_heap (knd := tupleKind (intKind prog w)) (k := q.1) hu hk1 hm1 (fun h2 hm2 hs2 => ?_) (by omega))
    have est : storedH acc q.1 q.2.1 q.2.2 = acc ++ [q] := by rw [storedH_new fresh]
    rw [est] at hm2
    have e2 : ∀ c o, c ≠ S → h1.get? c = some o → h2.get? c = some o := fun c o hc e => (hs2.2 c hc).trans e
    refine wpAny_pure ⟨plainId_quiet ud_plain _, upd_loopT (items := items) hu hh hlI hSI hSl rest (i + 1) (acc ++ [q]) (ix + 1) 0 _ (show items.size = i + 1 + rest.length by omega) ?_ (by rw [List.append_assoc]; exact hnd) (fun x hx => ?_) (fun j q' e => ?_) ?_ ?_ hm2 fun h' tk hd' k => ?_⟩
    · rw [List.length_append]; simp; omega
    · rcases List.mem_append.mp hx with h | h
      · exact hac x h
      · rw [List.mem_singleton] at h
        rw [h]; exact hkI
    · obtain ⟨b', hb', hbS', hbI', htup', hkS', hkI', hk'⟩ := ht (j + 1) q' (by simpa using e)
      refine ⟨b', ?_, hbS', hbI', (htup'.extBut hs1.extBut hbI').extBut hs2.extBut hbS', hkS', hkI', key_but e2 hkS' (key_but e1 hkI' hk')⟩
      rw [show i + 1 + j = i + (j + 1) by omega]
      exact hb'
    · exact hit1.at fun o' e => e2 I o' (Ne.symm hSI) e
    · exact hl1.extBut hs2.extBut (Ne.symm hSl)
    · refine hR h' tk (by rw [List.append_assoc] at hd'; exact hd') fun c oc h3 h4 e => k c oc h3 h4 (e2 c oc h3 (e1 c oc h4 e))
theorem call_dict_pairsT {s : Shared} {l : Addr} {ol : Obj} {items : Array Value} {n : Nat} {prs : List (List Int × Addr × Value)} {Q : Value → Shared → Prop} (hu : A.units + 8 < cLine) (hh : A.handled = none) (hl : s.heap.get? l = some ol) (hc : ol.cls = .type "list") (hd : ol.dict = none)
    (hdat : ol.data = .seq items n) (hsz : items.size = prs.length) (hln : prs.length ≤ sizeLine) (hnd : (prs.map (·.1)).Nodup)
    (ht : ∀ (j : Nat) (q : List Int × Addr × Value), prs[j]? = some q → ∃ b : Addr, items[j]? = some (.ref b) ∧ IsTup s.heap b #[.ref q.2.1, q.2.2] ∧ IsTupleKey (intKind prog w) s.heap q.1 q.2.1)
    (h : ∀ h' tk, h'.DictOfH (tupleKind (intKind prog w)) s.heap.objs.size prs → (∀ b o, s.heap.get? b = some o → h'.get? b = some o) → Q (.ref s.heap.objs.size) { s with heap := h', toks := tk }) :
    wpAny (model prog w) A (call (.type "dict") [.ref l]) Q E s := by
  refine callType_codes (Q₁ := fun obj s₁ => obj = .ref s.heap.objs.size ∧ s₁ = { s with heap := s.heap.push { cls := .type "dict", data := .dict #[] } }) PySem.F.kt_called_dict (PySem.F.kt_typeCall_dict_1 _) PySem.F.entry_dict_init (kt_code_dict_new _ ⟨rfl, rfl⟩) ?_
  rintro obj s₁ ⟨rfl, rfl⟩
  have hnew := Heap.DictOfH.new (knd := tupleKind (intKind prog w)) s.heap
  have k0 : ∀ b o, s.heap.get? b = some o → (s.heap.push { cls := .type "dict", data := .dict #[] }).get? b = some o := fun b o e => Heap.get?_push_of_some _ e
  refine ⟨hnew.typeIs, PySem.F.args_dict_init_2 _ _, ?_⟩
  unfold Builtin.«dict.__init__»
  refine wpAny_bind ?_
  unfold Builtin.Dict.selfAndRest
  refine wpAny_bind (wpAny_notOrdered_dict hnew.typeIs ?_)
  show wpAny _ _ (pure (s.heap.objs.size, [Value.ref l])) _ _ _
  refine wpAny_pure ?_
  show wpAny _ _ (Builtin.Dict.updateFrom "dict.__init__" s.heap.objs.size (.ref l) [] .none) _ _ _
  unfold Builtin.Dict.updateFrom
  refine wpAny_bind (wpAny_typeOf (T := "list") ⟨ol, k0 _ _ hl, hc⟩ ?_)
  rw [if_pos (by first | decide | rfl | simp)]
  refine wpAny_bind (miss_list (k0 _ _ hl) hc hdat hd hh fun h1 tk1 hk1 => ?_)
  rw [if_pos (show (none : Option Value).isNone = true from rfl)]
  refine wpAny_bind (wpAny_rule ?_)
  have hl1 : h1.IsList l items := ⟨ol, hk1 _ _ (k0 _ _ hl), hc, n, hdat⟩
  have hS1 : s.heap.objs.size < h1.objs.size := by
    have e : (s.heap.push { cls := .type "dict", data := .dict #[] }).get? s.heap.objs.size = some { cls := .type "dict", data := .dict #[] } := Heap.get?_push_size _ rfl
    exact Heap.lt_size (hk1 _ _ e)
  refine wpAny_bind (wpAny_pyIter_list hl1 ?_)
  have k2 : ∀ b o, h1.get? b = some o → (h1.push { cls := .type "list_iterator", data := .fields #[.ref l, .int 0 0] }).get? b = some o := fun b o e => Heap.get?_push_of_some _ e
  have hlt : l < s.heap.objs.size := Heap.lt_size hl
  have kall : ∀ b o, s.heap.get? b = some o → (h1.push { cls := .type "list_iterator", data := .fields #[.ref l, .int 0 0] }).get? b = some o := fun b o e => k2 _ _ (hk1 _ _ (k0 _ _ e))
  have dnew : (h1.push { cls := .type "list_iterator", data := .fields #[.ref l, .int 0 0] }).DictOfH (tupleKind (intKind prog w)) s.heap.objs.size [] := by
    obtain ⟨o, es, ep, g1, g2, g3, g4, g5, g6⟩ := hnew
    exact ⟨o, es, ep, k2 _ _ (hk1 _ _ g1), g2, g3, g4, fun x hx => (by cases hx), g6⟩
  have key := upd_loopT (prog := prog) (w := w) (A := A.in1) (R := wants (fun r s₂ => r = .none ∧ Q (.ref s.heap.objs.size) s₂) E) (S := s.heap.objs.size) (I := h1.objs.size) (l := l) (items := items) (res := Value.none) (tupleKind_room_in1 (by show A.units + 1 + 1 < cLine; omega)) hh
    (Nat.ne_of_lt (Nat.lt_trans hlt hS1)) (Nat.ne_of_lt hS1) (Nat.ne_of_gt hlt) prs 0 [] 0 0
    { s with heap := h1.push { cls := .type "list_iterator", data := .fields #[.ref l, .int 0 0] }, toks := tk1 } (by rw [hsz, Nat.zero_add]) (by rw [List.length_nil, Nat.zero_add]; exact hln) (by rw [List.nil_append]; exact hnd) (fun x hx => by cases hx)
    (fun j q e => by
      obtain ⟨b, e1, e2, e3⟩ := ht j q e
      have hb : b < s.heap.objs.size := e2.lt
      have hq : q.2.1 < s.heap.objs.size := by
        obtain ⟨ob, its, m, g1, _⟩ := e3
        exact Heap.lt_size g1
      refine ⟨b, by rw [Nat.zero_add]; exact e1, Nat.ne_of_lt hb, Nat.ne_of_lt (Nat.lt_trans hb hS1), e2.keeps fun c o z => kall _ _ z, Nat.ne_of_lt hq, Nat.ne_of_lt (Nat.lt_trans hq hS1), ?_⟩
      obtain ⟨ob, its, m, g1, g2, g3, g4⟩ := e3
      exact ⟨ob, its, m, kall _ _ g1, g2, g3, g4⟩)
    ⟨_, Heap.get?_push_size _ rfl, rfl, rfl⟩ (hl1.at fun o e => k2 _ _ e) dnew
    (fun h' tk hd' k => ⟨rfl, h h' tk (by rw [List.nil_append] at hd'; exact hd') fun b o e => k b o (Nat.ne_of_lt (Heap.lt_size e)) (Nat.ne_of_lt (Nat.lt_trans (Heap.lt_size e) hS1)) (kall _ _ e)⟩)
  first
    | exact wpAny_pure ⟨plainId_quiet ud_plain _, key⟩
    | exact wpAny_bind (wpAny_pure (wpAny_pure ⟨plainId_quiet ud_plain _, key⟩))
end
variable [KF]
section
variable {X : Cx} {A : Act}
theorem pairsT_of {pins : List (Addr × Obj)} {σ : L2.St} {H : Hp} {s : Shared} (I : L2.Inv X pins σ H s) : ∀ {ps : List Addr} {kvs : List (List Int × Addr × V)}, Paired (fun p kv => SqT X.K H p [V.ref kv.2.1, kv.2.2]) ps kvs → KeysT H kvs →
    ∃ prs : List (List Int × Addr × Value), RelT kvs prs ∧ prs.length = ps.length ∧ ∀ (j : Nat) (q : List Int × Addr × Value), prs[j]? = some q → ∃ b : Addr, ps[j]? = some b ∧ IsTup s.heap b #[.ref q.2.1, q.2.2] ∧ IsTupleKey (intKind X.prog X.w) s.heap q.1 q.2.1
  | _, _, .nil, _ => ⟨[], .nil, rfl, fun j q e => by simp at e⟩
  | _, _, .cons (a := p) (b := kv) h t, hk => by
    obtain ⟨prs, r, hl, hp⟩ := pairsT_of I t fun q hq => hk q (List.mem_cons_of_mem _ hq)
    obtain ⟨its, rv, ht, _⟩ := I.tuple h
    obtain ⟨u, y, ei, ru, ry⟩ := vals2 rv
    subst ei
    cases ru
    obtain ⟨ob, hb⟩ := hk kv (List.mem_cons_self ..)
    have it := I.isT (show SqT X.K H kv.2.1 (kv.1.map V.int) from .inl (.inr ⟨ob, hb⟩))
    refine ⟨(kv.1, kv.2.1, y) :: prs, .cons ⟨rfl, rfl, ry⟩ r, by rw [List.length_cons, List.length_cons, hl], fun j q e => ?_⟩
    cases j with
    | zero =>
      have e' : (kv.1, kv.2.1, y) = q := Option.some.inj e
      subst e'
      exact ⟨p, rfl, ht, it⟩
    | succ j =>
      obtain ⟨b, e1, e2, e3⟩ := hp j q (by simpa using e)
      exact ⟨b, by simpa using e1, e2, e3⟩
def rDictPT (X : Cx) : List V → Hp → VK → Prop := fun xs H Q => ∃ (a : Addr) (ps : List Addr) (kvs : List (List Int × Addr × V)), xs = [.ref a] ∧ SqL X.K H a (ps.map V.ref) ∧ Paired (fun p kv => SqT X.K H p [V.ref kv.2.1, kv.2.2]) ps kvs ∧ KeysT H kvs ∧ (kvs.map (·.1)).Nodup ∧
    ∀ p, H p = none → Q (.ref p) (upd H p (DiT p kvs))
theorem call_dictPT (hcalm : X.calm = true) (hu : X.A.units + 8 < cLine) : CallR X (.type "dict") (rDictPT X) := by
  intro pins s σ H xs us Q I r q
  obtain ⟨a, ps, kvs, ex, hq, hp, hk, hnd, q⟩ := q
  subst ex
  obtain ⟨u, eu, rx⟩ := vals1 r
  subst eu
  cases rx
  obtain ⟨its, rv, pl, hz⟩ := I.list hq
  have ei := refs_at rv
  subst ei
  rw [List.length_map] at hz
  obtain ⟨prs, rel, hl, hpr⟩ := pairsT_of I hp hk
  obtain ⟨o, n, ho, hc, hd, hdat⟩ := pl
  refine call_dict_pairsT (prs := prs) hu (I.ok.hd hcalm) ho hc hd hdat (by simp [hl]) (by rw [hl]; exact hz) (by rw [relT_map rel (fun k => k)]; exact hnd) (fun j q' e => ?_) fun h' tk hd' k => ?_
  · obtain ⟨b, e1, e2, e3⟩ := hpr j q' e
    exact ⟨b, by simp [e1], e2, e3⟩
  · have big : (s.heap.objs.size == sysModules) = false := beq_eq_false_iff_ne.mpr (Ne.symm (Nat.ne_of_lt I.big))
    have z : kvs.length ≤ sizeLine := by
      rw [Paired.length rel, hl]; exact hz
    exact ⟨.ref s.heap.objs.size, upd H s.heap.objs.size (DiT s.heap.objs.size kvs), I.laid (t' := tk) k (Nat.le_refl _) (di_new big z rel hd'), rfl, q _ (I.hok.fresh (Nat.le_refl _))⟩
/-- pairs whose first part is a tuple of ints -/
def pairsI : List PyData → Option (List (PyData × PyData))
  | [] => some []
  | .tuple [a, d] :: ds => (keyI a).bind fun _ => (pairsI ds).map fun es => (a, d) :: es
  | _ :: _ => none
theorem pairs_dq {G H : Hp} (e : Same G H) : ∀ {ds : List PyData} {vs : List V} {es : List (PyData × PyData)}, DqAll G vs ds → pairsI ds = some es →
    ∃ (ps : List Addr) (kvs : List (List Int × Addr × V)), vs = ps.map V.ref ∧ Paired (fun p kv => SqT X.K H p [V.ref kv.2.1, kv.2.2]) ps kvs ∧ DqKt G kvs es
  | [], _, es, h, hp => by
    cases h
    cases hp
    exact ⟨[], [], rfl, .nil, .nil⟩
  | d :: ds, _, es, h, hp => by
    cases h with
    | cons h1 h2 =>
      cases d with
      | tuple zs =>
        match zs, h1, hp with
        | [a, d], h1, hp =>
          have hp : ((keyI a).bind fun _ => (pairsI ds).map fun es => (a, d) :: es) = some es := hp
          obtain ⟨ki, k1, hp⟩ := bind2 hp
          obtain ⟨es', k2, k3⟩ := map2 hp
          cases k3
          obtain ⟨ps, kvs, rfl, pr, dk⟩ := pairs_dq e h2 k2
          cases h1 with
          | @tup b ob xs _ w1 w0 w2 =>
            cases w2 with
            | cons x1 w3 =>
              cases w3 with
              | cons x2 w4 =>
                cases w4
                have ea := keyI_some k1
                subst ea
                have x1 : Dq G _ (.tuple (ki.map .int)) := x1
                cases x1 with
                | @tup c oc ys _ y1 y0 y2 =>
                  cases dqa_ints y2
                  exact ⟨b :: ps, (ki, c, _) :: kvs, rfl, .cons (.inl (.inr ⟨ob, e _ _ w1⟩)) pr, .cons y1 y0 x2 dk⟩
      | _ => cases hp
def mDictP (m : ME) : ME := fun μ => (m μ).bind fun p => (deref p.2 p.1).bind fun D => (listD D).bind fun ds => (pairsI ds).bind fun es => (keysI es).bind fun ks => if ks.Nodup then some (.dat (.dict es), p.2) else none
theorem qe_dictP {k : Nat} {xe : Expr} {p pos2 : Pos} {m : ME} (hr : Rm k X.A) (he : PE X xe (tE A m)) (hg : Gl X "dict") (hm : X.mg "dict" = none) (hc : X.calm = true := by rfl)
    (hv : bootBuiltins "dict" = some (.type "dict") := by decide +kernel)
    (hs1 : starEach [xe] X.env = (false, eval xe X.env) :: starEach [] X.env := by rfl) (hpl : (backTo pos2 (starEach [] X.env)).any (·.1) = false := by rfl) :
    PE X (.Call (.Name "dict" p) [xe] [] pos2) (tE A (mDictP m)) :=
  pe_to (pe_frzT (pe_callTy (call_dictPT hc (by have := hr.un; omega)) hg hm hv (pa_cons he pa_nil hs1) (by decide) (by decide) hs1 hpl)) fun σ H Q ⟨G, μ, z, μ', R, e, kk⟩ => by
  obtain ⟨q, e1, e⟩ := bind2 e
  obtain ⟨d, e2, e⟩ := bind2 e
  obtain ⟨ds, e3, f⟩ := bind2 e
  have hD : d = .list ds := by
    cases d <;> first | (cases e3; done) | (cases e3; rfl)
  subst hD
  obtain ⟨es, e4, f⟩ := bind2 f
  obtain ⟨ks, e5, f⟩ := bind2 f
  split at f
  case isFalse => cases f
  rename_i hn
  cases f
  refine ⟨G, μ, q.1, q.2, R, e1, fun G1 H1 v s1 R1 q1 n1 => ?_⟩
  obtain ⟨a, vs, rfl, h1, h2⟩ := (q1.db R1 e2).l R1.ext
  obtain ⟨ps, kvs, rfl, pr, dk⟩ := pairs_dq (X := X) R1.ext h2 e4
  have ek := dqt_keysI dk
  rw [e5] at ek
  cases ek
  refine ⟨a, ps, kvs, rfl, .inl h1, pr, dqt_keys R1.ext dk, hn, fun t ht => .inr ⟨t, kvs, rfl, upd_same, fun o => ?_⟩⟩
  have hA : A.H t = none := by
    cases z : A.H t with
    | none => rfl
    | some o => exact absurd ht (R1.lv t (by rw [z]; exact fun z => nomatch z))
  have no : ¬ Own A σ t := fun ⟨i, hi, hs⟩ => R1.liv i t hi hs ht
  have gp : G1 t = none := R1.ext.free ht
  have sg : Same G1 (L2.upd G1 t (.frz o (DiT t kvs))) := fun c u z => by rw [upd_ne (ne_of_none z gp)]; exact z
  have st : Step A σ G H (L2.upd G1 t (.frz o (DiT t kvs))) (L2.upd (L2.upd H1 t (DiT t kvs)) t (.frz o (DiT t kvs))) := by
    refine ⟨s1.g.trans sg, fun c u hc nc => ?_, fun c hc gc => ?_, fun c hc => ?_⟩
    · have h := s1.h _ _ hc nc
      have ne : c ≠ t := fun z => by rw [z, ht] at h; cases h
      rw [upd_ne ne, upd_ne ne]
      exact h
    · have hl := s1.lv c hc
      have ne : c ≠ t := fun z => hl (z ▸ ht)
      rw [upd_ne ne]
      exact s1.fr c hc gc
    · have hl := s1.lv c hc
      have ne : c ≠ t := fun z => hl (z ▸ ht)
      rw [upd_ne ne, upd_ne ne]
      exact hl
  have R3 : Rl A (L2.upd G1 t (.frz o (DiT t kvs))) q.2 σ (L2.upd (L2.upd H1 t (DiT t kvs)) t (.frz o (DiT t kvs))) := by
    have R2' := (R1.other (o := DiT t kvs) gp hA no).other (o := .frz o (DiT t kvs)) gp hA no
    refine ⟨R2'.len, fun c u hc => ?_, R2'.up.trans sg, R2'.fr, R2'.lv, fun c h g => ?_, fun j d' h n => ?_, fun j d' hj n => ?_, R2'.liv, R2'.sep, R2'.par⟩
    · by_cases z : c = t
      · rw [z, upd_same] at hc
        rw [z, upd_same]
        exact hc
      · rw [upd_ne z] at hc
        exact R2'.ext _ _ hc
    · rw [upd_ne (fun z => h (by rw [z]; exact hA))]; exact R2'.fg c h g
    · obtain ⟨v, f1, f2⟩ := R2'.val j d' h n
      exact ⟨v, f1, dq_mono sg f2⟩
    · obtain ⟨q, ob', f1, f2, f3, f4, f5⟩ := R2'.own j d' hj n
      have ne : q ≠ t := fun z => no ⟨j, n, z ▸ f1⟩
      exact ⟨q, ob', f1, f2, f3.mono sg, by rw [upd_ne ne]; exact f4, f5⟩
  have dk3 : DqKt (L2.upd G1 t (.frz o (DiT t kvs))) kvs es := dqt_mono sg dk
  exact kk _ _ _ st R3 (.dicT upd_same dk3) trivial
end
end ML

set_option maxRecDepth 100000
set_option maxHeartbeats 4000000
/-! ### repr of data at any depth -/
namespace ML
open PySem PySem.Spec PyProof.Rows L2 RZ HT
mutual
def rsz : PyData → Nat
  | .none => 4
  | .bool _ => 5
  | .int i => if i.natAbs < 10 ^ 4 then 5 else 1921
  | .str x => (reprText x).length
  | .list xs => rszA xs + 3
  | .tuple xs => rszA xs + 3
  | .dict _ => 0
def rszA : List PyData → Nat
  | [] => 0
  | x :: xs => rsz x + 2 + rszA xs
end
mutual
theorem shown_rsz : ∀ d : PyData, d.hasDict = false → d.showable = true → d.shown.length ≤ rsz d
  | .none, _, _ => by decide
  | .bool b, _, _ => by cases b <;> decide
  | .int i, _, h => by
    have h' : i.natAbs.log2 < 1920 := by simpa [PyData.showable] using h
    show (Str.ofString (toString i)).length ≤ if i.natAbs < 10 ^ 4 then 5 else 1921
    split
    · rename_i q
      rw [PySem.ofString_length]
      exact int_text_length_le10 (by decide) q
    · exact int_text_len_1921 h'
  | .str x, _, _ => by rw [PyData.shown, rsz]; exact Nat.le_refl _
  | .list xs, n, h => by
    have e := shownAll_rsz xs (by simpa [PyData.hasDict] using n) (by simpa [PyData.showable] using h)
    have e2 := listText_len_le (PyData.shownAll xs)
    rw [PyData.shown, rsz]
    omega
  | .tuple xs, n, h => by
    have e := shownAll_rsz xs (by simpa [PyData.hasDict] using n) (by simpa [PyData.showable] using h)
    have e2 := tupleText_len_le (PyData.shownAll xs)
    rw [PyData.shown, rsz]
    omega
  | .dict _, n, _ => by simp [PyData.hasDict] at n
theorem shownAll_rsz : ∀ ds : List PyData, PyData.hasDictAll ds = false → PyData.showableAll ds = true → ((PyData.shownAll ds).map (·.length)).sum + 2 * (PyData.shownAll ds).length ≤ rszA ds
  | [], _, _ => by simp [PyData.shownAll, rszA]
  | d :: ds, n, h => by
    rw [PyData.hasDictAll, Bool.or_eq_false_iff] at n
    rw [PyData.showableAll, Bool.and_eq_true] at h
    have e1 := shown_rsz d n.1 h.1
    have e2 := shownAll_rsz ds n.2 h.2
    rw [PyData.shownAll, rszA, List.map_cons, List.sum_cons, List.length_cons]
    omega
end
def dRepr (d : PyData) : Option MV := if d.hasDict = false ∧ d.showable = true ∧ d.depth ≤ 60 ∧ rsz d ≤ 2 ^ 24 then some (.dat (.str d.shown)) else none
variable [KF]
section
variable {X : Cx} {A : Act}
theorem rel_heap {pins : List (Addr × Obj)} {σ : L2.St} {H : Hp} {s : Shared} {h' : Heap} (I : Inv X pins σ H s) (k : ∀ b o, s.heap.get? b = some o → h'.get? b = some o) (t : Nat) : Inv X pins σ H { s with heap := h', toks := t } :=
  I.un (Un.kept k) (I.hok.kept k)
theorem bt_repr : bootBuiltins "repr" = some (.builtin "repr") := by first | rfl | decide +kernel
def rRepr (K : PySem.W.Frag) : List V → Hp → VK → Prop := fun vs H Q => ∃ v d, vs = [v] ∧ Dp K H v d ∧ d.hasDict = false ∧ d.showable = true ∧ d.depth ≤ 60 ∧ rsz d ≤ 2 ^ 24 ∧ Q (.str d.shown) H
theorem call_repr {k : Nat} (hr : Rm k X.A) : CallR X (.builtin "repr") (rRepr X.K) := by
  intro pins s σ H vs us Q I r ⟨v, d, ev, hd, nd, sh, dp, sz, q⟩
  subst ev
  have fits : d.shown.length ≤ sizeLine := Nat.le_trans (shown_rsz d nd sh) sz
  have room : X.A.units + (d.depth + 1) < cLine := by have := hr.toRoom.units; omega
  cases r with
  | @cons _ u _ _ rv t =>
    cases t
    have out : ∀ (h' : Heap) (u tk : Tok), (∀ b o, s.heap.get? b = some o → h'.get? b = some o) → EP X pins σ Q (.str d.shown u) { s with heap := h', toks := tk } := fun h' u tk k => ⟨.str d.shown, H, rel_heap I k tk, ⟨_, rfl⟩, q⟩
    cases d with
    | none =>
      cases hd
      cases rv
      exact PySem.P.repr_of_none (out s.heap _ _ fun _ _ e => e)
    | bool b =>
      cases hd
      cases rv
      exact PySem.P.repr_of_bool (by have := out s.heap s.toks (s.toks + 1) (fun _ _ e => e); cases b <;> exact this)
    | int i =>
      cases hd
      obtain ⟨t, rfl⟩ := rv
      exact PySem.P.repr_of_int (by simpa [PyData.showable] using sh) (out s.heap _ _ fun _ _ e => e)
    | str x =>
      cases hd
      obtain ⟨t, rfl⟩ := rv
      exact PySem.P.repr_of_str (out s.heap _ _ fun _ _ e => e) fits
    | list xs =>
      obtain ⟨as, rd⟩ := Dp.reads I _ _ _ hd rv
      obtain ⟨a, rfl⟩ := isRef_of_reads rd rfl
      exact repr_of_reads' rd sh (PyData.noDict_hsm nd) hr.gu room (fun _ _ e => e) (fun h' u tk k => out h' u tk k) fits
    | tuple xs =>
      obtain ⟨as, rd⟩ := Dp.reads I _ _ _ hd rv
      obtain ⟨a, rfl⟩ := isRef_of_reads rd rfl
      exact repr_of_reads' rd sh (PyData.noDict_hsm nd) hr.gu room (fun _ _ e => e) (fun h' u tk k => out h' u tk k) fits
    | dict es => simp [PyData.hasDict] at nd
theorem ok_repr {k : Nat} (hr : Rm k X.A) : CallOk X (.builtin "repr") (c1 dRepr) := ok_c1 (call_repr hr) fun G H x a z Q e hx hz kk => by
  unfold dRepr at hz
  split at hz
  · rename_i c
    cases hz
    exact ⟨x, a, rfl, dq_dp c.1 (hx.dq e c.1), c.1, c.2.1, c.2.2.1, c.2.2.2, kk _ _ _ (.refl e) (.str _)⟩
  · cases hz
/-! texts held against one another -/
def dEqT : PyData → PyData → Option MV
  | .str x, .str y => some (.dat (.bool (decide (x = y))))
  | _, _ => none
def dNeT : PyData → PyData → Option MV
  | .str x, .str y => some (.dat (.bool (!decide (x = y))))
  | _, _ => none
theorem dec_str {x y : Str} : decide (V.str x = V.str y) = decide (x = y) := by
  rw [Bool.eq_iff_iff]
  simp
theorem ok_eqT : OpOk X (compareOp .Eq) dEqT := ⟨_, op_eq, fun G H x y a b z Q e hx hy hz kk => by
  cases a <;> first | (cases hz; done) | skip
  cases b <;> first | (cases hz; done) | skip
  cases hz
  rw [hx.s, hy.s]
  exact ⟨rfl, by rw [dec_str]; exact kk G H _ (.refl e) (.bl _)⟩⟩
theorem ok_neT : OpOk X (compareOp .NotEq) dNeT := ⟨_, op_ne, fun G H x y a b z Q e hx hy hz kk => by
  cases a <;> first | (cases hz; done) | skip
  cases b <;> first | (cases hz; done) | skip
  cases hz
  rw [hx.s, hy.s]
  exact ⟨rfl, by rw [dec_str]; exact kk G H _ (.refl e) (.bl _)⟩⟩
def dEqR : PyData → PyData → Option MV := orF dEqT dEq
def dNeR : PyData → PyData → Option MV := orF dNeT dNe
theorem ok_eqR {k : Nat} (hr : Rm k X.A) : OpOk X (compareOp .Eq) dEqR := ok_eqT.or (ok_eq hr)
theorem ok_neR {k : Nat} (hr : Rm k X.A) : OpOk X (compareOp .NotEq) dNeR := ok_neT.or (ok_ne hr)
omit [KF] in
theorem dEqR_str {x y : Str} : dEqR (.str x) (.str y) = some (.dat (.bool (decide (x = y)))) := rfl
omit [KF] in
theorem dNeR_str {x y : Str} : dNeR (.str x) (.str y) = some (.dat (.bool (!decide (x = y)))) := rfl
end
end ML

set_option maxRecDepth 100000
set_option maxHeartbeats 4000000
namespace ML
open PySem PySem.Spec PyProof.Rows L2 RZ
/-! ### every other one of a list: xs[::2], xs[1::2] -/
def everyO {α : Type} : List α → List α
  | [] => []
  | [a] => [a]
  | a :: _ :: l => a :: everyO l
theorem vals_every : ∀ {xs : List V} {us : List Value}, Vals xs us → Vals (everyO xs) (everyO us)
  | _, _, .nil => .nil
  | _, _, .cons r .nil => .cons r .nil
  | _, _, .cons r (.cons _ t) => .cons r (vals_every t)
theorem every_len {α : Type} : ∀ l : List α, (everyO l).length ≤ l.length
  | [] => Nat.le_refl _
  | [_] => Nat.le_refl _
  | _ :: _ :: l => by
    have := every_len l
    show (everyO l).length + 1 ≤ l.length + 1 + 1
    omega
theorem every_range {α : Type} : ∀ (l : List α), (List.range ((l.length + 1) / 2)).filterMap (fun k => l[2 * k]?) = everyO l
  | [] => by simp [everyO]
  | [a] => by simp [everyO, List.range_succ]
  | a :: b :: l => by
    have ih := every_range l
    have e : ((a :: b :: l).length + 1) / 2 = (l.length + 1) / 2 + 1 := by simp only [List.length_cons]; omega
    rw [e, List.range_succ_eq_map, List.filterMap_cons]
    show a :: ((List.range ((l.length + 1) / 2)).map Nat.succ).filterMap (fun k => (a :: b :: l)[2 * k]?) = a :: everyO l
    rw [List.filterMap_map, ← ih]
    congr 1
theorem fm_same {α β : Type} {f g : α → Option β} : ∀ {l : List α}, (∀ x ∈ l, f x = g x) → l.filterMap f = l.filterMap g
  | [], _ => rfl
  | x :: l, h => by
    rw [List.filterMap_cons, List.filterMap_cons, h x (by simp), fm_same fun y hy => h y (by simp [hy])]
theorem pick_two (items : Array Value) (lo : Option Nat) : slicePick items (lo.map fun (j : Nat) => (j : Int)) none (some 2) = (everyO (items.toList.drop (lo.getD 0))).toArray := by
  have sb : sliceBounds (lo.map fun (j : Nat) => (j : Int)) none (some 2) items.size = (((min (lo.getD 0) items.size : Nat) : Int), (items.size : Int), (2 : Int)) := by
    cases lo with
    | none => simp [sliceBounds]
    | some j =>
      have h : ¬ ((j : Int) < 0) := by omega
      simp [sliceBounds, h]
      omega
  unfold slicePick
  rw [sb]
  congr 1
  generalize lo.getD 0 = j
  have sr : sliceRange ((min j items.size : Nat) : Int) (items.size : Int) 2 = (List.range (((items.toList.drop j).length + 1) / 2)).map fun k => min j items.size + 2 * k := by
    unfold sliceRange
    have hl : (items.toList.drop j).length = items.size - min j items.size := by rw [List.length_drop, Array.length_toList]; omega
    rw [hl]
    generalize hm : min j items.size = m
    have hmn : m ≤ items.size := by omega
    by_cases z : m < items.size
    · have c : (if (2 : Int) > 0 then (if (m : Int) < (items.size : Int) then ((items.size : Int) - (m : Int) + 2 - 1) / 2 else 0) else (if (m : Int) > (items.size : Int) then ((m : Int) - (items.size : Int) - 2 - 1) / (-2) else 0)).toNat = (items.size - m + 1) / 2 := by
        rw [if_pos (by decide), if_pos (by omega)]
        omega
      simp only [c]
      refine List.map_congr_left fun k _ => ?_
      omega
    · have e : items.size - m = 0 := by omega
      have c : (if (2 : Int) > 0 then (if (m : Int) < (items.size : Int) then ((items.size : Int) - (m : Int) + 2 - 1) / 2 else 0) else (if (m : Int) > (items.size : Int) then ((m : Int) - (items.size : Int) - 2 - 1) / (-2) else 0)).toNat = 0 := by
        rw [if_pos (by decide), if_neg (by omega)]
        rfl
      simp only [c, e]
      rfl
  show ((sliceRange ((min j items.size : Nat) : Int) (items.size : Int) 2).filterMap (items[·]?)) = _
  rw [sr, List.filterMap_map, ← every_range (items.toList.drop j)]
  refine fm_same fun k hk => ?_
  have hk := List.mem_range.mp hk
  rw [List.length_drop, Array.length_toList] at hk
  show items[min j items.size + 2 * k]? = (items.toList.drop j)[2 * k]?
  rw [List.getElem?_drop, Array.getElem?_toList, Nat.min_eq_left (by omega)]
variable [KF]
theorem dqa_every {G : Hp} : ∀ {vs : List V} {ds : List PyData}, DqAll G vs ds → DqAll G (everyO vs) (everyO ds)
  | _, _, .nil => .nil
  | _, _, .cons r .nil => .cons r .nil
  | _, _, .cons r (.cons _ t) => .cons r (dqa_every t)
section
variable {X : Cx} {A : Act}
def tStepL (K : PySem.W.Frag) (te : TE) (j : Nat) : TE := fun σ H Q => te σ H fun x H1 => ∃ a xs, x = .ref a ∧ SqL K H1 a xs ∧ ∀ p, H1 p = none → Q (.ref p) (upd H1 p (.lst (everyO (xs.drop j))))
/-- what a beginning of a slice told outright says -/
def LoIs (X : Cx) (lo : Option Expr) (j : Option Nat) : Prop := ∃ tl : TO, PO X lo tl ∧ ∀ (σ : L2.St) (H : Hp) (Q : Option Int → Hp → Prop), Q (j.map fun (j : Nat) => (j : Int)) H → tl σ H Q
theorem lo_none : LoIs X none none := ⟨_, po_none, fun σ H Q h => h⟩
theorem lo_one {k : Nat} {p : Pos} : LoIs X (some (.Constant (.int 1) k p)) (some 1) := ⟨_, po_some pe_int, fun σ H Q h => ⟨1, rfl, h⟩⟩
theorem pe_stepL {e : Expr} {te : TE} {lo : Option Expr} {j : Option Nat} {k : Nat} {p1 p3 pos : Pos} (he : PE X e te) (hlo : LoIs X lo j) : PE X (.Subscript e (.Slice lo none (some (.Constant (.int 2) k p1)) p3) pos) (tStepL X.K te (j.getD 0)) := by
  obtain ⟨tl, hl, hq⟩ := hlo
  refine ⟨fun pins s σ H Q I h => ?_⟩
  refine Subscript_ (thn (he.run pins s σ H _ I h) fun v s1 ⟨x, H1, I1, r1, q1⟩ => ?_)
  obtain ⟨a, xs, ex, hx, q⟩ := q1
  subst ex
  cases r1
  have hst : PO X (some (.Constant (.int 2) k p1)) (tPart (tC (.int 2))) := po_some pe_int
  refine wpAny_Slice (thn (hl.run pins s1 σ H1 (fun o H2 => o = (j.map fun (j : Nat) => (j : Int)) ∧ H2 = H1) I1 (hq σ H1 _ ⟨rfl, rfl⟩)) fun vl s2 ⟨l, H2, I2, pl, el, e2⟩ => ?_)
  subst el e2
  refine thn (po_none.run pins s2 σ H2 (fun o H3 => o = none ∧ H3 = H2) I2 ⟨rfl, rfl⟩) fun vu s3 ⟨u, H3, I3, pu, eu, e3⟩ => ?_
  subst eu e3
  refine thn (hst.run pins s3 σ H3 (fun o H4 => o = some 2 ∧ H4 = H3) I3 ⟨2, rfl, rfl, rfl⟩) fun vs s4 ⟨o, H4, I4, ps, eo, e4⟩ => ?_
  subst eo e4
  have I5 : Inv X pins σ H4 { s4 with heap := s4.heap.push { cls := .type "slice", data := .fields #[vl, vu, vs] } } := I4.kept (t' := s4.toks) fun b ob q => Heap.get?_push_of_some _ q
  obtain ⟨its, r, ht, hz⟩ := I5.list hx
  have hlen := r.length
  show wpAny (model X.prog X.w) X.A (subscriptTail e (.Slice lo none (some (.Constant (.int 2) k p1)) p3) (.ref a) (.ref s4.heap.objs.size)) (EP X pins σ Q) X.xe { s4 with heap := s4.heap.push { cls := .type "slice", data := .fields #[vl, vu, vs] } }
  refine tail_any (ops := [.ref a, .ref s4.heap.objs.size]) ht.isList.typeIs (PySem.slot_list_getitem.lookup) ?_ (by with_unfolding_all rfl)
  refine wpAny_getItem_list_slice ht.isList (Heap.IsSliceOf.new _ vl vu vs) pl pu ps (by decide) ?_ (by rw [List.size_toArray]; omega)
  rw [pick_two]
  have rv : Vals (everyO (xs.drop (j.getD 0))) (everyO (its.drop (j.getD 0))) := vals_every (Vals.drop _ r)
  have le : (everyO (xs.drop (j.getD 0))).length ≤ xs.length := by
    have a := every_len (xs.drop (j.getD 0))
    rw [List.length_drop] at a
    omega
  refine ⟨.ref _, _, I5.laid (t' := s4.toks) (o := .lst (everyO (xs.drop (j.getD 0)))) (fun b ob q => Heap.get?_push_of_some _ q) (Nat.le_refl _) ?_, rfl, q _ (I5.hok.fresh (Nat.le_refl _))⟩
  exact ⟨by omega, _, 0, rv, Heap.get?_push_size _ rfl⟩
def dStep (j : Nat) : PyData → Option MV
  | .list ds => some (.fre (everyO (ds.drop j)))
  | _ => none
theorem qe_step {e : Expr} {lo : Option Expr} {j : Option Nat} {k : Nat} {p1 p3 pos : Pos} {m : ME} (he : PE X e (tE A m)) (hlo : LoIs X lo j) : PE X (.Subscript e (.Slice lo none (some (.Constant (.int 2) k p1)) p3) pos) (tE A (mUn (dStep (j.getD 0)) m)) := pe_to (pe_stepL he hlo) fun σ H Q ⟨G, μ, z, μ', R, e, k⟩ => by
  obtain ⟨p, e1, e⟩ := bind2 e
  obtain ⟨a, e3, e⟩ := bind2 e
  obtain ⟨w, e5, e⟩ := map2 e
  cases e
  cases a with
  | list ds =>
    cases e5
    refine ⟨G, μ, p.1, p.2, R, e1, fun G1 H1 v1 s1 R1 q1 n1 => ?_⟩
    obtain ⟨q, vs, ev, h1, h2⟩ := (q1.db R1 e3).l R1.ext
    refine ⟨q, vs, ev, .inl h1, fun t ht => ?_⟩
    have rs := res_fre R1.ext ht (dqa_every (dqa_drop (j.getD 0) h2))
    exact k _ _ _ (s1.trans (Grow.free R1.ext ht).step) (R1.grow (.free R1.ext ht)) (rs.rel R1) (rs.nw.back s1)
  | _ => cases e5
end
end ML

set_option maxRecDepth 100000
set_option maxHeartbeats 4000000
namespace ML
open PySem PySem.Spec PyProof.Rows L2 RZ
variable [KF]
section
variable {X : Cx} {A : Act}
/-! ### in a tuple of things of any depth -/
def rInU (K : PySem.W.Frag) : R2 := fun x y H Q => ∃ d ds, Dp K H x d ∧ Dp K H y (.tuple ds) ∧ SeqAt.shaped d = true ∧ SeqAt.shaped (.tuple ds) = true ∧ Q (.bl (ds.any fun z => PyData.eqv z d)) H
theorem op_inU (hu : X.A.units + 65 < cLine) : OpR X (compareOp .In) (rInU X.K) := by
  intro pins s σ H x y v u Q I rx ry h
  obtain ⟨d, ds, hd, he, sd, se, q⟩ := h
  obtain ⟨as, r1⟩ := Dp.reads I d x v hd rx
  obtain ⟨bs, r2⟩ := Dp.reads I (.tuple ds) y u he ry
  exact SeqAt.in_tuple_reads r2 r1 (SeqAt.canLay_of_shaped se) (SeqAt.canLay_of_shaped sd) (room_in_shaped sd hu) ⟨.bl _, H, I, rfl, q⟩
def dInU : PyData → PyData → Option MV
  | a, .tuple ds => if SeqAt.shaped a = true ∧ SeqAt.shaped (.tuple ds) = true then some (.dat (.bool (ds.any fun z => PyData.eqv z a))) else none
  | _, _ => none
theorem ok_inU {k : Nat} (hr : Rm k X.A) : OpOk X (compareOp .In) dInU := by
  refine ⟨_, op_inU (by have := hr.un; omega), fun G H x y a b z Q e hx hy hz kk => ?_⟩
  cases b <;> first | (cases hz; done) | skip
  rename_i ds
  have hz : (if SeqAt.shaped a = true ∧ SeqAt.shaped (.tuple ds) = true then some (MV.dat (.bool (ds.any fun z => PyData.eqv z a))) else none) = some z := hz
  split at hz
  · rename_i q
    cases hz
    exact ⟨a, ds, dq_dp (shaped_nodict q.1) (hx.dq e (shaped_nodict q.1)), dq_dp (shaped_nodict q.2) (hy.dq e (shaped_nodict q.2)), q.1, q.2, kk G H _ (.refl e) (.bl _)⟩
  · cases hz
def dInY : PyData → PyData → Option MV := fun a b => orF (dInZ false) dInU a b
theorem ok_inY {k : Nat} (hr : Rm k X.A) : OpOk X (compareOp .In) dInY := (ok_inZ hr).or (ok_inU hr)
end
end ML

set_option maxRecDepth 100000
set_option maxHeartbeats 4000000
namespace ML
open PySem PySem.Spec PyProof.Rows L2 RZ
variable [KF]
/-! ### calls with a keyword-only parameter: given by its name, or left out -/
theorem fund_mk {K : PySem.W.Frag} {x qual nm : Str} {i : Int} {t : Tok} {D : Addr} {st : Stmt} {f : Addr} {oc : Value} {od : Option Addr} {doc pm : Value} {an : Option Addr} {cdv ct : Value} {osl : Array (Option Value)}
    (l : K.lookup f = some ⟨oc, od, .func (PySem.W.fnOf x qual (defArgs st) (defBody st) (defScope st) .none (.ref D) doc pm an cdv ct), osl⟩) (c : PySem.W.codeIn K cdv qual = true) (k : PySem.W.keepIn K (.ref f) = true) (d : PySem.W.nsIn K D nm = some (some (.int i t))) :
    FunD K x qual (defArgs st) (defBody st) (defScope st) [] [(nm, V.int i)] f (PySem.W.fnOf x qual (defArgs st) (defBody st) (defScope st) .none (.ref D) doc pm an cdv ct) :=
  ⟨⟨oc, od, .none, .ref D, doc, pm, an, cdv, ct, osl, rfl, l, c, .inl ⟨rfl, rfl⟩, .inr ⟨D, rfl, fun q hq => by
    rw [List.mem_singleton.mp hq]
    exact ⟨_, d, t, rfl⟩⟩⟩, k⟩
theorem vals_app : ∀ {vs : List V} {us : List Value} {zs : List V} {ws : List Value}, Vals vs us → Vals zs ws → Vals (vs ++ zs) (us ++ ws)
  | _, _, _, _, .nil, r => r
  | _, _, _, _, .cons h t, r => .cons h (vals_app t r)
theorem dqa_dfl {G : Hp} : ∀ (l : List Int), DqAll G (l.map V.int) (l.map PyData.int)
  | [] => .nil
  | i :: l => .cons (.int i) (dqa_dfl l)
theorem kb_D {K : PySem.W.Frag} {x qual nm : Str} {i : Int} {st : Stmt} {f : Addr} {fd : FuncData} {ps : List Str} (F : FunD K x qual (defArgs st) (defBody st) (defScope st) [] [(nm, V.int i)] f fd) (n : Nat) (ks : List Str) (pl : List Nat) (ms : List (Str × V)) (hms : ∀ q ∈ ms, q ∈ [(nm, V.int i)])
    (h : ∀ (D : Addr) (doc pm : Value) (an : Option Addr) (cdv ct : Value) (us mv ws : List Value), us.length = n → mv.length = ms.length → ws.length = ks.length →
      KwChain D ((ms.map (·.1)).zip mv) (bindArgs (PySem.W.fnOf x qual (defArgs st) (defBody st) (defScope st) .none (.ref D) doc pm an cdv ct) ⟨us, ks.zip ws⟩) (ps.zip (permL pl (us ++ ws ++ mv)))) :
    ∃ mv : List Value, KBn K fd ps n ks (fun us ws => permL pl (us ++ ws ++ mv)) (fun vs zs => permL pl (vs ++ zs ++ ms.map (·.2))) :=
  FunD.kbinds0 F n ks ms (fun us mv ws => permL pl (us ++ ws ++ mv)) (by simp) hms (fun r1 r2 r3 => perm_vals (vals_app (vals_app r1 r3) r2)) h
/-- no defaults stand: every parameter is given, the last ones by name -/
theorem kb_M {K : PySem.W.Frag} {x qual : Str} {st : Stmt} {f : Addr} {fd : FuncData} {ps : List Str} (F : Fun K x qual st f fd) (n : Nat) (ks : List Str) (pl : List Nat)
    (h : ∀ (kV doc pm : Value) (an : Option Addr) (cdv ct : Value) (us ws : List Value), us.length = n → ws.length = ks.length → bindArgs (PySem.W.fnOf x qual (defArgs st) (defBody st) (defScope st) .none kV doc pm an cdv ct) ⟨us, ks.zip ws⟩ = pure (ps.zip (permL pl (us ++ ws ++ [])))) :
    ∃ mv : List Value, KBn K fd ps n ks (fun us ws => permL pl (us ++ ws ++ mv)) (fun vs zs => permL pl (vs ++ zs ++ ([] : List Int).map V.int)) := by
  obtain ⟨oc, od, kV, doc, pm, an, cdv, ct, osl, rfl, lk, hcd⟩ := F.ex
  exact ⟨[], ⟨fun s us ws _ l1 l2 => .of_eq (h kV doc pm an cdv ct us ws l1 l2), fun r1 r2 => perm_vals (vals_app (vals_app r1 r2) .nil)⟩⟩
section
variable {X : Cx} {A : Act}
def mCallN (n m N : Nat) (pl : List Nat) (dfl : List Int) (F : List PyData → Option MV) (a b : MA) : ME := fun μ => (a μ).bind fun p => (b p.2).bind fun q => (dats p.1).bind fun ds => (dats q.1).bind fun es =>
  if ds.length = n ∧ es.length = m ∧ (permL pl (ds ++ es ++ dfl.map .int)).length = N then (F (permL pl (ds ++ es ++ dfl.map .int))).map fun z => (z, q.2) else none
theorem callN_run {j n m N : Nat} {pl : List Nat} {dfl : List Int} {F : List PyData → Option MV} {a b : MA} {σ : L2.St} {H : Hp} {Q : VK} (h : tE A (mCallN n m N pl dfl F a b) σ H Q) :
    tMA A a σ H fun vs H1 => tMA A b σ H1 fun zs H2 => vs.length = n ∧ zs.length = m ∧ spP N F (permL pl (vs ++ zs ++ dfl.map V.int)) H2 Q E0 := by
  obtain ⟨G, μ, z, μ', R, e, k⟩ := h
  obtain ⟨p, e1, e⟩ := bind2 e
  obtain ⟨q, e2, e⟩ := bind2 e
  obtain ⟨ds, e3, e⟩ := bind2 e
  obtain ⟨es, e4, e⟩ := bind2 e
  split at e
  · rename_i hl
    obtain ⟨y, e5, e⟩ := map2 e
    cases e
    refine ⟨G, μ, p.1, p.2, R, e1, fun G1 H1 vs s1 R1 q1 => ⟨G1, p.2, q.1, q.2, R1, e2, fun G2 H2 zs s2 R2 q2 => ?_⟩⟩
    have d1 := dats_ok (q1.step s2) e3
    have d2 := dats_ok q2 e4
    have dq := perm_dqa (pl := pl) (dqa_app (dqa_app d1 d2) (dqa_dfl dfl))
    refine ⟨by rw [dqa_len d1]; exact hl.1, by rw [dqa_len d2]; exact hl.2.1, G2, _, z, ?_, dq, R2.ext, e5, fun G3 H3 v g rs => k G3 H3 v ((s1.trans s2).trans g.step) (R2.grow g) (rs.rel R2) (rs.nw.back (s1.trans s2))⟩
    rw [dqa_len dq]
    exact hl.2.2
  · cases e
theorem run_callN {j n : Nat} {f : Addr} {fd : FuncData} {ps ks : List Str} {sp : Sp} {g : List Value → List Value → List Value} {gV : List V → List V → List V} (F : FnG X.prog X.w X.K X.mg X.base j f fd ps sp) (hr : Rm j X.A) (hb : KBn X.K fd ps n ks g gV)
    {pins : List (Addr × Obj)} {σ : L2.St} {H : Hp} {s : Shared} {Q : VK} {us ws : List Value} {vs zs : List V} (I : Inv X pins σ H s) (r : Vals vs us) (rz : Vals zs ws) (l1 : vs.length = n) (l2 : zs.length = ks.length) (h : sp (gV vs zs) H Q E0) :
    wpAny (model X.prog X.w) X.A (call (.ref f) us (ks.zip ws)) (EP X pins σ Q) X.xe s := by
  have r2 := hb.rel r rz
  refine wpAny_call (codeAny_mono (F.go (us := g us ws) (vs := gV vs zs) (Q := Q) (E := E0) hr I.env0 (hb.to s us ws I.kIn (r.length.symm.trans l1) (rz.length.symm.trans l2)) r2 h) fun r s' hq => ?_)
  cases r with
  | error e => exact pass0 pins σ H s e s' I hq
  | ok fl =>
    cases fl with
    | ret u => exact I.after hq
    | next => exact hq.elim
    | brk => exact hq.elim
    | cont => exact hq.elim
/-- f(e, .., k = v, ..), some of the keyword-only ones left out -/
theorem qe_callN {j n m N : Nat} {f : Addr} {fd : FuncData} {ps ks : List Str} {F : List PyData → Option MV} {x : Str} {p pos : Pos} {e : Expr} {es : List Expr} {kws : List Keyword} {a b : MA} (pl : List Nat) (dfl : List Int) (ok : FnG X.prog X.w X.K X.mg X.base j f fd ps (spP N F)) (hr : Rm j X.A) (hg : Gl X x) (hm : X.mg x = some (.ref f)) (hk : PySem.W.keepIn X.K (.ref f) = true)
    (hb : ∃ mv : List Value, KBn X.K fd ps n ks (fun us ws => permL pl (us ++ ws ++ mv)) (fun vs zs => permL pl (vs ++ zs ++ dfl.map V.int))) (ha : PA X (e :: es) (tMA A a)) (hkw : PK X kws (tMA A b)) (hmk : m = ks.length := by rfl) (hall : (backToKw pos (keywordEach kws X.env)).all (·.1.isSome) = true := by rfl) (hks : (backToKw pos (keywordEach kws X.env)).filterMap (·.1) = ks := by rfl)
    (hdb : (x == ("__debug__" : Str)) = false := by decide) (he : starEach (e :: es) X.env = (false, eval e X.env) :: starEach es X.env := by rfl)
    (hpl : ((backTo pos (starEach (e :: es) X.env)).any (·.1) || (backToKw pos (keywordEach kws X.env)).any (·.1.isNone)) = false := by rfl) : PE X (.Call (.Name x p) (e :: es) kws pos) (tE A (mCallN n m N pl dfl F a b)) := by
  obtain ⟨mv, hb⟩ := hb
  subst hmk
  refine ⟨fun pins s σ H Q I h => wpAny_Call_Name_kw (ld_glob I hg hm ?_ hdb)⟩
  refine PySem.W.callWith_KW (h₀ := X.base) I.ok.mod.kin hk hall (thn (ha.run pos pins s σ H _ I (callN_run (j := j) h)) fun us s1 ⟨vs, H1, I1, r, q⟩ => ?_) hpl he
  refine thn (hkw.run pos pins s1 σ H1 _ I1 q) fun ws s2 ⟨zs, H2, I2, rz, l1, l2, q2⟩ => ⟨I2.kIn, ?_⟩
  rw [hks]
  exact run_callN ok hr hb I2 r rz l1 l2 q2
/-- f(k = v, ..), some of the keyword-only ones left out -/
theorem qe_callN0 {j m N : Nat} {f : Addr} {fd : FuncData} {ps ks : List Str} {F : List PyData → Option MV} {x : Str} {p pos : Pos} {kws : List Keyword} {b : MA} (pl : List Nat) (dfl : List Int) (ok : FnG X.prog X.w X.K X.mg X.base j f fd ps (spP N F)) (hr : Rm j X.A) (hg : Gl X x) (hm : X.mg x = some (.ref f)) (hk : PySem.W.keepIn X.K (.ref f) = true)
    (hb : ∃ mv : List Value, KBn X.K fd ps 0 ks (fun us ws => permL pl (us ++ ws ++ mv)) (fun vs zs => permL pl (vs ++ zs ++ dfl.map V.int))) (hkw : PK X kws (tMA A b)) (hmk : m = ks.length := by rfl) (hall : (backToKw pos (keywordEach kws X.env)).all (·.1.isSome) = true := by rfl) (hks : (backToKw pos (keywordEach kws X.env)).filterMap (·.1) = ks := by rfl)
    (hdb : (x == ("__debug__" : Str)) = false := by decide) (hpl : ((backTo pos (starEach [] X.env)).any (·.1) || (backToKw pos (keywordEach kws X.env)).any (·.1.isNone)) = false := by rfl) : PE X (.Call (.Name x p) [] kws pos) (tE A (mCallN 0 m N pl dfl F mNil b)) := by
  obtain ⟨mv, hb⟩ := hb
  subst hmk
  refine ⟨fun pins s σ H Q I h => wpAny_Call_Name_kw (ld_glob I hg hm ?_ hdb)⟩
  have h := callN_run (j := j) h
  have h2 : tMA A b σ H fun zs H2 => ([] : List V).length = 0 ∧ zs.length = ks.length ∧ spP N F (permL pl ([] ++ zs ++ dfl.map V.int)) H2 Q E0 := by
    obtain ⟨G, μ, xs, μ', R, e, k⟩ := h
    cases e
    exact k G H [] .refl R .nil
  refine PySem.W.callWith_KW0 (h₀ := X.base) I.ok.mod.kin hk hall (thn (hkw.run pos pins s σ H _ I h2) fun ws s2 ⟨zs, H2, I2, rz, l1, l2, q2⟩ => ⟨I2.kIn, ?_⟩) hpl
  rw [hks]
  exact run_callN (vs := []) ok hr hb I2 .nil rz l1 l2 q2
end
end ML

set_option maxRecDepth 100000
set_option maxHeartbeats 4000000
/-! ### sorted(d.items()), d a still dict whose keys are tuples of ints -/
namespace ML
open PySem PySem.Spec PyProof.Rows L2 RZ
open L2.DX (itemsO itemsO_ok)
variable [KF]
/-- things laid one behind the other -/
def lays : List (Addr × HO) → Hp → Hp
  | [], H => H
  | q :: L, H => lays L (upd H q.1 q.2)
theorem lays_old : ∀ (L : List (Addr × HO)) {H : Hp} {a : Addr}, a ∉ L.map (·.1) → lays L H a = H a
  | [], _, _, _ => rfl
  | q :: L, H, a, h => by
    rw [List.map_cons, List.mem_cons] at h
    rw [lays, lays_old L (fun z => h (.inr z)), upd_ne (fun z => h (.inl z))]
theorem lays_at : ∀ (L : List (Addr × HO)) {H : Hp} {q : Addr × HO}, (L.map (·.1)).Nodup → q ∈ L → lays L H q.1 = some q.2
  | q' :: L, H, q, hn, h => by
    rw [List.map_cons, List.nodup_cons] at hn
    rw [lays]
    rcases List.mem_cons.mp h with e | h
    · rw [e, lays_old L hn.1, upd_same]
    · exact lays_at L hn.2 h
theorem lays_grow : ∀ (L : List (Addr × HO)) {G H : Hp}, Same G H → (L.map (·.1)).Nodup → (∀ q ∈ L, H q.1 = none) → Grow G H (lays L G) (lays L H)
  | [], G, H, e, _, _ => Grow.refl e
  | q :: L, G, H, e, hn, h => by
    rw [List.map_cons, List.nodup_cons] at hn
    have g := Grow.new (o := q.2) e (h q (List.mem_cons_self ..))
    refine g.trans (lays_grow L g.gh hn.2 fun q' hq' => ?_)
    rw [upd_ne fun z => hn.1 (by rw [← z]; exact List.mem_map.mpr ⟨q', hq', rfl⟩)]
    exact h q' (List.mem_cons_of_mem _ hq')
theorem lays_inv {X : Cx} {pins : List (Addr × Obj)} {σ : L2.St} {H0 : Hp} {s : Shared} {h' : Heap} {tk : Nat} (I0 : Inv X pins σ H0 s) : ∀ (L : List (Addr × HO)) (H1 : Hp), Inv X pins σ H1 { s with heap := h', toks := tk } → (L.map (·.1)).Nodup →
    (∀ q ∈ L, s.heap.objs.size ≤ q.1 ∧ H1 q.1 = none ∧ ∀ H2, ObjOk X.prog X.w H2 h' q.1 q.2) → Inv X pins σ (lays L H1) { s with heap := h', toks := tk }
  | [], H1, I1, _, _ => I1
  | q :: L, H1, I1, hn, h => by
    obtain ⟨hb, hnone, ok⟩ := h q (List.mem_cons_self ..)
    have I2 : Inv X pins σ (upd H1 q.1 q.2) { s with heap := h', toks := tk } := I1.take (h' := h') (t' := tk) (fun b ob _ e => e) (I0.fpOk hb hnone) (ok _)
    rw [List.map_cons, List.nodup_cons] at hn
    refine lays_inv I0 L _ I2 hn.2 fun c hc => ?_
    obtain ⟨c1, c2, c3⟩ := h c (List.mem_cons_of_mem _ hc)
    exact ⟨c1, by rw [upd_ne (fun z => hn.1 (by rw [← z]; exact List.mem_map.mpr ⟨c, hc, rfl⟩))]; exact c2, c3⟩
/-- a place, the tuple's object, the dict's entry -/
abbrev LT := Addr × Obj × (List Int × Addr × V)
def fzT (z : LT) : Addr × HO := (z.1, .frz z.2.1 (.tup [.ref z.2.2.2.1, z.2.2.2.2]))
abbrev kF (q : List Int × Addr × V) : SK := (q.1, [])
section
variable {X : Cx} {pins : List (Addr × Obj)} {σ : L2.St} {H : Hp} {s : Shared}
def rSortI : List V → Hp → VK → Prop := fun vs H Q => ∃ (p a : Addr) (kvs : List (List Int × Addr × V)), vs = [.ref p] ∧ H p = some (itemsO p a) ∧ HasD H a kvs ∧ KeysT H kvs ∧
  ∀ (L : List LT) (l : Addr), L.map (·.2.2) = srtK kF kvs → (∀ z ∈ L, z.2.1.dict = none ∧ H z.1 = none) → (L.map (·.1)).Nodup → H l = none → l ∉ L.map (·.1) →
    Q (.ref l) (upd (lays (L.map fzT) H) l (.lst (L.map fun z => V.ref z.1)))
theorem cr_sortI (hc : X.calm = true) (hu : X.A.units + 64 < cLine) : CallR X (.builtin "sorted") rSortI := by
  intro pins s σ H vs us Q I r h
  obtain ⟨p, a, kvs, rfl, hp, hd, hk, q⟩ := h
  obtain ⟨u, rfl, ru⟩ := vals1 r
  cases ru
  have view : s.heap.IsItemsView p a := (show ObjOk X.prog X.w H s.heap p (itemsO p a) from I.hok p _ hp).1
  obtain ⟨lo, z, ys, rel, dd⟩ := di_of I hd hk
  obtain ⟨es, ep, raw, hs, at1⟩ := dd.raw
  have nd : (kvs.map (·.1)).Nodup := by
    obtain ⟨_, _, _, _, _, _, _, _, nd⟩ := dd
    rw [← relT_map rel (fun k => k)]
    exact nd
  have hl : es.size = kvs.length := by rw [hs, ← Paired.length rel]
  have same : ∀ {l : List (List Int × Addr × V)} {m : List (List Int × Addr × Value)} (q : RelT l m) (i : Nat) (x : List Int × Addr × V) (y : List Int × Addr × Value), l[i]? = some x → m[i]? = some y → x.2.1 = y.2.1 ∧ RelV x.2.2 y.2.2 := by
    intro l m q
    induction q with
    | nil => intro i x y h1 _; simp at h1
    | @cons p q ps qs hh t ih =>
      intro i x y h1 h2
      cases i with
      | zero =>
        simp at h1 h2
        subst h1 h2
        exact hh.2
      | succ i => exact ih i x y (by simpa using h1) (by simpa using h2)
  refine DT.sortedI (es := es) (ep := ep) (I.ok.hd hc) view raw (by rw [hl]; exact z) fun h' tk as hkp hlt hla hG => ?_
  have lak : as.length = kvs.length := by omega
  have nda : as.Nodup := List.Pairwise.imp (fun h => Nat.ne_of_lt h) hG.rise
  -- the pairs that were made
  have pr : ∀ t ∈ as.zip kvs, ∃ x : Value, RelV t.2.2.2 x ∧ h'.get? t.1 = some { cls := .type "tuple", data := .seq #[Value.ref t.2.2.1, x] } := by
    intro t ht
    obtain ⟨j, hj⟩ := List.mem_iff_getElem?.mp ht
    obtain ⟨j1, j2⟩ := List.getElem?_zip_eq_some.mp hj
    obtain ⟨en, he, hg⟩ := hG.pairs j t.1 j1
    obtain ⟨hje, ee⟩ := Array.getElem?_eq_some_iff.mp he
    obtain ⟨y, y1, y2, y3, _⟩ := at1 j hje
    obtain ⟨e1, e2⟩ := same rel j t.2 y j2 y1
    refine ⟨en.val, by rw [← ee, y3]; exact e2, ?_⟩
    rw [hg, ← ee, y2, e1]
  have mz : as = (as.zip kvs).map (·.1) := (List.map_fst_zip (by omega)).symm
  have mz2 : kvs = (as.zip kvs).map (·.2) := (List.map_snd_zip (by omega)).symm
  generalize eT : as.zip kvs = T at pr mz mz2
  have hV : as.map Value.ref = T.map fun t => Value.ref t.1 := by
    conv => lhs; rw [mz]
    rw [List.map_map]; rfl
  have inj : ∀ t ∈ T, ∀ t' ∈ T, t.1 = t'.1 → t = t' := fun t ht t' ht' e => by
    obtain ⟨i, hi, e1⟩ := List.getElem_of_mem ht
    obtain ⟨j, hj, e2⟩ := List.getElem_of_mem ht'
    have := nodup_key (f := fun t : Addr × (List Int × Addr × V) => t.1) hi hj (by rw [← mz]; exact nda) (by show T[i].1 = T[j].1; rw [e1, e2, e])
    subst this
    rw [← e1, ← e2]
  have injk : ∀ t ∈ T, ∀ t' ∈ T, t.2.1 = t'.2.1 → t = t' := fun t ht t' ht' e => by
    obtain ⟨i, hi, e1⟩ := List.getElem_of_mem ht
    obtain ⟨j, hj, e2⟩ := List.getElem_of_mem ht'
    have := nodup_key (f := fun t : Addr × (List Int × Addr × V) => t.2.1) hi hj (by
      have : T.map (fun t => t.2.1) = kvs.map (·.1) := by
        conv => rhs; rw [mz2]
        rw [List.map_map]; rfl
      rw [this]; exact nd) (by show T[i].2.1 = T[j].2.1; rw [e1, e2, e])
    subst this
    rw [← e1, ← e2]
  -- by what they are sorted
  obtain ⟨kv, hkv⟩ : ∃ kv : Value → SK, ∀ t ∈ T, kv (.ref t.1) = (t.2.1, []) := by
    refine ⟨fun v => match v with | .ref b => (match T.find? (fun t => t.1 == b) with | some t => (t.2.1, []) | none => ([], [])) | _ => ([], []), fun t ht => ?_⟩
    show (match T.find? (fun t' => t'.1 == t.1) with | some t => ((t.2.1, []) : SK) | none => ([], [])) = _
    cases e : T.find? (fun t' => t'.1 == t.1) with
    | none => exact absurd (List.find?_eq_none.mp e t ht) (by simp)
    | some t' =>
      have := List.find?_some e
      have := inj t' (List.mem_of_find?_eq_some e) t ht (by simpa using this)
      rw [this]
  have hob : (h'.push { cls := .type "list", data := .seq (as.map Value.ref).toArray }).get? h'.objs.size = some (seqObj "list" (as.map Value.ref).toArray 0) := Heap.get?_push_size _ rfl
  have ka : ∀ b o, h'.get? b = some o → (h'.push { cls := .type "list", data := .seq (as.map Value.ref).toArray }).get? b = some o := fun b o e => Heap.get?_push_of_some _ e
  have ne0 : ∀ b o, h'.get? b = some o → b ≠ h'.objs.size := fun b o e => Nat.ne_of_lt (Heap.lt_size e)
  generalize hh2 : h'.push { cls := .type "list", data := .seq (as.map Value.ref).toArray } = h2 at hob ka ⊢
  have hzl : (as.map Value.ref).length ≤ sizeLine := by rw [List.length_map, lak]; exact z
  have itm : ∀ v ∈ as.map Value.ref, ItM h2 .c v (kv v) := fun v hv => by
    rw [hV] at hv
    obtain ⟨t, ht, rfl⟩ := List.mem_map.mp hv
    obtain ⟨x, rx, hx⟩ := pr t ht
    have hm : t.2 ∈ kvs := by rw [mz2]; exact List.mem_map.mpr ⟨t, ht, rfl⟩
    obtain ⟨ob, hb⟩ := hk t.2 hm
    obtain ⟨its, rv, hi, hz⟩ := I.tuple (show SqT X.K H t.2.2.1 (t.2.1.map V.int) from .inl (.inr ⟨ob, hb⟩))
    refine ⟨t.1, t.2.2.1, x, its.toArray, t.2.1, rfl, ⟨_, ka _ _ hx, rfl, 0, rfl⟩, ?_, intsAre_of rv, hkv t ht⟩
    exact tup_keep hi fun b o e _ => ka b o (hkp b o e)
  refine wpAny_call_entry slot_list_sort ⟨_, hob, rfl⟩ entry_list_sort (SrtO.list_sort_ord (s := { s with heap := h2, toks := tk }) (swoSK kv) hob hzl (fun h2l => ?_) fun out o1 o2 => ⟨.none, rfl, ?_⟩) (args_list_sort _)
  · refine it_sortable (s := { s with heap := h2, toks := tk }) (sh := .c) (k := kv) (by show X.A.units + 1 + 1 + 1 < cLine; omega) (by omega) itm (fun _ u mu v mv e => ?_) fun o e => ?_
    · rw [hV] at mu mv
      obtain ⟨t, ht, rfl⟩ := List.mem_map.mp mu
      obtain ⟨t', ht', rfl⟩ := List.mem_map.mp mv
      rw [hkv t ht, hkv t' ht'] at e
      rw [injk t ht t' ht' (Prod.mk.inj e).1]
    · have e' : some o = some (seqObj "list" (as.map Value.ref).toArray 0) := e.symm.trans hob
      cases e'
      intro c
      exact absurd (Value.type.inj c) (by decide)
  · show EP X pins σ Q (.ref h'.objs.size) { s with heap := sortedHeap h2 h'.objs.size (as.map Value.ref) out.toArray, toks := tk }
    have kF' : ∀ b o, b ≠ h'.objs.size → h2.get? b = some o → (sortedHeap h2 h'.objs.size (as.map Value.ref) out.toArray).get? b = some o := fun b o hb e => (sortedHeap_old hb (Heap.lt_size e)).trans e
    have kS : ∀ b o, s.heap.get? b = some o → (sortedHeap h2 h'.objs.size (as.map Value.ref) out.toArray).get? b = some o := fun b o e => kF' b o (ne0 _ _ (hkp b o e)) (ka b o (hkp b o e))
    obtain ⟨eF, heF⟩ := sortedHeap_at (vs := as.map Value.ref) (out := out.toArray) hob
    have hout : out = (srtK (fun t : Addr × (List Int × Addr × V) => kF t.2) T).map fun t => Value.ref t.1 := by
      rw [srt_only o1 o2, hV, srt_map]
      exact congrArg _ (srt_congr T fun t ht => hkv t ht)
    have perm := srt_perm (k := fun t : Addr × (List Int × Addr × V) => kF t.2) T
    generalize eS : srtK (fun t : Addr × (List Int × Addr × V) => kF t.2) T = S at hout perm
    let ob : Addr → Obj := fun b => (h'.get? b).getD { cls := .none, data := .seq #[] }
    have obx : ∀ t ∈ S, h'.get? t.1 = some (ob t.1) ∧ ∃ x : Value, RelV t.2.2.2 x ∧ ob t.1 = { cls := .type "tuple", data := .seq #[Value.ref t.2.2.1, x] } := fun t ht => by
      obtain ⟨x, rx, hx⟩ := pr t (perm.mem_iff.mp ht)
      have : ob t.1 = { cls := .type "tuple", data := .seq #[Value.ref t.2.2.1, x] } := by show (h'.get? t.1).getD _ = _; rw [hx]; rfl
      exact ⟨by rw [this]; exact hx, x, rx, this⟩
    have big : ∀ t ∈ S, s.heap.objs.size ≤ t.1 ∧ t.1 < h'.objs.size := fun t ht => by
      have ha : t.1 ∈ as := by rw [mz]; exact List.mem_map.mpr ⟨t, perm.mem_iff.mp ht, rfl⟩
      exact ⟨Nat.le_of_lt (hG.above _ ha), hG.there ha⟩
    let L : List LT := S.map fun t => (t.1, ob t.1, t.2)
    have L1 : L.map (·.1) = S.map (·.1) := by show (S.map _).map _ = _; rw [List.map_map]; rfl
    have L2' : L.map (·.2.2) = S.map (·.2) := by show (S.map _).map _ = _; rw [List.map_map]; rfl
    have ndL : (L.map (·.1)).Nodup := by
      rw [L1]
      refine ((perm.map (·.1)).nodup_iff).mpr ?_
      rw [← mz]; exact nda
    have memL : ∀ y ∈ L, ∃ t ∈ S, y = (t.1, ob t.1, t.2) := fun y hy => by
      obtain ⟨t, ht, e⟩ := List.mem_map.mp hy
      exact ⟨t, ht, e.symm⟩
    have fr : ∀ y ∈ L, H y.1 = none := fun y hy => by
      obtain ⟨t, ht, e⟩ := memL y hy
      rw [e]
      exact I.hok.fresh (big t ht).1
    have fst : (L.map fzT).map (·.1) = L.map (·.1) := by rw [List.map_map]; rfl
    have lno : h'.objs.size ∉ L.map (·.1) := fun hm => by
      rw [L1] at hm
      obtain ⟨t, ht, e⟩ := List.mem_map.mp hm
      exact absurd (big t ht).2 (by rw [e]; exact Nat.lt_irrefl _)
    have I1 : Inv X pins σ H { s with heap := sortedHeap h2 h'.objs.size (as.map Value.ref) out.toArray, toks := tk } := I.kept (t' := tk) kS
    have I2 := lays_inv I (L.map fzT) H I1 (by rw [fst]; exact ndL) fun y hy => by
      obtain ⟨w, hw, rfl⟩ := List.mem_map.mp hy
      obtain ⟨t, ht, rfl⟩ := memL w hw
      obtain ⟨g1, x, rx, g2⟩ := obx t ht
      refine ⟨(big t ht).1, fr _ hw, fun H2 => ⟨kF' _ _ (ne0 _ _ g1) (ka _ _ g1), ?_⟩⟩
      refine ⟨by show 2 ≤ sizeLine; decide, [.ref t.2.2.1, x], .cons rfl (.cons rx .nil), ob t.1, kF' _ _ (ne0 _ _ g1) (ka _ _ g1), ?_⟩
      rw [g2]
      exact ⟨rfl, 0, rfl⟩
    have hn0 : lays (L.map fzT) H h'.objs.size = none := by
      rw [lays_old _ (by rw [fst]; exact lno)]
      exact I.hok.fresh (Nat.le_of_lt hlt)
    have rv : Vals (L.map fun w => V.ref w.1) out := by
      rw [hout]
      have : L.map (fun w => V.ref w.1) = S.map fun t => V.ref t.1 := by show (S.map _).map _ = _; rw [List.map_map]; rfl
      rw [this]
      exact vals_maps (fun t : Addr × (List Int × Addr × V) => V.ref t.1) (fun t => Value.ref t.1) S fun _ _ => rfl
    have hlen : (L.map fun w => V.ref w.1).length ≤ sizeLine := by
      rw [List.length_map]
      show (S.map _).length ≤ _
      have e1 : kvs.length = T.length := by
        conv => lhs; rw [mz2]
        rw [List.length_map]
      rw [List.length_map, perm.length_eq, ← e1]
      exact z
    have I3 : Inv X pins σ (upd (lays (L.map fzT) H) h'.objs.size (.lst (L.map fun w => V.ref w.1))) { s with heap := sortedHeap h2 h'.objs.size (as.map Value.ref) out.toArray, toks := tk } :=
      I2.take (h' := sortedHeap h2 h'.objs.size (as.map Value.ref) out.toArray) (t' := tk) (fun b ob _ e => e) (I.fpOk (Nat.le_of_lt hlt) hn0) ⟨hlen, out, eF, rv, heF⟩
    refine ⟨.ref h'.objs.size, _, I3, rfl, q L _ ?_ (fun y hy => ⟨?_, fr y hy⟩) ndL (I.hok.fresh (Nat.le_of_lt hlt)) lno⟩
    · rw [L2', ← eS]
      conv => rhs; rw [mz2]
      rw [srt_map]
    · obtain ⟨t, ht, e⟩ := memL y hy
      obtain ⟨g1, x, rx, g2⟩ := obx t ht
      rw [e]
      show (ob t.1).dict = none
      rw [g2]
/-- the view d.items() -/
def tItV (td : TE) : TE := fun σ H Q => td σ H fun x H1 => ∃ d o kvs, x = .ref d ∧ H1 d = some (.frz o (DiT d kvs)) ∧ ∀ p, H1 p = none → Q (.ref p) (upd H1 p (itemsO p d))
theorem pe_itV {e : Expr} {apos cpos : Pos} {td : TE} (he : PE X e td) (hbase : attributeBase e "items" X.env (eval e X.env) = eval e X.env := by rfl) (hline : (apos.endLine == cpos.line) = true := by rfl) :
    PE X (.Call (.Attribute e "items" apos) [] [] cpos) (tItV td) := by
  refine ⟨fun pins s σ H R I h => ?_⟩
  refine wpAny_Call_method (T := "dict") (id := "dict.items") hbase rfl hline PySem.F.plainAttrs_dict PySem.F.slot_dict_items PySem.F.type_dict_items (thn (he.run pins s σ H _ I h) fun u s1 ⟨x, H1, I1, rx, d, o, kvs, ex, hd, q⟩ => ?_)
  subst ex
  cases rx
  obtain ⟨hs, hgd, hx, es, ep, hdt, hsz, ent⟩ := frz_di I1 hd
  have raw : DT.Raw s1.heap d es ep := ⟨o, hgd, hx, hdt⟩
  refine ⟨raw.typeIs, fun b q' => ?_, ?_⟩
  · cases q'
    exact ⟨o, hgd, hx.2.1⟩
  have I2 := I1.laid (a := s1.heap.objs.size) (o := itemsO s1.heap.objs.size d) (h' := s1.heap.push { cls := .type "dict_items", data := .fields #[.ref d] }) (t' := s1.toks) (fun b u e => Heap.get?_push_of_some _ e) (Nat.le_refl _) (itemsO_ok (Heap.get?_push_size _ rfl))
  show wpAny _ _ (callWith cpos (.builtin "dict.items") [.ref d] [] []) _ X.xe s1
  exact method_meetsIn PySem.F.slot_dict_items PySem.F.entry_dict_items rfl (PySem.evalArgs_none ⟨rfl, raw.typeIs, PySem.F.args_dict_items_1 _, _, DT.meetsItems (es := es) (ep := ep) hs, ⟨raw, ⟨.ref s1.heap.objs.size, _, I2, rfl, q _ (I1.hok.fresh (Nat.le_refl _))⟩⟩⟩)
end
section
variable {X : Cx} {A : Act}
/-- sorted(d.items()) -/
def mSrtIt (m : ME) : ME := fun μ => (m μ).bind fun p => (asD p.1).bind fun d => (itPD d).map fun ds => (.fre (srtK (keyG .c) ds), p.2)
theorem srtIt_dq {G G' : Hp} (sg : Same G G') {kvs : List (List Int × Addr × V)} {es : List (PyData × PyData)} (h : DqKt G kvs es) {L : List LT} (hL : L.map (·.2.2) = srtK kF kvs) (hG : ∀ z ∈ L, G' z.1 = some (.frz z.2.1 (.tup [.ref z.2.2.2.1, z.2.2.2.2])) ∧ z.2.1.dict = none) :
    DqAll G' (L.map fun z => V.ref z.1) (srtK (keyG .c) (es.map fun p => .tuple [p.1, p.2])) := by
  have len := dqt_len h
  have hz : ∀ z ∈ kvs.zip es, ∃ o, G z.1.2.1 = some (.frz o (.tup (z.1.1.map V.int))) ∧ o.dict = none ∧ z.2.1 = .tuple (z.1.1.map .int) ∧ Dq G z.1.2.2 z.2.2 := by
    have gen : ∀ {kvs : List (List Int × Addr × V)} {es : List (PyData × PyData)}, DqKt G kvs es → ∀ z ∈ kvs.zip es, ∃ o, G z.1.2.1 = some (.frz o (.tup (z.1.1.map V.int))) ∧ o.dict = none ∧ z.2.1 = .tuple (z.1.1.map .int) ∧ Dq G z.1.2.2 z.2.2 := by
      intro kvs
      induction kvs with
      | nil => intro es h z hz; cases h; cases hz
      | cons q kvs ih =>
        intro es h z hz
        cases h with
        | cons h1 h0 h2 h3 =>
          rw [List.zip_cons_cons] at hz
          rcases List.mem_cons.mp hz with e | hz
          · rw [e]; exact ⟨_, h1, h0, rfl, h2⟩
          · exact ih h3 z hz
    exact gen h
  have e1 : kvs = (kvs.zip es).map (·.1) := (List.map_fst_zip (by omega)).symm
  have e2 : es = (kvs.zip es).map (·.2) := (List.map_snd_zip (by omega)).symm
  generalize kvs.zip es = Z at hz e1 e2
  rw [e1, srt_map] at hL
  have c : srtK (keyG .c) (es.map fun p => PyData.tuple [p.1, p.2]) = (srtK (fun z : (List Int × Addr × V) × (PyData × PyData) => kF z.1) Z).map fun z => PyData.tuple [z.2.1, z.2.2] := by
    rw [e2, List.map_map, srt_map]
    refine congrArg _ (srt_congr Z fun z hm => ?_)
    obtain ⟨o, _, _, ez, _⟩ := hz z hm
    refine keyG_of ?_
    show keyC (.tuple [z.2.1, z.2.2]) = some _
    rw [ez]
    show (intsOf (z.1.1.map PyData.int)).map (fun ns => ((ns, []) : SK)) = _
    rw [intsOf_map]
    rfl
  rw [c]
  have perm := srt_perm (k := fun z : (List Int × Addr × V) × (PyData × PyData) => kF z.1) Z
  generalize srtK (fun z : (List Int × Addr × V) × (PyData × PyData) => kF z.1) Z = S at hL perm
  have hS : ∀ z ∈ S, ∃ o, G z.1.2.1 = some (.frz o (.tup (z.1.1.map V.int))) ∧ o.dict = none ∧ z.2.1 = .tuple (z.1.1.map .int) ∧ Dq G z.1.2.2 z.2.2 := fun z hm => hz z (perm.mem_iff.mp hm)
  clear c e1 e2 perm hz len h
  revert hG hL
  induction S generalizing L with
  | nil =>
    intro hG hL
    cases L with
    | nil => exact .nil
    | cons y L => simp at hL
  | cons z S ih =>
    intro hG hL
    cases L with
    | nil => simp at hL
    | cons y L =>
      rw [List.map_cons, List.map_cons] at hL
      injection hL with h1 h2
      obtain ⟨o, g1, g2, g3, g4⟩ := hS z (List.mem_cons_self ..)
      obtain ⟨g5, g6⟩ := hG y (List.mem_cons_self ..)
      rw [h1] at g5
      refine .cons (.tup g5 g6 (.cons ?_ (.cons (dq_mono sg g4) .nil))) (ih (fun w hw => hS w (List.mem_cons_of_mem _ hw)) (fun w hw => hG w (List.mem_cons_of_mem _ hw)) h2)
      rw [g3]
      exact .tup (sg _ _ g1) g2 (dqa_of_ints _)
theorem qe_srtIt {k : Nat} {o : Expr} {apos cpos p pos : Pos} {m : ME} (hr : Rm k X.A) (ho : PE X o (tE A m)) (hg : Gl X "sorted") (hm : X.mg "sorted" = none) (hc : X.calm = true := by rfl)
    (hbase : attributeBase o "items" X.env (eval o X.env) = eval o X.env := by rfl) (hline : (apos.endLine == cpos.line) = true := by rfl)
    (na2 : starEach [Expr.Call (.Attribute o "items" apos) [] [] cpos] X.env = (false, eval (Expr.Call (.Attribute o "items" apos) [] [] cpos) X.env) :: starEach [] X.env := by rfl) :
    PE X (.Call (.Name "sorted" p) [.Call (.Attribute o "items" apos) [] [] cpos] [] pos) (tE A (mSrtIt m)) :=
  pe_to (pe_callB (cr_sortI hc hr.units) hg hm (by rfl) (pa_cons (pe_itV ho hbase hline) pa_nil na2) (by decide) (by decide) na2) fun σ H Q ⟨G, μ, z, μ', R, e, kk⟩ => by
  obtain ⟨p, e1, e⟩ := bind2 e
  obtain ⟨d, e2, e⟩ := bind2 e
  obtain ⟨ds, e3, e⟩ := map2 e
  cases e
  refine ⟨G, μ, p.1, p.2, R, e1, fun G1 H1 v s1 R1 q1 n1 => ?_⟩
  rw [asD_some e2] at q1
  cases d <;> first | (cases e3; done) | skip
  rename_i kes
  obtain ⟨ks, e4, e5⟩ := map2 e3
  cases e5
  obtain ⟨a, o, kvs, rfl, h1, h2⟩ := dq_dic q1 e4
  refine ⟨a, o, kvs, rfl, R1.ext _ _ h1, fun t ht => ?_⟩
  have g0 := Grow.free (o := itemsO t a) R1.ext ht
  refine ⟨t, a, kvs, rfl, upd_same, .inr ⟨o, ?_⟩, dqt_keys g0.gh h2, fun L l l1 l2 l3 l4 l5 => ?_⟩
  · exact g0.gh _ _ h1
  have fst : (L.map fzT).map (·.1) = L.map (·.1) := by rw [List.map_map]; rfl
  have g1 := lays_grow (L.map fzT) g0.gh (by rw [fst]; exact l3) fun q hq => by
    obtain ⟨w, hw, rfl⟩ := List.mem_map.mp hq
    exact (l2 w hw).2
  have ln : lays (L.map fzT) (upd H1 t (itemsO t a)) l = none := by
    rw [lays_old _ (by rw [fst]; exact l5)]
    exact l4
  have gl := Grow.free (o := .lst (L.map fun z => V.ref z.1)) g1.gh ln
  have gg := (g0.trans g1).trans gl
  have rs : ResV H1 (lays (L.map fzT) G1) (upd (lays (L.map fzT) (upd H1 t (itemsO t a))) l (.lst (L.map fun z => V.ref z.1))) (.ref l) (.fre (srtK (keyG .c) (kes.map fun p => .tuple [p.1, p.2]))) := by
    refine ⟨l, _, rfl, ?_, upd_same, srtIt_dq g1.g h2 l1 fun w hw => ⟨lays_at (L.map fzT) (q := fzT w) (by rw [fst]; exact l3) (List.mem_map.mpr ⟨w, hw, rfl⟩), (l2 w hw).1⟩, g1.gh.free ln⟩
    exact g0.h.free l4
  exact kk _ _ _ (s1.trans gg.step) (R1.grow gg) (rs.rel R1) (rs.nw.back s1)
end
end ML

set_option maxRecDepth 100000
set_option maxHeartbeats 4000000
/-! ### sorted(set(ns)), ns a list or a tuple of ints -/
namespace ML
open PySem PySem.Spec PyProof.Rows L2 RZ
section
variable {P : Program} {w : World} {A : Around} {E : Value → Shared → Prop} {s : Shared}
theorem call_set_lstI {l : Addr} {items : Array Value} (ns : List Int) {Q : Value → Shared → Prop} (hh : A.handled = none) (hl : s.heap.IsList l items) (hit : IntsAre items.toList ns) (hb : ns.length + 1 < scanBound)
    (h : ∀ (h' : Heap) (tk c : Nat), SetR w h' s.heap.objs.size (fun j => decide (j ∈ ns)) c → c ≤ ns.length → (∀ b o, s.heap.get? b = some o → h'.get? b = some o) → Q (.ref s.heap.objs.size) { s with heap := h', toks := tk }) :
    wpAny (model P w) A (call (.type "set") [.ref l]) Q E s := by
  have hisz : items.size = ns.length := by
    have q := IntsAre.length hit
    rw [Array.length_toList] at q
    exact q
  obtain ⟨c, tl, hmro⟩ := F.called_set.mro
  have hmade := F.called_set.made
  have hsub := F.called_set.sub
  refine wpAny_call (codeAny_of_tree ?_)
  show wpAny _ _ (callAny (.type "set") _) _ _ _
  refine wpAny_pure ⟨Code.quiet_builtin _ (by decide +kernel), codeAny_builtin F.entry_type_call ?_⟩
  rw [Around.under_plain (weight_type_call_type "set" [.ref l] []) rfl]
  have h1 := F.called_set.notType
  have h2 := F.called_set.canCreate
  have hct := F.typeCall_set_1 (.ref l)
  repeat (any_goals (first | assumption | wp_step))

  refine codeAny_mono (code_set_led1 (.ref l) (E := E) (Q₁ := fun obj s₁ => obj = .ref s.heap.objs.size ∧ s₁ = { s with heap := s.heap.push { cls := .type "set", dict := none, data := .set #[] 0 (.fresh 0 0 (!w.params.followText "set-order")) } }) ⟨rfl, rfl⟩) fun r s₁ hr => ?_
  cases r with
  | error e => exact hr
  | ok fl =>
    cases fl with
    | ret obj =>
      obtain ⟨rfl, rfl⟩ := hr
      have hS : (s.heap.push { cls := .type "set", dict := none, data := .set #[] 0 (.fresh 0 0 (!w.params.followText "set-order")) }).get? s.heap.objs.size = some { cls := .type "set", dict := none, data := .set #[] 0 (.fresh 0 0 (!w.params.followText "set-order")) } := Heap.get?_push_size _ rfl
      have hT : Shared.TypeIs { s with heap := s.heap.push { cls := .type "set", dict := none, data := .set #[] 0 (.fresh 0 0 (!w.params.followText "set-order")) } } (.ref s.heap.objs.size) "set" := ⟨_, hS, rfl⟩
      have hli := F.called_set.init.lookup
      have hbi := F.called_set.init.bind (.ref s.heap.objs.size)
      repeat (any_goals (first | assumption | wp_step))

      refine codeAny_mono (codeAny_call_builtin (R := wants (fun r s₂ => r = .none ∧ ∃ h' tk c, s₂ = { s with heap := h', toks := tk } ∧ SetR w h' s.heap.objs.size (fun j => decide (j ∈ ns)) c ∧ c ≤ ns.length ∧
          (∀ b o, s.heap.get? b = some o → h'.get? b = some o)) E) F.called_set.init.plain F.entry_set_init (check_set_init_1 hT ?_)) fun r₂ s₂ hr₂ => ?_
      · obtain ⟨ol, hol, hcl, nl, hdl⟩ := hl
        obtain ⟨ocls, odict, odata, oslots⟩ := ol
        simp only at hcl hdl
        subst hcl; subst hdl
        have hol' : (s.heap.push { cls := .type "set", dict := none, data := .set #[] 0 (.fresh 0 0 (!w.params.followText "set-order")) }).get? l = some { cls := .type "list", dict := odict, data := .seq items nl, slots := oslots } := Heap.get?_push_of_some _ hol
        have hsls := F.sub_list_set
        have hslf := F.sub_list_frozenset
        have hne : (Value.type "list" == Value.type "dict") = false := by decide
        have hl1 : (s.heap.push { cls := .type "set", dict := none, data := .set #[] 0 (.fresh 0 0 (!w.params.followText "set-order")) }).IsList l items := ⟨_, hol', rfl, nl, rfl⟩
        unfold Builtin.«set.__init__» noKeywords Builtin.Frozenset.updateFrom
        generalize hPI : pyIter = PI
        wp_walk
        subst hPI

        refine wpAny_pyIter_list hl1 ?_
        refine wpAny_bind (wpAny_runValue ?_)
        have hlS : l < s.heap.objs.size := Heap.lt_size hol
        have hh3 : A.in1.in1.in1.handled = none := by simp [hh]
        have hz1 : (s.heap.push { cls := .type "set", dict := none, data := .set #[] 0 (.fresh 0 0 (!w.params.followText "set-order")) }).objs.size = s.heap.objs.size + 1 := Heap.size_push ..
        have hneI : l ≠ (s.heap.push { cls := .type "set", dict := none, data := .set #[] 0 (.fresh 0 0 (!w.params.followText "set-order")) }).objs.size := by
          rw [Heap.size_push]; exact Nat.ne_of_lt (Nat.lt_succ_of_lt hlS)
        have hSf : s.heap.objs.size ∉ [(s.heap.push { cls := .type "set", dict := none, data := .set #[] 0 (.fresh 0 0 (!w.params.followText "set-order")) }).objs.size, l] := by
          rw [Heap.size_push]; simp only [List.mem_cons, List.mem_singleton, List.not_mem_nil, or_false, not_or]
          exact ⟨Nat.ne_of_lt (Nat.lt_succ_self _), Nat.ne_of_gt hlS⟩
        have hval : ∀ (i : Nat) (v : Value), items[i]? = some v → ∃ k t, ns[i]? = some k ∧ v = .int k t := fun i v hv => by
          have hi : i < ns.length := by rw [← hisz]; exact (Array.getElem?_eq_some_iff.mp hv).1
          obtain ⟨t, e⟩ := PyProof.Rows.IntsAre.int_at hit i v (by rw [Array.getElem?_toList]; exact hv)
          refine ⟨ns[i], t, List.getElem?_eq_getElem hi, ?_⟩
          rw [e, List.getD_eq_getElem?_getD, List.getElem?_eq_getElem hi] <;> rfl
        refine set_update_ints ((Walks.list hh3 _ l hneI items).toS) s.heap.objs.size
          hSf ns hisz hb hval (items.size - 0) 0 _ (by omega) (Nat.zero_le _)
          ⟨⟨_, Heap.get?_push_size _ rfl, rfl, rfl⟩, (hl1.push _)⟩ ?hS0 ?hR
        case hS0 =>
          have hget : ((s.heap.push { cls := .type "set", dict := none, data := .set #[] 0 (.fresh 0 0 (!w.params.followText "set-order")) }).push { cls := .type "list_iterator", data := .fields #[.ref l, .int 0 0] }).get? s.heap.objs.size
              = some { cls := .type "set", dict := none, data := .set #[] 0 (.fresh 0 0 (!w.params.followText "set-order")) } := Heap.get?_push_of_some _ hS
          exact ⟨0, Nat.le_refl 0, setR_new_at hget⟩
        case hR =>
          intro s' c' hm hc' hS'
          obtain ⟨h', g2, d', tk', os'⟩ := s'
          have eg : g2 = s.gens := hm.gens
          have ed : d' = s.drawn := hm.drawn
          have eo : os' = s.os := hm.os
          subst eg; subst ed; subst eo
          show wpAny _ _ _ _ _ _
          refine wpAny_pure ?_
          show wpAny _ _ (ret Value.none) _ _ _
          rw [hisz] at hc'
          refine wpAny_pure ⟨rfl, h', tk', c', rfl, hS', hc', fun b o e => ?_⟩
          have hb0 : b < s.heap.objs.size := Heap.lt_size e
          have hb1 : b ≠ s.heap.objs.size := Nat.ne_of_lt hb0
          have hb2 : b ≠ (s.heap.push { cls := .type "set", dict := none, data := .set #[] 0 (.fresh 0 0 (!w.params.followText "set-order")) }).objs.size := by
            rw [Heap.size_push]; exact Nat.ne_of_lt (Nat.lt_succ_of_lt hb0)
          exact hm.heap b o (by simp only [List.mem_cons, List.mem_singleton, List.not_mem_nil, or_false, not_or]; exact ⟨hb1, hb2⟩) (Heap.get?_push_of_some _ (Heap.get?_push_of_some _ e))

      · cases r₂ with
        | error e => exact hr₂
        | ok fl₂ =>
          cases fl₂ with
          | ret r =>
            obtain ⟨rfl, h', tk, c', rfl, hS', hc', hk'⟩ := hr₂
            repeat (any_goals (first | assumption | wp_step))
            exact h _ _ _ hS' hc' hk'
          | _ => exact hr₂.elim
    | _ => exact hr.elim
end
/-- the members, rising -/
def insU (x : Int) : List Int → List Int
  | [] => [x]
  | y :: l => if x < y then x :: y :: l else if x = y then y :: l else y :: insU x l
def setI (ns : List Int) : List Int := ns.foldr insU []
theorem insU_mem (x k : Int) : ∀ l : List Int, k ∈ insU x l ↔ k = x ∨ k ∈ l
  | [] => by simp [insU]
  | y :: l => by
    unfold insU
    split
    · simp
    · split
      · rename_i e
        subst e
        simp
      · rw [List.mem_cons, insU_mem x k l, List.mem_cons]
        constructor
        · rintro (h | h | h) <;> simp [h]
        · rintro (h | h | h) <;> simp [h]
theorem insU_rise (x : Int) : ∀ l : List Int, l.Pairwise (· < ·) → (insU x l).Pairwise (· < ·)
  | [], _ => List.pairwise_singleton _ _
  | y :: l, h => by
    obtain ⟨h1, h2⟩ := List.pairwise_cons.mp h
    unfold insU
    split
    · rename_i z
      refine List.pairwise_cons.mpr ⟨fun v hv => ?_, h⟩
      rcases List.mem_cons.mp hv with e | hv
      · rw [e]; exact z
      · have := h1 v hv; omega
    · split
      · exact h
      · refine List.pairwise_cons.mpr ⟨fun v hv => ?_, insU_rise x l h2⟩
        rcases (insU_mem x v l).mp hv with e | hv
        · omega
        · exact h1 v hv
theorem setI_mem {k : Int} : ∀ {ns : List Int}, k ∈ setI ns ↔ k ∈ ns
  | [] => by simp [setI]
  | n :: ns => by
    show k ∈ insU n (setI ns) ↔ _
    rw [insU_mem, setI_mem, List.mem_cons]
theorem setI_rise : ∀ ns : List Int, (setI ns).Pairwise (· < ·)
  | [] => List.Pairwise.nil
  | n :: ns => insU_rise n _ (setI_rise ns)
theorem riseZ_uniq : ∀ {l m : List Int}, l.Pairwise (· < ·) → m.Pairwise (· < ·) → (∀ x, x ∈ l ↔ x ∈ m) → l = m
  | [], [], _, _, _ => rfl
  | [], y :: m, _, _, h => absurd ((h y).mpr (by simp)) (by simp)
  | x :: l, [], _, _, h => absurd ((h x).mp (by simp)) (by simp)
  | x :: l, y :: m, hl, hm, h => by
    have hl' := List.pairwise_cons.mp hl
    have hm' := List.pairwise_cons.mp hm
    have e : x = y := by
      rcases List.mem_cons.mp ((h x).mp (by simp)) with e | q
      · exact e
      · rcases List.mem_cons.mp ((h y).mpr (by simp)) with e | q'
        · exact e.symm
        · have := hl'.1 y q'
          have := hm'.1 x q
          omega
    subst e
    refine congrArg (x :: ·) (riseZ_uniq hl'.2 hm'.2 fun z => ⟨fun q => ?_, fun q => ?_⟩)
    · rcases List.mem_cons.mp ((h z).mp (by simp [q])) with e | q'
      · have := hl'.1 z q; omega
      · exact q'
    · rcases List.mem_cons.mp ((h z).mpr (by simp [q])) with e | q'
      · have := hm'.1 z q; omega
      · exact q'
theorem setR_size {w : World} {h : Heap} {a : Addr} {ns : List Int} {c : Nat} (R : SetR w h a (fun j => decide (j ∈ ns)) c) : c = (setI ns).length := by
  obtain ⟨o, es, ep, t, _, _, _, _, nd, hm, _, _, hn, _⟩ := R
  have p : (es.toList.map keyOf).Perm (setI ns) := (List.perm_ext_iff_of_nodup nd ((setI_rise ns).imp fun {a b} q e => by omega)).mpr fun k => by
    rw [setI_mem, ← hm k, decide_eq_true_eq]
  have := p.length_eq
  rw [List.length_map, Array.length_toList, hn] at this
  exact this
section
variable {X : Cx}
def rSetIS (X : Cx) : List V → Hp → VK → Prop := fun vs H Q => ∃ (p : Addr) (ns : List Int), vs = [.ref p] ∧ (SqL X.K H p (ns.map V.int) ∨ SqT X.K H p (ns.map V.int)) ∧ ns.length + 1 < scanBound ∧
  ∀ a, H a = none → Q (.ref a) (upd H a (SetO X.w a (fun j => decide (j ∈ ns)) (setI ns).length))
theorem cr_setIS (hc : X.calm = true) : CallR X (.type "set") (rSetIS X) := by
  intro pins s σ H vs us Q I r h
  obtain ⟨p, ns, rfl, hs, hb, q⟩ := h
  obtain ⟨u, rfl, ru⟩ := vals1 r
  cases ru
  have fin : ∀ (h' : Heap) (tk c : Nat), SetR X.w h' s.heap.objs.size (fun j => decide (j ∈ ns)) c → c ≤ ns.length → (∀ b o, s.heap.get? b = some o → h'.get? b = some o) → EP X pins σ Q (.ref s.heap.objs.size) { s with heap := h', toks := tk } := fun h' tk c R _ k => by
    have e := setR_size R
    subst e
    exact ⟨.ref s.heap.objs.size, _, I.laid (t' := tk) k (Nat.le_refl _) (setO_new R), rfl, q _ (I.hok.fresh (Nat.le_refl _))⟩
  rcases hs with hs | hs
  · obtain ⟨its, rv, pl, hz⟩ := I.list hs
    exact call_set_lstI ns (I.ok.hd hc) pl.isList (by simpa using ints_of_vals rv) hb fin
  · obtain ⟨its, rv, pt, hz⟩ := I.tuple hs
    exact call_set_tupI ns (I.ok.hd hc) (show s.heap.IsTuple p its.toArray from pt) (by simpa using ints_of_vals rv) hb fin
end
variable [KF]
section
variable {X : Cx} {A : Act}
def intsD : PyData → Option (List Int)
  | .list ds => intsOf ds
  | .tuple ds => intsOf ds
  | _ => none
/-- sorted(set(e)) -/
def mSrtSet (m : ME) : ME := fun μ => (m μ).bind fun p => (deref p.2 p.1).bind fun D => (intsD D).bind fun ns => if ns.length ≤ 4000 ∧ (setI ns).length < 64 then some (.fre ((setI ns).map .int), p.2) else none
theorem qe_srtSet {e : Expr} {p pos p' pos' : Pos} {m : ME} (he : PE X e (tE A m)) (hg : Gl X "sorted") (hm : X.mg "sorted" = none) (hg2 : Gl X "set") (hm2 : X.mg "set" = none) (hc : X.calm = true := by rfl)
    (na : starEach [e] X.env = (false, eval e X.env) :: starEach [] X.env := by rfl)
    (na2 : starEach [Expr.Call (.Name "set" p') [e] [] pos'] X.env = (false, eval (Expr.Call (.Name "set" p') [e] [] pos') X.env) :: starEach [] X.env := by rfl) :
    PE X (.Call (.Name "sorted" p) [.Call (.Name "set" p') [e] [] pos'] [] pos) (tE A (mSrtSet m)) :=
  pe_to (pe_callB (cr_sortedSet hc) hg hm (by rfl) (pa_cons (pe_callTy (cr_setIS hc) hg2 hm2 (by rfl) (pa_cons he pa_nil na) (by decide) (by decide) na) pa_nil na2) (by decide) (by decide) na2) fun σ H Q ⟨G, μ, z, μ', R, e, kk⟩ => by
  obtain ⟨p, e1, e⟩ := bind2 e
  obtain ⟨D, e2, e⟩ := bind2 e
  obtain ⟨ns, e3, e⟩ := bind2 e
  split at e
  · rename_i hb
    cases e
    refine ⟨G, μ, p.1, p.2, R, e1, fun G1 H1 v s1 R1 q1 n1 => ?_⟩
    have hx := q1.db R1 e2
    have hs : ∃ q, v = .ref q ∧ (SqL X.K H1 q (ns.map V.int) ∨ SqT X.K H1 q (ns.map V.int)) := by
      cases D <;> first | (cases e3; done) | skip
      · cases intsOf_some e3
        obtain ⟨q, vs, rfl, h1, h2⟩ := hx.l R1.ext
        cases dqa_ints h2
        exact ⟨q, rfl, .inl (.inl h1)⟩
      · cases intsOf_some e3
        obtain ⟨q, o, vs, rfl, h1, _, h2⟩ := hx.tt R1.ext
        cases dqa_ints h2
        exact ⟨q, rfl, .inr (.inl (.inr ⟨o, h1⟩))⟩
    obtain ⟨q, rfl, hq⟩ := hs
    refine ⟨q, ns, rfl, hq, by unfold scanBound; omega, fun a ha => ?_⟩
    refine ⟨a, _, _, rfl, upd_same, hb.2, fun out l o1 o2 o3 hl => ?_⟩
    have eo : out = setI ns := riseZ_uniq o1 (setI_rise ns) fun k => by rw [o2, setI_mem, decide_eq_true_eq]
    subst eo
    have g0 := Grow.free (o := SetO X.w a (fun j => decide (j ∈ ns)) (setI ns).length) R1.ext ha
    have gl := Grow.free (o := .lst ((setI ns).map V.int)) g0.gh hl
    have gg := g0.trans gl
    have rs : ResV H1 G1 (upd (upd H1 a (SetO X.w a (fun j => decide (j ∈ ns)) (setI ns).length)) l (.lst ((setI ns).map V.int))) (.ref l) (.fre ((setI ns).map .int)) :=
      ⟨l, _, rfl, g0.h.free hl, upd_same, dqa_of_ints _, g0.gh.free hl⟩
    exact kk _ _ _ (s1.trans gg.step) (R1.grow gg) (rs.rel R1) (rs.nw.back s1)
  · cases e
end
end ML

set_option maxRecDepth 100000
set_option maxHeartbeats 4000000
/-! ### {i: x, j: y} with two unlike ints as keys, never altered; d.get(i, x) of such a dict -/
namespace ML
open PySem PySem.Spec PyProof.Rows L2 RZ
variable [KF]
def lookZ (es : List (PyData × PyData)) (i : Int) : Option PyData := (es.find? fun e => match e.1 with | .int j => decide (j = i) | _ => false).map (·.2)
def intKs : List (PyData × PyData) → Bool
  | [] => true
  | (.int _, _) :: es => intKs es
  | _ :: _ => false
theorem dqk_look {G : Hp} {i : Int} : ∀ {kvs : List (Key × V)} {es : List (PyData × PyData)}, DqKv G kvs es → RelD G (valV kvs (.inl i)) (lookZ es i)
  | _, _, .nil => .no
  | _, _, .cons (k := k) (v := v) (vs := vs) (d := d) (ds := ds) h t => by
    have ih := dqk_look (i := i) t
    cases k with
    | inl j =>
      by_cases z : j = i
      · have w1 : valV ((Sum.inl j, v) :: vs) (.inl i : Key) = some v := by simp [valV, List.find?_cons, z]
        have w2 : lookZ ((kD (.inl j), d) :: ds) i = some d := by simp [lookZ, kD, List.find?_cons, z]
        rw [w1, w2]
        exact .so h
      · have w1 : valV ((Sum.inl j, v) :: vs) (.inl i : Key) = valV vs (.inl i) := by simp [valV, List.find?_cons, z]
        have w2 : lookZ ((kD (.inl j), d) :: ds) i = lookZ ds i := by simp [lookZ, kD, List.find?_cons, z]
        rw [w1, w2]
        exact ih
    | inr x =>
      have w1 : valV ((Sum.inr x, v) :: vs) (.inl i : Key) = valV vs (.inl i) := by simp [valV, List.find?_cons]
      have w2 : lookZ ((kD (.inr x), d) :: ds) i = lookZ ds i := by simp [lookZ, kD, List.find?_cons]
      rw [w1, w2]
      exact ih
theorem dq_dKz {G : Hp} {v : V} {es : List (PyData × PyData)} (h : Dq G v (.dict es)) (hk : intKs es = true) (hne : es ≠ []) : ∃ a kvs, v = .ref a ∧ Rd G a (.dK kvs) ∧ DqKv G kvs es := by
  generalize hd : PyData.dict es = d at h
  cases h with
  | dicK h1 h0 h2 => cases hd; exact ⟨_, _, rfl, h1, h2⟩
  | dicT h1 h2 =>
    cases hd
    cases h2 with
    | nil => exact absurd rfl hne
    | cons _ _ _ _ => cases hk
  | scr h1 =>
    injection hd with hd
    rw [hd] at hk
    cases hk
  | non => cases hd
  | bl _ => cases hd
  | int _ => cases hd
  | str _ => cases hd
  | lst _ _ => cases hd
  | tup _ _ _ => cases hd
section
variable {X : Cx} {A : Act}
/-- {i: x, j: y} -/
def mDisp2 (mk mv nk nv : ME) : ME := fun μ => (mk μ).bind fun p => (asD p.1).bind fun a => (mv p.2).bind fun q => (asD q.1).bind fun x => (nk q.2).bind fun r => (asD r.1).bind fun b => (nv r.2).bind fun s => (asD s.1).bind fun y =>
  match a, b with
  | .int i, .int j => if i = j then none else some (.dat (.dict [(.int i, x), (.int j, y)]), s.2)
  | _, _ => none
theorem qe_disp2 {kx vx kx2 vx2 : Expr} {pos : Pos} {mk mv nk nv : ME} (hk : PE X kx (tE A mk)) (hv : PE X vx (tE A mv)) (hk2 : PE X kx2 (tE A nk)) (hv2 : PE X vx2 (tE A nv)) :
    PE X (.Dict [some kx, some kx2] [vx, vx2] pos) (tE A (mDisp2 mk mv nk nv)) :=
  pe_to (pe_disp (pps_cons hk hv (pps_cons hk2 hv2 pps_nil)) rfl rfl (fun z => nomatch z) (by show 2 ≤ 15; decide)) fun σ H Q ⟨G, μ, z, μ', R, e, kk⟩ => by
  obtain ⟨p1, e1, e⟩ := bind2 e
  obtain ⟨a, e2, e⟩ := bind2 e
  obtain ⟨p2, e3, e⟩ := bind2 e
  obtain ⟨x, e4, e⟩ := bind2 e
  obtain ⟨p3, e5, e⟩ := bind2 e
  obtain ⟨b, e6, e⟩ := bind2 e
  obtain ⟨p4, e7, e⟩ := bind2 e
  obtain ⟨y, e8, e⟩ := bind2 e
  have two : ∃ i j, a = .int i ∧ b = .int j := by
    cases a <;> first | (cases e; done) | skip
    cases b <;> first | (cases e; done) | skip
    exact ⟨_, _, rfl, rfl⟩
  obtain ⟨i, j, rfl, rfl⟩ := two
  have e : (if i = j then none else some (MV.dat (.dict [(.int i, x), (.int j, y)]), p4.2)) = some (z, μ') := e
  by_cases hij : i = j
  · rw [if_pos hij] at e; cases e
  rw [if_neg hij] at e
  cases e
  intro p hp
  have g0 := Grow.free (o := .dK []) R.ext hp
  have hA : A.H p = none := by
    cases q : A.H p with
    | none => rfl
    | some o => exact absurd hp (R.lv p (by rw [q]; exact fun z => nomatch z))
  have no : ¬ Own A σ p := fun ⟨i, hi, hs⟩ => R.liv i p hi hs hp
  have live : L2.upd H p (.dK []) p ≠ none := by rw [upd_same]; exact fun z => nomatch z
  have gp := R.ext.free hp
  refine ⟨G, μ, p1.1, p1.2, R.grow g0, e1, fun G1 H1 u s1 R1 q1 n1 => ⟨G1, p1.2, p2.1, p2.2, R1, e3, fun G2 H2 v s2 R2 q2 n2 => ⟨G2, p2.2, p3.1, p3.2, R2, e5, fun G3 H3 u' s3 R3 q3 n3 => ⟨G3, p3.2, p4.1, p4.2, R3, e7, fun G4 H4 v' s4 R4 q4 n4 => ?_⟩⟩⟩⟩
  rw [asD_some e2] at q1
  rw [asD_some e4] at q2
  rw [asD_some e6] at q3
  rw [asD_some e8] at q4
  have h1 : H1 p = some (.dK []) := s1.h _ _ upd_same no
  have h2 : H2 p = some (.dK []) := s2.h _ _ h1 no
  have h3 : H3 p = some (.dK []) := s3.h _ _ h2 no
  have h4 : H4 p = some (.dK []) := s4.h _ _ h3 no
  have gp1 : G1 p = none := s1.fr p live gp
  have gp2 : G2 p = none := s2.fr p (by rw [h1]; exact fun z => nomatch z) gp1
  have gp3 : G3 p = none := s3.fr p (by rw [h2]; exact fun z => nomatch z) gp2
  have gp4 : G4 p = none := s4.fr p (by rw [h3]; exact fun z => nomatch z) gp3
  cases dq_int q1
  cases dq_int q3
  refine ⟨h4, [(.inl i, v), (.inl j, v')], rfl, by show 2 ≤ 15; decide, ?_⟩
  have mk : mergeK [] [((.inl i : Key), v), (.inl j, v')] = [(.inl i, v), (.inl j, v')] := by
    simp [mergeK, putK, hij]
  rw [mk]
  have sg : Same G4 (L2.upd G4 p (.dK [(.inl i, v), (.inl j, v')])) := fun c u z => by rw [upd_ne (ne_of_none z gp4)]; exact z
  have st : Step A σ G H (L2.upd G4 p (.dK [(.inl i, v), (.inl j, v')])) (L2.upd H4 p (.dK [(.inl i, v), (.inl j, v')])) := by
    refine ⟨(((s1.g.trans s2.g).trans s3.g).trans s4.g).trans sg, fun c u hc nc => ?_, fun c hc gc => ?_, fun c hc => ?_⟩
    · have ne : c ≠ p := fun z => by rw [z, hp] at hc; cases hc
      rw [upd_ne ne]
      exact s4.h _ _ (s3.h _ _ (s2.h _ _ (s1.h _ _ (by rw [upd_ne ne]; exact hc) nc) nc) nc) nc
    · have ne : c ≠ p := fun z => hc (z ▸ hp)
      have hc1 : L2.upd H p (.dK []) c ≠ none := by rw [upd_ne ne]; exact hc
      rw [upd_ne ne]
      exact s4.fr c (s3.lv c (s2.lv c (s1.lv c hc1))) (s3.fr c (s2.lv c (s1.lv c hc1)) (s2.fr c (s1.lv c hc1) (s1.fr c hc1 gc)))
    · by_cases z : c = p
      · rw [z, upd_same]; exact fun z => nomatch z
      · rw [upd_ne z]
        exact s4.lv c (s3.lv c (s2.lv c (s1.lv c (by rw [upd_ne z]; exact hc))))
  have R5 : Rl A (L2.upd G4 p (.dK [(.inl i, v), (.inl j, v')])) p4.2 σ (L2.upd H4 p (.dK [(.inl i, v), (.inl j, v')])) := by
    have R4' := R4.other (o := .dK [(.inl i, v), (.inl j, v')]) gp4 hA no
    refine ⟨R4'.len, fun c u hc => ?_, R4'.up.trans sg, R4'.fr, R4'.lv, fun c h g => ?_, fun j d' h n => ?_, fun j d' hj n => ?_, R4'.liv, R4'.sep, R4'.par⟩
    · by_cases z : c = p
      · rw [z, upd_same] at hc
        rw [z, upd_same]
        exact hc
      · rw [upd_ne z] at hc
        exact R4'.ext _ _ hc
    · rw [upd_ne (fun z => h (by rw [z]; exact hA))]; exact R4'.fg c h g
    · obtain ⟨v, f1, f2⟩ := R4'.val j d' h n
      exact ⟨v, f1, dq_mono sg f2⟩
    · obtain ⟨q, ob', f1, f2, f3, f4, f5⟩ := R4'.own j d' hj n
      have ne : q ≠ p := fun z => no ⟨j, n, z ▸ f1⟩
      exact ⟨q, ob', f1, f2, f3.mono sg, by rw [upd_ne ne]; exact f4, f5⟩
  have fin : Dq (L2.upd G4 p (.dK [(.inl i, v), (.inl j, v')])) (.ref p) (.dict [(.int i, x), (.int j, y)]) :=
    .dicK (.inl upd_same) (fun z => nomatch z) (.cons (k := .inl i) (dq_mono ((s3.g.trans s4.g).trans sg) q2) (.cons (k := .inl j) (dq_mono sg q4) .nil))
  exact kk _ _ _ st R5 fin trivial
/-- d.get(i, x) -/
def mGetZ (d k x : ME) : ME := fun μ => (d μ).bind fun p => (asD p.1).bind fun D => (esD D).bind fun es => (k p.2).bind fun q => (asD q.1).bind fun a => (x q.2).bind fun r => (asD r.1).bind fun z => match a with
  | .int i => if intKs es = true ∧ es.isEmpty = false then some (.dat ((lookZ es i).getD z), r.2) else none
  | _ => none
theorem qe_getZ {k : Nat} {o e f : Expr} {apos cpos : Pos} {md mk mx : ME} (hr : Rm k X.A) (ho : PE X o (tE A md)) (he : PE X e (tE A mk)) (hf : PE X f (tE A mx)) (m : M2 X o "get" apos e f cpos := by exact ⟨rfl, rfl, rfl, rfl⟩) : PE X (.Call (.Attribute o "get" apos) [e, f] [] cpos) (tE A (mGetZ md mk mx)) :=
  pe_to (pe_dget2 (by have := hr.un; omega) ho he hf m) fun σ H Q ⟨G, μ, z, μ', R, e, kk⟩ => by
  obtain ⟨p, e1, e⟩ := bind2 e
  obtain ⟨D, e2, e⟩ := bind2 e
  obtain ⟨es, e3, e⟩ := bind2 e
  obtain ⟨q, e4, e⟩ := bind2 e
  obtain ⟨a, e5, e⟩ := bind2 e
  obtain ⟨r, e6, e⟩ := bind2 e
  obtain ⟨dx, e7, e⟩ := bind2 e
  have one : ∃ i, a = .int i := by
    cases a <;> first | (cases e; done) | skip
    exact ⟨_, rfl⟩
  obtain ⟨i, rfl⟩ := one
  have e : (if intKs es = true ∧ es.isEmpty = false then some (MV.dat ((lookZ es i).getD dx), r.2) else none) = some (z, μ') := e
  split at e
  · rename_i hb
    cases e
    cases esD_some e3
    refine ⟨G, μ, p.1, p.2, R, e1, fun G1 H1 v s1 R1 q1 n1 => ?_⟩
    rw [asD_some e2] at q1
    obtain ⟨c, kvs, rfl, h1, h2⟩ := dq_dKz q1 hb.1 (fun z => by rw [z] at hb; exact absurd hb.2 (by decide))
    refine ⟨c, rfl, .inl ⟨kvs, rd_mono R1.ext h1⟩, G1, p.2, q.1, q.2, R1, e4, fun G2 H2 y s2 R2 q2 n2 => ⟨G2, q.2, r.1, r.2, R2, e6, fun G3 H3 w s3 R3 q3 n3 => ?_⟩⟩
    rw [asD_some e5] at q2
    rw [asD_some e7] at q3
    cases dq_int q2
    refine ⟨valV kvs (.inl i), .inl ⟨kvs, .inl i, rd_mono R3.ext (rd_mono (s2.g.trans s3.g) h1), rfl, rfl⟩, kk G3 H3 _ ((s1.trans s2).trans s3) R3 ?_ trivial⟩
    have := dqk_look (i := i) h2
    show Dq G3 ((valV kvs (.inl i)).getD w) ((lookZ es i).getD dx)
    cases hx : valV kvs (.inl i) with
    | none =>
      rw [hx] at this
      cases hy : lookZ es i with
      | none => exact q3
      | some y => rw [hy] at this; cases this
    | some x =>
      rw [hx] at this
      cases hy : lookZ es i with
      | none => rw [hy] at this; cases this
      | some y =>
        rw [hy] at this
        cases this with
        | so h => exact dq_mono (s2.g.trans s3.g) h
  · cases e
end
end ML

set_option maxRecDepth 100000
set_option maxHeartbeats 4000000
/-! ### sorted(xs) of a list of one or none, of any kind -/
namespace ML
open PySem PySem.Spec PyProof.Rows L2 RZ
theorem perm_one {α : Type} : ∀ {l m : List α}, l.length ≤ 1 → m.Perm l → m = l
  | [], m, _, p => List.Perm.eq_nil p
  | [x], m, _, p => List.perm_singleton.mp p
  | _ :: _ :: _, _, h, _ => absurd h (by simp)
section
variable {X : Cx} {pins : List (Addr × Obj)} {σ : L2.St} {H : Hp} {s : Shared}
def rSort1 (K : PySem.W.Frag) : List V → Hp → VK → Prop := fun vs H Q => ∃ (a : Addr) (xs : List V), vs = [.ref a] ∧ SqL K H a xs ∧ xs.length ≤ 1 ∧ ∀ p, H p = none → Q (.ref p) (upd H p (.lst xs))
theorem cr_sort1 : CallR X (.builtin "sorted") (rSort1 X.K) := by
  intro pins s σ H vs us Q I r h
  obtain ⟨a, xs, rfl, hs, hl1, q⟩ := h
  obtain ⟨its, rv, hl, hz⟩ := I.list hs
  obtain ⟨u, rfl, ru⟩ := vals1 r
  cases ru
  have len : its.length ≤ 1 := by rw [← rv.length]; exact hl1
  refine SrtO.sorted_ord (swoSK fun _ => (([], []) : SK)) hl.isList (by rw [← rv.length]; exact hz) (fun h2 => absurd (Nat.le_trans h2 len) (by decide)) fun out h1 h2 => ?_
  have eo : out = its := perm_one len h2.perm
  subst eo
  obtain ⟨n, hn⟩ := sortedAll_at s.heap out out.toArray
  have new : ObjOk X.prog X.w (upd H (s.heap.objs.size + 1) (.lst xs)) (sortedAll s.heap out out.toArray) (s.heap.objs.size + 1) (.lst xs) := ⟨hz, out, n, rv, hn⟩
  exact ⟨.ref (s.heap.objs.size + 1), upd H (s.heap.objs.size + 1) (.lst xs), I.laid (t' := s.toks) (fun _ _ => PyProof.Rows.sortedAll_old) (Nat.le_succ _) new, rfl, q _ (I.hok.fresh (Nat.le_succ _))⟩
end
variable [KF]
section
variable {X : Cx} {A : Act}
def dSort1 : PyData → Option MV
  | .list ds => if ds.length ≤ 1 then some (.fre ds) else none
  | _ => none
theorem ok_sort1 : CallOk X (.builtin "sorted") (c1 dSort1) := ok_c1 cr_sort1 fun G H x a z Q e hx hz k => by
  cases a <;> first | (cases hz; done) | skip
  rename_i ds
  have hz : (if ds.length ≤ 1 then some (MV.fre ds) else none) = some z := hz
  split at hz
  · rename_i q
    cases hz
    obtain ⟨p, vs, rfl, h1, h2⟩ := hx.l e
    exact ⟨p, vs, rfl, .inl h1, by rw [dqa_len h2]; exact q, fun t ht => k _ _ _ (.free e ht) (res_fre e ht h2)⟩
  · cases hz
def dSortY : PyData → Option MV := fun a => match dSort1 a with | some z => some z | none => dSortZ a
theorem ok_sortY {k : Nat} (hr : Rm k X.A) (hc : X.calm = true := by rfl) : CallOk X (.builtin "sorted") (c1 dSortY) := by
  refine CallOk.sub (ok_sort1.or (ok_sortZ hr hc)) fun a z h => ?_
  match a, h with
  | [a], h =>
    have h : dSortY a = some z := h
    unfold dSortY at h
    unfold orC
    exact h
end
end ML

set_option maxRecDepth 100000
set_option maxHeartbeats 4000000
/-! ### defs that raise: what is raised, mirrored beside what is told -/
namespace ML
open PySem PySem.Spec PyProof.Rows L2 RZ
/-- an exception: its class's name, what it keeps -/
structure Ex where
  cls : Str
  many : Option Int
abbrev MR := Mu → Option (Ex × Mu)
def ExD (H : Hp) (d : Option Addr) : Option Int → Prop
  | none => d = none
  | some i => ∃ dd, d = some dd ∧ H dd = some (.xd [(("many" : Str), .int i)])
/-! a def's promise -/
structure FnX (P : Program) (w : World) (K : PySem.W.Frag) (mg : Str → Option Value) (base : Heap) (k : Nat) (f : Addr) (fd : FuncData) (ps : List Str) (sp : Sp) : Prop where
  many : ∀ {vs : List V} {H : Hp} {Q : VK} {E : XK}, sp vs H Q E → vs.length = ps.length
  go : ∀ {A : Around} {outer : List Env} {s : Shared} {H : Hp} {args : Args} {us : List Value} {vs : List V} {Q : VK} {E : XK},
    Rm k A → Env0 P w K mg base A outer s H → BindsTo s fd args (ps.zip us) → Vals vs us → sp vs H Q E →
    codeAny (model P w) A (.call (.ref f) args) (CR (L2.CX P w) outer P w H s Q E) s
section
variable {P : Program} {w : World} {K : PySem.W.Frag} {mg : Str → Option Value} {base : Heap}
theorem okGX {x qual : Str} {st : Stmt} {f : Addr} {fd : FuncData} {N ps : List Str} {k : Nat} {sp : Sp} (F : Fun K x qual st f fd) (S : FnScope N ps (defScope st)) (many : ∀ {vs : List V} {H : Hp} {Q : VK} {E : XK}, sp vs H Q E → vs.length = ps.length)
    (body : ∀ (cdv : Value) (A : Around) (outer : List Env) (s : Shared) (H : Hp) (vs : List V) (Q : VK) (E : XK), Rm k (A.deeper (envOfC qual (defScope st) s.heap.objs.size f cdv)) → sp vs H Q E →
      ∃ t, PSs (cxOf (L2.CX P w) P w K mg base N qual (defScope st) f cdv A outer s H E) (defBody st) t ∧ t { nx := fun _ H' => Q .non H', rt := Q } (start N vs) H) : FnX P w K mg base (k + 1) f fd ps sp := by
  obtain ⟨oc, od, kV, doc, pm, an, cdv, ct, osl, rfl, found, code⟩ := F.ex
  constructor
  · exact many
  intro A outer s H args us vs Q E room env binds rel wish
  have up : ∀ b o, base.get? b = some o → s.heap.get? b = some o := fun b o e => (env.bs b o e).1
  have inK := env.mod.kin.keeps up
  obtain ⟨t, runs, ends⟩ := body cdv A outer s H vs Q E (room.deeper _) wish
  apply codeAny_call_function room.depth (inK _ _ found) rfl S.co S.gen rfl (PySem.W.codeRec_of inK code)
  apply binds
  apply wpAny_newFunctionEnv_cells S.kind (zip_kinds S _ us)
  rintro _ rfl s1 began
  refine ⟨(env.mod.nolimit.keeps up).keeps began.toInCall.keep, codeAny_func ?_⟩
  have J0 := inv_start (CX := L2.CX P w) (P := P) (w := w) (mg := mg) (E := E) S room.hd env (many wish) rel began
  refine wpAny_mono (runs.run [] s1 (start N vs) H _ J0 ends) ?_ (fun _ _ h => h)
  rintro (_ | _ | _ | u) s2 h
  · obtain ⟨σ2, H2, J, q⟩ := h
    exact ⟨.non, H2, J.os, J.bare, J.base, J.hok, rfl, q⟩
  · exact h.elim fun _ h => h.elim fun _ h => h.2.elim
  · exact h.elim fun _ h => h.elim fun _ h => h.2.elim
  · obtain ⟨v, σ2, H2, J, rv, q⟩ := h
    exact ⟨v, H2, J.os, J.bare, J.base, J.hok, rv, q⟩
end
section
variable {X : Cx} {k : Nat} {f : Addr} {fd : FuncData} {ps : List Str} {sp : Sp}
theorem FnX.run (F : FnX X.prog X.w X.K X.mg X.base k f fd ps sp) (room : Rm k X.A) (hb : Binds X.K fd ps []) {W : WX} (tk : L2.Takes X W) {pins : List (Addr × Obj)} {σ : L2.St} {H : Hp} {s : Shared} {Q : VK} {us : List Value} {vs : List V}
    (I : Inv X pins σ H s) (rel : Vals vs us) (wish : sp vs H Q (WE W σ)) : wpAny (model X.prog X.w) X.A (call (.ref f) us) (EP X pins σ Q) X.xe s := by
  have b := hb s us I.kIn (by rw [List.append_nil, ← rel.length]; exact F.many wish)
  rw [List.append_nil] at b
  refine wpAny_call (codeAny_mono (F.go room I.env0 b rel wish) ?_)
  rintro r s2 h
  cases r with
  | error e => exact passAt tk σ pins H s e s2 I h
  | ok fl =>
    cases fl with
    | ret u => exact I.after h
    | next => exact h.elim
    | brk => exact h.elim
    | cont => exact h.elim
/-- f(e, ..), that may raise -/
theorem pg_callX {W : WX} {x : Str} {p pos : Pos} {e : Expr} {es : List Expr} {t : TA} (F : FnX X.prog X.w X.K X.mg X.base k f fd ps sp) (room : Rm k X.A) (tk : L2.Takes X W) (hg : Gl X x) (hm : X.mg x = some (.ref f)) (hk : PySem.W.keepIn X.K (.ref f) = true) (hb : Binds X.K fd ps [])
    (ha : PA X (e :: es) t) (hdb : (x == ("__debug__" : Str)) = false := by decide) (he : starEach (e :: es) X.env = (false, eval e X.env) :: starEach es X.env := by rfl) (hpl : (backTo pos (starEach es X.env)).any (·.1) = false := by rfl) :
    PE X (.Call (.Name x p) (e :: es) [] pos) (tCallS sp (WE W) t) := by
  constructor
  intro pins s σ H Q I h
  apply wpAny_Call_Name_kw
  refine ld_glob I hg hm ?_ hdb
  apply PySem.W.callWith_K (h₀ := X.base) I.ok.mod.kin hk _ he hpl
  refine thn (ha.run pos pins s σ H _ I h) ?_
  rintro us s1 ⟨vs, H1, J, rel, wish⟩
  exact ⟨J.kIn, F.run room hb tk J rel wish⟩
end
variable [KF]
/-- a pure def that may raise -/
def spX (mg : Str → Option Value) (n : Nat) (F : List PyData → Option MV) (R : List PyData → Option Ex) : Sp := fun vs H Q E => ∃ G ds, vs.length = n ∧ DqAll G vs ds ∧ Same G H ∧
  ((∃ x, F ds = some x ∧ ∀ G' H' v, Grow G H G' H' → ResV H G' H' v x → Q v H') ∨ (∃ e, R ds = some e ∧ ∀ G' H' C d, Grow G H G' H' → mg e.cls = some (.ref C) → ExD H' d e.many → E (.ref C) d H'))
/-! readings -/
def SatR (mg : Str → Option Value) (A : Act) (W : WX) (G : Hp) (e : Ex) (μ' : Mu) : Prop := ∀ σ' G' H' C d, Same G G' → Rl A G' μ' σ' H' → mg e.cls = some (.ref C) → ExD H' d e.many → W (.ref C) d σ' H'
theorem SatR.mono {mg : Str → Option Value} {A : Act} {W : WX} {G G1 : Hp} {e : Ex} {μ' : Mu} (h : SatR mg A W G e μ') (s : Same G G1) : SatR mg A W G1 e μ' := fun σ' G' H' C d s' R m x => h σ' G' H' C d (s.trans s') R m x
def tR (mg : Str → Option Value) (A : Act) (W : WX) (r : MR) : L2.St → Hp → Prop := fun σ H => ∃ G μ e μ', Rl A G μ σ H ∧ r μ = some (e, μ') ∧ SatR mg A W G e μ'
def tX (mg : Str → Option Value) (A : Act) (W : WX) (m : MS) (r : MR) : TS := fun D σ H => tS A m D σ H ∨ tR mg A W r σ H
def tEX (mg : Str → Option Value) (A : Act) (W : WX) (m : ME) (r : MR) : TE := fun σ H Q => tE A m σ H Q ∨ tR mg A W r σ H
def rNo : MR := fun _ => none
def rSeq (m : MS) (r r2 : MR) : MR := fun μ => match r μ with | some x => some x | none => match m μ with | some (.nx μ1) => r2 μ1 | _ => none
def rIf (mc : MT) (r r2 : MR) : MR := fun μ => (mc μ).bind fun p => if p.1 = true then r p.2 else r2 p.2
def rRaise (c : Str) : MR := fun μ => some (⟨c, none⟩, μ)
def rRaiseI (c : Str) (m : ME) : MR := fun μ => (m μ).bind fun p => (asD p.1).bind fun d => (isI d).map fun i => (⟨c, some i⟩, p.2)
def rCall (n : Nat) (R : List PyData → Option Ex) (m : MA) : MR := fun μ => (m μ).bind fun p => (dats p.1).bind fun ds => if ds.length = n then (R ds).map fun e => (e, p.2) else none
def rWhileN (c : MT) (b : MS) (r : MR) : Nat → MR
  | 0 => fun _ => none
  | n + 1 => fun μ => (c μ).bind fun p => if p.1 = true then (match r p.2 with | some x => some x | none => match b p.2 with | some (.nx μ2) => rWhileN c b r n μ2 | some (.ct μ2) => rWhileN c b r n μ2 | _ => none) else none
open Classical in
noncomputable def rWhile (c : MT) (b : MS) (r : MR) : MR := fun μ => if h : ∃ o, ∃ n, rWhileN c b r n μ = some o then some h.choose else none
theorem rWhileN_more {c : MT} {b : MS} {r : MR} : ∀ {n m : Nat} {μ : Mu} {o : Ex × Mu}, rWhileN c b r n μ = some o → n ≤ m → rWhileN c b r m μ = some o
  | 0, _, _, _, h, _ => by cases h
  | n + 1, 0, _, _, _, h => by omega
  | n + 1, m + 1, μ, o, h, hm => by
    unfold rWhileN at h ⊢
    obtain ⟨p, e1, e2⟩ := bind2 h
    rw [e1]
    show (if p.1 = true then _ else none) = _
    split at e2
    · rename_i hp
      rw [if_pos hp]
      cases q : r p.2 with
      | some x => rw [q] at e2; exact e2
      | none =>
        rw [q] at e2
        cases q2 : b p.2 with
        | none => rw [q2] at e2; cases e2
        | some ob =>
          rw [q2] at e2
          cases ob with
          | nx μ2 => exact rWhileN_more (n := n) (m := m) e2 (by omega)
          | ct μ2 => exact rWhileN_more (n := n) (m := m) e2 (by omega)
          | bk μ2 => cases e2
          | rt x μ2 => cases e2
    · cases e2
theorem rWhile_of {c : MT} {b : MS} {r : MR} {n : Nat} {μ : Mu} {o : Ex × Mu} (h : rWhileN c b r n μ = some o) : rWhile c b r μ = some o := by
  have hex : ∃ o, ∃ n, rWhileN c b r n μ = some o := ⟨o, n, h⟩
  unfold rWhile
  rw [dif_pos hex]
  obtain ⟨m, hm⟩ := hex.choose_spec
  have h1 := rWhileN_more h (Nat.le_max_left n m)
  have h2 := rWhileN_more hm (Nat.le_max_right n m)
  exact h2.symm.trans h1
theorem rWhile_to {c : MT} {b : MS} {r : MR} {μ : Mu} {o : Ex × Mu} (h : rWhile c b r μ = some o) : ∃ n, rWhileN c b r n μ = some o := by
  unfold rWhile at h
  split at h
  · rename_i hex
    cases h
    exact hex.choose_spec
  · cases h
section
variable {X : Cx} {A : Act} {W : WX}
theorem xs_lift {st : Stmt} {m : MS} (h : PS X st (tS A m)) : PS X st (tX X.mg A W m rNo) := ps_to h fun D σ H w => w.elim id fun ⟨_, _, _, _, _, e, _⟩ => nomatch e
theorem xss_lift {ss : List Stmt} {m : MS} (h : PSs X ss (tS A m)) : PSs X ss (tX X.mg A W m rNo) := pss_to h fun D σ H w => w.elim id fun ⟨_, _, _, _, _, e, _⟩ => nomatch e
theorem xss_nil : PSs X [] (tX X.mg A W sNext rNo) := xss_lift qss_nil
theorem xss_one {st : Stmt} {m : MS} {r : MR} (h : PS X st (tX X.mg A W m r)) : PSs X [st] (tX X.mg A W m r) := pss_one h
theorem xss_cons {st : Stmt} {ss : List Stmt} {m m2 : MS} {r r2 : MR} (h : PS X st (tX X.mg A W m r)) (h2 : PSs X ss (tX X.mg A W m2 r2)) : PSs X (st :: ss) (tX X.mg A W (sSeq m m2) (rSeq m r r2)) := pss_to (pss_cons h h2) fun D σ H w => by
  rcases w with ⟨G, μ, o, R, e, k⟩ | ⟨G, μ, x, μ', R, e, k⟩
  · obtain ⟨o1, e1, e⟩ := bind2 e
    refine .inl ⟨G, μ, o1, R, e1, ?_⟩
    cases o1 with
    | nx m => exact fun σ' G' H' s' R' => .inl ⟨G', m, o, R', e, k.mono s'⟩
    | rt x m => cases e; exact k
    | bk m => cases e; exact k
    | ct m => cases e; exact k
  · unfold rSeq at e
    cases q : r μ with
    | some y =>
      rw [q] at e
      cases e
      exact .inr ⟨G, μ, x, μ', R, q, k⟩
    | none =>
      rw [q] at e
      cases q2 : m μ with
      | none => rw [q2] at e; cases e
      | some ob =>
        rw [q2] at e
        cases ob with
        | nx μ1 => exact .inl ⟨G, μ, .nx μ1, R, q2, fun σ' G' H' s' R' => .inr ⟨G', μ1, x, μ', R', e, k.mono s'⟩⟩
        | rt _ _ => cases e
        | bk _ => cases e
        | ct _ => cases e
theorem xs_if {c : Expr} {a b : List Stmt} {pos : Pos} {mc : MT} {s t : MS} {r r2 : MR} (hc : PT X c (tMT A mc)) (h : PSs X a (tX X.mg A W s r)) (h2 : PSs X b (tX X.mg A W t r2)) : PS X (.If c a b pos) (tX X.mg A W (sIf mc s t) (rIf mc r r2)) := ps_to (ps_if hc h h2) fun D σ H w => by
  rcases w with ⟨G, μ, o, R, e, k⟩ | ⟨G, μ, x, μ', R, e, k⟩
  · obtain ⟨⟨p1, p2⟩, e1, e⟩ := bind2 e
    refine ⟨G, μ, p1, p2, R, e1, fun G1 H1 s1 R1 => ?_⟩
    cases p1 with
    | true =>
      rw [if_pos rfl] at e ⊢
      exact .inl ⟨G1, p2, o, R1, e, k.mono s1.g⟩
    | false =>
      rw [if_neg Bool.false_ne_true] at e ⊢
      exact .inl ⟨G1, p2, o, R1, e, k.mono s1.g⟩
  · obtain ⟨⟨p1, p2⟩, e1, e⟩ := bind2 e
    refine ⟨G, μ, p1, p2, R, e1, fun G1 H1 s1 R1 => ?_⟩
    cases p1 with
    | true =>
      rw [if_pos rfl] at e ⊢
      exact .inr ⟨G1, p2, x, μ', R1, e, k.mono s1.g⟩
    | false =>
      rw [if_neg Bool.false_ne_true] at e ⊢
      exact .inr ⟨G1, p2, x, μ', R1, e, k.mono s1.g⟩
/-- raise C(..), a class without an __init__ of its own -/
theorem xs_raise {e : Expr} {pos : Pos} {c : Str} {C : Addr} (tk : L2.Takes X W) (hm : PMk X e (fun _ H Q => Q (.ref C) none H)) (gC : X.mg c = some (.ref C)) (hc : X.calm = true := by rfl) : PS X (.Raise (some e) none pos) (tX X.mg A W sStop (rRaise c)) :=
  ps_to (ps_raise hc tk hm) fun D σ H w => by
    rcases w with ⟨G, μ, o, R, e, k⟩ | ⟨G, μ, x, μ', R, e, k⟩
    · cases e
    · cases e
      exact k σ G H C none (.refl _) R gC rfl
theorem call_rdX {n : Nat} {F : List PyData → Option MV} {RR : List PyData → Option Ex} {m : MA} {σ : L2.St} {H : Hp} {Q : VK} (h : tEX X.mg A W (mCall n F m) (rCall n RR m) σ H Q) : tCallS (spX X.mg n F RR) (WE W) (tMA A m) σ H Q := by
  rcases h with ⟨G, μ, z, μ', R, e, k⟩ | ⟨G, μ, x, μ', R, e, k⟩
  · obtain ⟨p, e1, e⟩ := bind2 e
    obtain ⟨ds, e2, e⟩ := bind2 e
    split at e
    · rename_i hl
      obtain ⟨x, e3, e⟩ := map2 e
      cases e
      refine ⟨G, μ, p.1, p.2, R, e1, fun G1 H1 vs s1 R1 q1 => ?_⟩
      have q := dats_ok q1 e2
      exact ⟨G1, ds, by rw [dqa_len q]; exact hl, q, R1.ext, .inl ⟨_, e3, fun G3 H3 v g rs => k G3 H3 v (s1.trans g.step) (R1.grow g) (rs.rel R1) (rs.nw.back s1)⟩⟩
    · cases e
  · obtain ⟨p, e1, e⟩ := bind2 e
    obtain ⟨ds, e2, e⟩ := bind2 e
    split at e
    · rename_i hl
      obtain ⟨y, e3, e⟩ := map2 e
      cases e
      refine ⟨G, μ, p.1, p.2, R, e1, fun G1 H1 vs s1 R1 q1 => ?_⟩
      have q := dats_ok q1 e2
      exact ⟨G1, ds, by rw [dqa_len q]; exact hl, q, R1.ext, .inr ⟨_, e3, fun G3 H3 C d g gC xd => k σ G3 H3 C d (s1.g.trans g.g) (R1.grow g) gC xd⟩⟩
    · cases e
theorem xe_call {j n : Nat} {f : Addr} {fd : FuncData} {ps : List Str} {F : List PyData → Option MV} {RR : List PyData → Option Ex} {x : Str} {p pos : Pos} {a : Expr} {es : List Expr} {m : MA} (ok : FnX X.prog X.w X.K X.mg X.base j f fd ps (spX X.mg n F RR)) (hr : Rm j X.A) (tk : L2.Takes X W) (hg : Gl X x) (hm : X.mg x = some (.ref f)) (hk : PySem.W.keepIn X.K (.ref f) = true) (hb : Binds X.K fd ps [])
    (ha : PA X (a :: es) (tMA A m)) (hdb : (x == ("__debug__" : Str)) = false := by decide) (he : starEach (a :: es) X.env = (false, eval a X.env) :: starEach es X.env := by rfl) (hpl : (backTo pos (starEach es X.env)).any (·.1) = false := by rfl) : PE X (.Call (.Name x p) (a :: es) [] pos) (tEX X.mg A W (mCall n F m) (rCall n RR m)) :=
  pe_to (pg_callX ok hr tk hg hm hk hb ha hdb he hpl) fun σ H Q h => call_rdX h
theorem xs_drop {e : Expr} {pos : Pos} {m : ME} {r : MR} (h : PE X e (tEX X.mg A W m r)) (hs : swapsWith e none pos.line X.env = pure false := by rfl) : PS X (.Expr e pos) (tX X.mg A W (sDrop m) r) := ps_to (ps_expr h hs) fun D σ H w => by
  rcases w with ⟨G, μ, o, R, e, k⟩ | w
  · obtain ⟨p, e1, e⟩ := map2 e
    cases e
    exact .inl ⟨G, μ, p.1, p.2, R, e1, fun G1 H1 v s1 R1 q1 n1 => k σ G1 H1 s1.g R1⟩
  · exact .inr w
theorem xe_frz {e : Expr} {m : ME} {r : MR} (h : PE X e (tEX X.mg A W m r)) : PE X e (tEX X.mg A W (mFrz m) r) := pe_to h fun σ H Q w => w.elim (fun w => .inl (frz_to w)) .inr
theorem xs_ret {e : Expr} {pos : Pos} {m : ME} {r : MR} (P : List Nat) (h : PE X e (tEX X.mg A W m r)) (hP : A.P = P := by rfl) : PS X (.Return (some e) pos) (tX X.mg A W (sRet P m) r) := ps_to (ps_ret h) fun D σ H w => by
  rcases w with ⟨G, μ, o, R, e, k⟩ | w
  · obtain ⟨p, e1, e⟩ := bind2 e
    obtain ⟨x, e2, e⟩ := map2 e
    cases e
    refine .inl ⟨G, μ, p.1, p.2, R, e1, fun G1 H1 v s1 R1 q1 n1 => k v σ G1 H1 s1.g R1 ?_⟩
    obtain ⟨y, m2⟩ := p
    cases y with
    | dat d => cases e2; exact q1
    | fre ds =>
      cases e2
      obtain ⟨p, vs, ev, h1, h2, h3, h4, h5⟩ := q1
      exact ⟨p, vs, ev, h4, h1, h2, h3⟩
    | own i =>
      have e2 : (if P.contains i = true then none else (getL m2 i).map MV.fre) = some x := e2
      split at e2
      · cases e2
      · rename_i hn
        obtain ⟨ds, e3, e4⟩ := map2 e2
        cases e4
        obtain ⟨a, vs, ds1, f1, f2, f3, f4, f5, f6⟩ := R1.ownL i (getL_some e3) q1.1
        have ev : v = .ref a := Option.some.inj (Option.some.inj (q1.2.symm.trans f2))
        cases f1
        refine ⟨a, vs, ev, ?_, f3, f4, f5⟩
        rcases f6 with f6 | ⟨f6, _⟩
        · exact f6
        · rw [hP] at f6
          exact absurd (by simpa using f6) hn
  · exact .inr w
theorem xs_asg {x : Str} {e : Expr} {pos pos' : Pos} {m : ME} {r : MR} (i : Nat) (he : PE X e (tEX X.mg A W m r)) (hO : A.O.contains i = false := by rfl) (hN : X.N.Nodup) (hi : X.N[i]? = some x := by rfl) (hx : Loc X.env.scope x := by first | exact .inl rfl | exact .inr rfl) (hs : swapsWith e (some (.Name x pos')) pos.line X.env = pure false := by rfl)
    (hf : X.fn x = true ∨ X.env.scope.names.lookup x = some .local := by first | exact .inl rfl | exact .inr rfl) : PS X (.Assign [.Name x pos'] e pos) (tX X.mg A W (sAsg i m) r) := ps_to (ps_set hN hi hx he hs hf) fun D σ H w => by
  rcases w with w | w
  · exact .inl (asg_read hO (fun _ _ _ h => h) w)
  · exact .inr w
theorem xs_while {c : Expr} {body : List Stmt} {pos : Pos} {mc : MT} {b : MS} {r : MR} (h1 : PT X c (tMT A mc)) (hb : PSs X body (tX X.mg A W b r)) (hp : PassesOwn (model X.prog X.w) X.A X.env X.xe) : PS X (.While c body [] pos) (tX X.mg A W (sWhile mc b) (rWhile mc b r)) := ps_to (ps_while hp h1 hb) fun D σ H w => by
  rcases w with ⟨G, μ, o, R, e, k⟩ | ⟨G, μ, x, μ', R, e, k⟩
  · obtain ⟨n, e⟩ := sWhile_to e
    refine ⟨fun m σ H => ∃ G μ o, Rl A G μ σ H ∧ whileN mc b m μ = some o ∧ Sat A D G o, ⟨n, G, μ, o, R, e, k⟩, ?_⟩
    rintro m σ2 H2 ⟨G2, μ2, o2, R2, e2, k2⟩
    match m, e2 with
    | m + 1, e2 =>
      obtain ⟨⟨p1, p2⟩, e3, e4⟩ := bind2 e2
      refine ⟨G2, μ2, p1, p2, R2, e3, fun G3 H3 s3 R3 => ?_⟩
      have k3 := k2.mono s3.g
      cases p1 with
      | true =>
        rw [if_pos rfl] at e4
        obtain ⟨o5, e5, e6⟩ := bind2 e4
        refine iteT ⟨fun σ' H' => ∃ G μ o, Rl A G μ σ' H' ∧ whileN mc b m μ = some o ∧ Sat A D G o, fun σ' H' h => ⟨m, by omega, h⟩, .inl ⟨G3, p2, o5, R3, e5, ?_⟩⟩
        cases o5 with
        | nx μ4 => exact fun σ' G' H' s' R' => ⟨G', μ4, o2, R', e6, k3.mono s'⟩
        | ct μ4 => exact fun σ' G' H' s' R' => ⟨G', μ4, o2, R', e6, k3.mono s'⟩
        | bk μ4 => cases e6; exact k3
        | rt x μ4 => cases e6; exact k3
      | false =>
        rw [if_neg Bool.false_ne_true] at e4
        cases e4
        exact iteF (k3 σ2 G3 H3 (.refl _) R3)
  · obtain ⟨n, e⟩ := rWhile_to e
    refine ⟨fun m σ H => ∃ G μ, Rl A G μ σ H ∧ rWhileN mc b r m μ = some (x, μ') ∧ SatR X.mg A W G x μ', ⟨n, G, μ, R, e, k⟩, ?_⟩
    rintro m σ2 H2 ⟨G2, μ2, R2, e2, k2⟩
    match m, e2 with
    | m + 1, e2 =>
      obtain ⟨⟨p1, p2⟩, e3, e4⟩ := bind2 e2
      refine ⟨G2, μ2, p1, p2, R2, e3, fun G3 H3 s3 R3 => ?_⟩
      have k3 := k2.mono s3.g
      cases p1 with
      | true =>
        rw [if_pos rfl] at e4
        refine iteT ⟨fun σ' H' => ∃ G μ, Rl A G μ σ' H' ∧ rWhileN mc b r m μ = some (x, μ') ∧ SatR X.mg A W G x μ', fun σ' H' h => ⟨m, by omega, h⟩, ?_⟩
        have e4 : (match r p2 with | some x => some x | none => match b p2 with | some (.nx μ2) => rWhileN mc b r m μ2 | some (.ct μ2) => rWhileN mc b r m μ2 | _ => none) = some (x, μ') := e4
        cases q : r p2 with
        | some y =>
          rw [q] at e4
          cases e4
          exact .inr ⟨G3, p2, x, μ', R3, q, k3⟩
        | none =>
          rw [q] at e4
          cases q2 : b p2 with
          | none => rw [q2] at e4; cases e4
          | some ob =>
            rw [q2] at e4
            cases ob with
            | nx μ4 => exact .inl ⟨G3, p2, .nx μ4, R3, q2, fun σ' G' H' s' R' => ⟨G', μ4, R', e4, k3.mono s'⟩⟩
            | ct μ4 => exact .inl ⟨G3, p2, .ct μ4, R3, q2, fun σ' G' H' s' R' => ⟨G', μ4, R', e4, k3.mono s'⟩⟩
            | bk _ => cases e4
            | rt _ _ => cases e4
      | false =>
        rw [if_neg Bool.false_ne_true] at e4
        cases e4
end
/-! a def -/
def fnR (N : Nat) (r : MR) (ds : List PyData) : Option Ex := (r (start0 N ds)).map (·.1)
section
variable {P : Program} {w : World} {K : PySem.W.Frag} {mg : Str → Option Value} {base : Heap}
theorem ok_pureX {x qual : Str} {st : Stmt} {f : Addr} {fd : FuncData} {N ps : List Str} {k : Nat} (F : Fun K x qual st f fd) (S : FnScope N ps (defScope st)) (O : List Nat) (b : MS) (r : MR) (hO : (O.all fun i => decide (ps.length ≤ i)) = true)
    (hb : ∀ (cdv : Value) (A : Around) (outer : List Env) (s : Shared) (H : Hp) (E : XK) (G : Hp), Rm k (A.deeper (envOfC qual (defScope st) s.heap.objs.size f cdv)) → L2.Takes (cxOf (L2.CX P w) P w K mg base N qual (defScope st) f cdv A outer s H E) (fun cls d _ H => E cls d H) →
      PassesOwn (model P w) (A.deeper (envOfC qual (defScope st) s.heap.objs.size f cdv)) (envOfC qual (defScope st) s.heap.objs.size f cdv) (cxOf (L2.CX P w) P w K mg base N qual (defScope st) f cdv A outer s H E).xe →
      PSs (cxOf (L2.CX P w) P w K mg base N qual (defScope st) f cdv A outer s H E) (defBody st) (tX mg (act0 O G H) (fun cls d _ H => E cls d H) b r)) :
    FnX P w K mg base (k + 1) f fd ps (spX mg ps.length (fnP N.length b) (fnR N.length r)) := by
  refine okGX F S (fun {vs H Q E} h => ?_) (fun cdv A outer s H vs Q E hr h => ?_)
  · obtain ⟨G, ds, h1, _⟩ := h
    exact h1
  · obtain ⟨G, ds, h1, h2, h3, h4⟩ := h
    refine ⟨_, hb cdv A outer s H E G hr (takes_of rfl rfl rfl rfl) (passes_of rfl), ?_⟩
    have big : ∀ i, i ∈ O → vs.length ≤ i := fun i hi => by
      have := of_decide_eq_true (List.all_eq_true.mp hO i hi)
      omega
    have hl := dqa_len h2
    have R : Rl (act0 O G H) G (start0 N.length ds) (start N vs) H := by
      refine ⟨start_len hl, h3, .refl _, fun a o h _ => h, fun a h => h, fun a _ h => h, fun i d h n => ?_, fun i d h n => ?_, fun i a n h => ?_, fun i j p n1 n2 e1 e2 => ?_, fun i n => by cases n⟩
      · obtain ⟨v, e1, e2⟩ := dqa_get h2 (start0_at h)
        exact ⟨v, start_get e1, e2⟩
      · have := (List.getElem?_eq_some_iff.mp (start0_at h)).1
        have := big i n
        omega
      · have := (List.getElem?_eq_some_iff.mp (start_at h)).1
        have := big i n
        omega
      · have := (List.getElem?_eq_some_iff.mp (start_at e1)).1
        have := big i n1
        omega
    have grw : ∀ {σ' G' H' μ'}, Same G G' → Rl (act0 O G H) G' μ' σ' H' → Grow G H G' H' := fun s' R' => ⟨s', fun a o h => R'.fr a o h (fun i hi => by cases hi), R'.ext, R'.fg⟩
    rcases h4 with ⟨x, h4, k⟩ | ⟨e, h4, k⟩
    · have fin : ∀ {v σ' G' H' μ'}, Same G G' → Rl (act0 O G H) G' μ' σ' H' → ResV H G' H' v x → Q v H' := fun s' R' r => k _ _ _ (grw s' R') r
      unfold fnP at h4
      cases q : b (start0 N.length ds) with
      | none => rw [q] at h4; cases h4
      | some o =>
        rw [q] at h4
        refine .inl ⟨G, _, o, R, q, ?_⟩
        cases o with
        | nx m => cases h4; exact fun σ' G' H' s' R' => fin s' R' .non
        | rt y m => cases h4; exact fun v σ' G' H' s' R' r => fin s' R' r
        | bk m => cases h4
        | ct m => cases h4
    · obtain ⟨⟨e', μ'⟩, q, e2⟩ := map2 h4
      cases e2
      exact .inr ⟨G, _, e', μ', R, q, fun σ' G' H' C d s' R' gC xd => k G' H' C d (grw s' R') gC xd⟩
end
/-- an error of the class at S is what «except S» names -/
theorem exm_self {K : PySem.W.Frag} {S : Addr} (h1 : PySem.W.subIn K (.ref S) (.type "BaseException") = some true) (h2 : PySem.W.isClsIn K S = true) (h3 : PySem.W.typeIn K (.ref S) = some (.type "type")) (h4 : PySem.W.subIn K (.ref S) (.ref S) = some true) :
    PySem.W.exmOne K (.ref S) (.ref S) = some true := by
  have e1 : (PySem.W.subIn K (.ref S) (.type "BaseException") == some true) = true := by rw [h1] <;> rfl
  have e2 : ((PySem.W.clsIn K S).isSome && PySem.W.typeIn K (.ref S) == some (.type "type")) = true := by
    have h2' : (PySem.W.clsIn K S).isSome = true := h2
    rw [h2', h3] <;> rfl
  show (if (PySem.W.subIn K (.ref S) (.type "BaseException") == some true) = true then (if ((PySem.W.clsIn K S).isSome && PySem.W.typeIn K (.ref S) == some (.type "type")) = true then PySem.W.subIn K (.ref S) (.ref S) else none) else none) = some true
  rw [if_pos e1, if_pos e2]
  exact h4
/-! try -/
section
variable {X : Cx} {A : Act} {W : WX}
def sTry (cs : List Str) (mb : MS) (rb : MR) (ms : MS) : MS := fun μ => match mb μ with | some o => some o | none => (rb μ).bind fun p => if p.1.cls ∈ cs then ms p.2 else none
/-- try: .. except C: .., where all is caught -/
theorem xs_try {x : Str} {c : Value} {body suite : List Stmt} {b₀ : Stmt} {np pos pos' : Pos} {mb ms : MS} {rb : MR} (cs : List Str) (hs : X.stack = X.env :: X.outer) (hf : X.env.frame = some X.env.locals) (hc : Names X x c)
    (hcs : ∀ y ∈ cs, ∀ C, X.mg y = some (.ref C) → PySem.W.exmOne X.K (.ref C) c = some true)
    (hb : ∀ (W : WX) (pn : List (Addr × Obj)) (xe : Value → Shared → Prop), L2.Takes (X.tr pn xe) W → PassesOwn (model X.prog X.w) X.A X.env xe → PSs (X.tr pn xe) body (tX X.mg A W mb rb))
    (hsu : ∀ (a : Addr) (oe : Obj) (pn : List (Addr × Obj)), PSs (X.suite a ((a, oe) :: pn)) (b₀ :: suite) (tS A ms)) :
    PS X (.Try body [.ExceptHandler (some (.Name x np)) none (b₀ :: suite) pos'] [] [] pos) (tS A (sTry cs mb rb ms)) :=
  ps_to (ps_try_only (tb := fun W => tX X.mg A W mb rb) (ts := fun _ _ _ => tS A ms) (Wout := fun _ _ _ _ => False) hs hf hc takes0 hb (fun a oe cls d pn _ _ => hsu a oe pn)) fun D σ H ⟨G, μ, o, R, e, k⟩ => by
    unfold sTry at e
    cases q : mb μ with
    | some o1 =>
      rw [q] at e
      cases e
      exact .inl ⟨G, μ, o, R, q, k⟩
    | none =>
      rw [q] at e
      obtain ⟨⟨ex, μ1⟩, e1, e2⟩ := bind2 e
      split at e2
      · rename_i hm
        refine .inr ⟨G, μ, ex, μ1, R, e1, fun σ' G' H' C d s' R' gC xd => ⟨true, hcs _ hm C gC, fun _ a na => ⟨G', μ1, o, R', e2, k.mono s'⟩, fun z => nomatch z⟩⟩
      · cases e2
end
end ML

set_option maxRecDepth 100000
set_option maxHeartbeats 4000000
/-! ### xs.count(x), t.count(x) -/
namespace ML
open PySem PySem.Spec PyProof.Rows L2 RZ
theorem count_vals {y : V} : ∀ {ys : List V} {its : List Value}, Vals ys its → ys.all flatV = true → its.countP (eqU y) = ys.countP (fun z => eqV z y)
  | _, _, .nil, _ => rfl
  | _, _, .cons (a := z) (b := u) (l₁ := ys) (l₂ := its) r t, h => by
    have h' : flatV z = true ∧ ys.all flatV = true := by simpa using h
    rw [List.countP_cons, List.countP_cons, count_vals t h'.2, eqU_of r h'.1]
section
variable {X : Cx}
def rCountT (K : PySem.W.Frag) : V → List V → Hp → VK → Prop := fun x xs H Q => ∃ (a : Addr) (ys : List V) (y : V), x = V.ref a ∧ xs = [y] ∧ SqT K H a ys ∧ flatV y = true ∧ ys.all flatV = true ∧ Q (.int (ys.countP (fun z => eqV z y) : Nat)) H
theorem mt_countT : MtR X "tuple.count" (rCountT X.K) := by
  intro pins s σ H x xs v us Q I rx rxs ⟨a, ys, y, ex, exs, hs, fy, fys, q⟩
  subst ex exs
  cases rx
  obtain ⟨uy, eu, ry⟩ := vals1 rxs
  subst eu
  obtain ⟨its, rv, ⟨⟨cls, dd, dt, sl⟩, ho, hc, n, hd⟩, hlen⟩ := I.tuple hs
  simp only at hc hd
  subst hc hd
  refine call_meets PySem.F.slot_tuple_count ⟨_, ho, rfl⟩ PySem.F.entry_tuple_count (PySem.F.args_tuple_count_2 _ _) (SeqAt.tuple_countAt a its.toArray n dd sl uy (eqU y))
    ⟨ho, fun w hw => mem_eqAt ry fy rv fys w (by simpa using hw), ⟨.int (ys.countP (fun z => eqV z y) : Nat), H, I.tok _, ⟨s.toks, ?_⟩, q⟩⟩
  show Value.int ((its.toArray.toList.countP (eqU y) : Nat) : Int) s.toks = Value.int ((ys.countP (fun z => eqV z y) : Nat) : Int) s.toks
  rw [List.toList_toArray, count_vals rv fys]
def rCountL (K : PySem.W.Frag) : V → List V → Hp → VK → Prop := fun x xs H Q => ∃ (a : Addr) (ys : List V) (y : V), x = V.ref a ∧ xs = [y] ∧ SqL K H a ys ∧ flatV y = true ∧ ys.all flatV = true ∧ Q (.int (ys.countP (fun z => eqV z y) : Nat)) H
theorem mt_countL : MtR X "list.count" (rCountL X.K) := by
  intro pins s σ H x xs v us Q I rx rxs ⟨a, ys, y, ex, exs, hs, fy, fys, q⟩
  subst ex exs
  cases rx
  obtain ⟨uy, eu, ry⟩ := vals1 rxs
  subst eu
  obtain ⟨its, rv, ⟨⟨cls, dd, data, sl⟩, n, ho, hc, hdn, hd⟩, hlen⟩ := I.list hs
  simp only at hc hd
  subst hc hd
  refine call_meets PySem.F.slot_list_count ⟨_, ho, rfl⟩ PySem.F.entry_list_count (PySem.F.args_list_count_2 _ _) (SeqAt.list_countAt a its.toArray n dd sl uy (eqU y))
    ⟨ho, fun w hw => mem_eqAt ry fy rv fys w (by simpa using hw), ⟨.int (ys.countP (fun z => eqV z y) : Nat), H, I.tok _, ⟨s.toks, ?_⟩, q⟩⟩
  show Value.int ((its.toArray.toList.countP (eqU y) : Nat) : Int) s.toks = Value.int ((ys.countP (fun z => eqV z y) : Nat) : Int) s.toks
  rw [List.toList_toArray, count_vals rv fys]
end
variable [KF]
section
variable {X : Cx} {A : Act}
def dCountAt (ds : List PyData) (d : PyData) : Option PyData := if flatD d = true ∧ ds.all flatD = true then some (.int (ds.countP (fun y => PyData.eqv y d) : Nat)) else none
def mCount (m n : ME) : ME := fun μ => (m μ).bind fun p => (asD p.1).bind fun a => (n p.2).bind fun q => (asD q.1).bind fun d => match a with
  | .list ds => (dCountAt ds d).map fun z => (.dat z, q.2)
  | .tuple ds => (dCountAt ds d).map fun z => (.dat z, q.2)
  | _ => none
theorem dqa_count {G : Hp} {y : V} {d : PyData} (hy : Dq G y d) (fd : flatD d = true) : ∀ {vs : List V} {ds : List PyData}, DqAll G vs ds → ds.all flatD = true → vs.countP (fun z => eqV z y) = ds.countP fun z => PyData.eqv z d
  | _, _, .nil, _ => rfl
  | _, _, .cons (v := v) (vs := vs) (d := e) (ds := ds) r t, h => by
    have h' : flatD e = true ∧ ds.all flatD = true := by simpa using h
    rw [List.countP_cons, List.countP_cons, dqa_count hy fd t h'.2, dq_eqV r hy h'.1 fd]
theorem qe_count {o e : Expr} {apos cpos : Pos} {m n : ME} (ho : PE X o (tE A m)) (ha : PE X e (tE A n))
    (hbase : attributeBase o "count" X.env (eval o X.env) = eval o X.env := by rfl)
    (hfew : ((backTo cpos (starEach [e] X.env)).all (fun x => !x.1) && (backToKw cpos (keywordEach [] X.env)).all (fun x => x.1.isSome)
      && decide (([e] : List Expr).length + ([] : List Keyword).length + (if ([] : List Keyword).isEmpty then 0 else 1) < 30)) = true := by rfl)
    (hline : (apos.endLine == cpos.line) = true := by rfl) (hs : starEach [e] X.env = (false, eval e X.env) :: starEach [] X.env := by rfl) (hplain : (backTo cpos (starEach [] X.env)).any (·.1) = false := by rfl) :
    PE X (.Call (.Attribute o "count" apos) [e] [] cpos) (tE A (mCount m n)) := by
  refine pe_to (PE.or (pe_bm PySem.F.plainAttrs_list PySem.F.slot_list_count PySem.F.type_list_count mt_countL ho (pa_cons ha pa_nil hs) hbase hfew hline hs hplain) (pe_bmT PySem.F.slot_tuple_count PySem.F.type_tuple_count mt_countT ho (pa_cons ha pa_nil hs) hbase hfew hline hs hplain)) fun σ H Q ⟨G, μ, z, μ', R, e, k⟩ => ?_
  obtain ⟨p, e1, e⟩ := bind2 e
  obtain ⟨a, e2, e⟩ := bind2 e
  obtain ⟨q, e3, e⟩ := bind2 e
  obtain ⟨d, e4, e⟩ := bind2 e
  have core : ∀ {ds : List PyData} {y : PyData}, dCountAt ds d = some y → (flatD d = true ∧ ds.all flatD = true) ∧ y = .int (ds.countP (fun y => PyData.eqv y d) : Nat) := fun {ds y} h => by
    unfold dCountAt at h
    split at h
    · rename_i hf
      cases h
      exact ⟨hf, rfl⟩
    · cases h
  cases a <;> first | (cases e; done) | skip
  · obtain ⟨y, e5, e6⟩ := map2 e
    cases e6
    left
    refine ⟨G, μ, p.1, p.2, R, e1, fun G1 H1 v1 s1 R1 q1 n1 => ?_⟩
    rw [asD_some e2] at q1
    cases q1 with
    | @lst a vs _ h1 h2 =>
      refine ⟨.inl ⟨rfl, vs, .inl (rd_mono R1.ext h1)⟩, G1, p.2, q.1, q.2, R1, e3, fun G2 H2 v2 s2 R2 q2 n2 => ?_⟩
      rw [asD_some e4] at q2
      obtain ⟨hf, ez⟩ := core e5
      subst ez
      have h2' := dqa_mono s2.g h2
      refine ⟨a, vs, v2, rfl, rfl, .inl (rd_mono (s2.g.trans R2.ext) h1), dq_flat q2 hf.1, dqa_flat h2' hf.2, ?_⟩
      rw [dqa_count q2 hf.1 h2' hf.2]
      exact k G2 H2 _ (s1.trans s2) R2 (.int _) trivial
  · obtain ⟨y, e5, e6⟩ := map2 e
    cases e6
    right
    refine ⟨G, μ, p.1, p.2, R, e1, fun G1 H1 v1 s1 R1 q1 n1 => ?_⟩
    rw [asD_some e2] at q1
    cases q1 with
    | @tup a ob vs _ h1 h0 h2 =>
      refine ⟨⟨a, ob, vs, rfl, R1.ext _ _ h1, h0⟩, G1, p.2, q.1, q.2, R1, e3, fun G2 H2 v2 s2 R2 q2 n2 => ?_⟩
      rw [asD_some e4] at q2
      obtain ⟨hf, ez⟩ := core e5
      subst ez
      have h2' := dqa_mono s2.g h2
      refine ⟨a, vs, v2, rfl, rfl, .inl (.inr ⟨ob, R2.ext _ _ (s2.g _ _ h1)⟩), dq_flat q2 hf.1, dqa_flat h2' hf.2, ?_⟩
      rw [dqa_count q2 hf.1 h2' hf.2]
      exact k G2 H2 _ (s1.trans s2) R2 (.int _) trivial
end
end ML

set_option maxRecDepth 100000
set_option maxHeartbeats 4000000
/-! ### raise C(); except C as e: y = isinstance(e, A) and isinstance(e, ValueError) -/
namespace ML
open PySem PySem.Spec PyProof.Rows L2 RZ
section
variable {X : Cx} {C : Addr} {bmB : List Value} {B newId initId : String}
/-- raise C() -/
theorem pmk_own0 {x : Str} {p pos : Pos} (F : ExcBaseFacts B newId initId bmB) (q : PySem.W.excIn X.K C bmB newId = true) (gC : X.mg x = some (.ref C)) (kC : PySem.W.keepIn X.K (.ref C) = true) (r : Raises X (.ref C)) (hg : Gl X x)
    (hdb : (x == ("__debug__" : Str)) = false := by decide) : PMk X (.Call (.Name x p) [] [] pos) (fun _ H Q => Q (.ref C) none H) := by
  intro pins s σ H Q I h
  refine wpAny_Call_Name_kw (ld_glob I hg gC ?_ hdb)
  refine PySem.W.callWith_K0 I.kIn kC ?_
  obtain ⟨bm, N, nm, qn, bs, hdct, sn, sub, ab, col, dd, k0, k1, k2, k3, k5, mN, hC, hN, hni, T⟩ := exc_obj I.kIn q
  refine wpAny_call_exc_subT F T hC hN hni (fun h' e hm => ?_) (by show 0 ≤ sizeLine; omega)
  exact mk_of I hm r h (I.hok.gone hm.new)
end
variable [KF]
/-- a slot of which nothing is known -/
theorem Rl.free {A : Act} {G H : Hp} {μ : Mu} {σ : L2.St} {i : Nat} (R : Rl A G μ σ H) (hi : i ∉ A.O) (hm : μ[i]? = some none) (u : Option V) : Rl A G μ (σ.set i u) H := by
  have ne : ∀ j, j ∈ A.O → (σ.set i u)[j]? = σ[j]? := fun j hj => List.getElem?_set_ne (fun (z : i = j) => hi (by rw [z]; exact hj))
  refine ⟨by rw [List.length_set]; exact R.len, R.ext, R.up, R.fr, R.lv, R.fg, fun j d h n => ?_, fun j d h n => ?_, fun j a n e => ?_, fun j k p n1 n2 e1 e2 => ?_, fun j n => ?_⟩
  · have : i ≠ j := fun z => by rw [z, h] at hm; cases hm
    obtain ⟨v, e, r⟩ := R.val j d h n
    exact ⟨v, by rw [List.getElem?_set_ne this]; exact e, r⟩
  · obtain ⟨p, o, f1, f2⟩ := R.own j d h n
    exact ⟨p, o, by rw [ne j n]; exact f1, f2⟩
  · rw [ne j n] at e
    exact R.liv j a n e
  · rw [ne j n1] at e1
    rw [ne k n2] at e2
    exact R.sep j k p n1 n2 e1 e2
  · obtain ⟨f1, f2, f3⟩ := R.par j n
    exact ⟨f1, by rw [ne j f1]; exact f2, f3⟩
section
variable {X : Cx} {A : Act}
def tIsE (i : Nat) (a : Addr) : TE := fun σ H Q => σ[i]? = some (some (.ref a)) ∧ Q (.bl true) H
/-- isinstance(e, M), e the exception that the suite holds, M an own class, or a built-in one -/
theorem qe_isEO {a D M : Addr} {oe : Obj} {pn : List (Addr × Obj)} {n x : Str} {p p1 p2 pos : Pos} (i : Nat) (C : ExcC X.K D) (hz : Zc (.ref D) none oe) (hf : ∃ vs, oe.data = .fields vs) (hk : PySem.W.kitOne X.K (.ref D) (.ref M) = some true) (hg : Gl X "isinstance") (hm : X.mg "isinstance" = none) (hgx : Gl X x) (hmx : X.mg x = some (.ref M))
    (hN : X.N[i]? = some n := by rfl) (hv : Vis X.env.scope n := by first | exact Or.inl rfl | exact Or.inr (Or.inl rfl) | exact Or.inr (Or.inr rfl)) (hd : (n == ("__debug__" : Str)) = false := by decide) (hcd : (n == ("__classdict__" : Str)) = false := by decide) (hdx : (x == ("__debug__" : Str)) = false := by decide)
    (h1 : starEach [.Name n p1, .Name x p2] X.env = (false, eval (.Name n p1) X.env) :: starEach [.Name x p2] X.env := by rfl) (h2 : starEach [.Name x p2] X.env = (false, eval (.Name x p2) X.env) :: starEach [] X.env := by rfl) (h3 : (backTo pos (starEach [.Name x p2] X.env)).any (·.1) = false := by rfl) :
    PE (X.suite a ((a, oe) :: pn)) (.Call (.Name "isinstance" p) [.Name n p1, .Name x p2] [] pos) (tIsE i a) :=
  pe_to (pe_callB (X := X.suite a ((a, oe) :: pn)) (call_isE (X := X) C hz hf) hg hm (by decide +kernel) (pa_cons (pv (X := X.suite a ((a, oe) :: pn)) i hN hv hd hcd) (pa_cons (pe_glob (X := X.suite a ((a, oe) :: pn)) (v := .ref M) hgx hmx rfl hdx) pa_nil h2) h1) (by decide) (by decide) h1 h3) fun σ H Q ⟨hs, q⟩ =>
    ⟨.ref a, hs, .ref M, .ref M, true, rfl, fun u r => by cases r; rfl, hk, q⟩
theorem qe_isEB {a D : Addr} {oe : Obj} {pn : List (Addr × Obj)} {n x : Str} {T : String} {p p1 p2 pos : Pos} (i : Nat) (C : ExcC X.K D) (hz : Zc (.ref D) none oe) (hf : ∃ vs, oe.data = .fields vs) (hk : PySem.W.kitOne X.K (.ref D) (.type T) = some true) (hg : Gl X "isinstance") (hm : X.mg "isinstance" = none) (hgx : Gl X x) (hmx : X.mg x = none) (hbx : bootBuiltins x = some (.type T))
    (hN : X.N[i]? = some n := by rfl) (hv : Vis X.env.scope n := by first | exact Or.inl rfl | exact Or.inr (Or.inl rfl) | exact Or.inr (Or.inr rfl)) (hd : (n == ("__debug__" : Str)) = false := by decide) (hcd : (n == ("__classdict__" : Str)) = false := by decide) (hnx : x ≠ "__name__" := by decide) (hdx : (x == ("__debug__" : Str)) = false := by decide)
    (h1 : starEach [.Name n p1, .Name x p2] X.env = (false, eval (.Name n p1) X.env) :: starEach [.Name x p2] X.env := by rfl) (h2 : starEach [.Name x p2] X.env = (false, eval (.Name x p2) X.env) :: starEach [] X.env := by rfl) (h3 : (backTo pos (starEach [.Name x p2] X.env)).any (·.1) = false := by rfl) :
    PE (X.suite a ((a, oe) :: pn)) (.Call (.Name "isinstance" p) [.Name n p1, .Name x p2] [] pos) (tIsE i a) :=
  pe_to (pe_callB (X := X.suite a ((a, oe) :: pn)) (call_isE (X := X) C hz hf) hg hm (by decide +kernel) (pa_cons (pv (X := X.suite a ((a, oe) :: pn)) i hN hv hd hcd) (pa_cons (pe_bltn (X := X.suite a ((a, oe) :: pn)) (v := .ty T) hgx hmx hbx rfl hnx hdx) pa_nil h2) h1) (by decide) (by decide) h1 h3) fun σ H Q ⟨hs, q⟩ =>
    ⟨.ref a, hs, .ty T, .type T, true, rfl, fun u r => by cases r; rfl, hk, q⟩
theorem qe_isE2 {X' : Cx} {a : Addr} {i : Nat} {e1 e2 : Expr} {pos : Pos} (h1 : PE X' e1 (tIsE i a)) (h2 : PE X' e2 (tIsE i a)) : PE X' (.BoolOp .And [e1, e2] pos) (tIsE i a) :=
  pe_to (pe_and h1 (pe_one h2)) fun σ H Q ⟨hs, q⟩ => ⟨hs, true, rfl, by rw [if_pos rfl]; exact ⟨hs, q⟩⟩
/-- what a suite is handed: the exception in slot i -/
def tSu (A : Act) (i : Nat) (a : Addr) (ms : MS) : TS := fun D σ H => σ[i]? = some (some (.ref a)) ∧ tS A ms D σ H
def sTrue (j : Nat) : MS := fun μ => some (.nx (μ.set j (some (.bool true))))
theorem qsu_is {X' : Cx} {a : Addr} {e : Expr} {y : Str} {p' pos : Pos} {i : Nat} (j : Nat) (he : PE X' e (tIsE i a)) (hO : A.O.contains j = false := by rfl) (hN : X'.N.Nodup) (hj : X'.N[j]? = some y := by rfl) (hx : Loc X'.env.scope y := by first | exact .inl rfl | exact .inr rfl) (hs : swapsWith e (some (.Name y p')) pos.line X'.env = pure false := by rfl)
    (hf : X'.fn y = true ∨ X'.env.scope.names.lookup y = some .local := by first | exact .inl rfl | exact .inr rfl) : PSs X' [.Assign [.Name y p'] e pos] (tSu A i a (sTrue j)) := pss_to (pss_one (ps_set hN hj hx he hs hf)) fun D σ H ⟨hi, G, μ, o, R, e, k⟩ => by
  cases e
  exact ⟨hi, k _ G H (.refl _) (R.set (notO hO) (.bl true))⟩
def sTryAs (i : Nat) (cs : List Str) (mb : MS) (rb : MR) (ms : MS) : MS := fun μ => match mb μ with
  | some o => some o
  | none => (rb μ).bind fun p => if p.1.cls ∈ cs ∧ p.1.many = none then match p.2[i]? with
    | some none => match ms p.2 with
      | some (.nx μ2) => match μ2[i]? with | some none => some (.nx μ2) | _ => none
      | _ => none
    | _ => none else none
/-- try: .. except C as e: .., where all is caught -/
theorem xs_tryAs {x n : Str} {c : Value} {body suite : List Stmt} {b₀ : Stmt} {np pos pos' : Pos} {mb ms : MS} {rb : MR} (i : Nat) (cs : List Str) (hs : X.stack = X.env :: X.outer) (hf : X.env.frame = some X.env.locals) (hN : X.N.Nodup) (hc : Names X x c)
    (hcs : ∀ y ∈ cs, ∀ C, X.mg y = some (.ref C) → PySem.W.exmOne X.K (.ref C) c = some true)
    (hb : ∀ (W : WX) (pn : List (Addr × Obj)) (xe : Value → Shared → Prop), L2.Takes (X.tr pn xe) W → PassesOwn (model X.prog X.w) X.A X.env xe → PSs (X.tr pn xe) body (tX X.mg A W mb rb))
    (hsu : ∀ (a : Addr) (oe : Obj) (D : Addr) (pn : List (Addr × Obj)), (∃ y ∈ cs, X.mg y = some (.ref D)) → Zc (.ref D) none oe → (∃ vs, oe.data = .fields vs) → PSs (X.suite a ((a, oe) :: pn)) (b₀ :: suite) (tSu A i a ms))
    (hO : A.O.contains i = false := by rfl) (hi : X.N[i]? = some n := by rfl) (hln : X.env.kindOf n = some .local := by rfl) :
    PS X (.Try body [.ExceptHandler (some (.Name x np)) (some n) (b₀ :: suite) pos'] [] [] pos) (tS A (sTryAs i cs mb rb ms)) :=
  ps_to (ps_try_as (tb := fun W => tX X.mg A W mb rb) (ts := fun a cls d => fun D' σ H => ∃ D : Addr, cls = .ref D ∧ d = none ∧ (∃ y ∈ cs, X.mg y = some (.ref D)) ∧ tSu A i a ms D' σ H) (Wout := fun _ _ _ _ => False) hs hf hN hi hln hc takes0 hb
    (fun a oe cls d pn hz hfd => ⟨fun pins s σ H D' I ⟨D, ec, ed, hy, w⟩ => by subst ec ed; exact (hsu a oe D pn hy hz hfd).run pins s σ H D' I w⟩)) fun D σ H ⟨G, μ, o, R, e, k⟩ => by
    unfold sTryAs at e
    cases q : mb μ with
    | some o1 =>
      rw [q] at e
      cases e
      exact .inl ⟨G, μ, o, R, q, k⟩
    | none =>
      rw [q] at e
      obtain ⟨⟨ex, μ1⟩, e1, e2⟩ := bind2 e
      split at e2
      · rename_i hm
        split at e2
        · rename_i hfree
          split at e2
          · rename_i μ2 hms
            split at e2
            · rename_i hfree2
              cases e2
              refine .inr ⟨G, μ, ex, μ1, R, e1, fun σ' G' H' C d s' R' gC xd => ⟨true, hcs _ hm.1 C gC, fun _ a na => ?_, fun z => nomatch z⟩⟩
              have hd : d = none := by
                have hm2 : ex.many = none := hm.2
                rw [hm2] at xd
                exact xd
              have hlt : i < σ'.length := by rw [R'.len]; exact (List.getElem?_eq_some_iff.mp hfree).1
              refine ⟨C, rfl, hd, ⟨ex.cls, hm.1, gC⟩, List.getElem?_set_self hlt, G', μ1, .nx μ2, R'.free (notO hO) hfree _, hms, fun σ2 G2 H2 s2 R2 => ?_⟩
              exact k (σ2.set i none) G2 H2 (s'.trans s2) (R2.free (notO hO) hfree2 _)
            · cases e2
          · cases e2
        · cases e2
      · cases e2
end
end ML

set_option maxRecDepth 100000
set_option maxHeartbeats 4000000
/-! ### sorted(set(xs)), xs a list of tuples of ints, of which few are distinct (turned from the library's set of fewer than 64) -/
namespace ML
open PySem PySem.Spec PyProof.Rows L2 RZ
theorem few_of {ks L : List (Addr × List Int)} {D : List (List Int)} (nd : (L.map (·.2)).Nodup) (sub : ∀ p ∈ L, p ∈ ks) (h : ∀ p ∈ ks, p.2 ∈ D) : L.length ≤ D.length := by
  have : ∀ (l m : List (List Int)), l.Nodup → (∀ x ∈ l, x ∈ m) → l.length ≤ m.length := fun l => by
    induction l with
    | nil => intro m _ _; exact Nat.zero_le _
    | cons a l ih =>
      intro m nd hm
      obtain ⟨h1, h2⟩ := List.nodup_cons.mp nd
      have ha := hm a (by simp)
      have := ih (m.erase a) h2 fun x hx => (List.mem_erase_of_ne (fun z => h1 (by rw [← z]; exact hx))).mpr (hm x (by simp [hx]))
      rw [List.length_erase_of_mem ha] at this
      have := List.length_pos_of_mem ha
      rw [List.length_cons]
      omega
  have := this (L.map (·.2)) D nd fun x hx => by
    obtain ⟨p, hp, rfl⟩ := List.mem_map.mp hx
    exact h p (sub p hp)
  rwa [List.length_map] at this
section
variable {P : Program} {w : World} {A : Around} {E : Value → Shared → Prop} {s : Shared}
theorem set_update_few {I : Addr} {fp wr : List Addr} {G : Array GenState → Array GenState → Prop} {n : Nat} {Pv : Nat → Value → Prop} {St : Nat → Shared → Prop} {R : Result → Shared → Prop}
    (W : WalksS P w A.in1 I fp wr G n Pv St) (S : Addr) (hSf : S ∉ fp) (ks : List (Addr × List Int)) (hn : n = ks.length) (D : List (List Int)) (hD : D.length ≤ 62) (hfew : ∀ p ∈ ks, p.2 ∈ D) (hval : ∀ i v, Pv i v → ∃ p, ks[i]? = some p ∧ v = .ref p.1)
    (h0 : Heap) (hk : ∀ p ∈ ks, IsT P w h0 p.2 p.1) (hS0 : h0.get? S = none) (hw0 : ∀ b ∈ wr, h0.get? b = none) (hu : A.in1.units < cLine) :
    ∀ (k i : Nat) (s : Shared), n - i = k → i ≤ n → St i s → (∀ b o, h0.get? b = some o → s.heap.get? b = some o) → (∃ L es ep t, SetTR P w s.heap S L es ep t ∧ Got ks i L) →
      (∀ s' L es ep t, Moved (S :: wr) G s s' → SetTR P w s'.heap S L es ep t → Got ks n L → (∀ b o, h0.get? b = some o → s'.heap.get? b = some o) → R (.ok (.ret .none)) s') →
      codeAny (model P w) A (.builtin "set.update.loop" ⟨[.ref S, .ref I], []⟩) R s := by
  have hSw : S ∉ wr := fun h => hSf (W.sub _ h)
  have hsub : ∀ b ∈ wr, b ∈ S :: wr := fun b hb => List.mem_cons_of_mem _ hb
  have keepM : ∀ {s s' : Shared}, Moved wr G s s' → (∀ b o, h0.get? b = some o → s.heap.get? b = some o) → ∀ b o, h0.get? b = some o → s'.heap.get? b = some o := fun hm hkp b o e =>
    hm.heap b o (fun hb => by rw [hw0 b hb] at e; cases e) (hkp b o e)
  intro k
  induction k with
  | zero =>
    intro i s hk' hi hst hkp ⟨L, es, ep, t, hS, g⟩ hR
    have hin : i = n := by omega
    subst hin
    refine codeAny_builtin F.entry_set_update_loop ?_
    rw [Around.under_plainId F.plain_set_update_loop _]
    show wpAny _ A.in1 (pyNext (.ref I) >>= _) _ _ s
    refine wpAny_bind (W.done s _ _ hst fun s' hm => ?_)
    show wpAny _ A.in1 (ret Value.none) _ _ s'
    have hkp' := keepM hm hkp
    have sub : ∀ p ∈ L, p ∈ ks := fun p hp => List.mem_of_mem_take (g.sub p hp)
    exact wpAny_pure (hR s' L es ep t (hm.mono hsub) (hS.keep (fun o e => hm.heap S o hSw e) fun p hp => isT_keep (hk p (sub p hp)) hkp') g hkp')
  | succ k ih =>
    intro i s hk' hi hst hkp ⟨L, es, ep, t, hS, g⟩ hR
    have hlt : i < n := by omega
    refine codeAny_builtin F.entry_set_update_loop ?_
    rw [Around.under_plainId F.plain_set_update_loop _]
    show wpAny _ A.in1 (pyNext (.ref I) >>= _) _ _ s
    refine wpAny_bind (W.item i s _ _ hlt hst fun v s' hP hst' hm => ?_)
    obtain ⟨p, hp, rfl⟩ := hval i v hP
    have hkp' := keepM hm hkp
    have sub : ∀ p ∈ L, p ∈ ks := fun p hp => List.mem_of_mem_take (g.sub p hp)
    have hS' : SetTR P w s'.heap S L es ep t := hS.keep (fun o e => hm.heap S o hSw e) fun q hq => isT_keep (hk q (sub q hq)) hkp'
    have hx : IsT P w s'.heap p.2 p.1 := isT_keep (hk p (List.mem_of_getElem? hp)) hkp'
    show wpAny _ A.in1 (holding [Value.ref p.1] (setAdd S (.ref p.1)) >>= _) _ _ s'
    refine wpAny_bind (wpAny_holding ?_)
    unfold setAdd
    refine wpAny_holding ?_
    refine wpAny_bind (wpAny_pyHash_tuple hu hx ?_)
    refine add_at (s := { s' with toks := s'.toks + (p.2.length + 1) }) hS' hx hu (by have := few_of hS'.nd sub hfew; omega) fun b h' L' es' ep' t' hsb hS2 c1 c2 => ?_
    have g' : Got ks (i + 1) L' := by
      rcases Classical.em (p.2 ∈ L.map (·.2)) with c | c
      · rw [c1 c]; exact g.same hp c
      · exact g.more hp (c2 c)
    have hkp2 : ∀ b o, h0.get? b = some o → h'.get? b = some o := fun b o e => (hsb.2 b (fun z => by rw [z, hS0] at e; cases e)).trans (hkp' b o e)
    refine wpAny_pure ⟨plainId_quiet F.plain_set_update_loop _, ih (i + 1) _ (by omega) hlt (W.frame _ s' _ _ hst' (Nat.le_add_right _ _) fun b hb o e => ?_) hkp2 ⟨L', es', ep', t', hS2, g'⟩ fun s'' L2 es2 ep2 t2 hm'' hS'' g'' hkp'' => ?_⟩
    · rw [hsb.2 b (fun h : b = S => hSf (by rw [← h]; exact hb))]; exact e
    · refine hR s'' L2 es2 ep2 t2 (Moved.trans W.gtrans ((hm.mono hsub).then_heap (Nat.le_add_right _ _) fun b o hb e => ?_) hm'') hS'' g'' hkp''
      rw [hsb.2 b (fun h : b = S => hb (by rw [h]; exact List.mem_cons_self))]; exact e

set_option maxRecDepth 100000 in
set_option maxHeartbeats 3200000 in
theorem call_set_few {l : Addr} {items : Array Value} (ks : List (Addr × List Int)) {Q : Value → Shared → Prop} (hh : A.handled = none) (hl : s.heap.IsList l items) (hit : items.toList = ks.map fun p => Value.ref p.1)
    (hk : ∀ p ∈ ks, IsT P w s.heap p.2 p.1) (D : List (List Int)) (hD : D.length ≤ 62) (hfew : ∀ p ∈ ks, p.2 ∈ D) (hu : A.units + 3 < cLine)
    (h : ∀ (h' : Heap) (tk : Nat) L es ep t, SetTR P w h' s.heap.objs.size L es ep t → Got ks ks.length L → (∀ b o, s.heap.get? b = some o → h'.get? b = some o) → Q (.ref s.heap.objs.size) { s with heap := h', toks := tk }) :
    wpAny (model P w) A (call (.type "set") [.ref l]) Q E s := by
  have hisz : items.size = ks.length := by
    have q := congrArg List.length hit
    rw [Array.length_toList, List.length_map] at q
    exact q
  obtain ⟨c, tl, hmro⟩ := F.called_set.mro
  have hmade := F.called_set.made
  have hsub := F.called_set.sub
  refine wpAny_call (codeAny_of_tree ?_)
  show wpAny _ _ (callAny (.type "set") _) _ _ _
  refine wpAny_pure ⟨Code.quiet_builtin _ (by decide +kernel), codeAny_builtin F.entry_type_call ?_⟩
  rw [Around.under_plain (weight_type_call_type "set" [.ref l] []) rfl]
  have h1 := F.called_set.notType
  have h2 := F.called_set.canCreate
  have hct := F.typeCall_set_1 (.ref l)
  repeat (any_goals (first | assumption | wp_step))

  refine codeAny_mono (code_set_led1 (.ref l) (E := E) (Q₁ := fun obj s₁ => obj = .ref s.heap.objs.size ∧ s₁ = { s with heap := s.heap.push { cls := .type "set", dict := none, data := .set #[] 0 (.fresh 0 0 (!w.params.followText "set-order")) } }) ⟨rfl, rfl⟩) fun r s₁ hr => ?_
  cases r with
  | error e => exact hr
  | ok fl =>
    cases fl with
    | ret obj =>
      obtain ⟨rfl, rfl⟩ := hr
      have hS : (s.heap.push { cls := .type "set", dict := none, data := .set #[] 0 (.fresh 0 0 (!w.params.followText "set-order")) }).get? s.heap.objs.size = some { cls := .type "set", dict := none, data := .set #[] 0 (.fresh 0 0 (!w.params.followText "set-order")) } := Heap.get?_push_size _ rfl
      have hT : Shared.TypeIs { s with heap := s.heap.push { cls := .type "set", dict := none, data := .set #[] 0 (.fresh 0 0 (!w.params.followText "set-order")) } } (.ref s.heap.objs.size) "set" := ⟨_, hS, rfl⟩
      have hli := F.called_set.init.lookup
      have hbi := F.called_set.init.bind (.ref s.heap.objs.size)
      repeat (any_goals (first | assumption | wp_step))

      refine codeAny_mono (codeAny_call_builtin (R := wants (fun r s₂ => r = .none ∧ ∃ h' tk L es ep t, s₂ = { s with heap := h', toks := tk } ∧ SetTR P w h' s.heap.objs.size L es ep t ∧ Got ks ks.length L ∧
          (∀ b o, s.heap.get? b = some o → h'.get? b = some o)) E) F.called_set.init.plain F.entry_set_init (check_set_init_1 hT ?_)) fun r₂ s₂ hr₂ => ?_
      · obtain ⟨ol, hol, hcl, nl, hdl⟩ := hl
        obtain ⟨ocls, odict, odata, oslots⟩ := ol
        simp only at hcl hdl
        subst hcl; subst hdl
        have hol' : (s.heap.push { cls := .type "set", dict := none, data := .set #[] 0 (.fresh 0 0 (!w.params.followText "set-order")) }).get? l = some { cls := .type "list", dict := odict, data := .seq items nl, slots := oslots } := Heap.get?_push_of_some _ hol
        have hsls := F.sub_list_set
        have hslf := F.sub_list_frozenset
        have hne : (Value.type "list" == Value.type "dict") = false := by decide
        have hl1 : (s.heap.push { cls := .type "set", dict := none, data := .set #[] 0 (.fresh 0 0 (!w.params.followText "set-order")) }).IsList l items := ⟨_, hol', rfl, nl, rfl⟩
        unfold Builtin.«set.__init__» noKeywords Builtin.Frozenset.updateFrom
        generalize hPI : pyIter = PI
        wp_walk
        subst hPI

        refine wpAny_pyIter_list hl1 ?_
        refine wpAny_bind (wpAny_runValue ?_)
        have hlS : l < s.heap.objs.size := Heap.lt_size hol
        have hh3 : A.in1.in1.in1.handled = none := by simp [hh]
        have hz1 : (s.heap.push { cls := .type "set", dict := none, data := .set #[] 0 (.fresh 0 0 (!w.params.followText "set-order")) }).objs.size = s.heap.objs.size + 1 := Heap.size_push ..
        have hneI : l ≠ (s.heap.push { cls := .type "set", dict := none, data := .set #[] 0 (.fresh 0 0 (!w.params.followText "set-order")) }).objs.size := by
          rw [Heap.size_push]; exact Nat.ne_of_lt (Nat.lt_succ_of_lt hlS)
        have hSf : s.heap.objs.size ∉ [(s.heap.push { cls := .type "set", dict := none, data := .set #[] 0 (.fresh 0 0 (!w.params.followText "set-order")) }).objs.size, l] := by
          rw [Heap.size_push]; simp only [List.mem_cons, List.mem_singleton, List.not_mem_nil, or_false, not_or]
          exact ⟨Nat.ne_of_lt (Nat.lt_succ_self _), Nat.ne_of_gt hlS⟩
        have hval : ∀ (i : Nat) (v : Value), items[i]? = some v → ∃ p, ks[i]? = some p ∧ v = .ref p.1 := fun i v hv => by
          have q : items.toList[i]? = some v := by rw [Array.getElem?_toList]; exact hv
          rw [hit, List.getElem?_map] at q
          cases hq : ks[i]? with
          | none => rw [hq] at q; cases q
          | some p =>
            rw [hq] at q
            exact ⟨p, rfl, (Option.some.inj q).symm⟩
        have none_of : ∀ b, s.heap.objs.size ≤ b → s.heap.get? b = none := fun b hb => by
          cases q : s.heap.get? b with
          | none => rfl
          | some o => exact absurd (Nat.lt_of_lt_of_le (Heap.lt_size q) hb) (Nat.lt_irrefl _)
        refine set_update_few ((Walks.list hh3 _ l hneI items).toS) s.heap.objs.size
          hSf ks hisz D hD hfew hval s.heap hk (none_of _ (Nat.le_refl _)) (fun b hb => none_of b (by
            rw [List.mem_singleton.mp hb, Heap.size_push]
            exact Nat.le_succ _)) hu (items.size - 0) 0 _ (by omega) (Nat.zero_le _)
          ⟨⟨_, Heap.get?_push_size _ rfl, rfl, rfl⟩, (hl1.push _)⟩ (fun b o e => Heap.get?_push_of_some _ (Heap.get?_push_of_some _ e)) ?hS0 ?hR
        case hS0 =>
          have hget : ((s.heap.push { cls := .type "set", dict := none, data := .set #[] 0 (.fresh 0 0 (!w.params.followText "set-order")) }).push { cls := .type "list_iterator", data := .fields #[.ref l, .int 0 0] }).get? s.heap.objs.size
              = some { cls := .type "set", dict := none, data := .set #[] 0 (.fresh 0 0 (!w.params.followText "set-order")) } := Heap.get?_push_of_some _ hS
          exact ⟨[], #[], 0, _, setTR_fresh hget, Got.zero ks⟩
        case hR =>
          intro s' L es ep t hm hS' g' hkp
          obtain ⟨h', g2, d', tk', os'⟩ := s'
          have eg : g2 = s.gens := hm.gens
          have ed : d' = s.drawn := hm.drawn
          have eo : os' = s.os := hm.os
          subst eg; subst ed; subst eo
          show wpAny _ _ _ _ _ _
          refine wpAny_pure ?_
          show wpAny _ _ (ret Value.none) _ _ _
          rw [hisz] at g'
          exact wpAny_pure ⟨rfl, h', tk', L, es, ep, t, rfl, hS', g', hkp⟩

      · cases r₂ with
        | error e => exact hr₂
        | ok fl₂ =>
          cases fl₂ with
          | ret r =>
            obtain ⟨rfl, h', tk, L, es, ep, t, rfl, hS', g', hk'⟩ := hr₂
            repeat (any_goals (first | assumption | wp_step))
            exact h _ _ _ _ _ _ hS' g' hk'
          | _ => exact hr₂.elim
    | _ => exact hr.elim
end
/-- the distinct ones, rising -/
def undup : List (List Int) → List (List Int)
  | [] => []
  | x :: l => if x ∈ undup l then undup l else x :: undup l
theorem undup_mem {z : List Int} : ∀ {l : List (List Int)}, z ∈ undup l ↔ z ∈ l
  | [] => Iff.rfl
  | x :: l => by
    unfold undup
    split
    · rename_i h
      rw [undup_mem, List.mem_cons]
      constructor
      · exact .inr
      · rintro (e | e)
        · rw [e]; exact undup_mem.mp h
        · exact e
    · rw [List.mem_cons, undup_mem, List.mem_cons]
theorem undup_nd : ∀ l : List (List Int), (undup l).Nodup
  | [] => List.nodup_nil
  | x :: l => by
    unfold undup
    split
    · exact undup_nd l
    · rename_i h
      exact List.nodup_cons.mpr ⟨h, undup_nd l⟩
def kx (x : List Int) : SK := (x, [])
theorem kx_inj {x y : List Int} (h : kx x = kx y) : x = y := congrArg (fun s : SK => s.1) h
def setT (xs : List (List Int)) : List (List Int) := srtK kx (undup xs)
theorem setT_mem {z : List Int} {xs : List (List Int)} : z ∈ setT xs ↔ z ∈ xs := by
  unfold setT
  rw [(srt_perm _).mem_iff, undup_mem]
theorem setT_rise (xs : List (List Int)) : (setT xs).Pairwise fun x y => ltSK (kx x) (kx y) = true := srt_rise ((undup_nd xs).imp fun h e => h (kx_inj e))
theorem setT_of {l xs : List (List Int)} (h : l.Pairwise fun x y => ltSK (kx x) (kx y) = true) (hm : ∀ z, z ∈ l ↔ z ∈ xs) : l = setT xs := rise_uniq h (setT_rise xs) fun z => by rw [hm, setT_mem]
theorem code_lex {B : Int} : ∀ {x y : List Int}, x.length = y.length → TS.Bd B x → TS.Bd B y → TS.code B x ≤ TS.code B y → x ≠ y → HT.lexLt x y = true
  | [], [], _, _, _, _, ne => absurd rfl ne
  | [], _ :: _, h, _, _, _, _ => by cases h
  | _ :: _, [], h, _, _, _, _ => by cases h
  | a :: x, b :: y, hl, hx, hy, h, ne => by
    have hl' : x.length = y.length := Nat.succ.inj hl
    rw [HT.lexLt_cons]
    by_cases e : a = b
    · rw [if_pos e]
      subst e
      refine code_lex hl' hx.tail hy.tail ?_ fun z => ne (by rw [z])
      have h : a * B ^ x.length + TS.code B x ≤ a * B ^ y.length + TS.code B y := h
      rw [hl'] at h
      omega
    · rw [if_neg e]
      refine decide_eq_true ?_
      by_cases q : a < b
      · exact q
      · have := TS.code_lt hl'.symm hy.tail hx.tail (show b < a by omega)
        omega
theorem code_sk {B : Int} {x y : List Int} (hl : x.length = y.length) (hx : TS.Bd B x) (hy : TS.Bd B y) (h : TS.code B x ≤ TS.code B y) (ne : x ≠ y) : ltSK (kx x) (kx y) = true := by
  show (if x = y then HT.lexLt [] [] else HT.lexLt x y) = true
  rw [if_neg ne]
  exact code_lex hl hx hy h ne
section
variable {X : Cx}
def rSetFew (K : PySem.W.Frag) (P : Program) (w : World) : List V → Hp → VK → Prop := fun xs H Q => ∃ (l : Addr) (ks : List (Addr × List Int)) (D : List (List Int)), xs = [V.ref l] ∧ SqL K H l (ks.map fun p => V.ref p.1) ∧ (∀ p ∈ ks, SqT K H p.1 (p.2.map V.int)) ∧ D.length ≤ 62 ∧ (∀ p ∈ ks, p.2 ∈ D) ∧
  ∀ a L, H a = none → (∀ p ∈ L, p ∈ ks) → (∀ p ∈ ks, p.2 ∈ L.map (·.2)) → Q (.ref a) (upd H a (SetTO P w a L))
theorem cr_setFew (hc : X.calm = true) (hu : X.A.units + 64 < cLine) : CallR X (.type "set") (rSetFew X.K X.prog X.w) := by
  intro pins s σ H xs us Q I r h
  obtain ⟨l, ks, D, rfl, hl, hk, hD, hf, q⟩ := h
  rw [Vals.ref1 r]
  obtain ⟨its, rv, pl, hz⟩ := I.list hl
  have hn : H s.heap.objs.size = none := I.hok.fresh (Nat.le_refl _)
  refine call_set_few (P := X.prog) (w := X.w) ks (I.ok.hd hc) pl.isList (by simpa using refs_of_vals rv) (fun p hp => I.isT (hk p hp)) D hD hf (by omega) fun h' tk L es ep t R g k => ?_
  exact ⟨.ref s.heap.objs.size, upd H s.heap.objs.size (SetTO X.prog X.w s.heap.objs.size L), I.laid (t' := tk) k (Nat.le_refl _) (setTO_new R.t0), rfl, q _ L hn (fun p hp => List.mem_of_mem_take (g.sub p hp)) fun p hp => g.all p (by rw [List.take_length]; exact hp)⟩
end
def tupsI : List PyData → Option (List (List Int))
  | [] => some []
  | .tuple ds :: r => (intsOf ds).bind fun x => (tupsI r).map fun l => x :: l
  | _ => none
def okT (xs : List (List Int)) : Bool := decide ((undup xs).length ≤ 62 ∧ 1 ≤ (xs.headD []).length ∧ ∀ x ∈ xs, x.length = (xs.headD []).length ∧ ∀ v ∈ x, 0 ≤ v ∧ v < 64)
def rowsT : PyData → Option (List (List Int))
  | .list ds => tupsI ds
  | _ => none
variable [KF]
theorem tupsI_some : ∀ {ds : List PyData} {xs : List (List Int)}, tupsI ds = some xs → ds = xs.map fun x => .tuple (x.map .int)
  | [], xs, h => by cases h; rfl
  | d :: ds, xs, h => by
    cases d <;> first | (cases h; done) | skip
    rename_i es
    obtain ⟨x, e1, h⟩ := bind2 h
    obtain ⟨l, e2, e3⟩ := map2 h
    cases e3
    rw [tupsI_some e2, intsOf_some e1]
    rfl
theorem ks_of {G : Hp} : ∀ {vs : List V} {xs : List (List Int)}, DqAll G vs (xs.map fun x => .tuple (x.map .int)) → ∃ ks : List (Addr × List Int), vs = (ks.map fun p => V.ref p.1) ∧ ks.map (·.2) = xs ∧ ∀ p ∈ ks, ∃ o, G p.1 = some (.frz o (.tup (p.2.map V.int))) ∧ o.dict = none
  | _, [], h => by
    cases h
    exact ⟨[], rfl, rfl, fun p hp => nomatch hp⟩
  | _, x :: xs, h => by
    cases h with
    | cons h1 h2 =>
      obtain ⟨ks, rfl, e2, h3⟩ := ks_of h2
      have h1 : Dq G _ (.tuple (x.map .int)) := h1
      generalize hd : PyData.tuple (x.map .int) = d at h1
      cases h1 with
      | tup g1 g2 g3 =>
        injection hd with hd
        subst hd
        cases dqa_ints g3
        rename_i a o
        refine ⟨(a, x) :: ks, rfl, by rw [List.map_cons, e2], fun p hp => ?_⟩
        rcases List.mem_cons.mp hp with rfl | hp
        · exact ⟨o, g1, g2⟩
        · exact h3 p hp
      | _ => cases hd
theorem of_ks {G : Hp} : ∀ {ks : List (Addr × List Int)}, (∀ p ∈ ks, ∃ o, G p.1 = some (.frz o (.tup (p.2.map V.int))) ∧ o.dict = none) → DqAll G (ks.map fun p => V.ref p.1) ((ks.map (·.2)).map fun x => .tuple (x.map .int))
  | [], _ => .nil
  | p :: ks, h => by
    obtain ⟨o, h1, h2⟩ := h p (by simp)
    exact .cons (.tup h1 h2 (dqa_of_ints p.2)) (of_ks fun q hq => h q (by simp [hq]))
section
variable {X : Cx} {A : Act}
/-- sorted(set(e)), e a list of tuples of ints -/
def mSrtSetT (m : ME) : ME := fun μ => (m μ).bind fun p => (deref p.2 p.1).bind fun D => (rowsT D).bind fun xs => if okT xs = true then some (.fre ((setT xs).map fun x => .tuple (x.map .int)), p.2) else none
theorem qe_srtSetT {k : Nat} {e : Expr} {p pos p' pos' : Pos} {m : ME} (hr : Rm k X.A) (he : PE X e (tE A m)) (hg : Gl X "sorted") (hm : X.mg "sorted" = none) (hg2 : Gl X "set") (hm2 : X.mg "set" = none) (hc : X.calm = true := by rfl)
    (na : starEach [e] X.env = (false, eval e X.env) :: starEach [] X.env := by rfl)
    (na2 : starEach [Expr.Call (.Name "set" p') [e] [] pos'] X.env = (false, eval (Expr.Call (.Name "set" p') [e] [] pos') X.env) :: starEach [] X.env := by rfl) :
    PE X (.Call (.Name "sorted" p) [.Call (.Name "set" p') [e] [] pos'] [] pos) (tE A (mSrtSetT m)) :=
  pe_to (pe_callB (cr_sortedT hc) hg hm (by rfl) (pa_cons (pe_callTy (cr_setFew hc (by have := hr.un; omega)) hg2 hm2 (by rfl) (pa_cons he pa_nil na) (by decide) (by decide) na) pa_nil na2) (by decide) (by decide) na2) fun σ H Q ⟨G, μ, z, μ', R, e, kk⟩ => by
  obtain ⟨p, e1, e⟩ := bind2 e
  obtain ⟨D, e2, e⟩ := bind2 e
  obtain ⟨xs, e3, e⟩ := bind2 e
  split at e
  · rename_i hb
    cases e
    obtain ⟨b1, b2, b3⟩ := of_decide_eq_true hb
    refine ⟨G, μ, p.1, p.2, R, e1, fun G1 H1 v s1 R1 q1 n1 => ?_⟩
    have hx := q1.db R1 e2
    cases D <;> first | (cases e3; done) | skip
    rename_i ds
    have e3 : tupsI ds = some xs := e3
    cases tupsI_some e3
    obtain ⟨q, vs, rfl, h1, h2⟩ := hx.l R1.ext
    obtain ⟨ks, rfl, hks, h3⟩ := ks_of h2
    have h4 : ∀ p ∈ ks, ∃ o, H1 p.1 = some (.frz o (.tup (p.2.map V.int))) := fun p hp => by
      obtain ⟨o, g, _⟩ := h3 p hp
      exact ⟨o, R1.ext _ _ g⟩
    refine ⟨q, ks, undup xs, rfl, .inl h1, fun p hp => .inl (.inr (h4 p hp)), b1, fun p hp => undup_mem.mpr (by rw [← hks]; exact List.mem_map.mpr ⟨p, hp, rfl⟩), fun a L ha sub all => ?_⟩
    have inx : ∀ p ∈ L, p.2 ∈ xs := fun p hp => by
      rw [← hks]
      exact List.mem_map.mpr ⟨p, sub p hp, rfl⟩
    refine ⟨a, L, (xs.headD []).length, 64, rfl, upd_same, fun p hp => ?_, b2, fun p hp => b3 p.2 (inx p hp), fun L' l pm nd few pw hl => ?_⟩
    · obtain ⟨o, g⟩ := h4 p (sub p hp)
      have ne : p.1 ≠ a := fun z => by rw [z, ha] at g; cases g
      refine .inl (.inr ⟨o, ?_⟩)
      rw [upd_ne ne]
      exact g
    · have inL : ∀ p ∈ L', p ∈ ks := fun p hp => sub p (pm.mem_iff.mp hp)
      have eo : L'.map (·.2) = setT xs := by
        refine setT_of ?_ fun z => ?_
        · rw [List.pairwise_map]
          have nd' : L'.Pairwise fun p q => p.2 ≠ q.2 := List.pairwise_map.mp nd
          have mem : L'.Pairwise fun p q => p ∈ L' ∧ q ∈ L' := by
            rw [List.pairwise_iff_forall_sublist]
            intro a b h
            exact ⟨h.subset (by simp), h.subset (by simp)⟩
          refine ((pw.and nd').and mem).imp fun {p q} ⟨⟨c1, c2⟩, c3, c4⟩ => ?_
          obtain ⟨l1, u1⟩ := b3 p.2 (inx p (pm.mem_iff.mp c3))
          obtain ⟨l2, u2⟩ := b3 q.2 (inx q (pm.mem_iff.mp c4))
          exact code_sk (l1.trans l2.symm) u1 u2 c1 c2
        · constructor
          · intro h
            obtain ⟨p, hp, rfl⟩ := List.mem_map.mp h
            exact inx p (pm.mem_iff.mp hp)
          · intro h
            rw [← hks] at h
            obtain ⟨p, hp, rfl⟩ := List.mem_map.mp h
            obtain ⟨q, hq, eq⟩ := List.mem_map.mp (all p hp)
            exact List.mem_map.mpr ⟨q, pm.mem_iff.mpr hq, eq⟩
      have dq := of_ks (G := G1) (ks := L') fun p hp => h3 p (inL p hp)
      rw [eo] at dq
      have g0 := Grow.free (o := SetTO X.prog X.w a L) R1.ext ha
      have gl := Grow.free (o := .lst (L'.map fun p => V.ref p.1)) g0.gh hl
      have gg := g0.trans gl
      have rs : ResV H1 G1 (upd (upd H1 a (SetTO X.prog X.w a L)) l (.lst (L'.map fun p => V.ref p.1))) (.ref l) (.fre ((setT xs).map fun x => .tuple (x.map .int))) :=
        ⟨l, _, rfl, g0.h.free hl, upd_same, dq, g0.gh.free hl⟩
      exact kk _ _ _ (s1.trans gg.step) (R1.grow gg) (rs.rel R1) (rs.nw.back s1)
  · cases e
end
end ML

set_option maxRecDepth 100000
set_option maxHeartbeats 4000000
namespace ML
open PySem PySem.Spec PyProof.Rows L2 RZ
/-! ### what the operations give -/
abbrev tupI (xs : List Int) : PyData := .tuple (xs.map .int)
abbrev lstI (xs : List Int) : PyData := .list (xs.map .int)
theorem atI_at {α : Type} {xs : List α} {i : Int} (h : 0 ≤ i) (h2 : i < xs.length) : atI xs i = xs[i.toNat]? := by
  unfold atI ixN
  rw [if_pos h, if_pos h2]
  rfl
theorem dMod_pos {i j : Int} (h : 0 < j) : dMod (.int i) (.int j) = some (.dat (.int (i % j))) := if_pos (decide_eq_true h)
theorem dDiv_pos {i j : Int} (h : 0 < j) (h2 : j < 2 ^ 64) : dDiv (.int i) (.int j) = some (.dat (.int (i / j))) := by
  refine if_pos (decide_eq_true ⟨h, ?_⟩)
  have : j.natAbs < 2 ^ 9000 := Nat.lt_trans (show j.natAbs < 2 ^ 64 by omega) (Nat.pow_lt_pow_right (by decide) (by decide))
  exact (Nat.log2_lt (by omega)).mpr this
theorem dMul_l {i j : Int} (h : 0 ≤ i) (h2 : i < 2 ^ 64) : dMul (.int i) (.int j) = some (.dat (.int (i * j))) := if_pos (decide_eq_true (.inl ⟨by omega, h2⟩))
theorem dMul_r {i j : Int} (h : 0 ≤ j) (h2 : j < 2 ^ 64) : dMul (.int i) (.int j) = some (.dat (.int (i * j))) := if_pos (decide_eq_true (.inr ⟨by omega, h2⟩))
theorem dPow_lt {i j : Int} (h : 0 ≤ i) (h1 : i < 2 ^ 1000) (h2 : 0 ≤ j) (h3 : j ≤ 1000) : dPow (.int i) (.int j) = some (.dat (.int (i ^ j.toNat))) := by
  refine if_pos (decide_eq_true ⟨h2, ?_⟩)
  have hb : (Builtin.Int.intBits i : Int) ≤ 1001 := by
    unfold Builtin.Int.intBits
    split
    · decide
    · rename_i hz
      have hz : i ≠ 0 := fun z => hz (by rw [z]; rfl)
      have : i.natAbs < 2 ^ 1000 := by omega
      have := (Nat.log2_lt (by omega)).mpr this
      omega
  have e : (Builtin.Int.intBits i : Int) * j ≤ 1001 * 1000 := by
    refine Int.le_trans (Int.mul_le_mul_of_nonneg_right hb h2) (Int.mul_le_mul_of_nonneg_left h3 (by decide))
  exact Int.le_trans e (by decide)
theorem dEq_int {i j : Int} : dEq (.int i) (.int j) = some (.dat (.bool (i == j))) := rfl
theorem dNe_int {i j : Int} : dNe (.int i) (.int j) = some (.dat (.bool (!(i == j)))) := rfl
theorem dEq_bool {i j : Bool} : dEq (.bool i) (.bool j) = some (.dat (.bool (i == j))) := rfl
theorem dNe_bool {i j : Bool} : dNe (.bool i) (.bool j) = some (.dat (.bool (!(i == j)))) := rfl
theorem dAdd_int {i j : Int} : dAdd (.int i) (.int j) = some (.dat (.int (i + j))) := rfl
theorem dMax_int {i j : Int} : dMax (.int i) (.int j) = some (.dat (.int (max i j))) := by
  show some (MV.dat (.int (if j > i then j else i))) = _
  by_cases h : j > i
  · rw [if_pos h, Int.max_eq_right (by omega)]
  · rw [if_neg h, Int.max_eq_left (by omega)]
theorem dMin_int {i j : Int} : dMin (.int i) (.int j) = some (.dat (.int (min i j))) := by
  show some (MV.dat (.int (if j < i then j else i))) = _
  by_cases h : j < i
  · rw [if_pos h, Int.min_eq_right (by omega)]
  · rw [if_neg h, Int.min_eq_left (by omega)]
theorem rgD_nat (n : Nat) : rgD 0 (n : Int) = (List.range n).map fun i => .int (i : Nat) := by
  unfold rgD
  simp
theorem rgB_nat {n : Int} (h0 : 0 ≤ n) (h : n ≤ 1000000) : rgB 0 n = true := decide_eq_true ⟨by decide, by omega⟩
theorem seq_nx {s t : MS} {μ μ1 : Mu} (h : s μ = some (.nx μ1)) : sSeq s t μ = t μ1 := by
  unfold sSeq
  rw [h]
  rfl
/-! ### loops -/
theorem loop_ok {tg : PyData → Mu → Option Mu} {b : MS} (I : Nat → Mu → Prop) : ∀ (ds : List PyData) (μ : Mu) (h0 : I 0 μ)
    (hs : ∀ i d μ, ds[i]? = some d → I i μ → ∃ μ1 μ2, tg d μ = some μ1 ∧ (b μ1 = some (.nx μ2) ∨ b μ1 = some (.ct μ2)) ∧ I (i + 1) μ2), ∃ μ', loopM tg b ds μ = some (.nx μ') ∧ I ds.length μ' := by
  intro ds
  induction ds generalizing I with
  | nil => exact fun μ h0 _ => ⟨μ, rfl, h0⟩
  | cons d ds ih =>
    intro μ h0 hs
    obtain ⟨μ1, μ2, e1, e2, h2⟩ := hs 0 d μ rfl h0
    obtain ⟨μ', e3, h3⟩ := ih (fun i => I (i + 1)) μ2 h2 fun i e μ h => hs (i + 1) e μ (by simpa using h)
    refine ⟨μ', ?_, h3⟩
    unfold loopM
    rw [e1]
    show (b μ1).bind _ = _
    rcases e2 with e2 | e2 <;> (rw [e2]; exact e3)
theorem loop_fold {β : Type} {tg : PyData → Mu → Option Mu} {b : MS} (R : β → Mu → Prop) (f : β → PyData → β) : ∀ (ds : List PyData) (x : β) (μ : Mu) (h0 : R x μ)
    (hs : ∀ d ∈ ds, ∀ x μ, R x μ → ∃ μ1 μ2, tg d μ = some μ1 ∧ (b μ1 = some (.nx μ2) ∨ b μ1 = some (.ct μ2)) ∧ R (f x d) μ2), ∃ μ', loopM tg b ds μ = some (.nx μ') ∧ R (ds.foldl f x) μ' := by
  intro ds
  induction ds with
  | nil => exact fun x μ h0 _ => ⟨μ, rfl, h0⟩
  | cons d ds ih =>
    intro x μ h0 hs
    obtain ⟨μ1, μ2, e1, e2, h2⟩ := hs d (by simp) x μ h0
    obtain ⟨μ', e3, h3⟩ := ih (f x d) μ2 h2 fun e he => hs e (by simp [he])
    refine ⟨μ', ?_, h3⟩
    unfold loopM
    rw [e1]
    show (b μ1).bind _ = _
    rcases e2 with e2 | e2 <;> (rw [e2]; exact e3)
/-- each turn keeps I -/
theorem loop_inv {tg : PyData → Mu → Option Mu} {b : MS} (I : Mu → Prop) (ds : List PyData) (μ : Mu) (h0 : I μ)
    (hs : ∀ d ∈ ds, ∀ μ, I μ → ∃ μ1 μ2, tg d μ = some μ1 ∧ (b μ1 = some (.nx μ2) ∨ b μ1 = some (.ct μ2)) ∧ I μ2) : ∃ μ', loopM tg b ds μ = some (.nx μ') ∧ I μ' := by
  obtain ⟨μ', e, h⟩ := loop_fold (β := Unit) (fun _ => I) (fun x _ => x) ds () μ h0 fun d hd _ μ h => hs d hd μ h
  exact ⟨μ', e, h⟩
theorem lc_map {tg : PyData → Mu → Option Mu} {tt : MT} {te : ME} {vs : List Nat} (f : PyData → PyData) : ∀ (ds : List PyData) (μ : Mu) (acc : List PyData) (hl : acc.length + ds.length ≤ 100000)
    (hs : ∀ d ∈ ds, ∃ μ1 q, tg d μ = some μ1 ∧ tt μ1 = some (true, μ1) ∧ te μ1 = some (.dat (f d), q) ∧ wipeM q vs = μ), lcM tg tt te vs ds μ acc = some (acc ++ ds.map f, μ) := by
  intro ds
  induction ds with
  | nil => intro μ acc _ _; unfold lcM; simp
  | cons d ds ih =>
    intro μ acc hl hs
    obtain ⟨μ1, q, e1, e2, e3, e4⟩ := hs d (by simp)
    unfold lcM
    rw [e1]; show (tt μ1).bind _ = _
    rw [e2]; show (te μ1).bind _ = _
    rw [e3]; show (if acc.length < 100000 then _ else _) = _
    rw [List.length_cons] at hl
    rw [if_pos (by omega)]
    show lcM tg tt te vs ds (wipeM q vs) (acc ++ [f d]) = _
    rw [e4, ih μ _ (by rw [List.length_append]; simp; omega) fun e he => hs e (by simp [he])]
    simp
theorem lc_filter {tg : PyData → Mu → Option Mu} {tt : MT} {te : ME} {vs : List Nat} (p : PyData → Bool) (f : PyData → PyData) : ∀ (ds : List PyData) (μ : Mu) (acc : List PyData) (hl : acc.length + ds.length ≤ 100000)
    (hs : ∀ d ∈ ds, ∃ μ1 q, tg d μ = some μ1 ∧ tt μ1 = some (p d, μ1) ∧ (p d = true → te μ1 = some (.dat (f d), q)) ∧ (p d = true → wipeM q vs = μ) ∧ wipeM μ1 vs = μ), lcM tg tt te vs ds μ acc = some (acc ++ (ds.filter p).map f, μ) := by
  intro ds
  induction ds with
  | nil => intro μ acc _ _; unfold lcM; simp
  | cons d ds ih =>
    intro μ acc hl hs
    obtain ⟨μ1, q, e1, e2, e3, e4, e5⟩ := hs d (by simp)
    rw [List.length_cons] at hl
    unfold lcM
    rw [e1]; show (tt μ1).bind _ = _
    rw [e2]; show (if p d = true then _ else _) = _
    cases hp : p d with
    | true =>
      rw [if_pos rfl]
      show (te μ1).bind _ = _
      rw [e3 hp]; show (if acc.length < 100000 then _ else _) = _
      rw [if_pos (by omega)]
      show lcM tg tt te vs ds (wipeM q vs) (acc ++ [f d]) = _
      rw [e4 hp, ih μ _ (by rw [List.length_append]; simp; omega) fun e he => hs e (by simp [he])]
      simp [List.filter_cons, hp]
    | false =>
      rw [if_neg Bool.false_ne_true]
      show lcM tg tt te vs ds (wipeM μ1 vs) acc = _
      rw [e5, ih μ _ (by omega) fun e he => hs e (by simp [he])]
      simp [List.filter_cons, hp]
/-- with a state that changes -/
theorem lc_ok {tg : PyData → Mu → Option Mu} {tt : MT} {te : ME} {vs : List Nat} (I : Nat → List PyData → Mu → Prop) : ∀ (ds : List PyData) (μ : Mu) (acc : List PyData) (hl : acc.length + ds.length ≤ 100000) (h0 : I 0 acc μ)
    (hs : ∀ i d acc μ, ds[i]? = some d → I i acc μ → ∃ μ1 μ2 y q, tg d μ = some μ1 ∧ tt μ1 = some (true, μ2) ∧ te μ2 = some (.dat y, q) ∧ I (i + 1) (acc ++ [y]) (wipeM q vs)), ∃ ys μ', lcM tg tt te vs ds μ acc = some (ys, μ') ∧ I ds.length ys μ' := by
  intro ds
  induction ds generalizing I with
  | nil => intro μ acc _ h0 _; exact ⟨acc, μ, rfl, h0⟩
  | cons d ds ih =>
    intro μ acc hl h0 hs
    obtain ⟨μ1, μ2, y, q, e1, e2, e3, e4⟩ := hs 0 d acc μ rfl h0
    rw [List.length_cons] at hl
    obtain ⟨ys, μ', e, h⟩ := ih (fun i => I (i + 1)) (wipeM q vs) (acc ++ [y]) (by rw [List.length_append]; simp; omega) e4 fun i d acc μ hd => hs (i + 1) d acc μ (by simpa using hd)
    refine ⟨ys, μ', ?_, h⟩
    unfold lcM
    rw [e1]; show (tt μ1).bind _ = _
    rw [e2]; show (te μ2).bind _ = _
    rw [e3]; show (if acc.length < 100000 then _ else _) = _
    rw [if_pos (by omega)]
    exact e
/-- with a state that changes and a test that draws -/
theorem lc_st {tg : PyData → Mu → Option Mu} {tt : MT} {te : ME} {vs : List Nat} (I : Nat → List PyData → Mu → Prop) : ∀ (ds : List PyData) (μ : Mu) (acc : List PyData) (hl : acc.length + ds.length ≤ 100000) (h0 : I 0 acc μ)
    (hs : ∀ i d acc μ, ds[i]? = some d → I i acc μ → ∃ μ1 c μ2, tg d μ = some μ1 ∧ tt μ1 = some (c, μ2) ∧ (c = true → ∃ y q, te μ2 = some (.dat y, q) ∧ I (i + 1) (acc ++ [y]) (wipeM q vs)) ∧ (c = false → I (i + 1) acc (wipeM μ2 vs))), ∃ ys μ', lcM tg tt te vs ds μ acc = some (ys, μ') ∧ I ds.length ys μ' := by
  intro ds
  induction ds generalizing I with
  | nil => intro μ acc _ h0 _; exact ⟨acc, μ, rfl, h0⟩
  | cons d ds ih =>
    intro μ acc hl h0 hs
    obtain ⟨μ1, c, μ2, e1, e2, e3, e4⟩ := hs 0 d acc μ rfl h0
    rw [List.length_cons] at hl
    cases c with
    | true =>
      obtain ⟨y, q, e5, e6⟩ := e3 rfl
      obtain ⟨ys, μ', e, h⟩ := ih (fun i => I (i + 1)) (wipeM q vs) (acc ++ [y]) (by rw [List.length_append]; simp; omega) e6 fun i d acc μ hd => hs (i + 1) d acc μ (by simpa using hd)
      refine ⟨ys, μ', ?_, h⟩
      unfold lcM
      rw [e1]; show (tt μ1).bind _ = _
      rw [e2]; show (te μ2).bind _ = _
      rw [e5]; show (if acc.length < 100000 then _ else _) = _
      rw [if_pos (by omega)]
      exact e
    | false =>
      obtain ⟨ys, μ', e, h⟩ := ih (fun i => I (i + 1)) (wipeM μ2 vs) acc (by omega) (e4 rfl) fun i d acc μ hd => hs (i + 1) d acc μ (by simpa using hd)
      refine ⟨ys, μ', ?_, h⟩
      unfold lcM
      rw [e1]; show (tt μ1).bind _ = _
      rw [e2]
      exact e
theorem boolsOf_all {ds : List PyData} {f : PyData → Bool} : boolsOf (ds.map fun d => .bool (f d)) = some (ds.map f) := by
  induction ds with
  | nil => rfl
  | cons d ds ih => 
    show (boolsOf (ds.map fun d => .bool (f d))).map _ = _
    rw [ih]; rfl
/-- a loop that may end early by a return -/
theorem loop_find {tg : PyData → Mu → Option Mu} {b : MS} (I : Mu → Prop) (p : PyData → Prop) (R : MV → Prop) : ∀ (ds : List PyData) (μ : Mu) (h0 : I μ)
    (hs : ∀ d ∈ ds, ∀ μ, I μ → ∃ μ1, tg d μ = some μ1 ∧ ((¬ p d ∧ ∃ μ2, b μ1 = some (.nx μ2) ∧ I μ2) ∨ (p d ∧ ∃ v μ2, b μ1 = some (.rt v μ2) ∧ R v))),
    ((∀ d ∈ ds, ¬ p d) ∧ ∃ μ', loopM tg b ds μ = some (.nx μ') ∧ I μ') ∨ ((∃ d ∈ ds, p d) ∧ ∃ v μ', loopM tg b ds μ = some (.rt v μ') ∧ R v) := by
  intro ds
  induction ds with
  | nil => exact fun μ h0 _ => .inl ⟨by simp, μ, rfl, h0⟩
  | cons d ds ih =>
    intro μ h0 hs
    obtain ⟨μ1, e1, h⟩ := hs d (by simp) μ h0
    rcases h with ⟨np, μ2, e2, h2⟩ | ⟨hp, v, μ2, e2, hr⟩
    · have st : loopM tg b (d :: ds) μ = loopM tg b ds μ2 := by
        show (tg d μ).bind (fun μ1 => (b μ1).bind fun o => match o with | .nx μ2 => loopM tg b ds μ2 | .ct μ2 => loopM tg b ds μ2 | .bk μ2 => some (.nx μ2) | .rt x μ2 => some (.rt x μ2)) = _
        rw [e1, Option.bind_some, e2]; rfl
      rw [st]
      rcases ih μ2 h2 fun e he => hs e (by simp [he]) with ⟨a, c⟩ | ⟨⟨x, hx, a⟩, c⟩
      · refine .inl ⟨fun e he => ?_, c⟩
        rcases List.mem_cons.mp he with he | he
        · rw [he]; exact np
        · exact a e he
      · exact .inr ⟨⟨x, by simp [hx], a⟩, c⟩
    · refine .inr ⟨⟨d, by simp, hp⟩, v, μ2, ?_, hr⟩
      show (tg d μ).bind (fun μ1 => (b μ1).bind fun o => match o with | .nx μ2 => loopM tg b ds μ2 | .ct μ2 => loopM tg b ds μ2 | .bk μ2 => some (.nx μ2) | .rt x μ2 => some (.rt x μ2)) = _
      rw [e1, Option.bind_some, e2]; rfl
theorem zipD_map {α : Type} (f g : α → PyData) : ∀ l : List α, zipD (l.map f) (l.map g) = l.map fun i => .tuple [f i, g i]
  | [] => rfl
  | x :: l => by rw [List.map_cons, List.map_cons, zipD, zipD_map f g l]; rfl
/-! ### slices and sums of tuples -/
theorem dSl_hi {ds : List PyData} {g : Int} (h : 0 ≤ g) : dSl (.tuple ds) none (some g) = some (.dat (.tuple (ds.take g.toNat))) := by
  show some (MV.dat (.tuple (cutD ds none (some g)))) = _
  obtain ⟨k, rfl⟩ := Int.eq_ofNat_of_zero_le h
  unfold cutD
  rw [HT.sIx_nat, HT.sIx_none]
  simp only [Int.toNat_natCast, List.drop_zero, Nat.sub_zero]
  by_cases z : k ≤ ds.length
  · rw [Nat.min_eq_left z]
  · rw [Nat.min_eq_right (by omega), List.take_of_length_le (Nat.le_refl _), List.take_of_length_le (by omega)]
theorem dSl_lo {ds : List PyData} {g : Int} (h : 0 ≤ g) : dSl (.tuple ds) (some g) none = some (.dat (.tuple (ds.drop g.toNat))) := by
  show some (MV.dat (.tuple (cutD ds (some g) none))) = _
  obtain ⟨k, rfl⟩ := Int.eq_ofNat_of_zero_le h
  unfold cutD
  rw [HT.sIx_nat, HT.sIx_none]
  simp only [Int.toNat_natCast]
  by_cases z : k ≤ ds.length
  · rw [Nat.min_eq_left z, List.take_of_length_le (by rw [List.length_drop]; omega)]
  · rw [Nat.min_eq_right (by omega), List.drop_of_length_le (Nat.le_refl _), List.drop_of_length_le (by omega)]
    simp
theorem dSl_both {ds : List PyData} {g k : Int} (h : 0 ≤ g) (h2 : g ≤ ds.length) (h3 : g ≤ k) : dSl (.tuple ds) (some g) (some k) = some (.dat (.tuple ((ds.drop g.toNat).take (k - g).toNat))) := by
  show some (MV.dat (.tuple (cutD ds (some g) (some k)))) = _
  obtain ⟨a, rfl⟩ := Int.eq_ofNat_of_zero_le h
  obtain ⟨b, rfl⟩ := Int.eq_ofNat_of_zero_le (Int.le_trans h h3)
  unfold cutD
  rw [HT.sIx_nat, HT.sIx_nat, Nat.min_eq_left (show a ≤ ds.length by omega)]
  simp only [Int.toNat_natCast]
  have e : ((b : Int) - (a : Int)).toNat = b - a := by omega
  rw [e]
  by_cases z : b ≤ ds.length
  · rw [Nat.min_eq_left z]
  · rw [Nat.min_eq_right (by omega), List.take_of_length_le (by rw [List.length_drop]; omega), List.take_of_length_le (by rw [List.length_drop]; omega)]
theorem intsOf_mapf {α : Type} {xs : List α} {f : α → Int} : intsOf (xs.map fun x => PyData.int (f x)) = some (xs.map f) := by
  induction xs with
  | nil => rfl
  | cons x xs ih =>
    show (intsOf (xs.map fun x => PyData.int (f x))).map _ = _
    rw [ih]; rfl
theorem dAdd_tup {a b : List PyData} (h : a.length + b.length ≤ 100000) : dAdd (.tuple a) (.tuple b) = some (.dat (.tuple (a ++ b))) := if_pos h
theorem dAdd_lst {a b : List PyData} (h : a.length + b.length ≤ 100000) : dAdd (.list a) (.list b) = some (.fre (a ++ b)) := if_pos h
/-! ### rows of ints -/
theorem canLay_ints (xs : List Int) : PyData.canLayAll0 (xs.map .int) = true := by
  induction xs with
  | nil => rfl
  | cons x xs ih => show (PyData.canLay0 (.int x) && PyData.canLayAll0 (xs.map .int)) = true; rw [ih]; rfl
theorem depth_ints (xs : List Int) : PyData.depthAll (xs.map .int) = 0 := by
  induction xs with
  | nil => rfl
  | cons x xs ih => show max (PyData.depth (.int x)) (PyData.depthAll (xs.map .int)) = 0; rw [ih]; rfl
theorem shaped_lstI (xs : List Int) : SeqAt.shaped (lstI xs) = true := by
  show (PyData.canLayAll0 (xs.map .int) && decide (PyData.depthAll (xs.map .int) + 1 ≤ 64)) = true
  rw [canLay_ints, depth_ints]; rfl
theorem shaped_tupI (xs : List Int) : SeqAt.shaped (tupI xs) = true := by
  show (PyData.canLayAll0 (xs.map .int) && decide (PyData.depthAll (xs.map .int) + 1 ≤ 64)) = true
  rw [canLay_ints, depth_ints]; rfl
theorem eqv_ints : ∀ (xs ys : List Int), PyData.eqvAll (xs.map .int) (ys.map .int) = decide (xs = ys)
  | [], [] => rfl
  | [], _ :: _ => rfl
  | _ :: _, [] => rfl
  | x :: xs, y :: ys => by
    show (PyData.eqv (.int x) (.int y) && PyData.eqvAll (xs.map .int) (ys.map .int)) = _
    rw [eqv_ints xs ys]
    show ((x == y) && decide (xs = ys)) = _
    by_cases h : x = y
    · subst h; simp
    · simp [h]
theorem dEq_tupI {xs ys : List Int} : dEq (tupI xs) (tupI ys) = some (.dat (.bool (decide (xs = ys)))) := by
  unfold dEq
  rw [if_pos ⟨shaped_tupI xs, shaped_tupI ys⟩]
  show some (MV.dat (.bool (PyData.eqvAll (xs.map .int) (ys.map .int)))) = _
  rw [eqv_ints]
theorem dNe_tupI {xs ys : List Int} : dNe (tupI xs) (tupI ys) = some (.dat (.bool (!decide (xs = ys)))) := by
  unfold dNe
  rw [if_pos ⟨shaped_tupI xs, shaped_tupI ys⟩]
  show some (MV.dat (.bool (!PyData.eqvAll (xs.map .int) (ys.map .int)))) = _
  rw [eqv_ints]
theorem dNe_lst {xs ys : List Int} : dNe (lstI xs) (lstI ys) = some (.dat (.bool (!decide (xs = ys)))) := by
  unfold dNe
  rw [if_pos ⟨shaped_lstI xs, shaped_lstI ys⟩]
  show some (MV.dat (.bool (!PyData.eqvAll (xs.map .int) (ys.map .int)))) = _
  rw [eqv_ints]
theorem dEq_lst {xs ys : List Int} : dEq (lstI xs) (lstI ys) = some (.dat (.bool (decide (xs = ys)))) := by
  unfold dEq
  rw [if_pos ⟨shaped_lstI xs, shaped_lstI ys⟩]
  show some (MV.dat (.bool (PyData.eqvAll (xs.map .int) (ys.map .int)))) = _
  rw [eqv_ints]
theorem dNe_lnil {xs : List Int} : dNe (.list (xs.map .int)) (.list []) = some (.dat (.bool (!decide (xs = [])))) := dNe_lst (ys := [])
theorem atI_last {xs : List Int} (h : xs ≠ []) : atI (xs.map PyData.int) (-1) = some (.int (xs.getLast h)) := by
  have : 0 < xs.length := List.length_pos_iff.mpr h
  unfold atI ixN
  rw [List.length_map, if_neg (by decide), if_pos (by omega)]
  show (xs.map PyData.int)[((-1 : Int) + xs.length).toNat]? = _
  rw [List.getElem?_map, List.getLast_eq_getElem, show ((-1 : Int) + xs.length).toNat = xs.length - 1 by omega, List.getElem?_eq_getElem (by omega)]
  rfl
theorem atI_int {xs : List Int} {i : Int} (h : 0 ≤ i) (h2 : i < xs.length) : atI (xs.map PyData.int) i = some (.int (xs[i.toNat]'(by omega))) := by
  rw [atI_at h (by rw [List.length_map]; exact h2), List.getElem?_map, List.getElem?_eq_getElem (by omega)]
  rfl
theorem dTup_ints {xs : List Int} : dTuple (.list (xs.map .int)) = some (.dat (tupI xs)) := rfl
end ML

namespace Law
open PySem PySem.Spec PyProof.Rows L2 RZ ML
def topS (i : Nat) : Stmt := PySem.Challenge.pw_maymeet_k19_steps_told.main.body.getD i (.Pass ⟨0, 0, 0, 0⟩)
abbrev s_law_take : Stmt := topS 27
theorem sc_law_take : FnScope ["bag", "size", "found", "mixed"] ["bag", "size"] (defScope s_law_take) := ⟨rfl, rfl, rfl, by decide +kernel, rfl, by decide +kernel, by decide +kernel⟩
noncomputable def m_law_take : MS :=
    (sSeq (sIf (mTest (mBin dGt (mBin dIx (mOwn 0) (mC (.int 0))) (mC (.int 1)))) (sSeq (sAsg 2 (mBin dMod (mBin dIx (mOwn 0) (mC (.int 0))) (mVar 1)))
    (sSeq (sSet 0 (mBin dDiv (mBin dIx (mOwn 0) (mC (.int 0))) (mVar 1)) (mC (.int 0)))
    (sRet [0] (mVar 2)))) sNext)
    (sSeq (sSet 0 (mFrz (mBin dAdd (mBin dIx (mOwn 0) (mC (.int 2))) (mC (.int 1)))) (mC (.int 2)))
    (sSeq (sAsg 3 (mBin dMod (mBin dPow (mBin dAdd (mBin dIx (mOwn 0) (mC (.int 1))) (mBin dMul (mC (.int 1299757)) (mBin dIx (mOwn 0) (mC (.int 2))))) (mC (.int 3))) (mC (.int 162259276829213363391578010288127))))
    (sSeq (sAsg 3 (mBin dMod (mBin dPow (mBin dAdd (mVar 3) (mBin dMul (mC (.int 15485927)) (mBin dIx (mOwn 0) (mC (.int 2))))) (mC (.int 5))) (mC (.int 618970019642690137449562111))))
    (sRet [0] (mBin dMod (mBin dDiv (mVar 3) (mC (.int 1048576))) (mVar 1)))))))
noncomputable def F_law_take : List PyData → List PyData → Option (MV × List PyData) := fnB 4 m_law_take
abbrev s_law_plan : Stmt := topS 29
theorem sc_law_plan : FnScope ["bag", "size", "long", "kind", "spots", "found", "k", "spot"] ["bag", "size", "long"] (defScope s_law_plan) := ⟨rfl, rfl, rfl, by decide +kernel, rfl, by decide +kernel, by decide +kernel⟩
noncomputable def b_law_plan_1 : MS :=
    (sSeq (sAsg 7 (mFrz (mBag 2 F_law_take 0 (mCons (mBin dSub (mVar 1) (mC (.int 1))) mNil))))
    (sSeq (sIf (mAndT (mTest (mBin dEq (mVar 3) (mC (.int 1)))) (mTest (mBin dNe (mOwn 5) (mLst mNil)))) (sAsg 7 (mBin dMod (mBin dAdd (mBin dIx (mOwn 5) (mUn dNeg (mC (.int 1)))) (mBin dIx (mLst (mCons (mC (.int 1)) (mCons (mBin dSub (mVar 1) (mC (.int 2))) (mCons (mC (.int 1)) (mCons (mC (.int 0)) mNil))))) (mBag 2 F_law_take 0 (mCons (mC (.int 4)) mNil)))) (mBin dSub (mVar 1) (mC (.int 1))))) sNext)
    (sSeq (sIf (mTest (mBin dEq (mVar 3) (mC (.int 2)))) (sAsg 7 (mFrz (mBin dIx (mVar 4) (mBin dMod (mVar 7) (mC (.int 2)))))) sNext)
    (sSeq (sIf (mTest (mBin dEq (mVar 3) (mC (.int 3)))) (sAsg 7 (mBin dMod (mBin dSub (mBin dSub (mVar 1) (mC (.int 2))) (mVar 6)) (mBin dSub (mVar 1) (mC (.int 1))))) sNext)
    (sDrop (mMut dAppend 5 (mCons (mVar 7) mNil)))))))
noncomputable def m_law_plan : MS :=
    (sSeq (sIf (mTest (mBin dLt (mVar 1) (mC (.int 2)))) (sRet [0] (mTup mNil)) sNext)
    (sSeq (sAsg 3 (mFrz (mBag 2 F_law_take 0 (mCons (mC (.int 5)) mNil))))
    (sSeq (sAsg 4 (mFrz (mLst (mCons (mFrz (mBag 2 F_law_take 0 (mCons (mBin dSub (mVar 1) (mC (.int 1))) mNil))) (mCons (mFrz (mBag 2 F_law_take 0 (mCons (mBin dSub (mVar 1) (mC (.int 1))) mNil))) mNil)))))
    (sSeq (sAsgO 5 (mLst mNil))
    (sSeq (sFor (mIR1 (mCons (mVar 2) mNil)) (gN 6) b_law_plan_1)
    (sRet [0] (mCallB (c1 dTuple) (mCons (mOwn 5) mNil))))))))
noncomputable def F_law_plan : List PyData → List PyData → Option (MV × List PyData) := fnB 8 m_law_plan
abbrev s_is_whole_rows : Stmt := topS 7
theorem sc_is_whole_rows : FnScope ["thing", "least"] ["thing", "least"] (defScope s_is_whole_rows) := ⟨rfl, rfl, rfl, by decide +kernel, rfl, by decide +kernel, by decide +kernel⟩
noncomputable def m_is_whole_rows : MS :=
    (sRet [] (mAndV (mIs "int" (mVar 0)) (mAndV (mNotV (mIs "bool" (mVar 0))) (mBin dGe (mVar 0) (mVar 1)))))
noncomputable def F_is_whole_rows : List PyData → Option MV := fnP 2 m_is_whole_rows
abbrev s_need_many : Stmt := topS 9
theorem sc_need_many : FnScope ["many"] ["many"] (defScope s_need_many) := ⟨rfl, rfl, rfl, by decide +kernel, rfl, by decide +kernel, by decide +kernel⟩
noncomputable def m_need_many : MS :=
    (sIf (mOrT (mNotT (mTest (mCall 2 F_is_whole_rows (mCons (mVar 0) (mCons (mC (.int 1)) mNil))))) (mTest (mBin dGt (mVar 0) (mC (.int 9))))) sStop sNext)
noncomputable def F_need_many : List PyData → Option MV := fnP 1 m_need_many
abbrev s_is_gap : Stmt := topS 10
theorem sc_is_gap : FnScope ["thing", "many"] ["thing", "many"] (defScope s_is_gap) := ⟨rfl, rfl, rfl, by decide +kernel, rfl, by decide +kernel, by decide +kernel⟩
noncomputable def m_is_gap : MS :=
    (sRet [] (mAndV (mCall 2 F_is_whole_rows (mCons (mVar 0) (mCons (mC (.int 0)) mNil))) (mBin dLt (mVar 0) (mBin dSub (mVar 1) (mC (.int 1))))))
noncomputable def F_is_gap : List PyData → Option MV := fnP 2 m_is_gap
abbrev s_is_book : Stmt := topS 11
theorem sc_is_book : FnScope ["thing", "many", "gap"] ["thing", "many"] (defScope s_is_book) := ⟨rfl, rfl, rfl, by decide +kernel, rfl, by decide +kernel, by decide +kernel⟩
noncomputable def e_is_book_1 : ME :=
    (mFrz (mCall 2 F_is_gap (mCons (mVar 2) (mCons (mVar 1) mNil))))
noncomputable def m_is_book : MS :=
    (sSeq (sDrop (mCall 1 F_need_many (mCons (mVar 1) mNil)))
    (sRet [] (mAndV (mIs "tuple" (mVar 0)) (mCallB (c1 dAll) (mCons (mLc (mIt (mVar 0)) (gN 2) mYes e_is_book_1 [2]) mNil)))))
noncomputable def F_is_book : List PyData → Option MV := fnP 3 m_is_book
abbrev s_need_book : Stmt := topS 12
theorem sc_need_book : FnScope ["book", "many"] ["book", "many"] (defScope s_need_book) := ⟨rfl, rfl, rfl, by decide +kernel, rfl, by decide +kernel, by decide +kernel⟩
noncomputable def m_need_book : MS :=
    (sIf (mNotT (mTest (mCall 2 F_is_book (mCons (mVar 0) (mCons (mVar 1) mNil))))) sStop sNext)
noncomputable def F_need_book : List PyData → Option MV := fnP 2 m_need_book
abbrev s_word_at : Stmt := topS 20
theorem sc_word_at : FnScope ["book", "place", "some"] ["book", "place"] (defScope s_word_at) := ⟨rfl, rfl, rfl, by decide +kernel, rfl, by decide +kernel, by decide +kernel⟩
noncomputable def m_word_at : MS :=
    (sSeq (sAsg 2 (mFrz (mSl (mVar 0) (mPart (mVar 1)) (mPart (mBin dAdd (mVar 1) (mC (.int 3)))))))
    (sSeq (sIf (mAndT (mTest (mBin dGt (mCallB (c1 dLen) (mCons (mVar 2) mNil)) (mC (.int 1)))) (mTest (mBin dGt (mCallB (c1 dAbs) (mCons (mBin dSub (mBin dIx (mVar 2) (mC (.int 0))) (mBin dIx (mVar 2) (mC (.int 1)))) mNil)) (mC (.int 1))))) (sRet [] (mC (.str (Str.ofString "far")))) sNext)
    (sSeq (sIf (mAndT (mTest (mBin dGt (mCallB (c1 dLen) (mCons (mVar 2) mNil)) (mC (.int 1)))) (mTest (mBin dEq (mBin dIx (mVar 2) (mC (.int 0))) (mBin dIx (mVar 2) (mC (.int 1)))))) (sRet [] (mC (.str (Str.ofString "once")))) sNext)
    (sRet [] (mIf (mAndT (mTest (mBin dEq (mCallB (c1 dLen) (mCons (mVar 2) mNil)) (mC (.int 3)))) (mTest (mBin dEq (mBin dIx (mVar 2) (mC (.int 0))) (mBin dIx (mVar 2) (mC (.int 2)))))) (mC (.str (Str.ofString "three"))) (mC .none))))))
noncomputable def F_word_at : List PyData → Option MV := fnP 3 m_word_at
abbrev s_steps : Stmt := topS 22
theorem sc_steps : FnScope ["book", "found", "place", "word"] ["book"] (defScope s_steps) := ⟨rfl, rfl, rfl, by decide +kernel, rfl, by decide +kernel, by decide +kernel⟩
noncomputable def e_steps_1 : ME :=
    (mTup (mCons (mVar 2) (mCons (mVar 3) mNil)))
noncomputable def t_steps_1 : MT :=
    (mTest (mBin dIsNot (mVar 3) (mC .none)))
noncomputable def e_steps_2 : ME :=
    (mTup (mCons (mVar 2) (mCons (mFrz (mCall 2 F_word_at (mCons (mVar 0) (mCons (mVar 2) mNil)))) mNil)))
noncomputable def m_steps : MS :=
    (sSeq (sDrop (mCall 2 F_need_book (mCons (mVar 0) (mCons (mC (.int 9)) mNil))))
    (sSeq (sAsg 1 (mFrz (mLc (mIR1 (mCons (mCallB (c1 dLen) (mCons (mVar 0) mNil)) mNil)) (gN 2) mYes e_steps_2 [2])))
    (sRet [] (mLc (mIt (mVar 1)) (gTL 2 (gsC (gN 2) (gsC (gN 3) gsN))) t_steps_1 e_steps_1 [2, 3]))))
noncomputable def F_steps : List PyData → Option MV := fnP 4 m_steps
abbrev s_law_word : Stmt := topS 34
theorem sc_law_word : FnScope ["plan", "k", "some"] ["plan", "k"] (defScope s_law_word) := ⟨rfl, rfl, rfl, by decide +kernel, rfl, by decide +kernel, by decide +kernel⟩
noncomputable def m_law_word : MS :=
    (sSeq (sAsg 2 (mFrz (mSl (mVar 0) (mPart (mVar 1)) (mPart (mBin dAdd (mVar 1) (mC (.int 3)))))))
    (sSeq (sIf (mAndT (mTest (mBin dGt (mCallB (c1 dLen) (mCons (mVar 2) mNil)) (mC (.int 1)))) (mTest (mBin dGt (mCallB (c1 dAbs) (mCons (mBin dSub (mBin dIx (mVar 2) (mC (.int 0))) (mBin dIx (mVar 2) (mC (.int 1)))) mNil)) (mC (.int 1))))) (sRet [] (mC (.str (Str.ofString "far")))) sNext)
    (sSeq (sIf (mAndT (mTest (mBin dGt (mCallB (c1 dLen) (mCons (mVar 2) mNil)) (mC (.int 1)))) (mTest (mBin dEq (mBin dIx (mVar 2) (mC (.int 0))) (mBin dIx (mVar 2) (mC (.int 1)))))) (sRet [] (mC (.str (Str.ofString "once")))) sNext)
    (sRet [] (mIf (mAndT (mTest (mBin dGt (mCallB (c1 dLen) (mCons (mVar 2) mNil)) (mC (.int 2)))) (mTest (mBin dEq (mBin dIx (mVar 2) (mC (.int 0))) (mBin dIx (mVar 2) (mC (.int 2)))))) (mC (.str (Str.ofString "three"))) (mC .none))))))
noncomputable def F_law_word : List PyData → Option MV := fnP 3 m_law_word
abbrev s_law_behind : Stmt := topS 35
theorem sc_law_behind : FnScope ["plan", "k", "word", "turn"] ["plan", "k"] (defScope s_law_behind) := ⟨rfl, rfl, rfl, by decide +kernel, rfl, by decide +kernel, by decide +kernel⟩
noncomputable def m_law_behind : MS :=
    (sSeq (sAsg 2 (mFrz (mCall 2 F_law_word (mCons (mVar 0) (mCons (mVar 1) mNil)))))
    (sSeq (sIf (mTest (mBin dEq (mVar 2) (mC (.str (Str.ofString "once"))))) (sRet [] (mBin dAdd (mSl (mVar 0) mNoP (mPart (mVar 1))) (mSl (mVar 0) (mPart (mBin dAdd (mVar 1) (mC (.int 1)))) mNoP))) sNext)
    (sSeq (sAsg 3 (mTup (mCons (mFrz (mBin dIx (mVar 0) (mBin dAdd (mVar 1) (mC (.int 1))))) (mCons (mFrz (mBin dIx (mVar 0) (mVar 1))) mNil))))
    (sSeq (sIf (mTest (mBin dEq (mVar 2) (mC (.str (Str.ofString "three"))))) (sRet [] (mBin dAdd (mBin dAdd (mBin dAdd (mSl (mVar 0) mNoP (mPart (mVar 1))) (mVar 3)) (mSl (mVar 3) mNoP (mPart (mC (.int 1))))) (mSl (mVar 0) (mPart (mBin dAdd (mVar 1) (mC (.int 3)))) mNoP))) sNext)
    (sRet [] (mBin dAdd (mBin dAdd (mSl (mVar 0) mNoP (mPart (mVar 1))) (mVar 3)) (mSl (mVar 0) (mPart (mBin dAdd (mVar 1) (mC (.int 2)))) mNoP)))))))
noncomputable def F_law_behind : List PyData → Option MV := fnP 4 m_law_behind
abbrev s_law_alike : Stmt := topS 28
theorem sc_law_alike : FnScope ["found", "due", "k"] ["found", "due"] (defScope s_law_alike) := ⟨rfl, rfl, rfl, by decide +kernel, rfl, by decide +kernel, by decide +kernel⟩
noncomputable def e_law_alike_1 (rec_ : List PyData → Option MV) : ME :=
    (mFrz (mCall 2 rec_ (mCons (mFrz (mBin dIx (mVar 0) (mVar 2))) (mCons (mFrz (mBin dIx (mVar 1) (mVar 2))) mNil))))
noncomputable def m_law_alike (rec_ : List PyData → Option MV) : MS :=
    (sSeq (sIf (mTest (mIs2 "list" "tuple" (mVar 1))) (sSeq (sIf (mOrT (mTest (mBin dNe (mIs "list" (mVar 0)) (mIs "list" (mVar 1)))) (mNotT (mTest (mIs2 "list" "tuple" (mVar 0))))) (sRet [] (mC (.bool false))) sNext)
    (sSeq (sIf (mTest (mBin dNe (mCallB (c1 dLen) (mCons (mVar 0) mNil)) (mCallB (c1 dLen) (mCons (mVar 1) mNil)))) (sRet [] (mC (.bool false))) sNext)
    (sRet [] (mCallB (c1 dAll) (mCons (mLc (mIR1 (mCons (mCallB (c1 dLen) (mCons (mVar 1) mNil)) mNil)) (gN 2) mYes (e_law_alike_1 rec_) [2]) mNil))))) sNext)
    (sSeq (sIf (mOrT (mTest (mBin dIs (mVar 1) (mC .none))) (mTest (mBin dIs (mVar 0) (mC .none)))) (sRet [] (mAndV (mBin dIs (mVar 1) (mC .none)) (mBin dIs (mVar 0) (mC .none)))) sNext)
    (sSeq (sIf (mOrT (mTest (mIs "bool" (mVar 1))) (mTest (mIs "bool" (mVar 0)))) (sRet [] (mAndV (mIs "bool" (mVar 1)) (mAndV (mIs "bool" (mVar 0)) (mBin dEq (mVar 0) (mVar 1))))) sNext)
    (sRet [] (mBin dEq (mVar 0) (mVar 1))))))
noncomputable def F_law_alike : Nat → List PyData → Option MV
  | 0 => fun _ => none
  | n + 1 => fnP 3 (m_law_alike (F_law_alike n))
abbrev s_behind : Stmt := topS 21
theorem sc_behind : FnScope ["book", "place", "some", "word"] ["book", "place"] (defScope s_behind) := ⟨rfl, rfl, rfl, by decide +kernel, rfl, by decide +kernel, by decide +kernel⟩
noncomputable def m_behind : MS :=
    (sSeq (sAsg 2 (mFrz (mSl (mVar 0) (mPart (mVar 1)) (mPart (mBin dAdd (mVar 1) (mC (.int 3)))))))
    (sSeq (sAsg 3 (mFrz (mCall 2 F_word_at (mCons (mVar 0) (mCons (mVar 1) mNil)))))
    (sSeq (sIf (mTest (mBin dEq (mVar 3) (mC (.str (Str.ofString "three"))))) (sRet [] (mBin dAdd (mBin dAdd (mSl (mVar 0) mNoP (mPart (mVar 1))) (mTup (mCons (mFrz (mBin dIx (mVar 2) (mC (.int 1)))) (mCons (mFrz (mBin dIx (mVar 2) (mC (.int 0)))) (mCons (mFrz (mBin dIx (mVar 2) (mC (.int 1)))) mNil))))) (mSl (mVar 0) (mPart (mBin dAdd (mVar 1) (mC (.int 3)))) mNoP))) sNext)
    (sSeq (sIf (mTest (mBin dEq (mVar 3) (mC (.str (Str.ofString "once"))))) (sRet [] (mBin dAdd (mSl (mVar 0) mNoP (mPart (mVar 1))) (mSl (mVar 0) (mPart (mBin dAdd (mVar 1) (mC (.int 1)))) mNoP))) sNext)
    (sRet [] (mBin dAdd (mBin dAdd (mSl (mVar 0) mNoP (mPart (mVar 1))) (mTup (mCons (mFrz (mBin dIx (mVar 2) (mC (.int 1)))) (mCons (mFrz (mBin dIx (mVar 2) (mC (.int 0)))) mNil)))) (mSl (mVar 0) (mPart (mBin dAdd (mVar 1) (mC (.int 2)))) mNoP)))))))
noncomputable def F_behind : List PyData → Option MV := fnP 4 m_behind
abbrev s_is_whole_goings : Stmt := topS 14
theorem sc_is_whole_goings : FnScope ["thing"] ["thing"] (defScope s_is_whole_goings) := ⟨rfl, rfl, rfl, by decide +kernel, rfl, by decide +kernel, by decide +kernel⟩
noncomputable def m_is_whole_goings : MS :=
    (sRet [] (mAndV (mIs "int" (mVar 0)) (mAndV (mNotV (mIs "bool" (mVar 0))) (mBin dGe (mVar 0) (mC (.int 0))))))
noncomputable def F_is_whole_goings : List PyData → Option MV := fnP 1 m_is_whole_goings
abbrev s_stepped : Stmt := topS 23
theorem sc_stepped : FnScope ["book", "step", "known"] ["book", "step"] (defScope s_stepped) := ⟨rfl, rfl, rfl, by decide +kernel, rfl, by decide +kernel, by decide +kernel⟩
noncomputable def m_stepped : MS :=
    (sSeq (sAsg 2 (mFrz (mCall 1 F_steps (mCons (mVar 0) mNil))))
    (sSeq (sIf (mOrT (mNotT (mTest (mIs "tuple" (mVar 1)))) (mOrT (mTest (mBin dNe (mCallB (c1 dLen) (mCons (mVar 1) mNil)) (mC (.int 2)))) (mOrT (mNotT (mTest (mCall 1 F_is_whole_goings (mCons (mFrz (mBin dIx (mVar 1) (mC (.int 0)))) mNil)))) (mTest (mBin (dInZ true) (mVar 1) (mVar 2)))))) sStop sNext)
    (sRet [] (mCall 2 F_behind (mCons (mVar 0) (mCons (mFrz (mBin dIx (mVar 1) (mC (.int 0)))) mNil))))))
noncomputable def F_stepped : List PyData → Option MV := fnP 3 m_stepped
noncomputable def r_stepped : MR :=
    (rSeq (sAsg 2 (mFrz (mCall 1 F_steps (mCons (mVar 0) mNil)))) rNo
    (rSeq (sIf (mOrT (mNotT (mTest (mIs "tuple" (mVar 1)))) (mOrT (mTest (mBin dNe (mCallB (c1 dLen) (mCons (mVar 1) mNil)) (mC (.int 2)))) (mOrT (mNotT (mTest (mCall 1 F_is_whole_goings (mCons (mFrz (mBin dIx (mVar 1) (mC (.int 0)))) mNil)))) (mTest (mBin (dInZ true) (mVar 1) (mVar 2)))))) sStop sNext) (rIf (mOrT (mNotT (mTest (mIs "tuple" (mVar 1)))) (mOrT (mTest (mBin dNe (mCallB (c1 dLen) (mCons (mVar 1) mNil)) (mC (.int 2)))) (mOrT (mNotT (mTest (mCall 1 F_is_whole_goings (mCons (mFrz (mBin dIx (mVar 1) (mC (.int 0)))) mNil)))) (mTest (mBin (dInZ true) (mVar 1) (mVar 2)))))) (rRaise "NoStep") rNo)
    rNo))
noncomputable def R_stepped : List PyData → Option Ex := fnR 3 r_stepped
abbrev s_law_refused : Stmt := topS 36
theorem sc_law_refused : FnScope ["plan", "some", "found", "e"] ["plan", "some"] (defScope s_law_refused) := ⟨rfl, rfl, rfl, by decide +kernel, rfl, by decide +kernel, by decide +kernel⟩
noncomputable def m_law_refused : MS :=
    (sSeq (sAsg 2 (mC (.bool false)))
    (sSeq (sTryAs 3 ["NoStep"] (sDrop (mCall 2 F_stepped (mCons (mVar 0) (mCons (mVar 1) mNil)))) (rCall 2 R_stepped (mCons (mVar 0) (mCons (mVar 1) mNil))) (sTrue 2))
    (sRet [] (mVar 2))))
noncomputable def F_law_refused : List PyData → Option MV := fnP 4 m_law_refused
abbrev s_law_none_right : Stmt := topS 37
theorem sc_law_none_right : FnScope ["bag", "plan", "due", "k", "words", "some", "odd"] ["bag", "plan", "due"] (defScope s_law_none_right) := ⟨rfl, rfl, rfl, by decide +kernel, rfl, by decide +kernel, by decide +kernel⟩
noncomputable def m_law_none_right : MS :=
    (sSeq (sAsg 3 (mFrz (mBag 2 F_law_take 0 (mCons (mFrz (mBin dAdd (mCallB (c1 dLen) (mCons (mVar 1) mNil)) (mC (.int 2)))) mNil))))
    (sSeq (sAsg 4 (mFrz (mLst (mCons (mC (.str (Str.ofString "far"))) (mCons (mC (.str (Str.ofString "three"))) (mCons (mC (.str (Str.ofString "once"))) mNil))))))
    (sSeq (sAsg 5 (mFrz (mLst (mCons (mTup (mCons (mVar 3) (mCons (mFrz (mBin dIx (mVar 4) (mBag 2 F_law_take 0 (mCons (mC (.int 3)) mNil)))) mNil))) (mCons (mTup (mCons (mVar 3) (mCons (mC (.str (Str.ofString "near"))) mNil))) (mCons (mTup (mCons (mCallB (c1 dLen) (mCons (mVar 1) mNil)) (mCons (mC (.str (Str.ofString "far"))) mNil))) (mCons (mTup (mCons (mUn dNeg (mC (.int 1))) (mCons (mC (.str (Str.ofString "far"))) mNil))) (mCons (mTup (mCons (mVar 3) mNil)) (mCons (mTup (mCons (mC (.bool true)) (mCons (mC (.str (Str.ofString "far"))) mNil))) (mCons (mC .none) mNil))))))))))
    (sSeq (sAsg 5 (mFrz (mBin dAdd (mVar 5) (mLst (mCons (mFrz (mLst (mCons (mVar 3) (mCons (mC (.str (Str.ofString "far"))) mNil)))) (mCons (mTup (mCons (mC (.str (Str.ofString "0"))) (mCons (mC (.str (Str.ofString "far"))) mNil))) (mCons (mTup (mCons (mVar 3) (mCons (mC .none) mNil))) (mCons (mC (.int 0)) (mCons (mTup (mCons (mVar 3) (mCons (mC (.str (Str.ofString "far"))) (mCons (mC (.int 1)) mNil)))) (mCons (mC (.str (Str.ofString "far"))) (mCons (mTup (mCons (mC (.bool false)) (mCons (mFrz (mBin dIx (mVar 4) (mBag 2 F_law_take 0 (mCons (mC (.int 3)) mNil)))) mNil))) mNil)))))))))))
    (sSeq (sAsg 6 (mFrz (mBin dIx (mVar 5) (mBag 2 F_law_take 0 (mCons (mC (.int 14)) mNil)))))
    (sRet [0] (mOrV (mAndV (mBin (dInZ false) (mVar 6) (mVar 2)) (mNotV (mIs "bool" (mBin dIx (mVar 6) (mC (.int 0)))))) (mCall 2 F_law_refused (mCons (mVar 1) (mCons (mVar 6) mNil))))))))))
noncomputable def F_law_none_right : List PyData → List PyData → Option (MV × List PyData) := fnB 7 m_law_none_right
abbrev s_law_right : Stmt := topS 38
theorem sc_law_right : FnScope ["bag", "size", "plan", "turn", "due", "told", "some", "later", "k"] ["bag"] (defScope s_law_right) := ⟨rfl, rfl, rfl, by decide +kernel, rfl, by decide +kernel, by decide +kernel⟩
noncomputable def e_law_right_1 : ME :=
    (mTup (mCons (mVar 8) (mCons (mFrz (mCall 2 F_law_word (mCons (mVar 2) (mCons (mVar 8) mNil)))) mNil)))
noncomputable def t_law_right_1 : MT :=
    (mTest (mBin dIsNot (mCall 2 F_law_word (mCons (mVar 2) (mCons (mVar 8) mNil))) (mC .none)))
noncomputable def b_law_right_1 : MS :=
    (sSeq (sAsg 4 (mFrz (mLc (mIR1 (mCons (mCallB (c1 dLen) (mCons (mVar 2) mNil)) mNil)) (gN 8) t_law_right_1 e_law_right_1 [8])))
    (sSeq (sAsgO 5 (mCall 1 F_steps (mCons (mVar 2) mNil)))
    (sSeq (sIf (mOrT (mNotT (mTest (mCallS 2 (F_law_alike 12) (mCons (mOwn 5) (mCons (mVar 4) mNil))))) (mNotT (mTest (mBag 3 F_law_none_right 0 (mCons (mVar 2) (mCons (mVar 4) mNil)))))) (sRet [0] (mC (.bool false))) sNext)
    (sSeq (sDrop (mMut dAppend 5 (mCons (mTup (mCons (mC (.int 0)) (mCons (mC (.str (Str.ofString "far"))) mNil))) mNil)))
    (sSeq (sIf (mNotT (mTest (mCall 2 (F_law_alike 12) (mCons (mFrz (mCallK 1 [0] F_steps (mCons (mVar 2) mNil))) (mCons (mVar 4) mNil))))) (sRet [0] (mC (.bool false))) sNext)
    (sSeq (sIf (mTest (mBin dEq (mVar 4) (mLst mNil))) (sRet [0] (mC (.bool true))) sNext)
    (sSeq (sAsg 6 (mFrz (mBin dIx (mVar 4) (mBag 2 F_law_take 0 (mCons (mCallB (c1 dLen) (mCons (mVar 4) mNil)) mNil)))))
    (sSeq (sAsg 7 (mFrz (mCall 2 F_law_behind (mCons (mVar 2) (mCons (mFrz (mBin dIx (mVar 6) (mC (.int 0)))) mNil)))))
    (sSeq (sIf (mNotT (mTest (mCall 2 (F_law_alike 12) (mCons (mFrz (mLst (mCons (mFrz (mCall 2 F_stepped (mCons (mVar 2) (mCons (mVar 6) mNil)))) (mCons (mFrz (mCallK 2 [1, 0] F_stepped (mCons (mVar 6) (mCons (mVar 2) mNil)))) mNil)))) (mCons (mFrz (mLst (mCons (mVar 7) (mCons (mVar 7) mNil)))) mNil))))) (sRet [0] (mC (.bool false))) sNext)
    (sAsg 2 (mVar 7)))))))))))
noncomputable def m_law_right : MS :=
    (sSeq (sAsg 1 (mFrz (mBin dIx (mLst (mCons (mFrz (mBin dAdd (mC (.int 2)) (mBag 2 F_law_take 0 (mCons (mC (.int 8)) mNil)))) (mCons (mC (.int 3)) (mCons (mC (.int 4)) mNil)))) (mBag 2 F_law_take 0 (mCons (mC (.int 3)) mNil)))))
    (sSeq (sAsg 2 (mFrz (mBag 3 F_law_plan 0 (mCons (mVar 1) (mCons (mFrz (mBag 2 F_law_take 0 (mCons (mFrz (mBin dIx (mLst (mCons (mC (.int 41)) (mCons (mC (.int 9)) mNil))) (mBag 2 F_law_take 0 (mCons (mC (.int 2)) mNil)))) mNil))) mNil)))))
    (sSeq (sFor (mIR1 (mCons (mC (.int 12)) mNil)) (gN 3) b_law_right_1)
    (sRet [0] (mC (.bool true))))))
noncomputable def F_law_right : List PyData → List PyData → Option (MV × List PyData) := fnB 9 m_law_right
abbrev s_law_bag : Stmt := topS 26
theorem sc_law_bag : FnScope ["cell", "k"] ["cell", "k"] (defScope s_law_bag) := ⟨rfl, rfl, rfl, by decide +kernel, rfl, by decide +kernel, by decide +kernel⟩
noncomputable def m_law_bag : MS :=
    (sRet [] (mLst (mCons (mCallB (c2 dMax) (mCons (mC (.int 0)) (mCons (mBin dSub (mVar 0) (mBin dPow (mC (.int 10)) (mC (.int 18)))) mNil))) (mCons (mFrz (mBin dAdd (mBin dMod (mVar 0) (mC (.int 162259276829213363391578010288127))) (mBin dMul (mC (.int 9311)) (mBin dAdd (mVar 1) (mC (.int 1)))))) (mCons (mC (.int 0)) mNil)))))
noncomputable def F_law_bag : List PyData → Option MV := fnP 2 m_law_bag
abbrev s_law_cell_at : Stmt := topS 25
theorem sc_law_cell_at : FnScope ["script", "k"] ["script", "k"] (defScope s_law_cell_at) := ⟨rfl, rfl, rfl, by decide +kernel, rfl, by decide +kernel, by decide +kernel⟩
noncomputable def m_law_cell_at : MS :=
    (sSeq (sIf (mTest (mBin dLt (mVar 1) (mCallB (c1 dLenS) (mCons (mVar 0) mNil)))) (sRet [] (mBin dIxS (mVar 0) (mVar 1))) sNext)
    (sRet [] (mC (.int 0))))
noncomputable def F_law_cell_at : List PyData → Option MV := fnP 2 m_law_cell_at
abbrev s_law : Stmt := topS 39
theorem sc_law : FnScope ["script", "k"] ["script"] (defScope s_law) := ⟨rfl, rfl, rfl, by decide +kernel, rfl, by decide +kernel, by decide +kernel⟩
noncomputable def e_law_1 : ME :=
    (mFrz (mBagT 1 F_law_right (mCall 2 F_law_bag (mCons (mFrz (mCall 2 F_law_cell_at (mCons (mVar 0) (mCons (mVar 1) mNil)))) (mCons (mVar 1) mNil))) mNil))
noncomputable def m_law : MS :=
    (sRet [] (mCallB (c1 dAll) (mCons (mLc (mIR1 (mCons (mC (.int 4)) mNil)) (gN 1) mYes e_law_1 [1]) mNil)))
noncomputable def F_law : List PyData → Option MV := fnP 2 m_law

/-! ### the mathematics -/
/-! the law's bag of draws -/
def Bg (k : Nat) (es : List PyData) : Prop := ∃ a b c : Int, es = [.int a, .int b, .int c] ∧ 0 ≤ a ∧ 0 ≤ b ∧ b ≤ 2 ^ 110 ∧ 0 ≤ c ∧ c ≤ k
theorem pow_le_of {a b : Int} {k : Nat} (h0 : 0 ≤ a) (h : a ≤ b) : a ^ k ≤ b ^ k := by
  induction k with
  | zero => simp
  | succ k ih =>
    rw [Int.pow_succ, Int.pow_succ]
    exact Int.mul_le_mul ih h h0 (Int.pow_nonneg (by omega))
theorem take_ok {k : Nat} {es : List PyData} {n : Int} (h : Bg k es) (hn : 1 ≤ n) (hn2 : n < 2 ^ 60) (hk : k < 100000) : ∃ r es', F_law_take es [.int n] = some (.dat (.int r), es') ∧ 0 ≤ r ∧ r < n ∧ Bg (k + 1) es' := by
  obtain ⟨a, b, c, rfl, h1, h2, h3, h4, h5⟩ := h
  have m1 : dMod (.int a) (.int n) = some (.dat (.int (a % n))) := dMod_pos (by omega)
  have m2 : dDiv (.int a) (.int n) = some (.dat (.int (a / n))) := dDiv_pos (by omega) (by omega)
  by_cases ha : 1 < a
  · refine ⟨a % n, [.int (a / n), .int b, .int c], ?_, Int.emod_nonneg _ (by omega), Int.emod_lt_of_pos _ (by omega), a / n, b, c, rfl, Int.ediv_nonneg h1 (by omega), h2, h3, h4, by omega⟩
    simp [fnP, fnB, start0, sSeq, sIf, sNext, sStop, sRet, sAsg, sAsgO, sAsgD, sAsgE, sPutD, sRetD, getK, sMove, sDrop, sSet, sSet2, sAug, sPar, sAsgT, sFor, mVar, mOwn, mC, mBin, mUn, mTest, mTruth, mNotT, mAndT, mOrT, mAndV, mOrV, mNotV, mIf, mNil, mCons, dats, derefs, deref, derefsL, derefL, mTup, mLst, frz, mFrz, mCallB, ML.c1, ML.c2, retV, getL, asD, asF, isB, isI, mSl, mPart, mNoP, mIs, mIs2, fIsi, fIsi2, ML.kindOf, tyB, mMut, mExt, mCall, mCallS, mBag, mBagT, mCallK, permL, mIt, mItD, mIRev, itD, gN, gT, gTL, gsN, gsC, fI, ML.isNon, dIs, dIsNot, dIsB, dIsNotB, dAdd_int, dSub, dLt, dLe, dGt, dGe, dIx, dLen, dLenS, dIxS, dTuple, dListZ, dList, dAppend, dNeg, atI, ixN, dEq_int, dNe_int, dEq_bool, dNe_bool, dMax_int, dMin_int, F_law_take, m_law_take, ha, m1, m2]
  · have q1 : dMul (.int 1299757) (.int (c + 1)) = some (.dat (.int (1299757 * (c + 1)))) := dMul_l (by decide) (by decide)
    have q2 : dPow (.int (b + 1299757 * (c + 1))) (.int 3) = some (.dat (.int ((b + 1299757 * (c + 1)) ^ 3))) := dPow_lt (by omega) (Int.lt_of_le_of_lt (show _ ≤ (2:Int) ^ 110 + 1299757 * 100001 by omega) (by decide +kernel)) (by decide) (by decide)
    have q3 : dMod (.int ((b + 1299757 * (c + 1)) ^ 3)) (.int 162259276829213363391578010288127) = some (.dat (.int ((b + 1299757 * (c + 1)) ^ 3 % 162259276829213363391578010288127))) := dMod_pos (by decide)
    have q4 : dMul (.int 15485927) (.int (c + 1)) = some (.dat (.int (15485927 * (c + 1)))) := dMul_l (by decide) (by decide)
    generalize hM : (b + 1299757 * (c + 1)) ^ 3 % 162259276829213363391578010288127 = M at q3
    have hM0 : 0 ≤ M := by rw [← hM]; exact Int.emod_nonneg _ (by decide)
    have hM1 : M < 162259276829213363391578010288127 := by rw [← hM]; exact Int.emod_lt_of_pos _ (by decide)
    have q5 : dPow (.int (M + 15485927 * (c + 1))) (.int 5) = some (.dat (.int ((M + 15485927 * (c + 1)) ^ 5))) := dPow_lt (by omega) (Int.lt_of_le_of_lt (show _ ≤ (162259276829213363391578010288127:Int) + 15485927 * 100001 by omega) (by decide +kernel)) (by decide) (by decide)
    have q6 : dMod (.int ((M + 15485927 * (c + 1)) ^ 5)) (.int 618970019642690137449562111) = some (.dat (.int ((M + 15485927 * (c + 1)) ^ 5 % 618970019642690137449562111))) := dMod_pos (by decide)
    generalize hN : (M + 15485927 * (c + 1)) ^ 5 % 618970019642690137449562111 = N at q6
    have q7 : dDiv (.int N) (.int 1048576) = some (.dat (.int (N / 1048576))) := dDiv_pos (by decide) (by decide)
    have q8 : dMod (.int (N / 1048576)) (.int n) = some (.dat (.int (N / 1048576 % n))) := dMod_pos (by omega)
    refine ⟨N / 1048576 % n, [.int a, .int b, .int (c + 1)], ?_, Int.emod_nonneg _ (by omega), Int.emod_lt_of_pos _ (by omega), a, b, c + 1, rfl, h1, h2, h3, by omega, by omega⟩
    simp [fnP, fnB, start0, sSeq, sIf, sNext, sStop, sRet, sAsg, sAsgO, sAsgD, sAsgE, sPutD, sRetD, getK, sMove, sDrop, sSet, sSet2, sAug, sPar, sAsgT, sFor, mVar, mOwn, mC, mBin, mUn, mTest, mTruth, mNotT, mAndT, mOrT, mAndV, mOrV, mNotV, mIf, mNil, mCons, dats, derefs, deref, derefsL, derefL, mTup, mLst, frz, mFrz, mCallB, ML.c1, ML.c2, retV, getL, asD, asF, isB, isI, mSl, mPart, mNoP, mIs, mIs2, fIsi, fIsi2, ML.kindOf, tyB, mMut, mExt, mCall, mCallS, mBag, mBagT, mCallK, permL, mIt, mItD, mIRev, itD, gN, gT, gTL, gsN, gsC, fI, ML.isNon, dIs, dIsNot, dIsB, dIsNotB, dAdd_int, dSub, dLt, dLe, dGt, dGe, dIx, dLen, dLenS, dIxS, dTuple, dListZ, dList, dAppend, dNeg, atI, ixN, dEq_int, dNe_int, dEq_bool, dNe_bool, dMax_int, dMin_int, F_law_take, m_law_take, ha, q1, q2, q3, q4, q5, q6, q7, q8]
theorem Bg.mono {k k' : Nat} {es : List PyData} (h : Bg k es) (hk : k ≤ k') : Bg k' es := by
  obtain ⟨a, b, c, h0, h1, h2, h3, h4, h5⟩ := h
  exact ⟨a, b, c, h0, h1, h2, h3, h4, by omega⟩
/-! the law's top -/
theorem bag_ok (c k : Int) (h0 : 0 ≤ k) (h1 : k < 100) : ∃ es, F_law_bag [.int c, .int k] = some (.fre es) ∧ Bg 0 es := by
  have q1 : dPow (.int 10) (.int 18) = some (.dat (.int (10 ^ 18))) := dPow_lt (by decide) (by decide +kernel) (by decide) (by decide)
  have q2 : dMod (.int c) (.int 162259276829213363391578010288127) = some (.dat (.int (c % 162259276829213363391578010288127))) := dMod_pos (by decide)
  have q3 : dMul (.int 9311) (.int (k + 1)) = some (.dat (.int (9311 * (k + 1)))) := dMul_l (by decide) (by decide)
  refine ⟨[.int (max 0 (c - 10 ^ 18)), .int (c % 162259276829213363391578010288127 + 9311 * (k + 1)), .int 0], ?_, _, _, _, rfl, by omega, by omega, by omega, by omega, by omega⟩
  simp [fnP, fnB, start0, sSeq, sIf, sNext, sStop, sRet, sAsg, sAsgO, sAsgD, sAsgE, sPutD, sRetD, getK, sMove, sDrop, sSet, sSet2, sAug, sPar, sAsgT, sFor, mVar, mOwn, mC, mBin, mUn, mTest, mTruth, mNotT, mAndT, mOrT, mAndV, mOrV, mNotV, mIf, mNil, mCons, dats, derefs, deref, derefsL, derefL, mTup, mLst, frz, mFrz, mCallB, ML.c1, ML.c2, retV, getL, asD, asF, isB, isI, mSl, mPart, mNoP, mIs, mIs2, fIsi, fIsi2, ML.kindOf, tyB, mMut, mExt, mCall, mCallS, mBag, mBagT, mCallK, permL, mIt, mItD, mIRev, itD, gN, gT, gTL, gsN, gsC, fI, ML.isNon, dIs, dIsNot, dIsB, dIsNotB, dAdd_int, dSub, dLt, dLe, dGt, dGe, dIx, dLen, dLenS, dIxS, dTuple, dListZ, dList, dAppend, dNeg, atI, ixN, dEq_int, dNe_int, dEq_bool, dNe_bool, dMax_int, dMin_int, F_law_bag, m_law_bag, q1, q2, q3]
theorem cell_ok (ns : List Int) (k : Int) (h0 : 0 ≤ k) : ∃ c, F_law_cell_at [scrD ns, .int k] = some (.dat (.int c)) := by
  by_cases h : k < ns.length
  · have : k.toNat < ns.length := by omega
    refine ⟨ns[k.toNat], ?_⟩
    simp [fnP, fnB, start0, sSeq, sIf, sNext, sStop, sRet, sAsg, sAsgO, sAsgD, sAsgE, sPutD, sRetD, getK, sMove, sDrop, sSet, sSet2, sAug, sPar, sAsgT, sFor, mVar, mOwn, mC, mBin, mUn, mTest, mTruth, mNotT, mAndT, mOrT, mAndV, mOrV, mNotV, mIf, mNil, mCons, dats, derefs, deref, derefsL, derefL, mTup, mLst, frz, mFrz, mCallB, ML.c1, ML.c2, retV, getL, asD, asF, isB, isI, mSl, mPart, mNoP, mIs, mIs2, fIsi, fIsi2, ML.kindOf, tyB, mMut, mExt, mCall, mCallS, mBag, mBagT, mCallK, permL, mIt, mItD, mIRev, itD, gN, gT, gTL, gsN, gsC, fI, ML.isNon, dIs, dIsNot, dIsB, dIsNotB, dAdd_int, dSub, dLt, dLe, dGt, dGe, dIx, dLen, dLenS, dIxS, dTuple, dListZ, dList, dAppend, dNeg, atI, ixN, dEq_int, dNe_int, dEq_bool, dNe_bool, dMax_int, dMin_int, F_law_cell_at, m_law_cell_at, scrD, h, h0, this]
  · refine ⟨0, ?_⟩
    simp [fnP, fnB, start0, sSeq, sIf, sNext, sStop, sRet, sAsg, sAsgO, sAsgD, sAsgE, sPutD, sRetD, getK, sMove, sDrop, sSet, sSet2, sAug, sPar, sAsgT, sFor, mVar, mOwn, mC, mBin, mUn, mTest, mTruth, mNotT, mAndT, mOrT, mAndV, mOrV, mNotV, mIf, mNil, mCons, dats, derefs, deref, derefsL, derefL, mTup, mLst, frz, mFrz, mCallB, ML.c1, ML.c2, retV, getL, asD, asF, isB, isI, mSl, mPart, mNoP, mIs, mIs2, fIsi, fIsi2, ML.kindOf, tyB, mMut, mExt, mCall, mCallS, mBag, mBagT, mCallK, permL, mIt, mItD, mIRev, itD, gN, gT, gTL, gsN, gsC, fI, ML.isNon, dIs, dIsNot, dIsB, dIsNotB, dAdd_int, dSub, dLt, dLe, dGt, dGe, dIx, dLen, dLenS, dIxS, dTuple, dListZ, dList, dAppend, dNeg, atI, ixN, dEq_int, dNe_int, dEq_bool, dNe_bool, dMax_int, dMin_int, F_law_cell_at, m_law_cell_at, scrD, h]
theorem law_top (right : ∀ es, Bg 0 es → ∃ es', F_law_right es [] = some (.dat (.bool true), es')) (ns : List Int) : F_law [scrD ns] = some (.dat (.bool true)) := by
  have lc := fun n : Nat => fun hn : n < 50 => lc_map (tg := gN 1) (tt := mYes) (te := e_law_1) (vs := [1]) (fun _ => .bool true) (rgD 0 n) [some (scrD ns), none] [] (by rw [rgD_nat]; simp; omega) fun d hd => by
    rw [rgD_nat] at hd
    obtain ⟨k, hk, rfl⟩ := List.mem_map.mp hd
    have hk := List.mem_range.mp hk
    obtain ⟨c, hc⟩ := cell_ok ns k (by omega)
    obtain ⟨es, he, hb⟩ := bag_ok c k (by omega) (by omega)
    obtain ⟨es', hr⟩ := right es hb
    refine ⟨[some (scrD ns), some (.int k)], [some (scrD ns), some (.int k)], rfl, rfl, ?_, rfl⟩
    simp [fnP, fnB, start0, sSeq, sIf, sNext, sStop, sRet, sAsg, sAsgO, sAsgD, sAsgE, sPutD, sRetD, getK, sMove, sDrop, sSet, sSet2, sAug, sPar, sAsgT, sFor, mVar, mOwn, mC, mBin, mUn, mTest, mTruth, mNotT, mAndT, mOrT, mAndV, mOrV, mNotV, mIf, mNil, mCons, dats, derefs, deref, derefsL, derefL, mTup, mLst, frz, mFrz, mCallB, ML.c1, ML.c2, retV, getL, asD, asF, isB, isI, mSl, mPart, mNoP, mIs, mIs2, fIsi, fIsi2, ML.kindOf, tyB, mMut, mExt, mCall, mCallS, mBag, mBagT, mCallK, permL, mIt, mItD, mIRev, itD, gN, gT, gTL, gsN, gsC, fI, ML.isNon, dIs, dIsNot, dIsB, dIsNotB, dAdd_int, dSub, dLt, dLe, dGt, dGe, dIx, dLen, dLenS, dIxS, dTuple, dListZ, dList, dAppend, dNeg, atI, ixN, dEq_int, dNe_int, dEq_bool, dNe_bool, dMax_int, dMin_int, e_law_1, hc, he, hr]
  have all : ∀ n : Nat, dAll (.list ((rgD 0 n).map fun _ => PyData.bool true)) = some (.dat (.bool true)) := fun n => by
    show (boolsOf ((rgD 0 n).map fun d => PyData.bool ((fun _ => true) d))).map _ = _
    rw [boolsOf_all]
    simp
  have r4 := lc 4 (by decide)
  have a4 := all 4
  have g4 : rgB 0 4 = true := by decide
  simp at r4 a4
  simp [fnP, fnB, start0, sSeq, sIf, sNext, sStop, sRet, sAsg, sAsgO, sAsgD, sAsgE, sPutD, sRetD, getK, sMove, sDrop, sSet, sSet2, sAug, sPar, sAsgT, sFor, mVar, mOwn, mC, mBin, mUn, mTest, mTruth, mNotT, mAndT, mOrT, mAndV, mOrV, mNotV, mIf, mNil, mCons, dats, derefs, deref, derefsL, derefL, mTup, mLst, frz, mFrz, mCallB, ML.c1, ML.c2, retV, getL, asD, asF, isB, isI, mSl, mPart, mNoP, mIs, mIs2, fIsi, fIsi2, ML.kindOf, tyB, mMut, mExt, mCall, mCallS, mBag, mBagT, mCallK, permL, mIt, mItD, mIRev, itD, gN, gT, gTL, gsN, gsC, fI, ML.isNon, dIs, dIsNot, dIsB, dIsNotB, dAdd_int, dSub, dLt, dLe, dGt, dGe, dIx, dLen, dLenS, dIxS, dTuple, dListZ, dList, dAppend, dNeg, atI, ixN, dEq_int, dNe_int, dEq_bool, dNe_bool, dMax_int, dMin_int, F_law, m_law, mLc, mIR1, wipeM, restM, r4, a4, g4]
/-! a drawn plan -/
theorem plan_body {k : Nat} {es : List PyData} {size long kind s1 s2 i : Int} {xs : List Int} {d7 : Option PyData} (h : Bg k es) (hk : k + 2 < 100000) (hs : 2 ≤ size) (hs2 : size < 1000)
    (h1 : 0 ≤ s1 ∧ s1 < size - 1) (h2 : 0 ≤ s2 ∧ s2 < size - 1) (hx : ∀ x ∈ xs, 0 ≤ x ∧ x < size - 1) (hl : xs.length < 2000) :
    ∃ es' x, b_law_plan_1 [some (.list es), some (.int size), some (.int long), some (.int kind), some (.list [.int s1, .int s2]), some (.list (xs.map .int)), some (.int i), d7]
      = some (.nx [some (.list es'), some (.int size), some (.int long), some (.int kind), some (.list [.int s1, .int s2]), some (.list ((xs ++ [x]).map .int)), some (.int i), some (.int x)]) ∧ Bg (k + 2) es' ∧ 0 ≤ x ∧ x < size - 1 := by
  obtain ⟨r, es1, t1, r0, r1, b1⟩ := take_ok (n := size - 1) h (by omega) (by omega) (by omega)
  have m1 : ∀ y : Int, dMod (.int y) (.int (size - 1)) = some (.dat (.int (y % (size - 1)))) := fun y => dMod_pos (by omega)
  have m2 : ∀ y : Int, dMod (.int y) (.int 2) = some (.dat (.int (y % 2))) := fun y => dMod_pos (by omega)
  have p0 : ∀ y : Int, 0 ≤ y % (size - 1) := fun y => Int.emod_nonneg _ (by omega)
  have p1 : ∀ y : Int, y % (size - 1) < size - 1 := fun y => Int.emod_lt_of_pos _ (by omega)
  have app : ∀ y : Int, dAppend (xs.map .int) [.int y] = some (.none, (xs.map .int) ++ [.int y]) := fun y => by
    show (if (xs.map PyData.int).length < 100000 then _ else _) = _
    rw [List.length_map, if_pos (by omega)]
  have nl := dNe_lnil (xs := xs)
  by_cases k1 : kind = 1
  · by_cases ne : xs = []
    · refine ⟨es1, r, ?_, b1.mono (by omega), r0, r1⟩
      subst ne
      have nl : dNe (.list []) (.list []) = some (.dat (.bool false)) := rfl
      have app : dAppend [] [.int r] = some (.none, [.int r]) := rfl
      simp [fnP, fnB, start0, sSeq, sIf, sNext, sStop, sRet, sAsg, sAsgO, sAsgD, sAsgE, sPutD, sRetD, getK, sMove, sDrop, sSet, sSet2, sAug, sPar, sAsgT, sFor, mVar, mOwn, mC, mBin, mUn, mTest, mTruth, mNotT, mAndT, mOrT, mAndV, mOrV, mNotV, mIf, mNil, mCons, dats, derefs, deref, derefsL, derefL, mTup, mLst, frz, mFrz, mCallB, ML.c1, ML.c2, retV, getL, asD, asF, isB, isI, mSl, mPart, mNoP, mIs, mIs2, fIsi, fIsi2, ML.kindOf, tyB, mMut, mExt, mCall, mCallS, mBag, mBagT, mCallK, permL, mIt, mItD, mIRev, itD, gN, gT, gTL, gsN, gsC, fI, ML.isNon, dIs, dIsNot, dIsB, dIsNotB, dAdd_int, dSub, dLt, dLe, dGt, dGe, dIx, dLen, dLenS, dIxS, dTuple, dListZ, dList, dNeg, dEq_int, dNe_int, dEq_bool, dNe_bool, dMax_int, dMin_int, b_law_plan_1, t1, k1, nl, app]
    · obtain ⟨c, es2, t2, c0, c1, b2⟩ := take_ok (n := 4) b1 (by omega) (by omega) (by omega)
      have last := atI_last ne
      have at4 : ∃ y : Int, atI [PyData.int 1, .int (size - 2), .int 1, .int 0] c = some (.int y) := by
        have : c = 0 ∨ c = 1 ∨ c = 2 ∨ c = 3 := by omega
        rcases this with h | h | h | h <;> subst h <;> exact ⟨_, rfl⟩
      obtain ⟨y, at4⟩ := at4
      refine ⟨es2, (xs.getLast ne + y) % (size - 1), ?_, b2, p0 _, p1 _⟩
      simp [fnP, fnB, start0, sSeq, sIf, sNext, sStop, sRet, sAsg, sAsgO, sAsgD, sAsgE, sPutD, sRetD, getK, sMove, sDrop, sSet, sSet2, sAug, sPar, sAsgT, sFor, mVar, mOwn, mC, mBin, mUn, mTest, mTruth, mNotT, mAndT, mOrT, mAndV, mOrV, mNotV, mIf, mNil, mCons, dats, derefs, deref, derefsL, derefL, mTup, mLst, frz, mFrz, mCallB, ML.c1, ML.c2, retV, getL, asD, asF, isB, isI, mSl, mPart, mNoP, mIs, mIs2, fIsi, fIsi2, ML.kindOf, tyB, mMut, mExt, mCall, mCallS, mBag, mBagT, mCallK, permL, mIt, mItD, mIRev, itD, gN, gT, gTL, gsN, gsC, fI, ML.isNon, dIs, dIsNot, dIsB, dIsNotB, dAdd_int, dSub, dLt, dLe, dGt, dGe, dIx, dLen, dLenS, dIxS, dTuple, dListZ, dList, dNeg, dEq_int, dNe_int, dEq_bool, dNe_bool, dMax_int, dMin_int, b_law_plan_1, t1, t2, k1, nl, app, ne, last, at4, m1]
  · by_cases k2 : kind = 2
    · have at2 : ∃ y : Int, atI [PyData.int s1, .int s2] (r % 2) = some (.int y) ∧ 0 ≤ y ∧ y < size - 1 := by
        have : r % 2 = 0 ∨ r % 2 = 1 := by omega
        rcases this with h | h <;> rw [h]
        · exact ⟨s1, rfl, h1⟩
        · exact ⟨s2, rfl, h2⟩
      obtain ⟨y, at2, y0, y1⟩ := at2
      refine ⟨es1, y, ?_, b1.mono (by omega), y0, y1⟩
      simp [fnP, fnB, start0, sSeq, sIf, sNext, sStop, sRet, sAsg, sAsgO, sAsgD, sAsgE, sPutD, sRetD, getK, sMove, sDrop, sSet, sSet2, sAug, sPar, sAsgT, sFor, mVar, mOwn, mC, mBin, mUn, mTest, mTruth, mNotT, mAndT, mOrT, mAndV, mOrV, mNotV, mIf, mNil, mCons, dats, derefs, deref, derefsL, derefL, mTup, mLst, frz, mFrz, mCallB, ML.c1, ML.c2, retV, getL, asD, asF, isB, isI, mSl, mPart, mNoP, mIs, mIs2, fIsi, fIsi2, ML.kindOf, tyB, mMut, mExt, mCall, mCallS, mBag, mBagT, mCallK, permL, mIt, mItD, mIRev, itD, gN, gT, gTL, gsN, gsC, fI, ML.isNon, dIs, dIsNot, dIsB, dIsNotB, dAdd_int, dSub, dLt, dLe, dGt, dGe, dIx, dLen, dLenS, dIxS, dTuple, dListZ, dList, dNeg, dEq_int, dNe_int, dEq_bool, dNe_bool, dMax_int, dMin_int, b_law_plan_1, t1, k2, nl, app, m1, m2, at2]
    · by_cases k3 : kind = 3
      · refine ⟨es1, (size - 2 - i) % (size - 1), ?_, b1.mono (by omega), p0 _, p1 _⟩
        simp [fnP, fnB, start0, sSeq, sIf, sNext, sStop, sRet, sAsg, sAsgO, sAsgD, sAsgE, sPutD, sRetD, getK, sMove, sDrop, sSet, sSet2, sAug, sPar, sAsgT, sFor, mVar, mOwn, mC, mBin, mUn, mTest, mTruth, mNotT, mAndT, mOrT, mAndV, mOrV, mNotV, mIf, mNil, mCons, dats, derefs, deref, derefsL, derefL, mTup, mLst, frz, mFrz, mCallB, ML.c1, ML.c2, retV, getL, asD, asF, isB, isI, mSl, mPart, mNoP, mIs, mIs2, fIsi, fIsi2, ML.kindOf, tyB, mMut, mExt, mCall, mCallS, mBag, mBagT, mCallK, permL, mIt, mItD, mIRev, itD, gN, gT, gTL, gsN, gsC, fI, ML.isNon, dIs, dIsNot, dIsB, dIsNotB, dAdd_int, dSub, dLt, dLe, dGt, dGe, dIx, dLen, dLenS, dIxS, dTuple, dListZ, dList, dNeg, dEq_int, dNe_int, dEq_bool, dNe_bool, dMax_int, dMin_int, b_law_plan_1, t1, k3, nl, app, m1]
      · refine ⟨es1, r, ?_, b1.mono (by omega), r0, r1⟩
        simp [fnP, fnB, start0, sSeq, sIf, sNext, sStop, sRet, sAsg, sAsgO, sAsgD, sAsgE, sPutD, sRetD, getK, sMove, sDrop, sSet, sSet2, sAug, sPar, sAsgT, sFor, mVar, mOwn, mC, mBin, mUn, mTest, mTruth, mNotT, mAndT, mOrT, mAndV, mOrV, mNotV, mIf, mNil, mCons, dats, derefs, deref, derefsL, derefL, mTup, mLst, frz, mFrz, mCallB, ML.c1, ML.c2, retV, getL, asD, asF, isB, isI, mSl, mPart, mNoP, mIs, mIs2, fIsi, fIsi2, ML.kindOf, tyB, mMut, mExt, mCall, mCallS, mBag, mBagT, mCallK, permL, mIt, mItD, mIRev, itD, gN, gT, gTL, gsN, gsC, fI, ML.isNon, dIs, dIsNot, dIsB, dIsNotB, dAdd_int, dSub, dLt, dLe, dGt, dGe, dIx, dLen, dLenS, dIxS, dTuple, dListZ, dList, dNeg, dEq_int, dNe_int, dEq_bool, dNe_bool, dMax_int, dMin_int, b_law_plan_1, t1, k1, k2, k3, nl, app]
theorem plan_ok {k : Nat} {es : List PyData} {size : Int} {long : Nat} (h : Bg k es) (hs : 1 ≤ size) (hs2 : size < 1000) (hl : long ≤ 1000) (hk : k + 2 * long + 10 < 100000) :
    ∃ gs : List Int, ∃ es', F_law_plan es [.int size, .int long] = some (.dat (tupI gs), es') ∧ (∀ g ∈ gs, 0 ≤ g ∧ g < size - 1) ∧ gs.length ≤ long ∧ Bg (k + 2 * long + 3) es' := by
  by_cases h2 : size < 2
  · refine ⟨[], es, ?_, by simp, by simp, h.mono (by omega)⟩
    simp [fnP, fnB, start0, sSeq, sIf, sNext, sStop, sRet, sAsg, sAsgO, sAsgD, sAsgE, sPutD, sRetD, getK, sMove, sDrop, sSet, sSet2, sAug, sPar, sAsgT, sFor, mVar, mOwn, mC, mBin, mUn, mTest, mTruth, mNotT, mAndT, mOrT, mAndV, mOrV, mNotV, mIf, mNil, mCons, dats, derefs, deref, derefsL, derefL, mTup, mLst, frz, mFrz, mCallB, ML.c1, ML.c2, retV, getL, asD, asF, isB, isI, mSl, mPart, mNoP, mIs, mIs2, fIsi, fIsi2, ML.kindOf, tyB, mMut, mExt, mCall, mCallS, mBag, mBagT, mCallK, permL, mIt, mItD, mIRev, itD, gN, gT, gTL, gsN, gsC, fI, ML.isNon, dIs, dIsNot, dIsB, dIsNotB, dAdd_int, dSub, dLt, dLe, dGt, dGe, dIx, dLen, dLenS, dIxS, dTuple, dListZ, dList, dAppend, dNeg, atI, ixN, dEq_int, dNe_int, dEq_bool, dNe_bool, dMax_int, dMin_int, F_law_plan, m_law_plan, h2]
  · obtain ⟨kind, es1, t1, _, _, b1⟩ := take_ok (n := 5) h (by omega) (by omega) (by omega)
    obtain ⟨s1, es2, t2, s10, s11, b2⟩ := take_ok (n := size - 1) b1 (by omega) (by omega) (by omega)
    obtain ⟨s2, es3, t3, s20, s21, b3⟩ := take_ok (n := size - 1) b2 (by omega) (by omega) (by omega)
    have lp := loop_ok (tg := gN 6) (b := b_law_plan_1) (fun i μ => i ≤ long ∧ ∃ (es : List PyData) (xs : List Int) (d6 d7 : Option PyData), μ = [some (.list es), some (.int size), some (.int long), some (.int kind), some (.list [.int s1, .int s2]), some (.list (xs.map .int)), d6, d7] ∧ xs.length = i ∧ (∀ x ∈ xs, 0 ≤ x ∧ x < size - 1) ∧ Bg (k + 3 + 2 * i) es)
      (rgD 0 (long : Int)) [some (.list es3), some (.int size), some (.int long), some (.int kind), some (.list [.int s1, .int s2]), some (.list []), none, none] ⟨by omega, es3, [], none, none, rfl, rfl, by simp, b3⟩ fun i d μ hd ⟨hi, es, xs, d6, d7, e, hx, ha, hb⟩ => by
      subst e
      rw [rgD_nat, List.getElem?_map] at hd
      have hlt : i < long := by
        by_cases z : i < long
        · exact z
        · rw [List.getElem?_eq_none (by simp; omega)] at hd; cases hd
      rw [List.getElem?_range hlt] at hd
      cases hd
      obtain ⟨es', x, e, hb', x0, x1⟩ := plan_body (long := long) (kind := kind) (i := i) (d7 := d7) hb (by omega) (by omega) hs2 ⟨s10, s11⟩ ⟨s20, s21⟩ ha (by omega)
      refine ⟨_, _, rfl, .inl e, by omega, es', xs ++ [x], _, _, rfl, by simp [hx], fun y hy => ?_, hb'.mono (by omega)⟩
      rcases List.mem_append.mp hy with hy | hy
      · exact ha y hy
      · simp at hy; subst hy; exact ⟨x0, x1⟩
    obtain ⟨μ', e, hi, es4, xs, d6, d7, rfl, hx, ha, hb⟩ := lp
    have hlen : (rgD 0 (long : Int)).length = long := by rw [rgD_nat]; simp
    rw [hlen] at hx hb
    refine ⟨xs, es4, ?_, ha, by omega, hb.mono (by omega)⟩
    have rb : rgB 0 (long : Int) = true := rgB_nat (by omega) (by omega)
    simp [fnP, fnB, start0, sSeq, sIf, sNext, sStop, sRet, sAsg, sAsgO, sAsgD, sAsgE, sPutD, sRetD, getK, sMove, sDrop, sSet, sSet2, sAug, sPar, sAsgT, sFor, mVar, mOwn, mC, mBin, mUn, mTest, mTruth, mNotT, mAndT, mOrT, mAndV, mOrV, mNotV, mIf, mNil, mCons, dats, derefs, deref, derefsL, derefL, mTup, mLst, frz, mFrz, mCallB, ML.c1, ML.c2, retV, getL, asD, asF, isB, isI, mSl, mPart, mNoP, mIs, mIs2, fIsi, fIsi2, ML.kindOf, tyB, mMut, mExt, mCall, mCallS, mBag, mBagT, mCallK, permL, mIt, mItD, mIRev, itD, gN, gT, gTL, gsN, gsC, fI, ML.isNon, dIs, dIsNot, dIsB, dIsNotB, dAdd_int, dSub, dLt, dLe, dGt, dGe, dIx, dLen, dLenS, dIxS, dTuple, dListZ, dList, dAppend, dNeg, atI, ixN, dEq_int, dNe_int, dEq_bool, dNe_bool, dMax_int, dMin_int, F_law_plan, m_law_plan, h2, t1, t2, t3, mIR1, rb, e]
/-! rows: two neighbours exchanged -/
def swp (xs : List Int) (g : Nat) : List Int := xs.take g ++ [xs.getD (g + 1) 0, xs.getD g 0] ++ xs.drop (g + 2)
theorem swp_len {xs : List Int} {g : Nat} (h : g + 1 < xs.length) : (swp xs g).length = xs.length := by
  unfold swp
  simp
  omega
theorem split2 {xs : List Int} {g : Nat} (h : g + 1 < xs.length) : ∃ p a b s, xs = p ++ a :: b :: s ∧ p.length = g := by
  refine ⟨xs.take g, xs[g], xs[g + 1], xs.drop (g + 2), ?_, by rw [List.length_take]; omega⟩
  rw [List.getElem_cons_drop, List.getElem_cons_drop, List.take_append_drop]
theorem swp_split (p : List Int) (a b : Int) (s : List Int) : swp (p ++ a :: b :: s) p.length = p ++ b :: a :: s := by
  unfold swp
  simp [List.getD, List.drop_append]
/-- the slices that a def takes, put together -/
theorem swp_data {xs : List Int} {g : Int} (h0 : 0 ≤ g) (h1 : g + 1 < xs.length) (hl : xs.length ≤ 1000) :
    dSl (tupI xs) none (some g) = some (.dat (tupI (xs.take g.toNat))) ∧ dSl (tupI xs) (some (g + 2)) none = some (.dat (tupI (xs.drop (g.toNat + 2)))) ∧
    atI (xs.map PyData.int) g = some (.int (xs.getD g.toNat 0)) ∧ atI (xs.map PyData.int) (g + 1) = some (.int (xs.getD (g.toNat + 1) 0)) ∧
    dAdd (tupI (xs.take g.toNat)) (.tuple [.int (xs.getD (g.toNat + 1) 0), .int (xs.getD g.toNat 0)]) = some (.dat (tupI (xs.take g.toNat ++ [xs.getD (g.toNat + 1) 0, xs.getD g.toNat 0]))) ∧
    dAdd (tupI (xs.take g.toNat ++ [xs.getD (g.toNat + 1) 0, xs.getD g.toNat 0])) (tupI (xs.drop (g.toNat + 2))) = some (.dat (tupI (swp xs g.toNat))) := by
  refine ⟨?_, ?_, ?_, ?_, ?_, ?_⟩
  · rw [dSl_hi h0, ← List.map_take]
  · rw [dSl_lo (by omega), ← List.map_drop, show (g + 2).toNat = g.toNat + 2 by omega]
  · rw [atI_int h0 (by omega)]
    simp [List.getD, List.getElem?_eq_getElem (show g.toNat < xs.length by omega)]
  · rw [atI_int (by omega) (by omega)]
    simp [List.getD, List.getElem?_eq_getElem (show g.toNat + 1 < xs.length by omega), show (g + 1).toNat = g.toNat + 1 by omega]
  · rw [dAdd_tup (by simp; omega)]
    simp
  · rw [dAdd_tup (by simp; omega)]
    simp [swp]
def car (xs : List Int) (g : Nat) : List Int := if xs.getD g 0 < xs.getD (g + 1) 0 then swp xs g else xs
theorem car_len {xs : List Int} {g : Nat} (h : g + 1 < xs.length) : (car xs g).length = xs.length := by
  unfold car
  split
  · exact swp_len h
  · rfl
def iota (n : Nat) : List Int := (List.range n).map fun (i : Nat) => (i : Int)
theorem rgD_iota (n : Nat) : rgD 0 (n : Int) = (iota n).map .int := by
  rw [rgD_nat]
  simp [iota]
theorem iota_len (n : Nat) : (iota n).length = n := by simp [iota]
def led (gs : List Int) (xs : List Int) : List Int := gs.foldl (fun x g => car x g.toNat) xs
theorem led_len {gs xs : List Int} (h : ∀ g ∈ gs, 0 ≤ g ∧ g < (xs.length : Int) - 1) : (led gs xs).length = xs.length := by
  induction gs generalizing xs with
  | nil => rfl
  | cons g gs ih =>
    have hg := h g (by simp)
    have e := car_len (xs := xs) (g := g.toNat) (by omega)
    show (led gs (car xs g.toNat)).length = _
    rw [ih (by rw [e]; exact fun g' hg' => h g' (by simp [hg'])), e]
/-! whole numbers -/
theorem whole_ok (x y : Int) : F_is_whole_rows [.int x, .int y] = some (.dat (.bool (decide (y ≤ x)))) := by
  simp [fnP, fnB, start0, sSeq, sIf, sNext, sStop, sRet, sAsg, sAsgO, sAsgD, sAsgE, sPutD, sRetD, getK, sMove, sDrop, sSet, sSet2, sAug, sPar, sAsgT, sFor, mVar, mOwn, mC, mBin, mUn, mTest, mTruth, mNotT, mAndT, mOrT, mAndV, mOrV, mNotV, mIf, mNil, mCons, dats, derefs, deref, derefsL, derefL, mTup, mLst, frz, mFrz, mCallB, ML.c1, ML.c2, retV, getL, asD, asF, isB, isI, mSl, mPart, mNoP, mIs, mIs2, fIsi, fIsi2, ML.kindOf, tyB, mMut, mExt, mCall, mCallS, mBag, mBagT, mCallK, permL, mIt, mItD, mIRev, itD, gN, gT, gTL, gsN, gsC, fI, ML.isNon, dIs, dIsNot, dIsB, dIsNotB, dAdd_int, dSub, dLt, dLe, dGt, dGe, dIx, dLen, dLenS, dIxS, dTuple, dListZ, dList, dAppend, dNeg, atI, ixN, dEq_int, dNe_int, dEq_bool, dNe_bool, dMax_int, dMin_int, F_is_whole_rows, m_is_whole_rows, PyData.hasDict]
theorem nd_ints (xs : List Int) : PyData.hasDictAll (xs.map PyData.int) = false := by
  induction xs with
  | nil => rfl
  | cons x xs ih => show (PyData.hasDict (.int x) || PyData.hasDictAll (xs.map .int)) = false; rw [ih]; rfl
/-! the package: rows and books judged -/
theorem need_many_ok {n : Int} (h : 1 ≤ n) (h2 : n ≤ 9) : F_need_many [.int n] = some (.dat .none) := by
  have a : decide ((1 : Int) ≤ n) = true := decide_eq_true h
  have b : decide ((9 : Int) < n) = false := decide_eq_false (by omega)
  simp [fnP, fnB, start0, sSeq, sIf, sNext, sStop, sRet, sAsg, sAsgO, sAsgD, sAsgE, sPutD, sRetD, getK, sMove, sDrop, sSet, sSet2, sAug, sPar, sAsgT, sFor, mVar, mOwn, mC, mBin, mUn, mTest, mTruth, mNotT, mAndT, mOrT, mAndV, mOrV, mNotV, mIf, mNil, mCons, dats, derefs, deref, derefsL, derefL, mTup, mLst, frz, mFrz, mCallB, ML.c1, ML.c2, retV, getL, asD, asF, isB, isI, mSl, mPart, mNoP, mIs, mIs2, fIsi, fIsi2, ML.kindOf, tyB, mMut, mExt, mCall, mCallS, mBag, mBagT, mCallK, permL, mIt, mItD, mIRev, itD, gN, gT, gTL, gsN, gsC, fI, ML.isNon, dIs, dIsNot, dIsB, dIsNotB, dAdd_int, dSub, dLt, dLe, dGt, dGe, dIx, dLen, dLenS, dIxS, dTuple, dListZ, dList, dAppend, dNeg, atI, ixN, dEq_int, dNe_int, dEq_bool, dNe_bool, dMax_int, dMin_int, F_need_many, m_need_many, whole_ok, a, b, h, h2]
theorem gap_ok {g n : Int} (h : 0 ≤ g) (h2 : g < n - 1) : F_is_gap [.int g, .int n] = some (.dat (.bool true)) := by
  simp [fnP, fnB, start0, sSeq, sIf, sNext, sStop, sRet, sAsg, sAsgO, sAsgD, sAsgE, sPutD, sRetD, getK, sMove, sDrop, sSet, sSet2, sAug, sPar, sAsgT, sFor, mVar, mOwn, mC, mBin, mUn, mTest, mTruth, mNotT, mAndT, mOrT, mAndV, mOrV, mNotV, mIf, mNil, mCons, dats, derefs, deref, derefsL, derefL, mTup, mLst, frz, mFrz, mCallB, ML.c1, ML.c2, retV, getL, asD, asF, isB, isI, mSl, mPart, mNoP, mIs, mIs2, fIsi, fIsi2, ML.kindOf, tyB, mMut, mExt, mCall, mCallS, mBag, mBagT, mCallK, permL, mIt, mItD, mIRev, itD, gN, gT, gTL, gsN, gsC, fI, ML.isNon, dIs, dIsNot, dIsB, dIsNotB, dAdd_int, dSub, dLt, dLe, dGt, dGe, dIx, dLen, dLenS, dIxS, dTuple, dListZ, dList, dAppend, dNeg, atI, ixN, dEq_int, dNe_int, dEq_bool, dNe_bool, dMax_int, dMin_int, F_is_gap, m_is_gap, whole_ok, h, h2]
theorem is_book_ok {gs : List Int} {n : Int} (h1 : 1 ≤ n) (h2 : n ≤ 9) (hg : ∀ g ∈ gs, 0 ≤ g ∧ g < n - 1) (hl : gs.length ≤ 1000) : F_is_book [tupI gs, .int n] = some (.dat (.bool true)) := by
  have lc := lc_map (tg := gN 2) (tt := mYes) (te := e_is_book_1) (vs := [2]) (fun _ => .bool true) (gs.map .int) [some (tupI gs), some (.int n), none] [] (by simp; omega) fun d hd => by
    obtain ⟨g, hg', rfl⟩ := List.mem_map.mp hd
    obtain ⟨g0, g1⟩ := hg g hg'
    refine ⟨[some (tupI gs), some (.int n), some (.int g)], [some (tupI gs), some (.int n), some (.int g)], rfl, rfl, ?_, rfl⟩
    simp [fnP, fnB, start0, sSeq, sIf, sNext, sStop, sRet, sAsg, sAsgO, sAsgD, sAsgE, sPutD, sRetD, getK, sMove, sDrop, sSet, sSet2, sAug, sPar, sAsgT, sFor, mVar, mOwn, mC, mBin, mUn, mTest, mTruth, mNotT, mAndT, mOrT, mAndV, mOrV, mNotV, mIf, mNil, mCons, dats, derefs, deref, derefsL, derefL, mTup, mLst, frz, mFrz, mCallB, ML.c1, ML.c2, retV, getL, asD, asF, isB, isI, mSl, mPart, mNoP, mIs, mIs2, fIsi, fIsi2, ML.kindOf, tyB, mMut, mExt, mCall, mCallS, mBag, mBagT, mCallK, permL, mIt, mItD, mIRev, itD, gN, gT, gTL, gsN, gsC, fI, ML.isNon, dIs, dIsNot, dIsB, dIsNotB, dAdd_int, dSub, dLt, dLe, dGt, dGe, dIx, dLen, dLenS, dIxS, dTuple, dListZ, dList, dAppend, dNeg, atI, ixN, dEq_int, dNe_int, dEq_bool, dNe_bool, dMax_int, dMin_int, e_is_book_1, gap_ok g0 g1]
  have all : dAll (.list ((gs.map PyData.int).map fun _ => PyData.bool true)) = some (.dat (.bool true)) := by
    show (boolsOf ((gs.map PyData.int).map fun d => PyData.bool ((fun _ => true) d))).map _ = _
    rw [boolsOf_all]
    simp
  have nd : PyData.hasDictAll (gs.map PyData.int) = false := nd_ints gs
  simp only [List.nil_append] at lc
  generalize hD : (gs.map PyData.int).map (fun _ => PyData.bool true) = D at lc all
  simp [fnP, fnB, start0, sSeq, sIf, sNext, sStop, sRet, sAsg, sAsgO, sAsgD, sAsgE, sPutD, sRetD, getK, sMove, sDrop, sSet, sSet2, sAug, sPar, sAsgT, sFor, mVar, mOwn, mC, mBin, mUn, mTest, mTruth, mNotT, mAndT, mOrT, mAndV, mOrV, mNotV, mIf, mNil, mCons, dats, derefs, deref, derefsL, derefL, mTup, mLst, frz, mFrz, mCallB, ML.c1, ML.c2, retV, getL, asD, asF, isB, isI, mSl, mPart, mNoP, mIs, mIs2, fIsi, fIsi2, ML.kindOf, tyB, mMut, mExt, mCall, mCallS, mBag, mBagT, mCallK, permL, mIt, mItD, mIRev, itD, gN, gT, gTL, gsN, gsC, fI, ML.isNon, dIs, dIsNot, dIsB, dIsNotB, dAdd_int, dSub, dLt, dLe, dGt, dGe, dIx, dLen, dLenS, dIxS, dTuple, dListZ, dList, dAppend, dNeg, atI, ixN, dEq_int, dNe_int, dEq_bool, dNe_bool, dMax_int, dMin_int, F_is_book, m_is_book, need_many_ok h1 h2, PyData.hasDict, nd, mLc, wipeM, restM, lc, all]
theorem need_book_ok {gs : List Int} {n : Int} (h1 : 1 ≤ n) (h2 : n ≤ 9) (hg : ∀ g ∈ gs, 0 ≤ g ∧ g < n - 1) (hl : gs.length ≤ 1000) : F_need_book [tupI gs, .int n] = some (.dat .none) := by
  simp [fnP, fnB, start0, sSeq, sIf, sNext, sStop, sRet, sAsg, sAsgO, sAsgD, sAsgE, sPutD, sRetD, getK, sMove, sDrop, sSet, sSet2, sAug, sPar, sAsgT, sFor, mVar, mOwn, mC, mBin, mUn, mTest, mTruth, mNotT, mAndT, mOrT, mAndV, mOrV, mNotV, mIf, mNil, mCons, dats, derefs, deref, derefsL, derefL, mTup, mLst, frz, mFrz, mCallB, ML.c1, ML.c2, retV, getL, asD, asF, isB, isI, mSl, mPart, mNoP, mIs, mIs2, fIsi, fIsi2, ML.kindOf, tyB, mMut, mExt, mCall, mCallS, mBag, mBagT, mCallK, permL, mIt, mItD, mIRev, itD, gN, gT, gTL, gsN, gsC, fI, ML.isNon, dIs, dIsNot, dIsB, dIsNotB, dAdd_int, dSub, dLt, dLe, dGt, dGe, dIx, dLen, dLenS, dIxS, dTuple, dListZ, dList, dAppend, dNeg, atI, ixN, dEq_int, dNe_int, dEq_bool, dNe_bool, dMax_int, dMin_int, F_need_book, m_need_book, is_book_ok h1 h2 hg hl]
/-! corners -/
def cc (xs : List Int) (i : Nat) (j : Int) : Nat := ((xs.take i).filter fun v => decide (j ≤ v)).length
def ind (a j : Int) : Nat := if j ≤ a then 1 else 0
theorem cc_app (p : List Int) (s : List Int) (i : Nat) (j : Int) (h : i ≤ p.length) : cc (p ++ s) i j = cc p i j := by
  unfold cc
  rw [List.take_append_of_le_length h]
theorem cc_at (p s : List Int) (j : Int) : cc (p ++ s) p.length j = cc p p.length j := cc_app p s _ j (Nat.le_refl _)
theorem cc_one (p : List Int) (a : Int) (s : List Int) (j : Int) : cc (p ++ a :: s) (p.length + 1) j = cc p p.length j + ind a j := by
  unfold cc ind
  rw [List.take_append, List.take_of_length_le (by omega), List.take_of_length_le (Nat.le_refl _)]
  rw [show p.length + 1 - p.length = 1 by omega]
  simp only [List.take_succ_cons, List.take_zero, List.filter_append, List.length_append]
  by_cases h : j ≤ a <;> simp [h]
theorem cc_two (p : List Int) (a b : Int) (s : List Int) (j : Int) (k : Nat) : cc (p ++ a :: b :: s) (p.length + 2 + k) j = cc p p.length j + ind a j + ind b j + cc s k j := by
  unfold cc ind
  rw [List.take_append, List.take_of_length_le (by omega), List.take_of_length_le (Nat.le_refl _)]
  rw [show p.length + 2 + k - p.length = k + 1 + 1 by omega]
  simp only [List.take_succ_cons, List.filter_append, List.length_append, List.filter_cons]
  by_cases h : j ≤ a <;> by_cases h2 : j ≤ b <;> simp [h, h2] <;> omega
theorem ind_le (a j : Int) : ind a j ≤ 1 := by unfold ind; split <;> omega
theorem ind_mono {a b : Int} (h : a ≤ b) (j : Int) : ind a j ≤ ind b j := by unfold ind; split <;> split <;> omega
def Dom (x y : List Int) : Prop := ∀ i j, cc x i j ≤ cc y i j
theorem Dom.refl (x : List Int) : Dom x x := fun _ _ => Nat.le_refl _
/-- whatever happens at a gap, the row that is carried keeps ahead -/
theorem dom_step {x y : List Int} {g : Nat} (hx : g + 1 < x.length) (hy : g + 1 < y.length) (h : Dom x y) : Dom x (car y g) ∧ Dom (swp x g) (car y g) := by
  obtain ⟨p, a, b, s, rfl, hp⟩ := split2 hx
  obtain ⟨q, c, d, t, rfl, hq⟩ := split2 hy
  have sx : swp (p ++ a :: b :: s) g = p ++ b :: a :: s := by rw [← hp]; exact swp_split p a b s
  have sy : swp (q ++ c :: d :: t) g = q ++ d :: c :: t := by rw [← hq]; exact swp_split q c d t
  have gy : (q ++ c :: d :: t).getD g 0 = c ∧ (q ++ c :: d :: t).getD (g + 1) 0 = d := by
    subst hq
    constructor <;> simp [List.getD]
  have cy : ∃ e f, car (q ++ c :: d :: t) g = q ++ e :: f :: t ∧ ((e = c ∧ f = d ∧ d ≤ c) ∨ (e = d ∧ f = c ∧ c ≤ d)) := by
    unfold car
    rw [gy.1, gy.2]
    by_cases z : c < d
    · rw [if_pos z, sy]; exact ⟨d, c, rfl, .inr ⟨rfl, rfl, by omega⟩⟩
    · rw [if_neg z]; exact ⟨c, d, rfl, .inl ⟨rfl, rfl, by omega⟩⟩
  obtain ⟨e, f, ce, hef⟩ := cy
  rw [ce, sx]
  have hpq : p.length = q.length := by omega
  have key : ∀ (u v : Int), ((u = a ∧ v = b) ∨ (u = b ∧ v = a)) → Dom (p ++ u :: v :: s) (q ++ e :: f :: t) := fun u v huv i j => by
    have hg := h p.length j
    have hg1 := h (p.length + 1) j
    rw [cc_at, show p.length = q.length from hpq, cc_at] at hg
    rw [cc_one, show p.length + 1 = q.length + 1 by omega, cc_one] at hg1
    have hg2 := h (p.length + 2 + 0) j
    rw [cc_two, show p.length + 2 + 0 = q.length + 2 + 0 by omega, cc_two] at hg2
    have z1 : ∀ (l : List Int), cc l 0 j = 0 := fun l => by simp [cc]
    rw [z1, z1] at hg2
    rw [hpq] at hg1 hg2
    have ia := ind_le a j
    have ib := ind_le b j
    have ic := ind_le c j
    have id := ind_le d j
    have me : (ind e j = ind c j ∧ ind f j = ind d j ∧ ind d j ≤ ind c j) ∨ (ind e j = ind d j ∧ ind f j = ind c j ∧ ind c j ≤ ind d j) := by
      rcases hef with ⟨rfl, rfl, z⟩ | ⟨rfl, rfl, z⟩
      · exact .inl ⟨rfl, rfl, ind_mono z j⟩
      · exact .inr ⟨rfl, rfl, ind_mono z j⟩
    have mu : (ind u j = ind a j ∧ ind v j = ind b j) ∨ (ind u j = ind b j ∧ ind v j = ind a j) := by
      rcases huv with ⟨rfl, rfl⟩ | ⟨rfl, rfl⟩
      · exact .inl ⟨rfl, rfl⟩
      · exact .inr ⟨rfl, rfl⟩
    by_cases h1 : i ≤ p.length
    · rw [cc_app _ _ _ _ h1, cc_app _ _ _ _ (by omega)]
      have := h i j
      rw [cc_app _ _ _ _ h1, cc_app _ _ _ _ (by omega)] at this
      exact this
    · by_cases h2 : i = p.length + 1
      · subst h2
        rw [cc_one, show p.length + 1 = q.length + 1 by omega, cc_one, hpq]
        omega
      · obtain ⟨k, rfl⟩ : ∃ k, i = p.length + 2 + k := ⟨i - (p.length + 2), by omega⟩
        have := h (p.length + 2 + k) j
        rw [cc_two, show p.length + 2 + k = q.length + 2 + k by omega, cc_two] at this ⊢
        rw [hpq] at this ⊢
        omega
  exact ⟨key a b (.inl ⟨rfl, rfl⟩), key b a (.inr ⟨rfl, rfl⟩)⟩
/-! a loop that may end early by a return, told by its state -/
theorem loop_ret {tg : PyData → Mu → Option Mu} {b : MS} (I : Nat → Mu → Prop) (R : MV → Mu → Prop) : ∀ (ds : List PyData) (k : Nat) (μ : Mu) (h0 : I k μ)
    (hs : ∀ (j : Nat) (d : PyData) (μ : Mu), ds[j]? = some d → I (k + j) μ → ∃ μ1, tg d μ = some μ1 ∧ ((∃ μ2, b μ1 = some (.nx μ2) ∧ I (k + j + 1) μ2) ∨ (∃ v μ2, b μ1 = some (.rt v μ2) ∧ R v μ2))),
    (∃ μ', loopM tg b ds μ = some (.nx μ') ∧ I (k + ds.length) μ') ∨ (∃ v μ', loopM tg b ds μ = some (.rt v μ') ∧ R v μ') := by
  intro ds
  induction ds with
  | nil => exact fun k μ h0 _ => .inl ⟨μ, rfl, h0⟩
  | cons d ds ih =>
    intro k μ h0 hs
    obtain ⟨μ1, e1, h⟩ := hs 0 d μ rfl h0
    rcases h with ⟨μ2, e2, h2⟩ | ⟨v, μ2, e2, hr⟩
    · have st : loopM tg b (d :: ds) μ = loopM tg b ds μ2 := by
        show (tg d μ).bind (fun μ1 => (b μ1).bind fun o => match o with | .nx μ2 => loopM tg b ds μ2 | .ct μ2 => loopM tg b ds μ2 | .bk μ2 => some (.nx μ2) | .rt x μ2 => some (.rt x μ2)) = _
        rw [e1, Option.bind_some, e2]; rfl
      rw [st, List.length_cons, show k + (ds.length + 1) = k + 1 + ds.length by omega]
      refine ih (k + 1) μ2 h2 fun j e μ he hi => ?_
      have := hs (j + 1) e μ (by rw [List.getElem?_cons_succ]; exact he) (by rw [show k + (j + 1) = k + 1 + j by omega]; exact hi)
      rw [show k + (j + 1) + 1 = k + 1 + j + 1 by omega] at this
      exact this
    · refine .inr ⟨v, μ2, ?_, hr⟩
      show (tg d μ).bind (fun μ1 => (b μ1).bind fun o => match o with | .nx μ2 => loopM tg b ds μ2 | .ct μ2 => loopM tg b ds μ2 | .bk μ2 => some (.nx μ2) | .rt x μ2 => some (.rt x μ2)) = _
      rw [e1, Option.bind_some, e2]; rfl
/-! steps of a book, plain -/
def wFar : Str := Str.ofString "far"
def wOnce : Str := Str.ofString "once"
def wThree : Str := Str.ofString "three"
def wdL : List Int → Option Str
  | a :: b :: r => if 1 < (a - b).natAbs then some wFar else if a = b then some wOnce else match r with
    | c :: _ => if a = c then some wThree else none
    | [] => none
  | _ => none
theorem wd_two (a b : Int) (r : List Int) : wdL (a :: b :: r) = if 1 < (a - b).natAbs then some wFar else if a = b then some wOnce else match r with
    | c :: _ => if a = c then some wThree else none
    | [] => none := rfl
/-- what a step makes of the rest of a book -/
inductive StepL : Str → List Int → List Int → Prop
  | far {a b : Int} {r : List Int} : 1 < (a - b).natAbs → StepL wFar (a :: b :: r) (b :: a :: r)
  | once {a : Int} {r : List Int} : StepL wOnce (a :: a :: r) (a :: r)
  | three {a b : Int} {r : List Int} : ¬ 1 < (a - b).natAbs → a ≠ b → StepL wThree (a :: b :: a :: r) (b :: a :: b :: r)
theorem wd_step {l : List Int} {w : Str} (h : wdL l = some w) : ∃ l', StepL w l l' := by
  match l with
  | [] => cases h
  | [a] => cases h
  | a :: b :: r =>
    rw [wd_two] at h
    by_cases h1 : 1 < (a - b).natAbs
    · rw [if_pos h1] at h
      cases h
      exact ⟨_, .far h1⟩
    · rw [if_neg h1] at h
      by_cases h2 : a = b
      · rw [if_pos h2] at h
        cases h
        subst h2
        exact ⟨_, .once⟩
      · rw [if_neg h2] at h
        match r with
        | [] => cases h
        | c :: r =>
          by_cases h3 : a = c
          · subst h3
            have h : (if a = a then some wThree else none) = some w := h
            rw [if_pos rfl] at h
            cases h
            exact ⟨_, .three h1 h2⟩
          · have h : (if a = c then some wThree else none) = some w := h
            rw [if_neg h3] at h
            cases h
theorem split_at {x : List Int} {g : Nat} (h : g + 1 < x.length) : ∃ P u v S, x = P ++ u :: v :: S ∧ P.length = g := by
  obtain ⟨p, a, b, s, e, l⟩ := split2 h
  exact ⟨p, a, b, s, e, l⟩
theorem split3 {x : List Int} {g : Nat} (h : g + 2 < x.length) : ∃ P u v w S, x = P ++ u :: v :: w :: S ∧ P.length = g := by
  obtain ⟨P, u, v, S, rfl, rfl⟩ := split_at (show g + 1 < x.length by omega)
  cases S with
  | nil => simp at h
  | cons w S => exact ⟨P, u, v, w, S, rfl, rfl⟩
theorem swp_comm {x : List Int} {g k : Nat} (h : g + 1 < k) (hk : k + 1 < x.length) : swp (swp x g) k = swp (swp x k) g := by
  obtain ⟨P, u, v, S, rfl, rfl⟩ := split_at (show g + 1 < x.length by omega)
  have hS : k - P.length - 2 + 1 < S.length := by simp at hk; omega
  obtain ⟨M, s, t, R, rfl, lM⟩ := split_at hS
  have hkl : k = P.length + 2 + M.length := by omega
  have c1 : ∀ u v : Int, swp (P ++ u :: v :: (M ++ s :: t :: R)) k = P ++ u :: v :: (M ++ t :: s :: R) := fun u v => by
    have := swp_split (P ++ u :: v :: M) s t R
    have e : (P ++ u :: v :: M).length = k := by simp; omega
    rw [e] at this
    simpa using this
  rw [swp_split, c1, c1, swp_split]
theorem step_gaps {w : Str} {l l' : List Int} {P : Int → Prop} (h : StepL w l l') (hg : ∀ g ∈ l, P g) : ∀ g ∈ l', P g := by
  cases h with
  | far _ => intro g hgm; exact hg g (by simp at hgm ⊢; rcases hgm with q | q | q <;> simp [q])
  | once => intro g hgm; exact hg g (by simp at hgm ⊢; exact hgm)
  | three _ _ => intro g hgm; exact hg g (by simp at hgm ⊢; rcases hgm with q | q | q | q <;> simp [q])
theorem step_len {w : Str} {l l' : List Int} (h : StepL w l l') : (w = wOnce ∧ l.length = l'.length + 1) ∨ (w ≠ wOnce ∧ l.length = l'.length) := by
  cases h with
  | far _ => exact .inr ⟨by decide, rfl⟩
  | once => exact .inl ⟨rfl, rfl⟩
  | three _ _ => exact .inr ⟨by decide, rfl⟩
theorem step_back {w : Str} {l l' : List Int} (h : StepL w l l') (hw : w ≠ wOnce) : StepL w l' l := by
  cases h with
  | far h1 => exact .far (by omega)
  | once => exact absurd rfl hw
  | three h1 h2 => exact .three (by omega) (fun e => h2 e.symm)
theorem step_wd {w : Str} {l l' : List Int} (h : StepL w l l') : wdL l = some w := by
  cases h with
  | far h1 => rw [wd_two, if_pos h1]
  | once => rw [wd_two, if_neg (by simp), if_pos rfl]
  | @three a b r h1 h2 =>
    rw [wd_two, if_neg h1, if_neg h2]
    show (if a = a then some wThree else none) = _
    rw [if_pos rfl]
theorem step_fun {w w' : Str} {l l1 l2 : List Int} (h : StepL w l l1) (h' : StepL w' l l2) : l1 = l2 := by
  cases h with
  | far h1 =>
    cases h' with
    | far _ => rfl
    | once => omega
    | three h2 _ => exact absurd h1 h2
  | once =>
    cases h' with
    | far h1 => omega
    | once => rfl
    | three _ h2 => exact absurd rfl h2
  | three h1 h2 =>
    cases h' with
    | far h3 => exact absurd h3 h1
    | once => exact absurd rfl h2
    | three _ _ => rfl

/-! steps, told -/
def wD : Option Str → PyData
  | some s => .str s
  | none => .none
theorem dAbs_i (i : Int) : dAbs (.int i) = some (.dat (.int (i.natAbs : Int))) := by
  show some (MV.dat (.int (if i < 0 then -i else i))) = _
  congr 3
  split <;> omega
theorem word_ok {gs : List Int} {p : Nat} (hp : p < gs.length) (hl : gs.length ≤ 1000) : F_word_at [tupI gs, .int p] = some (.dat (wD (wdL (gs.drop p)))) := by
  have sl : dSl (tupI gs) (some (p : Int)) (some ((p : Int) + 3)) = some (.dat (.tuple (((gs.drop p).take 3).map .int))) := by
    rw [dSl_both (by omega) (by rw [List.length_map]; omega) (by omega), Int.toNat_natCast, show ((p : Int) + 3 - p).toNat = 3 by omega, ← List.map_drop, ← List.map_take]
  have ne : gs.drop p ≠ [] := fun e => by
    have := congrArg List.length e
    rw [List.length_drop] at this
    simp at this
    omega
  generalize gs.drop p = l at sl ne ⊢
  generalize tupI gs = GG at sl ⊢
  match l with
  | [] => exact absurd rfl ne
  | [a] =>
    have sl : dSl GG (some (p : Int)) (some ((p : Int) + 3)) = some (.dat (.tuple [.int a])) := sl
    show _ = some (MV.dat .none)
    simp [fnP, fnB, start0, sSeq, sIf, sNext, sStop, sRet, sAsg, sAsgO, sAsgD, sAsgE, sPutD, sRetD, getK, sMove, sDrop, sSet, sSet2, sAug, sPar, sAsgT, sFor, mVar, mOwn, mC, mBin, mUn, mTest, mTruth, mNotT, mAndT, mOrT, mAndV, mOrV, mNotV, mIf, mNil, mCons, dats, derefs, deref, derefsL, derefL, mTup, mLst, frz, mFrz, mCallB, ML.c1, ML.c2, retV, getL, asD, asF, isB, isI, mSl, mPart, mNoP, mIs, mIs2, fIsi, fIsi2, ML.kindOf, tyB, mMut, mExt, mCall, mCallS, mBag, mBagT, mCallK, permL, mIt, mItD, mIRev, itD, gN, gT, gTL, gsN, gsC, fI, ML.isNon, dIs, dIsNot, dIsB, dIsNotB, dAdd_int, dSub, dLt, dLe, dGt, dGe, dIx, dLen, dLenS, dIxS, dTuple, dListZ, dList, dNeg, dEq_bool, dNe_bool, dMax_int, dMin_int, F_word_at, m_word_at, sl, dEq_int]
  | [a, b] =>
    have sl : dSl GG (some (p : Int)) (some ((p : Int) + 3)) = some (.dat (.tuple [.int a, .int b])) := sl
    have a0 : atI [PyData.int a, .int b] 0 = some (.int a) := rfl
    have a1 : atI [PyData.int a, .int b] 1 = some (.int b) := rfl
    rw [wd_two]
    by_cases h1 : 1 < (a - b).natAbs
    · rw [if_pos h1]
      have h1' : (1 : Int) < ((a - b).natAbs : Int) := by omega
      simp [fnP, fnB, start0, sSeq, sIf, sNext, sStop, sRet, sAsg, sAsgO, sAsgD, sAsgE, sPutD, sRetD, getK, sMove, sDrop, sSet, sSet2, sAug, sPar, sAsgT, sFor, mVar, mOwn, mC, mBin, mUn, mTest, mTruth, mNotT, mAndT, mOrT, mAndV, mOrV, mNotV, mIf, mNil, mCons, dats, derefs, deref, derefsL, derefL, mTup, mLst, frz, mFrz, mCallB, ML.c1, ML.c2, retV, getL, asD, asF, isB, isI, mSl, mPart, mNoP, mIs, mIs2, fIsi, fIsi2, ML.kindOf, tyB, mMut, mExt, mCall, mCallS, mBag, mBagT, mCallK, permL, mIt, mItD, mIRev, itD, gN, gT, gTL, gsN, gsC, fI, ML.isNon, dIs, dIsNot, dIsB, dIsNotB, dAdd_int, dSub, dLt, dLe, dGt, dGe, dIx, dLen, dLenS, dIxS, dTuple, dListZ, dList, dNeg, dEq_bool, dNe_bool, dMax_int, dMin_int, F_word_at, m_word_at, sl, a0, a1, dAbs_i, h1', wD, wFar]
    · rw [if_neg h1]
      have h1' : ¬ (1 : Int) < ((a - b).natAbs : Int) := by omega
      by_cases h2 : a = b
      · rw [if_pos h2]
        subst h2
        simp [fnP, fnB, start0, sSeq, sIf, sNext, sStop, sRet, sAsg, sAsgO, sAsgD, sAsgE, sPutD, sRetD, getK, sMove, sDrop, sSet, sSet2, sAug, sPar, sAsgT, sFor, mVar, mOwn, mC, mBin, mUn, mTest, mTruth, mNotT, mAndT, mOrT, mAndV, mOrV, mNotV, mIf, mNil, mCons, dats, derefs, deref, derefsL, derefL, mTup, mLst, frz, mFrz, mCallB, ML.c1, ML.c2, retV, getL, asD, asF, isB, isI, mSl, mPart, mNoP, mIs, mIs2, fIsi, fIsi2, ML.kindOf, tyB, mMut, mExt, mCall, mCallS, mBag, mBagT, mCallK, permL, mIt, mItD, mIRev, itD, gN, gT, gTL, gsN, gsC, fI, ML.isNon, dIs, dIsNot, dIsB, dIsNotB, dAdd_int, dSub, dLt, dLe, dGt, dGe, dIx, dLen, dLenS, dIxS, dTuple, dListZ, dList, dNeg, dEq_bool, dNe_bool, dMax_int, dMin_int, F_word_at, m_word_at, sl, a0, a1, dAbs_i, dEq_int, wD, wOnce]
      · rw [if_neg h2]
        simp [fnP, fnB, start0, sSeq, sIf, sNext, sStop, sRet, sAsg, sAsgO, sAsgD, sAsgE, sPutD, sRetD, getK, sMove, sDrop, sSet, sSet2, sAug, sPar, sAsgT, sFor, mVar, mOwn, mC, mBin, mUn, mTest, mTruth, mNotT, mAndT, mOrT, mAndV, mOrV, mNotV, mIf, mNil, mCons, dats, derefs, deref, derefsL, derefL, mTup, mLst, frz, mFrz, mCallB, ML.c1, ML.c2, retV, getL, asD, asF, isB, isI, mSl, mPart, mNoP, mIs, mIs2, fIsi, fIsi2, ML.kindOf, tyB, mMut, mExt, mCall, mCallS, mBag, mBagT, mCallK, permL, mIt, mItD, mIRev, itD, gN, gT, gTL, gsN, gsC, fI, ML.isNon, dIs, dIsNot, dIsB, dIsNotB, dAdd_int, dSub, dLt, dLe, dGt, dGe, dIx, dLen, dLenS, dIxS, dTuple, dListZ, dList, dNeg, dEq_bool, dNe_bool, dMax_int, dMin_int, F_word_at, m_word_at, sl, a0, a1, dAbs_i, h1', h2, dEq_int, wD]
  | a :: b :: c :: r =>
    have sl : dSl GG (some (p : Int)) (some ((p : Int) + 3)) = some (.dat (.tuple [.int a, .int b, .int c])) := sl
    have a0 : atI [PyData.int a, .int b, .int c] 0 = some (.int a) := rfl
    have a1 : atI [PyData.int a, .int b, .int c] 1 = some (.int b) := rfl
    have a2 : atI [PyData.int a, .int b, .int c] 2 = some (.int c) := rfl
    rw [wd_two]
    by_cases h1 : 1 < (a - b).natAbs
    · rw [if_pos h1]
      have h1' : (1 : Int) < ((a - b).natAbs : Int) := by omega
      simp [fnP, fnB, start0, sSeq, sIf, sNext, sStop, sRet, sAsg, sAsgO, sAsgD, sAsgE, sPutD, sRetD, getK, sMove, sDrop, sSet, sSet2, sAug, sPar, sAsgT, sFor, mVar, mOwn, mC, mBin, mUn, mTest, mTruth, mNotT, mAndT, mOrT, mAndV, mOrV, mNotV, mIf, mNil, mCons, dats, derefs, deref, derefsL, derefL, mTup, mLst, frz, mFrz, mCallB, ML.c1, ML.c2, retV, getL, asD, asF, isB, isI, mSl, mPart, mNoP, mIs, mIs2, fIsi, fIsi2, ML.kindOf, tyB, mMut, mExt, mCall, mCallS, mBag, mBagT, mCallK, permL, mIt, mItD, mIRev, itD, gN, gT, gTL, gsN, gsC, fI, ML.isNon, dIs, dIsNot, dIsB, dIsNotB, dAdd_int, dSub, dLt, dLe, dGt, dGe, dIx, dLen, dLenS, dIxS, dTuple, dListZ, dList, dNeg, dEq_bool, dNe_bool, dMax_int, dMin_int, F_word_at, m_word_at, sl, a0, a1, dAbs_i, h1', wD, wFar]
    · rw [if_neg h1]
      have h1' : ¬ (1 : Int) < ((a - b).natAbs : Int) := by omega
      by_cases h2 : a = b
      · rw [if_pos h2]
        subst h2
        simp [fnP, fnB, start0, sSeq, sIf, sNext, sStop, sRet, sAsg, sAsgO, sAsgD, sAsgE, sPutD, sRetD, getK, sMove, sDrop, sSet, sSet2, sAug, sPar, sAsgT, sFor, mVar, mOwn, mC, mBin, mUn, mTest, mTruth, mNotT, mAndT, mOrT, mAndV, mOrV, mNotV, mIf, mNil, mCons, dats, derefs, deref, derefsL, derefL, mTup, mLst, frz, mFrz, mCallB, ML.c1, ML.c2, retV, getL, asD, asF, isB, isI, mSl, mPart, mNoP, mIs, mIs2, fIsi, fIsi2, ML.kindOf, tyB, mMut, mExt, mCall, mCallS, mBag, mBagT, mCallK, permL, mIt, mItD, mIRev, itD, gN, gT, gTL, gsN, gsC, fI, ML.isNon, dIs, dIsNot, dIsB, dIsNotB, dAdd_int, dSub, dLt, dLe, dGt, dGe, dIx, dLen, dLenS, dIxS, dTuple, dListZ, dList, dNeg, dEq_bool, dNe_bool, dMax_int, dMin_int, F_word_at, m_word_at, sl, a0, a1, dAbs_i, dEq_int, wD, wOnce]
      · rw [if_neg h2]
        show _ = some (MV.dat (wD (if a = c then some wThree else none)))
        by_cases h3 : a = c
        · rw [if_pos h3]
          subst h3
          simp [fnP, fnB, start0, sSeq, sIf, sNext, sStop, sRet, sAsg, sAsgO, sAsgD, sAsgE, sPutD, sRetD, getK, sMove, sDrop, sSet, sSet2, sAug, sPar, sAsgT, sFor, mVar, mOwn, mC, mBin, mUn, mTest, mTruth, mNotT, mAndT, mOrT, mAndV, mOrV, mNotV, mIf, mNil, mCons, dats, derefs, deref, derefsL, derefL, mTup, mLst, frz, mFrz, mCallB, ML.c1, ML.c2, retV, getL, asD, asF, isB, isI, mSl, mPart, mNoP, mIs, mIs2, fIsi, fIsi2, ML.kindOf, tyB, mMut, mExt, mCall, mCallS, mBag, mBagT, mCallK, permL, mIt, mItD, mIRev, itD, gN, gT, gTL, gsN, gsC, fI, ML.isNon, dIs, dIsNot, dIsB, dIsNotB, dAdd_int, dSub, dLt, dLe, dGt, dGe, dIx, dLen, dLenS, dIxS, dTuple, dListZ, dList, dNeg, dEq_bool, dNe_bool, dMax_int, dMin_int, F_word_at, m_word_at, sl, a0, a1, a2, dAbs_i, h1', h2, dEq_int, wD, wThree]
        · rw [if_neg h3]
          simp [fnP, fnB, start0, sSeq, sIf, sNext, sStop, sRet, sAsg, sAsgO, sAsgD, sAsgE, sPutD, sRetD, getK, sMove, sDrop, sSet, sSet2, sAug, sPar, sAsgT, sFor, mVar, mOwn, mC, mBin, mUn, mTest, mTruth, mNotT, mAndT, mOrT, mAndV, mOrV, mNotV, mIf, mNil, mCons, dats, derefs, deref, derefsL, derefL, mTup, mLst, frz, mFrz, mCallB, ML.c1, ML.c2, retV, getL, asD, asF, isB, isI, mSl, mPart, mNoP, mIs, mIs2, fIsi, fIsi2, ML.kindOf, tyB, mMut, mExt, mCall, mCallS, mBag, mBagT, mCallK, permL, mIt, mItD, mIRev, itD, gN, gT, gTL, gsN, gsC, fI, ML.isNon, dIs, dIsNot, dIsB, dIsNotB, dAdd_int, dSub, dLt, dLe, dGt, dGe, dIx, dLen, dLenS, dIxS, dTuple, dListZ, dList, dNeg, dEq_bool, dNe_bool, dMax_int, dMin_int, F_word_at, m_word_at, sl, a0, a1, a2, dAbs_i, h1', h2, h3, dEq_int, wD]
theorem sl_lo (xs : List Int) (p k : Nat) : dSl (tupI xs) (some ((p : Int) + (k : Nat))) none = some (.dat (tupI ((xs.drop p).drop k))) := by
  rw [dSl_lo (by omega), show ((p : Int) + (k : Nat)).toNat = p + k by omega, ← List.map_drop, List.drop_drop]
theorem add_tup {a b : List Int} (h : a.length + b.length ≤ 2000) : dAdd (tupI a) (tupI b) = some (.dat (tupI (a ++ b))) := by
  rw [dAdd_tup (by simp; omega)]
  simp
theorem str_eq {u v : Str} {b : Bool} (h1 : SeqAt.shaped (.str u) = true) (h2 : SeqAt.shaped (.str v) = true) (h : (u == v) = b) : dEq (.str u) (.str v) = some (.dat (.bool b)) := by
  unfold dEq
  rw [if_pos ⟨h1, h2⟩]
  show some (MV.dat (.bool (u == v))) = _
  rw [h]
theorem str_eq1 : dEq (.str wFar) (.str wThree) = some (.dat (.bool false)) := str_eq (by decide +kernel) (by decide +kernel) (by decide +kernel)
theorem str_eq2 : dEq (.str wFar) (.str wOnce) = some (.dat (.bool false)) := str_eq (by decide +kernel) (by decide +kernel) (by decide +kernel)
theorem str_eq3 : dEq (.str wOnce) (.str wThree) = some (.dat (.bool false)) := str_eq (by decide +kernel) (by decide +kernel) (by decide +kernel)
theorem str_eq4 : dEq (.str wOnce) (.str wOnce) = some (.dat (.bool true)) := str_eq (by decide +kernel) (by decide +kernel) (by decide +kernel)
theorem str_eq5 : dEq (.str wThree) (.str wThree) = some (.dat (.bool true)) := str_eq (by decide +kernel) (by decide +kernel) (by decide +kernel)
theorem str_eq6 : dEq (.str wFar) (.str wFar) = some (.dat (.bool true)) := str_eq (by decide +kernel) (by decide +kernel) (by decide +kernel)
theorem str_eq7 : dEq (.str wThree) (.str wOnce) = some (.dat (.bool false)) := str_eq (by decide +kernel) (by decide +kernel) (by decide +kernel)
theorem str_eq8 : dEq (.str wThree) (.str wFar) = some (.dat (.bool false)) := str_eq (by decide +kernel) (by decide +kernel) (by decide +kernel)
theorem str_eq9 : dEq (.str wOnce) (.str wFar) = some (.dat (.bool false)) := str_eq (by decide +kernel) (by decide +kernel) (by decide +kernel)
theorem behind_ok {gs l' : List Int} {w : Str} {p : Nat} (hp : p < gs.length) (hl : gs.length ≤ 1000) (h : StepL w (gs.drop p) l') : F_behind [tupI gs, .int p] = some (.dat (tupI (gs.take p ++ l'))) := by
  have wo := word_ok hp hl
  rw [step_wd h] at wo
  have sl : dSl (tupI gs) (some (p : Int)) (some ((p : Int) + 3)) = some (.dat (.tuple (((gs.drop p).take 3).map .int))) := by
    rw [dSl_both (by omega) (by rw [List.length_map]; omega) (by omega), Int.toNat_natCast, show ((p : Int) + 3 - p).toNat = 3 by omega, ← List.map_drop, ← List.map_take]
  have st : dSl (tupI gs) none (some (p : Int)) = some (.dat (tupI (gs.take p))) := by
    rw [dSl_hi (by omega), Int.toNat_natCast, ← List.map_take]
  have s1 := sl_lo gs p 1
  have s2 := sl_lo gs p 2
  have s3 := sl_lo gs p 3
  have lt : (gs.take p).length ≤ 1000 := by rw [List.length_take]; omega
  have ld : (gs.drop p).length ≤ 1000 := by rw [List.length_drop]; omega
  generalize gs.drop p = l at *
  generalize gs.take p = P at *
  generalize tupI gs = GG at *
  have s1 : dSl GG (some ((p : Int) + 1)) none = some (.dat (tupI (l.drop 1))) := s1
  have s2 : dSl GG (some ((p : Int) + 2)) none = some (.dat (tupI (l.drop 2))) := s2
  have s3 : dSl GG (some ((p : Int) + 3)) none = some (.dat (tupI (l.drop 3))) := s3
  have w1 := str_eq1
  have w2 := str_eq2
  have w3 := str_eq3
  have w4 := str_eq4
  have w5 := str_eq5
  unfold F_behind m_behind
  cases h with
  | @far a b r h1 =>
    have sl : ∃ rest, dSl GG (some (p : Int)) (some ((p : Int) + 3)) = some (.dat (.tuple (.int a :: .int b :: rest))) := ⟨(r.take 1).map .int, sl⟩
    obtain ⟨rest, sl⟩ := sl
    have a0 : atI (PyData.int a :: .int b :: rest) 0 = some (.int a) := by rw [atI_at (by omega) (by simp; omega)]; rfl
    have a1 : atI (PyData.int a :: .int b :: rest) 1 = some (.int b) := by rw [atI_at (by omega) (by simp; omega)]; rfl
    have s2 : dSl GG (some ((p : Int) + 2)) none = some (.dat (tupI r)) := s2
    have d1 := add_tup (a := P) (b := [b, a]) (by simp; omega)
    have d2 := add_tup (a := P ++ [b, a]) (b := r) (by simp at ld ⊢; omega)
    rw [List.append_assoc] at d2
    have d1 : dAdd (tupI P) (.tuple [.int b, .int a]) = some (.dat (tupI (P ++ [b, a]))) := d1
    have d2 : dAdd (tupI (P ++ [b, a])) (tupI r) = some (.dat (tupI (P ++ b :: a :: r))) := d2
    have wo : F_word_at [GG, .int p] = some (.dat (.str wFar)) := wo
    generalize tupI (P ++ b :: a :: r) = R3 at d2 ⊢
    generalize tupI (P ++ [b, a]) = R2 at *
    generalize tupI r = R1 at *
    generalize tupI P = PP at *
    simp [fnP, fnB, start0, sSeq, sIf, sNext, sStop, sRet, sAsg, sAsgO, sAsgD, sAsgE, sPutD, sRetD, getK, sMove, sDrop, sSet, sSet2, sAug, sPar, sAsgT, sFor, mVar, mOwn, mC, mBin, mUn, mTest, mTruth, mNotT, mAndT, mOrT, mAndV, mOrV, mNotV, mIf, mNil, mCons, dats, derefs, deref, derefsL, derefL, mTup, mLst, frz, mFrz, mCallB, ML.c1, ML.c2, retV, getL, asD, asF, isB, isI, mSl, mPart, mNoP, mIs, mIs2, fIsi, fIsi2, ML.kindOf, tyB, mMut, mExt, mCall, mCallS, mBag, mBagT, mCallK, permL, mIt, mItD, mIRev, itD, gN, gT, gTL, gsN, gsC, fI, ML.isNon, dIsB, dIsNotB, dAdd_int, dSub, dLt, dLe, dGe, dLen, dLenS, dIxS, dTuple, dListZ, dList, dNeg, dMax_int, dMin_int, sl, wo, show Str.ofString "three" = wThree from rfl, show Str.ofString "once" = wOnce from rfl, w1, w2, st, s2, dIx, a0, a1, d1, d2]
  | @once a r =>
    have s1 : dSl GG (some ((p : Int) + 1)) none = some (.dat (tupI (a :: r))) := s1
    have d1 := add_tup (a := P) (b := a :: r) (by simp at ld ⊢; omega)
    have wo : F_word_at [GG, .int p] = some (.dat (.str wOnce)) := wo
    generalize tupI (P ++ a :: r) = R3 at d1 ⊢
    generalize tupI (a :: r) = R1 at *
    generalize tupI P = PP at *
    simp [fnP, fnB, start0, sSeq, sIf, sNext, sStop, sRet, sAsg, sAsgO, sAsgD, sAsgE, sPutD, sRetD, getK, sMove, sDrop, sSet, sSet2, sAug, sPar, sAsgT, sFor, mVar, mOwn, mC, mBin, mUn, mTest, mTruth, mNotT, mAndT, mOrT, mAndV, mOrV, mNotV, mIf, mNil, mCons, dats, derefs, deref, derefsL, derefL, mTup, mLst, frz, mFrz, mCallB, ML.c1, ML.c2, retV, getL, asD, asF, isB, isI, mSl, mPart, mNoP, mIs, mIs2, fIsi, fIsi2, ML.kindOf, tyB, mMut, mExt, mCall, mCallS, mBag, mBagT, mCallK, permL, mIt, mItD, mIRev, itD, gN, gT, gTL, gsN, gsC, fI, ML.isNon, dIsB, dIsNotB, dAdd_int, dSub, dLt, dLe, dGe, dLen, dLenS, dIxS, dTuple, dListZ, dList, dNeg, dMax_int, dMin_int, sl, wo, show Str.ofString "three" = wThree from rfl, show Str.ofString "once" = wOnce from rfl, w3, w4, st, s1, dIx, d1]
  | @three a b r h1 h2 =>
    have sl : dSl GG (some (p : Int)) (some ((p : Int) + 3)) = some (.dat (.tuple [.int a, .int b, .int a])) := sl
    have a0 : atI [PyData.int a, .int b, .int a] 0 = some (.int a) := rfl
    have a1 : atI [PyData.int a, .int b, .int a] 1 = some (.int b) := rfl
    have s3 : dSl GG (some ((p : Int) + 3)) none = some (.dat (tupI r)) := s3
    have d1 := add_tup (a := P) (b := [b, a, b]) (by simp; omega)
    have d2 := add_tup (a := P ++ [b, a, b]) (b := r) (by simp at ld ⊢; omega)
    rw [List.append_assoc] at d2
    have d1 : dAdd (tupI P) (.tuple [.int b, .int a, .int b]) = some (.dat (tupI (P ++ [b, a, b]))) := d1
    have d2 : dAdd (tupI (P ++ [b, a, b])) (tupI r) = some (.dat (tupI (P ++ b :: a :: b :: r))) := d2
    have wo : F_word_at [GG, .int p] = some (.dat (.str wThree)) := wo
    generalize tupI (P ++ b :: a :: b :: r) = R3 at d2 ⊢
    generalize tupI (P ++ [b, a, b]) = R2 at *
    generalize tupI r = R1 at *
    generalize tupI P = PP at *
    simp [fnP, fnB, start0, sSeq, sIf, sNext, sStop, sRet, sAsg, sAsgO, sAsgD, sAsgE, sPutD, sRetD, getK, sMove, sDrop, sSet, sSet2, sAug, sPar, sAsgT, sFor, mVar, mOwn, mC, mBin, mUn, mTest, mTruth, mNotT, mAndT, mOrT, mAndV, mOrV, mNotV, mIf, mNil, mCons, dats, derefs, deref, derefsL, derefL, mTup, mLst, frz, mFrz, mCallB, ML.c1, ML.c2, retV, getL, asD, asF, isB, isI, mSl, mPart, mNoP, mIs, mIs2, fIsi, fIsi2, ML.kindOf, tyB, mMut, mExt, mCall, mCallS, mBag, mBagT, mCallK, permL, mIt, mItD, mIRev, itD, gN, gT, gTL, gsN, gsC, fI, ML.isNon, dIsB, dIsNotB, dAdd_int, dSub, dLt, dLe, dGe, dLen, dLenS, dIxS, dTuple, dListZ, dList, dNeg, dMax_int, dMin_int, sl, wo, show Str.ofString "three" = wThree from rfl, w5, st, s3, dIx, a0, a1, d1, d2]
/-- the places at which a step can be made -/
def stP (gs : List Int) : List Nat := (List.range gs.length).filter fun p => (wdL (gs.drop p)).isSome
def stD (gs : List Int) (p : Nat) : PyData := .tuple [.int (p : Int), wD (wdL (gs.drop p))]
theorem steps_ok {gs : List Int} (hg : ∀ g ∈ gs, 0 ≤ g ∧ g < 8) (hl : gs.length ≤ 1000) : F_steps [tupI gs] = some (.fre ((stP gs).map (stD gs))) := by
  have nb := need_book_ok (gs := gs) (n := 9) (by omega) (by omega) (fun g h => by have := hg g h; omega) hl
  have rb : rgB 0 (gs.length : Int) = true := rgB_nat (by omega) (by omega)
  have lm : (gs.map PyData.int).length = gs.length := List.length_map ..
  have lc1 := lc_map (tg := gN 2) (tt := mYes) (te := e_steps_2) (vs := [2]) (fun d => match d with | .int v => stD gs v.toNat | _ => .none) (rgD 0 (gs.length : Int)) [some (tupI gs), none, none, none] [] (by rw [rgD_nat]; simp; omega) fun d hd => by
    rw [rgD_nat] at hd
    obtain ⟨k, hk, rfl⟩ := List.mem_map.mp hd
    have wo := word_ok (gs := gs) (p := k) (List.mem_range.mp hk) hl
    refine ⟨[some (tupI gs), none, some (.int k), none], [some (tupI gs), none, some (.int k), none], rfl, rfl, ?_, rfl⟩
    show _ = some (MV.dat (.tuple [.int ((((k : Int)).toNat : Nat) : Int), wD (wdL (gs.drop ((k : Int)).toNat))]), _)
    rw [Int.toNat_natCast]
    generalize wD (wdL (gs.drop k)) = W at wo ⊢
    generalize tupI gs = GG at *
    simp [fnP, fnB, start0, sSeq, sIf, sNext, sStop, sRet, sAsg, sAsgO, sAsgD, sAsgE, sPutD, sRetD, getK, sMove, sDrop, sSet, sSet2, sAug, sPar, sAsgT, sFor, mVar, mOwn, mC, mBin, mUn, mTest, mTruth, mNotT, mAndT, mOrT, mAndV, mOrV, mNotV, mIf, mNil, mCons, dats, derefs, deref, derefsL, derefL, mTup, mLst, frz, mFrz, mCallB, ML.c1, ML.c2, retV, getL, asD, asF, isB, isI, mSl, mPart, mNoP, mIs, mIs2, fIsi, fIsi2, ML.kindOf, tyB, mMut, mExt, mCall, mCallS, mBag, mBagT, mCallK, permL, mIt, mItD, mIRev, itD, gN, gT, gTL, gsN, gsC, fI, ML.isNon, dIs, dIsNot, dIsB, dIsNotB, dAdd_int, dSub, dLt, dLe, dGt, dGe, dIx, dLen, dLenS, dIxS, dTuple, dListZ, dList, dNeg, dEq_bool, dNe_bool, dMax_int, dMin_int, e_steps_2, wo]
  have em1 : (rgD 0 (gs.length : Int)).map (fun d => match d with | .int v => stD gs v.toNat | _ => .none) = (List.range gs.length).map (stD gs) := by
    rw [rgD_nat, List.map_map]; rfl
  rw [em1, List.nil_append] at lc1
  have lc2 := lc_filter (tg := gTL 2 (gsC (gN 2) (gsC (gN 3) gsN))) (tt := t_steps_1) (te := e_steps_1) (vs := [2, 3]) (fun d => match d with | .tuple [_, x] => !isNon x | _ => false) (fun d => d) ((List.range gs.length).map (stD gs)) [some (tupI gs), some (.list ((List.range gs.length).map (stD gs))), none, none] [] (by simp; omega) fun d hd => by
    obtain ⟨k, hk, rfl⟩ := List.mem_map.mp hd
    generalize ((List.range gs.length).map (stD gs)) = LL
    refine ⟨[some (tupI gs), some (.list LL), some (.int k), some (wD (wdL (gs.drop k)))], [some (tupI gs), some (.list LL), some (.int k), some (wD (wdL (gs.drop k)))], rfl, ?_, fun _ => ?_, fun _ => rfl, rfl⟩
    · show t_steps_1 _ = some (!isNon (wD (wdL (gs.drop k))), _)
      generalize wD (wdL (gs.drop k)) = W
      simp [fnP, fnB, start0, sSeq, sIf, sNext, sStop, sRet, sAsg, sAsgO, sAsgD, sAsgE, sPutD, sRetD, getK, sMove, sDrop, sSet, sSet2, sAug, sPar, sAsgT, sFor, mVar, mOwn, mC, mBin, mUn, mTest, mTruth, mNotT, mAndT, mOrT, mAndV, mOrV, mNotV, mIf, mNil, mCons, dats, derefs, deref, derefsL, derefL, mTup, mLst, frz, mFrz, mCallB, ML.c1, ML.c2, retV, getL, asD, asF, isB, isI, mSl, mPart, mNoP, mIs, mIs2, fIsi, fIsi2, ML.kindOf, tyB, mMut, mExt, mCall, mCallS, mBag, mBagT, mCallK, permL, mIt, mItD, mIRev, itD, gN, gT, gTL, gsN, gsC, fI, ML.isNon, dIs, dIsNot, dIsB, dIsNotB, dAdd_int, dSub, dLt, dLe, dGt, dGe, dIx, dLen, dLenS, dIxS, dTuple, dListZ, dList, dNeg, dEq_bool, dNe_bool, dMax_int, dMin_int, t_steps_1]
    · show e_steps_1 _ = some (MV.dat (.tuple [.int (k : Int), wD (wdL (gs.drop k))]), _)
      generalize wD (wdL (gs.drop k)) = W
      simp [fnP, fnB, start0, sSeq, sIf, sNext, sStop, sRet, sAsg, sAsgO, sAsgD, sAsgE, sPutD, sRetD, getK, sMove, sDrop, sSet, sSet2, sAug, sPar, sAsgT, sFor, mVar, mOwn, mC, mBin, mUn, mTest, mTruth, mNotT, mAndT, mOrT, mAndV, mOrV, mNotV, mIf, mNil, mCons, dats, derefs, deref, derefsL, derefL, mTup, mLst, frz, mFrz, mCallB, ML.c1, ML.c2, retV, getL, asD, asF, isB, isI, mSl, mPart, mNoP, mIs, mIs2, fIsi, fIsi2, ML.kindOf, tyB, mMut, mExt, mCall, mCallS, mBag, mBagT, mCallK, permL, mIt, mItD, mIRev, itD, gN, gT, gTL, gsN, gsC, fI, ML.isNon, dIs, dIsNot, dIsB, dIsNotB, dAdd_int, dSub, dLt, dLe, dGt, dGe, dIx, dLen, dLenS, dIxS, dTuple, dListZ, dList, dNeg, dEq_bool, dNe_bool, dMax_int, dMin_int, e_steps_1]
  have em2 : (((List.range gs.length).map (stD gs)).filter fun d => match d with | .tuple [_, x] => !isNon x | _ => false).map (fun d => d) = (stP gs).map (stD gs) := by
    rw [List.map_id', List.filter_map]
    unfold stP
    congr 1
    refine List.filter_congr fun p _ => ?_
    show (!isNon (wD (wdL (gs.drop p)))) = _
    cases wdL (gs.drop p) with
    | none => rfl
    | some s => rfl
  rw [em2, List.nil_append] at lc2
  have nb : F_need_book [.tuple (gs.map .int), .int 9] = some (.dat .none) := nb
  show F_steps [.tuple (gs.map .int)] = _
  have lc1 : lcM (gN 2) mYes e_steps_2 [2] (rgD 0 (gs.length : Int)) [some (.tuple (gs.map .int)), none, none, none] [] = some ((List.range gs.length).map (stD gs), [some (.tuple (gs.map .int)), none, none, none]) := lc1
  have lc2 : lcM (gTL 2 (gsC (gN 2) (gsC (gN 3) gsN))) t_steps_1 e_steps_1 [2, 3] ((List.range gs.length).map (stD gs)) [some (.tuple (gs.map .int)), some (.list ((List.range gs.length).map (stD gs))), none, none] [] = some ((stP gs).map (stD gs), [some (.tuple (gs.map .int)), some (.list ((List.range gs.length).map (stD gs))), none, none]) := lc2
  generalize (stP gs).map (stD gs) = R2 at *
  generalize (List.range gs.length).map (stD gs) = R1 at *
  generalize gs.map PyData.int = GG at *
  simp [fnP, fnB, start0, sSeq, sIf, sNext, sStop, sRet, sAsg, sAsgO, sAsgD, sAsgE, sPutD, sRetD, getK, sMove, sDrop, sSet, sSet2, sAug, sPar, sAsgT, sFor, mVar, mOwn, mC, mBin, mUn, mTest, mTruth, mNotT, mAndT, mOrT, mAndV, mOrV, mNotV, mIf, mNil, mCons, dats, derefs, deref, derefsL, derefL, mTup, mLst, frz, mFrz, mCallB, ML.c1, ML.c2, retV, getL, asD, asF, isB, isI, mSl, mPart, mNoP, mIs, mIs2, fIsi, fIsi2, ML.kindOf, tyB, mMut, mExt, mCall, mCallS, mBag, mBagT, mCallK, permL, mIt, mItD, mIRev, itD, gN, gT, gTL, gsN, gsC, fI, ML.isNon, dIs, dIsNot, dIsB, dIsNotB, dAdd_int, dSub, dLt, dLe, dGt, dGe, dIx, dLen, dLenS, dIxS, dTuple, dListZ, dList, dNeg, dEq_bool, dNe_bool, dMax_int, dMin_int, F_steps, m_steps, nb, lm, mLc, mIR1, rb, wipeM, restM, lc1, lc2]
/-! steps as data -/
def isWd (w : Str) : Prop := w = wFar ∨ w = wOnce ∨ w = wThree
theorem step_isWd {w : Str} {l l' : List Int} (h : StepL w l l') : isWd w := by
  cases h with
  | far _ => exact .inl rfl
  | once => exact .inr (.inl rfl)
  | three _ _ => exact .inr (.inr rfl)
theorem wd_ok {w : Str} (h : isWd w) : PyData.strOk w = true ∧ (w == w) = true := by
  rcases h with rfl | rfl | rfl
  · exact ⟨by decide +kernel, by decide +kernel⟩
  · exact ⟨by decide +kernel, by decide +kernel⟩
  · exact ⟨by decide +kernel, by decide +kernel⟩
def Std (d : PyData) : Prop := ∃ (p : Nat) (w : Str), isWd w ∧ d = .tuple [.int (p : Int), .str w]
theorem std_of {gs : List Int} {p : Nat} (hp : p ∈ stP gs) : ∃ w l', StepL w (gs.drop p) l' ∧ stD gs p = .tuple [.int (p : Int), .str w] ∧ p < gs.length := by
  obtain ⟨h1, h2⟩ := List.mem_filter.mp hp
  obtain ⟨w, hw⟩ := Option.isSome_iff_exists.mp h2
  obtain ⟨l', h⟩ := wd_step hw
  exact ⟨w, l', h, by unfold stD; rw [hw]; rfl, List.mem_range.mp h1⟩
theorem std_lay : ∀ L : List PyData, (∀ d ∈ L, Std d) → PyData.canLayAll0 L = true ∧ PyData.depthAll L ≤ 1
  | [], _ => ⟨rfl, by decide⟩
  | d :: L, h => by
    obtain ⟨p, w, hw, rfl⟩ := h d (by simp)
    obtain ⟨i1, i2⟩ := std_lay L fun d hd => h d (by simp [hd])
    refine ⟨?_, ?_⟩
    · show ((true && (PyData.strOk w && true)) && PyData.canLayAll0 L) = true
      rw [(wd_ok hw).1, i1]; rfl
    · show max (max 0 (max 0 0) + 1) (PyData.depthAll L) ≤ 1
      omega
theorem std_shaped {L : List PyData} (h : ∀ d ∈ L, Std d) : SeqAt.shaped (.list L) = true := by
  obtain ⟨i1, i2⟩ := std_lay L h
  show (PyData.canLayAll0 L && decide (PyData.depthAll L + 1 ≤ 64)) = true
  rw [i1, decide_eq_true (by omega)]; rfl
theorem std_one {d : PyData} (h : Std d) : SeqAt.shaped d = true ∧ PyData.eqv d d = true := by
  obtain ⟨p, w, hw, rfl⟩ := h
  obtain ⟨w1, w2⟩ := wd_ok hw
  refine ⟨?_, ?_⟩
  · show ((true && (PyData.strOk w && true)) && decide (max 0 (max 0 0) + 1 ≤ 64)) = true
    rw [w1]; rfl
  · show ((p : Int) == (p : Int) && ((w == w) && true)) = true
    rw [w2]; simp
theorem std_in {L : List PyData} {d : PyData} (h : ∀ d ∈ L, Std d) (hd : d ∈ L) : dInZ true d (.list L) = some (.dat (.bool false)) := by
  letI : KF := ⟨[]⟩
  obtain ⟨s1, s2⟩ := std_one (h d hd)
  refine orF_l (orF_r ?_ ?_)
  · have : inB d L = none := by
      unfold inB
      rw [if_neg (fun z => by
        obtain ⟨p, w, _, rfl⟩ := h d hd
        cases z.1)]
    show (inB d L).map (fun b => MV.dat (.bool !b)) = none
    rw [this]
    rfl
  · show (if SeqAt.shaped d = true ∧ SeqAt.shaped (.list L) = true then some (MV.dat (.bool (!(L.any fun z => PyData.eqv z d)))) else none) = _
    rw [if_pos ⟨s1, std_shaped h⟩]
    have : (L.any fun z => PyData.eqv z d) = true := List.any_eq_true.mpr ⟨d, hd, s2⟩
    rw [this]
    rfl
theorem std_ne {L : List PyData} (h : ∀ d ∈ L, Std d) : dNe (.list L) (.list []) = some (.dat (.bool (!L.isEmpty))) := by
  unfold dNe
  rw [if_pos ⟨std_shaped h, by rfl⟩]
  cases L with
  | nil => rfl
  | cons d L => rfl
theorem all_std (gs : List Int) : ∀ d ∈ (stP gs).map (stD gs), Std d := fun d hd => by
  obtain ⟨p, hp, rfl⟩ := List.mem_map.mp hd
  obtain ⟨w, l', h, e, _⟩ := std_of hp
  exact ⟨p, w, step_isWd h, e⟩
theorem stepped_ok {gs l' : List Int} {w : Str} {p : Nat} (hg : ∀ g ∈ gs, 0 ≤ g ∧ g < 8) (hl : gs.length ≤ 1000) (hp : p ∈ stP gs) (h : StepL w (gs.drop p) l') : F_stepped [tupI gs, .tuple [.int (p : Int), .str w]] = some (.dat (tupI (gs.take p ++ l'))) := by
  have so := steps_ok hg hl
  have e : stD gs p = .tuple [.int (p : Int), .str w] := by
    unfold stD; rw [step_wd h]; rfl
  have si := std_in (all_std gs) (List.mem_map.mpr ⟨p, hp, rfl⟩)
  rw [e] at si
  have bo := behind_ok (List.mem_range.mp (List.mem_filter.mp hp).1) hl h
  have iw : F_is_whole_goings [.int (p : Int)] = some (.dat (.bool true)) := by
    simp [fnP, fnB, start0, sSeq, sIf, sNext, sStop, sRet, sAsg, sAsgO, sAsgD, sAsgE, sPutD, sRetD, getK, sMove, sDrop, sSet, sSet2, sAug, sPar, sAsgT, sFor, mVar, mOwn, mC, mBin, mUn, mTest, mTruth, mNotT, mAndT, mOrT, mAndV, mOrV, mNotV, mIf, mNil, mCons, dats, derefs, deref, derefsL, derefL, mTup, mLst, frz, mFrz, mCallB, ML.c1, ML.c2, retV, getL, asD, asF, isB, isI, mSl, mPart, mNoP, mIs, mIs2, fIsi, fIsi2, ML.kindOf, tyB, mMut, mExt, mCall, mCallS, mBag, mBagT, mCallK, permL, mIt, mItD, mIRev, itD, gN, gT, gTL, gsN, gsC, fI, ML.isNon, dIs, dIsNot, dIsB, dIsNotB, dAdd_int, dSub, dLt, dLe, dGt, dGe, dIx, dLen, dLenS, dIxS, dTuple, dListZ, dList, dAppend, dNeg, atI, ixN, dEq_int, dNe_int, dEq_bool, dNe_bool, dMax_int, dMin_int, F_is_whole_goings, m_is_whole_goings, PyData.hasDict]
  have a0 : atI [PyData.int (p : Int), .str w] 0 = some (.int (p : Int)) := rfl
  have hd : PyData.hasDictAll [PyData.int (p : Int), .str w] = false := rfl
  generalize (stP gs).map (stD gs) = SL at so si
  generalize tupI gs = GG at *
  generalize tupI (gs.take p ++ l') = R at *
  simp [fnP, fnB, start0, sSeq, sIf, sNext, sStop, sRet, sAsg, sAsgO, sAsgD, sAsgE, sPutD, sRetD, getK, sMove, sDrop, sSet, sSet2, sAug, sPar, sAsgT, sFor, mVar, mOwn, mC, mBin, mUn, mTest, mTruth, mNotT, mAndT, mOrT, mAndV, mOrV, mNotV, mIf, mNil, mCons, dats, derefs, deref, derefsL, derefL, mTup, mLst, frz, mFrz, mCallB, ML.c1, ML.c2, retV, getL, asD, asF, isB, isI, mSl, mPart, mNoP, mIs, mIs2, fIsi, fIsi2, ML.kindOf, tyB, mMut, mExt, mCall, mCallS, mBag, mBagT, mCallK, permL, mIt, mItD, mIRev, itD, gN, gT, gTL, gsN, gsC, fI, ML.isNon, dIs, dIsNot, dIsB, dIsNotB, dAdd_int, dSub, dLt, dLe, dGt, dGe, dIx, dLen, dLenS, dIxS, dTuple, dListZ, dList, dNeg, dEq_bool, dNe_bool, dMax_int, dMin_int, F_stepped, m_stepped, so, iw, a0, si, bo, PyData.hasDict, hd, dNe_int]
/-! the law's own words and steps -/
theorem law_word_ok {gs : List Int} {p : Nat} (hp : p < gs.length) (hl : gs.length ≤ 1000) : F_law_word [tupI gs, .int p] = some (.dat (wD (wdL (gs.drop p)))) := by
  have sl : dSl (tupI gs) (some (p : Int)) (some ((p : Int) + 3)) = some (.dat (.tuple (((gs.drop p).take 3).map .int))) := by
    rw [dSl_both (by omega) (by rw [List.length_map]; omega) (by omega), Int.toNat_natCast, show ((p : Int) + 3 - p).toNat = 3 by omega, ← List.map_drop, ← List.map_take]
  have ne : gs.drop p ≠ [] := fun e => by
    have := congrArg List.length e
    rw [List.length_drop] at this
    simp at this
    omega
  generalize gs.drop p = l at sl ne ⊢
  generalize tupI gs = GG at sl ⊢
  match l with
  | [] => exact absurd rfl ne
  | [a] =>
    have sl : dSl GG (some (p : Int)) (some ((p : Int) + 3)) = some (.dat (.tuple [.int a])) := sl
    show _ = some (MV.dat .none)
    simp [fnP, fnB, start0, sSeq, sIf, sNext, sStop, sRet, sAsg, sAsgO, sAsgD, sAsgE, sPutD, sRetD, getK, sMove, sDrop, sSet, sSet2, sAug, sPar, sAsgT, sFor, mVar, mOwn, mC, mBin, mUn, mTest, mTruth, mNotT, mAndT, mOrT, mAndV, mOrV, mNotV, mIf, mNil, mCons, dats, derefs, deref, derefsL, derefL, mTup, mLst, frz, mFrz, mCallB, ML.c1, ML.c2, retV, getL, asD, asF, isB, isI, mSl, mPart, mNoP, mIs, mIs2, fIsi, fIsi2, ML.kindOf, tyB, mMut, mExt, mCall, mCallS, mBag, mBagT, mCallK, permL, mIt, mItD, mIRev, itD, gN, gT, gTL, gsN, gsC, fI, ML.isNon, dIs, dIsNot, dIsB, dIsNotB, dAdd_int, dSub, dLt, dLe, dGt, dGe, dIx, dLen, dLenS, dIxS, dTuple, dListZ, dList, dNeg, dEq_bool, dNe_bool, dMax_int, dMin_int, F_law_word, m_law_word, sl, dEq_int]
  | [a, b] =>
    have sl : dSl GG (some (p : Int)) (some ((p : Int) + 3)) = some (.dat (.tuple [.int a, .int b])) := sl
    have a0 : atI [PyData.int a, .int b] 0 = some (.int a) := rfl
    have a1 : atI [PyData.int a, .int b] 1 = some (.int b) := rfl
    rw [wd_two]
    by_cases h1 : 1 < (a - b).natAbs
    · rw [if_pos h1]
      have h1' : (1 : Int) < ((a - b).natAbs : Int) := by omega
      simp [fnP, fnB, start0, sSeq, sIf, sNext, sStop, sRet, sAsg, sAsgO, sAsgD, sAsgE, sPutD, sRetD, getK, sMove, sDrop, sSet, sSet2, sAug, sPar, sAsgT, sFor, mVar, mOwn, mC, mBin, mUn, mTest, mTruth, mNotT, mAndT, mOrT, mAndV, mOrV, mNotV, mIf, mNil, mCons, dats, derefs, deref, derefsL, derefL, mTup, mLst, frz, mFrz, mCallB, ML.c1, ML.c2, retV, getL, asD, asF, isB, isI, mSl, mPart, mNoP, mIs, mIs2, fIsi, fIsi2, ML.kindOf, tyB, mMut, mExt, mCall, mCallS, mBag, mBagT, mCallK, permL, mIt, mItD, mIRev, itD, gN, gT, gTL, gsN, gsC, fI, ML.isNon, dIs, dIsNot, dIsB, dIsNotB, dAdd_int, dSub, dLt, dLe, dGt, dGe, dIx, dLen, dLenS, dIxS, dTuple, dListZ, dList, dNeg, dEq_bool, dNe_bool, dMax_int, dMin_int, F_law_word, m_law_word, sl, a0, a1, dAbs_i, h1', wD, wFar]
    · rw [if_neg h1]
      have h1' : ¬ (1 : Int) < ((a - b).natAbs : Int) := by omega
      by_cases h2 : a = b
      · rw [if_pos h2]
        subst h2
        simp [fnP, fnB, start0, sSeq, sIf, sNext, sStop, sRet, sAsg, sAsgO, sAsgD, sAsgE, sPutD, sRetD, getK, sMove, sDrop, sSet, sSet2, sAug, sPar, sAsgT, sFor, mVar, mOwn, mC, mBin, mUn, mTest, mTruth, mNotT, mAndT, mOrT, mAndV, mOrV, mNotV, mIf, mNil, mCons, dats, derefs, deref, derefsL, derefL, mTup, mLst, frz, mFrz, mCallB, ML.c1, ML.c2, retV, getL, asD, asF, isB, isI, mSl, mPart, mNoP, mIs, mIs2, fIsi, fIsi2, ML.kindOf, tyB, mMut, mExt, mCall, mCallS, mBag, mBagT, mCallK, permL, mIt, mItD, mIRev, itD, gN, gT, gTL, gsN, gsC, fI, ML.isNon, dIs, dIsNot, dIsB, dIsNotB, dAdd_int, dSub, dLt, dLe, dGt, dGe, dIx, dLen, dLenS, dIxS, dTuple, dListZ, dList, dNeg, dEq_bool, dNe_bool, dMax_int, dMin_int, F_law_word, m_law_word, sl, a0, a1, dAbs_i, dEq_int, wD, wOnce]
      · rw [if_neg h2]
        simp [fnP, fnB, start0, sSeq, sIf, sNext, sStop, sRet, sAsg, sAsgO, sAsgD, sAsgE, sPutD, sRetD, getK, sMove, sDrop, sSet, sSet2, sAug, sPar, sAsgT, sFor, mVar, mOwn, mC, mBin, mUn, mTest, mTruth, mNotT, mAndT, mOrT, mAndV, mOrV, mNotV, mIf, mNil, mCons, dats, derefs, deref, derefsL, derefL, mTup, mLst, frz, mFrz, mCallB, ML.c1, ML.c2, retV, getL, asD, asF, isB, isI, mSl, mPart, mNoP, mIs, mIs2, fIsi, fIsi2, ML.kindOf, tyB, mMut, mExt, mCall, mCallS, mBag, mBagT, mCallK, permL, mIt, mItD, mIRev, itD, gN, gT, gTL, gsN, gsC, fI, ML.isNon, dIs, dIsNot, dIsB, dIsNotB, dAdd_int, dSub, dLt, dLe, dGt, dGe, dIx, dLen, dLenS, dIxS, dTuple, dListZ, dList, dNeg, dEq_bool, dNe_bool, dMax_int, dMin_int, F_law_word, m_law_word, sl, a0, a1, dAbs_i, h1', h2, dEq_int, wD]
  | a :: b :: c :: r =>
    have sl : dSl GG (some (p : Int)) (some ((p : Int) + 3)) = some (.dat (.tuple [.int a, .int b, .int c])) := sl
    have a0 : atI [PyData.int a, .int b, .int c] 0 = some (.int a) := rfl
    have a1 : atI [PyData.int a, .int b, .int c] 1 = some (.int b) := rfl
    have a2 : atI [PyData.int a, .int b, .int c] 2 = some (.int c) := rfl
    rw [wd_two]
    by_cases h1 : 1 < (a - b).natAbs
    · rw [if_pos h1]
      have h1' : (1 : Int) < ((a - b).natAbs : Int) := by omega
      simp [fnP, fnB, start0, sSeq, sIf, sNext, sStop, sRet, sAsg, sAsgO, sAsgD, sAsgE, sPutD, sRetD, getK, sMove, sDrop, sSet, sSet2, sAug, sPar, sAsgT, sFor, mVar, mOwn, mC, mBin, mUn, mTest, mTruth, mNotT, mAndT, mOrT, mAndV, mOrV, mNotV, mIf, mNil, mCons, dats, derefs, deref, derefsL, derefL, mTup, mLst, frz, mFrz, mCallB, ML.c1, ML.c2, retV, getL, asD, asF, isB, isI, mSl, mPart, mNoP, mIs, mIs2, fIsi, fIsi2, ML.kindOf, tyB, mMut, mExt, mCall, mCallS, mBag, mBagT, mCallK, permL, mIt, mItD, mIRev, itD, gN, gT, gTL, gsN, gsC, fI, ML.isNon, dIs, dIsNot, dIsB, dIsNotB, dAdd_int, dSub, dLt, dLe, dGt, dGe, dIx, dLen, dLenS, dIxS, dTuple, dListZ, dList, dNeg, dEq_bool, dNe_bool, dMax_int, dMin_int, F_law_word, m_law_word, sl, a0, a1, dAbs_i, h1', wD, wFar]
    · rw [if_neg h1]
      have h1' : ¬ (1 : Int) < ((a - b).natAbs : Int) := by omega
      by_cases h2 : a = b
      · rw [if_pos h2]
        subst h2
        simp [fnP, fnB, start0, sSeq, sIf, sNext, sStop, sRet, sAsg, sAsgO, sAsgD, sAsgE, sPutD, sRetD, getK, sMove, sDrop, sSet, sSet2, sAug, sPar, sAsgT, sFor, mVar, mOwn, mC, mBin, mUn, mTest, mTruth, mNotT, mAndT, mOrT, mAndV, mOrV, mNotV, mIf, mNil, mCons, dats, derefs, deref, derefsL, derefL, mTup, mLst, frz, mFrz, mCallB, ML.c1, ML.c2, retV, getL, asD, asF, isB, isI, mSl, mPart, mNoP, mIs, mIs2, fIsi, fIsi2, ML.kindOf, tyB, mMut, mExt, mCall, mCallS, mBag, mBagT, mCallK, permL, mIt, mItD, mIRev, itD, gN, gT, gTL, gsN, gsC, fI, ML.isNon, dIs, dIsNot, dIsB, dIsNotB, dAdd_int, dSub, dLt, dLe, dGt, dGe, dIx, dLen, dLenS, dIxS, dTuple, dListZ, dList, dNeg, dEq_bool, dNe_bool, dMax_int, dMin_int, F_law_word, m_law_word, sl, a0, a1, dAbs_i, dEq_int, wD, wOnce]
      · rw [if_neg h2]
        show _ = some (MV.dat (wD (if a = c then some wThree else none)))
        by_cases h3 : a = c
        · rw [if_pos h3]
          subst h3
          simp [fnP, fnB, start0, sSeq, sIf, sNext, sStop, sRet, sAsg, sAsgO, sAsgD, sAsgE, sPutD, sRetD, getK, sMove, sDrop, sSet, sSet2, sAug, sPar, sAsgT, sFor, mVar, mOwn, mC, mBin, mUn, mTest, mTruth, mNotT, mAndT, mOrT, mAndV, mOrV, mNotV, mIf, mNil, mCons, dats, derefs, deref, derefsL, derefL, mTup, mLst, frz, mFrz, mCallB, ML.c1, ML.c2, retV, getL, asD, asF, isB, isI, mSl, mPart, mNoP, mIs, mIs2, fIsi, fIsi2, ML.kindOf, tyB, mMut, mExt, mCall, mCallS, mBag, mBagT, mCallK, permL, mIt, mItD, mIRev, itD, gN, gT, gTL, gsN, gsC, fI, ML.isNon, dIs, dIsNot, dIsB, dIsNotB, dAdd_int, dSub, dLt, dLe, dGt, dGe, dIx, dLen, dLenS, dIxS, dTuple, dListZ, dList, dNeg, dEq_bool, dNe_bool, dMax_int, dMin_int, F_law_word, m_law_word, sl, a0, a1, a2, dAbs_i, h1', h2, dEq_int, wD, wThree]
        · rw [if_neg h3]
          simp [fnP, fnB, start0, sSeq, sIf, sNext, sStop, sRet, sAsg, sAsgO, sAsgD, sAsgE, sPutD, sRetD, getK, sMove, sDrop, sSet, sSet2, sAug, sPar, sAsgT, sFor, mVar, mOwn, mC, mBin, mUn, mTest, mTruth, mNotT, mAndT, mOrT, mAndV, mOrV, mNotV, mIf, mNil, mCons, dats, derefs, deref, derefsL, derefL, mTup, mLst, frz, mFrz, mCallB, ML.c1, ML.c2, retV, getL, asD, asF, isB, isI, mSl, mPart, mNoP, mIs, mIs2, fIsi, fIsi2, ML.kindOf, tyB, mMut, mExt, mCall, mCallS, mBag, mBagT, mCallK, permL, mIt, mItD, mIRev, itD, gN, gT, gTL, gsN, gsC, fI, ML.isNon, dIs, dIsNot, dIsB, dIsNotB, dAdd_int, dSub, dLt, dLe, dGt, dGe, dIx, dLen, dLenS, dIxS, dTuple, dListZ, dList, dNeg, dEq_bool, dNe_bool, dMax_int, dMin_int, F_law_word, m_law_word, sl, a0, a1, a2, dAbs_i, h1', h2, h3, dEq_int, wD]
theorem drop_at {gs r : List Int} {a : Int} {p i : Nat} (h : gs.drop p = r) (hi : r[i]? = some a) : atI (gs.map PyData.int) ((p : Int) + (i : Nat)) = some (.int a) := by
  have e : gs[p + i]? = some a := by rw [← h, List.getElem?_drop] at hi; exact hi
  have hl : p + i < gs.length := by
    by_cases z : p + i < gs.length
    · exact z
    · rw [List.getElem?_eq_none (by omega)] at e; cases e
  rw [atI_at (by omega) (by rw [List.length_map]; omega), show ((p : Int) + (i : Nat)).toNat = p + i by omega, List.getElem?_map, e]
  rfl
theorem law_behind_ok {gs l' : List Int} {w : Str} {p : Nat} (hp : p < gs.length) (hl : gs.length ≤ 1000) (h : StepL w (gs.drop p) l') : F_law_behind [tupI gs, .int p] = some (.dat (tupI (gs.take p ++ l'))) := by
  have wo := law_word_ok hp hl
  rw [step_wd h] at wo
  have st : dSl (tupI gs) none (some (p : Int)) = some (.dat (tupI (gs.take p))) := by
    rw [dSl_hi (by omega), Int.toNat_natCast, ← List.map_take]
  have s1 := sl_lo gs p 1
  have s2 := sl_lo gs p 2
  have s3 := sl_lo gs p 3
  have lt : (gs.take p).length ≤ 1000 := by rw [List.length_take]; omega
  have ld : (gs.drop p).length ≤ 1000 := by rw [List.length_drop]; omega
  have at0 := fun a : Int => drop_at (gs := gs) (p := p) (i := 0) (a := a) rfl
  have at1 := fun a : Int => drop_at (gs := gs) (p := p) (i := 1) (a := a) rfl
  have at0 : ∀ a : Int, (gs.drop p)[0]? = some a → dIx (tupI gs) (.int (p : Int)) = some (.dat (.int a)) := fun a ha => by
    have := at0 a ha
    rw [show (p : Int) + ((0 : Nat) : Int) = p by omega] at this
    show (atI (gs.map PyData.int) (p : Int)).map MV.dat = _
    rw [this]; rfl
  have at1 : ∀ a : Int, (gs.drop p)[1]? = some a → dIx (tupI gs) (.int ((p : Int) + 1)) = some (.dat (.int a)) := fun a ha => by
    have := at1 a ha
    show (atI (gs.map PyData.int) ((p : Int) + 1)).map MV.dat = _
    rw [show (p : Int) + 1 = (p : Int) + ((1 : Nat) : Int) by omega, this]; rfl
  generalize gs.drop p = l at *
  generalize gs.take p = P at *
  generalize tupI gs = GG at *
  have s1 : dSl GG (some ((p : Int) + 1)) none = some (.dat (tupI (l.drop 1))) := s1
  have s2 : dSl GG (some ((p : Int) + 2)) none = some (.dat (tupI (l.drop 2))) := s2
  have s3 : dSl GG (some ((p : Int) + 3)) none = some (.dat (tupI (l.drop 3))) := s3
  have w1 := str_eq1
  have w2 := str_eq2
  have w4 := str_eq4
  have w5 := str_eq5
  have w7 := str_eq7
  unfold F_law_behind m_law_behind
  cases h with
  | @far a b r h1 =>
    have a0 := at0 a rfl
    have a1 := at1 b rfl
    have s2 : dSl GG (some ((p : Int) + 2)) none = some (.dat (tupI r)) := s2
    have d1 := add_tup (a := P) (b := [b, a]) (by simp; omega)
    have d2 := add_tup (a := P ++ [b, a]) (b := r) (by simp at ld ⊢; omega)
    rw [List.append_assoc] at d2
    have d1 : dAdd (tupI P) (.tuple [.int b, .int a]) = some (.dat (tupI (P ++ [b, a]))) := d1
    have d2 : dAdd (tupI (P ++ [b, a])) (tupI r) = some (.dat (tupI (P ++ b :: a :: r))) := d2
    have wo : F_law_word [GG, .int p] = some (.dat (.str wFar)) := wo
    generalize tupI (P ++ b :: a :: r) = R3 at d2 ⊢
    generalize tupI (P ++ [b, a]) = R2 at *
    generalize tupI r = R1 at *
    generalize tupI P = PP at *
    simp [fnP, fnB, start0, sSeq, sIf, sNext, sStop, sRet, sAsg, sAsgO, sAsgD, sAsgE, sPutD, sRetD, getK, sMove, sDrop, sSet, sSet2, sAug, sPar, sAsgT, sFor, mVar, mOwn, mC, mBin, mUn, mTest, mTruth, mNotT, mAndT, mOrT, mAndV, mOrV, mNotV, mIf, mNil, mCons, dats, derefs, deref, derefsL, derefL, mTup, mLst, frz, mFrz, mCallB, ML.c1, ML.c2, retV, getL, asD, asF, isB, isI, mSl, mPart, mNoP, mIs, mIs2, fIsi, fIsi2, ML.kindOf, tyB, mMut, mExt, mCall, mCallS, mBag, mBagT, mCallK, permL, mIt, mItD, mIRev, itD, gN, gT, gTL, gsN, gsC, fI, ML.isNon, dIsB, dIsNotB, dAdd_int, dSub, dLt, dLe, dGe, dLen, dLenS, dIxS, dTuple, dListZ, dList, dNeg, dMax_int, dMin_int, wo, show Str.ofString "three" = wThree from rfl, show Str.ofString "once" = wOnce from rfl, w1, w2, st, s2, a0, a1, d1, d2]
  | @once a r =>
    have s1 : dSl GG (some ((p : Int) + 1)) none = some (.dat (tupI (a :: r))) := s1
    have d1 := add_tup (a := P) (b := a :: r) (by simp at ld ⊢; omega)
    have wo : F_law_word [GG, .int p] = some (.dat (.str wOnce)) := wo
    generalize tupI (P ++ a :: r) = R3 at d1 ⊢
    generalize tupI (a :: r) = R1 at *
    generalize tupI P = PP at *
    simp [fnP, fnB, start0, sSeq, sIf, sNext, sStop, sRet, sAsg, sAsgO, sAsgD, sAsgE, sPutD, sRetD, getK, sMove, sDrop, sSet, sSet2, sAug, sPar, sAsgT, sFor, mVar, mOwn, mC, mBin, mUn, mTest, mTruth, mNotT, mAndT, mOrT, mAndV, mOrV, mNotV, mIf, mNil, mCons, dats, derefs, deref, derefsL, derefL, mTup, mLst, frz, mFrz, mCallB, ML.c1, ML.c2, retV, getL, asD, asF, isB, isI, mSl, mPart, mNoP, mIs, mIs2, fIsi, fIsi2, ML.kindOf, tyB, mMut, mExt, mCall, mCallS, mBag, mBagT, mCallK, permL, mIt, mItD, mIRev, itD, gN, gT, gTL, gsN, gsC, fI, ML.isNon, dIsB, dIsNotB, dAdd_int, dSub, dLt, dLe, dGe, dLen, dLenS, dIxS, dTuple, dListZ, dList, dNeg, dMax_int, dMin_int, wo, show Str.ofString "three" = wThree from rfl, show Str.ofString "once" = wOnce from rfl, w4, st, s1, d1]
  | @three a b r h1 h2 =>
    have a0 := at0 a rfl
    have a1 := at1 b rfl
    have s3 : dSl GG (some ((p : Int) + 3)) none = some (.dat (tupI r)) := s3
    have d1 := add_tup (a := P) (b := [b, a]) (by simp; omega)
    have d2 := add_tup (a := P ++ [b, a]) (b := [b]) (by simp; omega)
    have d3 := add_tup (a := P ++ [b, a, b]) (b := r) (by simp at ld ⊢; omega)
    rw [List.append_assoc] at d2 d3
    have s4 : dSl (.tuple [PyData.int b, .int a]) none (some 1) = some (.dat (.tuple [.int b])) := rfl
    have d1 : dAdd (tupI P) (.tuple [.int b, .int a]) = some (.dat (tupI (P ++ [b, a]))) := d1
    have d2 : dAdd (tupI (P ++ [b, a])) (.tuple [.int b]) = some (.dat (tupI (P ++ [b, a, b]))) := d2
    have d3 : dAdd (tupI (P ++ [b, a, b])) (tupI r) = some (.dat (tupI (P ++ b :: a :: b :: r))) := d3
    have wo : F_law_word [GG, .int p] = some (.dat (.str wThree)) := wo
    generalize tupI (P ++ b :: a :: b :: r) = R4 at d3 ⊢
    generalize tupI (P ++ [b, a, b]) = R3 at *
    generalize tupI (P ++ [b, a]) = R2 at *
    generalize tupI r = R1 at *
    generalize tupI P = PP at *
    simp [fnP, fnB, start0, sSeq, sIf, sNext, sStop, sRet, sAsg, sAsgO, sAsgD, sAsgE, sPutD, sRetD, getK, sMove, sDrop, sSet, sSet2, sAug, sPar, sAsgT, sFor, mVar, mOwn, mC, mBin, mUn, mTest, mTruth, mNotT, mAndT, mOrT, mAndV, mOrV, mNotV, mIf, mNil, mCons, dats, derefs, deref, derefsL, derefL, mTup, mLst, frz, mFrz, mCallB, ML.c1, ML.c2, retV, getL, asD, asF, isB, isI, mSl, mPart, mNoP, mIs, mIs2, fIsi, fIsi2, ML.kindOf, tyB, mMut, mExt, mCall, mCallS, mBag, mBagT, mCallK, permL, mIt, mItD, mIRev, itD, gN, gT, gTL, gsN, gsC, fI, ML.isNon, dIsB, dIsNotB, dAdd_int, dSub, dLt, dLe, dGe, dLen, dLenS, dIxS, dTuple, dListZ, dList, dNeg, dMax_int, dMin_int, wo, show Str.ofString "three" = wThree from rfl, show Str.ofString "once" = wOnce from rfl, w5, w7, st, s3, a0, a1, s4, d1, d2, d3]
/-! what is alike to itself -/
inductive Nice : Nat → PyData → Prop
  | non {n : Nat} : Nice n .none
  | bl {n : Nat} {b : Bool} : Nice n (.bool b)
  | int {n : Nat} {i : Int} : Nice n (.int i)
  | str {n : Nat} {w : Str} : PyData.strOk w = true → (w == w) = true → Nice n (.str w)
  | lst {n : Nat} {ds : List PyData} : ds.length ≤ 99999 → (∀ d ∈ ds, Nice n d) → Nice (n + 1) (.list ds)
  | tup {n : Nat} {ds : List PyData} : ds.length ≤ 99999 → (∀ d ∈ ds, Nice n d) → Nice (n + 1) (.tuple ds)
theorem nd_all {ds : List PyData} (h : ∀ d ∈ ds, d.hasDict = false) : PyData.hasDictAll ds = false := by
  induction ds with
  | nil => rfl
  | cons d ds ih => 
    show (PyData.hasDict d || PyData.hasDictAll ds) = false
    rw [h d (by simp), ih fun e he => h e (by simp [he])]; rfl
theorem Nice.nd {n : Nat} {d : PyData} (h : Nice n d) : d.hasDict = false := by
  induction h with
  | lst _ _ ih => exact nd_all ih
  | tup _ _ ih => exact nd_all ih
  | _ => rfl
theorem Nice.ints {n : Nat} {xs : List Int} (h : xs.length ≤ 99999) : Nice (n + 1) (tupI xs) := .tup (by rw [List.length_map]; exact h) fun d hd => by
  obtain ⟨i, _, rfl⟩ := List.mem_map.mp hd
  exact .int
theorem Nice.intsL {n : Nat} {xs : List Int} (h : xs.length ≤ 99999) : Nice (n + 1) (lstI xs) := .lst (by rw [List.length_map]; exact h) fun d hd => by
  obtain ⟨i, _, rfl⟩ := List.mem_map.mp hd
  exact .int
theorem dEq_same {w : Str} (h1 : PyData.strOk w = true) (h2 : (w == w) = true) : dEq (.str w) (.str w) = some (.dat (.bool true)) := by
  have s1 : SeqAt.shaped (.str w) = true := by
    show (PyData.strOk w && decide (0 ≤ 64)) = true
    rw [h1]; rfl
  unfold dEq; rw [if_pos ⟨s1, s1⟩]
  show some (MV.dat (.bool (w == w))) = _
  rw [h2]
theorem alike_refl : ∀ (n : Nat) (d : PyData), Nice n d → F_law_alike (n + 1) [d, d] = some (.dat (.bool true)) := by
  intro n
  induction n with
  | zero =>
    intro d h
    cases h with
    | non => simp [fnP, fnB, start0, sSeq, sIf, sNext, sStop, sRet, sAsg, sAsgO, sAsgD, sAsgE, sPutD, sRetD, getK, sMove, sDrop, sSet, sSet2, sAug, sPar, sAsgT, sFor, mVar, mOwn, mC, mBin, mUn, mTest, mTruth, mNotT, mAndT, mOrT, mAndV, mOrV, mNotV, mIf, mNil, mCons, dats, derefs, deref, derefsL, derefL, mTup, mLst, frz, mFrz, mCallB, ML.c1, ML.c2, retV, getL, asD, asF, isB, isI, mSl, mPart, mNoP, mIs, mIs2, fIsi, fIsi2, ML.kindOf, tyB, mMut, mExt, mCall, mCallS, mBag, mBagT, mCallK, permL, mIt, mItD, mIRev, itD, gN, gT, gTL, gsN, gsC, fI, ML.isNon, dIs, dIsNot, dIsB, dIsNotB, dAdd_int, dSub, dLt, dLe, dGt, dGe, dIx, dLen, dLenS, dIxS, dTuple, dListZ, dList, dAppend, dNeg, atI, ixN, dEq_int, dNe_int, dEq_bool, dNe_bool, dMax_int, dMin_int, F_law_alike, m_law_alike, PyData.hasDict, show dEq .none .none = some (.dat (.bool true)) from rfl]
    | bl => rename_i b; simp [fnP, fnB, start0, sSeq, sIf, sNext, sStop, sRet, sAsg, sAsgO, sAsgD, sAsgE, sPutD, sRetD, getK, sMove, sDrop, sSet, sSet2, sAug, sPar, sAsgT, sFor, mVar, mOwn, mC, mBin, mUn, mTest, mTruth, mNotT, mAndT, mOrT, mAndV, mOrV, mNotV, mIf, mNil, mCons, dats, derefs, deref, derefsL, derefL, mTup, mLst, frz, mFrz, mCallB, ML.c1, ML.c2, retV, getL, asD, asF, isB, isI, mSl, mPart, mNoP, mIs, mIs2, fIsi, fIsi2, ML.kindOf, tyB, mMut, mExt, mCall, mCallS, mBag, mBagT, mCallK, permL, mIt, mItD, mIRev, itD, gN, gT, gTL, gsN, gsC, fI, ML.isNon, dIs, dIsNot, dIsB, dIsNotB, dAdd_int, dSub, dLt, dLe, dGt, dGe, dIx, dLen, dLenS, dIxS, dTuple, dListZ, dList, dAppend, dNeg, atI, ixN, dEq_int, dNe_int, dEq_bool, dNe_bool, dMax_int, dMin_int, F_law_alike, m_law_alike, PyData.hasDict, show dEq (.bool b) (.bool b) = some (.dat (.bool (b == b))) from rfl]
    | int => simp [fnP, fnB, start0, sSeq, sIf, sNext, sStop, sRet, sAsg, sAsgO, sAsgD, sAsgE, sPutD, sRetD, getK, sMove, sDrop, sSet, sSet2, sAug, sPar, sAsgT, sFor, mVar, mOwn, mC, mBin, mUn, mTest, mTruth, mNotT, mAndT, mOrT, mAndV, mOrV, mNotV, mIf, mNil, mCons, dats, derefs, deref, derefsL, derefL, mTup, mLst, frz, mFrz, mCallB, ML.c1, ML.c2, retV, getL, asD, asF, isB, isI, mSl, mPart, mNoP, mIs, mIs2, fIsi, fIsi2, ML.kindOf, tyB, mMut, mExt, mCall, mCallS, mBag, mBagT, mCallK, permL, mIt, mItD, mIRev, itD, gN, gT, gTL, gsN, gsC, fI, ML.isNon, dIs, dIsNot, dIsB, dIsNotB, dAdd_int, dSub, dLt, dLe, dGt, dGe, dIx, dLen, dLenS, dIxS, dTuple, dListZ, dList, dAppend, dNeg, atI, ixN, dEq_int, dNe_int, dEq_bool, dNe_bool, dMax_int, dMin_int, F_law_alike, m_law_alike, PyData.hasDict]
    | str h1 h2 => simp [fnP, fnB, start0, sSeq, sIf, sNext, sStop, sRet, sAsg, sAsgO, sAsgD, sAsgE, sPutD, sRetD, getK, sMove, sDrop, sSet, sSet2, sAug, sPar, sAsgT, sFor, mVar, mOwn, mC, mBin, mUn, mTest, mTruth, mNotT, mAndT, mOrT, mAndV, mOrV, mNotV, mIf, mNil, mCons, dats, derefs, deref, derefsL, derefL, mTup, mLst, frz, mFrz, mCallB, ML.c1, ML.c2, retV, getL, asD, asF, isB, isI, mSl, mPart, mNoP, mIs, mIs2, fIsi, fIsi2, ML.kindOf, tyB, mMut, mExt, mCall, mCallS, mBag, mBagT, mCallK, permL, mIt, mItD, mIRev, itD, gN, gT, gTL, gsN, gsC, fI, ML.isNon, dIs, dIsNot, dIsB, dIsNotB, dAdd_int, dSub, dLt, dLe, dGt, dGe, dIx, dLen, dLenS, dIxS, dTuple, dListZ, dList, dAppend, dNeg, atI, ixN, dEq_int, dNe_int, dEq_bool, dNe_bool, dMax_int, dMin_int, F_law_alike, m_law_alike, PyData.hasDict, dEq_same h1 h2]
  | succ n ih =>
    have go : ∀ (t : Bool) (ds : List PyData), ds.length ≤ 99999 → (∀ d ∈ ds, Nice n d) → PyData.hasDictAll ds = false → F_law_alike (n + 1 + 1) [if t then .list ds else .tuple ds, if t then .list ds else .tuple ds] = some (.dat (.bool true)) := fun t ds hl ha nd => by
      have lc := lc_map (tg := gN 2) (tt := mYes) (te := e_law_alike_1 (F_law_alike (n + 1))) (vs := [2]) (fun _ => .bool true) (rgD 0 (ds.length : Int)) [some (if t then .list ds else .tuple ds), some (if t then .list ds else .tuple ds), none] [] (by rw [rgD_nat]; simp; omega) fun d hd => by
        rw [rgD_nat] at hd
        obtain ⟨k, hk, rfl⟩ := List.mem_map.mp hd
        have hk := List.mem_range.mp hk
        refine ⟨[some (if t then .list ds else .tuple ds), some (if t then .list ds else .tuple ds), some (.int k)], [some (if t then .list ds else .tuple ds), some (if t then .list ds else .tuple ds), some (.int k)], rfl, rfl, ?_, rfl⟩
        have at1 : atI ds (k : Int) = some ds[k] := by rw [atI_at (by omega) (by omega)]; simp [hk]
        have := ih ds[k] (ha _ (List.getElem_mem hk))
        cases t <;> simp [fnP, fnB, start0, sSeq, sIf, sNext, sStop, sRet, sAsg, sAsgO, sAsgD, sAsgE, sPutD, sRetD, getK, sMove, sDrop, sSet, sSet2, sAug, sPar, sAsgT, sFor, mVar, mOwn, mC, mBin, mUn, mTest, mTruth, mNotT, mAndT, mOrT, mAndV, mOrV, mNotV, mIf, mNil, mCons, dats, derefs, deref, derefsL, derefL, mTup, mLst, frz, mFrz, mCallB, ML.c1, ML.c2, retV, getL, asD, asF, isB, isI, mSl, mPart, mNoP, mIs, mIs2, fIsi, fIsi2, ML.kindOf, tyB, mMut, mExt, mCall, mCallS, mBag, mBagT, mCallK, permL, mIt, mItD, mIRev, itD, gN, gT, gTL, gsN, gsC, fI, ML.isNon, dIs, dIsNot, dIsB, dIsNotB, dAdd_int, dSub, dLt, dLe, dGt, dGe, dIx, dLen, dLenS, dIxS, dTuple, dListZ, dList, dNeg, dEq_int, dNe_int, dEq_bool, dNe_bool, dMax_int, dMin_int, e_law_alike_1, at1, this]
      have all : dAll (.list ((rgD 0 (ds.length : Int)).map fun _ => PyData.bool true)) = some (.dat (.bool true)) := by
        show (boolsOf ((rgD 0 (ds.length : Int)).map fun d => PyData.bool ((fun _ => true) d))).map _ = _
        rw [boolsOf_all]
        simp
      have rb : rgB 0 (ds.length : Int) = true := rgB_nat (by omega) (by omega)
      simp at lc all
      unfold F_law_alike
      cases t <;> (simp at lc; simp [fnP, fnB, start0, sSeq, sIf, sNext, sStop, sRet, sAsg, sAsgO, sAsgD, sAsgE, sPutD, sRetD, getK, sMove, sDrop, sSet, sSet2, sAug, sPar, sAsgT, sFor, mVar, mOwn, mC, mBin, mUn, mTest, mTruth, mNotT, mAndT, mOrT, mAndV, mOrV, mNotV, mIf, mNil, mCons, dats, derefs, deref, derefsL, derefL, mTup, mLst, frz, mFrz, mCallB, ML.c1, ML.c2, retV, getL, asD, asF, isB, isI, mSl, mPart, mNoP, mIs, mIs2, fIsi, fIsi2, ML.kindOf, tyB, mMut, mExt, mCall, mCallS, mBag, mBagT, mCallK, permL, mIt, mItD, mIRev, itD, gN, gT, gTL, gsN, gsC, fI, ML.isNon, dIs, dIsNot, dIsB, dIsNotB, dAdd_int, dSub, dLt, dLe, dGt, dGe, dIx, dLen, dLenS, dIxS, dTuple, dListZ, dList, dAppend, dNeg, atI, ixN, dEq_int, dNe_int, dEq_bool, dNe_bool, dMax_int, dMin_int, m_law_alike, PyData.hasDict, nd, mLc, mIR1, wipeM, restM, rb, lc, all])
    intro d h
    cases h with
    | non => unfold F_law_alike; simp [fnP, fnB, start0, sSeq, sIf, sNext, sStop, sRet, sAsg, sAsgO, sAsgD, sAsgE, sPutD, sRetD, getK, sMove, sDrop, sSet, sSet2, sAug, sPar, sAsgT, sFor, mVar, mOwn, mC, mBin, mUn, mTest, mTruth, mNotT, mAndT, mOrT, mAndV, mOrV, mNotV, mIf, mNil, mCons, dats, derefs, deref, derefsL, derefL, mTup, mLst, frz, mFrz, mCallB, ML.c1, ML.c2, retV, getL, asD, asF, isB, isI, mSl, mPart, mNoP, mIs, mIs2, fIsi, fIsi2, ML.kindOf, tyB, mMut, mExt, mCall, mCallS, mBag, mBagT, mCallK, permL, mIt, mItD, mIRev, itD, gN, gT, gTL, gsN, gsC, fI, ML.isNon, dIs, dIsNot, dIsB, dIsNotB, dAdd_int, dSub, dLt, dLe, dGt, dGe, dIx, dLen, dLenS, dIxS, dTuple, dListZ, dList, dAppend, dNeg, atI, ixN, dEq_int, dNe_int, dEq_bool, dNe_bool, dMax_int, dMin_int, m_law_alike, PyData.hasDict, show dEq .none .none = some (.dat (.bool true)) from rfl]
    | bl => rename_i b; unfold F_law_alike; simp [fnP, fnB, start0, sSeq, sIf, sNext, sStop, sRet, sAsg, sAsgO, sAsgD, sAsgE, sPutD, sRetD, getK, sMove, sDrop, sSet, sSet2, sAug, sPar, sAsgT, sFor, mVar, mOwn, mC, mBin, mUn, mTest, mTruth, mNotT, mAndT, mOrT, mAndV, mOrV, mNotV, mIf, mNil, mCons, dats, derefs, deref, derefsL, derefL, mTup, mLst, frz, mFrz, mCallB, ML.c1, ML.c2, retV, getL, asD, asF, isB, isI, mSl, mPart, mNoP, mIs, mIs2, fIsi, fIsi2, ML.kindOf, tyB, mMut, mExt, mCall, mCallS, mBag, mBagT, mCallK, permL, mIt, mItD, mIRev, itD, gN, gT, gTL, gsN, gsC, fI, ML.isNon, dIs, dIsNot, dIsB, dIsNotB, dAdd_int, dSub, dLt, dLe, dGt, dGe, dIx, dLen, dLenS, dIxS, dTuple, dListZ, dList, dAppend, dNeg, atI, ixN, dEq_int, dNe_int, dEq_bool, dNe_bool, dMax_int, dMin_int, m_law_alike, PyData.hasDict, show dEq (.bool b) (.bool b) = some (.dat (.bool (b == b))) from rfl]
    | int => unfold F_law_alike; simp [fnP, fnB, start0, sSeq, sIf, sNext, sStop, sRet, sAsg, sAsgO, sAsgD, sAsgE, sPutD, sRetD, getK, sMove, sDrop, sSet, sSet2, sAug, sPar, sAsgT, sFor, mVar, mOwn, mC, mBin, mUn, mTest, mTruth, mNotT, mAndT, mOrT, mAndV, mOrV, mNotV, mIf, mNil, mCons, dats, derefs, deref, derefsL, derefL, mTup, mLst, frz, mFrz, mCallB, ML.c1, ML.c2, retV, getL, asD, asF, isB, isI, mSl, mPart, mNoP, mIs, mIs2, fIsi, fIsi2, ML.kindOf, tyB, mMut, mExt, mCall, mCallS, mBag, mBagT, mCallK, permL, mIt, mItD, mIRev, itD, gN, gT, gTL, gsN, gsC, fI, ML.isNon, dIs, dIsNot, dIsB, dIsNotB, dAdd_int, dSub, dLt, dLe, dGt, dGe, dIx, dLen, dLenS, dIxS, dTuple, dListZ, dList, dAppend, dNeg, atI, ixN, dEq_int, dNe_int, dEq_bool, dNe_bool, dMax_int, dMin_int, m_law_alike, PyData.hasDict]
    | str h1 h2 => unfold F_law_alike; simp [fnP, fnB, start0, sSeq, sIf, sNext, sStop, sRet, sAsg, sAsgO, sAsgD, sAsgE, sPutD, sRetD, getK, sMove, sDrop, sSet, sSet2, sAug, sPar, sAsgT, sFor, mVar, mOwn, mC, mBin, mUn, mTest, mTruth, mNotT, mAndT, mOrT, mAndV, mOrV, mNotV, mIf, mNil, mCons, dats, derefs, deref, derefsL, derefL, mTup, mLst, frz, mFrz, mCallB, ML.c1, ML.c2, retV, getL, asD, asF, isB, isI, mSl, mPart, mNoP, mIs, mIs2, fIsi, fIsi2, ML.kindOf, tyB, mMut, mExt, mCall, mCallS, mBag, mBagT, mCallK, permL, mIt, mItD, mIRev, itD, gN, gT, gTL, gsN, gsC, fI, ML.isNon, dIs, dIsNot, dIsB, dIsNotB, dAdd_int, dSub, dLt, dLe, dGt, dGe, dIx, dLen, dLenS, dIxS, dTuple, dListZ, dList, dAppend, dNeg, atI, ixN, dEq_int, dNe_int, dEq_bool, dNe_bool, dMax_int, dMin_int, m_law_alike, PyData.hasDict, dEq_same h1 h2]
    | lst hl ha => exact go true _ hl ha (nd_all fun d hd => (ha d hd).nd)
    | tup hl ha => exact go false _ hl ha (nd_all fun d hd => (ha d hd).nd)
/-! what is refused -/
def inL (L : List PyData) (d : PyData) : Bool := L.any fun z => PyData.eqv z d
theorem in_any (neg : Bool) {L : List PyData} {d : PyData} (sd : SeqAt.shaped d = true) (sl : SeqAt.shaped (.list L) = true) : dInZ neg d (.list L) = some (.dat (.bool (if neg then !inL L d else inL L d))) := by
  letI : KF := ⟨[]⟩
  refine orF_l ?_
  have hD : dInD neg d (.list L) = some (.dat (.bool (if neg then !inL L d else inL L d))) := by
    show (if SeqAt.shaped d = true ∧ SeqAt.shaped (.list L) = true then some (MV.dat (.bool (if neg then !(L.any fun z => PyData.eqv z d) else L.any fun z => PyData.eqv z d))) else none) = _
    rw [if_pos ⟨sd, sl⟩]
    rfl
  by_cases z : flatD d = true ∧ L.all flatD = true
  · refine orF_l ?_
    show (inB d L).map (fun b => MV.dat (.bool (if neg then !b else b))) = _
    unfold inB
    rw [if_pos z]
    rfl
  · refine orF_r ?_ hD
    show (inB d L).map (fun b => MV.dat (.bool (if neg then !b else b))) = none
    unfold inB
    rw [if_neg z]
    rfl
def Refd (gs : List Int) (d : PyData) : Prop := F_law_refused [tupI gs, d] = some (.dat (.bool true))
theorem ref_of {gs : List Int} {d : PyData} (h1 : F_stepped [tupI gs, d] = none) (h2 : R_stepped [tupI gs, d] = some ⟨"NoStep", none⟩) : Refd gs d := by
  unfold Refd
  generalize tupI gs = GG at *
  simp [fnP, fnB, start0, sSeq, sIf, sNext, sStop, sRet, sAsg, sAsgO, sAsgD, sAsgE, sPutD, sRetD, getK, sMove, sDrop, sSet, sSet2, sAug, sPar, sAsgT, sFor, mVar, mOwn, mC, mBin, mUn, mTest, mTruth, mNotT, mAndT, mOrT, mAndV, mOrV, mNotV, mIf, mNil, mCons, dats, derefs, deref, derefsL, derefL, mTup, mLst, frz, mFrz, mCallB, ML.c1, ML.c2, retV, getL, asD, asF, isB, isI, mSl, mPart, mNoP, mIs, mIs2, fIsi, fIsi2, ML.kindOf, tyB, mMut, mExt, mCall, mCallS, mBag, mBagT, mCallK, permL, mIt, mItD, mIRev, itD, gN, gT, gTL, gsN, gsC, fI, ML.isNon, dIs, dIsNot, dIsB, dIsNotB, dAdd_int, dSub, dLt, dLe, dGt, dGe, dIx, dLen, dLenS, dIxS, dTuple, dListZ, dList, dNeg, dEq_bool, dNe_bool, dMax_int, dMin_int, F_law_refused, m_law_refused, sTryAs, rCall, sTrue, h1, h2]
section
variable {gs : List Int} (hg : ∀ g ∈ gs, 0 ≤ g ∧ g < 8) (hl : gs.length ≤ 1000)
include hg hl
theorem ref_two {x y : PyData} (hx : F_is_whole_goings [x] = some (.dat (.bool false))) (hd : PyData.hasDict x = false ∧ PyData.hasDict y = false) : Refd gs (.tuple [x, y]) := by
  have so := steps_ok hg hl
  have a0 : atI [x, y] 0 = some x := rfl
  have hd : PyData.hasDictAll [x, y] = false := by
    show (PyData.hasDict x || (PyData.hasDict y || false)) = false
    rw [hd.1, hd.2]; rfl
  generalize (stP gs).map (stD gs) = SL at *
  refine ref_of ?_ ?_
  · generalize tupI gs = GG at *
    simp [fnP, fnB, start0, sSeq, sIf, sNext, sStop, sRet, sAsg, sAsgO, sAsgD, sAsgE, sPutD, sRetD, getK, sMove, sDrop, sSet, sSet2, sAug, sPar, sAsgT, sFor, mVar, mOwn, mC, mBin, mUn, mTest, mTruth, mNotT, mAndT, mOrT, mAndV, mOrV, mNotV, mIf, mNil, mCons, dats, derefs, deref, derefsL, derefL, mTup, mLst, frz, mFrz, mCallB, ML.c1, ML.c2, retV, getL, asD, asF, isB, isI, mSl, mPart, mNoP, mIs, mIs2, fIsi, fIsi2, ML.kindOf, tyB, mMut, mExt, mCall, mCallS, mBag, mBagT, mCallK, permL, mIt, mItD, mIRev, itD, gN, gT, gTL, gsN, gsC, fI, ML.isNon, dIs, dIsNot, dIsB, dIsNotB, dAdd_int, dSub, dLt, dLe, dGt, dGe, dIx, dLen, dLenS, dIxS, dTuple, dListZ, dList, dNeg, dEq_bool, dNe_bool, dMax_int, dMin_int, F_stepped, m_stepped, so, PyData.hasDict, hd, dNe_int, a0, hx]
  · generalize tupI gs = GG at *
    simp [fnP, fnB, start0, sSeq, sIf, sNext, sStop, sRet, sAsg, sAsgO, sAsgD, sAsgE, sPutD, sRetD, getK, sMove, sDrop, sSet, sSet2, sAug, sPar, sAsgT, sFor, mVar, mOwn, mC, mBin, mUn, mTest, mTruth, mNotT, mAndT, mOrT, mAndV, mOrV, mNotV, mIf, mNil, mCons, dats, derefs, deref, derefsL, derefL, mTup, mLst, frz, mFrz, mCallB, ML.c1, ML.c2, retV, getL, asD, asF, isB, isI, mSl, mPart, mNoP, mIs, mIs2, fIsi, fIsi2, ML.kindOf, tyB, mMut, mExt, mCall, mCallS, mBag, mBagT, mCallK, permL, mIt, mItD, mIRev, itD, gN, gT, gTL, gsN, gsC, fI, ML.isNon, dIs, dIsNot, dIsB, dIsNotB, dAdd_int, dSub, dLt, dLe, dGt, dGe, dIx, dLen, dLenS, dIxS, dTuple, dListZ, dList, dNeg, dEq_bool, dNe_bool, dMax_int, dMin_int, R_stepped, fnR, r_stepped, rSeq, rIf, rRaise, rNo, start0, so, PyData.hasDict, hd, dNe_int, a0, hx]
theorem ref_one {x : PyData} (hd : PyData.hasDict x = false) : Refd gs (.tuple [x]) := by
  have so := steps_ok hg hl
  have hd : PyData.hasDictAll [x] = false := by
    show (PyData.hasDict x || false) = false
    rw [hd]; rfl
  generalize (stP gs).map (stD gs) = SL at *
  refine ref_of ?_ ?_
  · generalize tupI gs = GG at *
    simp [fnP, fnB, start0, sSeq, sIf, sNext, sStop, sRet, sAsg, sAsgO, sAsgD, sAsgE, sPutD, sRetD, getK, sMove, sDrop, sSet, sSet2, sAug, sPar, sAsgT, sFor, mVar, mOwn, mC, mBin, mUn, mTest, mTruth, mNotT, mAndT, mOrT, mAndV, mOrV, mNotV, mIf, mNil, mCons, dats, derefs, deref, derefsL, derefL, mTup, mLst, frz, mFrz, mCallB, ML.c1, ML.c2, retV, getL, asD, asF, isB, isI, mSl, mPart, mNoP, mIs, mIs2, fIsi, fIsi2, ML.kindOf, tyB, mMut, mExt, mCall, mCallS, mBag, mBagT, mCallK, permL, mIt, mItD, mIRev, itD, gN, gT, gTL, gsN, gsC, fI, ML.isNon, dIs, dIsNot, dIsB, dIsNotB, dAdd_int, dSub, dLt, dLe, dGt, dGe, dIx, dLen, dLenS, dIxS, dTuple, dListZ, dList, dNeg, dEq_bool, dNe_bool, dMax_int, dMin_int, F_stepped, m_stepped, so, PyData.hasDict, hd, dNe_int]
  · generalize tupI gs = GG at *
    simp [fnP, fnB, start0, sSeq, sIf, sNext, sStop, sRet, sAsg, sAsgO, sAsgD, sAsgE, sPutD, sRetD, getK, sMove, sDrop, sSet, sSet2, sAug, sPar, sAsgT, sFor, mVar, mOwn, mC, mBin, mUn, mTest, mTruth, mNotT, mAndT, mOrT, mAndV, mOrV, mNotV, mIf, mNil, mCons, dats, derefs, deref, derefsL, derefL, mTup, mLst, frz, mFrz, mCallB, ML.c1, ML.c2, retV, getL, asD, asF, isB, isI, mSl, mPart, mNoP, mIs, mIs2, fIsi, fIsi2, ML.kindOf, tyB, mMut, mExt, mCall, mCallS, mBag, mBagT, mCallK, permL, mIt, mItD, mIRev, itD, gN, gT, gTL, gsN, gsC, fI, ML.isNon, dIs, dIsNot, dIsB, dIsNotB, dAdd_int, dSub, dLt, dLe, dGt, dGe, dIx, dLen, dLenS, dIxS, dTuple, dListZ, dList, dNeg, dEq_bool, dNe_bool, dMax_int, dMin_int, R_stepped, fnR, r_stepped, rSeq, rIf, rRaise, rNo, start0, so, PyData.hasDict, hd, dNe_int]
theorem ref_three {x y z : PyData} (h1 : PyData.hasDict x = false) (h2 : PyData.hasDict y = false) (h3 : PyData.hasDict z = false) : Refd gs (.tuple [x, y, z]) := by
  have so := steps_ok hg hl
  have hd : PyData.hasDictAll [x, y, z] = false := by
    show (PyData.hasDict x || (PyData.hasDict y || (PyData.hasDict z || false))) = false
    rw [h1, h2, h3]; rfl
  generalize (stP gs).map (stD gs) = SL at *
  refine ref_of ?_ ?_
  · generalize tupI gs = GG at *
    simp [fnP, fnB, start0, sSeq, sIf, sNext, sStop, sRet, sAsg, sAsgO, sAsgD, sAsgE, sPutD, sRetD, getK, sMove, sDrop, sSet, sSet2, sAug, sPar, sAsgT, sFor, mVar, mOwn, mC, mBin, mUn, mTest, mTruth, mNotT, mAndT, mOrT, mAndV, mOrV, mNotV, mIf, mNil, mCons, dats, derefs, deref, derefsL, derefL, mTup, mLst, frz, mFrz, mCallB, ML.c1, ML.c2, retV, getL, asD, asF, isB, isI, mSl, mPart, mNoP, mIs, mIs2, fIsi, fIsi2, ML.kindOf, tyB, mMut, mExt, mCall, mCallS, mBag, mBagT, mCallK, permL, mIt, mItD, mIRev, itD, gN, gT, gTL, gsN, gsC, fI, ML.isNon, dIs, dIsNot, dIsB, dIsNotB, dAdd_int, dSub, dLt, dLe, dGt, dGe, dIx, dLen, dLenS, dIxS, dTuple, dListZ, dList, dNeg, dEq_bool, dNe_bool, dMax_int, dMin_int, F_stepped, m_stepped, so, PyData.hasDict, hd, dNe_int]
  · generalize tupI gs = GG at *
    simp [fnP, fnB, start0, sSeq, sIf, sNext, sStop, sRet, sAsg, sAsgO, sAsgD, sAsgE, sPutD, sRetD, getK, sMove, sDrop, sSet, sSet2, sAug, sPar, sAsgT, sFor, mVar, mOwn, mC, mBin, mUn, mTest, mTruth, mNotT, mAndT, mOrT, mAndV, mOrV, mNotV, mIf, mNil, mCons, dats, derefs, deref, derefsL, derefL, mTup, mLst, frz, mFrz, mCallB, ML.c1, ML.c2, retV, getL, asD, asF, isB, isI, mSl, mPart, mNoP, mIs, mIs2, fIsi, fIsi2, ML.kindOf, tyB, mMut, mExt, mCall, mCallS, mBag, mBagT, mCallK, permL, mIt, mItD, mIRev, itD, gN, gT, gTL, gsN, gsC, fI, ML.isNon, dIs, dIsNot, dIsB, dIsNotB, dAdd_int, dSub, dLt, dLe, dGt, dGe, dIx, dLen, dLenS, dIxS, dTuple, dListZ, dList, dNeg, dEq_bool, dNe_bool, dMax_int, dMin_int, R_stepped, fnR, r_stepped, rSeq, rIf, rRaise, rNo, start0, so, PyData.hasDict, hd, dNe_int]
theorem ref_none : Refd gs .none := by
  have so := steps_ok hg hl
  generalize (stP gs).map (stD gs) = SL at *
  refine ref_of ?_ ?_
  · generalize tupI gs = GG at *
    simp [fnP, fnB, start0, sSeq, sIf, sNext, sStop, sRet, sAsg, sAsgO, sAsgD, sAsgE, sPutD, sRetD, getK, sMove, sDrop, sSet, sSet2, sAug, sPar, sAsgT, sFor, mVar, mOwn, mC, mBin, mUn, mTest, mTruth, mNotT, mAndT, mOrT, mAndV, mOrV, mNotV, mIf, mNil, mCons, dats, derefs, deref, derefsL, derefL, mTup, mLst, frz, mFrz, mCallB, ML.c1, ML.c2, retV, getL, asD, asF, isB, isI, mSl, mPart, mNoP, mIs, mIs2, fIsi, fIsi2, ML.kindOf, tyB, mMut, mExt, mCall, mCallS, mBag, mBagT, mCallK, permL, mIt, mItD, mIRev, itD, gN, gT, gTL, gsN, gsC, fI, ML.isNon, dIs, dIsNot, dIsB, dIsNotB, dAdd_int, dSub, dLt, dLe, dGt, dGe, dIx, dLen, dLenS, dIxS, dTuple, dListZ, dList, dNeg, dEq_bool, dNe_bool, dMax_int, dMin_int, F_stepped, m_stepped, so, PyData.hasDict]
  · generalize tupI gs = GG at *
    simp [fnP, fnB, start0, sSeq, sIf, sNext, sStop, sRet, sAsg, sAsgO, sAsgD, sAsgE, sPutD, sRetD, getK, sMove, sDrop, sSet, sSet2, sAug, sPar, sAsgT, sFor, mVar, mOwn, mC, mBin, mUn, mTest, mTruth, mNotT, mAndT, mOrT, mAndV, mOrV, mNotV, mIf, mNil, mCons, dats, derefs, deref, derefsL, derefL, mTup, mLst, frz, mFrz, mCallB, ML.c1, ML.c2, retV, getL, asD, asF, isB, isI, mSl, mPart, mNoP, mIs, mIs2, fIsi, fIsi2, ML.kindOf, tyB, mMut, mExt, mCall, mCallS, mBag, mBagT, mCallK, permL, mIt, mItD, mIRev, itD, gN, gT, gTL, gsN, gsC, fI, ML.isNon, dIs, dIsNot, dIsB, dIsNotB, dAdd_int, dSub, dLt, dLe, dGt, dGe, dIx, dLen, dLenS, dIxS, dTuple, dListZ, dList, dNeg, dEq_bool, dNe_bool, dMax_int, dMin_int, R_stepped, fnR, r_stepped, rSeq, rIf, rRaise, rNo, start0, so, PyData.hasDict]
theorem ref_int {i : Int} : Refd gs (.int i) := by
  have so := steps_ok hg hl
  generalize (stP gs).map (stD gs) = SL at *
  refine ref_of ?_ ?_
  · generalize tupI gs = GG at *
    simp [fnP, fnB, start0, sSeq, sIf, sNext, sStop, sRet, sAsg, sAsgO, sAsgD, sAsgE, sPutD, sRetD, getK, sMove, sDrop, sSet, sSet2, sAug, sPar, sAsgT, sFor, mVar, mOwn, mC, mBin, mUn, mTest, mTruth, mNotT, mAndT, mOrT, mAndV, mOrV, mNotV, mIf, mNil, mCons, dats, derefs, deref, derefsL, derefL, mTup, mLst, frz, mFrz, mCallB, ML.c1, ML.c2, retV, getL, asD, asF, isB, isI, mSl, mPart, mNoP, mIs, mIs2, fIsi, fIsi2, ML.kindOf, tyB, mMut, mExt, mCall, mCallS, mBag, mBagT, mCallK, permL, mIt, mItD, mIRev, itD, gN, gT, gTL, gsN, gsC, fI, ML.isNon, dIs, dIsNot, dIsB, dIsNotB, dAdd_int, dSub, dLt, dLe, dGt, dGe, dIx, dLen, dLenS, dIxS, dTuple, dListZ, dList, dNeg, dEq_bool, dNe_bool, dMax_int, dMin_int, F_stepped, m_stepped, so, PyData.hasDict]
  · generalize tupI gs = GG at *
    simp [fnP, fnB, start0, sSeq, sIf, sNext, sStop, sRet, sAsg, sAsgO, sAsgD, sAsgE, sPutD, sRetD, getK, sMove, sDrop, sSet, sSet2, sAug, sPar, sAsgT, sFor, mVar, mOwn, mC, mBin, mUn, mTest, mTruth, mNotT, mAndT, mOrT, mAndV, mOrV, mNotV, mIf, mNil, mCons, dats, derefs, deref, derefsL, derefL, mTup, mLst, frz, mFrz, mCallB, ML.c1, ML.c2, retV, getL, asD, asF, isB, isI, mSl, mPart, mNoP, mIs, mIs2, fIsi, fIsi2, ML.kindOf, tyB, mMut, mExt, mCall, mCallS, mBag, mBagT, mCallK, permL, mIt, mItD, mIRev, itD, gN, gT, gTL, gsN, gsC, fI, ML.isNon, dIs, dIsNot, dIsB, dIsNotB, dAdd_int, dSub, dLt, dLe, dGt, dGe, dIx, dLen, dLenS, dIxS, dTuple, dListZ, dList, dNeg, dEq_bool, dNe_bool, dMax_int, dMin_int, R_stepped, fnR, r_stepped, rSeq, rIf, rRaise, rNo, start0, so, PyData.hasDict]
theorem ref_str {w : Str} : Refd gs (.str w) := by
  have so := steps_ok hg hl
  generalize (stP gs).map (stD gs) = SL at *
  refine ref_of ?_ ?_
  · generalize tupI gs = GG at *
    simp [fnP, fnB, start0, sSeq, sIf, sNext, sStop, sRet, sAsg, sAsgO, sAsgD, sAsgE, sPutD, sRetD, getK, sMove, sDrop, sSet, sSet2, sAug, sPar, sAsgT, sFor, mVar, mOwn, mC, mBin, mUn, mTest, mTruth, mNotT, mAndT, mOrT, mAndV, mOrV, mNotV, mIf, mNil, mCons, dats, derefs, deref, derefsL, derefL, mTup, mLst, frz, mFrz, mCallB, ML.c1, ML.c2, retV, getL, asD, asF, isB, isI, mSl, mPart, mNoP, mIs, mIs2, fIsi, fIsi2, ML.kindOf, tyB, mMut, mExt, mCall, mCallS, mBag, mBagT, mCallK, permL, mIt, mItD, mIRev, itD, gN, gT, gTL, gsN, gsC, fI, ML.isNon, dIs, dIsNot, dIsB, dIsNotB, dAdd_int, dSub, dLt, dLe, dGt, dGe, dIx, dLen, dLenS, dIxS, dTuple, dListZ, dList, dNeg, dEq_bool, dNe_bool, dMax_int, dMin_int, F_stepped, m_stepped, so, PyData.hasDict]
  · generalize tupI gs = GG at *
    simp [fnP, fnB, start0, sSeq, sIf, sNext, sStop, sRet, sAsg, sAsgO, sAsgD, sAsgE, sPutD, sRetD, getK, sMove, sDrop, sSet, sSet2, sAug, sPar, sAsgT, sFor, mVar, mOwn, mC, mBin, mUn, mTest, mTruth, mNotT, mAndT, mOrT, mAndV, mOrV, mNotV, mIf, mNil, mCons, dats, derefs, deref, derefsL, derefL, mTup, mLst, frz, mFrz, mCallB, ML.c1, ML.c2, retV, getL, asD, asF, isB, isI, mSl, mPart, mNoP, mIs, mIs2, fIsi, fIsi2, ML.kindOf, tyB, mMut, mExt, mCall, mCallS, mBag, mBagT, mCallK, permL, mIt, mItD, mIRev, itD, gN, gT, gTL, gsN, gsC, fI, ML.isNon, dIs, dIsNot, dIsB, dIsNotB, dAdd_int, dSub, dLt, dLe, dGt, dGe, dIx, dLen, dLenS, dIxS, dTuple, dListZ, dList, dNeg, dEq_bool, dNe_bool, dMax_int, dMin_int, R_stepped, fnR, r_stepped, rSeq, rIf, rRaise, rNo, start0, so, PyData.hasDict]
theorem ref_list {x y : PyData} (h1 : PyData.hasDict x = false) (h2 : PyData.hasDict y = false) : Refd gs (.list [x, y]) := by
  have so := steps_ok hg hl
  have hd : PyData.hasDictAll [x, y] = false := by
    show (PyData.hasDict x || (PyData.hasDict y || false)) = false
    rw [h1, h2]; rfl
  generalize (stP gs).map (stD gs) = SL at *
  refine ref_of ?_ ?_
  · generalize tupI gs = GG at *
    simp [fnP, fnB, start0, sSeq, sIf, sNext, sStop, sRet, sAsg, sAsgO, sAsgD, sAsgE, sPutD, sRetD, getK, sMove, sDrop, sSet, sSet2, sAug, sPar, sAsgT, sFor, mVar, mOwn, mC, mBin, mUn, mTest, mTruth, mNotT, mAndT, mOrT, mAndV, mOrV, mNotV, mIf, mNil, mCons, dats, derefs, deref, derefsL, derefL, mTup, mLst, frz, mFrz, mCallB, ML.c1, ML.c2, retV, getL, asD, asF, isB, isI, mSl, mPart, mNoP, mIs, mIs2, fIsi, fIsi2, ML.kindOf, tyB, mMut, mExt, mCall, mCallS, mBag, mBagT, mCallK, permL, mIt, mItD, mIRev, itD, gN, gT, gTL, gsN, gsC, fI, ML.isNon, dIs, dIsNot, dIsB, dIsNotB, dAdd_int, dSub, dLt, dLe, dGt, dGe, dIx, dLen, dLenS, dIxS, dTuple, dListZ, dList, dNeg, dEq_bool, dNe_bool, dMax_int, dMin_int, F_stepped, m_stepped, so, PyData.hasDict, hd]
  · generalize tupI gs = GG at *
    simp [fnP, fnB, start0, sSeq, sIf, sNext, sStop, sRet, sAsg, sAsgO, sAsgD, sAsgE, sPutD, sRetD, getK, sMove, sDrop, sSet, sSet2, sAug, sPar, sAsgT, sFor, mVar, mOwn, mC, mBin, mUn, mTest, mTruth, mNotT, mAndT, mOrT, mAndV, mOrV, mNotV, mIf, mNil, mCons, dats, derefs, deref, derefsL, derefL, mTup, mLst, frz, mFrz, mCallB, ML.c1, ML.c2, retV, getL, asD, asF, isB, isI, mSl, mPart, mNoP, mIs, mIs2, fIsi, fIsi2, ML.kindOf, tyB, mMut, mExt, mCall, mCallS, mBag, mBagT, mCallK, permL, mIt, mItD, mIRev, itD, gN, gT, gTL, gsN, gsC, fI, ML.isNon, dIs, dIsNot, dIsB, dIsNotB, dAdd_int, dSub, dLt, dLe, dGt, dGe, dIx, dLen, dLenS, dIxS, dTuple, dListZ, dList, dNeg, dEq_bool, dNe_bool, dMax_int, dMin_int, R_stepped, fnR, r_stepped, rSeq, rIf, rRaise, rNo, start0, so, PyData.hasDict, hd]
theorem ref_far {k : Nat} {y : PyData} (hy : PyData.hasDict y = false) (sd : SeqAt.shaped (.tuple [.int (k : Int), y]) = true) (hn : inL ((stP gs).map (stD gs)) (.tuple [.int (k : Int), y]) = false) : Refd gs (.tuple [.int (k : Int), y]) := by
  have so := steps_ok hg hl
  have si := in_any true sd (std_shaped (all_std gs))
  rw [hn] at si
  have si : dInZ true (.tuple [.int (k : Int), y]) (.list ((stP gs).map (stD gs))) = some (.dat (.bool true)) := si
  have iw : F_is_whole_goings [.int (k : Int)] = some (.dat (.bool true)) := by
    simp [fnP, fnB, start0, sSeq, sIf, sNext, sStop, sRet, sAsg, sAsgO, sAsgD, sAsgE, sPutD, sRetD, getK, sMove, sDrop, sSet, sSet2, sAug, sPar, sAsgT, sFor, mVar, mOwn, mC, mBin, mUn, mTest, mTruth, mNotT, mAndT, mOrT, mAndV, mOrV, mNotV, mIf, mNil, mCons, dats, derefs, deref, derefsL, derefL, mTup, mLst, frz, mFrz, mCallB, ML.c1, ML.c2, retV, getL, asD, asF, isB, isI, mSl, mPart, mNoP, mIs, mIs2, fIsi, fIsi2, ML.kindOf, tyB, mMut, mExt, mCall, mCallS, mBag, mBagT, mCallK, permL, mIt, mItD, mIRev, itD, gN, gT, gTL, gsN, gsC, fI, ML.isNon, dIs, dIsNot, dIsB, dIsNotB, dAdd_int, dSub, dLt, dLe, dGt, dGe, dIx, dLen, dLenS, dIxS, dTuple, dListZ, dList, dAppend, dNeg, atI, ixN, dEq_int, dNe_int, dEq_bool, dNe_bool, dMax_int, dMin_int, F_is_whole_goings, m_is_whole_goings, PyData.hasDict]
  have a0 : atI [PyData.int (k : Int), y] 0 = some (.int (k : Int)) := rfl
  have hd : PyData.hasDictAll [PyData.int (k : Int), y] = false := by
    show (PyData.hasDict (.int (k : Int)) || (PyData.hasDict y || false)) = false
    rw [hy]; rfl
  generalize (stP gs).map (stD gs) = SL at *
  refine ref_of ?_ ?_
  · generalize tupI gs = GG at *
    simp [fnP, fnB, start0, sSeq, sIf, sNext, sStop, sRet, sAsg, sAsgO, sAsgD, sAsgE, sPutD, sRetD, getK, sMove, sDrop, sSet, sSet2, sAug, sPar, sAsgT, sFor, mVar, mOwn, mC, mBin, mUn, mTest, mTruth, mNotT, mAndT, mOrT, mAndV, mOrV, mNotV, mIf, mNil, mCons, dats, derefs, deref, derefsL, derefL, mTup, mLst, frz, mFrz, mCallB, ML.c1, ML.c2, retV, getL, asD, asF, isB, isI, mSl, mPart, mNoP, mIs, mIs2, fIsi, fIsi2, ML.kindOf, tyB, mMut, mExt, mCall, mCallS, mBag, mBagT, mCallK, permL, mIt, mItD, mIRev, itD, gN, gT, gTL, gsN, gsC, fI, ML.isNon, dIs, dIsNot, dIsB, dIsNotB, dAdd_int, dSub, dLt, dLe, dGt, dGe, dIx, dLen, dLenS, dIxS, dTuple, dListZ, dList, dNeg, dEq_bool, dNe_bool, dMax_int, dMin_int, F_stepped, m_stepped, so, PyData.hasDict, hd, dNe_int, a0, iw, si]
  · generalize tupI gs = GG at *
    simp [fnP, fnB, start0, sSeq, sIf, sNext, sStop, sRet, sAsg, sAsgO, sAsgD, sAsgE, sPutD, sRetD, getK, sMove, sDrop, sSet, sSet2, sAug, sPar, sAsgT, sFor, mVar, mOwn, mC, mBin, mUn, mTest, mTruth, mNotT, mAndT, mOrT, mAndV, mOrV, mNotV, mIf, mNil, mCons, dats, derefs, deref, derefsL, derefL, mTup, mLst, frz, mFrz, mCallB, ML.c1, ML.c2, retV, getL, asD, asF, isB, isI, mSl, mPart, mNoP, mIs, mIs2, fIsi, fIsi2, ML.kindOf, tyB, mMut, mExt, mCall, mCallS, mBag, mBagT, mCallK, permL, mIt, mItD, mIRev, itD, gN, gT, gTL, gsN, gsC, fI, ML.isNon, dIs, dIsNot, dIsB, dIsNotB, dAdd_int, dSub, dLt, dLe, dGt, dGe, dIx, dLen, dLenS, dIxS, dTuple, dListZ, dList, dNeg, dEq_bool, dNe_bool, dMax_int, dMin_int, R_stepped, fnR, r_stepped, rSeq, rIf, rRaise, rNo, start0, so, PyData.hasDict, hd, dNe_int, a0, iw, si]
end
theorem whole_neg : F_is_whole_goings [.int (-1)] = some (.dat (.bool false)) := by
  simp [fnP, fnB, start0, sSeq, sIf, sNext, sStop, sRet, sAsg, sAsgO, sAsgD, sAsgE, sPutD, sRetD, getK, sMove, sDrop, sSet, sSet2, sAug, sPar, sAsgT, sFor, mVar, mOwn, mC, mBin, mUn, mTest, mTruth, mNotT, mAndT, mOrT, mAndV, mOrV, mNotV, mIf, mNil, mCons, dats, derefs, deref, derefsL, derefL, mTup, mLst, frz, mFrz, mCallB, ML.c1, ML.c2, retV, getL, asD, asF, isB, isI, mSl, mPart, mNoP, mIs, mIs2, fIsi, fIsi2, ML.kindOf, tyB, mMut, mExt, mCall, mCallS, mBag, mBagT, mCallK, permL, mIt, mItD, mIRev, itD, gN, gT, gTL, gsN, gsC, fI, ML.isNon, dIs, dIsNot, dIsB, dIsNotB, dAdd_int, dSub, dLt, dLe, dGt, dGe, dIx, dLen, dLenS, dIxS, dTuple, dListZ, dList, dAppend, dNeg, atI, ixN, dEq_int, dNe_int, dEq_bool, dNe_bool, dMax_int, dMin_int, F_is_whole_goings, m_is_whole_goings, PyData.hasDict]
theorem whole_bool (b : Bool) : F_is_whole_goings [.bool b] = some (.dat (.bool false)) := by
  simp [fnP, fnB, start0, sSeq, sIf, sNext, sStop, sRet, sAsg, sAsgO, sAsgD, sAsgE, sPutD, sRetD, getK, sMove, sDrop, sSet, sSet2, sAug, sPar, sAsgT, sFor, mVar, mOwn, mC, mBin, mUn, mTest, mTruth, mNotT, mAndT, mOrT, mAndV, mOrV, mNotV, mIf, mNil, mCons, dats, derefs, deref, derefsL, derefL, mTup, mLst, frz, mFrz, mCallB, ML.c1, ML.c2, retV, getL, asD, asF, isB, isI, mSl, mPart, mNoP, mIs, mIs2, fIsi, fIsi2, ML.kindOf, tyB, mMut, mExt, mCall, mCallS, mBag, mBagT, mCallK, permL, mIt, mItD, mIRev, itD, gN, gT, gTL, gsN, gsC, fI, ML.isNon, dIs, dIsNot, dIsB, dIsNotB, dAdd_int, dSub, dLt, dLe, dGt, dGe, dIx, dLen, dLenS, dIxS, dTuple, dListZ, dList, dAppend, dNeg, atI, ixN, dEq_int, dNe_int, dEq_bool, dNe_bool, dMax_int, dMin_int, F_is_whole_goings, m_is_whole_goings, PyData.hasDict]
theorem whole_str (w : Str) : F_is_whole_goings [.str w] = some (.dat (.bool false)) := by
  simp [fnP, fnB, start0, sSeq, sIf, sNext, sStop, sRet, sAsg, sAsgO, sAsgD, sAsgE, sPutD, sRetD, getK, sMove, sDrop, sSet, sSet2, sAug, sPar, sAsgT, sFor, mVar, mOwn, mC, mBin, mUn, mTest, mTruth, mNotT, mAndT, mOrT, mAndV, mOrV, mNotV, mIf, mNil, mCons, dats, derefs, deref, derefsL, derefL, mTup, mLst, frz, mFrz, mCallB, ML.c1, ML.c2, retV, getL, asD, asF, isB, isI, mSl, mPart, mNoP, mIs, mIs2, fIsi, fIsi2, ML.kindOf, tyB, mMut, mExt, mCall, mCallS, mBag, mBagT, mCallK, permL, mIt, mItD, mIRev, itD, gN, gT, gTL, gsN, gsC, fI, ML.isNon, dIs, dIsNot, dIsB, dIsNotB, dAdd_int, dSub, dLt, dLe, dGt, dGe, dIx, dLen, dLenS, dIxS, dTuple, dListZ, dList, dAppend, dNeg, atI, ixN, dEq_int, dNe_int, dEq_bool, dNe_bool, dMax_int, dMin_int, F_is_whole_goings, m_is_whole_goings, PyData.hasDict]
/-! what none right gives -/
def Flt (d : PyData) : Prop := PyData.canLay0 d = true ∧ PyData.depth d = 0 ∧ PyData.hasDict d = false
theorem flt_int {i : Int} : Flt (.int i) := ⟨rfl, rfl, rfl⟩
theorem flt_bool {b : Bool} : Flt (.bool b) := ⟨rfl, rfl, rfl⟩
theorem flt_none : Flt .none := ⟨rfl, rfl, rfl⟩
theorem flt_str {w : Str} (h : PyData.strOk w = true) : Flt (.str w) := ⟨h, rfl, rfl⟩
theorem flt_all : ∀ xs : List PyData, (∀ x ∈ xs, Flt x) → PyData.canLayAll0 xs = true ∧ PyData.depthAll xs = 0
  | [], _ => ⟨rfl, rfl⟩
  | x :: xs, h => by
    obtain ⟨i1, i2⟩ := flt_all xs fun d hd => h d (by simp [hd])
    obtain ⟨h1, h2, _⟩ := h x (by simp)
    refine ⟨?_, ?_⟩
    · show (PyData.canLay0 x && PyData.canLayAll0 xs) = true
      rw [h1, i1]; rfl
    · show max (PyData.depth x) (PyData.depthAll xs) = 0
      rw [h2, i2]; rfl
theorem shp_tup {xs : List PyData} (h : ∀ x ∈ xs, Flt x) : SeqAt.shaped (.tuple xs) = true := by
  obtain ⟨i1, i2⟩ := flt_all xs h
  show (PyData.canLayAll0 xs && decide (PyData.depthAll xs + 1 ≤ 64)) = true
  rw [i1, i2]; rfl
theorem shp_lst {xs : List PyData} (h : ∀ x ∈ xs, Flt x) : SeqAt.shaped (.list xs) = true := by
  obtain ⟨i1, i2⟩ := flt_all xs h
  show (PyData.canLayAll0 xs && decide (PyData.depthAll xs + 1 ≤ 64)) = true
  rw [i1, i2]; rfl
theorem shp_flt {d : PyData} (h : Flt d) : SeqAt.shaped d = true := by
  show (PyData.canLay0 d && decide (PyData.depth d ≤ 64)) = true
  rw [h.1, h.2.1]; rfl
theorem inL_flat {L : List PyData} {d : PyData} (h : ∀ z ∈ L, Std z) (hf : ∀ xs, PyData.eqv (.tuple xs) d = false) : inL L d = false := by
  unfold inL
  rw [List.any_eq_false]
  intro z hz
  obtain ⟨p, w, _, rfl⟩ := h z hz
  rw [hf]
  exact fun z => nomatch z
def stL (gs : List Int) : List PyData := (stP gs).map (stD gs)
structure OddOk (gs : List Int) (d : PyData) : Prop where
  sd : SeqAt.shaped d = true
  h0 : inL (stL gs) d = false → Refd gs d
  h1 : inL (stL gs) d = true → (∃ i, dIx d (.int 0) = some (.dat (.int i))) ∨ (∃ w, dIx d (.int 0) = some (.dat (.str w))) ∨ ((∃ b, dIx d (.int 0) = some (.dat (.bool b))) ∧ Refd gs d)
noncomputable def finE : ME := mOrV (mAndV (mBin (dInZ false) (mVar 6) (mVar 2)) (mNotV (mIs "bool" (mBin dIx (mVar 6) (mC (.int 0)))))) (mCall 2 F_law_refused (mCons (mVar 1) (mCons (mVar 6) mNil)))
theorem fin_ok {gs : List Int} {d : PyData} {b0 b3 b4 b5 : Option PyData} (o : OddOk gs d) : finE [b0, some (tupI gs), some (.list (stL gs)), b3, b4, b5, some d] = some (.dat (.bool true), [b0, some (tupI gs), some (.list (stL gs)), b3, b4, b5, some d]) := by
  have it := in_any false o.sd (std_shaped (all_std gs))
  have it : dInZ false d (.list (stL gs)) = some (.dat (.bool (inL (stL gs) d))) := it
  have h0 := o.h0
  have h1 := o.h1
  unfold Refd at h0 h1
  generalize inL (stL gs) d = b at *
  generalize stL gs = SL at *
  generalize tupI gs = GG at *
  unfold finE
  generalize dIx = DI at *
  cases b with
  | false =>
    have r := h0 rfl
    simp [fnP, fnB, start0, sSeq, sIf, sNext, sStop, sRet, sAsg, sAsgO, sAsgD, sAsgE, sPutD, sRetD, getK, sMove, sDrop, sSet, sSet2, sAug, sPar, sAsgT, sFor, mVar, mOwn, mC, mBin, mUn, mTest, mTruth, mNotT, mAndT, mOrT, mAndV, mOrV, mNotV, mIf, mNil, mCons, dats, derefs, deref, derefsL, derefL, mTup, mLst, frz, mFrz, mCallB, ML.c1, ML.c2, retV, getL, asD, asF, isB, isI, mSl, mPart, mNoP, mIs, mIs2, fIsi, fIsi2, ML.kindOf, tyB, mMut, mExt, mCall, mCallS, mBag, mBagT, mCallK, permL, mIt, mItD, mIRev, itD, gN, gT, gTL, gsN, gsC, fI, ML.isNon, dIs, dIsNot, dIsB, dIsNotB, dAdd_int, dSub, dLt, dLe, dGt, dGe, dIx, dLen, dLenS, dIxS, dTuple, dListZ, dList, dNeg, dEq_bool, dNe_bool, dMax_int, dMin_int, it, r]
  | true =>
    rcases h1 rfl with ⟨i, e⟩ | ⟨w, e⟩ | ⟨⟨b, e⟩, r⟩
    · simp [fnP, fnB, start0, sSeq, sIf, sNext, sStop, sRet, sAsg, sAsgO, sAsgD, sAsgE, sPutD, sRetD, getK, sMove, sDrop, sSet, sSet2, sAug, sPar, sAsgT, sFor, mVar, mOwn, mC, mBin, mUn, mTest, mTruth, mNotT, mAndT, mOrT, mAndV, mOrV, mNotV, mIf, mNil, mCons, dats, derefs, deref, derefsL, derefL, mTup, mLst, frz, mFrz, mCallB, ML.c1, ML.c2, retV, getL, asD, asF, isB, isI, mSl, mPart, mNoP, mIs, mIs2, fIsi, fIsi2, ML.kindOf, tyB, mMut, mExt, mCall, mCallS, mBag, mBagT, mCallK, permL, mIt, mItD, mIRev, itD, gN, gT, gTL, gsN, gsC, fI, ML.isNon, dIs, dIsNot, dIsB, dIsNotB, dAdd_int, dSub, dLt, dLe, dGt, dGe, dIx, dLen, dLenS, dIxS, dTuple, dListZ, dList, dNeg, dEq_bool, dNe_bool, dMax_int, dMin_int, it, e, PyData.hasDict]
    · simp [fnP, fnB, start0, sSeq, sIf, sNext, sStop, sRet, sAsg, sAsgO, sAsgD, sAsgE, sPutD, sRetD, getK, sMove, sDrop, sSet, sSet2, sAug, sPar, sAsgT, sFor, mVar, mOwn, mC, mBin, mUn, mTest, mTruth, mNotT, mAndT, mOrT, mAndV, mOrV, mNotV, mIf, mNil, mCons, dats, derefs, deref, derefsL, derefL, mTup, mLst, frz, mFrz, mCallB, ML.c1, ML.c2, retV, getL, asD, asF, isB, isI, mSl, mPart, mNoP, mIs, mIs2, fIsi, fIsi2, ML.kindOf, tyB, mMut, mExt, mCall, mCallS, mBag, mBagT, mCallK, permL, mIt, mItD, mIRev, itD, gN, gT, gTL, gsN, gsC, fI, ML.isNon, dIs, dIsNot, dIsB, dIsNotB, dAdd_int, dSub, dLt, dLe, dGt, dGe, dIx, dLen, dLenS, dIxS, dTuple, dListZ, dList, dNeg, dEq_bool, dNe_bool, dMax_int, dMin_int, it, e, PyData.hasDict]
    · simp [fnP, fnB, start0, sSeq, sIf, sNext, sStop, sRet, sAsg, sAsgO, sAsgD, sAsgE, sPutD, sRetD, getK, sMove, sDrop, sSet, sSet2, sAug, sPar, sAsgT, sFor, mVar, mOwn, mC, mBin, mUn, mTest, mTruth, mNotT, mAndT, mOrT, mAndV, mOrV, mNotV, mIf, mNil, mCons, dats, derefs, deref, derefsL, derefL, mTup, mLst, frz, mFrz, mCallB, ML.c1, ML.c2, retV, getL, asD, asF, isB, isI, mSl, mPart, mNoP, mIs, mIs2, fIsi, fIsi2, ML.kindOf, tyB, mMut, mExt, mCall, mCallS, mBag, mBagT, mCallK, permL, mIt, mItD, mIRev, itD, gN, gT, gTL, gsN, gsC, fI, ML.isNon, dIs, dIsNot, dIsB, dIsNotB, dAdd_int, dSub, dLt, dLe, dGt, dGe, dIx, dLen, dLenS, dIxS, dTuple, dListZ, dList, dNeg, dEq_bool, dNe_bool, dMax_int, dMin_int, it, e, r, PyData.hasDict]
section
variable {gs : List Int} (hg : ∀ g ∈ gs, 0 ≤ g ∧ g < 8) (hl : gs.length ≤ 1000)
include hg hl
theorem o_two {k : Nat} {y : PyData} (hy : Flt y) : OddOk gs (.tuple [.int (k : Int), y]) := by
  have sd : SeqAt.shaped (.tuple [.int (k : Int), y]) = true := shp_tup fun x hx => by
    simp at hx
    rcases hx with rfl | rfl
    · exact flt_int
    · exact hy
  exact ⟨sd, fun h => ref_far hg hl hy.2.2 sd h, fun _ => .inl ⟨_, rfl⟩⟩
theorem o_neg {y : PyData} (hy : Flt y) : OddOk gs (.tuple [.int (-1), y]) :=
  ⟨shp_tup fun x hx => by
    simp at hx
    rcases hx with rfl | rfl
    · exact flt_int
    · exact hy, fun _ => ref_two hg hl whole_neg ⟨rfl, hy.2.2⟩, fun _ => .inl ⟨_, rfl⟩⟩
theorem o_bool {b : Bool} {y : PyData} (hy : Flt y) : OddOk gs (.tuple [.bool b, y]) :=
  ⟨shp_tup fun x hx => by
    simp at hx
    rcases hx with rfl | rfl
    · exact flt_bool
    · exact hy, fun _ => ref_two hg hl (whole_bool b) ⟨rfl, hy.2.2⟩, fun _ => .inr (.inr ⟨⟨_, rfl⟩, ref_two hg hl (whole_bool b) ⟨rfl, hy.2.2⟩⟩)⟩
theorem o_str {w : Str} {y : PyData} (hw : PyData.strOk w = true) (hy : Flt y) : OddOk gs (.tuple [.str w, y]) :=
  ⟨shp_tup fun x hx => by
    simp at hx
    rcases hx with rfl | rfl
    · exact flt_str hw
    · exact hy, fun _ => ref_two hg hl (whole_str w) ⟨rfl, hy.2.2⟩, fun _ => .inr (.inl ⟨_, rfl⟩)⟩
theorem o_one {i : Int} : OddOk gs (.tuple [.int i]) :=
  ⟨shp_tup fun x hx => by
    simp at hx
    rw [hx]; exact flt_int, fun _ => ref_one hg hl rfl, fun _ => .inl ⟨_, rfl⟩⟩
theorem o_three {i : Int} {y z : PyData} (hy : Flt y) (hz : Flt z) : OddOk gs (.tuple [.int i, y, z]) :=
  ⟨shp_tup fun x hx => by
    simp at hx
    rcases hx with rfl | rfl | rfl
    · exact flt_int
    · exact hy
    · exact hz, fun _ => ref_three hg hl rfl hy.2.2 hz.2.2, fun _ => .inl ⟨_, rfl⟩⟩
theorem o_list {i : Int} {y : PyData} (hy : Flt y) : OddOk gs (.list [.int i, y]) :=
  ⟨shp_lst fun x hx => by
    simp at hx
    rcases hx with rfl | rfl
    · exact flt_int
    · exact hy, fun _ => ref_list hg hl rfl hy.2.2, fun _ => .inl ⟨_, rfl⟩⟩
theorem o_none : OddOk gs .none :=
  ⟨rfl, fun _ => ref_none hg hl, fun h => by rw [inL_flat (L := stL gs) (all_std gs) fun _ => rfl] at h; cases h⟩
theorem o_int {i : Int} : OddOk gs (.int i) :=
  ⟨rfl, fun _ => ref_int hg hl, fun h => by rw [inL_flat (L := stL gs) (all_std gs) fun _ => rfl] at h; cases h⟩
theorem o_word {w : Str} (hw : PyData.strOk w = true) : OddOk gs (.str w) :=
  ⟨shp_flt (flt_str hw), fun _ => ref_str hg hl, fun h => by rw [inL_flat (L := stL gs) (all_std gs) fun _ => rfl] at h; cases h⟩
theorem none_ok {k : Nat} {es : List PyData} (hb : Bg k es) (hk : k < 50000) : ∃ es', F_law_none_right es [tupI gs, .list (stL gs)] = some (.dat (.bool true), es') ∧ Bg (k + 4) es' := by
  obtain ⟨q, es1, t1, q0, q1, b1⟩ := take_ok (n := (gs.length : Int) + 2) hb (by omega) (by omega) (by omega)
  obtain ⟨kk, rfl⟩ := Int.eq_ofNat_of_zero_le q0
  obtain ⟨r1, es2, t2, r10, r11, b2⟩ := take_ok (n := 3) b1 (by omega) (by omega) (by omega)
  obtain ⟨r2, es3, t3, r20, r21, b3⟩ := take_ok (n := 3) b2 (by omega) (by omega) (by omega)
  obtain ⟨r3, es4, t4, r30, r31, b4⟩ := take_ok (n := 14) b3 (by omega) (by omega) (by omega)
  have wd : ∀ r : Int, 0 ≤ r → r < 3 → ∃ w, PyData.strOk w = true ∧ atI [PyData.str wFar, .str wThree, .str wOnce] r = some (.str w) := fun r h0 h1 => by
    have : r = 0 ∨ r = 1 ∨ r = 2 := by omega
    rcases this with rfl | rfl | rfl
    · exact ⟨wFar, by decide +kernel, rfl⟩
    · exact ⟨wThree, by decide +kernel, rfl⟩
    · exact ⟨wOnce, by decide +kernel, rfl⟩
  obtain ⟨w1, o1, a1⟩ := wd r1 r10 r11
  obtain ⟨w2, o2, a2⟩ := wd r2 r20 r21
  have near : PyData.strOk (Str.ofString "near") = true := by decide +kernel
  have zero : PyData.strOk (Str.ofString "0") = true := by decide +kernel
  have far : PyData.strOk wFar = true := by decide +kernel
  obtain ⟨wN, hN⟩ : ∃ w, w = Str.ofString "near" := ⟨_, rfl⟩
  obtain ⟨wZ, hZ⟩ : ∃ w, w = Str.ofString "0" := ⟨_, rfl⟩
  rw [← hN] at near
  rw [← hZ] at zero
  obtain ⟨S1, hS1⟩ : ∃ S, S = [PyData.tuple [.int (kk : Int), .str w1], .tuple [.int (kk : Int), .str wN], .tuple [.int (gs.length : Int), .str wFar], .tuple [.int (-1), .str wFar], .tuple [.int (kk : Int)], .tuple [.bool true, .str wFar], .none] := ⟨_, rfl⟩
  obtain ⟨S2, hS2⟩ : ∃ S, S = [PyData.list [.int (kk : Int), .str wFar], .tuple [.str wZ, .str wFar], .tuple [.int (kk : Int), .none], .int 0, .tuple [.int (kk : Int), .str wFar, .int 1], .str wFar, .tuple [.bool false, .str w2]] := ⟨_, rfl⟩
  obtain ⟨d, ad, od⟩ : ∃ d, atI (S1 ++ S2) r3 = some d ∧ OddOk gs d := by
    rw [hS1, hS2]
    have : r3 = 0 ∨ r3 = 1 ∨ r3 = 2 ∨ r3 = 3 ∨ r3 = 4 ∨ r3 = 5 ∨ r3 = 6 ∨ r3 = 7 ∨ r3 = 8 ∨ r3 = 9 ∨ r3 = 10 ∨ r3 = 11 ∨ r3 = 12 ∨ r3 = 13 := by omega
    rcases this with rfl | rfl | rfl | rfl | rfl | rfl | rfl | rfl | rfl | rfl | rfl | rfl | rfl | rfl
    · exact ⟨_, rfl, o_two hg hl (flt_str o1)⟩
    · exact ⟨_, rfl, o_two hg hl (flt_str near)⟩
    · exact ⟨_, rfl, o_two hg hl (flt_str far)⟩
    · exact ⟨_, rfl, o_neg hg hl (flt_str far)⟩
    · exact ⟨_, rfl, o_one hg hl⟩
    · exact ⟨_, rfl, o_bool hg hl (flt_str far)⟩
    · exact ⟨_, rfl, o_none hg hl⟩
    · exact ⟨_, rfl, o_list hg hl (flt_str far)⟩
    · exact ⟨_, rfl, o_str hg hl zero (flt_str far)⟩
    · exact ⟨_, rfl, o_two hg hl flt_none⟩
    · exact ⟨_, rfl, o_int hg hl⟩
    · exact ⟨_, rfl, o_three hg hl (flt_str far) flt_int⟩
    · exact ⟨_, rfl, o_word hg hl far⟩
    · exact ⟨_, rfl, o_bool hg hl (flt_str o2)⟩
  have add : dAdd (.list S1) (.list S2) = some (.fre (S1 ++ S2)) := by
    rw [hS1, hS2]; rfl
  have fin := fin_ok (b0 := some (.list es4)) (b3 := some (.int (kk : Int))) (b4 := some (.list [.str wFar, .str wThree, .str wOnce])) (b5 := some (.list (S1 ++ S2))) od
  have dl : (gs.map PyData.int).length = gs.length := List.length_map ..
  have run : m_law_none_right [some (.list es), some (tupI gs), some (.list (stL gs)), none, none, none, none] = some (.rt (.dat (.bool true)) [some (.list es4), some (tupI gs), some (.list (stL gs)), some (.int (kk : Int)), some (.list [.str wFar, .str wThree, .str wOnce]), some (.list (S1 ++ S2)), some d]) := by
    clear hb b1 b2 b3 b4 od wd
    simp only [tupI] at *
    generalize stL gs = SL at *
    generalize gs.map PyData.int = GG at *
    unfold m_law_none_right
    refine (seq_nx (μ1 := [some (.list es1), some (.tuple GG), some (.list SL), some (.int (kk : Int)), none, none, none]) ?_).trans ?_
    · simp [fnP, fnB, start0, sSeq, sIf, sNext, sStop, sRet, sAsg, sAsgO, sAsgD, sAsgE, sPutD, sRetD, getK, sMove, sDrop, sSet, sSet2, sAug, sPar, sAsgT, sFor, mVar, mOwn, mC, mBin, mUn, mTest, mTruth, mNotT, mAndT, mOrT, mAndV, mOrV, mNotV, mIf, mNil, mCons, dats, derefs, deref, derefsL, derefL, mTup, mLst, frz, mFrz, mCallB, ML.c1, ML.c2, retV, getL, asD, asF, isB, isI, mSl, mPart, mNoP, mIs, mIs2, fIsi, fIsi2, ML.kindOf, tyB, mMut, mExt, mCall, mCallS, mBag, mBagT, mCallK, permL, mIt, mItD, mIRev, itD, gN, gT, gTL, gsN, gsC, fI, ML.isNon, dIs, dIsNot, dIsB, dIsNotB, dAdd_int, dSub, dLt, dLe, dGt, dGe, dIx, dLen, dLenS, dIxS, dTuple, dListZ, dList, dNeg, dEq_int, dNe_int, dEq_bool, dNe_bool, dMax_int, dMin_int, dl, t1]
    refine (seq_nx (μ1 := [some (.list es1), some (.tuple GG), some (.list SL), some (.int (kk : Int)), some (.list [.str wFar, .str wThree, .str wOnce]), none, none]) ?_).trans ?_
    · simp [fnP, fnB, start0, sSeq, sIf, sNext, sStop, sRet, sAsg, sAsgO, sAsgD, sAsgE, sPutD, sRetD, getK, sMove, sDrop, sSet, sSet2, sAug, sPar, sAsgT, sFor, mVar, mOwn, mC, mBin, mUn, mTest, mTruth, mNotT, mAndT, mOrT, mAndV, mOrV, mNotV, mIf, mNil, mCons, dats, derefs, deref, derefsL, derefL, mTup, mLst, frz, mFrz, mCallB, ML.c1, ML.c2, retV, getL, asD, asF, isB, isI, mSl, mPart, mNoP, mIs, mIs2, fIsi, fIsi2, ML.kindOf, tyB, mMut, mExt, mCall, mCallS, mBag, mBagT, mCallK, permL, mIt, mItD, mIRev, itD, gN, gT, gTL, gsN, gsC, fI, ML.isNon, dIs, dIsNot, dIsB, dIsNotB, dAdd_int, dSub, dLt, dLe, dGt, dGe, dIx, dLen, dLenS, dIxS, dTuple, dListZ, dList, dNeg, dEq_int, dNe_int, dEq_bool, dNe_bool, dMax_int, dMin_int, show Str.ofString "three" = wThree from rfl, show Str.ofString "once" = wOnce from rfl, show Str.ofString "far" = wFar from rfl]
    refine (seq_nx (μ1 := [some (.list es2), some (.tuple GG), some (.list SL), some (.int (kk : Int)), some (.list [.str wFar, .str wThree, .str wOnce]), some (.list S1), none]) ?_).trans ?_
    · rw [hS1]
      simp [fnP, fnB, start0, sSeq, sIf, sNext, sStop, sRet, sAsg, sAsgO, sAsgD, sAsgE, sPutD, sRetD, getK, sMove, sDrop, sSet, sSet2, sAug, sPar, sAsgT, sFor, mVar, mOwn, mC, mBin, mUn, mTest, mTruth, mNotT, mAndT, mOrT, mAndV, mOrV, mNotV, mIf, mNil, mCons, dats, derefs, deref, derefsL, derefL, mTup, mLst, frz, mFrz, mCallB, ML.c1, ML.c2, retV, getL, asD, asF, isB, isI, mSl, mPart, mNoP, mIs, mIs2, fIsi, fIsi2, ML.kindOf, tyB, mMut, mExt, mCall, mCallS, mBag, mBagT, mCallK, permL, mIt, mItD, mIRev, itD, gN, gT, gTL, gsN, gsC, fI, ML.isNon, dIs, dIsNot, dIsB, dIsNotB, dAdd_int, dSub, dLt, dLe, dGt, dGe, dIx, dLen, dLenS, dIxS, dTuple, dListZ, dList, dNeg, dEq_int, dNe_int, dEq_bool, dNe_bool, dMax_int, dMin_int, dl, t2, a1, ← hN, show Str.ofString "far" = wFar from rfl]
    refine (seq_nx (μ1 := [some (.list es3), some (.tuple GG), some (.list SL), some (.int (kk : Int)), some (.list [.str wFar, .str wThree, .str wOnce]), some (.list (S1 ++ S2)), none]) ?_).trans ?_
    · clear hS1
      rw [hS2] at add
      rw [hS2]
      simp [fnP, fnB, start0, sSeq, sIf, sNext, sStop, sRet, sAsg, sAsgO, sAsgD, sAsgE, sPutD, sRetD, getK, sMove, sDrop, sSet, sSet2, sAug, sPar, sAsgT, sFor, mVar, mOwn, mC, mBin, mUn, mTest, mTruth, mNotT, mAndT, mOrT, mAndV, mOrV, mNotV, mIf, mNil, mCons, dats, derefs, deref, derefsL, derefL, mTup, mLst, frz, mFrz, mCallB, ML.c1, ML.c2, retV, getL, asD, asF, isB, isI, mSl, mPart, mNoP, mIs, mIs2, fIsi, fIsi2, ML.kindOf, tyB, mMut, mExt, mCall, mCallS, mBag, mBagT, mCallK, permL, mIt, mItD, mIRev, itD, gN, gT, gTL, gsN, gsC, fI, ML.isNon, dIs, dIsNot, dIsB, dIsNotB, dAdd_int, dSub, dLt, dLe, dGt, dGe, dIx, dLen, dLenS, dIxS, dTuple, dListZ, dList, dNeg, dEq_int, dNe_int, dEq_bool, dNe_bool, dMax_int, dMin_int, t3, a2, ← hZ, show Str.ofString "far" = wFar from rfl, add]
    refine (seq_nx (μ1 := [some (.list es4), some (.tuple GG), some (.list SL), some (.int (kk : Int)), some (.list [.str wFar, .str wThree, .str wOnce]), some (.list (S1 ++ S2)), some d]) ?_).trans ?_
    · clear hS1 hS2 add fin
      generalize S1 ++ S2 = SS at *
      simp [fnP, fnB, start0, sSeq, sIf, sNext, sStop, sRet, sAsg, sAsgO, sAsgD, sAsgE, sPutD, sRetD, getK, sMove, sDrop, sSet, sSet2, sAug, sPar, sAsgT, sFor, mVar, mOwn, mC, mBin, mUn, mTest, mTruth, mNotT, mAndT, mOrT, mAndV, mOrV, mNotV, mIf, mNil, mCons, dats, derefs, deref, derefsL, derefL, mTup, mLst, frz, mFrz, mCallB, ML.c1, ML.c2, retV, getL, asD, asF, isB, isI, mSl, mPart, mNoP, mIs, mIs2, fIsi, fIsi2, ML.kindOf, tyB, mMut, mExt, mCall, mCallS, mBag, mBagT, mCallK, permL, mIt, mItD, mIRev, itD, gN, gT, gTL, gsN, gsC, fI, ML.isNon, dIs, dIsNot, dIsB, dIsNotB, dAdd_int, dSub, dLt, dLe, dGt, dGe, dIx, dLen, dLenS, dIxS, dTuple, dListZ, dList, dNeg, dEq_int, dNe_int, dEq_bool, dNe_bool, dMax_int, dMin_int, t4, ad]
    · show sRet [0] finE _ = _
      clear hS1 hS2 add
      generalize finE = FE at *
      simp [fnP, fnB, start0, sSeq, sIf, sNext, sStop, sRet, sAsg, sAsgO, sAsgD, sAsgE, sPutD, sRetD, getK, sMove, sDrop, sSet, sSet2, sAug, sPar, sAsgT, sFor, mVar, mOwn, mC, mBin, mUn, mTest, mTruth, mNotT, mAndT, mOrT, mAndV, mOrV, mNotV, mIf, mNil, mCons, dats, derefs, deref, derefsL, derefL, mTup, mLst, frz, mFrz, mCallB, ML.c1, ML.c2, retV, getL, asD, asF, isB, isI, mSl, mPart, mNoP, mIs, mIs2, fIsi, fIsi2, ML.kindOf, tyB, mMut, mExt, mCall, mCallS, mBag, mBagT, mCallK, permL, mIt, mItD, mIRev, itD, gN, gT, gTL, gsN, gsC, fI, ML.isNon, dIs, dIsNot, dIsB, dIsNotB, dAdd_int, dSub, dLt, dLe, dGt, dGe, dIx, dLen, dLenS, dIxS, dTuple, dListZ, dList, dNeg, dEq_int, dNe_int, dEq_bool, dNe_bool, dMax_int, dMin_int, fin]
  exact ⟨es4, by simp [fnP, fnB, start0, sSeq, sIf, sNext, sStop, sRet, sAsg, sAsgO, sAsgD, sAsgE, sPutD, sRetD, getK, sMove, sDrop, sSet, sSet2, sAug, sPar, sAsgT, sFor, mVar, mOwn, mC, mBin, mUn, mTest, mTruth, mNotT, mAndT, mOrT, mAndV, mOrV, mNotV, mIf, mNil, mCons, dats, derefs, deref, derefsL, derefL, mTup, mLst, frz, mFrz, mCallB, ML.c1, ML.c2, retV, getL, asD, asF, isB, isI, mSl, mPart, mNoP, mIs, mIs2, fIsi, fIsi2, ML.kindOf, tyB, mMut, mExt, mCall, mCallS, mBag, mBagT, mCallK, permL, mIt, mItD, mIRev, itD, gN, gT, gTL, gsN, gsC, fI, ML.isNon, dIs, dIsNot, dIsB, dIsNotB, dAdd_int, dSub, dLt, dLe, dGt, dGe, dIx, dLen, dLenS, dIxS, dTuple, dListZ, dList, dNeg, dEq_int, dNe_int, dEq_bool, dNe_bool, dMax_int, dMin_int, F_law_none_right, run], b4⟩
end
/-! a turn, and the law -/
theorem std_eq {L : List PyData} (h : ∀ d ∈ L, Std d) : dEq (.list L) (.list []) = some (.dat (.bool L.isEmpty)) := by
  unfold dEq
  rw [if_pos ⟨std_shaped h, by rfl⟩]
  cases L with
  | nil => rfl
  | cons d L => rfl
theorem due_lc {gs : List Int} (hl : gs.length ≤ 1000) (d0 d1 d3 d4 d5 d6 d7 : Option PyData) : lcM (gN 8) t_law_right_1 e_law_right_1 [8] (rgD 0 (gs.length : Int)) [d0, d1, some (tupI gs), d3, d4, d5, d6, d7, none] [] = some (stL gs, [d0, d1, some (tupI gs), d3, d4, d5, d6, d7, none]) := by
  have lc := lc_filter (tg := gN 8) (tt := t_law_right_1) (te := e_law_right_1) (vs := [8]) (fun d => match d with | .int v => (wdL (gs.drop v.toNat)).isSome | _ => false) (fun d => match d with | .int v => stD gs v.toNat | _ => .none) (rgD 0 (gs.length : Int)) [d0, d1, some (tupI gs), d3, d4, d5, d6, d7, none] [] (by rw [rgD_nat]; simp; omega) fun d hd => by
    rw [rgD_nat] at hd
    obtain ⟨k, hk, rfl⟩ := List.mem_map.mp hd
    have wo := law_word_ok (gs := gs) (p := k) (List.mem_range.mp hk) hl
    refine ⟨[d0, d1, some (tupI gs), d3, d4, d5, d6, d7, some (.int k)], [d0, d1, some (tupI gs), d3, d4, d5, d6, d7, some (.int k)], rfl, ?_, fun _ => ?_, fun _ => rfl, rfl⟩
    · show _ = some ((wdL (gs.drop ((k : Int)).toNat)).isSome, _)
      rw [Int.toNat_natCast]
      have e : (wdL (gs.drop k)).isSome = !isNon (wD (wdL (gs.drop k))) := by
        cases wdL (gs.drop k) with
        | none => rfl
        | some s => rfl
      rw [e]
      generalize wD (wdL (gs.drop k)) = W at wo ⊢
      generalize tupI gs = GG at *
      simp [fnP, fnB, start0, sSeq, sIf, sNext, sStop, sRet, sAsg, sAsgO, sAsgD, sAsgE, sPutD, sRetD, getK, sMove, sDrop, sSet, sSet2, sAug, sPar, sAsgT, sFor, mVar, mOwn, mC, mBin, mUn, mTest, mTruth, mNotT, mAndT, mOrT, mAndV, mOrV, mNotV, mIf, mNil, mCons, dats, derefs, deref, derefsL, derefL, mTup, mLst, frz, mFrz, mCallB, ML.c1, ML.c2, retV, getL, asD, asF, isB, isI, mSl, mPart, mNoP, mIs, mIs2, fIsi, fIsi2, ML.kindOf, tyB, mMut, mExt, mCall, mCallS, mBag, mBagT, mCallK, permL, mIt, mItD, mIRev, itD, gN, gT, gTL, gsN, gsC, fI, ML.isNon, dIs, dIsNot, dIsB, dIsNotB, dAdd_int, dSub, dLt, dLe, dGt, dGe, dIx, dLen, dLenS, dIxS, dTuple, dListZ, dList, dNeg, dEq_bool, dNe_bool, dMax_int, dMin_int, t_law_right_1, wo]
    · show _ = some (MV.dat (.tuple [.int ((((k : Int)).toNat : Nat) : Int), wD (wdL (gs.drop ((k : Int)).toNat))]), _)
      rw [Int.toNat_natCast]
      generalize wD (wdL (gs.drop k)) = W at wo ⊢
      generalize tupI gs = GG at *
      simp [fnP, fnB, start0, sSeq, sIf, sNext, sStop, sRet, sAsg, sAsgO, sAsgD, sAsgE, sPutD, sRetD, getK, sMove, sDrop, sSet, sSet2, sAug, sPar, sAsgT, sFor, mVar, mOwn, mC, mBin, mUn, mTest, mTruth, mNotT, mAndT, mOrT, mAndV, mOrV, mNotV, mIf, mNil, mCons, dats, derefs, deref, derefsL, derefL, mTup, mLst, frz, mFrz, mCallB, ML.c1, ML.c2, retV, getL, asD, asF, isB, isI, mSl, mPart, mNoP, mIs, mIs2, fIsi, fIsi2, ML.kindOf, tyB, mMut, mExt, mCall, mCallS, mBag, mBagT, mCallK, permL, mIt, mItD, mIRev, itD, gN, gT, gTL, gsN, gsC, fI, ML.isNon, dIs, dIsNot, dIsB, dIsNotB, dAdd_int, dSub, dLt, dLe, dGt, dGe, dIx, dLen, dLenS, dIxS, dTuple, dListZ, dList, dNeg, dEq_bool, dNe_bool, dMax_int, dMin_int, e_law_right_1, wo]
  have em : ((rgD 0 (gs.length : Int)).filter fun d => match d with | .int v => (wdL (gs.drop v.toNat)).isSome | _ => false).map (fun d => match d with | .int v => stD gs v.toNat | _ => .none) = stL gs := by
    rw [rgD_nat, List.filter_map, List.map_map]
    rfl
  rw [em, List.nil_append] at lc
  exact lc
theorem std_nice {n : Nat} {d : PyData} (h : Std d) : Nice (n + 1) d := by
  obtain ⟨p, w, hw, rfl⟩ := h
  obtain ⟨w1, w2⟩ := wd_ok hw
  refine .tup (by simp) fun d hd => ?_
  rcases List.mem_cons.mp hd with rfl | hd
  · exact .int
  · rw [List.mem_singleton.mp hd]
    exact .str w1 w2
noncomputable def restE : MS :=
    (sSeq (sAsg 6 (mFrz (mBin dIx (mVar 4) (mBag 2 F_law_take 0 (mCons (mCallB (c1 dLen) (mCons (mVar 4) mNil)) mNil)))))
    (sSeq (sAsg 7 (mFrz (mCall 2 F_law_behind (mCons (mVar 2) (mCons (mFrz (mBin dIx (mVar 6) (mC (.int 0)))) mNil)))))
    (sSeq (sIf (mNotT (mTest (mCall 2 (F_law_alike 12) (mCons (mFrz (mLst (mCons (mFrz (mCall 2 F_stepped (mCons (mVar 2) (mCons (mVar 6) mNil)))) (mCons (mFrz (mCallK 2 [1, 0] F_stepped (mCons (mVar 6) (mCons (mVar 2) mNil)))) mNil)))) (mCons (mFrz (mLst (mCons (mVar 7) (mCons (mVar 7) mNil)))) mNil))))) (sRet [0] (mC (.bool false))) sNext)
    (sAsg 2 (mVar 7)))))
theorem turn19 {k : Nat} {gs : List Int} {es : List PyData} {d1 d3 d4 d5 d6 d7 : Option PyData} (hb : Bg k es) (hk : k < 40000) (hg : ∀ g ∈ gs, 0 ≤ g ∧ g < 8) (hl : gs.length ≤ 900) :
    (∃ (hs : List Int) (es' : List PyData) (e4 e5 e6 e7 : Option PyData), (∀ g ∈ hs, 0 ≤ g ∧ g < 8) ∧ hs.length ≤ gs.length ∧ Bg (k + 5) es' ∧ b_law_right_1 [some (.list es), d1, some (tupI gs), d3, d4, d5, d6, d7, none] = some (.nx [some (.list es'), d1, some (tupI hs), d3, e4, e5, e6, e7, none])) ∨
    (∃ (es' : List PyData) (e2 e4 e5 e6 e7 : Option PyData), b_law_right_1 [some (.list es), d1, some (tupI gs), d3, d4, d5, d6, d7, none] = some (.rt (.dat (.bool true)) [some (.list es'), d1, e2, d3, e4, e5, e6, e7, none])) := by
  have so := steps_ok hg (show gs.length ≤ 1000 by omega)
  have so : F_steps [tupI gs] = some (.fre (stL gs)) := so
  have se := std_eq (all_std gs)
  have se : dEq (.list (stL gs)) (.list []) = some (.dat (.bool (stL gs).isEmpty)) := se
  have lm : (stL gs).length = (stP gs).length := List.length_map ..
  have ll : (stP gs).length ≤ gs.length := by
    refine Nat.le_trans (List.length_filter_le _ _) ?_
    rw [List.length_range]; exact Nat.le_refl _
  have lc := due_lc (gs := gs) (by omega) (some (.list es)) d1 d3 d4 d5 d6 d7
  obtain ⟨es1, nr, b1⟩ := none_ok hg (by omega) hb (by omega)
  have al := alike_refl 11 (.list (stL gs)) (.lst (by omega) fun d hd => std_nice (all_std gs d hd))
  have al : F_law_alike 12 [.list (stL gs), .list (stL gs)] = some (.dat (.bool true)) := al
  have app : dAppend (stL gs) [.tuple [.int 0, .str wFar]] = some (.none, stL gs ++ [.tuple [.int 0, .str wFar]]) := by
    show (if _ then some (PyData.none, _ ++ [PyData.tuple [.int 0, .str wFar]]) else none) = _
    rw [if_pos (by omega)]
  have rb : rgB 0 (gs.length : Int) = true := rgB_nat (by omega) (by omega)
  have gl : (gs.map PyData.int).length = gs.length := List.length_map ..
  have two : ∀ (b : Bool), (stL gs).isEmpty = b → b_law_right_1 [some (.list es), d1, some (tupI gs), d3, d4, d5, d6, d7, none] = (if b = true then some (.rt (.dat (.bool true)) [some (.list es1), d1, some (tupI gs), d3, some (.list (stL gs)), some (.list (stL gs ++ [.tuple [.int 0, .str wFar]])), d6, d7, none]) else restE [some (.list es1), d1, some (tupI gs), d3, some (.list (stL gs)), some (.list (stL gs ++ [.tuple [.int 0, .str wFar]])), d6, d7, none]) := fun b hbz => by
    rw [hbz] at se
    clear ll lm b1 hb hg
    simp only [tupI] at *
    generalize stL gs = SL at *
    generalize gs.map PyData.int = I at *
    unfold b_law_right_1
    refine (seq_nx (μ1 := [some (.list es), d1, some (.tuple I), d3, some (.list SL), d5, d6, d7, none]) ?_).trans ?_
    · simp [fnP, fnB, start0, sSeq, sIf, sNext, sStop, sRet, sAsg, sAsgO, sAsgD, sAsgE, sPutD, sRetD, getK, sMove, sDrop, sSet, sSet2, sAug, sPar, sAsgT, sFor, mVar, mOwn, mC, mBin, mUn, mTest, mTruth, mNotT, mAndT, mOrT, mAndV, mOrV, mNotV, mIf, mNil, mCons, dats, derefs, deref, derefsL, derefL, mTup, mLst, frz, mFrz, mCallB, ML.c1, ML.c2, retV, getL, asD, asF, isB, isI, mSl, mPart, mNoP, mIs, mIs2, fIsi, fIsi2, ML.kindOf, tyB, mMut, mExt, mCall, mCallS, mBag, mBagT, mCallK, permL, mIt, mItD, mIRev, itD, gN, gT, gTL, gsN, gsC, fI, ML.isNon, dIs, dIsNot, dIsB, dIsNotB, dAdd_int, dSub, dLt, dLe, dGt, dGe, dIx, dLen, dLenS, dIxS, dTuple, dListZ, dList, dNeg, dEq_int, dNe_int, dEq_bool, dNe_bool, dMax_int, dMin_int, mLc, mIR1, gl, rb, wipeM, restM, lc]
    refine (seq_nx (μ1 := [some (.list es), d1, some (.tuple I), d3, some (.list SL), some (.list SL), d6, d7, none]) ?_).trans ?_
    · simp [fnP, fnB, start0, sSeq, sIf, sNext, sStop, sRet, sAsg, sAsgO, sAsgD, sAsgE, sPutD, sRetD, getK, sMove, sDrop, sSet, sSet2, sAug, sPar, sAsgT, sFor, mVar, mOwn, mC, mBin, mUn, mTest, mTruth, mNotT, mAndT, mOrT, mAndV, mOrV, mNotV, mIf, mNil, mCons, dats, derefs, deref, derefsL, derefL, mTup, mLst, frz, mFrz, mCallB, ML.c1, ML.c2, retV, getL, asD, asF, isB, isI, mSl, mPart, mNoP, mIs, mIs2, fIsi, fIsi2, ML.kindOf, tyB, mMut, mExt, mCall, mCallS, mBag, mBagT, mCallK, permL, mIt, mItD, mIRev, itD, gN, gT, gTL, gsN, gsC, fI, ML.isNon, dIs, dIsNot, dIsB, dIsNotB, dAdd_int, dSub, dLt, dLe, dGt, dGe, dIx, dLen, dLenS, dIxS, dTuple, dListZ, dList, dNeg, dEq_int, dNe_int, dEq_bool, dNe_bool, dMax_int, dMin_int, so]
    refine (seq_nx (μ1 := [some (.list es1), d1, some (.tuple I), d3, some (.list SL), some (.list SL), d6, d7, none]) ?_).trans ?_
    · simp [fnP, fnB, start0, sSeq, sIf, sNext, sStop, sRet, sAsg, sAsgO, sAsgD, sAsgE, sPutD, sRetD, getK, sMove, sDrop, sSet, sSet2, sAug, sPar, sAsgT, sFor, mVar, mOwn, mC, mBin, mUn, mTest, mTruth, mNotT, mAndT, mOrT, mAndV, mOrV, mNotV, mIf, mNil, mCons, dats, derefs, deref, derefsL, derefL, mTup, mLst, frz, mFrz, mCallB, ML.c1, ML.c2, retV, getL, asD, asF, isB, isI, mSl, mPart, mNoP, mIs, mIs2, fIsi, fIsi2, ML.kindOf, tyB, mMut, mExt, mCall, mCallS, mBag, mBagT, mCallK, permL, mIt, mItD, mIRev, itD, gN, gT, gTL, gsN, gsC, fI, ML.isNon, dIs, dIsNot, dIsB, dIsNotB, dAdd_int, dSub, dLt, dLe, dGt, dGe, dIx, dLen, dLenS, dIxS, dTuple, dListZ, dList, dNeg, dEq_int, dNe_int, dEq_bool, dNe_bool, dMax_int, dMin_int, al, nr, scalV, scalD]
    refine (seq_nx (μ1 := [some (.list es1), d1, some (.tuple I), d3, some (.list SL), some (.list (SL ++ [.tuple [.int 0, .str wFar]])), d6, d7, none]) ?_).trans ?_
    · simp [fnP, fnB, start0, sSeq, sIf, sNext, sStop, sRet, sAsg, sAsgO, sAsgD, sAsgE, sPutD, sRetD, getK, sMove, sDrop, sSet, sSet2, sAug, sPar, sAsgT, sFor, mVar, mOwn, mC, mBin, mUn, mTest, mTruth, mNotT, mAndT, mOrT, mAndV, mOrV, mNotV, mIf, mNil, mCons, dats, derefs, deref, derefsL, derefL, mTup, mLst, frz, mFrz, mCallB, ML.c1, ML.c2, retV, getL, asD, asF, isB, isI, mSl, mPart, mNoP, mIs, mIs2, fIsi, fIsi2, ML.kindOf, tyB, mMut, mExt, mCall, mCallS, mBag, mBagT, mCallK, permL, mIt, mItD, mIRev, itD, gN, gT, gTL, gsN, gsC, fI, ML.isNon, dIs, dIsNot, dIsB, dIsNotB, dAdd_int, dSub, dLt, dLe, dGt, dGe, dIx, dLen, dLenS, dIxS, dTuple, dListZ, dList, dNeg, dEq_int, dNe_int, dEq_bool, dNe_bool, dMax_int, dMin_int, app, show Str.ofString "far" = wFar from rfl]
    refine (seq_nx (μ1 := [some (.list es1), d1, some (.tuple I), d3, some (.list SL), some (.list (SL ++ [.tuple [.int 0, .str wFar]])), d6, d7, none]) ?_).trans ?_
    · simp [fnP, fnB, start0, sSeq, sIf, sNext, sStop, sRet, sAsg, sAsgO, sAsgD, sAsgE, sPutD, sRetD, getK, sMove, sDrop, sSet, sSet2, sAug, sPar, sAsgT, sFor, mVar, mOwn, mC, mBin, mUn, mTest, mTruth, mNotT, mAndT, mOrT, mAndV, mOrV, mNotV, mIf, mNil, mCons, dats, derefs, deref, derefsL, derefL, mTup, mLst, frz, mFrz, mCallB, ML.c1, ML.c2, retV, getL, asD, asF, isB, isI, mSl, mPart, mNoP, mIs, mIs2, fIsi, fIsi2, ML.kindOf, tyB, mMut, mExt, mCall, mCallS, mBag, mBagT, mCallK, permL, mIt, mItD, mIRev, itD, gN, gT, gTL, gsN, gsC, fI, ML.isNon, dIs, dIsNot, dIsB, dIsNotB, dAdd_int, dSub, dLt, dLe, dGt, dGe, dIx, dLen, dLenS, dIxS, dTuple, dListZ, dList, dNeg, dEq_int, dNe_int, dEq_bool, dNe_bool, dMax_int, dMin_int, mCallK, permL, so, al]
    generalize SL ++ [.tuple [.int 0, .str wFar]] = S2 at *
    cases b with
    | true => simp [fnP, fnB, start0, sSeq, sIf, sNext, sStop, sRet, sAsg, sAsgO, sAsgD, sAsgE, sPutD, sRetD, getK, sMove, sDrop, sSet, sSet2, sAug, sPar, sAsgT, sFor, mVar, mOwn, mC, mBin, mUn, mTest, mTruth, mNotT, mAndT, mOrT, mAndV, mOrV, mNotV, mIf, mNil, mCons, dats, derefs, deref, derefsL, derefL, mTup, mLst, frz, mFrz, mCallB, ML.c1, ML.c2, retV, getL, asD, asF, isB, isI, mSl, mPart, mNoP, mIs, mIs2, fIsi, fIsi2, ML.kindOf, tyB, mMut, mExt, mCall, mCallS, mBag, mBagT, mCallK, permL, mIt, mItD, mIRev, itD, gN, gT, gTL, gsN, gsC, fI, ML.isNon, dIs, dIsNot, dIsB, dIsNotB, dAdd_int, dSub, dLt, dLe, dGt, dGe, dIx, dLen, dLenS, dIxS, dTuple, dListZ, dList, dNeg, dEq_int, dNe_int, dEq_bool, dNe_bool, dMax_int, dMin_int, se]
    | false =>
      refine (seq_nx (μ1 := [some (.list es1), d1, some (.tuple I), d3, some (.list SL), some (.list S2), d6, d7, none]) ?_).trans ?_
      · simp [fnP, fnB, start0, sSeq, sIf, sNext, sStop, sRet, sAsg, sAsgO, sAsgD, sAsgE, sPutD, sRetD, getK, sMove, sDrop, sSet, sSet2, sAug, sPar, sAsgT, sFor, mVar, mOwn, mC, mBin, mUn, mTest, mTruth, mNotT, mAndT, mOrT, mAndV, mOrV, mNotV, mIf, mNil, mCons, dats, derefs, deref, derefsL, derefL, mTup, mLst, frz, mFrz, mCallB, ML.c1, ML.c2, retV, getL, asD, asF, isB, isI, mSl, mPart, mNoP, mIs, mIs2, fIsi, fIsi2, ML.kindOf, tyB, mMut, mExt, mCall, mCallS, mBag, mBagT, mCallK, permL, mIt, mItD, mIRev, itD, gN, gT, gTL, gsN, gsC, fI, ML.isNon, dIs, dIsNot, dIsB, dIsNotB, dAdd_int, dSub, dLt, dLe, dGt, dGe, dIx, dLen, dLenS, dIxS, dTuple, dListZ, dList, dNeg, dEq_int, dNe_int, dEq_bool, dNe_bool, dMax_int, dMin_int, se]
      rfl
  by_cases z : stP gs = []
  · refine .inr ⟨es1, some (tupI gs), some (.list (stL gs)), some (.list (stL gs ++ [.tuple [.int 0, .str wFar]])), d6, d7, ?_⟩
    have sz : (stL gs).isEmpty = true := by unfold stL; rw [z]; rfl
    rw [two true sz, if_pos rfl]
  · have hpos : 0 < (stP gs).length := List.length_pos_iff.mpr z
    have sz : (stL gs).isEmpty = false := by
      cases q : stL gs with
      | nil => rw [q] at lm; simp at lm; omega
      | cons a b => rfl
    obtain ⟨r, es', t, r0, r1, b⟩ := take_ok (n := ((stP gs).length : Int)) b1 (by omega) (by omega) (by omega)
    obtain ⟨r, rfl⟩ := Int.eq_ofNat_of_zero_le r0
    have hr : r < (stP gs).length := by omega
    have hpm : (stP gs)[r] ∈ stP gs := List.getElem_mem hr
    obtain ⟨w, l', h, ed, hp⟩ := std_of hpm
    have at1 : atI (stL gs) (r : Int) = some (.tuple [.int ((stP gs)[r] : Int), .str w]) := by
      rw [atI_at (by omega) (by rw [lm]; omega), Int.toNat_natCast]
      unfold stL
      rw [List.getElem?_map, List.getElem?_eq_getElem hr, ← ed]
      rfl
    have st := stepped_ok hg (by omega) hpm h
    have lb := law_behind_ok hp (by omega) h
    generalize (stP gs)[r] = p at *
    have hd : ∀ g ∈ gs.drop p, 0 ≤ g ∧ g < 8 := fun g hm => hg g (List.mem_of_mem_drop hm)
    have hl' := step_gaps (P := fun g => 0 ≤ g ∧ g < 8) h hd
    have sl := step_len h
    have hh : ∀ g ∈ gs.take p ++ l', 0 ≤ g ∧ g < 8 := fun g hm => (List.mem_append.mp hm).elim (fun q => hg g (List.mem_of_mem_take q)) (hl' g)
    have hlen : (gs.take p ++ l').length ≤ gs.length := by
      rw [List.length_append, List.length_take]
      have : (gs.drop p).length = gs.length - p := List.length_drop ..
      rcases sl with ⟨_, q⟩ | ⟨_, q⟩ <;> omega
    generalize gs.take p ++ l' = hs at *
    have al2 : F_law_alike 12 [.list [tupI hs, tupI hs], .list [tupI hs, tupI hs]] = some (.dat (.bool true)) := alike_refl 11 _ (.lst (by simp) fun d hd => by
      have : d = tupI hs := by
        simp at hd
        exact hd
      rw [this]
      exact Nice.ints (by omega))
    refine .inl ⟨hs, es', some (.list (stL gs)), some (.list (stL gs ++ [.tuple [.int 0, .str wFar]])), some (.tuple [.int (p : Int), .str w]), some (tupI hs), hh, hlen, b, ?_⟩
    rw [two false sz, if_neg (by decide)]
    clear two al nr lc app se so hh hl' hg hd h sl ed
    have i0 : dIx (.tuple [PyData.int (p : Int), .str w]) (.int 0) = some (.dat (.int (p : Int))) := rfl
    unfold restE
    generalize stL gs ++ [.tuple [.int 0, .str wFar]] = S2 at *
    generalize tupI hs = HH at *
    generalize tupI gs = GG at *
    generalize stL gs = SL at *
    rw [← lm] at t
    refine (seq_nx (μ1 := [some (.list es'), d1, some GG, d3, some (.list SL), some (.list S2), some (.tuple [.int (p : Int), .str w]), d7, none]) ?_).trans ?_
    · generalize PyData.tuple [.int (p : Int), .str w] = SD at *
      simp [fnP, fnB, start0, sSeq, sIf, sNext, sStop, sRet, sAsg, sAsgO, sAsgD, sAsgE, sPutD, sRetD, getK, sMove, sDrop, sSet, sSet2, sAug, sPar, sAsgT, sFor, mVar, mOwn, mC, mBin, mUn, mTest, mTruth, mNotT, mAndT, mOrT, mAndV, mOrV, mNotV, mIf, mNil, mCons, dats, derefs, deref, derefsL, derefL, mTup, mLst, frz, mFrz, mCallB, ML.c1, ML.c2, retV, getL, asD, asF, isB, isI, mSl, mPart, mNoP, mIs, mIs2, fIsi, fIsi2, ML.kindOf, tyB, mMut, mExt, mCall, mCallS, mBag, mBagT, mCallK, permL, mIt, mItD, mIRev, itD, gN, gT, gTL, gsN, gsC, fI, ML.isNon, dIs, dIsNot, dIsB, dIsNotB, dAdd_int, dSub, dLt, dLe, dGt, dGe, dIx, dLen, dLenS, dIxS, dTuple, dListZ, dList, dNeg, dEq_int, dNe_int, dEq_bool, dNe_bool, dMax_int, dMin_int, t, at1]
    generalize PyData.tuple [.int (p : Int), .str w] = SD at *
    refine (seq_nx (μ1 := [some (.list es'), d1, some GG, d3, some (.list SL), some (.list S2), some SD, some HH, none]) ?_).trans ?_
    · generalize dIx = DI at *
      simp [fnP, fnB, start0, sSeq, sIf, sNext, sStop, sRet, sAsg, sAsgO, sAsgD, sAsgE, sPutD, sRetD, getK, sMove, sDrop, sSet, sSet2, sAug, sPar, sAsgT, sFor, mVar, mOwn, mC, mBin, mUn, mTest, mTruth, mNotT, mAndT, mOrT, mAndV, mOrV, mNotV, mIf, mNil, mCons, dats, derefs, deref, derefsL, derefL, mTup, mLst, frz, mFrz, mCallB, ML.c1, ML.c2, retV, getL, asD, asF, isB, isI, mSl, mPart, mNoP, mIs, mIs2, fIsi, fIsi2, ML.kindOf, tyB, mMut, mExt, mCall, mCallS, mBag, mBagT, mCallK, permL, mIt, mItD, mIRev, itD, gN, gT, gTL, gsN, gsC, fI, ML.isNon, dIs, dIsNot, dIsB, dIsNotB, dAdd_int, dSub, dLt, dLe, dGt, dGe, dIx, dLen, dLenS, dIxS, dTuple, dListZ, dList, dNeg, dEq_int, dNe_int, dEq_bool, dNe_bool, dMax_int, dMin_int, i0, lb]
    refine (seq_nx (μ1 := [some (.list es'), d1, some GG, d3, some (.list SL), some (.list S2), some SD, some HH, none]) ?_).trans ?_
    · simp [fnP, fnB, start0, sSeq, sIf, sNext, sStop, sRet, sAsg, sAsgO, sAsgD, sAsgE, sPutD, sRetD, getK, sMove, sDrop, sSet, sSet2, sAug, sPar, sAsgT, sFor, mVar, mOwn, mC, mBin, mUn, mTest, mTruth, mNotT, mAndT, mOrT, mAndV, mOrV, mNotV, mIf, mNil, mCons, dats, derefs, deref, derefsL, derefL, mTup, mLst, frz, mFrz, mCallB, ML.c1, ML.c2, retV, getL, asD, asF, isB, isI, mSl, mPart, mNoP, mIs, mIs2, fIsi, fIsi2, ML.kindOf, tyB, mMut, mExt, mCall, mCallS, mBag, mBagT, mCallK, permL, mIt, mItD, mIRev, itD, gN, gT, gTL, gsN, gsC, fI, ML.isNon, dIs, dIsNot, dIsB, dIsNotB, dAdd_int, dSub, dLt, dLe, dGt, dGe, dIx, dLen, dLenS, dIxS, dTuple, dListZ, dList, dNeg, dEq_int, dNe_int, dEq_bool, dNe_bool, dMax_int, dMin_int, mCallK, permL, st, al2]
    simp [fnP, fnB, start0, sSeq, sIf, sNext, sStop, sRet, sAsg, sAsgO, sAsgD, sAsgE, sPutD, sRetD, getK, sMove, sDrop, sSet, sSet2, sAug, sPar, sAsgT, sFor, mVar, mOwn, mC, mBin, mUn, mTest, mTruth, mNotT, mAndT, mOrT, mAndV, mOrV, mNotV, mIf, mNil, mCons, dats, derefs, deref, derefsL, derefL, mTup, mLst, frz, mFrz, mCallB, ML.c1, ML.c2, retV, getL, asD, asF, isB, isI, mSl, mPart, mNoP, mIs, mIs2, fIsi, fIsi2, ML.kindOf, tyB, mMut, mExt, mCall, mCallS, mBag, mBagT, mCallK, permL, mIt, mItD, mIRev, itD, gN, gT, gTL, gsN, gsC, fI, ML.isNon, dIs, dIsNot, dIsB, dIsNotB, dAdd_int, dSub, dLt, dLe, dGt, dGe, dIx, dLen, dLenS, dIxS, dTuple, dListZ, dList, dNeg, dEq_int, dNe_int, dEq_bool, dNe_bool, dMax_int, dMin_int]
theorem size19 {r i : Int} (h0 : 0 ≤ r) (h1 : r < 8) (i0 : 0 ≤ i) (i1 : i < 3) : ∃ n : Nat, atI [PyData.int (2 + r), .int 3, .int 4] i = some (.int n) ∧ 2 ≤ n ∧ n ≤ 9 := by
  have : i = 0 ∨ i = 1 ∨ i = 2 := by omega
  rcases this with rfl | rfl | rfl
  · exact ⟨(2 + r).toNat, by rw [Int.toNat_of_nonneg (by omega)]; rfl, by omega, by omega⟩
  · exact ⟨3, rfl, by decide, by decide⟩
  · exact ⟨4, rfl, by decide, by decide⟩
theorem long19 {i : Int} (i0 : 0 ≤ i) (i1 : i < 2) : ∃ n : Int, atI [PyData.int 41, .int 9] i = some (.int n) ∧ 1 ≤ n ∧ n ≤ 41 := by
  have : i = 0 ∨ i = 1 := by omega
  rcases this with rfl | rfl
  · exact ⟨41, rfl, by decide, by decide⟩
  · exact ⟨9, rfl, by decide, by decide⟩
theorem right_ok (es : List PyData) (h : Bg 0 es) : ∃ es', F_law_right es [] = some (.dat (.bool true), es') := by
  obtain ⟨r1, es1, t1, r10, r11, b1⟩ := take_ok (n := 8) h (by omega) (by omega) (by omega)
  obtain ⟨r2, es2, t2, r20, r21, b2⟩ := take_ok (n := 3) b1 (by omega) (by omega) (by omega)
  obtain ⟨n, a1, n2, n9⟩ := size19 r10 r11 r20 r21
  obtain ⟨r3, es3, t3, r30, r31, b3⟩ := take_ok (n := 2) b2 (by omega) (by omega) (by omega)
  obtain ⟨m, a2, m1, m41⟩ := long19 r30 r31
  obtain ⟨r4, es4, t4, r40, r41, b4⟩ := take_ok (n := m) b3 (by omega) (by omega) (by omega)
  obtain ⟨gs, es5, t5, hg, hl, b5⟩ := plan_ok (size := n) (long := r4.toNat) b4 (by omega) (by omega) (by omega) (by omega)
  rw [Int.toNat_of_nonneg r40] at t5
  have hg : ∀ g ∈ gs, 0 ≤ g ∧ g < 8 := fun g hm => by have := hg g hm; omega
  have rb : rgB 0 12 = true := by decide
  have r12 : rgD 0 12 = (List.range 12).map fun (i : Nat) => PyData.int (i : Nat) := rgD_nat 12
  have lp := loop_ret (tg := gN 3) (b := b_law_right_1) (fun i μ => ∃ (hs : List Int) (es : List PyData) (d3 d4 d5 d6 d7 : Option PyData), μ = [some (.list es), some (.int n), some (tupI hs), d3, d4, d5, d6, d7, none] ∧ (∀ g ∈ hs, 0 ≤ g ∧ g < 8) ∧ hs.length ≤ 100 ∧ Bg (1000 + 5 * i) es)
    (fun v μ => v = .dat (.bool true) ∧ ∃ (es : List PyData) (e2 e3 e4 e5 e6 e7 : Option PyData), μ = [some (.list es), some (.int n), e2, e3, e4, e5, e6, e7, none]) (rgD 0 12) 0 [some (.list es5), some (.int n), some (tupI gs), none, none, none, none, none, none] ⟨gs, es5, none, none, none, none, none, rfl, hg, by omega, b5.mono (by omega)⟩ fun i d μ hd ⟨hs, es, d3, d4, d5, d6, d7, e, hh, hhl, hbg⟩ => by
    subst e
    have hlt : i < 12 := by
      by_cases z : i < 12
      · exact z
      · rw [r12, List.getElem?_eq_none (by simp; omega)] at hd; cases hd
    rcases turn19 (d1 := some (.int n)) (d3 := some d) (d4 := d4) (d5 := d5) (d6 := d6) (d7 := d7) hbg (by omega) hh (by omega) with ⟨hs', es', e4, e5, e6, e7, q1, q2, q3, q4⟩ | ⟨es', e2, e4, e5, e6, e7, q⟩
    · exact ⟨_, rfl, .inl ⟨_, q4, hs', es', _, _, _, _, _, rfl, q1, by omega, q3.mono (by omega)⟩⟩
    · exact ⟨_, rfl, .inr ⟨_, _, q, rfl, es', _, _, _, _, _, _, rfl⟩⟩
  have start : ∀ o, loopM (gN 3) b_law_right_1 (rgD 0 12) [some (.list es5), some (.int n), some (tupI gs), none, none, none, none, none, none] = some o → m_law_right [some (.list es), none, none, none, none, none, none, none, none] = (match o with | .nx μ => sRet [0] (mC (.bool true)) μ | .rt v μ => some (.rt v μ) | _ => none) ∨ ∀ v μ, o ≠ .nx μ ∧ o ≠ .rt v μ := fun o ho => by
    generalize tupI gs = GG at *
    cases o with
    | nx μ =>
      refine .inl ?_
      unfold m_law_right
      refine (seq_nx (μ1 := [some (.list es2), some (.int n), none, none, none, none, none, none, none]) ?_).trans ?_
      · simp [fnP, fnB, start0, sSeq, sIf, sNext, sStop, sRet, sAsg, sAsgO, sAsgD, sAsgE, sPutD, sRetD, getK, sMove, sDrop, sSet, sSet2, sAug, sPar, sAsgT, sFor, mVar, mOwn, mC, mBin, mUn, mTest, mTruth, mNotT, mAndT, mOrT, mAndV, mOrV, mNotV, mIf, mNil, mCons, dats, derefs, deref, derefsL, derefL, mTup, mLst, frz, mFrz, mCallB, ML.c1, ML.c2, retV, getL, asD, asF, isB, isI, mSl, mPart, mNoP, mIs, mIs2, fIsi, fIsi2, ML.kindOf, tyB, mMut, mExt, mCall, mCallS, mBag, mBagT, mCallK, permL, mIt, mItD, mIRev, itD, gN, gT, gTL, gsN, gsC, fI, ML.isNon, dIs, dIsNot, dIsB, dIsNotB, dAdd_int, dSub, dLt, dLe, dGt, dGe, dIx, dLen, dLenS, dIxS, dTuple, dListZ, dList, dNeg, dEq_int, dNe_int, dEq_bool, dNe_bool, dMax_int, dMin_int, t1, t2, a1]
      refine (seq_nx (μ1 := [some (.list es5), some (.int n), some GG, none, none, none, none, none, none]) ?_).trans ?_
      · simp [fnP, fnB, start0, sSeq, sIf, sNext, sStop, sRet, sAsg, sAsgO, sAsgD, sAsgE, sPutD, sRetD, getK, sMove, sDrop, sSet, sSet2, sAug, sPar, sAsgT, sFor, mVar, mOwn, mC, mBin, mUn, mTest, mTruth, mNotT, mAndT, mOrT, mAndV, mOrV, mNotV, mIf, mNil, mCons, dats, derefs, deref, derefsL, derefL, mTup, mLst, frz, mFrz, mCallB, ML.c1, ML.c2, retV, getL, asD, asF, isB, isI, mSl, mPart, mNoP, mIs, mIs2, fIsi, fIsi2, ML.kindOf, tyB, mMut, mExt, mCall, mCallS, mBag, mBagT, mCallK, permL, mIt, mItD, mIRev, itD, gN, gT, gTL, gsN, gsC, fI, ML.isNon, dIs, dIsNot, dIsB, dIsNotB, dAdd_int, dSub, dLt, dLe, dGt, dGe, dIx, dLen, dLenS, dIxS, dTuple, dListZ, dList, dNeg, dEq_int, dNe_int, dEq_bool, dNe_bool, dMax_int, dMin_int, t3, a2, t4, t5]
      simp [fnP, fnB, start0, sSeq, sIf, sNext, sStop, sRet, sAsg, sAsgO, sAsgD, sAsgE, sPutD, sRetD, getK, sMove, sDrop, sSet, sSet2, sAug, sPar, sAsgT, sFor, mVar, mOwn, mC, mBin, mUn, mTest, mTruth, mNotT, mAndT, mOrT, mAndV, mOrV, mNotV, mIf, mNil, mCons, dats, derefs, deref, derefsL, derefL, mTup, mLst, frz, mFrz, mCallB, ML.c1, ML.c2, retV, getL, asD, asF, isB, isI, mSl, mPart, mNoP, mIs, mIs2, fIsi, fIsi2, ML.kindOf, tyB, mMut, mExt, mCall, mCallS, mBag, mBagT, mCallK, permL, mIt, mItD, mIRev, itD, gN, gT, gTL, gsN, gsC, fI, ML.isNon, dIs, dIsNot, dIsB, dIsNotB, dAdd_int, dSub, dLt, dLe, dGt, dGe, dIx, dLen, dLenS, dIxS, dTuple, dListZ, dList, dNeg, dEq_int, dNe_int, dEq_bool, dNe_bool, dMax_int, dMin_int, mIR1, rb, ho]
    | rt v μ =>
      refine .inl ?_
      unfold m_law_right
      refine (seq_nx (μ1 := [some (.list es2), some (.int n), none, none, none, none, none, none, none]) ?_).trans ?_
      · simp [fnP, fnB, start0, sSeq, sIf, sNext, sStop, sRet, sAsg, sAsgO, sAsgD, sAsgE, sPutD, sRetD, getK, sMove, sDrop, sSet, sSet2, sAug, sPar, sAsgT, sFor, mVar, mOwn, mC, mBin, mUn, mTest, mTruth, mNotT, mAndT, mOrT, mAndV, mOrV, mNotV, mIf, mNil, mCons, dats, derefs, deref, derefsL, derefL, mTup, mLst, frz, mFrz, mCallB, ML.c1, ML.c2, retV, getL, asD, asF, isB, isI, mSl, mPart, mNoP, mIs, mIs2, fIsi, fIsi2, ML.kindOf, tyB, mMut, mExt, mCall, mCallS, mBag, mBagT, mCallK, permL, mIt, mItD, mIRev, itD, gN, gT, gTL, gsN, gsC, fI, ML.isNon, dIs, dIsNot, dIsB, dIsNotB, dAdd_int, dSub, dLt, dLe, dGt, dGe, dIx, dLen, dLenS, dIxS, dTuple, dListZ, dList, dNeg, dEq_int, dNe_int, dEq_bool, dNe_bool, dMax_int, dMin_int, t1, t2, a1]
      refine (seq_nx (μ1 := [some (.list es5), some (.int n), some GG, none, none, none, none, none, none]) ?_).trans ?_
      · simp [fnP, fnB, start0, sSeq, sIf, sNext, sStop, sRet, sAsg, sAsgO, sAsgD, sAsgE, sPutD, sRetD, getK, sMove, sDrop, sSet, sSet2, sAug, sPar, sAsgT, sFor, mVar, mOwn, mC, mBin, mUn, mTest, mTruth, mNotT, mAndT, mOrT, mAndV, mOrV, mNotV, mIf, mNil, mCons, dats, derefs, deref, derefsL, derefL, mTup, mLst, frz, mFrz, mCallB, ML.c1, ML.c2, retV, getL, asD, asF, isB, isI, mSl, mPart, mNoP, mIs, mIs2, fIsi, fIsi2, ML.kindOf, tyB, mMut, mExt, mCall, mCallS, mBag, mBagT, mCallK, permL, mIt, mItD, mIRev, itD, gN, gT, gTL, gsN, gsC, fI, ML.isNon, dIs, dIsNot, dIsB, dIsNotB, dAdd_int, dSub, dLt, dLe, dGt, dGe, dIx, dLen, dLenS, dIxS, dTuple, dListZ, dList, dNeg, dEq_int, dNe_int, dEq_bool, dNe_bool, dMax_int, dMin_int, t3, a2, t4, t5]
      simp [fnP, fnB, start0, sSeq, sIf, sNext, sStop, sRet, sAsg, sAsgO, sAsgD, sAsgE, sPutD, sRetD, getK, sMove, sDrop, sSet, sSet2, sAug, sPar, sAsgT, sFor, mVar, mOwn, mC, mBin, mUn, mTest, mTruth, mNotT, mAndT, mOrT, mAndV, mOrV, mNotV, mIf, mNil, mCons, dats, derefs, deref, derefsL, derefL, mTup, mLst, frz, mFrz, mCallB, ML.c1, ML.c2, retV, getL, asD, asF, isB, isI, mSl, mPart, mNoP, mIs, mIs2, fIsi, fIsi2, ML.kindOf, tyB, mMut, mExt, mCall, mCallS, mBag, mBagT, mCallK, permL, mIt, mItD, mIRev, itD, gN, gT, gTL, gsN, gsC, fI, ML.isNon, dIs, dIsNot, dIsB, dIsNotB, dAdd_int, dSub, dLt, dLe, dGt, dGe, dIx, dLen, dLenS, dIxS, dTuple, dListZ, dList, dNeg, dEq_int, dNe_int, dEq_bool, dNe_bool, dMax_int, dMin_int, mIR1, rb, ho]
    | _ => exact .inr fun v μ => ⟨(fun z => nomatch z), (fun z => nomatch z)⟩
  rcases lp with ⟨μ', e, hs, es6, d3, d4, d5, d6, d7, rfl, _⟩ | ⟨v, μ', e, rfl, es6, e2, e3, e4, e5, e6, e7, rfl⟩
  · rcases start _ e with run | bad
    · exact ⟨es6, by simp [fnP, fnB, start0, sSeq, sIf, sNext, sStop, sRet, sAsg, sAsgO, sAsgD, sAsgE, sPutD, sRetD, getK, sMove, sDrop, sSet, sSet2, sAug, sPar, sAsgT, sFor, mVar, mOwn, mC, mBin, mUn, mTest, mTruth, mNotT, mAndT, mOrT, mAndV, mOrV, mNotV, mIf, mNil, mCons, dats, derefs, deref, derefsL, derefL, mTup, mLst, frz, mFrz, mCallB, ML.c1, ML.c2, retV, getL, asD, asF, isB, isI, mSl, mPart, mNoP, mIs, mIs2, fIsi, fIsi2, ML.kindOf, tyB, mMut, mExt, mCall, mCallS, mBag, mBagT, mCallK, permL, mIt, mItD, mIRev, itD, gN, gT, gTL, gsN, gsC, fI, ML.isNon, dIs, dIsNot, dIsB, dIsNotB, dAdd_int, dSub, dLt, dLe, dGt, dGe, dIx, dLen, dLenS, dIxS, dTuple, dListZ, dList, dNeg, dEq_int, dNe_int, dEq_bool, dNe_bool, dMax_int, dMin_int] at run; simp [fnP, fnB, start0, sSeq, sIf, sNext, sStop, sRet, sAsg, sAsgO, sAsgD, sAsgE, sPutD, sRetD, getK, sMove, sDrop, sSet, sSet2, sAug, sPar, sAsgT, sFor, mVar, mOwn, mC, mBin, mUn, mTest, mTruth, mNotT, mAndT, mOrT, mAndV, mOrV, mNotV, mIf, mNil, mCons, dats, derefs, deref, derefsL, derefL, mTup, mLst, frz, mFrz, mCallB, ML.c1, ML.c2, retV, getL, asD, asF, isB, isI, mSl, mPart, mNoP, mIs, mIs2, fIsi, fIsi2, ML.kindOf, tyB, mMut, mExt, mCall, mCallS, mBag, mBagT, mCallK, permL, mIt, mItD, mIRev, itD, gN, gT, gTL, gsN, gsC, fI, ML.isNon, dIs, dIsNot, dIsB, dIsNotB, dAdd_int, dSub, dLt, dLe, dGt, dGe, dIx, dLen, dLenS, dIxS, dTuple, dListZ, dList, dNeg, dEq_int, dNe_int, dEq_bool, dNe_bool, dMax_int, dMin_int, F_law_right, run]⟩
    · exact absurd rfl (bad (.dat .none) _).1
  · rcases start _ e with run | bad
    · exact ⟨es6, by simp [fnP, fnB, start0, sSeq, sIf, sNext, sStop, sRet, sAsg, sAsgO, sAsgD, sAsgE, sPutD, sRetD, getK, sMove, sDrop, sSet, sSet2, sAug, sPar, sAsgT, sFor, mVar, mOwn, mC, mBin, mUn, mTest, mTruth, mNotT, mAndT, mOrT, mAndV, mOrV, mNotV, mIf, mNil, mCons, dats, derefs, deref, derefsL, derefL, mTup, mLst, frz, mFrz, mCallB, ML.c1, ML.c2, retV, getL, asD, asF, isB, isI, mSl, mPart, mNoP, mIs, mIs2, fIsi, fIsi2, ML.kindOf, tyB, mMut, mExt, mCall, mCallS, mBag, mBagT, mCallK, permL, mIt, mItD, mIRev, itD, gN, gT, gTL, gsN, gsC, fI, ML.isNon, dIs, dIsNot, dIsB, dIsNotB, dAdd_int, dSub, dLt, dLe, dGt, dGe, dIx, dLen, dLenS, dIxS, dTuple, dListZ, dList, dNeg, dEq_int, dNe_int, dEq_bool, dNe_bool, dMax_int, dMin_int] at run; simp [fnP, fnB, start0, sSeq, sIf, sNext, sStop, sRet, sAsg, sAsgO, sAsgD, sAsgE, sPutD, sRetD, getK, sMove, sDrop, sSet, sSet2, sAug, sPar, sAsgT, sFor, mVar, mOwn, mC, mBin, mUn, mTest, mTruth, mNotT, mAndT, mOrT, mAndV, mOrV, mNotV, mIf, mNil, mCons, dats, derefs, deref, derefsL, derefL, mTup, mLst, frz, mFrz, mCallB, ML.c1, ML.c2, retV, getL, asD, asF, isB, isI, mSl, mPart, mNoP, mIs, mIs2, fIsi, fIsi2, ML.kindOf, tyB, mMut, mExt, mCall, mCallS, mBag, mBagT, mCallK, permL, mIt, mItD, mIRev, itD, gN, gT, gTL, gsN, gsC, fI, ML.isNon, dIs, dIsNot, dIsB, dIsNotB, dAdd_int, dSub, dLt, dLe, dGt, dGe, dIx, dLen, dLenS, dIxS, dTuple, dListZ, dList, dNeg, dEq_int, dNe_int, dEq_bool, dNe_bool, dMax_int, dMin_int, F_law_right, run]⟩
    · exact absurd rfl (bad _ _).2
theorem law_true (ns : List Int) (hl : ns.length ≤ 63) : F_law [scrD ns] = some (.dat (.bool true)) := law_top right_ok ns

/-! ### the walk -/
structure Ad where
  f_law_take : Addr
  d_law_take : FuncData
  f_law_plan : Addr
  d_law_plan : FuncData
  f_is_whole_rows : Addr
  d_is_whole_rows : FuncData
  f_need_many : Addr
  d_need_many : FuncData
  f_is_gap : Addr
  d_is_gap : FuncData
  f_is_book : Addr
  d_is_book : FuncData
  f_need_book : Addr
  d_need_book : FuncData
  f_word_at : Addr
  d_word_at : FuncData
  f_steps : Addr
  d_steps : FuncData
  f_law_word : Addr
  d_law_word : FuncData
  f_law_behind : Addr
  d_law_behind : FuncData
  f_law_alike : Addr
  d_law_alike : FuncData
  f_behind : Addr
  d_behind : FuncData
  f_is_whole_goings : Addr
  d_is_whole_goings : FuncData
  f_stepped : Addr
  d_stepped : FuncData
  f_law_refused : Addr
  d_law_refused : FuncData
  f_law_none_right : Addr
  d_law_none_right : FuncData
  f_law_right : Addr
  d_law_right : FuncData
  f_law_bag : Addr
  d_law_bag : FuncData
  f_law_cell_at : Addr
  d_law_cell_at : FuncData
  f_law : Addr
  d_law : FuncData
  e_NoStep : Addr
  e_MeetError : Addr
structure Tx (K : PySem.W.Frag) (mg : Str → Option Value) (a : Ad) : Prop where
  F_law_take : Fun K "_law_take" "_law_take" s_law_take a.f_law_take a.d_law_take
  g_law_take : mg "_law_take" = some (.ref a.f_law_take)
  F_law_plan : Fun K "_law_plan" "_law_plan" s_law_plan a.f_law_plan a.d_law_plan
  g_law_plan : mg "_law_plan" = some (.ref a.f_law_plan)
  F_is_whole_rows : Fun K "is_whole" "is_whole" s_is_whole_rows a.f_is_whole_rows a.d_is_whole_rows
  g_is_whole_rows : mg "is_whole_rows" = some (.ref a.f_is_whole_rows)
  F_need_many : Fun K "need_many" "need_many" s_need_many a.f_need_many a.d_need_many
  g_need_many : mg "need_many" = some (.ref a.f_need_many)
  F_is_gap : Fun K "is_gap" "is_gap" s_is_gap a.f_is_gap a.d_is_gap
  g_is_gap : mg "is_gap" = some (.ref a.f_is_gap)
  F_is_book : Fun K "is_book" "is_book" s_is_book a.f_is_book a.d_is_book
  g_is_book : mg "is_book" = some (.ref a.f_is_book)
  F_need_book : Fun K "need_book" "need_book" s_need_book a.f_need_book a.d_need_book
  g_need_book : mg "need_book" = some (.ref a.f_need_book)
  F_word_at : Fun K "word_at" "word_at" s_word_at a.f_word_at a.d_word_at
  g_word_at : mg "word_at" = some (.ref a.f_word_at)
  F_steps : Fun K "steps" "steps" s_steps a.f_steps a.d_steps
  g_steps : mg "steps" = some (.ref a.f_steps)
  F_law_word : Fun K "_law_word" "_law_word" s_law_word a.f_law_word a.d_law_word
  g_law_word : mg "_law_word" = some (.ref a.f_law_word)
  F_law_behind : Fun K "_law_behind" "_law_behind" s_law_behind a.f_law_behind a.d_law_behind
  g_law_behind : mg "_law_behind" = some (.ref a.f_law_behind)
  F_law_alike : Fun K "_law_alike" "_law_alike" s_law_alike a.f_law_alike a.d_law_alike
  g_law_alike : mg "_law_alike" = some (.ref a.f_law_alike)
  F_behind : Fun K "behind" "behind" s_behind a.f_behind a.d_behind
  g_behind : mg "behind" = some (.ref a.f_behind)
  F_is_whole_goings : Fun K "is_whole" "is_whole" s_is_whole_goings a.f_is_whole_goings a.d_is_whole_goings
  g_is_whole_goings : mg "is_whole_goings" = some (.ref a.f_is_whole_goings)
  F_stepped : Fun K "stepped" "stepped" s_stepped a.f_stepped a.d_stepped
  g_stepped : mg "stepped" = some (.ref a.f_stepped)
  F_law_refused : Fun K "_law_refused" "_law_refused" s_law_refused a.f_law_refused a.d_law_refused
  g_law_refused : mg "_law_refused" = some (.ref a.f_law_refused)
  F_law_none_right : Fun K "_law_none_right" "_law_none_right" s_law_none_right a.f_law_none_right a.d_law_none_right
  g_law_none_right : mg "_law_none_right" = some (.ref a.f_law_none_right)
  F_law_right : Fun K "_law_right" "_law_right" s_law_right a.f_law_right a.d_law_right
  g_law_right : mg "_law_right" = some (.ref a.f_law_right)
  F_law_bag : Fun K "_law_bag" "_law_bag" s_law_bag a.f_law_bag a.d_law_bag
  g_law_bag : mg "_law_bag" = some (.ref a.f_law_bag)
  F_law_cell_at : Fun K "_law_cell_at" "_law_cell_at" s_law_cell_at a.f_law_cell_at a.d_law_cell_at
  g_law_cell_at : mg "_law_cell_at" = some (.ref a.f_law_cell_at)
  F_law : Fun K "law" "law" s_law a.f_law a.d_law
  g_law : mg "law" = some (.ref a.f_law)
  z_ValueError : mg "ValueError" = none
  z_abs : mg "abs" = none
  z_all : mg "all" = none
  z_bool : mg "bool" = none
  z_int : mg "int" = none
  z_isinstance : mg "isinstance" = none
  z_len : mg "len" = none
  z_list : mg "list" = none
  z_max : mg "max" = none
  z_range : mg "range" = none
  z_tuple : mg "tuple" = none
  c_FAR : ∃ t : Tok, mg "FAR" = some (.str (Str.ofString "far") t)
  c_MOST_PEOPLE : ∃ t : Tok, mg "MOST_PEOPLE" = some (.int 9 t)
  c_ONCE : ∃ t : Tok, mg "ONCE" = some (.str (Str.ofString "once") t)
  c_THREE : ∃ t : Tok, mg "THREE" = some (.str (Str.ofString "three") t)
  g_NoStep : mg "NoStep" = some (.ref a.e_NoStep)
  x_NoStep : PySem.W.excIn K a.e_NoStep [.type "ValueError", .type "Exception", .type "BaseException", .type "object"] "ValueError.__new__" = true
  k_NoStep : PySem.W.keepIn K (.ref a.e_NoStep) = true
  b_NoStep : PySem.W.subIn K (.ref a.e_NoStep) (.type "BaseException") = some true
  t_NoStep : PySem.W.typeIn K (.ref a.e_NoStep) = some (.type "type")
  m_NoStep : PySem.W.exmOne K (.ref a.e_NoStep) (.ref a.e_NoStep) = some true
  g_MeetError : mg "MeetError" = some (.ref a.e_MeetError)
  c_NoStep : ExcC K a.e_NoStep
  v_NoStep : PySem.W.kitOne K (.ref a.e_NoStep) (.type "ValueError") = some true
  i_NoStep_MeetError : PySem.W.kitOne K (.ref a.e_NoStep) (.ref a.e_MeetError) = some true
section
variable [KF] {P : Program} {w : World} {mg : Str → Option Value} {base : Heap} {a : Ad}
theorem b_law_take (T : Tx KF.k mg a) : Binds KF.k a.d_law_take ["bag", "size"] [] := T.F_law_take.binds fun _ _ _ _ _ _ us hl => match us, hl with | [_, _], _ => rfl
theorem ok_law_take (T : Tx KF.k mg a) : FnG P w KF.k mg base 1 a.f_law_take a.d_law_take ["bag", "size"] (spB 2 F_law_take) := ok_bag (k := 0) T.F_law_take sc_law_take [0] m_law_take (by decide) (by decide) fun cdv A outer s H E p G hr =>
    (qss_cons (qs_if (qt_cmp ok_gt (qe_ix ok_ix (qe_own 0) qe_int) qe_int) (qss_cons (qs_asg 2 (qe_bin ok_mod (qe_ix ok_ix (qe_own 0) qe_int) (qe_var 1)) (hN := sc_law_take.nd))
    (qss_cons (qs_set 0 (qe_bin ok_div (qe_ix ok_ix (qe_own 0) qe_int) (qe_var 1)) qe_int)
    (qss_one (qs_ret [0] (qe_var 2))))) qss_nil)
    (qss_cons (qs_set 0 (qe_frz (qe_bin ok_add (qe_ix ok_ix (qe_own 0) qe_int) qe_int)) qe_int)
    (qss_cons (qs_asg 3 (qe_bin ok_mod (qe_bin ok_pow (qe_bin ok_add (qe_ix ok_ix (qe_own 0) qe_int) (qe_bin ok_mul qe_int (qe_ix ok_ix (qe_own 0) qe_int))) qe_int) qe_int) (hN := sc_law_take.nd))
    (qss_cons (qs_asg 3 (qe_bin ok_mod (qe_bin ok_pow (qe_bin ok_add (qe_var 3) (qe_bin ok_mul qe_int (qe_ix ok_ix (qe_own 0) qe_int))) qe_int) qe_int) (hN := sc_law_take.nd))
    (qss_one (qs_ret [0] (qe_bin ok_mod (qe_bin ok_div (qe_var 3) qe_int) (qe_var 1))))))))
theorem b_law_plan (T : Tx KF.k mg a) : Binds KF.k a.d_law_plan ["bag", "size", "long"] [] := T.F_law_plan.binds fun _ _ _ _ _ _ us hl => match us, hl with | [_, _, _], _ => rfl
theorem ok_law_plan (T : Tx KF.k mg a) : FnG P w KF.k mg base 2 a.f_law_plan a.d_law_plan ["bag", "size", "long"] (spB 3 F_law_plan) := ok_bag (k := 1) T.F_law_plan sc_law_plan [0, 5] m_law_plan (by decide) (by decide) fun cdv A outer s H E p G hr =>
    (qss_cons (qs_if (qt_cmp ok_lt (qe_var 1) qe_int) (qss_one (qs_ret [0] (qe_tup qa_nil))) qss_nil)
    (qss_cons (qs_asg 3 (qe_frz (qe_bag 0 (ok_law_take T) (hr.mono (by decide)) (by rfl) T.g_law_take T.F_law_take.kp (b_law_take T) (qa_cons qe_int qa_nil))) (hN := sc_law_plan.nd))
    (qss_cons (qs_asg 4 (qe_frz (qe_lst (qa_cons (qe_frz (qe_bag 0 (ok_law_take T) (hr.mono (by decide)) (by rfl) T.g_law_take T.F_law_take.kp (b_law_take T) (qa_cons (qe_bin ok_sub (qe_var 1) qe_int) qa_nil))) (qa_cons (qe_frz (qe_bag 0 (ok_law_take T) (hr.mono (by decide)) (by rfl) T.g_law_take T.F_law_take.kp (b_law_take T) (qa_cons (qe_bin ok_sub (qe_var 1) qe_int) qa_nil))) qa_nil)))) (hN := sc_law_plan.nd))
    (qss_cons (qs_asgO 5 (qe_lst qa_nil) (hN := sc_law_plan.nd))
    (qss_cons (qs_for (qi_range1 (by rfl) T.z_range (qa_cons (qe_var 2) qa_nil)) (qg_name 6 sc_law_plan.nd) (qss_cons (qs_asg 7 (qe_frz (qe_bag 0 (ok_law_take T) (hr.mono (by decide)) (by rfl) T.g_law_take T.F_law_take.kp (b_law_take T) (qa_cons (qe_bin ok_sub (qe_var 1) qe_int) qa_nil))) (hN := sc_law_plan.nd))
    (qss_cons (qs_if (PW.pt (qw_and (qt_cmp (ok_eq hr) (qe_var 3) qe_int) (qw_and1 (qt_cmp (ok_ne hr) (qe_own 5) (qe_lst qa_nil))))) (qss_one (qs_asg 7 (qe_bin ok_mod (qe_bin ok_add (qe_ix ok_ix (qe_own 5) (qe_un ok_neg qe_int)) (qe_ix ok_ix (qe_lst (qa_cons qe_int (qa_cons (qe_bin ok_sub (qe_var 1) qe_int) (qa_cons qe_int (qa_cons qe_int qa_nil))))) (qe_bag 0 (ok_law_take T) (hr.mono (by decide)) (by rfl) T.g_law_take T.F_law_take.kp (b_law_take T) (qa_cons qe_int qa_nil)))) (qe_bin ok_sub (qe_var 1) qe_int)) (hN := sc_law_plan.nd))) qss_nil)
    (qss_cons (qs_if (qt_cmp (ok_eq hr) (qe_var 3) qe_int) (qss_one (qs_asg 7 (qe_frz (qe_ix ok_ix (qe_var 4) (qe_bin ok_mod (qe_var 7) qe_int))) (hN := sc_law_plan.nd))) qss_nil)
    (qss_cons (qs_if (qt_cmp (ok_eq hr) (qe_var 3) qe_int) (qss_one (qs_asg 7 (qe_bin ok_mod (qe_bin ok_sub (qe_bin ok_sub (qe_var 1) qe_int) (qe_var 6)) (qe_bin ok_sub (qe_var 1) qe_int)) (hN := sc_law_plan.nd))) qss_nil)
    (qss_one (qs_drop (qe_mut 5 ok_append PySem.F.slot_list_append PySem.F.type_list_append (qa_cons (qe_var 7) qa_nil)))))))))
    (qss_one (qs_ret [0] (qe_callTy ok_tuple (by rfl) T.z_tuple bt_tuple (qa_cons (qe_own 5) qa_nil)))))))))
theorem b_is_whole_rows (T : Tx KF.k mg a) : Binds KF.k a.d_is_whole_rows ["thing", "least"] [] := T.F_is_whole_rows.binds fun _ _ _ _ _ _ us hl => match us, hl with | [_, _], _ => rfl
theorem ok_is_whole_rows (T : Tx KF.k mg a) : FnG P w KF.k mg base 1 a.f_is_whole_rows a.d_is_whole_rows ["thing", "least"] (spP 2 F_is_whole_rows) := ok_pure (k := 0) T.F_is_whole_rows sc_is_whole_rows [] m_is_whole_rows (by decide) fun cdv A outer s H E G hr =>
    (qss_one (qs_ret [] (qe_and (qe_isi (by rfl) T.z_isinstance (by rfl) T.z_int bt_int (qe_var 0)) (qe_and (qe_not (qe_isi (by rfl) T.z_isinstance (by rfl) T.z_bool bt_bool (qe_var 0))) (qe_one (qe_cmp ok_ge (qe_var 0) (qe_var 1)))))))
theorem b_need_many (T : Tx KF.k mg a) : Binds KF.k a.d_need_many ["many"] [] := T.F_need_many.binds fun _ _ _ _ _ _ us hl => match us, hl with | [_], _ => rfl
theorem ok_need_many (T : Tx KF.k mg a) : FnG P w KF.k mg base 2 a.f_need_many a.d_need_many ["many"] (spP 1 F_need_many) := ok_pure (k := 1) T.F_need_many sc_need_many [] m_need_many (by decide) fun cdv A outer s H E G hr =>
    (qss_one (qs_if (PW.pt (qw_or (qt_not (qt_val (qe_call (ok_is_whole_rows T) (hr.mono (by decide)) (by rfl) T.g_is_whole_rows T.F_is_whole_rows.kp (b_is_whole_rows T) (qa_cons (qe_var 0) (qa_cons qe_int qa_nil))))) (qw_or1 (qt_cmp ok_gt (qe_var 0) (qe_globI T.c_MOST_PEOPLE.choose_spec))))) (qss_one qs_stop) qss_nil))
theorem b_is_gap (T : Tx KF.k mg a) : Binds KF.k a.d_is_gap ["thing", "many"] [] := T.F_is_gap.binds fun _ _ _ _ _ _ us hl => match us, hl with | [_, _], _ => rfl
theorem ok_is_gap (T : Tx KF.k mg a) : FnG P w KF.k mg base 2 a.f_is_gap a.d_is_gap ["thing", "many"] (spP 2 F_is_gap) := ok_pure (k := 1) T.F_is_gap sc_is_gap [] m_is_gap (by decide) fun cdv A outer s H E G hr =>
    (qss_one (qs_ret [] (qe_and (qe_call (ok_is_whole_rows T) (hr.mono (by decide)) (by rfl) T.g_is_whole_rows T.F_is_whole_rows.kp (b_is_whole_rows T) (qa_cons (qe_var 0) (qa_cons qe_int qa_nil))) (qe_one (qe_cmp ok_lt (qe_var 0) (qe_bin ok_sub (qe_var 1) qe_int))))))
theorem b_is_book (T : Tx KF.k mg a) : Binds KF.k a.d_is_book ["thing", "many"] [] := T.F_is_book.binds fun _ _ _ _ _ _ us hl => match us, hl with | [_, _], _ => rfl
theorem ok_is_book (T : Tx KF.k mg a) : FnG P w KF.k mg base 3 a.f_is_book a.d_is_book ["thing", "many"] (spP 2 F_is_book) := ok_pure (k := 2) T.F_is_book sc_is_book [] m_is_book (by decide) fun cdv A outer s H E G hr =>
    (qss_cons (qs_drop (qe_call (ok_need_many T) (hr.mono (by decide)) (by rfl) T.g_need_many T.F_need_many.kp (b_need_many T) (qa_cons (qe_var 1) qa_nil)))
    (qss_one (qs_ret [] (qe_and (qe_isi (by rfl) T.z_isinstance (by rfl) T.z_tuple bt_tuple (qe_var 0)) (qe_one (qe_callB ok_all (by rfl) T.z_all bt_all (qa_cons (qe_lc [2] sc_is_book.nd (qi_any (qe_var 0)) (blkOk_by (own := [("gap", 2)]) (N := ["thing", "many", "gap"]) (sc := defScope s_is_book) (by decide +kernel)) (fun _ _ _ _ _ => (qg_name 2 sc_is_book.nd)) (fun _ _ _ _ _ => qts_nil) (fun _ _ _ _ _ => (qe_frz (qe_call (ok_is_gap T) (hr.mono (by decide)) (by rfl) T.g_is_gap T.F_is_gap.kp (b_is_gap T) (qa_cons (qe_var 2) (qa_cons (qe_var 1) qa_nil)))))) qa_nil)))))))
theorem b_need_book (T : Tx KF.k mg a) : Binds KF.k a.d_need_book ["book", "many"] [] := T.F_need_book.binds fun _ _ _ _ _ _ us hl => match us, hl with | [_, _], _ => rfl
theorem ok_need_book (T : Tx KF.k mg a) : FnG P w KF.k mg base 4 a.f_need_book a.d_need_book ["book", "many"] (spP 2 F_need_book) := ok_pure (k := 3) T.F_need_book sc_need_book [] m_need_book (by decide) fun cdv A outer s H E G hr =>
    (qss_one (qs_if (qt_not (qt_val (qe_call (ok_is_book T) (hr.mono (by decide)) (by rfl) T.g_is_book T.F_is_book.kp (b_is_book T) (qa_cons (qe_var 0) (qa_cons (qe_var 1) qa_nil))))) (qss_one qs_stop) qss_nil))
theorem b_word_at (T : Tx KF.k mg a) : Binds KF.k a.d_word_at ["book", "place"] [] := T.F_word_at.binds fun _ _ _ _ _ _ us hl => match us, hl with | [_, _], _ => rfl
theorem ok_word_at (T : Tx KF.k mg a) : FnG P w KF.k mg base 1 a.f_word_at a.d_word_at ["book", "place"] (spP 2 F_word_at) := ok_pure (k := 0) T.F_word_at sc_word_at [] m_word_at (by decide) fun cdv A outer s H E G hr =>
    (qss_cons (qs_asg 2 (qe_frz (qe_sl (qe_var 0) (qo_some (qe_var 1)) (qo_some (qe_bin ok_add (qe_var 1) qe_int)))) (hN := sc_word_at.nd))
    (qss_cons (qs_if (PW.pt (qw_and (qt_cmp ok_gt (qe_callB ok_len (by rfl) T.z_len bt_len (qa_cons (qe_var 2) qa_nil)) qe_int) (qw_and1 (qt_cmp ok_gt (qe_callB ok_abs (by rfl) T.z_abs bt_abs (qa_cons (qe_bin ok_sub (qe_ix ok_ix (qe_var 2) qe_int) (qe_ix ok_ix (qe_var 2) qe_int)) qa_nil)) qe_int)))) (qss_one (qs_ret [] (qe_globS T.c_FAR.choose_spec))) qss_nil)
    (qss_cons (qs_if (PW.pt (qw_and (qt_cmp ok_gt (qe_callB ok_len (by rfl) T.z_len bt_len (qa_cons (qe_var 2) qa_nil)) qe_int) (qw_and1 (qt_cmp (ok_eq hr) (qe_ix ok_ix (qe_var 2) qe_int) (qe_ix ok_ix (qe_var 2) qe_int))))) (qss_one (qs_ret [] (qe_globS T.c_ONCE.choose_spec))) qss_nil)
    (qss_one (qs_ret [] (qe_if (PW.pt (qw_and (qt_cmp (ok_eq hr) (qe_callB ok_len (by rfl) T.z_len bt_len (qa_cons (qe_var 2) qa_nil)) qe_int) (qw_and1 (qt_cmp (ok_eq hr) (qe_ix ok_ix (qe_var 2) qe_int) (qe_ix ok_ix (qe_var 2) qe_int))))) (qe_globS T.c_THREE.choose_spec) qe_none))))))
theorem b_steps (T : Tx KF.k mg a) : Binds KF.k a.d_steps ["book"] [] := T.F_steps.binds fun _ _ _ _ _ _ us hl => match us, hl with | [_], _ => rfl
theorem ok_steps (T : Tx KF.k mg a) : FnG P w KF.k mg base 5 a.f_steps a.d_steps ["book"] (spP 1 F_steps) := ok_pure (k := 4) T.F_steps sc_steps [] m_steps (by decide) fun cdv A outer s H E G hr =>
    (qss_cons (qs_drop (qe_call (ok_need_book T) (hr.mono (by decide)) (by rfl) T.g_need_book T.F_need_book.kp (b_need_book T) (qa_cons (qe_var 0) (qa_cons (qe_globI T.c_MOST_PEOPLE.choose_spec) qa_nil))))
    (qss_cons (qs_lc 1 [2] sc_steps.nd (qi_range1 (by rfl) T.z_range (qa_cons (qe_callB ok_len (by rfl) T.z_len bt_len (qa_cons (qe_var 0) qa_nil)) qa_nil)) (blkOk_by (own := [("place", 2)]) (N := ["book", "found", "place", "word"]) (sc := defScope s_steps) (by decide +kernel)) (fun _ _ _ _ _ => (qg_name 2 sc_steps.nd)) (fun _ _ _ _ _ => qts_nil) (fun _ _ _ _ _ => (qe_tup (qa_cons (qe_var 2) (qa_cons (qe_frz (qe_call (ok_word_at T) (hr.mono (by decide)) (by rfl) T.g_word_at T.F_word_at.kp (b_word_at T) (qa_cons (qe_var 0) (qa_cons (qe_var 2) qa_nil)))) qa_nil)))))
    (qss_one (qs_ret [] (qe_lc [2, 3] sc_steps.nd (qi_any (qe_var 1)) (blkOk_by (own := [("place", 2), ("word", 3)]) (N := ["book", "found", "place", "word"]) (sc := defScope s_steps) (by decide +kernel)) (fun _ _ _ _ _ => (qg_tupL (qgs_cons (qg_name 2 sc_steps.nd) (qgs_cons (qg_name 3 sc_steps.nd) qgs_nil)))) (fun _ _ _ _ _ => (qts_one (qt_cmp ok_isNot (qe_var 3) qe_none))) (fun _ _ _ _ _ => (qe_tup (qa_cons (qe_var 2) (qa_cons (qe_var 3) qa_nil)))))))))
theorem b_law_word (T : Tx KF.k mg a) : Binds KF.k a.d_law_word ["plan", "k"] [] := T.F_law_word.binds fun _ _ _ _ _ _ us hl => match us, hl with | [_, _], _ => rfl
theorem ok_law_word (T : Tx KF.k mg a) : FnG P w KF.k mg base 1 a.f_law_word a.d_law_word ["plan", "k"] (spP 2 F_law_word) := ok_pure (k := 0) T.F_law_word sc_law_word [] m_law_word (by decide) fun cdv A outer s H E G hr =>
    (qss_cons (qs_asg 2 (qe_frz (qe_sl (qe_var 0) (qo_some (qe_var 1)) (qo_some (qe_bin ok_add (qe_var 1) qe_int)))) (hN := sc_law_word.nd))
    (qss_cons (qs_if (PW.pt (qw_and (qt_cmp ok_gt (qe_callB ok_len (by rfl) T.z_len bt_len (qa_cons (qe_var 2) qa_nil)) qe_int) (qw_and1 (qt_cmp ok_gt (qe_callB ok_abs (by rfl) T.z_abs bt_abs (qa_cons (qe_bin ok_sub (qe_ix ok_ix (qe_var 2) qe_int) (qe_ix ok_ix (qe_var 2) qe_int)) qa_nil)) qe_int)))) (qss_one (qs_ret [] qe_str)) qss_nil)
    (qss_cons (qs_if (PW.pt (qw_and (qt_cmp ok_gt (qe_callB ok_len (by rfl) T.z_len bt_len (qa_cons (qe_var 2) qa_nil)) qe_int) (qw_and1 (qt_cmp (ok_eq hr) (qe_ix ok_ix (qe_var 2) qe_int) (qe_ix ok_ix (qe_var 2) qe_int))))) (qss_one (qs_ret [] qe_str)) qss_nil)
    (qss_one (qs_ret [] (qe_if (PW.pt (qw_and (qt_cmp ok_gt (qe_callB ok_len (by rfl) T.z_len bt_len (qa_cons (qe_var 2) qa_nil)) qe_int) (qw_and1 (qt_cmp (ok_eq hr) (qe_ix ok_ix (qe_var 2) qe_int) (qe_ix ok_ix (qe_var 2) qe_int))))) qe_str qe_none))))))
theorem b_law_behind (T : Tx KF.k mg a) : Binds KF.k a.d_law_behind ["plan", "k"] [] := T.F_law_behind.binds fun _ _ _ _ _ _ us hl => match us, hl with | [_, _], _ => rfl
theorem ok_law_behind (T : Tx KF.k mg a) : FnG P w KF.k mg base 2 a.f_law_behind a.d_law_behind ["plan", "k"] (spP 2 F_law_behind) := ok_pure (k := 1) T.F_law_behind sc_law_behind [] m_law_behind (by decide) fun cdv A outer s H E G hr =>
    (qss_cons (qs_asg 2 (qe_frz (qe_call (ok_law_word T) (hr.mono (by decide)) (by rfl) T.g_law_word T.F_law_word.kp (b_law_word T) (qa_cons (qe_var 0) (qa_cons (qe_var 1) qa_nil)))) (hN := sc_law_behind.nd))
    (qss_cons (qs_if (qt_cmp (ok_eq hr) (qe_var 2) qe_str) (qss_one (qs_ret [] (qe_bin ok_add (qe_sl (qe_var 0) qo_none (qo_some (qe_var 1))) (qe_sl (qe_var 0) (qo_some (qe_bin ok_add (qe_var 1) qe_int)) qo_none)))) qss_nil)
    (qss_cons (qs_asg 3 (qe_tup (qa_cons (qe_frz (qe_ix ok_ix (qe_var 0) (qe_bin ok_add (qe_var 1) qe_int))) (qa_cons (qe_frz (qe_ix ok_ix (qe_var 0) (qe_var 1))) qa_nil))) (hN := sc_law_behind.nd))
    (qss_cons (qs_if (qt_cmp (ok_eq hr) (qe_var 2) qe_str) (qss_one (qs_ret [] (qe_bin ok_add (qe_bin ok_add (qe_bin ok_add (qe_sl (qe_var 0) qo_none (qo_some (qe_var 1))) (qe_var 3)) (qe_sl (qe_var 3) qo_none (qo_some qe_int))) (qe_sl (qe_var 0) (qo_some (qe_bin ok_add (qe_var 1) qe_int)) qo_none)))) qss_nil)
    (qss_one (qs_ret [] (qe_bin ok_add (qe_bin ok_add (qe_sl (qe_var 0) qo_none (qo_some (qe_var 1))) (qe_var 3)) (qe_sl (qe_var 0) (qo_some (qe_bin ok_add (qe_var 1) qe_int)) qo_none))))))))
theorem b_law_alike (T : Tx KF.k mg a) : Binds KF.k a.d_law_alike ["found", "due"] [] := T.F_law_alike.binds fun _ _ _ _ _ _ us hl => match us, hl with | [_, _], _ => rfl
theorem ok_law_alike (T : Tx KF.k mg a) : ∀ n : Nat, FnG P w KF.k mg base (1 + n) a.f_law_alike a.d_law_alike ["found", "due"] (spP 2 (F_law_alike n))
  | 0 => ok_none rfl
  | n + 1 => by
    have ih := ok_law_alike T n
    exact ok_pure (k := 1 + n) T.F_law_alike sc_law_alike [] (m_law_alike (F_law_alike n)) (by decide) fun cdv A outer s H E G hr =>
    (qss_cons (qs_if (qt_val (qe_isi2 (by rfl) T.z_isinstance (by rfl) T.z_list bt_list (by rfl) T.z_tuple bt_tuple (qe_var 1))) (qss_cons (qs_if (PW.pt (qw_or (qt_cmp (ok_ne hr) (qe_isi (by rfl) T.z_isinstance (by rfl) T.z_list bt_list (qe_var 0)) (qe_isi (by rfl) T.z_isinstance (by rfl) T.z_list bt_list (qe_var 1))) (qw_or1 (qt_not (qt_val (qe_isi2 (by rfl) T.z_isinstance (by rfl) T.z_list bt_list (by rfl) T.z_tuple bt_tuple (qe_var 0))))))) (qss_one (qs_ret [] qe_bool)) qss_nil)
    (qss_cons (qs_if (qt_cmp (ok_ne hr) (qe_callB ok_len (by rfl) T.z_len bt_len (qa_cons (qe_var 0) qa_nil)) (qe_callB ok_len (by rfl) T.z_len bt_len (qa_cons (qe_var 1) qa_nil))) (qss_one (qs_ret [] qe_bool)) qss_nil)
    (qss_one (qs_ret [] (qe_callB ok_all (by rfl) T.z_all bt_all (qa_cons (qe_lc [2] sc_law_alike.nd (qi_range1 (by rfl) T.z_range (qa_cons (qe_callB ok_len (by rfl) T.z_len bt_len (qa_cons (qe_var 1) qa_nil)) qa_nil)) (blkOk_by (own := [("k", 2)]) (N := ["found", "due", "k"]) (sc := defScope s_law_alike) (by decide +kernel)) (fun _ _ _ _ _ => (qg_name 2 sc_law_alike.nd)) (fun _ _ _ _ _ => qts_nil) (fun _ _ _ _ _ => (qe_frz (qe_call ih hr (by rfl) T.g_law_alike T.F_law_alike.kp (b_law_alike T) (qa_cons (qe_frz (qe_ix ok_ix (qe_var 0) (qe_var 2))) (qa_cons (qe_frz (qe_ix ok_ix (qe_var 1) (qe_var 2))) qa_nil)))))) qa_nil)))))) qss_nil)
    (qss_cons (qs_if (PW.pt (qw_or (qt_cmp ok_is (qe_var 1) qe_none) (qw_or1 (qt_cmp ok_is (qe_var 0) qe_none)))) (qss_one (qs_ret [] (qe_and (qe_cmp ok_is (qe_var 1) qe_none) (qe_one (qe_cmp ok_is (qe_var 0) qe_none))))) qss_nil)
    (qss_cons (qs_if (PW.pt (qw_or (qt_val (qe_isi (by rfl) T.z_isinstance (by rfl) T.z_bool bt_bool (qe_var 1))) (qw_or1 (qt_val (qe_isi (by rfl) T.z_isinstance (by rfl) T.z_bool bt_bool (qe_var 0)))))) (qss_one (qs_ret [] (qe_and (qe_isi (by rfl) T.z_isinstance (by rfl) T.z_bool bt_bool (qe_var 1)) (qe_and (qe_isi (by rfl) T.z_isinstance (by rfl) T.z_bool bt_bool (qe_var 0)) (qe_one (qe_cmp (ok_eq hr) (qe_var 0) (qe_var 1))))))) qss_nil)
    (qss_one (qs_ret [] (qe_cmp (ok_eq hr) (qe_var 0) (qe_var 1)))))))
theorem b_behind (T : Tx KF.k mg a) : Binds KF.k a.d_behind ["book", "place"] [] := T.F_behind.binds fun _ _ _ _ _ _ us hl => match us, hl with | [_, _], _ => rfl
theorem ok_behind (T : Tx KF.k mg a) : FnG P w KF.k mg base 2 a.f_behind a.d_behind ["book", "place"] (spP 2 F_behind) := ok_pure (k := 1) T.F_behind sc_behind [] m_behind (by decide) fun cdv A outer s H E G hr =>
    (qss_cons (qs_asg 2 (qe_frz (qe_sl (qe_var 0) (qo_some (qe_var 1)) (qo_some (qe_bin ok_add (qe_var 1) qe_int)))) (hN := sc_behind.nd))
    (qss_cons (qs_asg 3 (qe_frz (qe_call (ok_word_at T) (hr.mono (by decide)) (by rfl) T.g_word_at T.F_word_at.kp (b_word_at T) (qa_cons (qe_var 0) (qa_cons (qe_var 1) qa_nil)))) (hN := sc_behind.nd))
    (qss_cons (qs_if (qt_cmp (ok_eq hr) (qe_var 3) (qe_globS T.c_THREE.choose_spec)) (qss_one (qs_ret [] (qe_bin ok_add (qe_bin ok_add (qe_sl (qe_var 0) qo_none (qo_some (qe_var 1))) (qe_tup (qa_cons (qe_frz (qe_ix ok_ix (qe_var 2) qe_int)) (qa_cons (qe_frz (qe_ix ok_ix (qe_var 2) qe_int)) (qa_cons (qe_frz (qe_ix ok_ix (qe_var 2) qe_int)) qa_nil))))) (qe_sl (qe_var 0) (qo_some (qe_bin ok_add (qe_var 1) qe_int)) qo_none)))) qss_nil)
    (qss_cons (qs_if (qt_cmp (ok_eq hr) (qe_var 3) (qe_globS T.c_ONCE.choose_spec)) (qss_one (qs_ret [] (qe_bin ok_add (qe_sl (qe_var 0) qo_none (qo_some (qe_var 1))) (qe_sl (qe_var 0) (qo_some (qe_bin ok_add (qe_var 1) qe_int)) qo_none)))) qss_nil)
    (qss_one (qs_ret [] (qe_bin ok_add (qe_bin ok_add (qe_sl (qe_var 0) qo_none (qo_some (qe_var 1))) (qe_tup (qa_cons (qe_frz (qe_ix ok_ix (qe_var 2) qe_int)) (qa_cons (qe_frz (qe_ix ok_ix (qe_var 2) qe_int)) qa_nil)))) (qe_sl (qe_var 0) (qo_some (qe_bin ok_add (qe_var 1) qe_int)) qo_none))))))))
theorem b_is_whole_goings (T : Tx KF.k mg a) : Binds KF.k a.d_is_whole_goings ["thing"] [] := T.F_is_whole_goings.binds fun _ _ _ _ _ _ us hl => match us, hl with | [_], _ => rfl
theorem ok_is_whole_goings (T : Tx KF.k mg a) : FnG P w KF.k mg base 1 a.f_is_whole_goings a.d_is_whole_goings ["thing"] (spP 1 F_is_whole_goings) := ok_pure (k := 0) T.F_is_whole_goings sc_is_whole_goings [] m_is_whole_goings (by decide) fun cdv A outer s H E G hr =>
    (qss_one (qs_ret [] (qe_and (qe_isi (by rfl) T.z_isinstance (by rfl) T.z_int bt_int (qe_var 0)) (qe_and (qe_not (qe_isi (by rfl) T.z_isinstance (by rfl) T.z_bool bt_bool (qe_var 0))) (qe_one (qe_cmp ok_ge (qe_var 0) qe_int))))))
theorem b_stepped (T : Tx KF.k mg a) : Binds KF.k a.d_stepped ["book", "step"] [] := T.F_stepped.binds fun _ _ _ _ _ _ us hl => match us, hl with | [_, _], _ => rfl
theorem ok_stepped (T : Tx KF.k mg a) : FnG P w KF.k mg base 6 a.f_stepped a.d_stepped ["book", "step"] (spP 2 F_stepped) := ok_pure (k := 5) T.F_stepped sc_stepped [] m_stepped (by decide) fun cdv A outer s H E G hr =>
    (qss_cons (qs_asg 2 (qe_frz (qe_call (ok_steps T) (hr.mono (by decide)) (by rfl) T.g_steps T.F_steps.kp (b_steps T) (qa_cons (qe_var 0) qa_nil))) (hN := sc_stepped.nd))
    (qss_cons (qs_if (PW.pt (qw_or (qt_not (qt_val (qe_isi (by rfl) T.z_isinstance (by rfl) T.z_tuple bt_tuple (qe_var 1)))) (qw_or (qt_cmp (ok_ne hr) (qe_callB ok_len (by rfl) T.z_len bt_len (qa_cons (qe_var 1) qa_nil)) qe_int) (qw_or (qt_not (qt_val (qe_call (ok_is_whole_goings T) (hr.mono (by decide)) (by rfl) T.g_is_whole_goings T.F_is_whole_goings.kp (b_is_whole_goings T) (qa_cons (qe_frz (qe_ix ok_ix (qe_var 1) qe_int)) qa_nil)))) (qw_or1 (qt_cmp (ok_notInZ hr) (qe_var 1) (qe_var 2))))))) (qss_one qs_stop) qss_nil)
    (qss_one (qs_ret [] (qe_call (ok_behind T) (hr.mono (by decide)) (by rfl) T.g_behind T.F_behind.kp (b_behind T) (qa_cons (qe_var 0) (qa_cons (qe_frz (qe_ix ok_ix (qe_var 1) qe_int)) qa_nil)))))))
theorem okX_stepped (T : Tx KF.k mg a) : FnX P w KF.k mg base 6 a.f_stepped a.d_stepped ["book", "step"] (spX mg 2 F_stepped R_stepped) := ok_pureX (k := 5) T.F_stepped sc_stepped [] m_stepped r_stepped (by decide) fun cdv A outer s H E G hr tk hp =>
    (xss_cons (xs_lift (qs_asg 2 (qe_frz (qe_call (ok_steps T) (hr.mono (by decide)) (by rfl) T.g_steps T.F_steps.kp (b_steps T) (qa_cons (qe_var 0) qa_nil))) (hN := sc_stepped.nd)))
    (xss_cons (xs_if (PW.pt (qw_or (qt_not (qt_val (qe_isi (by rfl) T.z_isinstance (by rfl) T.z_tuple bt_tuple (qe_var 1)))) (qw_or (qt_cmp (ok_ne hr) (qe_callB ok_len (by rfl) T.z_len bt_len (qa_cons (qe_var 1) qa_nil)) qe_int) (qw_or (qt_not (qt_val (qe_call (ok_is_whole_goings T) (hr.mono (by decide)) (by rfl) T.g_is_whole_goings T.F_is_whole_goings.kp (b_is_whole_goings T) (qa_cons (qe_frz (qe_ix ok_ix (qe_var 1) qe_int)) qa_nil)))) (qw_or1 (qt_cmp (ok_notInZ hr) (qe_var 1) (qe_var 2))))))) (xss_one (xs_raise tk (pmk_own0 PySem.F.excBase_ValueError T.x_NoStep T.g_NoStep T.k_NoStep (raises_own T.b_NoStep T.t_NoStep) (by rfl)) T.g_NoStep)) (xss_lift qss_nil))
    (xss_lift (qss_one (qs_ret [] (qe_call (ok_behind T) (hr.mono (by decide)) (by rfl) T.g_behind T.F_behind.kp (b_behind T) (qa_cons (qe_var 0) (qa_cons (qe_frz (qe_ix ok_ix (qe_var 1) qe_int)) qa_nil))))))))
theorem b_law_refused (T : Tx KF.k mg a) : Binds KF.k a.d_law_refused ["plan", "some"] [] := T.F_law_refused.binds fun _ _ _ _ _ _ us hl => match us, hl with | [_, _], _ => rfl
theorem ok_law_refused (T : Tx KF.k mg a) : FnG P w KF.k mg base 7 a.f_law_refused a.d_law_refused ["plan", "some"] (spP 2 F_law_refused) := ok_pure (k := 6) T.F_law_refused sc_law_refused [] m_law_refused (by decide) fun cdv A outer s H E G hr =>
    (qss_cons (qs_asg 2 qe_bool (hN := sc_law_refused.nd))
    (qss_cons (xs_tryAs 3 ["NoStep"] rfl rfl sc_law_refused.nd ⟨by rfl, by decide, .inl T.g_NoStep⟩ (fun y hy C gC => by cases List.mem_singleton.mp hy; have e := T.g_NoStep.symm.trans gC; cases e; exact T.m_NoStep) (fun W pn xe tk hp => (xss_one (xs_drop (xe_call (okX_stepped T) (hr.mono (by decide)) tk (by rfl) T.g_stepped T.F_stepped.kp (b_stepped T) (qa_cons (qe_var 0) (qa_cons (qe_var 1) qa_nil)))))) (fun a oe D pn hy hz hfd => by obtain ⟨y, hy, gD⟩ := hy; cases List.mem_singleton.mp hy; have e := T.g_NoStep.symm.trans gD; cases e; exact qsu_is 2 (qe_isE2 (qe_isEO (X := _) 3 T.c_NoStep hz hfd T.i_NoStep_MeetError (by rfl) T.z_isinstance (by rfl) T.g_MeetError) (qe_isEB (X := _) 3 T.c_NoStep hz hfd T.v_NoStep (by rfl) T.z_isinstance (by rfl) T.z_ValueError boot_ValueError)) (hN := sc_law_refused.nd)))
    (qss_one (qs_ret [] (qe_var 2)))))
theorem b_law_none_right (T : Tx KF.k mg a) : Binds KF.k a.d_law_none_right ["bag", "plan", "due"] [] := T.F_law_none_right.binds fun _ _ _ _ _ _ us hl => match us, hl with | [_, _, _], _ => rfl
theorem ok_law_none_right (T : Tx KF.k mg a) : FnG P w KF.k mg base 8 a.f_law_none_right a.d_law_none_right ["bag", "plan", "due"] (spB 3 F_law_none_right) := ok_bag (k := 7) T.F_law_none_right sc_law_none_right [0] m_law_none_right (by decide) (by decide) fun cdv A outer s H E p G hr =>
    (qss_cons (qs_asg 3 (qe_frz (qe_bag 0 (ok_law_take T) (hr.mono (by decide)) (by rfl) T.g_law_take T.F_law_take.kp (b_law_take T) (qa_cons (qe_frz (qe_bin ok_add (qe_callB ok_len (by rfl) T.z_len bt_len (qa_cons (qe_var 1) qa_nil)) qe_int)) qa_nil))) (hN := sc_law_none_right.nd))
    (qss_cons (qs_asg 4 (qe_frz (qe_lst (qa_cons qe_str (qa_cons qe_str (qa_cons qe_str qa_nil))))) (hN := sc_law_none_right.nd))
    (qss_cons (qs_asg 5 (qe_frz (qe_lst (qa_cons (qe_tup (qa_cons (qe_var 3) (qa_cons (qe_frz (qe_ix ok_ix (qe_var 4) (qe_bag 0 (ok_law_take T) (hr.mono (by decide)) (by rfl) T.g_law_take T.F_law_take.kp (b_law_take T) (qa_cons qe_int qa_nil)))) qa_nil))) (qa_cons (qe_tup (qa_cons (qe_var 3) (qa_cons qe_str qa_nil))) (qa_cons (qe_tup (qa_cons (qe_callB ok_len (by rfl) T.z_len bt_len (qa_cons (qe_var 1) qa_nil)) (qa_cons qe_str qa_nil))) (qa_cons (qe_tup (qa_cons (qe_un ok_neg qe_int) (qa_cons qe_str qa_nil))) (qa_cons (qe_tup (qa_cons (qe_var 3) qa_nil)) (qa_cons (qe_tup (qa_cons qe_bool (qa_cons qe_str qa_nil))) (qa_cons qe_none qa_nil))))))))) (hN := sc_law_none_right.nd))
    (qss_cons (qs_asg 5 (qe_frz (qe_bin ok_add (qe_var 5) (qe_lst (qa_cons (qe_frz (qe_lst (qa_cons (qe_var 3) (qa_cons qe_str qa_nil)))) (qa_cons (qe_tup (qa_cons qe_str (qa_cons qe_str qa_nil))) (qa_cons (qe_tup (qa_cons (qe_var 3) (qa_cons qe_none qa_nil))) (qa_cons qe_int (qa_cons (qe_tup (qa_cons (qe_var 3) (qa_cons qe_str (qa_cons qe_int qa_nil)))) (qa_cons qe_str (qa_cons (qe_tup (qa_cons qe_bool (qa_cons (qe_frz (qe_ix ok_ix (qe_var 4) (qe_bag 0 (ok_law_take T) (hr.mono (by decide)) (by rfl) T.g_law_take T.F_law_take.kp (b_law_take T) (qa_cons qe_int qa_nil)))) qa_nil))) qa_nil)))))))))) (hN := sc_law_none_right.nd))
    (qss_cons (qs_asg 6 (qe_frz (qe_ix ok_ix (qe_var 5) (qe_bag 0 (ok_law_take T) (hr.mono (by decide)) (by rfl) T.g_law_take T.F_law_take.kp (b_law_take T) (qa_cons qe_int qa_nil)))) (hN := sc_law_none_right.nd))
    (qss_one (qs_ret [0] (qe_or (qe_and (qe_cmp (ok_inZ hr) (qe_var 6) (qe_var 2)) (qe_one (qe_not (qe_isi (by rfl) T.z_isinstance (by rfl) T.z_bool bt_bool (qe_ix ok_ix (qe_var 6) qe_int))))) (qe_one (qe_call (ok_law_refused T) (hr.mono (by decide)) (by rfl) T.g_law_refused T.F_law_refused.kp (b_law_refused T) (qa_cons (qe_var 1) (qa_cons (qe_var 6) qa_nil))))))))))))
theorem b_law_right (T : Tx KF.k mg a) : Binds KF.k a.d_law_right ["bag"] [] := T.F_law_right.binds fun _ _ _ _ _ _ us hl => match us, hl with | [_], _ => rfl
theorem ok_law_right (T : Tx KF.k mg a) : FnG P w KF.k mg base 14 a.f_law_right a.d_law_right ["bag"] (spB 1 F_law_right) := ok_bag (k := 13) T.F_law_right sc_law_right [0, 5] m_law_right (by decide) (by decide) fun cdv A outer s H E p G hr =>
    (qss_cons (qs_asg 1 (qe_frz (qe_ix ok_ix (qe_lst (qa_cons (qe_frz (qe_bin ok_add qe_int (qe_bag 0 (ok_law_take T) (hr.mono (by decide)) (by rfl) T.g_law_take T.F_law_take.kp (b_law_take T) (qa_cons qe_int qa_nil)))) (qa_cons qe_int (qa_cons qe_int qa_nil)))) (qe_bag 0 (ok_law_take T) (hr.mono (by decide)) (by rfl) T.g_law_take T.F_law_take.kp (b_law_take T) (qa_cons qe_int qa_nil)))) (hN := sc_law_right.nd))
    (qss_cons (qs_asg 2 (qe_frz (qe_bag 0 (ok_law_plan T) (hr.mono (by decide)) (by rfl) T.g_law_plan T.F_law_plan.kp (b_law_plan T) (qa_cons (qe_var 1) (qa_cons (qe_frz (qe_bag 0 (ok_law_take T) (hr.mono (by decide)) (by rfl) T.g_law_take T.F_law_take.kp (b_law_take T) (qa_cons (qe_frz (qe_ix ok_ix (qe_lst (qa_cons qe_int (qa_cons qe_int qa_nil))) (qe_bag 0 (ok_law_take T) (hr.mono (by decide)) (by rfl) T.g_law_take T.F_law_take.kp (b_law_take T) (qa_cons qe_int qa_nil)))) qa_nil))) qa_nil)))) (hN := sc_law_right.nd))
    (qss_cons (qs_for (qi_range1 (by rfl) T.z_range (qa_cons qe_int qa_nil)) (qg_name 3 sc_law_right.nd) (qss_cons (qs_lc 4 [8] sc_law_right.nd (qi_range1 (by rfl) T.z_range (qa_cons (qe_callB ok_len (by rfl) T.z_len bt_len (qa_cons (qe_var 2) qa_nil)) qa_nil)) (blkOk_by (own := [("k", 8)]) (N := ["bag", "size", "plan", "turn", "due", "told", "some", "later", "k"]) (sc := defScope s_law_right) (by decide +kernel)) (fun _ _ _ _ _ => (qg_name 8 sc_law_right.nd)) (fun _ _ _ _ _ => (qts_one (qt_cmp ok_isNot (qe_call (ok_law_word T) (hr.mono (by decide)) (by rfl) T.g_law_word T.F_law_word.kp (b_law_word T) (qa_cons (qe_var 2) (qa_cons (qe_var 8) qa_nil))) qe_none))) (fun _ _ _ _ _ => (qe_tup (qa_cons (qe_var 8) (qa_cons (qe_frz (qe_call (ok_law_word T) (hr.mono (by decide)) (by rfl) T.g_law_word T.F_law_word.kp (b_law_word T) (qa_cons (qe_var 2) (qa_cons (qe_var 8) qa_nil)))) qa_nil)))))
    (qss_cons (qs_asgO 5 (qe_call (ok_steps T) (hr.mono (by decide)) (by rfl) T.g_steps T.F_steps.kp (b_steps T) (qa_cons (qe_var 2) qa_nil)) (hN := sc_law_right.nd))
    (qss_cons (qs_if (PW.pt (qw_or (qt_not (qt_val (qe_callS (ok_law_alike T 12) (hr.mono (by decide)) (by rfl) T.g_law_alike T.F_law_alike.kp (b_law_alike T) (qa_cons (qe_own 5) (qa_cons (qe_var 4) qa_nil))))) (qw_or1 (qt_not (qt_val (qe_bag 0 (ok_law_none_right T) (hr.mono (by decide)) (by rfl) T.g_law_none_right T.F_law_none_right.kp (b_law_none_right T) (qa_cons (qe_var 2) (qa_cons (qe_var 4) qa_nil)))))))) (qss_one (qs_ret [0] qe_bool)) qss_nil)
    (qss_cons (qs_drop (qe_mut 5 ok_append PySem.F.slot_list_append PySem.F.type_list_append (qa_cons (qe_tup (qa_cons qe_int (qa_cons qe_str qa_nil))) qa_nil)))
    (qss_cons (qs_if (qt_not (qt_val (qe_call (ok_law_alike T 12) (hr.mono (by decide)) (by rfl) T.g_law_alike T.F_law_alike.kp (b_law_alike T) (qa_cons (qe_frz (qe_callK [0] (ok_steps T) (hr.mono (by decide)) (by rfl) T.g_steps T.F_steps.kp (kb_of T.F_steps fun _ _ _ _ _ _ ws hl => match ws, hl with | [_], _ => rfl) (qk_cons (qe_var 2) qk_nil))) (qa_cons (qe_var 4) qa_nil))))) (qss_one (qs_ret [0] qe_bool)) qss_nil)
    (qss_cons (qs_if (qt_cmp (ok_eq hr) (qe_var 4) (qe_lst qa_nil)) (qss_one (qs_ret [0] qe_bool)) qss_nil)
    (qss_cons (qs_asg 6 (qe_frz (qe_ix ok_ix (qe_var 4) (qe_bag 0 (ok_law_take T) (hr.mono (by decide)) (by rfl) T.g_law_take T.F_law_take.kp (b_law_take T) (qa_cons (qe_callB ok_len (by rfl) T.z_len bt_len (qa_cons (qe_var 4) qa_nil)) qa_nil)))) (hN := sc_law_right.nd))
    (qss_cons (qs_asg 7 (qe_frz (qe_call (ok_law_behind T) (hr.mono (by decide)) (by rfl) T.g_law_behind T.F_law_behind.kp (b_law_behind T) (qa_cons (qe_var 2) (qa_cons (qe_frz (qe_ix ok_ix (qe_var 6) qe_int)) qa_nil)))) (hN := sc_law_right.nd))
    (qss_cons (qs_if (qt_not (qt_val (qe_call (ok_law_alike T 12) (hr.mono (by decide)) (by rfl) T.g_law_alike T.F_law_alike.kp (b_law_alike T) (qa_cons (qe_frz (qe_lst (qa_cons (qe_frz (qe_call (ok_stepped T) (hr.mono (by decide)) (by rfl) T.g_stepped T.F_stepped.kp (b_stepped T) (qa_cons (qe_var 2) (qa_cons (qe_var 6) qa_nil)))) (qa_cons (qe_frz (qe_callK [1, 0] (ok_stepped T) (hr.mono (by decide)) (by rfl) T.g_stepped T.F_stepped.kp (kb_of T.F_stepped fun _ _ _ _ _ _ ws hl => match ws, hl with | [_, _], _ => rfl) (qk_cons (qe_var 6) (qk_cons (qe_var 2) qk_nil)))) qa_nil)))) (qa_cons (qe_frz (qe_lst (qa_cons (qe_var 7) (qa_cons (qe_var 7) qa_nil)))) qa_nil))))) (qss_one (qs_ret [0] qe_bool)) qss_nil)
    (qss_one (qs_asg 2 (qe_var 7) (hN := sc_law_right.nd)))))))))))))
    (qss_one (qs_ret [0] qe_bool)))))
theorem b_law_bag (T : Tx KF.k mg a) : Binds KF.k a.d_law_bag ["cell", "k"] [] := T.F_law_bag.binds fun _ _ _ _ _ _ us hl => match us, hl with | [_, _], _ => rfl
theorem ok_law_bag (T : Tx KF.k mg a) : FnG P w KF.k mg base 1 a.f_law_bag a.d_law_bag ["cell", "k"] (spP 2 F_law_bag) := ok_pure (k := 0) T.F_law_bag sc_law_bag [] m_law_bag (by decide) fun cdv A outer s H E G hr =>
    (qss_one (qs_ret [] (qe_lst (qa_cons (qe_callB ok_max (by rfl) T.z_max bt_max (qa_cons qe_int (qa_cons (qe_bin ok_sub (qe_var 0) (qe_bin ok_pow qe_int qe_int)) qa_nil))) (qa_cons (qe_frz (qe_bin ok_add (qe_bin ok_mod (qe_var 0) qe_int) (qe_bin ok_mul qe_int (qe_bin ok_add (qe_var 1) qe_int)))) (qa_cons qe_int qa_nil))))))
theorem b_law_cell_at (T : Tx KF.k mg a) : Binds KF.k a.d_law_cell_at ["script", "k"] [] := T.F_law_cell_at.binds fun _ _ _ _ _ _ us hl => match us, hl with | [_, _], _ => rfl
theorem ok_law_cell_at (T : Tx KF.k mg a) : FnG P w KF.k mg base 1 a.f_law_cell_at a.d_law_cell_at ["script", "k"] (spP 2 F_law_cell_at) := ok_pure (k := 0) T.F_law_cell_at sc_law_cell_at [] m_law_cell_at (by decide) fun cdv A outer s H E G hr =>
    (qss_cons (qs_if (qt_cmp ok_lt (qe_var 1) (qe_callB ok_lenS (by rfl) T.z_len bt_len (qa_cons (qe_var 0) qa_nil))) (qss_one (qs_ret [] (qe_ix ok_ixS (qe_var 0) (qe_var 1)))) qss_nil)
    (qss_one (qs_ret [] qe_int)))
theorem b_law (T : Tx KF.k mg a) : Binds KF.k a.d_law ["script"] [] := T.F_law.binds fun _ _ _ _ _ _ us hl => match us, hl with | [_], _ => rfl
theorem ok_law (T : Tx KF.k mg a) : FnG P w KF.k mg base 15 a.f_law a.d_law ["script"] (spP 1 F_law) := ok_pure (k := 14) T.F_law sc_law [] m_law (by decide) fun cdv A outer s H E G hr =>
    (qss_one (qs_ret [] (qe_callB ok_all (by rfl) T.z_all bt_all (qa_cons (qe_lc [1] sc_law.nd (qi_range1 (by rfl) T.z_range (qa_cons qe_int qa_nil)) (blkOk_by (own := [("k", 1)]) (N := ["script", "k"]) (sc := defScope s_law) (by decide +kernel)) (fun _ _ _ _ _ => (qg_name 1 sc_law.nd)) (fun _ _ _ _ _ => qts_nil) (fun _ _ _ _ _ => (qe_frz (qe_bagT (ok_law_right T) (hr.mono (by decide)) (by rfl) T.g_law_right T.F_law_right.kp (b_law_right T) (qe_call (ok_law_bag T) (hr.mono (by decide)) (by rfl) T.g_law_bag T.F_law_bag.kp (b_law_bag T) (qa_cons (qe_frz (qe_call (ok_law_cell_at T) (hr.mono (by decide)) (by rfl) T.g_law_cell_at T.F_law_cell_at.kp (b_law_cell_at T) (qa_cons (qe_var 0) (qa_cons (qe_var 1) qa_nil)))) (qa_cons (qe_var 1) qa_nil))) qa_nil)))) qa_nil))))
end
theorem all_mk {l : PySem.W.OpenLaw} {w : World} {K : PySem.W.Frag} {h : Heap} {mg : Str → Option Value} {fa : Addr} (X : K.In h) (G : h.Ns mainGlobals mg) (hfa : mg "law" = some (.ref fa))
    {f0 : Addr} {od0 an0 : Option Addr} {sl0 : Array (Option Value)} {oc0 kV0 dc0 pm0 cd0 ct0 : Value}
    (a0 : PySem.W.nsIn K mainGlobals "_law_take" = some (some (.ref f0))) (l0 : K.lookup f0 = some ⟨oc0, od0, .func (PySem.W.fnOf "_law_take" "_law_take" (defArgs s_law_take) (defBody s_law_take) (defScope s_law_take) .none kV0 dc0 pm0 an0 cd0 ct0), sl0⟩) (c0 : PySem.W.codeIn K cd0 "_law_take" = true) (k0 : PySem.W.keepIn K (.ref f0) = true)
    {f1 : Addr} {od1 an1 : Option Addr} {sl1 : Array (Option Value)} {oc1 kV1 dc1 pm1 cd1 ct1 : Value}
    (a1 : PySem.W.nsIn K mainGlobals "_law_plan" = some (some (.ref f1))) (l1 : K.lookup f1 = some ⟨oc1, od1, .func (PySem.W.fnOf "_law_plan" "_law_plan" (defArgs s_law_plan) (defBody s_law_plan) (defScope s_law_plan) .none kV1 dc1 pm1 an1 cd1 ct1), sl1⟩) (c1 : PySem.W.codeIn K cd1 "_law_plan" = true) (k1 : PySem.W.keepIn K (.ref f1) = true)
    {f2 : Addr} {od2 an2 : Option Addr} {sl2 : Array (Option Value)} {oc2 kV2 dc2 pm2 cd2 ct2 : Value}
    (a2 : PySem.W.nsIn K mainGlobals "is_whole_rows" = some (some (.ref f2))) (l2 : K.lookup f2 = some ⟨oc2, od2, .func (PySem.W.fnOf "is_whole" "is_whole" (defArgs s_is_whole_rows) (defBody s_is_whole_rows) (defScope s_is_whole_rows) .none kV2 dc2 pm2 an2 cd2 ct2), sl2⟩) (c2 : PySem.W.codeIn K cd2 "is_whole" = true) (k2 : PySem.W.keepIn K (.ref f2) = true)
    {f3 : Addr} {od3 an3 : Option Addr} {sl3 : Array (Option Value)} {oc3 kV3 dc3 pm3 cd3 ct3 : Value}
    (a3 : PySem.W.nsIn K mainGlobals "need_many" = some (some (.ref f3))) (l3 : K.lookup f3 = some ⟨oc3, od3, .func (PySem.W.fnOf "need_many" "need_many" (defArgs s_need_many) (defBody s_need_many) (defScope s_need_many) .none kV3 dc3 pm3 an3 cd3 ct3), sl3⟩) (c3 : PySem.W.codeIn K cd3 "need_many" = true) (k3 : PySem.W.keepIn K (.ref f3) = true)
    {f4 : Addr} {od4 an4 : Option Addr} {sl4 : Array (Option Value)} {oc4 kV4 dc4 pm4 cd4 ct4 : Value}
    (a4 : PySem.W.nsIn K mainGlobals "is_gap" = some (some (.ref f4))) (l4 : K.lookup f4 = some ⟨oc4, od4, .func (PySem.W.fnOf "is_gap" "is_gap" (defArgs s_is_gap) (defBody s_is_gap) (defScope s_is_gap) .none kV4 dc4 pm4 an4 cd4 ct4), sl4⟩) (c4 : PySem.W.codeIn K cd4 "is_gap" = true) (k4 : PySem.W.keepIn K (.ref f4) = true)
    {f5 : Addr} {od5 an5 : Option Addr} {sl5 : Array (Option Value)} {oc5 kV5 dc5 pm5 cd5 ct5 : Value}
    (a5 : PySem.W.nsIn K mainGlobals "is_book" = some (some (.ref f5))) (l5 : K.lookup f5 = some ⟨oc5, od5, .func (PySem.W.fnOf "is_book" "is_book" (defArgs s_is_book) (defBody s_is_book) (defScope s_is_book) .none kV5 dc5 pm5 an5 cd5 ct5), sl5⟩) (c5 : PySem.W.codeIn K cd5 "is_book" = true) (k5 : PySem.W.keepIn K (.ref f5) = true)
    {f6 : Addr} {od6 an6 : Option Addr} {sl6 : Array (Option Value)} {oc6 kV6 dc6 pm6 cd6 ct6 : Value}
    (a6 : PySem.W.nsIn K mainGlobals "need_book" = some (some (.ref f6))) (l6 : K.lookup f6 = some ⟨oc6, od6, .func (PySem.W.fnOf "need_book" "need_book" (defArgs s_need_book) (defBody s_need_book) (defScope s_need_book) .none kV6 dc6 pm6 an6 cd6 ct6), sl6⟩) (c6 : PySem.W.codeIn K cd6 "need_book" = true) (k6 : PySem.W.keepIn K (.ref f6) = true)
    {f7 : Addr} {od7 an7 : Option Addr} {sl7 : Array (Option Value)} {oc7 kV7 dc7 pm7 cd7 ct7 : Value}
    (a7 : PySem.W.nsIn K mainGlobals "word_at" = some (some (.ref f7))) (l7 : K.lookup f7 = some ⟨oc7, od7, .func (PySem.W.fnOf "word_at" "word_at" (defArgs s_word_at) (defBody s_word_at) (defScope s_word_at) .none kV7 dc7 pm7 an7 cd7 ct7), sl7⟩) (c7 : PySem.W.codeIn K cd7 "word_at" = true) (k7 : PySem.W.keepIn K (.ref f7) = true)
    {f8 : Addr} {od8 an8 : Option Addr} {sl8 : Array (Option Value)} {oc8 kV8 dc8 pm8 cd8 ct8 : Value}
    (a8 : PySem.W.nsIn K mainGlobals "steps" = some (some (.ref f8))) (l8 : K.lookup f8 = some ⟨oc8, od8, .func (PySem.W.fnOf "steps" "steps" (defArgs s_steps) (defBody s_steps) (defScope s_steps) .none kV8 dc8 pm8 an8 cd8 ct8), sl8⟩) (c8 : PySem.W.codeIn K cd8 "steps" = true) (k8 : PySem.W.keepIn K (.ref f8) = true)
    {f9 : Addr} {od9 an9 : Option Addr} {sl9 : Array (Option Value)} {oc9 kV9 dc9 pm9 cd9 ct9 : Value}
    (a9 : PySem.W.nsIn K mainGlobals "_law_word" = some (some (.ref f9))) (l9 : K.lookup f9 = some ⟨oc9, od9, .func (PySem.W.fnOf "_law_word" "_law_word" (defArgs s_law_word) (defBody s_law_word) (defScope s_law_word) .none kV9 dc9 pm9 an9 cd9 ct9), sl9⟩) (c9 : PySem.W.codeIn K cd9 "_law_word" = true) (k9 : PySem.W.keepIn K (.ref f9) = true)
    {f10 : Addr} {od10 an10 : Option Addr} {sl10 : Array (Option Value)} {oc10 kV10 dc10 pm10 cd10 ct10 : Value}
    (a10 : PySem.W.nsIn K mainGlobals "_law_behind" = some (some (.ref f10))) (l10 : K.lookup f10 = some ⟨oc10, od10, .func (PySem.W.fnOf "_law_behind" "_law_behind" (defArgs s_law_behind) (defBody s_law_behind) (defScope s_law_behind) .none kV10 dc10 pm10 an10 cd10 ct10), sl10⟩) (c10 : PySem.W.codeIn K cd10 "_law_behind" = true) (k10 : PySem.W.keepIn K (.ref f10) = true)
    {f11 : Addr} {od11 an11 : Option Addr} {sl11 : Array (Option Value)} {oc11 kV11 dc11 pm11 cd11 ct11 : Value}
    (a11 : PySem.W.nsIn K mainGlobals "_law_alike" = some (some (.ref f11))) (l11 : K.lookup f11 = some ⟨oc11, od11, .func (PySem.W.fnOf "_law_alike" "_law_alike" (defArgs s_law_alike) (defBody s_law_alike) (defScope s_law_alike) .none kV11 dc11 pm11 an11 cd11 ct11), sl11⟩) (c11 : PySem.W.codeIn K cd11 "_law_alike" = true) (k11 : PySem.W.keepIn K (.ref f11) = true)
    {f12 : Addr} {od12 an12 : Option Addr} {sl12 : Array (Option Value)} {oc12 kV12 dc12 pm12 cd12 ct12 : Value}
    (a12 : PySem.W.nsIn K mainGlobals "behind" = some (some (.ref f12))) (l12 : K.lookup f12 = some ⟨oc12, od12, .func (PySem.W.fnOf "behind" "behind" (defArgs s_behind) (defBody s_behind) (defScope s_behind) .none kV12 dc12 pm12 an12 cd12 ct12), sl12⟩) (c12 : PySem.W.codeIn K cd12 "behind" = true) (k12 : PySem.W.keepIn K (.ref f12) = true)
    {f13 : Addr} {od13 an13 : Option Addr} {sl13 : Array (Option Value)} {oc13 kV13 dc13 pm13 cd13 ct13 : Value}
    (a13 : PySem.W.nsIn K mainGlobals "is_whole_goings" = some (some (.ref f13))) (l13 : K.lookup f13 = some ⟨oc13, od13, .func (PySem.W.fnOf "is_whole" "is_whole" (defArgs s_is_whole_goings) (defBody s_is_whole_goings) (defScope s_is_whole_goings) .none kV13 dc13 pm13 an13 cd13 ct13), sl13⟩) (c13 : PySem.W.codeIn K cd13 "is_whole" = true) (k13 : PySem.W.keepIn K (.ref f13) = true)
    {f14 : Addr} {od14 an14 : Option Addr} {sl14 : Array (Option Value)} {oc14 kV14 dc14 pm14 cd14 ct14 : Value}
    (a14 : PySem.W.nsIn K mainGlobals "stepped" = some (some (.ref f14))) (l14 : K.lookup f14 = some ⟨oc14, od14, .func (PySem.W.fnOf "stepped" "stepped" (defArgs s_stepped) (defBody s_stepped) (defScope s_stepped) .none kV14 dc14 pm14 an14 cd14 ct14), sl14⟩) (c14 : PySem.W.codeIn K cd14 "stepped" = true) (k14 : PySem.W.keepIn K (.ref f14) = true)
    {f15 : Addr} {od15 an15 : Option Addr} {sl15 : Array (Option Value)} {oc15 kV15 dc15 pm15 cd15 ct15 : Value}
    (a15 : PySem.W.nsIn K mainGlobals "_law_refused" = some (some (.ref f15))) (l15 : K.lookup f15 = some ⟨oc15, od15, .func (PySem.W.fnOf "_law_refused" "_law_refused" (defArgs s_law_refused) (defBody s_law_refused) (defScope s_law_refused) .none kV15 dc15 pm15 an15 cd15 ct15), sl15⟩) (c15 : PySem.W.codeIn K cd15 "_law_refused" = true) (k15 : PySem.W.keepIn K (.ref f15) = true)
    {f16 : Addr} {od16 an16 : Option Addr} {sl16 : Array (Option Value)} {oc16 kV16 dc16 pm16 cd16 ct16 : Value}
    (a16 : PySem.W.nsIn K mainGlobals "_law_none_right" = some (some (.ref f16))) (l16 : K.lookup f16 = some ⟨oc16, od16, .func (PySem.W.fnOf "_law_none_right" "_law_none_right" (defArgs s_law_none_right) (defBody s_law_none_right) (defScope s_law_none_right) .none kV16 dc16 pm16 an16 cd16 ct16), sl16⟩) (c16 : PySem.W.codeIn K cd16 "_law_none_right" = true) (k16 : PySem.W.keepIn K (.ref f16) = true)
    {f17 : Addr} {od17 an17 : Option Addr} {sl17 : Array (Option Value)} {oc17 kV17 dc17 pm17 cd17 ct17 : Value}
    (a17 : PySem.W.nsIn K mainGlobals "_law_right" = some (some (.ref f17))) (l17 : K.lookup f17 = some ⟨oc17, od17, .func (PySem.W.fnOf "_law_right" "_law_right" (defArgs s_law_right) (defBody s_law_right) (defScope s_law_right) .none kV17 dc17 pm17 an17 cd17 ct17), sl17⟩) (c17 : PySem.W.codeIn K cd17 "_law_right" = true) (k17 : PySem.W.keepIn K (.ref f17) = true)
    {f18 : Addr} {od18 an18 : Option Addr} {sl18 : Array (Option Value)} {oc18 kV18 dc18 pm18 cd18 ct18 : Value}
    (a18 : PySem.W.nsIn K mainGlobals "_law_bag" = some (some (.ref f18))) (l18 : K.lookup f18 = some ⟨oc18, od18, .func (PySem.W.fnOf "_law_bag" "_law_bag" (defArgs s_law_bag) (defBody s_law_bag) (defScope s_law_bag) .none kV18 dc18 pm18 an18 cd18 ct18), sl18⟩) (c18 : PySem.W.codeIn K cd18 "_law_bag" = true) (k18 : PySem.W.keepIn K (.ref f18) = true)
    {f19 : Addr} {od19 an19 : Option Addr} {sl19 : Array (Option Value)} {oc19 kV19 dc19 pm19 cd19 ct19 : Value}
    (a19 : PySem.W.nsIn K mainGlobals "_law_cell_at" = some (some (.ref f19))) (l19 : K.lookup f19 = some ⟨oc19, od19, .func (PySem.W.fnOf "_law_cell_at" "_law_cell_at" (defArgs s_law_cell_at) (defBody s_law_cell_at) (defScope s_law_cell_at) .none kV19 dc19 pm19 an19 cd19 ct19), sl19⟩) (c19 : PySem.W.codeIn K cd19 "_law_cell_at" = true) (k19 : PySem.W.keepIn K (.ref f19) = true)
    {f20 : Addr} {od20 an20 : Option Addr} {sl20 : Array (Option Value)} {oc20 kV20 dc20 pm20 cd20 ct20 : Value}
    (a20 : PySem.W.nsIn K mainGlobals "law" = some (some (.ref f20))) (l20 : K.lookup f20 = some ⟨oc20, od20, .func (PySem.W.fnOf "law" "law" (defArgs s_law) (defBody s_law) (defScope s_law) .none kV20 dc20 pm20 an20 cd20 ct20), sl20⟩) (c20 : PySem.W.codeIn K cd20 "law" = true) (k20 : PySem.W.keepIn K (.ref f20) = true)
    (z0 : PySem.W.nsIn K mainGlobals "ValueError" = some none)
    (z1 : PySem.W.nsIn K mainGlobals "abs" = some none)
    (z2 : PySem.W.nsIn K mainGlobals "all" = some none)
    (z3 : PySem.W.nsIn K mainGlobals "bool" = some none)
    (z4 : PySem.W.nsIn K mainGlobals "int" = some none)
    (z5 : PySem.W.nsIn K mainGlobals "isinstance" = some none)
    (z6 : PySem.W.nsIn K mainGlobals "len" = some none)
    (z7 : PySem.W.nsIn K mainGlobals "list" = some none)
    (z8 : PySem.W.nsIn K mainGlobals "max" = some none)
    (z9 : PySem.W.nsIn K mainGlobals "range" = some none)
    (z10 : PySem.W.nsIn K mainGlobals "tuple" = some none)
    {t0 : Tok} (q0 : PySem.W.nsIn K mainGlobals "FAR" = some (some (.str (Str.ofString "far") t0)))
    {t1 : Tok} (q1 : PySem.W.nsIn K mainGlobals "MOST_PEOPLE" = some (some (.int 9 t1)))
    {t2 : Tok} (q2 : PySem.W.nsIn K mainGlobals "ONCE" = some (some (.str (Str.ofString "once") t2)))
    {t3 : Tok} (q3 : PySem.W.nsIn K mainGlobals "THREE" = some (some (.str (Str.ofString "three") t3)))
    {E0 : Addr} (ea0 : PySem.W.nsIn K mainGlobals "NoStep" = some (some (.ref E0))) (ex0 : PySem.W.excIn K E0 [.type "ValueError", .type "Exception", .type "BaseException", .type "object"] "ValueError.__new__" = true) (ek0 : PySem.W.keepIn K (.ref E0) = true) (eb0 : PySem.W.subIn K (.ref E0) (.type "BaseException") = some true) (et0 : PySem.W.typeIn K (.ref E0) = some (.type "type")) (ei0 : PySem.W.isClsIn K E0 = true) (es0 : PySem.W.subIn K (.ref E0) (.ref E0) = some true)
    {E1 : Addr} (ea1 : PySem.W.nsIn K mainGlobals "MeetError" = some (some (.ref E1)))
    (va0 : PySem.W.findIn K (.ref E0) "__getattribute__" = some (some (.builtin "BaseException.__getattribute__"))) (vb0 : PySem.W.findIn K (.ref E0) "__getattr__" = some none) (vc0 : PySem.W.hasDictIn K E0 = true) (vd0 : PySem.W.findIn K (.ref E0) "__class__" = some (some (.builtin "object.__class__"))) (ve0 : PySem.W.specialIn K (.builtin "object.__class__") "__get__" = some (some (.builtin "getset_descriptor.__get__"))) (vf0 : PySem.W.takesIn K (.builtin "object.__class__") = some true) (vg0 : PySem.W.mroIn K E0 (.type "object") = some true) (vh0 : PySem.W.kitOne K (.ref E0) (.type "ValueError") = some true)
    (vi0 : PySem.W.kitOne K (.ref E0) (.ref E1) = some true) :
    ∃ fd : FuncData, (∀ (s : Shared) (v : Value), BindsTo s fd ⟨[v], []⟩ [("script", v)]) ∧ ∀ base : Heap, K.In base → base.Ns mainGlobals mg → FnG l.prog w K mg base 15 fa fd ["script"] (@spP ⟨K⟩ 1 F_law) := by
  have e := hfa.symm.trans (PySem.W.mg_of X G a20)
  cases e
  letI : KF := ⟨K⟩
  have T : Tx K mg ⟨f0, PySem.W.fnOf "_law_take" "_law_take" (defArgs s_law_take) (defBody s_law_take) (defScope s_law_take) .none kV0 dc0 pm0 an0 cd0 ct0, f1, PySem.W.fnOf "_law_plan" "_law_plan" (defArgs s_law_plan) (defBody s_law_plan) (defScope s_law_plan) .none kV1 dc1 pm1 an1 cd1 ct1, f2, PySem.W.fnOf "is_whole" "is_whole" (defArgs s_is_whole_rows) (defBody s_is_whole_rows) (defScope s_is_whole_rows) .none kV2 dc2 pm2 an2 cd2 ct2, f3, PySem.W.fnOf "need_many" "need_many" (defArgs s_need_many) (defBody s_need_many) (defScope s_need_many) .none kV3 dc3 pm3 an3 cd3 ct3, f4, PySem.W.fnOf "is_gap" "is_gap" (defArgs s_is_gap) (defBody s_is_gap) (defScope s_is_gap) .none kV4 dc4 pm4 an4 cd4 ct4, f5, PySem.W.fnOf "is_book" "is_book" (defArgs s_is_book) (defBody s_is_book) (defScope s_is_book) .none kV5 dc5 pm5 an5 cd5 ct5, f6, PySem.W.fnOf "need_book" "need_book" (defArgs s_need_book) (defBody s_need_book) (defScope s_need_book) .none kV6 dc6 pm6 an6 cd6 ct6, f7, PySem.W.fnOf "word_at" "word_at" (defArgs s_word_at) (defBody s_word_at) (defScope s_word_at) .none kV7 dc7 pm7 an7 cd7 ct7, f8, PySem.W.fnOf "steps" "steps" (defArgs s_steps) (defBody s_steps) (defScope s_steps) .none kV8 dc8 pm8 an8 cd8 ct8, f9, PySem.W.fnOf "_law_word" "_law_word" (defArgs s_law_word) (defBody s_law_word) (defScope s_law_word) .none kV9 dc9 pm9 an9 cd9 ct9, f10, PySem.W.fnOf "_law_behind" "_law_behind" (defArgs s_law_behind) (defBody s_law_behind) (defScope s_law_behind) .none kV10 dc10 pm10 an10 cd10 ct10, f11, PySem.W.fnOf "_law_alike" "_law_alike" (defArgs s_law_alike) (defBody s_law_alike) (defScope s_law_alike) .none kV11 dc11 pm11 an11 cd11 ct11, f12, PySem.W.fnOf "behind" "behind" (defArgs s_behind) (defBody s_behind) (defScope s_behind) .none kV12 dc12 pm12 an12 cd12 ct12, f13, PySem.W.fnOf "is_whole" "is_whole" (defArgs s_is_whole_goings) (defBody s_is_whole_goings) (defScope s_is_whole_goings) .none kV13 dc13 pm13 an13 cd13 ct13, f14, PySem.W.fnOf "stepped" "stepped" (defArgs s_stepped) (defBody s_stepped) (defScope s_stepped) .none kV14 dc14 pm14 an14 cd14 ct14, f15, PySem.W.fnOf "_law_refused" "_law_refused" (defArgs s_law_refused) (defBody s_law_refused) (defScope s_law_refused) .none kV15 dc15 pm15 an15 cd15 ct15, f16, PySem.W.fnOf "_law_none_right" "_law_none_right" (defArgs s_law_none_right) (defBody s_law_none_right) (defScope s_law_none_right) .none kV16 dc16 pm16 an16 cd16 ct16, f17, PySem.W.fnOf "_law_right" "_law_right" (defArgs s_law_right) (defBody s_law_right) (defScope s_law_right) .none kV17 dc17 pm17 an17 cd17 ct17, f18, PySem.W.fnOf "_law_bag" "_law_bag" (defArgs s_law_bag) (defBody s_law_bag) (defScope s_law_bag) .none kV18 dc18 pm18 an18 cd18 ct18, f19, PySem.W.fnOf "_law_cell_at" "_law_cell_at" (defArgs s_law_cell_at) (defBody s_law_cell_at) (defScope s_law_cell_at) .none kV19 dc19 pm19 an19 cd19 ct19, fa, PySem.W.fnOf "law" "law" (defArgs s_law) (defBody s_law) (defScope s_law) .none kV20 dc20 pm20 an20 cd20 ct20, E0, E1⟩ :=
    ⟨fun_mk (st := s_law_take) l0 c0 k0, PySem.W.mg_of X G a0, fun_mk (st := s_law_plan) l1 c1 k1, PySem.W.mg_of X G a1, fun_mk (st := s_is_whole_rows) l2 c2 k2, PySem.W.mg_of X G a2, fun_mk (st := s_need_many) l3 c3 k3, PySem.W.mg_of X G a3, fun_mk (st := s_is_gap) l4 c4 k4, PySem.W.mg_of X G a4, fun_mk (st := s_is_book) l5 c5 k5, PySem.W.mg_of X G a5, fun_mk (st := s_need_book) l6 c6 k6, PySem.W.mg_of X G a6, fun_mk (st := s_word_at) l7 c7 k7, PySem.W.mg_of X G a7, fun_mk (st := s_steps) l8 c8 k8, PySem.W.mg_of X G a8, fun_mk (st := s_law_word) l9 c9 k9, PySem.W.mg_of X G a9, fun_mk (st := s_law_behind) l10 c10 k10, PySem.W.mg_of X G a10, fun_mk (st := s_law_alike) l11 c11 k11, PySem.W.mg_of X G a11, fun_mk (st := s_behind) l12 c12 k12, PySem.W.mg_of X G a12, fun_mk (st := s_is_whole_goings) l13 c13 k13, PySem.W.mg_of X G a13, fun_mk (st := s_stepped) l14 c14 k14, PySem.W.mg_of X G a14, fun_mk (st := s_law_refused) l15 c15 k15, PySem.W.mg_of X G a15, fun_mk (st := s_law_none_right) l16 c16 k16, PySem.W.mg_of X G a16, fun_mk (st := s_law_right) l17 c17 k17, PySem.W.mg_of X G a17, fun_mk (st := s_law_bag) l18 c18 k18, PySem.W.mg_of X G a18, fun_mk (st := s_law_cell_at) l19 c19 k19, PySem.W.mg_of X G a19, fun_mk (st := s_law) l20 c20 k20, PySem.W.mg_of X G a20, PySem.W.mg_none_of X G z0, PySem.W.mg_none_of X G z1, PySem.W.mg_none_of X G z2, PySem.W.mg_none_of X G z3, PySem.W.mg_none_of X G z4, PySem.W.mg_none_of X G z5, PySem.W.mg_none_of X G z6, PySem.W.mg_none_of X G z7, PySem.W.mg_none_of X G z8, PySem.W.mg_none_of X G z9, PySem.W.mg_none_of X G z10, ⟨_, PySem.W.mg_of X G q0⟩, ⟨_, PySem.W.mg_of X G q1⟩, ⟨_, PySem.W.mg_of X G q2⟩, ⟨_, PySem.W.mg_of X G q3⟩, PySem.W.mg_of X G ea0, ex0, ek0, eb0, et0, exm_self eb0 ei0 et0 es0, PySem.W.mg_of X G ea1, ⟨va0, vb0, eb0, vc0, vd0, ve0, vf0, vg0⟩, vh0, vi0⟩
  exact ⟨_, fun s v => .of_eq rfl, fun base _ _ => ok_law T⟩
end Law
open PySem PySem.W PyProof.Rows
set_option maxHeartbeats 0 in
theorem PySem.Challenge.cw_maymeet_k19_steps_told_holds : PySem.Challenge.rw_maymeet_k19_steps_told.Holds := by
  w_on; o_law; k_head; (case hw => w_witness2)
  k_fill
  refine ML.walkG (l := PySem.Challenge.rw_maymeet_k19_steps_told) (n := 63) (k := 15) (x := "script") (sp := fun K => @ML.spP ⟨K⟩ 1 Law.F_law) rfl (by decide) rfl ⟨⟨rfl, by decide, by decide⟩, rfl⟩ (fun w h Y => PySem.W.kIn_of Y) ?F (fun K H a ns hl _ hS => ML.law_end (Law.law_true ns hl) hS)
  case F =>
    intro w mg fa h KX G hmg
    refine' Law.all_mk KX G hmg ?a0 ?l0 ?c0 ?k0 ?a1 ?l1 ?c1 ?k1 ?a2 ?l2 ?c2 ?k2 ?a3 ?l3 ?c3 ?k3 ?a4 ?l4 ?c4 ?k4 ?a5 ?l5 ?c5 ?k5 ?a6 ?l6 ?c6 ?k6 ?a7 ?l7 ?c7 ?k7 ?a8 ?l8 ?c8 ?k8 ?a9 ?l9 ?c9 ?k9 ?a10 ?l10 ?c10 ?k10 ?a11 ?l11 ?c11 ?k11 ?a12 ?l12 ?c12 ?k12 ?a13 ?l13 ?c13 ?k13 ?a14 ?l14 ?c14 ?k14 ?a15 ?l15 ?c15 ?k15 ?a16 ?l16 ?c16 ?k16 ?a17 ?l17 ?c17 ?k17 ?a18 ?l18 ?c18 ?k18 ?a19 ?l19 ?c19 ?k19 ?a20 ?l20 ?c20 ?k20 ?z0 ?z1 ?z2 ?z3 ?z4 ?z5 ?z6 ?z7 ?z8 ?z9 ?z10 ?q0 ?q1 ?q2 ?q3 ?ea0 ?ex0 ?ek0 ?eb0 ?et0 ?ei0 ?es0 ?ea1 ?va0 ?vb0 ?vc0 ?vd0 ?ve0 ?vf0 ?vg0 ?vh0 ?vi0
    (case a0 => k_is); (case l0 => k_is); (case c0 => k_is); (case k0 => k_is); (case a1 => k_is); (case l1 => k_is); (case c1 => k_is); (case k1 => k_is); (case a2 => k_is); (case l2 => k_is); (case c2 => k_is); (case k2 => k_is); (case a3 => k_is); (case l3 => k_is); (case c3 => k_is); (case k3 => k_is); (case a4 => k_is); (case l4 => k_is); (case c4 => k_is); (case k4 => k_is); (case a5 => k_is); (case l5 => k_is); (case c5 => k_is); (case k5 => k_is); (case a6 => k_is); (case l6 => k_is); (case c6 => k_is); (case k6 => k_is); (case a7 => k_is); (case l7 => k_is); (case c7 => k_is); (case k7 => k_is); (case a8 => k_is); (case l8 => k_is); (case c8 => k_is); (case k8 => k_is); (case a9 => k_is); (case l9 => k_is); (case c9 => k_is); (case k9 => k_is); (case a10 => k_is); (case l10 => k_is); (case c10 => k_is); (case k10 => k_is); (case a11 => k_is); (case l11 => k_is); (case c11 => k_is); (case k11 => k_is); (case a12 => k_is); (case l12 => k_is); (case c12 => k_is); (case k12 => k_is); (case a13 => k_is); (case l13 => k_is); (case c13 => k_is); (case k13 => k_is); (case a14 => k_is); (case l14 => k_is); (case c14 => k_is); (case k14 => k_is); (case a15 => k_is); (case l15 => k_is); (case c15 => k_is); (case k15 => k_is); (case a16 => k_is); (case l16 => k_is); (case c16 => k_is); (case k16 => k_is); (case a17 => k_is); (case l17 => k_is); (case c17 => k_is); (case k17 => k_is); (case a18 => k_is); (case l18 => k_is); (case c18 => k_is); (case k18 => k_is); (case a19 => k_is); (case l19 => k_is); (case c19 => k_is); (case k19 => k_is); (case a20 => k_is); (case l20 => k_is); (case c20 => k_is); (case k20 => k_is); (case z0 => k_is); (case z1 => k_is); (case z2 => k_is); (case z3 => k_is); (case z4 => k_is); (case z5 => k_is); (case z6 => k_is); (case z7 => k_is); (case z8 => k_is); (case z9 => k_is); (case z10 => k_is); (case q0 => k_is); (case q1 => k_is); (case q2 => k_is); (case q3 => k_is); (case ea0 => k_is); (case ex0 => k_exc); (case ek0 => k_is); (case eb0 => k_is); (case et0 => k_is); (case ei0 => k_is); (case es0 => first | rfl | k_is); (case ea1 => k_is); (case va0 => k_is); (case vb0 => k_is); (case vc0 => k_is); (case vd0 => k_is); (case ve0 => k_is); (case vf0 => k_is); (case vg0 => k_is); (case vh0 => kit_is); (case vi0 => kit_is)
