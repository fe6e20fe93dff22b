import PyProof.Rows.All
import Wide.All
import OpenK.AllK
import Wide.FinOn
import PyProof.ExcInit
import PyProof.InstStoreFacts
import Lean
import PySem.Challenge.RW_nn0116_01
open PySem PySem.W PyProof.Rows PySem.Spec PySem.Calls
set_option Elab.async false
set_option compiler.extract_closed false
set_option maxRecDepth 100000
set_option maxHeartbeats 8000000
namespace Mine
/-- top / 10^places in its least form -/
structure IsNorm (x p T P : Int) : Prop where
  lo : 0 ≤ P
  hi : P ≤ p
  eq : x = T * 10 ^ (p - P).toNat
  red : 0 < P → T % 10 ≠ 0

theorem acc_norm_aux (x p : Int) : ∀ n : Nat, (∀ j : Int, p - n < j → j ≤ p → (accDown (fun _ x => x.fdiv 10) p x j).fmod 10 = 0) →
    x = accDown (fun _ x => x.fdiv 10) p x (p - n) * 10 ^ n
  | 0, _ => by
    simp only [Int.natCast_zero, Int.sub_zero, accDown_start, Int.pow_zero, Int.mul_one]
  | n + 1, h => by
    have ih := acc_norm_aux x p n fun j h1 h2 => h j (by omega) h2
    have hj := h (p - n) (by omega) (by omega)
    have e : p - ((n + 1 : Nat) : Int) = (p - n) - 1 := by omega
    rw [e, accDown_succ (by omega)]
    generalize accDown (fun _ x => x.fdiv 10) p x (p - n) = y at *
    have hy : y = y.fdiv 10 * 10 := by
      rw [Int.fmod_eq_emod_of_nonneg _ (by decide)] at hj
      rw [Int.fdiv_eq_ediv_of_nonneg _ (by decide)]; omega
    show x = y.fdiv 10 * 10 ^ (n + 1)
    rw [Int.pow_succ, Int.mul_comm (10 ^ n) 10, ← Int.mul_assoc, ← hy]; exact ih

theorem acc_norm {x p k : Int} (hp : 0 ≤ p) (h1 : k ≤ p) (h2 : min p 0 ≤ k)
    (h3 : ∀ j : Int, k < j → j ≤ p → (if 0 < j then if ((accDown (fun _ x => x.fdiv 10) p x j).fmod 10 == 0) = true then true else false else false) = true)
    (h4 : (if 0 < k then if ((accDown (fun _ x => x.fdiv 10) p x k).fmod 10 == 0) = true then true else false else false) = false) :
    IsNorm x p (accDown (fun _ x => x.fdiv 10) p x k) k where
  lo := by omega
  hi := h1
  eq := by
    have := acc_norm_aux x p (p - k).toNat fun j ha hb => by
      have := h3 j (by omega) hb
      split at this
      · split at this
        · rename_i hh; simpa using hh
        · cases this
      · cases this
    rwa [show p - ((p - k).toNat : Int) = k from by omega] at this
  red := fun hk => by
    rw [if_pos hk] at h4
    split at h4
    · cases h4
    · rename_i hh
      rw [Int.fmod_eq_emod_of_nonneg _ (by decide)] at hh
      simpa using hh
/-- x has at most n bits -/
def Sm (n : Nat) (x : Int) : Prop := x.natAbs < 2 ^ n
theorem Sm.mono {n m : Nat} {x : Int} (h : Sm n x) (hnm : n ≤ m) : Sm m x := Nat.lt_of_lt_of_le h (Nat.pow_le_pow_right (by decide) hnm)
theorem Sm.mul {n m : Nat} {x y : Int} (hx : Sm n x) (hy : Sm m y) : Sm (n + m) (x * y) := by
  unfold Sm at *
  rw [Int.natAbs_mul, Nat.pow_add]
  exact Nat.mul_lt_mul'' hx hy
theorem Sm.add {n m : Nat} {x y : Int} (hx : Sm n x) (hy : Sm m y) : Sm (max n m + 1) (x + y) := by
  unfold Sm at *
  have h1 := Nat.lt_of_lt_of_le hx (Nat.pow_le_pow_right (n := 2) (by decide) (Nat.le_max_left n m))
  have h2 := Nat.lt_of_lt_of_le hy (Nat.pow_le_pow_right (n := 2) (by decide) (Nat.le_max_right n m))
  have h3 := Int.natAbs_add_le x y
  rw [Nat.pow_succ]; omega
theorem Sm.neg {n : Nat} {x : Int} (hx : Sm n x) : Sm n (-x) := by unfold Sm at *; rwa [Int.natAbs_neg]
theorem Sm.sub {n m : Nat} {x y : Int} (hx : Sm n x) (hy : Sm m y) : Sm (max n m + 1) (x - y) := by
  rw [Int.sub_eq_add_neg]; exact hx.add hy.neg
theorem Sm.abs {n : Nat} {x : Int} (hx : Sm n x) : Sm n (x.natAbs : Int) := by unfold Sm at *; rwa [Int.natAbs_natCast]
theorem Sm.of_abs {n : Nat} {x y : Int} (hx : Sm n x) (h : y.natAbs ≤ x.natAbs) : Sm n y := Nat.lt_of_le_of_lt h hx
theorem Sm.fdiv {n : Nat} {x y : Int} (hx : Sm n x) : Sm (n + 1) (x.fdiv y) := by
  unfold Sm at *
  have : (x.fdiv y).natAbs ≤ x.natAbs + 1 := by
    rcases Int.lt_trichotomy y 0 with hy | hy | hy
    · have e := Int.neg_fdiv_neg x y
      rw [← e]
      have hy' : 0 < -y := by omega
      rw [Int.fdiv_eq_ediv_of_nonneg _ (by omega)]
      have := Int.natAbs_ediv_le_natAbs (-x) (-y)
      omega
    · subst hy; simp
    · rw [Int.fdiv_eq_ediv_of_nonneg _ (by omega)]
      have := Int.natAbs_ediv_le_natAbs x y
      omega
  rw [Nat.pow_succ]
  have : 0 < 2 ^ n := Nat.pow_pos (by decide)
  omega
theorem Sm.pow10 {k : Nat} {e : Int} (h : e ≤ k) : Sm (4 * k + 1) (10 ^ e.toNat) := by
  unfold Sm
  rw [Int.natAbs_pow, Nat.pow_succ, Nat.pow_mul]
  have h1 : (10 : Int).natAbs ^ e.toNat ≤ 16 ^ e.toNat := Nat.pow_le_pow_left (by decide) _
  have h2 : 16 ^ e.toNat ≤ 16 ^ k := Nat.pow_le_pow_right (by decide) (by omega)
  have h3 : 0 < 16 ^ k := Nat.pow_pos (by decide)
  show _ < 16 ^ k * 2
  omega
theorem Sm.pow2 {k : Nat} {e : Int} (h : e ≤ k) : Sm (k + 1) (2 ^ e.toNat) := by
  unfold Sm
  rw [Int.natAbs_pow, Nat.pow_succ]
  have h2 : 2 ^ e.toNat ≤ 2 ^ k := Nat.pow_le_pow_right (by decide) (by omega)
  have h3 : 0 < 2 ^ k := Nat.pow_pos (by decide)
  show 2 ^ e.toNat < 2 ^ k * 2
  omega
theorem Sm.lit {n : Nat} {x : Int} (h : (decide (x.natAbs < 2 ^ n)) = true) : Sm n x := by unfold Sm; exact of_decide_eq_true h
theorem Sm.zero {n : Nat} : Sm n 0 := Nat.pow_pos (by decide)
theorem Sm.sgn {x : Int} (h : x = 0 ∨ x = 1 ∨ x = -1) : Sm 1 x := by rcases h with rfl | rfl | rfl <;> exact Sm.lit (by decide)
theorem Sm.bits {n : Nat} {x : Int} (h : Sm n x) : Builtin.Int.intBits x ≤ n := by
  unfold Builtin.Int.intBits
  split
  · exact Nat.zero_le _
  · rename_i h0
    have hne : x.natAbs ≠ 0 := by simpa using h0
    have : x.natAbs.log2 < n := (Nat.log2_lt hne).mpr h
    omega
theorem Sm.mulOk {n m : Nat} {x y : Int} (hx : Sm n x) (hy : Sm m y) (hn : n ≤ 1048576) (hm : m ≤ 1048576) : IntMulOk x y := .of_bits (Nat.le_trans hx.bits hn) (Nat.le_trans hy.bits hm)
theorem Sm.log {n : Nat} {y : Int} (hy : Sm n y) (hn : n ≤ 9000) : y.natAbs.log2 < 9000 := by
  by_cases h : y.natAbs = 0
  · rw [h]; decide
  · exact Nat.lt_of_lt_of_le ((Nat.log2_lt h).mpr hy) hn

section
variable {M : Model} {A : Around} {E : Value → Shared → Prop} {env : Env}
variable {nm q : Str} {C N : Addr} {bs bm : List Value} {hdct : Bool} {sn : List Str} {sub : List Value} {ab : Bool} {col : Option Bool} {dd : Option Addr} {k0 k1 k2 k3 k5 : Option Value} {newId : String}

/-- a raise of an instance of an own class, whatever its dict holds -/
theorem raise_x {s : Shared} {x : Sem Value} {Q : Flow → Shared → Prop} (hbase : bm.contains (.type "BaseException") = true) (hh : A.handled = none)
    (h : wpAny M A x (fun v s₁ => ∃ e oe vs, v = .ref e ∧ s₁.heap.get? C = some (excClassObj nm q C N bs bm hdct sn sub ab col dd k0 k1 k2 k3 k5 newId) ∧
      s₁.heap.get? e = some oe ∧ oe.cls = .ref C ∧ oe.data = .fields vs ∧ vs[1]? = some .none ∧ E (.ref e) s₁) E s) :
    wpAny M A (raiseStmt env (some x) none) Q E s := by
  have hcB : (Value.ref C :: bm).contains (.type "BaseException") = true := by rw [List.contains_cons, hbase, Bool.or_true]
  unfold raiseStmt
  refine wpAny_bind (wpAny_mono h (fun v s₁ h₁ => ?_) fun _ _ x => x)
  obtain ⟨e, oe, vs, rfl, hC, he, hcls, hd, h1, hE⟩ := h₁
  obtain ⟨hp, g, d, tk, os⟩ := s₁
  repeat (first | (with_reducible refine wpAny_loadPart_at he ?_; (try rw [hcls])) | with_reducible refine wpAny_loadPart_at hC ?_ | (with_reducible refine wpAny_isSubtype_exc hC ?_; rw [hcB]) | wp_step)
  rw [hd]
  refine wpAny_pure ?_
  rw [h1]
  refine wpAny_pure ?_
  rw [if_neg (by decide)]
  refine wpAny_pure (wpAny_raiseNew_none hh hE)
end

section
variable {M : Model} {A : Around} {E : Value → Shared → Prop} {s' : Shared} {base g : Heap} {outer : List Env} {L a e : Addr} {m : Str → Option Value} {name : Str} {scope : Scope} {cd : Value} {Q : Unit → Shared → Prop} {news : List (Addr × Obj)}
theorem leave_x {oe : Obj} {vs : Array Value} {a0 : Value} (K : Below A base outer g) (F : Fr g L s'.heap m) (N : News g L s'.heap ((e, oe) :: news)) (hne : ∀ p ∈ news, p.1 ≠ e)
    (hd : oe.data = .fields vs) (h0 : vs[0]? = some a0) (h1 : vs[1]? = some .none)
    (hQ : ∀ h', RaisedN base outer e oe.cls news h' → g.UpToSlots h' → Q () { s' with heap := h' }) (hk : scope.kind = .function := by rfl) :
    wpAny M (A.deeper (envOf name scope L a cd)) (leaving (envOf name scope L a cd) (.ref e)) Q E s' := by
  have K' := K.push (name := name) (a := a) (cd := cd) F hk
  have hNe := N _ (.head _)
  have hin : ∀ env ∈ (envOf name scope L a cd :: outer), ∀ b, env.frame = some b → b ∈ e :: (envOf name scope L a cd :: outer).filterMap (·.frame) := fun env he b hb => .tail _ (List.mem_filterMap.mpr ⟨env, he, hb⟩)
  have st : base.StaysIn (hideAll s'.heap (e :: (envOf name scope L a cd :: outer).filterMap (·.frame))) := fun b o q => hideAll_get _ (K'.stays b o q) fun hm => by
    rcases List.mem_cons.mp hm with rfl | hm
    · have := K.stays _ _ q; rw [hNe.2.2] at this; cases this
    · rw [(K'.frames.mem hm).1] at q; cases q
  have hl : ∀ q ∈ news, (hideAll s'.heap (e :: (envOf name scope L a cd :: outer).filterMap (·.frame))).get? q.1 = some q.2 ∧ base.get? q.1 = none := fun q hq => by
    have Nq := N q (.tail _ hq)
    refine ⟨hideAll_get _ Nq.1 fun hm => ?_, fresh_of_stays K.stays Nq.2.2⟩
    rcases List.mem_cons.mp hm with hm | hm
    · exact hne q hq hm
    · obtain ⟨env, he, hf⟩ := List.mem_filterMap.mp hm
      rcases List.mem_cons.mp he with rfl | he
      · exact Nq.2.1 (Option.some.inj hf).symm
      · obtain ⟨o, ho, _⟩ := (K.frames.mem (List.mem_filterMap.mpr ⟨env, he, hf⟩)).2
        rw [Nq.2.2] at ho; cases ho
  have hen : (hideAll s'.heap (e :: (envOf name scope L a cd :: outer).filterMap (·.frame))).get? e = none := hideAll_none _ (.head _)
  refine wpAny_leaving_firstW (a0 := a0) K'.stack (funFrames_hide K'.frames hin) rfl hNe.1 (fun b o hb => of_hideAll _ hb) hen hd h1 h0 fun h' hL => ?_
  obtain ⟨k1, ⟨_, _, k2⟩, k3, k4⟩ := hL
  exact hQ h' ⟨_, a0, st, hl, k1, hen, k2, k3⟩ ((Heap.UpToSlots.of_keeps F.keep).trans k4)
end

section
variable {prog : Program} {w : World} {A₀ : Around} {E : Value → Shared → Prop} {s' : Shared} {h₀ h : Heap} {outer : List Env} {L a e : Addr} {m : Str → Option Value} {name : Str} {scope : Scope} {cd : Value}
  {b₀ : Stmt} {suite : List Stmt} {pos np : Pos} {rest : List ExceptHandler} {Q : Flow → Shared → Prop} {news : List (Addr × Obj)} {KF : Frag} {C : Addr}
  {p : Program} {loose : List Str} {mean : ExcName → Option Value} {mg mb : Str → Option Value} {x : Str}
variable {nm q : Str} {N : Addr} {bs bm : List Value} {hdct : Bool} {sn : List Str} {sub : List Value} {ab : Bool} {col : Option Bool} {dd : Option Addr} {k0 k1 k2 k3 k5 : Option Value} {newId : String}
/-- the handler of the own class takes it -/
theorem caught_x (K : Below A₀ h₀ outer h₀) (F : Fr h₀ L h m) (hsm : h.UpToSlots s'.heap) (R : RaisedN h₀ (envOf name scope L a cd :: outer) e (.ref C) news s'.heap)
    (X : KF.In h₀) (T : TopRead p loose mg mb h₀) (ex : nsIn KF mainGlobals x = some (some (.ref C)))
    (hC : KF.lookup C = some (excClassObj nm q C N bs bm hdct sn sub ab col dd k0 k1 k2 k3 k5 newId)) (hbase : bm.contains (.type "BaseException") = true)
    (k : ∀ h', Fr h₀ L h' m → News h₀ L h' news →
      wpAny (model prog w) ((A₀.deeper (envOf name scope L a cd)).mark (some (.ref e))) (execs (b₀ :: suite) (envOf name scope L a cd)) Q E { s' with heap := h' })
    (hk : scope.kind = .function := by rfl) (hx : (envOf name scope L a cd).kindOf x = some .globalImplicit := by rfl) (hd : (x == ("__debug__" : Str)) = false := by decide)
    (hE : PassesOwnAt (model prog w) ((A₀.deeper (envOf name scope L a cd)).mark (some (.ref e))) (A₀.deeper (envOf name scope L a cd)) (envOf name scope L a cd) E := by passes_own) :
    wpAny (model prog w) (A₀.deeper (envOf name scope L a cd)) (noteFrame (.ref e) (envOf name scope L a cd))
      (fun _ s₂ => wpAny (model prog w) (A₀.deeper (envOf name scope L a cd)) (setFlight (.ref e) none) (fun _ s₃ =>
        wpAny (model prog w) (A₀.deeper (envOf name scope L a cd)) (handleBy (.ref e) (envOf name scope L a cd) (.ExceptHandler (some (.Name x np)) none (b₀ :: suite) pos :: rest)) Q E s₃) E s₂) E s' := by
  obtain ⟨B, a0, hB, hl, hfl⟩ := R
  have hL : B.get? L = none := by
    obtain ⟨_, ⟨L', _, hf, hn', _⟩, _⟩ := hfl.2.2.1
    obtain rfl : L = L' := Option.some.inj hf
    exact hn'
  refine wpAny_looks_onW (Around.frames_deeper K.stack) rfl hfl fun h₄ hheld₄ hsm₄ => ?_
  refine wpAny_landsW hheld₄ fun h₅ hheld hsm₅' => ?_
  have hsm₅ := hsm₄.trans hsm₅'
  have hheld' := flyingW_base hB hheld
  have F₅ := F.of_stays hheld'.1 (hsm.trans hsm₅)
  obtain ⟨ob, hob, hobc⟩ := hheld'.there
  refine wpAny_handleBy_cons (codeAny_handlers_test (name_K F₅ X T ex ?_ hk hx hd)) (by intro q; cases q)
  refine wpAny_excMatches_sub_self (F₅.keep _ _ (X _ _ hC)) hob hobc hbase (codeAny_handlers_suite ?_)
  refine lands_againW hheld fun h₆ hfl₆ hsm₆ => ?_
  have hfl₆' := flyingW_base hB hfl₆
  have F₆ := F.of_stays hfl₆'.1 ((hsm.trans hsm₅).trans hsm₆)
  exact wpAny_passesOwnAt hE (k h₆ F₆ fun q hq => ⟨hfl₆.1 _ _ (hl q hq).1, (fun z => by have := (hl q hq).1; rw [z, hL] at this; cases this), (hl q hq).2⟩)
end
section
open Builtin Builtin.ObjectAttr
variable {prog : Program} {w : World} {A : Around} {K : Frag} {C x L : Addr} {s : Shared} {h₀ : Heap} {m : Str → Option Value} {news : List (Addr × Obj)} {R : Result → Shared → Prop} {name : Str} {v : Value} {tk : Tok}

theorem osa_openE {ox : Obj} {od : Option Obj} {cd : ClassData} (X : K.In s.heap) (I : InstAt s.heap x ox C od) (hc : clsIn K C = some cd) (hm : cd.mro = [.ref C, .type "Exception", .type "BaseException", .type "object"])
    (ho : mroIn K C (.type "object") = some true) (ha : findIn K (.ref C) name = some none)
    (h : wpAny (model prog w) A.in1 (storeInOwnDict (.ref x) (.ref C) (.str name tk) name v false)
      (fun fin s' => match fin with | .done f => R (.ok f) s' | .again c' => c'.quiet = true ∧ codeAny (model prog w) A c' R s') (fun e s' => R (.error e) s') s) :
    codeAny (model prog w) A (.call (.builtin "object.__setattr__") ⟨[.ref x, .str name tk, v], []⟩) R s := by
  have SF := PySem.F.store_object
  have sub : Looks (model prog w) s.heap (isInstance (.ref x) (.type "object")) true := I.type.andThen (looks_mroIn X ho)
  refine codeAny_call_builtin SF.slot.plain SF.entry (@check_slot (model prog w) _ _ s "object.__setattr__" "object" "__setattr__" (.ref x) [.str name tk, v] [] _ SF.kind SF.split sub (SF.args (.ref x) (.str name tk) v) ?_)
  have hmr : Looks (model prog w) s.heap (mroOf (.ref C)) cd.mro := (looks_clsIn X hc).andThen .now
  rw [osa_eq, refuse_eq]
  refine wpAny_bind (wpAny_bind (I.type.here (wpAny_bind (hmr.here ?_))))
  rw [hm, refuseLoop_ref, PySem.F.store_Exception.passes]
  refine wpAny_pure (wpAny_bind (I.type.here (wpAny_bind ((looks_findIn X ha).here (wpAny_bind (wpAny_pure ?_))))))
  exact h

/-- the first store into an exception's instance: it makes the dict -/
theorem store_E0 {flds : Array Value} {cd : ClassData} (F : Fr h₀ L s.heap m) (X : K.In h₀) (N : News h₀ L s.heap ((x, { cls := .ref C, data := .fields flds }) :: news)) (hne : ∀ p ∈ news, p.1 ≠ x)
    (hc : clsIn K C = some cd) (hm : cd.mro = [.ref C, .type "Exception", .type "BaseException", .type "object"]) (hdict : cd.hasDict = true)
    (ho : mroIn K C (.type "object") = some true) (ha : findIn K (.ref C) name = some none)
    (h : ∀ d h' tk', Fr h₀ L h' m → News h₀ L h' ((x, { cls := .ref C, dict := some d, data := .fields flds }) :: (d, dictOf [⟨PyData.keyHash w.params name, .str name s.toks, v⟩] 1) :: news) → (∀ p ∈ news, p.1 < d) → x < d → R (.ok (.ret .none)) { s with heap := h', toks := tk' }) :
    codeAny (model prog w) A (.call (.builtin "object.__setattr__") ⟨[.ref x, .str name tk, v], []⟩) R s := by
  have X' := X.keeps F.keep
  have hx := (N _ (.head _)).1
  have I : InstAt s.heap x { cls := .ref C, data := .fields flds } C none := ⟨hx, rfl, rfl, trivial⟩
  refine osa_openE X' I hc hm ho ha ?_
  refine wpAny_bind (wpAny_pure (wpAny_bind (wpAny_bind (wpAny_loadPart hx (wpAny_bind ((looks_clsIn X' hc).here ?_))))))
  rw [hdict]
  have N1 := N.push F emptyDict
  have F1 := F.push emptyDict
  have hD1 : s.heap.objs.size ≠ x := Nat.ne_of_gt (Heap.lt_size hx)
  have hlt : ∀ p ∈ news, p.1 < s.heap.objs.size := fun p hp => Heap.lt_size (N p (.tail _ hp)).1
  obtain ⟨F2, N2⟩ := news_upd (pre := [(s.heap.objs.size, emptyDict)]) (d := x) (o := { cls := .ref C, data := .fields flds }) (o' := { cls := .ref C, dict := some s.heap.objs.size, data := .fields flds })
    (f := fun o => { o with dict := some s.heap.objs.size }) F1 N1 (fun p hp => by rcases List.mem_cons.mp hp with rfl | hp; exact hD1; cases hp) hne rfl rfl
  obtain ⟨F3, N3⟩ := news_upd (pre := []) (d := s.heap.objs.size) (o := emptyDict) (o' := dictOf [⟨PyData.keyHash w.params name, .str name s.toks, v⟩] 1)
    (f := Obj.putName name (PyData.keyHash w.params name) (.str name s.toks) v) F2 N2 (fun _ hp => nomatch hp) (fun p hp => by
      rcases List.mem_cons.mp hp with rfl | hp
      · exact hD1.symm
      · exact Nat.ne_of_lt (hlt p hp)) (by rw [show emptyDict = dictOf [] 0 from rfl, putName_dict]; rfl) rfl
  have D3 := (N3 _ (.head _)).1
  have hx1 := (N1 _ (.tail _ (.head _))).1
  have D2 := (N2 _ (.head _)).1
  refine wpAny_bind (wpAny_alloc (wpAny_bind (wpAny_update hx1 (wpAny_pure ?_))))
  show wpAny _ _ (storeInDict s.heap.objs.size (.str name tk) name v) _ _ _
  unfold storeInDict newKeyGuard nsSet
  refine wpAny_bind (wpAny_pure (wpAny_bind ?_))
  refine wpAny_bind (wpAny_bind (wpAny_askSetting (wpAny_pure (wpAny_bind (wpAny_mkText (wpAny_bind (wpAny_loadPart D2 ?_)))))))
  dsimp only
  rw [aRefKeyMayBeTheName_at, show ((!(#[] : Array DictEntry).any (·.key.isStr name)) && (#[] : Array DictEntry).any (·.refKey)) = false from by simp]
  refine wpAny_updatePart D2 ?_
  refine wpAny_bind (wpAny_lookBehind D3 (pastItsLine_dict (by rw [sizeLine_eq]; simp)) ?_)
  refine wpAny_pure (h _ _ _ F3 (fun p hp => N3 p ?_) hlt (Heap.lt_size hx))
  rcases List.mem_cons.mp hp with rfl | hp
  · exact .tail _ (.head _)
  · rcases List.mem_cons.mp hp with rfl | hp
    · exact .head _
    · exact .tail _ (.tail _ hp)

/-- a later store: the dict stands -/
theorem store_E1 {flds : Array Value} {cd : ClassData} {d : Addr} {es : List DictEntry} {n : Nat} (F : Fr h₀ L s.heap m) (X : K.In h₀) (N : News h₀ L s.heap ((x, { cls := .ref C, dict := some d, data := .fields flds }) :: (d, dictOf es n) :: news)) (hd : ∀ p ∈ news, p.1 < d) (hxd : x < d)
    (hc : clsIn K C = some cd) (hm : cd.mro = [.ref C, .type "Exception", .type "BaseException", .type "object"]) (hdict : cd.hasDict = true)
    (ho : mroIn K C (.type "object") = some true) (ha : findIn K (.ref C) name = some none) (hk : es.any (·.key.isStr name) = false) (hr : es.any (·.refKey) = false) (hz : es.length < 1000)
    (h : ∀ h' tk', Fr h₀ L h' m → News h₀ L h' ((x, { cls := .ref C, dict := some d, data := .fields flds }) :: (d, dictOf (putL name (PyData.keyHash w.params name) (.str name s.toks) v es) (n + 1)) :: news) → R (.ok (.ret .none)) { s with heap := h', toks := tk' }) :
    codeAny (model prog w) A (.call (.builtin "object.__setattr__") ⟨[.ref x, .str name tk, v], []⟩) R s := by
  have X' := X.keeps F.keep
  have hx := (N _ (.head _)).1
  have D := (N _ (.tail _ (.head _))).1
  have I : InstAt s.heap x { cls := .ref C, dict := some d, data := .fields flds } C (some (dictOf es n)) := ⟨hx, rfl, rfl, D⟩
  refine osa_openE X' I hc hm ho ha ?_
  obtain ⟨F3, N3⟩ := news_upd (pre := [(x, { cls := .ref C, dict := some d, data := .fields flds })]) (d := d) (o := dictOf es n) (o' := dictOf (putL name (PyData.keyHash w.params name) (.str name s.toks) v es) (n + 1))
    (f := Obj.putName name (PyData.keyHash w.params name) (.str name s.toks) v) F N (fun p hp => by rcases List.mem_cons.mp hp with rfl | hp; exact Nat.ne_of_lt hxd; cases hp) (fun p hp => Nat.ne_of_lt (hd p hp))
    (by rw [putName_dict]; unfold putN; rw [hk]; rfl) rfl
  have D3 := (N3 _ (.tail _ (.head _))).1
  refine wpAny_bind (wpAny_pure (wpAny_bind (wpAny_bind (wpAny_loadPart hx (wpAny_bind ((looks_clsIn X' hc).here ?_))))))
  rw [hdict]
  refine wpAny_pure (a := some d) ?_
  show wpAny _ _ (storeInDict d (.str name tk) name v) _ _ _
  unfold storeInDict newKeyGuard nsSet
  refine wpAny_bind (wpAny_pure (wpAny_bind ?_))
  refine wpAny_bind (wpAny_bind (wpAny_askSetting (wpAny_pure (wpAny_bind (wpAny_mkText (wpAny_bind (wpAny_loadPart D ?_)))))))
  dsimp only
  rw [aRefKeyMayBeTheName_at, show ((!es.toArray.any (·.key.isStr name)) && es.toArray.any (·.refKey)) = false from by rw [← Array.any_toList, ← Array.any_toList]; simp only [hk, hr]; rfl]
  refine wpAny_updatePart D ?_
  refine wpAny_bind (wpAny_lookBehind D3 (pastItsLine_dict ?_) ?_)
  · have hl : ∀ (es : List DictEntry) a b, (putL name a b v es).length ≤ es.length + 1 := by
      intro es a b
      induction es with
      | nil => exact Nat.le_refl _
      | cons e r ih => unfold putL; split <;> simp only [List.length_cons] <;> omega
    have := hl es (PyData.keyHash w.params name) (.str name s.toks)
    rw [List.size_toArray, sizeLine_eq]; omega
  · exact wpAny_pure (h _ _ F3 N3)

theorem set_E0 {E : Value → Shared → Prop} {Q : Unit → Shared → Prop} {flds : Array Value} {cd : ClassData} (F : Fr h₀ L s.heap m) (X : K.In h₀) (N : News h₀ L s.heap ((x, { cls := .ref C, data := .fields flds }) :: news)) (hne : ∀ p ∈ news, p.1 ≠ x)
    (hc : clsIn K C = some cd) (hm : cd.mro = [.ref C, .type "Exception", .type "BaseException", .type "object"]) (hdict : cd.hasDict = true)
    (ho : mroIn K C (.type "object") = some true) (ha : findIn K (.ref C) name = some none) (hs : findIn K (.ref C) "__setattr__" = some (some (.builtin "object.__setattr__")))
    (h : ∀ d h' tk tk', Fr h₀ L h' m → News h₀ L h' ((x, { cls := .ref C, dict := some d, data := .fields flds }) :: (d, dictOf [⟨PyData.keyHash w.params name, .str name tk, v⟩] 1) :: news) → (∀ p ∈ news, p.1 < d) → x < d → Q () { s with heap := h', toks := tk' }) :
    wpAny (model prog w) A (setAttr (.ref x) name v) Q E s :=
  set_plain (X.keeps F.keep) (od := none) ⟨(N _ (.head _)).1, rfl, rfl, trivial⟩ hs (store_E0 (s := { s with toks := s.toks + 1 }) F X N hne hc hm hdict ho ha fun d h' tk' F' N' l1 l2 => h d h' _ tk' F' N' l1 l2)
theorem set_E1 {E : Value → Shared → Prop} {Q : Unit → Shared → Prop} {flds : Array Value} {cd : ClassData} {d : Addr} {es : List DictEntry} {n : Nat} (F : Fr h₀ L s.heap m) (X : K.In h₀) (N : News h₀ L s.heap ((x, { cls := .ref C, dict := some d, data := .fields flds }) :: (d, dictOf es n) :: news)) (hd : ∀ p ∈ news, p.1 < d) (hxd : x < d)
    (hc : clsIn K C = some cd) (hm : cd.mro = [.ref C, .type "Exception", .type "BaseException", .type "object"]) (hdict : cd.hasDict = true)
    (ho : mroIn K C (.type "object") = some true) (ha : findIn K (.ref C) name = some none) (hs : findIn K (.ref C) "__setattr__" = some (some (.builtin "object.__setattr__"))) (hk : es.any (·.key.isStr name) = false) (hr : es.any (·.refKey) = false) (hz : es.length < 1000)
    (h : ∀ h' tk', Fr h₀ L h' m → News h₀ L h' ((x, { cls := .ref C, dict := some d, data := .fields flds }) :: (d, dictOf (putL name (PyData.keyHash w.params name) (.str name (s.toks + 1)) v es) (n + 1)) :: news) → Q () { s with heap := h', toks := tk' }) :
    wpAny (model prog w) A (setAttr (.ref x) name v) Q E s :=
  set_plain (X.keeps F.keep) (od := some (dictOf es n)) ⟨(N _ (.head _)).1, rfl, rfl, (N _ (.tail _ (.head _))).1⟩ hs (store_E1 (s := { s with toks := s.toks + 1 }) F X N hd hxd hc hm hdict ho ha hk hr hz fun h' tk' F' N' => h h' tk' F' N')

/-- Exception.__init__(self, ..) lays new args -/
theorem init_E {E : Value → Shared → Prop} {Q : Value → Shared → Prop} {nm q : Str} {N' : Addr} {bs bm : List Value} {hdct : Bool} {sn : List Str} {sub : List Value} {ab : Bool} {col : Option Bool} {dd : Option Addr} {k0 k1 k2 k3 k5 : Option Value} {newId : String} {a0 : Addr} {rest : List Value}
    (FB : ExcBaseFacts "Exception" newId "Exception.__init__" bm) (F : Fr h₀ L s.heap m) (X : K.In h₀) (N : News h₀ L s.heap ((x, { cls := .ref C, data := .fields #[.ref a0, .none, .none, .none, .bool false, .none] }) :: news)) (hne : ∀ p ∈ news, p.1 ≠ x)
    (hC : K.lookup C = some (excClassObj nm q C N' bs bm hdct sn sub ab col dd k0 k1 k2 k3 k5 newId)) (hl : rest.length ≤ sizeLine)
    (h : ∀ t h' tk', Fr h₀ L h' m → News h₀ L h' ((x, { cls := .ref C, data := .fields #[.ref t, .none, .none, .none, .bool false, .none] }) :: news) → Q .none { s with heap := h', toks := tk' }) :
    wpAny (model prog w) A (call (.builtin "Exception.__init__") (.ref x :: rest)) Q E s := by
  have X' := X.keeps F.keep
  have hx := (N _ (.head _)).1
  have F1 := F.push { cls := .type "tuple", data := .seq rest.toArray }
  have N1 := N.push F { cls := .type "tuple", data := .seq rest.toArray }
  have hx1 := (N1 _ (.tail _ (.head _))).1
  obtain ⟨F2, N2⟩ := news_upd (pre := [(s.heap.objs.size, { cls := .type "tuple", data := .seq rest.toArray })]) (d := x) (o := { cls := .ref C, data := .fields #[.ref a0, .none, .none, .none, .bool false, .none] })
    (o' := { cls := .ref C, data := .fields #[.ref s.heap.objs.size, .none, .none, .none, .bool false, .none] }) (f := Obj.mapFields (·.setIfInBounds 0 (.ref s.heap.objs.size)))
    F1 N1 (fun p hp => by rcases List.mem_cons.mp hp with rfl | hp; exact Nat.ne_of_gt (Heap.lt_size hx); cases hp) hne rfl rfl
  obtain ⟨hp, g, d, t, os⟩ := s
  refine wpAny_call (codeAny_call_builtin FB.init.plain FB.initEntry (wpAny_check_init_sub FB (X' _ _ hC) hx rfl ?_))
  unfold Builtin.«BaseException.__init__» BaseException.bexcPut
  wp_walk
  exact h hp.objs.size _ _ F2 fun p hp' => N2 p (by
    rcases List.mem_cons.mp hp' with rfl | hp'
    · exact .tail _ (.head _)
    · exact .tail _ (.tail _ hp'))
end

section
/-- The bound on the head's steps, 3030, as a literal that the cutting into pieces does not read: the head is then ONE check (2.5 MB of compiled file; the pieces weigh 21 MB, and the lid is 32 MiB). It is the number itself, and it ends with this section, ahead of every statement below. -/
local instance steps3030 : OfNat Nat 3030 := ⟨3030⟩
open_top hd for PySem.Challenge.rw_nn0116_01
end

theorem ns_some_of {K : Frag} {h : Heap} {N : Addr} {mg : Str → Option Value} {n : Str} {v : Value} (X : K.In h) (G : h.Ns N mg) (e : nsIn K N n = some (some v)) : mg n = some v := by
  obtain ⟨o, es, ep, ho, hd, _, hf⟩ := G
  unfold nsIn at e
  split at e
  · rename_i c d es' n' sl q
    have := X _ _ q
    rw [ho] at this
    cases this
    cases hd
    split at e
    · rename_i en he
      cases e
      rw [← hf]
      unfold nsFind findBy
      rw [← Array.find?_toList, he]
      rfl
    · split at e <;> cases e
  · cases e

section
variable {w : World} {A : Around} {h₀ base : Heap} {outer : List Env} {A₀ : Around} {L : Addr} {m mg mb : Str → Option Value} {news : List (Addr × Obj)} {mean : ExcName → Option Value} {s : Shared} {Q E : Value → Shared → Prop} {env : Env}
theorem PE_in (w : World) : nsOkIn (Mine.hd.heap_39 w.params) 45 = true ∧ nsIn (Mine.hd.heap_39 w.params) 45 "__init__" = some (some (.ref 36)) ∧ nsIn (Mine.hd.heap_39 w.params) 45 "__setattr__" = some none ∧ nsIn (Mine.hd.heap_39 w.params) 45 "what" = some none ∧ nsIn (Mine.hd.heap_39 w.params) 45 "at" = some none := by
  refine ⟨?_, ?_, ?_, ?_, ?_⟩ <;> kernel_rfl
theorem PE_init (w : World) : ∃ o, (Mine.hd.heap_39 w.params).lookup 36 = some o ∧ o.cls = .type "function" := ⟨_, rfl, rfl⟩
theorem meta_Exception : typeOf (.type "Exception") = pure (.type "type") := by kernel_rfl
local macro_rules | `(tactic| walk_at "getMethod type:Exception") => `(tactic| (k_here; refine' method_type ?F ?X ?m (by decide +kernel) ?e ?h ?_; (case F => k_asm); (case X => k_asm); (case m => exact meta_Exception); (case e => k_dflt k_is); (case h => k_handed)))
local macro_rules | `(tactic| walk_at "call builtin:Exception.__init__") => `(tactic| (k_here; k_dflt (refine' init_E PySem.F.excBase_Exception ?F ?X ?N ?n ?C ?l ?_; (case F => k_asm); (case X => k_asm); (case N => k_asm); (case n => k_asm); (case C => k_is); (case l => simp [sizeLine_eq])); intro t' h' tk' F' N'))
local macro_rules | `(tactic| walk_at "setAttr ref") => `(tactic| (k_here; k_dflt (first
  | (refine' set_E0 ?F ?X ?N ?n ?c ?m ?d ?o ?a ?s ?_; (case F => k_asm); (case X => k_asm); (case N => k_asm); (case n => k_asm); (case c => k_is); (case m => rfl); (case d => rfl); (case o => k_is); (case a => k_is); (case s => k_is); intro d' h' t' tk' F' N' l1 l2)
  | (refine' set_E1 ?F ?X ?N ?n ?n2 ?c ?m ?d ?o ?a ?s ?k ?r ?z ?_; (case F => k_asm); (case X => k_asm); (case N => k_asm); (case n => k_asm); (case n2 => k_asm); (case c => k_is); (case m => rfl); (case d => rfl); (case o => k_is); (case a => k_is); (case s => k_is); (case k => first | rfl | kernel_rfl | fail "kk"); (case r => first | rfl | kernel_rfl | fail "rr"); (case z => first | decide | simp | fail "zz"); intro h' tk' F' N'))))
theorem call_PE {msg : Str} {tk : Tok} (B : Below A₀ base outer h₀) (F : Fr h₀ L s.heap m) (X : (Mine.hd.heap_39 w.params).In h₀) (N : News h₀ L s.heap news)
    (T : Top Mine.hd.view_39 (looseW Mine.hd.view_39 [Str.ofString "PaperError"]) mean mg mb h₀) (hA : A.frames = some (env :: outer)) (hf : env.frame = some L) (hke : env.scope.kind = .function)
    (hroom : A.depth + 8 < recursionLimit) 
    (h : ∀ (e : Addr) (oe : Obj) (vs : Array Value) (a0 : Value) (h' : Heap) (tk' : Nat), Fr h₀ L h' m → News h₀ L h' ((e, oe) :: news) → (∀ p ∈ news, p.1 ≠ e) → oe.cls = .ref 46 → oe.data = .fields vs → vs[0]? = some a0 → vs[1]? = some .none → Q (.ref e) { s with heap := h', toks := tk' }) :
    wpAny (model PySem.Challenge.rw_nn0116_01.row.prog w) A (call (.ref 46) [.str msg tk]) Q E s := by
  revert X
  w_top off
  k_with_none
  k_fill
  intro X
  obtain ⟨hp, g, d, t, os⟩ := s
  have X' := X.keeps F.keep
  have NS : hp.Ns 45 (hp.nsMap 45) := .of_isNs (isNs_of_in X' (PE_in w).1)
  obtain ⟨oI, hI, hI2⟩ := PE_init w
  k_dflt (refine' wpAny_call_exc_init PySem.F.excBase_Exception (X' 46 _ ?hC) NS (ns_some_of X' NS (PE_in w).2.1) (X' 36 _ hI) hI2 ?_ ?_; (case hC => k_is))
  · intro h' e hm
    obtain ⟨tt, he, htn, ht⟩ := hm.there
    have F1 : Fr h₀ L h' m := F.keeps hm.keeps
    have hLe : ∀ b, hp.get? b = none → b ≠ L ∧ h₀.get? b = none := fun b hb => by
      refine ⟨?_, ?_⟩
      · rintro rfl
        obtain ⟨oL, _, _, hL, _⟩ := F.ns
        rw [hb] at hL; cases hL
      · cases q : h₀.get? b with
        | none => rfl
        | some o => have := F.keep b o q; rw [hb] at this; cases this
    have N1 : News h₀ L h' ((e, { cls := .ref 46, data := .fields #[.ref tt, .none, .none, .none, .bool false, .none] }) :: news) := by
      intro p hp'
      rcases List.mem_cons.mp hp' with rfl | hp'
      · exact ⟨he, hLe e hm.new⟩
      · exact ⟨hm.keeps _ _ (N p hp').1, (N p hp').2⟩
    have hne : ∀ p ∈ news, p.1 ≠ e := fun p hp' q => by
      have := (N p hp').1
      rw [q, hm.new] at this; cases this
    refine wpAny_call ?_
    clear hm he ht htn F N X' NS
    k_dflt (refine' code_def ?k1 ?k2 ?k3 ?k4 ?k5 ?kA ?kF ?kK ?k6 ?k7 ?k8 ?k9 ?kB ?_ ?c2 ?c3 ?c4 ?c5; (case kA => exact hA); (case kF => exact hf); (case kK => assumption); (case k1 => k_asm); (case k2 => k_asm); (case k3 => k_asm); (case k4 => k_asm); (case k5 => k_asm); (case k6 => k_is); (case k7 => k_is); (case k8 => (simp only [depth_under_make]; omega)); (case k9 => first | exact BindsTo.of_eq rfl | exact binds_K (by k_in) rfl (by k_is) rfl rfl rfl | fail "k_enter: no rule for these arguments"); (case c5 => decide); (case kB => exact locs rfl); (case c2 => exact rfl); (case c3 => exact rfl); (case c4 => exact rfl); k_whole; intro g' L' h' FG' F' N' B' X' T'; (try dsimp only); (try k_fold))
    k_steps
    all_goals (rename Fr h₀ L _ m => FZ; rename News h₀ L _ _ => NZ)
    all_goals exact h _ _ _ _ _ _ FZ (fun p hp => NZ p (by
      rcases List.mem_cons.mp hp with rfl | hp
      · exact .head _
      · exact .tail _ (.tail _ hp))) hne rfl rfl rfl rfl
  · simp [sizeLine_eq]
end
section
variable {w : World} {A : Around} {h₀ base : Heap} {outer : List Env} {A₀ : Around} {L a : Addr} {m mg mb : Str → Option Value} {news : List (Addr × Obj)} {mean : ExcName → Option Value} {s : Shared} {E : Value → Shared → Prop} {Q : Flow → Shared → Prop} {cn : Str} {cs : Scope} {ccd : Value}

theorem raise_PE {msg : Str} {k : Tok} {np cp cpos pos : Pos} (B : Below A₀ base outer h₀) (F : Fr h₀ L s.heap m) (X : (Mine.hd.heap_39 w.params).In h₀) (N : News h₀ L s.heap news)
    (T : Top Mine.hd.view_39 (looseW Mine.hd.view_39 [Str.ofString "PaperError"]) mean mg mb h₀) (hA : A.frames = some (envOf cn cs L a ccd :: outer)) (hke : cs.kind = .function)
    (hx : (envOf cn cs L a ccd).kindOf (Str.ofString "PaperError") = some .globalImplicit)
    (hroom : A.depth + 8 < recursionLimit) (hh : A.handled = none)
    (h : ∀ (e : Addr) (oe : Obj) (vs : Array Value) (a0 : Value) (h' : Heap) (tk' : Nat), Fr h₀ L h' m → News h₀ L h' ((e, oe) :: news) → (∀ p ∈ news, p.1 ≠ e) → oe.cls = .ref 46 → oe.data = .fields vs → vs[0]? = some a0 → vs[1]? = some .none → E (.ref e) { s with heap := h', toks := tk' }) :
    wpAny (model PySem.Challenge.rw_nn0116_01.row.prog w) A (exec (.Raise (some (.Call (.Name (Str.ofString "PaperError") np) [.Constant (.str msg) k cp] [] cpos)) none pos) (envOf cn cs L a ccd)) Q E s := by
  revert X
  w_top off
  k_with_none
  k_fill
  intro X
  have X' := X.keeps F.keep
  have hC : ∃ nm q N bs hdct sn sub ab col dd k0 k1 k2 k3 k5, (Mine.hd.heap_39 w.params).lookup 46 = some (excClassObj nm q 46 N bs [.type "Exception", .type "BaseException", .type "object"] hdct sn sub ab col dd k0 k1 k2 k3 k5 "Exception.__new__") := ⟨_, _, _, _, _, _, _, _, _, _, _, _, _, _, _, rfl⟩
  obtain ⟨nm, q, N', bs, hdct, sn, sub, ab, col, dd, k0, k1, k2, k3, k5, hC⟩ := hC
  rw [arm_exec_Raise]
  simp only [evalOpt, Option.map]
  refine wpAny_bind (wpAny_standAt (raise_x (C := 46) (nm := nm) (q := q) (N := N') (bs := bs) (bm := [.type "Exception", .type "BaseException", .type "object"]) (hdct := hdct) (sn := sn) (sub := sub) (ab := ab) (col := col) (dd := dd) (k0 := k0) (k1 := k1) (k2 := k2) (k3 := k3) (k5 := k5) (newId := "Exception.__new__") (by rfl) hh (wpAny_bind ?_)))
  refine wpAny_Call_ofName (name_K F X (topRead_of T) (v := .ref 46) (by k_dflt k_is) ?_ hke hx)
  refine callWith_K X (by k_dflt k_is) (spliced_more ?_)
  walk1
  refine spliced_none ⟨X', ?_⟩
  refine call_PE B F X N T hA rfl hke hroom ?_
  intro e oe vs a0 h' tk' F' N' hne hc hd h0 h1
  refine wpAny_bind (wpAny_standAt (wpAny_pure ⟨e, oe, vs, rfl, F'.keep _ _ (X _ _ hC), (N' _ (.head _)).1, hc, hd, h1, ?_⟩))
  exact h e oe vs a0 h' tk' F' N' hne hc hd h0 h1
end

local macro_rules | `(tactic| k_room) => `(tactic| ktr_room)
/-- a def called from any frame: Ret says what must be shown of Q (and E) behind it -/
def Tell (w : World) (f : Addr) (news : List (Addr × Obj)) (vs : List Value) (dmax umax : Nat)
    (Ret : Heap → Addr → (Str → Option Value) → Shared → (Value → Shared → Prop) → Prop) : Prop :=
  ∀ (mean : ExcName → Option Value) (mg mb : Str → Option Value) (dp un : Nat) (gd : Option (List Code)) (cn : Str) (cs : Scope) (a : Addr) (ccd : Value) (cl : List (Str × Addr)) (outer : List Env) (A₀ : Around) (base h₀ : Heap) (L : Addr) (m : Str → Option Value) (s : Shared) (Q E : Value → Shared → Prop),
    Below A₀ base outer h₀ → Fr h₀ L s.heap m → (Mine.hd.heap_39 w.params).In h₀ → News h₀ L s.heap news → Top Mine.hd.view_39 (looseW Mine.hd.view_39 [Str.ofString "PaperError"]) mean mg mb h₀ → cs.kind = .function →
    dp + dmax < recursionLimit → un + umax < cLine → Ret h₀ L m s Q →
      wpAny (model PySem.Challenge.rw_nn0116_01.row.prog w) (ktrTop dp un gd cn cs L a ccd cl outer) (call (.ref f) vs) Q E s
theorem tell_use {w : World} {f : Addr} {news : List (Addr × Obj)} {vs : List Value} {dmax umax : Nat}
    {Ret : Heap → Addr → (Str → Option Value) → Shared → (Value → Shared → Prop) → Prop} {mean : ExcName → Option Value} {mg mb : Str → Option Value} {dp un : Nat} {gd : Option (List Code)} {cn : Str} {cs : Scope} {a : Addr} {ccd : Value} {cl : List (Str × Addr)} {outer : List Env} {A₀ : Around} {base h₀ : Heap} {L : Addr} {m : Str → Option Value} {s : Shared} {Q E : Value → Shared → Prop}
    (C : Tell w f news vs dmax umax Ret) (B : Below A₀ base outer h₀) (F : Fr h₀ L s.heap m) (X : (Mine.hd.heap_39 w.params).In h₀) (N : News h₀ L s.heap news) (T : Top Mine.hd.view_39 (looseW Mine.hd.view_39 [Str.ofString "PaperError"]) mean mg mb h₀) (hk : cs.kind = .function)
    (hd : dp + dmax < recursionLimit) (hu : un + umax < cLine) (r : Ret h₀ L m s Q) :
    wpAny (model PySem.Challenge.rw_nn0116_01.row.prog w) (ktrTop dp un gd cn cs L a ccd cl outer) (call (.ref f) vs) Q E s := C _ _ _ _ _ _ _ _ _ _ _ _ _ _ _ _ _ _ _ _ B F X N T hk hd hu r

abbrev RetI (news : List (Addr × Obj)) (x : Int) : Heap → Addr → (Str → Option Value) → Shared → (Value → Shared → Prop) → Prop :=
  fun h₀ L m s Q => ∀ (t : Tok) (h' : Heap) (tk' : Nat), Fr h₀ L h' m → News h₀ L h' news → Q (.int x t) { s with heap := h', toks := tk' }

def sgn (x : Int) : Int := if x = 0 then 0 else if x > 0 then 1 else -1

theorem t_sign (w : World) (news : List (Addr × Obj)) (x : Int) (t : Tok) : Tell w 154 news [.int x t] 4 20 (RetI news (sgn x)) := by
  unfold Tell RetI
  w_top off
  k_with_none
  k_fill
  intro mean mg mb dp un gd cn cs a ccd cl outer A₀ base h₀ L m s Q E B F X N T hk hd hu hret
  refine wpAny_call ?_
  k_dflt cell_enter
  k_steps
  all_goals (rename Fr h₀ L _ m => FZ; rename News h₀ L _ _ => NZ)
  · have e : sgn x = 0 := by unfold sgn; rw [if_pos (by assumption)]
    rw [e] at hret; exact hret _ _ _ FZ NZ
  · have e : sgn x = 1 := by unfold sgn; rw [if_neg (by assumption), if_pos (by assumption)]
    rw [e] at hret; exact hret _ _ _ FZ NZ
  · have e : sgn x = -1 := by unfold sgn; rw [if_neg (by assumption), if_neg (by assumption)]
    rw [e] at hret; exact hret _ _ _ FZ NZ


local macro_rules | `(tactic| walk_at "sm") => `(tactic| with_reducible first
  | assumption
  | (show Sm _ (_ * _); exact Sm.mul (by walk_at "sm") (by walk_at "sm"))
  | (show Sm _ (_ + _); exact Sm.add (by walk_at "sm") (by walk_at "sm"))
  | (show Sm _ (_ - _); exact Sm.sub (by walk_at "sm") (by walk_at "sm"))
  | (show Sm _ (-_); exact Sm.neg (by walk_at "sm"))
  | (show Sm _ ((Int.natAbs _ : Nat) : Int); exact Sm.abs (by walk_at "sm"))
  | (show Sm _ (Int.fdiv _ _); exact Sm.fdiv (by walk_at "sm"))
  | (show Sm _ (10 ^ Int.toNat _); first | exact Sm.pow10 (k := 20) (by omega) | exact Sm.pow10 (k := 100) (by omega) | exact Sm.pow10 (k := 400) (by omega) | fail "sm10")
  | exact Sm.lit (n := 70) (by decide)
  | fail "sm")
local macro_rules | `(tactic| mul_fits) => `(tactic| exact Sm.mulOk (by walk_at "sm") (by walk_at "sm") (by decide) (by decide))
local macro_rules | `(tactic| walk_at "binaryOp FloorDiv int int") => `(tactic| (k_here; first | (with_reducible refine floordiv_int ?kb ?_ (Or.inl (PyProof.noPylong_of_log2 (Sm.log (by walk_at "sm") (by decide)))); (case kb => first | assumption | decide | omega)) | fail "no fdiv"))
theorem call_abs_n {prog : Program} {w : World} {A : Around} {E : Value → Shared → Prop} {s : Shared} {x : Int} {t : Tok} {Q : Value → Shared → Prop} (h : ∀ u tk, Q (.int (x.natAbs : Int) u) { s with toks := tk }) :
    wpAny (model prog w) A (call (.builtin "abs") [.int x t]) Q E s := by
  have e : (x.natAbs : Int) = if x < 0 then -x else x := by split <;> omega
  rw [e] at h
  exact call_abs_int h
local macro_rules | `(tactic| walk_at "call builtin:abs") => `(tactic| (k_here; (with_reducible show wpAny _ _ (call (Value.builtin "abs") [Value.int _ _]) _ _ _); refine call_abs_n ?_; intro u9 tk9))
local macro_rules | `(tactic| walk_at "call ref") => `(tactic| (k_here; (with_reducible show wpAny _ _ (call (Value.ref 154) _) _ _ _); k_dflt (refine' tell_use (t_sign _ _ _ _) ?B ?F ?X ?N ?T ?k ?d ?u ?_; (case B => k_asm); (case F => k_asm); (case X => k_asm); (case N => k_asm); (case T => k_asm); (case k => first | exact rfl | assumption); (case d => ktr_room); (case u => ktr_units)); intro t9 h9 tk9 F9 N9; (try dsimp only)))

def rq (top below : Int) : Int := (2 * (top.natAbs : Int) + (below.natAbs : Int)).fdiv (2 * (below.natAbs : Int)) * sgn top * sgn below
theorem sgn_sm (x : Int) : Sm 1 (sgn x) := by
  refine Sm.sgn ?_
  unfold sgn
  split
  · exact .inl rfl
  · split <;> simp

theorem t_rq (w : World) (news : List (Addr × Obj)) (x y : Int) (t u : Tok) (hy : y ≠ 0) (sx : Sm 2000 x) (sy : Sm 2000 y) : Tell w 161 news [.int x t, .int y u] 10 50 (RetI news (rq x y)) := by
  unfold Tell RetI
  w_top off
  k_with_none
  k_fill
  intro mean mg mb dp un gd cn cs a ccd cl outer A₀ base h₀ L m s Q E B F X N T hk hd hu hret
  have s1 := sgn_sm x
  have s2 := sgn_sm y
  refine wpAny_call ?_
  k_dflt cell_enter
  k_steps
  all_goals (rename Fr h₀ L _ m => FZ; rename News h₀ L _ _ => NZ)
  all_goals exact hret _ _ _ FZ NZ
/-- a Decimal as it lies: the instance and its dict -/
abbrev decD (w : World) (T P : Int) (k1 k2 k3 k4 : Tok) : Obj := dictOf [⟨PyData.keyHash w.params "top", .str "top" k1, .int T k2⟩, ⟨PyData.keyHash w.params "places", .str "places" k3, .int P k4⟩] 2

theorem t_dec (w : World) (news : List (Addr × Obj)) (x p : Int) (t u : Tok) (hp : 0 ≤ p) : Tell w 143 news [.int x t, .int p u] 4 20
    (fun h₀ L m s Q => ∀ (o d : Addr) (T P : Int) (k1 k2 k3 k4 : Tok) (h' : Heap) (tk' : Nat), IsNorm x p T P → Fr h₀ L h' m → News h₀ L h' ((o, instObj 143 d) :: (d, decD w T P k1 k2 k3 k4) :: news) → (∀ p ∈ news, p.1 < d) → d < o → Q (.ref o) { s with heap := h', toks := tk' }) := by
  unfold Tell
  w_top off
  k_with_none
  k_fill
  intro mean mg mb dp un gd cn cs a ccd cl outer A₀ base h₀ L m s Q E B F X N T hk hd hu hret
  k_dflt (refine' call_cls ?k1 ?k2 ?k3 ?k4 ?k5 ?k6 ?_; (case k1 => k_asm); (case k2 => k_asm); (case k3 => k_asm); (case k4 => k_is); (case k5 => k_is); (case k6 => k_is); k_whole; intro x' d' h' F' N' l1 l2; (try k_lt2 l2); (try k_sweep))
  k_dflt cell_enter
  k_steps
  all_goals (rename Fr h₀ L _ m => FZ; rename News h₀ L _ _ => NZ)
  all_goals exact hret _ _ _ _ _ _ _ _ _ _ (acc_norm hp (by assumption) (by assumption) (by assumption) (by assumption)) FZ NZ l1 l2

/-- v is the number T / 10^P, borne by the ledger -/
inductive IsNum (w : World) (news : List (Addr × Obj)) : Value → Int → Int → Prop where
  | int (T : Int) (t : Tok) : IsNum w news (.int T t) T 0
  | dec (o d : Addr) (T P : Int) (k1 k2 k3 k4 : Tok) : (o, instObj 143 d) ∈ news → (d, decD w T P k1 k2 k3 k4) ∈ news → IsNum w news (.ref o) T P
theorem IsNum.mono {w : World} {news news' : List (Addr × Obj)} {v : Value} {T P : Int} (h : IsNum w news v T P) (hs : ∀ p ∈ news, p ∈ news') : IsNum w news' v T P := by
  cases h with
  | int T t => exact .int _ t
  | dec o d _ _ k1 k2 k3 k4 h1 h2 => exact .dec o d T P k1 k2 k3 k4 (hs _ h1) (hs _ h2)
/-- v is the instance T / 10^P -/
inductive IsDec (w : World) (news : List (Addr × Obj)) : Value → Int → Int → Prop where
  | dec (o d : Addr) (T P : Int) (k1 k2 k3 k4 : Tok) : (o, instObj 143 d) ∈ news → (d, decD w T P k1 k2 k3 k4) ∈ news → IsDec w news (.ref o) T P
theorem IsDec.mono {w : World} {news news' : List (Addr × Obj)} {v : Value} {T P : Int} (h : IsDec w news v T P) (hs : ∀ p ∈ news, p ∈ news') : IsDec w news' v T P := by
  cases h with
  | dec o d _ _ k1 k2 k3 k4 h1 h2 => exact .dec o d T P k1 k2 k3 k4 (hs _ h1) (hs _ h2)
theorem IsDec.num {w : World} {news : List (Addr × Obj)} {v : Value} {T P : Int} (h : IsDec w news v T P) : IsNum w news v T P := by
  cases h with
  | dec o d _ _ k1 k2 k3 k4 h1 h2 => exact .dec o d T P k1 k2 k3 k4 h1 h2
/-- an answer, upon a longer ledger -/
abbrev RetV (news : List (Addr × Obj)) (P : List (Addr × Obj) → Value → Prop) : Heap → Addr → (Str → Option Value) → Shared → (Value → Shared → Prop) → Prop :=
  fun h₀ L m s Q => ∀ (v : Value) (news' : List (Addr × Obj)) (h' : Heap) (tk' : Nat), P news' v → Fr h₀ L h' m → News h₀ L h' news' → (∀ p ∈ news, p ∈ news') → Q v { s with heap := h', toks := tk' }

theorem incl_use {a b : List (Addr × Obj)} {x : Addr × Obj} (h : ∀ p ∈ a, p ∈ b) (m : x ∈ a) : x ∈ b := h x m
theorem IsNorm.zero {x T P : Int} (h : IsNorm x 0 T P) : P = 0 ∧ T = x := by
  obtain ⟨h1, h2, h3, _⟩ := h
  have : P = 0 := by omega
  subst this
  refine ⟨rfl, ?_⟩
  rw [h3]; simp
local macro_rules | `(tactic| k_mem) => `(tactic| (first | with_reducible assumption | (refine' incl_use ?i ?m; (case i => with_reducible assumption); (case m => k_mem)) | fail "no inclusion"))
local macro_rules | `(tactic| walk_at "call ref") => `(tactic| (k_here; (with_reducible show wpAny _ _ (call (Value.ref 143) [Value.int _ _, Value.int _ _]) _ _ _); k_dflt (refine' tell_use (t_dec _ _ _ _ _ _ ?p) ?B ?F ?X ?N ?T ?k ?d ?u ?_; (case B => k_asm); (case F => k_asm); (case X => k_asm); (case N => k_asm); (case T => k_asm); (case k => first | exact rfl | assumption); (case p => first | decide | assumption | omega); (case d => ktr_room); (case u => ktr_units)); intro o9 d9 T9 P9 k91 k92 k93 k94 h9 tk9 no9 F9 N9 l91 l92; walk_say "DEC"; (try dsimp only)))
theorem t_decimal_of (w : World) (news : List (Addr × Obj)) (v : Value) (T P : Int) (hv : IsNum w news v T P) : Tell w 168 news [v] 20 100 (RetV news fun news' r => IsDec w news' r T P) := by
  unfold Tell RetV
  w_top off
  k_with_none
  k_fill
  intro mean mg mb dp un gd cn cs a ccd cl outer A₀ base h₀ L m s Q E B F X N T hk hd hu hret
  cases hv
  all_goals (refine wpAny_call ?_; k_dflt cell_enter; k_steps)
  all_goals (rename Fr h₀ L _ m => FZ; rename News h₀ L _ _ => NZ)
  · rename IsNorm _ _ _ _ => no
    obtain ⟨e1, e2⟩ := no.zero
    subst e1 e2
    exact hret _ _ _ _ (.dec _ _ _ _ _ _ _ _ (.head _) (.tail _ (.head _))) FZ NZ fun p hp => .tail _ (.tail _ hp)
  · exact hret _ _ _ _ (.dec _ _ _ _ _ _ _ _ (by assumption) (by assumption)) FZ NZ fun p hp => hp

local macro_rules | `(tactic| walk_at "binaryOp Pow int int") => `(tactic| (k_here; first | (with_reducible refine pow_int_small ?kb1 ?kb2 ?kb3 ?_; (case kb1 => first | assumption | omega); (case kb2 => omega); (case kb3 => decide)) | fail "no pow"))
local macro_rules | `(tactic| walk_at "call ref") => `(tactic| (k_here; (with_reducible show wpAny _ _ (call (Value.ref 168) _) _ _ _); k_dflt first | (refine' tell_use (t_decimal_of _ _ _ _ _ ?p) ?B ?F ?X ?N ?T ?k ?d ?u ?_; (case B => k_asm); (case F => k_asm); (case X => k_asm); (case N => k_asm); (case T => k_asm); (case k => first | exact rfl | assumption); (case p => walk_at "num"); (case d => ktr_room); (case u => ktr_units); intro v9 n9 h9 tk9 p9 F9 N9 i9; cases p9; (try dsimp only)) | fail "no decimal_of"))
local macro_rules | `(tactic| walk_at "num") => `(tactic| first | assumption | exact IsDec.num (by assumption) | exact IsNum.mono (by assumption) (by assumption) | exact IsNum.int _ _ | fail "no num")
/-- a tuple of three ints on the ledger -/
inductive IsT3 (news : List (Addr × Obj)) : Value → Int → Int → Int → Prop where
  | mk (q : Addr) (a b c : Int) (t1 t2 t3 : Tok) : (q, ({ cls := .type "tuple", data := .seq #[.int a t1, .int b t2, .int c t3] } : Obj)) ∈ news → IsT3 news (.ref q) a b c
inductive IsT2 (news : List (Addr × Obj)) : Value → Int → Int → Prop where
  | mk (q : Addr) (a b : Int) (t1 t2 : Tok) : (q, ({ cls := .type "tuple", data := .seq #[.int a t1, .int b t2] } : Obj)) ∈ news → IsT2 news (.ref q) a b
/-- a / 10^c, b / 10^c are the two numbers -/
structure Scaled (T1 P1 T2 P2 a b c : Int) : Prop where
  c1 : P1 ≤ c
  c2 : P2 ≤ c
  c3 : c ≤ 100
  ea : a = T1 * 10 ^ (c - P1).toNat
  eb : b = T2 * 10 ^ (c - P2).toNat
  sa : Sm 601 a
  sb : Sm 601 b
theorem Scaled.ne {T1 P1 T2 P2 a b c : Int} (h : Scaled T1 P1 T2 P2 a b c) (hT : T2 ≠ 0) : b ≠ 0 := by
  rw [h.eb]
  exact Int.mul_ne_zero hT (Int.pow_ne_zero (by decide))
theorem t_scale (w : World) (news : List (Addr × Obj)) (v1 v2 : Value) (T1 P1 T2 P2 : Int) (h1 : IsNum w news v1 T1 P1) (h2 : IsNum w news v2 T2 P2)
    (s1 : Sm 200 T1) (s2 : Sm 200 T2) (p1 : 0 ≤ P1) (p1' : P1 ≤ 100) (p2 : 0 ≤ P2) (p2' : P2 ≤ 100) : Tell w 175 news [v1, v2] 30 150
    (RetV news fun news' r => ∃ a b c, Scaled T1 P1 T2 P2 a b c ∧ IsT3 news' r a b c) := by
  unfold Tell RetV
  w_top off
  k_with_none
  k_fill
  intro mean mg mb dp un gd cn cs a ccd cl outer A₀ base h₀ L m s Q E B F X N T hk hd hu hret
  refine wpAny_call ?_
  k_dflt cell_enter
  k_steps
  all_goals (rename Fr h₀ L _ m => FZ; rename News h₀ L _ _ => NZ)
  refine hret _ _ _ _ ⟨_, _, _, ⟨?_, ?_, ?_, rfl, rfl, ?_, ?_⟩, .mk _ _ _ _ _ _ _ (.head _)⟩ FZ NZ fun p hp => .tail _ (by k_mem)
  · omega
  · omega
  · omega
  · exact Sm.mono (Sm.mul s1 (Sm.pow10 (k := 100) (by omega))) (by decide)
  · exact Sm.mono (Sm.mul s2 (Sm.pow10 (k := 100) (by omega))) (by decide)

local macro_rules | `(tactic| walk_at "call ref") => `(tactic| (k_here; (with_reducible show wpAny _ _ (call (Value.ref 175) _) _ _ _); k_dflt first | (refine' tell_use (t_scale _ _ _ _ _ _ _ _ ?p1 ?p2 ?p3 ?p4 ?p5 ?p6 ?p7 ?p8) ?B ?F ?X ?N ?T ?k ?d ?u ?_; (case B => k_asm); (case F => k_asm); (case X => k_asm); (case N => k_asm); (case T => k_asm); (case k => first | exact rfl | assumption); (case p1 => walk_at "num"); (case p2 => walk_at "num"); (case p3 => assumption); (case p4 => assumption); (case p5 => assumption); (case p6 => assumption); (case p7 => assumption); (case p8 => assumption); (case d => ktr_room); (case u => ktr_units); intro v9 n9 h9 tk9 p9 F9 N9 i9; obtain ⟨a9, b9, c9, sc9, t9⟩ := p9; have sa9 := Scaled.sa sc9; have sb9 := Scaled.sb sc9; (try (have nb9 := Scaled.ne sc9 (by assumption))); cases t9; (try dsimp only)) | fail "no at_one_scale"))
local macro_rules | `(tactic| walk_at "call ref") => `(tactic| (k_here; (with_reducible show wpAny _ _ (call (Value.ref 161) _) _ _ _); k_dflt first | (refine' tell_use (t_rq _ _ _ _ _ _ ?p1 ?p2 ?p3) ?B ?F ?X ?N ?T ?k ?d ?u ?_; (case B => k_asm); (case F => k_asm); (case X => k_asm); (case N => k_asm); (case T => k_asm); (case k => first | exact rfl | assumption); (case p1 => assumption); (case p2 => exact Sm.mono (by walk_at "sm") (by decide)); (case p3 => exact Sm.mono (by walk_at "sm") (by decide)); (case d => ktr_room); (case u => ktr_units); intro t9 h9 tk9 F9 N9; (try dsimp only)) | fail "no rounded_quotient"))
local macro_rules | `(tactic| walk_at "call ref") => `(tactic| (k_here; (with_reducible show wpAny _ _ (call (Value.ref 46) _) _ _ _); first | (exfalso; contradiction) | (exfalso; omega) | fail "no absurd way"))
theorem t_over (w : World) (news : List (Addr × Obj)) (v1 v2 : Value) (T1 P1 T2 P2 places : Int) (tp : Tok) (h1 : IsNum w news v1 T1 P1) (h2 : IsNum w news v2 T2 P2)
    (s1 : Sm 200 T1) (s2 : Sm 200 T2) (p1 : 0 ≤ P1) (p1' : P1 ≤ 100) (p2 : 0 ≤ P2) (p2' : P2 ≤ 100) (q1 : 0 ≤ places) (q2 : places ≤ 20) (hT : T2 ≠ 0) : Tell w 182 news [v1, v2, .int places tp] 40 200
    (RetV news fun news' r => ∃ a b c T P, Scaled T1 P1 T2 P2 a b c ∧ IsNorm (rq (a * 10 ^ places.toNat) b) places T P ∧ IsDec w news' r T P) := by
  unfold Tell RetV
  w_top off
  k_with_none
  k_fill
  intro mean mg mb dp un gd cn cs a ccd cl outer A₀ base h₀ L m s Q E B F X N T hk hd hu hret
  refine wpAny_call ?_
  k_dflt cell_enter
  k_steps
  all_goals (rename Fr h₀ L _ m => FZ; rename News h₀ L _ _ => NZ)
  exact hret _ _ _ _ ⟨_, _, _, _, _, by assumption, by assumption, .dec _ _ _ _ _ _ _ _ (.head _) (.tail _ (.head _))⟩ FZ NZ fun p hp => .tail _ (.tail _ (by k_mem))

/-- the greatest common divisor, as an int -/
def gcdI (a b : Int) : Int := (Nat.gcd a.natAbs b.natAbs : Int)
theorem gcdI_zero {f s o p : Int} (h : gcdI f s = gcdI o p) (h0 : 0 ≤ f) (hs : s = 0) : f = gcdI o p := by
  subst hs
  rw [← h]; unfold gcdI; simp; omega
theorem gcd_start (x y : Int) : gcdI (x.natAbs : Int) (y.natAbs : Int) = gcdI x y ∧ 0 ≤ (x.natAbs : Int) ∧ 0 ≤ (y.natAbs : Int) := by
  refine ⟨?_, by omega, by omega⟩
  unfold gcdI; simp
theorem gcd_turn {f s o p : Int} (h : gcdI f s = gcdI o p) (h0 : 0 ≤ f) (h1 : 0 ≤ s) (hs : 0 < s) : gcdI s (f.fmod s) = gcdI o p ∧ 0 ≤ s ∧ 0 ≤ f.fmod s := by
  rw [Int.fmod_eq_emod_of_nonneg _ (by omega)]
  refine ⟨?_, h1, Int.emod_nonneg _ (by omega)⟩
  rw [← h]; unfold gcdI
  rw [Int.natAbs_emod_of_nonneg h0, Nat.gcd_comm, ← Nat.gcd_rec, Nat.gcd_comm]
theorem gcd_less {f s : Int} (hs : 0 < s) : (f.fmod s).toNat < s.toNat := by
  rw [Int.fmod_eq_emod_of_nonneg _ (by omega)]
  have := Int.emod_lt_of_pos f hs
  have := Int.emod_nonneg f (show s ≠ 0 by omega)
  omega
section
local macro_rules | `(tactic| walk_at "exec While Compare cons nil") => `(tactic| k_dflt first | k_while_given ["one", "other"] (fun one other _ first second => gcdI first second = gcdI one other ∧ 0 ≤ first ∧ 0 ≤ second) (fun _ _ _ _ second => second.toNat) "first" "second" | fail "no loop of common_divisor")
theorem t_gcd (w : World) (news : List (Addr × Obj)) (x y : Int) (t u : Tok) (sx : Sm 2000 x) (sy : Sm 2000 y) : Tell w 189 news [.int x t, .int y u] 10 50 (RetI news (gcdI x y)) := by
  unfold Tell RetI
  w_top off
  k_with_none
  k_fill
  intro mean mg mb dp un gd cn cs a ccd cl outer A₀ base h₀ L m s Q E B F X N T hk hd hu hret
  k_with "state" => first | exact gcd_start _ _ | exact gcd_turn (by assumption) (by assumption) (by assumption) (by assumption)
  k_with "measure" => exact gcd_less (by assumption)
  refine wpAny_call ?_
  k_dflt cell_enter
  k_steps
  all_goals (rename Fr h₀ L _ m => FZ; rename News h₀ L _ _ => NZ)
  rename gcdI _ _ = gcdI _ _ => hg
  have e := gcdI_zero hg (by assumption) (by omega)
  rw [e]
  exact hret _ _ _ FZ NZ
end

theorem coprime5 {k : Nat} (h : ¬ 5 ∣ k) : Nat.Coprime k 5 := by
  have hd : Nat.gcd k 5 ∣ 5 := Nat.gcd_dvd_right _ _
  have hk : Nat.gcd k 5 ∣ k := Nat.gcd_dvd_left _ _
  have hle := Nat.le_of_dvd (by decide) hd
  have : Nat.gcd k 5 = 0 ∨ Nat.gcd k 5 = 1 ∨ Nat.gcd k 5 = 2 ∨ Nat.gcd k 5 = 3 ∨ Nat.gcd k 5 = 4 ∨ Nat.gcd k 5 = 5 := by omega
  rcases this with e | e | e | e | e | e <;> rw [e] at hd hk
  · exact absurd hd (by decide)
  · exact e
  · exact absurd hd (by decide)
  · exact absurd hd (by decide)
  · exact absurd hd (by decide)
  · exact absurd hk h
theorem coprime2 {k : Nat} (h : ¬ 2 ∣ k) : Nat.Coprime k 2 := by
  have hd : Nat.gcd k 2 ∣ 2 := Nat.gcd_dvd_right _ _
  have hk : Nat.gcd k 2 ∣ k := Nat.gcd_dvd_left _ _
  have hle := Nat.le_of_dvd (by decide) hd
  have : Nat.gcd k 2 = 0 ∨ Nat.gcd k 2 = 1 ∨ Nat.gcd k 2 = 2 := by omega
  rcases this with e | e | e <;> rw [e] at hd hk
  · exact absurd hd (by decide)
  · exact e
  · exact absurd hk h
/-- a divisor of 10^n is 2^x 5^y -/
theorem two_five : ∀ (n R : Nat), R ∣ 10 ^ n → ∃ x y, R = 2 ^ x * 5 ^ y ∧ x ≤ n ∧ y ≤ n
  | 0, R, h => ⟨0, 0, by simpa using h, Nat.le_refl _, Nat.le_refl _⟩
  | n + 1, R, h => by
    rw [Nat.pow_succ] at h
    by_cases h2 : 2 ∣ R
    · by_cases h5 : 5 ∣ R
      · have h10 : 10 ∣ R := by omega
        obtain ⟨R', rfl⟩ := h10
        have h' : R' ∣ 10 ^ n := by
          rw [Nat.mul_comm] at h
          exact Nat.dvd_of_mul_dvd_mul_right (by decide : 0 < 10) h
        obtain ⟨x, y, e, hx, hy⟩ := two_five n R' h'
        refine ⟨x + 1, y + 1, ?_, by omega, by omega⟩
        rw [e, Nat.pow_succ, Nat.pow_succ]
        rw [show 2 ^ x * 2 * (5 ^ y * 5) = 10 * (2 ^ x * 5 ^ y) from by
          rw [Nat.mul_mul_mul_comm, Nat.mul_comm (2 ^ x * 5 ^ y)]]
      · obtain ⟨R', rfl⟩ := h2
        have h' : R' ∣ 10 ^ n * 5 := by
          have : 2 * R' ∣ 2 * (10 ^ n * 5) := by
            rw [show 2 * (10 ^ n * 5) = 10 ^ n * 10 from by omega]; exact h
          exact Nat.dvd_of_mul_dvd_mul_left (by decide) this
        have h5' : ¬ 5 ∣ R' := fun q => h5 (Nat.dvd_trans q (Nat.dvd_mul_left _ _))
        have h'' : R' ∣ 10 ^ n := (coprime5 h5').dvd_of_dvd_mul_right h'
        obtain ⟨x, y, e, hx, hy⟩ := two_five n R' h''
        refine ⟨x + 1, y, ?_, by omega, by omega⟩
        rw [e, Nat.pow_succ, Nat.mul_comm (2 ^ x) 2, Nat.mul_assoc]
    · by_cases h5 : 5 ∣ R
      · obtain ⟨R', rfl⟩ := h5
        have h' : R' ∣ 10 ^ n * 2 := by
          have : 5 * R' ∣ 5 * (10 ^ n * 2) := by
            rw [show 5 * (10 ^ n * 2) = 10 ^ n * 10 from by omega]; exact h
          exact Nat.dvd_of_mul_dvd_mul_left (by decide) this
        have h2' : ¬ 2 ∣ R' := fun q => h2 (Nat.dvd_trans q (Nat.dvd_mul_left _ _))
        have h'' : R' ∣ 10 ^ n := (coprime2 h2').dvd_of_dvd_mul_right h'
        obtain ⟨x, y, e, hx, hy⟩ := two_five n R' h''
        refine ⟨x, y + 1, ?_, by omega, by omega⟩
        rw [e, Nat.pow_succ, Nat.mul_comm (5 ^ y) 5, Nat.mul_left_comm]
      · have h' : R ∣ 10 ^ n * 5 := by
          refine (coprime2 h2).dvd_of_dvd_mul_right ?_
          rw [show 10 ^ n * 5 * 2 = 10 ^ n * 10 from by omega]; exact h
        have h'' : R ∣ 10 ^ n := (coprime5 h5).dvd_of_dvd_mul_right h'
        obtain ⟨x, y, e, hx, hy⟩ := two_five n R h''
        exact ⟨x, y, e, by omega, by omega⟩
theorem div_ten {x y n : Nat} (hx : x ≤ n) (hy : y ≤ n) : 2 ^ x * 5 ^ y ∣ 10 ^ n := by
  rw [show (10 : Nat) = 2 * 5 from rfl, Nat.mul_pow]
  exact Nat.mul_dvd_mul (Nat.pow_dvd_pow 2 hx) (Nat.pow_dvd_pow 5 hy)
/-- n is the least exponent at which R divides a power of ten -/
def Least (R n : Nat) : Prop := R ∣ 10 ^ n ∧ ∀ j, j < n → ¬ R ∣ 10 ^ j
theorem Least.two {R n : Nat} (h : Least R n) : 2 ^ n ≤ R := by
  obtain ⟨hd, hm⟩ := h
  obtain ⟨x, y, e, hx, hy⟩ := two_five n R hd
  have hn : n ≤ max x y := Nat.le_of_not_lt fun q => hm _ q (by rw [e]; exact div_ten (Nat.le_max_left _ _) (Nat.le_max_right _ _))
  have p2 : 0 < 2 ^ x := Nat.pow_pos (by decide)
  have p5 : 0 < 5 ^ y := Nat.pow_pos (by decide)
  rw [e]
  rcases Nat.le_total y x with hxy | hxy
  · have : n = x := by omega
    rw [this]; exact Nat.le_mul_of_pos_right _ p5
  · have : n = y := by omega
    have h25 : 2 ^ y ≤ 5 ^ y := Nat.pow_le_pow_left (by decide) y
    rw [this]
    exact Nat.le_trans h25 (Nat.le_mul_of_pos_left _ p2)
theorem least_of {R n : Nat} (h : R ∣ 10 ^ n) : ∃ m, Least R m ∧ m ≤ n := by
  induction n using Nat.strongRecOn with
  | ind n ih =>
    by_cases q : ∃ j, j < n ∧ R ∣ 10 ^ j
    · obtain ⟨j, hj, hd⟩ := q
      obtain ⟨m, hm, hle⟩ := ih j hj hd
      exact ⟨m, hm, by omega⟩
    · exact ⟨n, ⟨h, fun j hj hd => q ⟨j, hj, hd⟩⟩, Nat.le_refl _⟩
theorem Least.unique {R n m : Nat} (h : Least R n) (g : Least R m) : n = m := by
  rcases Nat.lt_trichotomy n m with q | q | q
  · exact absurd h.1 (g.2 _ q)
  · exact q
  · exact absurd g.1 (h.2 _ q)
theorem none_of {R n : Nat} (hm : ∀ j, j < n → ¬ R ∣ 10 ^ j) (h2 : R < 2 ^ n) : ∀ k, ¬ R ∣ 10 ^ k := fun k hk => by
  obtain ⟨m, hl, _⟩ := least_of hk
  have h3 := hl.two
  have h4 : ¬ m < n := fun q => hm m q hl.1
  have h5 : 2 ^ n ≤ 2 ^ m := Nat.pow_le_pow_right (by decide) (by omega)
  omega
/-- the reduced divisor of a / b -/
def red (a b : Int) : Nat := b.natAbs / Nat.gcd a.natAbs b.natAbs
theorem red_pos {a b : Int} (hb : b ≠ 0) : 0 < red a b := by
  unfold red
  have h1 : 0 < b.natAbs := Int.natAbs_pos.mpr hb
  exact Nat.div_pos (Nat.le_of_dvd h1 (Nat.gcd_dvd_right _ _)) (Nat.gcd_pos_of_pos_right _ h1)
theorem red_le {a b : Int} : red a b ≤ b.natAbs := Nat.div_le_self _ _
/-- the loop of exact_over: no power of ten below this one is a multiple of rest, and 2 ** places is not above it -/
structure ExLoop (rest places : Int) : Prop where
  no : ∀ j : Nat, (j : Int) < places → ¬ rest.natAbs ∣ 10 ^ j
theorem ex_start (rest : Int) : 0 ≤ (0 : Int) ∧ (0 : Int) ≤ 1000 ∧ ExLoop rest 0 := ⟨by omega, by omega, ⟨fun j h => by omega⟩⟩
theorem mod_dvd {rest : Int} {n : Nat} (h0 : 0 < rest) : (10 ^ n : Int).fmod rest = 0 ↔ rest.natAbs ∣ 10 ^ n := by
  rw [Int.fmod_eq_emod_of_nonneg _ (by omega)]
  constructor
  · intro h
    have := Int.dvd_of_emod_eq_zero h
    rw [← Int.natAbs_dvd_natAbs, Int.natAbs_pow] at this
    exact this
  · intro h
    refine Int.emod_eq_zero_of_dvd ?_
    rw [← Int.natAbs_dvd_natAbs, Int.natAbs_pow]
    exact h
theorem ex_no {rest places : Int} (h0 : 0 < rest) (hp : 0 ≤ places) (hl : ExLoop rest places) (hm : (10 ^ places.toNat : Int).fmod rest ≠ 0) : ExLoop rest (places + 1) :=
  ⟨fun j hj => by
    by_cases e : (j : Int) < places
    · exact hl.no j e
    · have : j = places.toNat := by omega
      rw [this]
      exact fun q => hm ((mod_dvd h0).mpr q)⟩
theorem ex_turn {rest places : Int} (h0 : 0 < rest) (hr : Sm 602 rest) (hp : 0 ≤ places) (hl : ExLoop rest places) (hm : (10 ^ places.toNat : Int).fmod rest ≠ 0)
    (h2 : ¬ rest < 2 ^ (places + 1).toNat) : 0 ≤ places + 1 ∧ places + 1 ≤ 1000 ∧ ExLoop rest (places + 1) := by
  refine ⟨by omega, ?_, ex_no h0 hp hl hm⟩
  have h3 : (2 : Int) ^ (places + 1).toNat ≤ rest := by omega
  have h4 : ((2 ^ (places + 1).toNat : Nat) : Int) ≤ rest := by rw [Int.natCast_pow]; exact h3
  have h5 : 2 ^ (places + 1).toNat < 2 ^ 602 := by unfold Sm at hr; omega
  have h6 := (Nat.pow_lt_pow_iff_right (by decide : 1 < 2)).mp h5
  omega
theorem ex_none {rest places : Int} (h0 : 0 < rest) (hp : 0 ≤ places) (hl : ExLoop rest places) (hm : (10 ^ places.toNat : Int).fmod rest ≠ 0)
    (h2 : rest < 2 ^ (places + 1).toNat) : ∀ k, ¬ rest.natAbs ∣ 10 ^ k := by
  refine none_of (n := (places + 1).toNat) (fun j hj => (ex_no h0 hp hl hm).no j (by omega)) ?_
  have : ((2 ^ (places + 1).toNat : Nat) : Int) = 2 ^ (places + 1).toNat := by rw [Int.natCast_pow]; rfl
  omega
theorem ex_done {rest places : Int} (h0 : 0 < rest) (hp : 0 ≤ places) (hl : ExLoop rest places) (hm : (10 ^ places.toNat : Int).fmod rest = 0) : Least rest.natAbs places.toNat :=
  ⟨(mod_dvd h0).mp hm, fun j hj => hl.no j (by omega)⟩

theorem gcdI_ne {a b : Int} (hb : b ≠ 0) : gcdI a b ≠ 0 := by
  unfold gcdI
  have := Nat.gcd_pos_of_pos_right a.natAbs (Int.natAbs_pos.mpr hb)
  omega
theorem gcdI_sm {n : Nat} {a b : Int} (hb : b ≠ 0) (sb : Sm n b) : Sm n (gcdI a b) := by
  refine Sm.of_abs sb ?_
  unfold gcdI
  exact Nat.le_of_dvd (Int.natAbs_pos.mpr hb) (Nat.gcd_dvd_right _ _)
theorem fdiv_red {prog : Program} {w : World} {A : Around} {E : Value → Shared → Prop} {s : Shared} {a b : Int} {t u : Tok} {Q : Value → Shared → Prop} {n : Nat} (hb : b ≠ 0) (sb : Sm n b) (hn : n ≤ 9000)
    (h : Q (.int (red a b : Int) s.toks) { s with toks := s.toks + 1 }) : wpAny (model prog w) A (binaryOp .FloorDiv (.int (b.natAbs : Int) t) (.int (gcdI a b) u)) Q E s := by
  have e : (b.natAbs : Int).fdiv (gcdI a b) = (red a b : Int) := by
    unfold gcdI red
    rw [Int.fdiv_eq_ediv_of_nonneg _ (by omega)]
    rfl
  rw [← e] at h
  exact floordiv_int (gcdI_ne hb) h (Or.inl (PyProof.noPylong_of_log2 (Sm.log (gcdI_sm hb sb) hn)))
theorem red_int_pos {a b : Int} (hb : b ≠ 0) : 0 < (red a b : Int) := by have := red_pos (a := a) hb; omega
theorem red_sm {n : Nat} {a b : Int} (sb : Sm n b) : Sm n (red a b : Int) := Sm.of_abs sb (by have := red_le (a := a) (b := b); omega)
local macro_rules | `(tactic| walk_at "sm") => `(tactic| with_reducible first | (show Sm _ (10 ^ Int.toNat _); exact Sm.pow10 (k := 1000) (by omega)) | fail "sm7")
local macro_rules | `(tactic| walk_at "binaryOp Mod int int") => `(tactic| (k_here; first | (with_reducible refine mod_int' (Int.ne_of_gt (red_int_pos (by with_reducible assumption))) ?_) | fail "no reduced divisor"))
local macro_rules | `(tactic| walk_at "binaryOp FloorDiv int int") => `(tactic| (k_here; first | (with_reducible refine' fdiv_red ?hb ?sb ?hn ?_; (case hb => with_reducible assumption); (case sb => with_reducible assumption); (case hn => decide)) | fail "no reduced divisor"))
local macro_rules | `(tactic| walk_at "call ref") => `(tactic| (k_here; (with_reducible show wpAny _ _ (call (Value.ref 189) _) _ _ _); k_dflt first | (refine' tell_use (t_gcd _ _ _ _ _ _ ?p2 ?p3) ?B ?F ?X ?N ?T ?k ?d ?u ?_; (case B => k_asm); (case F => k_asm); (case X => k_asm); (case N => k_asm); (case T => k_asm); (case k => first | exact rfl | assumption); (case p2 => exact Sm.mono (by walk_at "sm") (by decide)); (case p3 => exact Sm.mono (by walk_at "sm") (by decide)); (case d => ktr_room); (case u => ktr_units); intro t9 h9 tk9 F9 N9; (try dsimp only)) | fail "no common_divisor"))
section
local macro_rules | `(tactic| walk_at "exec While Compare cons nil") => `(tactic| k_dflt first | k_while_given ["rest"] (fun rest _ places => 0 ≤ places ∧ places ≤ 1000 ∧ ExLoop rest places) (fun _ _ places => (1001 - places).toNat) "places" | fail "no loop of exact_over")
theorem t_exact (w : World) (news : List (Addr × Obj)) (v1 v2 : Value) (T1 P1 T2 P2 : Int) (h1 : IsNum w news v1 T1 P1) (h2 : IsNum w news v2 T2 P2)
    (s1 : Sm 200 T1) (s2 : Sm 200 T2) (p1 : 0 ≤ P1) (p1' : P1 ≤ 100) (p2 : 0 ≤ P2) (p2' : P2 ≤ 100) (hT : T2 ≠ 0) : Tell w 196 news [v1, v2] 40 200
    (RetV news fun news' r => ∃ a b c, Scaled T1 P1 T2 P2 a b c ∧ ((r = .none ∧ ∀ k, ¬ red a b ∣ 10 ^ k) ∨ (∃ (n : Nat) (T P : Int), Least (red a b) n ∧ IsNorm ((a * 10 ^ n).fdiv b) n T P ∧ IsDec w news' r T P))) := by
  unfold Tell RetV
  w_top off
  k_with_none
  k_fill
  intro mean mg mb dp un gd cn cs a ccd cl outer A₀ base h₀ L m s Q E B F X N T hk hd hu hret
  k_with "state" => first | exact ex_start _ | exact ex_turn (red_int_pos (by assumption)) (Sm.mono (red_sm (by assumption)) (by decide)) (by assumption) (by assumption) (by assumption) (by assumption)
  refine wpAny_call ?_
  k_dflt cell_enter
  k_steps
  all_goals (rename Fr h₀ L _ m => FZ; rename News h₀ L _ _ => NZ; rename Scaled _ _ _ _ _ _ _ => sc; rename ExLoop _ _ => ex)
  · exact hret _ _ _ _ ⟨_, _, _, sc, .inl ⟨rfl, ex_none (red_int_pos (by assumption)) (by assumption) ex (by assumption) (by assumption)⟩⟩ FZ NZ fun p hp => by k_mem
  · rename IsNorm _ _ _ _ => no
    have hl := ex_done (red_int_pos (by assumption)) (by assumption) ex (by assumption)
    have e : ∀ x : Int, 0 ≤ x → ((x.toNat : Nat) : Int) = x := fun x hx => by omega
    refine hret _ _ _ _ ⟨_, _, _, sc, .inr ⟨_, _, _, hl, ?_, .dec _ _ _ _ _ _ _ _ (.head _) (.tail _ (.head _))⟩⟩ FZ NZ fun p hp => .tail _ (.tail _ (by k_mem))
    rw [e _ (by assumption)]; exact no
end

theorem root1_start {W : Int} (h : 0 ≤ W) : 1 ≤ (1 : Int) ∧ (1 : Int) ≤ 2 * W + 2 ∧ Sm 400 1 := ⟨by omega, by omega, Sm.lit (by decide)⟩
theorem sm_le {n : Nat} {x y : Int} (h : Sm n y) (h0 : 0 ≤ x) (hx : x ≤ y) : Sm n x := Sm.of_abs h (by omega)
theorem root1_le {W high : Int} (h1 : 1 ≤ high) (hh : high * high ≤ W) : high ≤ W := by
  have : high * 1 ≤ high * high := Int.mul_le_mul_of_nonneg_left h1 (by omega)
  omega
theorem root1_turn {W high : Int} (sW : Sm 370 W) (h1 : 1 ≤ high) (hh : high * high ≤ W) : 1 ≤ 2 * high ∧ 2 * high ≤ 2 * W + 2 ∧ Sm 400 (2 * high) := by
  have := root1_le h1 hh
  refine ⟨by omega, by omega, sm_le (y := 2 * W) ?_ (by omega) (by omega)⟩
  exact Sm.mono (Sm.mul (n := 2) (Sm.lit (by decide)) sW) (by decide)
theorem root1_less {W high : Int} (h1 : 1 ≤ high) (hh : high * high ≤ W) : (2 * W + 3 - 2 * high).toNat < (2 * W + 3 - high).toNat := by
  have := root1_le h1 hh
  omega
structure Root2 (W low high : Int) : Prop where
  lo : low * low ≤ W
  hi : W < high * high
theorem root2_start {W high : Int} (h : 0 ≤ W) (h1 : 1 ≤ high) (hh : ¬ high * high ≤ W) (sh : Sm 400 high) : 0 ≤ (0 : Int) ∧ 0 < high ∧ Sm 400 0 ∧ Sm 400 high ∧ Root2 W 0 high :=
  ⟨by omega, by omega, Sm.zero, sh, ⟨by omega, by omega⟩⟩
theorem mid_facts {low high : Int} (h0 : 0 ≤ low) (hg : 1 < high - low) : low < (low + high).fdiv 2 ∧ (low + high).fdiv 2 < high := by
  rw [Int.fdiv_eq_ediv_of_nonneg _ (by decide)]; omega
theorem root2_low {W low high : Int} (h0 : 0 ≤ low) (sh : Sm 400 high) (r : Root2 W low high) (hg : 1 < high - low) (hm : (low + high).fdiv 2 * (low + high).fdiv 2 ≤ W) :
    0 ≤ (low + high).fdiv 2 ∧ (low + high).fdiv 2 < high ∧ Sm 400 ((low + high).fdiv 2) ∧ Sm 400 high ∧ Root2 W ((low + high).fdiv 2) high := by
  obtain ⟨m1, m2⟩ := mid_facts h0 hg
  exact ⟨by omega, m2, sm_le sh (by omega) (by omega), sh, ⟨hm, r.hi⟩⟩
theorem root2_high {W low high : Int} (h0 : 0 ≤ low) (sl : Sm 400 low) (sh : Sm 400 high) (r : Root2 W low high) (hg : 1 < high - low) (hm : ¬ (low + high).fdiv 2 * (low + high).fdiv 2 ≤ W) :
    0 ≤ low ∧ low < (low + high).fdiv 2 ∧ Sm 400 low ∧ Sm 400 ((low + high).fdiv 2) ∧ Root2 W low ((low + high).fdiv 2) := by
  obtain ⟨m1, m2⟩ := mid_facts h0 hg
  exact ⟨h0, m1, sl, sm_le sh (by omega) (by omega), ⟨r.lo, by omega⟩⟩
theorem root2_less1 {low high : Int} (h0 : 0 ≤ low) (hg : 1 < high - low) : (high - (low + high).fdiv 2).toNat < (high - low).toNat := by
  obtain ⟨m1, m2⟩ := mid_facts h0 hg
  omega
theorem root2_less2 {low high : Int} (h0 : 0 ≤ low) (hg : 1 < high - low) : ((low + high).fdiv 2 - low).toNat < (high - low).toNat := by
  obtain ⟨m1, m2⟩ := mid_facts h0 hg
  omega
section
local macro_rules | `(tactic| walk_at "exec While Compare cons nil") => `(tactic| k_dflt first | k_while_given ["whole"] (fun whole _ high => 1 ≤ high ∧ high ≤ 2 * whole + 2 ∧ Sm 400 high) (fun whole _ high => (2 * whole + 3 - high).toNat) "high" | fail "no first loop of root_of")
local macro_rules | `(tactic| walk_at "exec While Compare cons nil") => `(tactic| k_dflt first | k_while_given ["whole"] (fun whole _ low high => 0 ≤ low ∧ low < high ∧ Sm 400 low ∧ Sm 400 high ∧ Root2 whole low high) (fun _ _ low high => (high - low).toNat) "low" "high" | fail "no second loop of root_of")
theorem whole_facts {T1 P1 places : Int} (s1 : Sm 200 T1) (h0 : 0 ≤ T1) (q2 : places ≤ 20) : 0 ≤ (T1 * 10 ^ (2 * places).toNat).fdiv (10 ^ P1.toNat) ∧ Sm 370 ((T1 * 10 ^ (2 * places).toNat).fdiv (10 ^ P1.toNat)) := by
  refine ⟨?_, ?_⟩
  · rw [Int.fdiv_eq_ediv_of_nonneg _ (Int.pow_nonneg (by decide))]
    exact Int.ediv_nonneg (Int.mul_nonneg h0 (Int.pow_nonneg (by decide))) (Int.pow_nonneg (by decide))
  · exact Sm.mono (Sm.fdiv (Sm.mul s1 (Sm.pow10 (k := 40) (by omega)))) (by decide)
theorem root2_end {W low high : Int} (r : Root2 W low high) (h : low < high) (hg : ¬ 1 < high - low) : Root2 W low (low + 1) := by
  have : high = low + 1 := by omega
  subst this
  exact r
theorem t_root (w : World) (news : List (Addr × Obj)) (v1 : Value) (T1 P1 places : Int) (tp : Tok) (h1 : IsNum w news v1 T1 P1)
    (s1 : Sm 200 T1) (p1 : 0 ≤ P1) (p1' : P1 ≤ 100) (q1 : 0 ≤ places) (q2 : places ≤ 20) (hT : 0 ≤ T1) : Tell w 203 news [v1, .int places tp] 40 200
    (RetV news fun news' r => ∃ low T P, 0 ≤ low ∧ Root2 ((T1 * 10 ^ (2 * places).toNat).fdiv (10 ^ P1.toNat)) low (low + 1) ∧ IsNorm low places T P ∧ IsDec w news' r T P) := by
  unfold Tell RetV
  w_top off
  k_with_none
  k_fill
  intro mean mg mb dp un gd cn cs a ccd cl outer A₀ base h₀ L m s Q E B F X N T hk hd hu hret
  obtain ⟨hW, sW⟩ := whole_facts (P1 := P1) s1 hT q2
  have h10 : (10 : Int) ^ P1.toNat ≠ 0 := Int.pow_ne_zero (by decide)
  k_with "state" => first | exact root1_start (by assumption) | exact root1_turn (by assumption) (by assumption) (by assumption) | exact root2_start (by assumption) (by assumption) (by assumption) (by assumption) | exact root2_low (by assumption) (by assumption) (by assumption) (by omega) (by assumption) | exact root2_high (by assumption) (by assumption) (by assumption) (by assumption) (by omega) (by assumption)
  k_with "measure" => first | exact root1_less (by assumption) (by assumption) | exact root2_less1 (by assumption) (by omega) | exact root2_less2 (by assumption) (by omega)
  refine wpAny_call ?_
  k_dflt cell_enter
  k_steps
  all_goals (rename Fr h₀ L _ m => FZ; rename News h₀ L _ _ => NZ; rename Root2 _ _ _ => rr)
  exact hret _ _ _ _ ⟨_, _, _, by assumption, root2_end rr (by assumption) (by assumption), by assumption, .dec _ _ _ _ _ _ _ _ (.head _) (.tail _ (.head _))⟩ FZ NZ fun p hp => .tail _ (.tail _ (by k_mem))
end

/-- the pen as it lies: the cells' list, the spot, what is carried -/
abbrev penO (c : Addr) (spot carry : Int) (t1 t2 : Tok) (n : Nat) : Obj := listOf #[.ref c, .int spot t1, .int carry t2] n
theorem ne_nilK {prog : Program} {w : World} {A : Around} {E : Value → Shared → Prop} {s : Shared} {h₀ : Heap} {L c l : Addr} {news : List (Addr × Obj)} {vs : List Value} {ns : List Int} {nc k : Nat} {Q : Value → Shared → Prop} (N : News h₀ L s.heap news) (hc : (c, listOf vs.toArray nc) ∈ news) (hi : IntsAre vs ns) (hl : (l, listOf #[] k) ∈ news) (hu : A.units + 64 < cLine)
    (h : Q (.bool (!decide (ns = []))) s) : wpAny (model prog w) A (compareOp .NotEq (.ref c) (.ref l)) Q E s :=
  ne_intsK (vs := vs) (us := []) (PySem.IsL.isList (n := nc) (N _ hc).1) hi (PySem.IsL.isList (n := k) (N _ hl).1) .nil hu h
theorem Sm.fmod {n : Nat} {x y : Int} (hy : 0 < y) (sy : Sm n y) : Sm n (x.fmod y) := by
  rw [Int.fmod_eq_emod_of_nonneg _ (by omega)]
  have h1 := Int.emod_nonneg x (show y ≠ 0 by omega)
  have h2 := Int.emod_lt_of_pos x hy
  exact Sm.of_abs sy (by omega)
theorem Sm.powk {n : Nat} {x e : Int} (sx : Sm n x) (he : (e.toNat == 0) = false) : Sm (n * e.toNat) (x ^ e.toNat) := by
  unfold Sm at *
  rw [Int.natAbs_pow, Nat.pow_mul]
  refine Nat.pow_lt_pow_left sx ?_
  simpa using he
theorem pow_sm {prog : Program} {w : World} {A : Around} {E : Value → Shared → Prop} {s : Shared} {a n : Int} {t u : Tok} {Q : Value → Shared → Prop} {k : Nat} (hn : 0 ≤ n) (sa : Sm k a) (hk : (k : Int) * n ≤ 2 ^ 27)
    (h : Q (.int (a ^ n.toNat) s.toks) { s with toks := s.toks + 1 }) : wpAny (model prog w) A (binaryOp .Pow (.int a t) (.int n u)) Q E s := by
  refine pow_int hn ?_ h
  have h1 := sa.bits
  have : (Builtin.Int.intBits a : Int) * n ≤ k * n := Int.mul_le_mul_of_nonneg_right (by omega) hn
  omega
local macro_rules | `(tactic| walk_at "sm") => `(tactic| with_reducible first
  | (show Sm _ (Int.fmod _ _); exact Sm.fmod (by first | assumption | decide) (by walk_at "sm"))
  | (show Sm _ (_ ^ Int.toNat _); exact Sm.powk (by walk_at "sm") (by decide))
  | fail "sm2")
local macro_rules | `(tactic| walk_at "binaryOp Pow int int") => `(tactic| (k_here; k_dflt first | (refine' pow_sm ?kb1 ?kb2 ?kb3 ?_; (case kb1 => decide); (case kb2 => walk_at "sm"); (case kb3 => decide)) | fail "no pow2"))
local macro_rules | `(tactic| walk_at "memA") => `(tactic| first | assumption | (refine' List.Mem.tail _ ?_; assumption) | (refine' List.Mem.tail _ (List.Mem.tail _ ?_); assumption) | (refine' List.Mem.tail _ (List.Mem.tail _ (List.Mem.tail _ ?_)); assumption) | (refine' List.Mem.tail _ (List.Mem.tail _ (List.Mem.tail _ (List.Mem.tail _ ?_))); assumption) | fail "memA")
local macro_rules | `(tactic| walk_at "compareOp NotEq ref ref") => `(tactic| (k_here; (with_reducible show wpAny _ _ (compareOp CmpOp.NotEq (Value.ref _) (Value.ref _)) _ _ _); k_dflt first | (refine' ne_nilK ?N ?c ?i ?l ?u ?_; (case N => k_asm); (case c => walk_at "memA"); (case i => with_reducible assumption); (case l => k_mem); (case u => ktr_units)) | fail "no list against the empty one"))
local macro_rules | `(tactic| k_all) => `(tactic| first | with_reducible assumption | fail "k_all")
local macro_rules | `(tactic| is_list) => `(tactic| first | exact News.isList (by k_asm) (by k_dflt (walk_at "memA")) | fail "is_list")
local macro_rules | `(tactic| units_room) => `(tactic| first | ktr_units | fail "units_room")
theorem fm_lo {x y : Int} (h : 0 < y) : 0 ≤ x.fmod y := by
  rw [Int.fmod_eq_emod_of_nonneg _ (by omega)]; exact Int.emod_nonneg _ (by omega)
theorem fm_hi {x y : Int} (h : 0 < y) : x.fmod y < y := by
  rw [Int.fmod_eq_emod_of_nonneg _ (by omega)]; exact Int.emod_lt_of_pos _ h
theorem fd_lo {x y : Int} (hx : 0 ≤ x) (h : 0 < y) : 0 ≤ x.fdiv y := by
  rw [Int.fdiv_eq_ediv_of_nonneg _ (by omega)]; exact Int.ediv_nonneg hx (by omega)
theorem t_draw (w : World) (p c : Addr) (vs : List Value) (ns : List Int) (nc : Nat) (rest : List (Addr × Obj)) (spot carry many : Int) (t1 t2 tm : Tok) (n : Nat)
    (hc : (c, listOf vs.toArray nc) ∈ rest) (hi : IntsAre vs ns) (hl : ns.length ≤ 63) (hp : ∀ q ∈ rest, q.1 ≠ p) (h0 : 0 ≤ spot) (h1 : spot ≤ 1000) (h2 : 0 ≤ carry) (hm : 0 < many) (hm2 : many ≤ 1000000000) :
    Tell w 215 ((p, penO c spot carry t1 t2 n) :: rest) [.ref p, .int many tm] 40 200
    (fun h₀ L m s Q => ∀ (digit spot' carry' : Int) (t t1' t2' : Tok) (n' : Nat) (h' : Heap) (tk' : Nat), 0 ≤ digit → digit < many → 0 ≤ spot' → spot' ≤ spot + 1 → 0 ≤ carry' → Fr h₀ L h' m → News h₀ L h' ((p, penO c spot' carry' t1' t2' n') :: rest) → Q (.int digit t) { s with heap := h', toks := tk' }) := by
  unfold Tell
  w_top off
  k_with_none
  k_fill
  intro mean mg mb dp un gd cn cs a ccd cl outer A₀ base h₀ L m s Q E B F X N T hk hd hu hret
  have hpos : ns = [] ∨ (¬ ns = [] ∧ (0 : Int) < (ns.length : Int) ∧ (ns.length : Int) ≤ 63) := by
    cases ns with
    | nil => exact Or.inl rfl
    | cons a r => exact Or.inr ⟨by simp, by simp, by omega⟩
  have ss : Sm 10 spot := Sm.of_abs (x := 1000) (Sm.lit (by decide)) (by omega)
  have sm : Sm 30 many := Sm.of_abs (x := 1000000000) (Sm.lit (by decide)) (by omega)
  rcases hpos with hnil | ⟨hnn, hpos, hle⟩
  all_goals refine wpAny_call ?_
  all_goals (k_dflt cell_enter; k_steps)
  all_goals (rename Fr h₀ L _ m => FZ; rename News h₀ L _ _ => NZ)
  all_goals first
    | exact hret _ _ _ _ _ _ _ _ _ (fm_lo hm) (fm_hi hm) h0 (by omega) (fd_lo (by omega) hm) FZ NZ
    | exact hret _ _ _ _ _ _ _ _ _ (fm_lo hm) (fm_hi hm) (by omega) (by omega) h2 FZ fun p hp => NZ p (.tail _ hp)
    | exact hret _ _ _ _ _ _ _ _ _ (fm_lo hm) (fm_hi hm) (by omega) (by omega) (fd_lo (Int.sub_nonneg_of_le (by assumption)) hm) FZ fun p hp => NZ p (.tail _ hp)
    | fail "end"

theorem rot1 {h₀ h : Heap} {L : Addr} {x y : Addr × Obj} {r : List (Addr × Obj)} (N : News h₀ L h (x :: y :: r)) : News h₀ L h (y :: x :: r) := fun p hp => by
  rcases List.mem_cons.mp hp with rfl | hp
  · exact N _ (.tail _ (.head _))
  · rcases List.mem_cons.mp hp with rfl | hp
    · exact N _ (.head _)
    · exact N _ (.tail _ (.tail _ hp))
theorem rot2 {h₀ h : Heap} {L : Addr} {x y z : Addr × Obj} {r : List (Addr × Obj)} (N : News h₀ L h (x :: y :: z :: r)) : News h₀ L h (z :: x :: y :: r) := fun p hp => by
  rcases List.mem_cons.mp hp with rfl | hp
  · exact N _ (.tail _ (.tail _ (.head _)))
  · rcases List.mem_cons.mp hp with rfl | hp
    · exact N _ (.head _)
    · rcases List.mem_cons.mp hp with rfl | hp
      · exact N _ (.tail _ (.head _))
      · exact N _ (.tail _ (.tail _ (.tail _ hp)))
theorem drop3 {h₀ h : Heap} {L : Addr} {x y z : Addr × Obj} {r : List (Addr × Obj)} (N : News h₀ L h (x :: y :: z :: r)) : News h₀ L h (y :: x :: r) := fun p hp => by
  rcases List.mem_cons.mp hp with rfl | hp
  · exact N _ (.tail _ (.head _))
  · rcases List.mem_cons.mp hp with rfl | hp
    · exact N _ (.head _)
    · exact N _ (.tail _ (.tail _ (.tail _ hp)))
theorem apart_cons {p : Addr} {x : Addr × Obj} {r : List (Addr × Obj)} (h : x.1 ≠ p) (hr : ∀ q ∈ r, q.1 ≠ p) : ∀ q ∈ x :: r, q.1 ≠ p := fun q hq => by
  rcases List.mem_cons.mp hq with rfl | hq
  · exact h
  · exact hr q hq
theorem sm_drawn {g many : Int} (h0 : 0 ≤ g) (h1 : g < many) (hm : many ≤ 1000000000) : Sm 30 g := Sm.of_abs (x := 1000000000) (Sm.lit (by decide)) (by omega)
theorem Sm.powb {j k : Nat} {b e : Int} (hb : (decide (b.natAbs ≤ 2 ^ j)) = true) (h : e ≤ k) : Sm (j * k + 1) (b ^ e.toNat) := by
  have hb := of_decide_eq_true hb
  unfold Sm
  rw [Int.natAbs_pow, Nat.pow_succ, Nat.pow_mul]
  have h1 := Nat.pow_le_pow_left hb e.toNat
  have h2 : (2 ^ j) ^ e.toNat ≤ (2 ^ j) ^ k := Nat.pow_le_pow_right (Nat.pow_pos (by decide)) (by omega)
  have h3 : 0 < (2 ^ j) ^ k := Nat.pow_pos (Nat.pow_pos (by decide))
  omega
local macro_rules | `(tactic| walk_at "apart") => `(tactic| first | assumption | exact apart_cons (by first | exact Nat.ne_of_gt (And.left (by assumption)) | exact Nat.ne_of_gt (by assumption) | omega | fail "ne") (by walk_at "apart") | fail "apart")
local macro_rules | `(tactic| walk_at "penN") => `(tactic| first | k_asm | exact rot1 (by k_asm) | exact rot2 (by k_asm) | fail "penN")
local macro_rules | `(tactic| walk_at "sm") => `(tactic| with_reducible first
  | (show Sm _ (2 ^ Int.toNat _); first | exact Sm.powb (j := 1) (k := 10) (by decide) (by omega) | fail "sm2")
  | (show Sm _ (5 ^ Int.toNat _); first | exact Sm.powb (j := 3) (k := 10) (by decide) (by omega) | fail "sm5")
  | fail "smp")
local macro_rules | `(tactic| walk_at "call ref") => `(tactic| (k_here; (with_reducible show wpAny _ _ (call (Value.ref 215) _) _ _ _); k_dflt first | (refine' tell_use (t_draw _ _ _ _ _ _ _ _ _ _ _ _ _ _ ?p1 ?p2 ?p3 ?p4 ?p5 ?p6 ?p7 ?p8 ?p9) ?B ?F ?X ?N ?T ?k ?d ?u ?_; (case B => k_asm); (case F => k_asm); (case X => k_asm); (case N => walk_at "penN"); (case T => k_asm); (case k => first | exact rfl | assumption); (case p1 => walk_at "memA"); (case p2 => assumption); (case p3 => first | assumption | walk_at "few"); (case p4 => walk_at "apart"); (case p5 => omega); (case p6 => omega); (case p7 => omega); (case p8 => decide); (case p9 => decide); (case d => ktr_room); (case u => ktr_units); intro g9 s9 c9 t91 t92 t93 n9 h9 tk9 q91 q92 q93 q94 q95 F9 N9; have sg9 := sm_drawn q91 q92 (by decide); (try dsimp only)) | fail "no _law_draw"))
theorem sign_sm {g : Int} (h0 : 0 ≤ g) (h1 : g < 2) : Sm 1 (1 - 2 * g) := Sm.of_abs (x := 1) (Sm.lit (by decide)) (by omega)
theorem menu_sm (n : Nat) : Sm 6 ([1, 3, 7, 11, 13, 33].getD n (0 : Int)) := by
  rcases n with _ | _ | _ | _ | _ | _ | n
  all_goals first | exact Sm.lit (by decide) | exact Sm.zero
section
local macro_rules | `(tactic| walk_at "sm") => `(tactic| with_reducible first
  | (show Sm _ (1 - 2 * _); exact sign_sm (by assumption) (by assumption))
  | exact menu_sm _
  | fail "smp")
abbrev tup2 (a b : Int) (t1 t2 : Tok) : Obj := { cls := .type "tuple", data := .seq #[.int a t1, .int b t2] }
theorem t_pair (w : World) (p c : Addr) (vs : List Value) (ns : List Int) (nc : Nat) (rest : List (Addr × Obj)) (spot carry : Int) (t1 t2 : Tok) (n : Nat)
    (hc : (c, listOf vs.toArray nc) ∈ rest) (hi : IntsAre vs ns) (hl : ns.length ≤ 63) (hp : ∀ q ∈ rest, q.1 ≠ p) (h0 : 0 ≤ spot) (h1 : spot ≤ 900) (h2 : 0 ≤ carry) :
    Tell w 222 ((p, penO c spot carry t1 t2 n) :: rest) [.ref p] 50 250
    (fun h₀ L m s Q => ∀ (q : Addr) (a b spot' carry' : Int) (ta tb t1' t2' : Tok) (n' : Nat) (h' : Heap) (tk' : Nat), Sm 80 a → 0 ≤ b → b ≤ 19 → 0 ≤ spot' → spot' ≤ spot + 10 → 0 ≤ carry' → q ≠ p → Fr h₀ L h' m → News h₀ L h' ((p, penO c spot' carry' t1' t2' n') :: (q, tup2 a b ta tb) :: rest) → Q (.ref q) { s with heap := h', toks := tk' }) := by
  unfold Tell
  w_top off
  k_with_none
  k_fill
  intro mean mg mb dp un gd cn cs a ccd cl outer A₀ base h₀ L m s Q E B F X N T hk hd hu hret
  refine wpAny_call ?_
  k_dflt cell_enter
  k_steps
  all_goals (rename Fr h₀ L _ m => FZ; rename News h₀ L _ _ => NZ)
  all_goals first
    | exact hret _ _ _ _ _ _ _ _ _ _ _ _ (Sm.mono (by walk_at "sm") (by decide)) (by omega) (by omega) (by omega) (by omega) (by first | assumption | omega) (Nat.ne_of_gt (And.left (by assumption))) FZ (rot1 NZ)
    | exact hret _ _ _ _ _ _ _ _ _ _ _ _ (Sm.mono (by walk_at "sm") (by decide)) (by omega) (by omega) (by omega) (by omega) (by first | assumption | omega) (Nat.ne_of_gt (And.left (by assumption))) FZ (drop3 NZ)
    | fail "end"
end

theorem ne_above {news : List (Addr × Obj)} {L d : Addr} (l1 : ∀ p ∈ news, p.1 < L) (h : @LE.le Nat _ L d) : ∀ p ∈ news, p.1 ≠ d := fun p hp => Nat.ne_of_lt (Nat.lt_of_lt_of_le (l1 p hp) h)
local macro_rules | `(tactic| k_all) => `(tactic| first | exact ne_above (by with_reducible assumption) (by omega) | fail "k_all2")
local macro_rules | `(tactic| walk_at "enterC") => `(tactic| (refine' code_defC ?k1 ?k2 ?k3 ?k4 ?k5 ?kA ?kF ?kK ?k6 ?k7 ?k8 ?k9 ?kB ?kD ?_ ?c2 ?c3 ?c4; (case kA => exact rfl); (case kF => exact rfl); (case kK => assumption); (case k1 => k_asm); (case k2 => k_asm); (case k3 => k_asm); (case k4 => k_asm); (case k5 => k_asm); (case k6 => k_is); (case k7 => k_is); (case k8 => ktr_room); (case k9 => exact BindsTo.of_eq rfl); (case kB => exact rfl); (case kD => decide +kernel); (case c2 => exact rfl); (case c3 => exact rfl); (case c4 => exact rfl); k_whole; intro g' L' h' tk' cells' FG' F' N' Y' B' X' T' l1; (try k_lt l1); k_cells Y'; (try simp only [List.cons_append, List.nil_append] at N'); (try dsimp only); (try k_lift B'); (try k_fold)))
theorem gcdI_pos {a b : Int} (h : gcdI a b ≠ 0) : 1 ≤ gcdI a b := by unfold gcdI at *; omega
def NoneEnd (h₀ : Heap) (L : Addr) (m : Str → Option Value) (s : Shared) (news' : List (Addr × Obj)) (b : Bool) (s' : Shared) : Prop :=
  b = false ∧ ∃ h' tk', s' = { s with heap := h', toks := tk' } ∧ Fr h₀ L h' m ∧ News h₀ L h' news'
theorem rest_none {prog : Program} {w : World} {A : Around} {h₀ : Heap} {L : Addr} {m : Str → Option Value} {env : Env} {ct elt : Expr} {x : Str} {scope : Scope} {cl : List (Str × Addr)} {s : Shared} {S : List (Addr × Obj) → Prop} {Fin : List Value → List (Addr × Obj) → Prop} {news : List (Addr × Obj)} {n : Nat} {a : Int} (hS : S news)
    (turn : ∀ k t I oI C oC D m₂ h tk (E' : Value → Shared → Prop), a ≤ k → LCg.NsObj oC m₂ → m₂ x = some (.int k t) → Fr h₀ L h m → News h₀ L h ((I, oI) :: (C, oC) :: (D, LCg.lst []) :: news) → LCg.Off3 I C D news → ((@Ne Nat I C) ∧ (@Ne Nat I D) ∧ (@Ne Nat C D)) →
      wpAny (model prog w) A (isTrue ct (compEnvC scope cl C env) (eval ct (compEnvC scope cl C env))) (NoneEnd h₀ L m { s with heap := h, toks := tk } ((I, oI) :: (C, oC) :: (D, LCg.lst []) :: news)) E' { s with heap := h, toks := tk })
    (fin : Fin [] news) : LCt.CompRestT prog w A h₀ L m env ct elt x scope cl s S (fun i v => ∃ t, v = .int (a + (i : Int)) t) Fin n 0 [] news := by
  have key : ∀ (j i : Nat), LCt.CompRestT prog w A h₀ L m env ct elt x scope cl s S (fun i v => ∃ t, v = .int (a + (i : Int)) t) Fin j i [] news := by
    intro j
    induction j with
    | zero => intro i; exact LCt.CompRestT.zero fin
    | succ j ih =>
      intro i
      refine LCt.CompRestT.succ ?_
      intro v I oI C oC D m₂ h tk E' hv hC hx F N off ne
      obtain ⟨t, hv⟩ := hv
      rw [hv] at hx
      refine wpAny_mono (turn _ t I oI C oC D m₂ h tk E' (by omega) hC hx F N off ne) (fun b s₂ hq => ?_) fun _ _ e => e
      obtain ⟨hb, h', tk', hs, F', N'⟩ := hq
      subst hb
      simp only [Bool.false_eq_true, if_false]
      exact ⟨h', tk', news, hs, F', N', off, hS, ih (i + 1)⟩
  exact key n 0
theorem stop_facts {z : Int} (hz : 0 ≤ z) : -(2 ^ 62) ≤ (if 60 < z then 60 else z) + 1 ∧ (if 60 < z then 60 else z) + 1 < 2 ^ 62 ∧ ((if 60 < z then 60 else z) + 1 - 2).toNat ≤ sizeLine := by
  rw [sizeLine_eq]
  refine ⟨?_, ?_, ?_⟩ <;> split <;> omega
section
local macro_rules | `(tactic| walk_at "CompSrcT") => `(tactic| (k_here; k_dflt first | (refine LCt.CompSrcT.range (by rfl) (by k_asm) (by k_asm) (by assumption) (small_one (by decide) (by decide) (stop_facts (by assumption)).1 (stop_facts (by assumption)).2.1) (rangeSize_nat _ _) (stop_facts (by assumption)).2.2 ?_; intro g9; refine' rest_none ?kS ?kT ?kF; (case kS => trivial); (case' kT => intro k9 t9 I9 oI9 C9 oC9 D9 m9 h9 tk9 E9 hlo' hC' hx' F' N' off' ne'; (try simp only [LCg.Off3, and_true] at off'))) | fail "no source"))
local macro_rules | `(tactic| walk_at "eval ListComp") => `(tactic| (k_here; lct_look; lcg_calm; (k_dflt (refine LCt.ListComp_T (F₀ := by k_asm) (by with_unfolding_all rfl) (by decide) (by rfl) (by decide) (by rfl) ?_))))
theorem gcdI_dvd_l (x y : Int) : gcdI x y ∣ x := by
  unfold gcdI; exact Int.ofNat_dvd_left.mpr (Nat.gcd_dvd_left _ _)
theorem gcdI_dvd_r (x y : Int) : gcdI x y ∣ y := by
  unfold gcdI; exact Int.ofNat_dvd_left.mpr (Nat.gcd_dvd_right _ _)
theorem gcdI_nn (x y : Int) : 0 ≤ gcdI x y := by unfold gcdI; omega
theorem fmod_gcd_l (x y : Int) : x.fmod (gcdI x y) = 0 := by
  rw [Int.fmod_eq_emod_of_nonneg _ (gcdI_nn x y)]
  exact Int.emod_eq_zero_of_dvd (gcdI_dvd_l x y)
theorem fmod_gcd_r (x y : Int) : y.fmod (gcdI x y) = 0 := by
  rw [Int.fmod_eq_emod_of_nonneg _ (gcdI_nn x y)]
  exact Int.emod_eq_zero_of_dvd (gcdI_dvd_r x y)
theorem mul_of_quot {x g k : Int} (hg : 0 ≤ g) (hd : g ∣ x) (hk : 0 ≤ k) (h : (x.fdiv g).fmod k = 0) : g * k ∣ x := by
  rw [Int.fmod_eq_emod_of_nonneg _ hk, Int.fdiv_eq_ediv_of_nonneg _ hg] at h
  have h1 : k ∣ x / g := Int.dvd_of_emod_eq_zero h
  have h2 : g * (x / g) = x := Int.mul_ediv_cancel' hd
  rw [← h2]
  exact Int.mul_dvd_mul_left g h1
theorem no_common {x y k : Int} (hg : gcdI x y ≠ 0) (hk : 2 ≤ k) (h1 : (x.fdiv (gcdI x y)).fmod k = 0) (h2 : (y.fdiv (gcdI x y)).fmod k = 0) : False := by
  have d1 := mul_of_quot (gcdI_nn x y) (gcdI_dvd_l x y) (by omega) h1
  have d2 := mul_of_quot (gcdI_nn x y) (gcdI_dvd_r x y) (by omega) h2
  have e1 := Int.natAbs_dvd_natAbs.mpr d1
  have e2 := Int.natAbs_dvd_natAbs.mpr d2
  have e3 := Nat.dvd_gcd e1 e2
  rw [Int.natAbs_mul] at e3
  have e4 : (gcdI x y).natAbs = Nat.gcd x.natAbs y.natAbs := by unfold gcdI; simp
  rw [e4] at e3
  have hp : 0 < Nat.gcd x.natAbs y.natAbs := by
    have := gcdI_nn x y
    unfold gcdI at hg; omega
  have e5 := Nat.le_of_dvd hp e3
  have e6 : Nat.gcd x.natAbs y.natAbs * 2 ≤ Nat.gcd x.natAbs y.natAbs * k.natAbs := Nat.mul_le_mul_left _ (by omega)
  omega
theorem gcd_one_zero {x y : Int} (h : x = 0 ∨ y = 0) : (gcdI x y == (x.natAbs : Int) + (y.natAbs : Int)) = true := by
  rcases h with rfl | rfl <;> simp [gcdI]
theorem t_divs (w : World) (news : List (Addr × Obj)) (x y : Int) (t u : Tok) (sx : Sm 400 x) (sy : Sm 400 y) : Tell w 255 news [.int x t, .int y u] 30 150
    (fun h₀ L m s Q => ∀ (h' : Heap) (tk' : Nat), Fr h₀ L h' m → News h₀ L h' news → Q (.bool true) { s with heap := h', toks := tk' }) := by
  unfold Tell
  w_top off
  k_with_none
  k_fill
  intro mean mg mb dp un gd cn cs a ccd cl outer A₀ base h₀ L m s Q E B F X N T hk hd hu hret
  have hcase : (x = 0 ∨ y = 0) ∨ (x ≠ 0 ∧ y ≠ 0 ∧ gcdI x y ≠ 0) := by
    by_cases h1 : x = 0
    · exact Or.inl (Or.inl h1)
    · by_cases h2 : y = 0
      · exact Or.inl (Or.inr h2)
      · exact Or.inr ⟨h1, h2, gcdI_ne h2⟩
  rcases hcase.symm with ⟨hx, hy, hg⟩ | hz
  · have sgm : Sm 400 (gcdI x y) := gcdI_sm hy sy
    have hg1 : 1 ≤ gcdI x y := gcdI_pos hg
    have hz0 : 0 ≤ (if (y.natAbs : Int) < (x.natAbs : Int) then (y.natAbs : Int) else (x.natAbs : Int)).fdiv (gcdI x y) := fd_lo (by split <;> omega) (by omega)
    refine wpAny_call ?_
    k_dflt (walk_at "enterC")
    k_steps
    all_goals (rename Fr h₀ L _ m => FZ; rename News h₀ L _ _ => NZ)
    all_goals first
      | (exfalso; omega)
      | exact absurd (fmod_gcd_l x y) (by assumption)
      | exact absurd (fmod_gcd_r x y) (by assumption)
      | exact hret _ _ FZ fun p hp => NZ p (.tail _ (.tail _ (.tail _ (.tail _ (.tail _ hp)))))
      | exact (no_common hg (by assumption) (by assumption) (by assumption)).elim
      | exact ⟨rfl, _, _, rfl, by assumption, by assumption⟩
      | fail "end"
  · refine wpAny_call ?_
    k_dflt (walk_at "enterC")
    k_steps
    all_goals (rename Fr h₀ L _ m => FZ; rename News h₀ L _ _ => NZ)
    all_goals first
      | (exfalso; omega)
      | (rw [gcd_one_zero hz]; exact hret _ _ FZ fun p hp => NZ p (.tail _ (.tail _ (.tail _ hp))))
      | fail "end"
end

section
variable {M : Model} {A : Around} {E : Value → Shared → Prop} {s' : Shared} {base g : Heap} {outer : List Env} {L a e : Addr} {m : Str → Option Value} {name : Str} {scope : Scope} {cd : Value} {Q : Unit → Shared → Prop} {news : List (Addr × Obj)}
/-- an instance of the own class leaves the frame that raised it; what the frame below holds stays -/
theorem leave_xS {oe : Obj} {vs : Array Value} {a0 cls : Value} (K : Below A base outer g) (F : Fr g L s'.heap m) (N : News g L s'.heap ((e, oe) :: news)) (hne : ∀ p ∈ news, p.1 ≠ e)
    (hd : oe.data = .fields vs) (h0 : vs[0]? = some a0) (h1 : vs[1]? = some .none) (hcls : oe.cls = cls)
    (hQ : ∀ h', RaisedSN base g outer e cls news h' → g.UpToSlots h' → Q () { s' with heap := h' }) (hk : scope.kind = .function := by rfl) :
    wpAny M (A.deeper (envOf name scope L a cd)) (leaving (envOf name scope L a cd) (.ref e)) Q E s' := by
  subst hcls
  have K' := K.push (name := name) (a := a) (cd := cd) F hk
  have hNe := N _ (.head _)
  have hin : ∀ env ∈ (envOf name scope L a cd :: outer), ∀ b, env.frame = some b → b ∈ e :: (envOf name scope L a cd :: outer).filterMap (·.frame) := fun env he b hb => .tail _ (List.mem_filterMap.mpr ⟨env, he, hb⟩)
  have st : base.StaysIn (hideAll s'.heap (e :: (envOf name scope L a cd :: outer).filterMap (·.frame))) := fun b o q => hideAll_get _ (K'.stays b o q) fun hm => by
    rcases List.mem_cons.mp hm with rfl | hm
    · have := K.stays _ _ q; rw [hNe.2.2] at this; cases this
    · rw [(K'.frames.mem hm).1] at q; cases q
  have sg : ∀ b o, g.get? b = some o → b ∉ outer.filterMap (·.frame) → (hideAll s'.heap (e :: (envOf name scope L a cd :: outer).filterMap (·.frame))).get? b = some o := fun b o q nm => hideAll_get _ (F.keep b o q) fun hm => by
    rcases List.mem_cons.mp hm with rfl | hm
    · rw [hNe.2.2] at q; cases q
    · rcases kts_mem hm with z | z
      · rw [z, kts_self F] at q
        cases q
      · exact nm z
  have hl : ∀ q ∈ news, (hideAll s'.heap (e :: (envOf name scope L a cd :: outer).filterMap (·.frame))).get? q.1 = some q.2 ∧ g.get? q.1 = none ∧ base.get? q.1 = none := fun q hq => by
    have Nq := N q (.tail _ hq)
    refine ⟨hideAll_get _ Nq.1 fun hm => ?_, Nq.2.2, fresh_of_stays K.stays Nq.2.2⟩
    rcases List.mem_cons.mp hm with hm | hm
    · exact hne q hq hm
    · obtain ⟨env, he, hf⟩ := List.mem_filterMap.mp hm
      rcases List.mem_cons.mp he with rfl | he
      · exact Nq.2.1 (Option.some.inj hf).symm
      · obtain ⟨o, ho, _⟩ := (K.frames.mem (List.mem_filterMap.mpr ⟨env, he, hf⟩)).2
        rw [Nq.2.2] at ho; cases ho
  have hen : (hideAll s'.heap (e :: (envOf name scope L a cd :: outer).filterMap (·.frame))).get? e = none := hideAll_none _ (.head _)
  refine wpAny_leaving_firstW (a0 := a0) K'.stack (funFrames_hide K'.frames hin) rfl hNe.1 (fun b o hb => of_hideAll _ hb) hen hd h1 h0 fun h' hL => ?_
  obtain ⟨k1, ⟨_, _, k2⟩, k3, k4⟩ := hL
  exact hQ h' ⟨_, a0, st, sg, hl, k1, hen, k2, k3⟩ ((Heap.UpToSlots.of_keeps F.keep).trans k4)
end
section
variable {prog : Program} {w : World} {A₀ : Around} {E : Value → Shared → Prop} {s' : Shared} {base g g₀ G : Heap} {outer : List Env} {L a e : Addr} {m : Str → Option Value} {name : Str} {scope : Scope} {cd : Value}
  {b₀ : Stmt} {suite : List Stmt} {pos np : Pos} {rest : List ExceptHandler} {Q : Flow → Shared → Prop} {news : List (Addr × Obj)} {KF : Frag} {C : Addr}
  {p : Program} {loose : List Str} {mean : ExcName → Option Value} {mg mb : Str → Option Value} {x : Str}
variable {nm q : Str} {N : Addr} {bs bm : List Value} {hdct : Bool} {sn : List Str} {sub : List Value} {ab : Bool} {col : Option Bool} {dd : Option Addr} {k0 k1 k2 k3 k5 : Option Value} {newId : String}
/-- the handler of the own class takes it, in a frame that others stand below -/
theorem caught_xS (R : RaisedSN base G (envOf name scope L a cd :: outer) e (.ref C) news s'.heap) (F : Fr g L G m) (K : Below A₀ base outer g) (hsm : G.UpToSlots s'.heap) (XB : KF.In base) (TB : Top p loose mean mg mb base)
    (D : KtsDicts (outer.filterMap (·.frame)) g) (T0 : KtsTurn (outer.filterMap (·.frame)) g₀ g)
    (ex : nsIn KF mainGlobals x = some (some (.ref C)))
    (hC : KF.lookup C = some (excClassObj nm q C N bs bm hdct sn sub ab col dd k0 k1 k2 k3 k5 newId)) (hbase : bm.contains (.type "BaseException") = true)
    (k : ∀ h' g', KtsTurn (outer.filterMap (·.frame)) g₀ g' → Fr g' L h' m → News g' L h' news → Below A₀ base outer g' → KF.In g' → Top p loose mean mg mb g' → KtsDicts (outer.filterMap (·.frame)) g' →
      wpAny (model prog w) ((A₀.deeper (envOf name scope L a cd)).mark (some (.ref e))) (execs (b₀ :: suite) (envOf name scope L a cd)) Q E { s' with heap := h' })
    (hk : scope.kind = .function := by rfl) (hx : (envOf name scope L a cd).kindOf x = some .globalImplicit := by rfl) (hd : (x == ("__debug__" : Str)) = false := by decide)
    (hE : PassesOwnAt (model prog w) ((A₀.deeper (envOf name scope L a cd)).mark (some (.ref e))) (A₀.deeper (envOf name scope L a cd)) (envOf name scope L a cd) E := by passes_own) :
    wpAny (model prog w) (A₀.deeper (envOf name scope L a cd)) (noteFrame (.ref e) (envOf name scope L a cd))
      (fun _ s₂ => wpAny (model prog w) (A₀.deeper (envOf name scope L a cd)) (setFlight (.ref e) none) (fun _ s₃ =>
        wpAny (model prog w) (A₀.deeper (envOf name scope L a cd)) (handleBy (.ref e) (envOf name scope L a cd) (.ExceptHandler (some (.Name x np)) none (b₀ :: suite) pos :: rest)) Q E s₃) E s₂) E s' := by
  obtain ⟨B, a0, hB, hBG, hl, hfl⟩ := R
  have hL : B.get? L = none := by
    obtain ⟨_, ⟨L', _, hf, hn', _⟩, _⟩ := hfl.2.2.1
    obtain rfl : L = L' := Option.some.inj hf
    exact hn'
  refine wpAny_looks_onW (Around.frames_deeper K.stack) rfl hfl fun h₄ hheld₄ hsm₄ => ?_
  refine wpAny_landsW hheld₄ fun h₅ hheld hsm₅' => ?_
  have hsm₅ := hsm₄.trans hsm₅'
  obtain ⟨g₅, T₅, F₅, K₅⟩ := kts_ground K F hBG hheld.1 (hsm.trans hsm₅)
  have X₅ : KF.In g₅ := XB.keeps K₅.stays
  have P₅ : TopRead p loose mg mb g₅ := topRead_of (TB.keeps K₅.stays)
  obtain ⟨ob, hob, hobc⟩ := hheld.there
  refine wpAny_handleBy_cons (codeAny_handlers_test (name_K F₅ X₅ P₅ ex ?_ hk hx hd)) (by intro q; cases q)
  refine wpAny_excMatches_sub_self (F₅.keep _ _ (X₅ _ _ hC)) hob hobc hbase (codeAny_handlers_suite ?_)
  refine lands_againW hheld fun h₆ hfl₆ hsm₆ => ?_
  obtain ⟨g₆, T₆, F₆, K₆⟩ := kts_ground K F hBG hfl₆.1 ((hsm.trans hsm₅).trans hsm₆)
  have Nl : News g₆ L h₆ news := fun q hq => ⟨hfl₆.1 _ _ (hl q hq).1, (fun z => by have := (hl q hq).1; rw [z, hL] at this; cases this), T₆.none_ _ (kts_none F.keep (hl q hq).2.1)⟩
  have X₆ : KF.In g₆ := XB.keeps K₆.stays
  have P₆ : Top p loose mean mg mb g₆ := TB.keeps K₆.stays
  have D₆ : KtsDicts (outer.filterMap (·.frame)) g₆ := D.turn T₆
  exact wpAny_passesOwnAt hE (k h₆ g₆ (T0.trans T₆) F₆ Nl K₆ X₆ P₆ D₆)
end
/-- a def called from the law's own frame -/
def TellT (w : World) (f : Addr) (news : List (Addr × Obj)) (vs : List Value) (dmax umax : Nat)
    (Ret : Heap → Addr → (Str → Option Value) → Shared → (Value → Shared → Prop) → Prop) : Prop :=
  ∀ (mean : ExcName → Option Value) (mg mb : Str → Option Value) (dp un : Nat) (gd : Option (List Code)) (cn : Str) (cs : Scope) (a : Addr) (ccd : Value) (A₀ : Around) (base h₀ : Heap) (L : Addr) (m : Str → Option Value) (s : Shared) (Q E : Value → Shared → Prop),
    Below A₀ base [] h₀ → Fr h₀ L s.heap m → (Mine.hd.heap_39 w.params).In h₀ → (Mine.hd.heap_39 w.params).In base → News h₀ L s.heap news → Top Mine.hd.view_39 (looseW Mine.hd.view_39 [Str.ofString "PaperError"]) mean mg mb h₀ → Top Mine.hd.view_39 (looseW Mine.hd.view_39 [Str.ofString "PaperError"]) mean mg mb base → cs.kind = .function →
    dp + dmax < recursionLimit → un + umax < cLine → Ret h₀ L m s Q →
      wpAny (model PySem.Challenge.rw_nn0116_01.row.prog w) (ktrTop dp un gd cn cs L a ccd [] []) (call (.ref f) vs) Q E s

theorem Scaled.zero {T1 P1 T2 P2 a b c : Int} (h : Scaled T1 P1 T2 P2 a b c) (hT : T2 = 0) : b = 0 := by
  rw [h.eb, hT, Int.zero_mul]
local macro_rules | `(tactic| walk_at "enterS") => `(tactic| (refine' code_defS0 ?k1 ?k2 ?k3 ?k4 ?k5 ?kA ?k6 ?k7 ?k8 ?k9 ?kB ?_ ?cK ?c2 ?c3 ?c4 ?c5; (case kA => exact rfl); (case k2 => k_asm); (case k1 => k_asm); (case k3 => k_asm); (case k4 => k_asm); (case k5 => k_asm); (case k6 => k_is); (case k7 => k_is); (case k8 => ktr_room); (case k9 => exact BindsTo.of_eq rfl); (case kB => exact locs rfl); (case cK => assumption); (case c2 => exact rfl); (case c3 => exact rfl); (case c4 => exact rfl); (case c5 => decide); k_whole; intro g' L' h' FG' F' N' B' X' T' D'; (try dsimp only); (try k_lift B'); (try k_fold)))
local macro_rules | `(tactic| walk_at "call ref") => `(tactic| (k_here; (with_reducible show wpAny _ _ (call (Value.ref 175) _) _ _ _); k_dflt first | (refine' tell_use (t_scale _ _ _ _ _ _ _ _ ?p1 ?p2 ?p3 ?p4 ?p5 ?p6 ?p7 ?p8) ?B ?F ?X ?N ?T ?k ?d ?u ?_; (case B => k_asm); (case F => k_asm); (case X => k_asm); (case N => k_asm); (case T => k_asm); (case k => first | exact rfl | assumption); (case p1 => walk_at "num"); (case p2 => walk_at "num"); (case p3 => assumption); (case p4 => assumption); (case p5 => assumption); (case p6 => assumption); (case p7 => assumption); (case p8 => assumption); (case d => ktr_room); (case u => ktr_units); intro v9 n9 h9 tk9 p9 F9 N9 i9; obtain ⟨a9, b9, c9, sc9, t9⟩ := p9; have sa9 := Scaled.sa sc9; have sb9 := Scaled.sb sc9; (try (have nb9 := Scaled.ne sc9 (by assumption))); (try (have zb9 := Scaled.zero sc9 (by assumption); subst zb9)); cases t9; (try dsimp only)) | fail "no at_one_scale"))
local macro_rules | `(tactic| walk_at "exec Raise some none") => `(tactic| (k_here; (with_reducible show wpAny _ _ (exec (Stmt.Raise (some (Expr.Call (Expr.Name _ _) [Expr.Constant _ _ _] [] _)) none _) _) _ _ _); k_dflt first | (refine' raise_PE ?B ?F ?X ?N ?T ?A ?k ?x ?r ?h ?_; (case B => k_asm); (case F => k_asm); (case X => k_asm); (case N => k_asm); (case T => k_asm); (case A => exact rfl); (case k => first | exact rfl | assumption); (case x => exact rfl); (case r => ktr_room); (case h => exact rfl); intro e9 oe9 vs9 a9 h9 tk9 F9 N9 ne9 ec9 ed9 ex9 ey9; (try dsimp only)) | fail "no raise"))
local macro_rules | `(tactic| walk_at "leaving ref") => `(tactic| (k_here; k_dflt first | (refine' leave_xS ?K ?F ?N ?ne ?d ?x ?y ?c ?_; (case c => assumption); (case ne => assumption); (case d => assumption); (case x => assumption); (case y => assumption); (case F => k_asm); (case N => k_asm); (case K => k_asm); intro h' R' U'; (try dsimp only at R' U' ⊢)) | fail "no leaving"))
local macro_rules | `(tactic| walk_at "noteFrame ref") => `(tactic| (k_here; k_dflt first | (refine' caught_xS (C := 46) ?R ?F ?K ?U ?XB ?TB ?D ?T0 ?ex ?C ?b ?_; (case R => assumption); (case F => assumption); (case K => assumption); (case U => assumption); (case XB => assumption); (case TB => assumption); (case D => assumption); (case T0 => first | assumption | exact KtsTurn.refl); (case ex => k_is); (case C => exact rfl); (case b => exact rfl); intro h' g' T' F' N' K' X' P' D') | fail "no catch"))
theorem t_lover0 (w : World) (news : List (Addr × Obj)) (v1 v2 : Value) (way T1 P1 T2 P2 places : Int) (tw tp : Tok) (h1 : IsNum w news v1 T1 P1) (h2 : IsNum w news v2 T2 P2)
    (s1 : Sm 200 T1) (s2 : Sm 200 T2) (p1 : 0 ≤ P1) (p1' : P1 ≤ 100) (p2 : 0 ≤ P2) (p2' : P2 ≤ 100) (hT : T2 = 0) : TellT w 236 news [.int way tw, v1, v2, .int places tp] 60 300
    (fun h₀ L m s Q => ∀ (t : Tok) (h' : Heap) (tk' : Nat), Fr h₀ L h' m → News h₀ L h' news → Q (.str (Str.ofString "refused") t) { s with heap := h', toks := tk' }) := by
  unfold TellT
  w_top off
  k_with_none
  k_fill
  intro mean mg mb dp un gd cn cs a ccd A₀ base h₀ L m s Q E B F X XB N T TB hk hd hu hret
  refine wpAny_call ?_
  k_dflt (walk_at "enterS")
  k_steps
  all_goals (rename Fr h₀ L _ m => FZ; rename News h₀ L _ _ => NZ)
  all_goals first
    | exact hret _ _ _ FZ fun p hp => NZ p (by k_mem)
    | fail "end"

local macro_rules | `(tactic| walk_at "call ref") => `(tactic| (k_here; (with_reducible show wpAny _ _ (call (Value.ref 182) _) _ _ _); k_dflt first | (refine' tell_use (t_over _ _ _ _ _ _ _ _ _ _ ?p1 ?p2 ?p3 ?p4 ?p5 ?p6 ?p7 ?p8 ?q1 ?q2 ?p9) ?B ?F ?X ?N ?T ?k ?d ?u ?_; (case B => k_asm); (case F => k_asm); (case X => k_asm); (case N => k_asm); (case T => k_asm); (case k => first | exact rfl | assumption); (case p1 => walk_at "num"); (case p2 => walk_at "num"); (case p3 => assumption); (case p4 => assumption); (case p5 => assumption); (case p6 => assumption); (case p7 => assumption); (case p8 => assumption); (case q1 => assumption); (case q2 => assumption); (case p9 => assumption); (case d => ktr_room); (case u => ktr_units); intro v9 n9 h9 tk9 p9 F9 N9 i9; obtain ⟨a9, b9, c9, T9, P9, sc9, no9, t9⟩ := p9; cases t9; (try dsimp only)) | fail "no over"))
local macro_rules | `(tactic| walk_at "call ref") => `(tactic| (k_here; (with_reducible show wpAny _ _ (call (Value.ref 196) _) _ _ _); k_dflt first | (refine' tell_use (t_exact _ _ _ _ _ _ _ _ ?p1 ?p2 ?p3 ?p4 ?p5 ?p6 ?p7 ?p8 ?p9) ?B ?F ?X ?N ?T ?k ?d ?u ?_; (case B => k_asm); (case F => k_asm); (case X => k_asm); (case N => k_asm); (case T => k_asm); (case k => first | exact rfl | assumption); (case p1 => walk_at "num"); (case p2 => walk_at "num"); (case p3 => assumption); (case p4 => assumption); (case p5 => assumption); (case p6 => assumption); (case p7 => assumption); (case p8 => assumption); (case p9 => assumption); (case d => ktr_room); (case u => ktr_units); intro v9 n9 h9 tk9 p9 F9 N9 i9; obtain ⟨a9, b9, c9, sc9, p9⟩ := p9; (rcases p9 with ⟨e9, no9⟩ | ⟨m9, T9, P9, le9, no9, t9⟩); all_goals (first | subst e9 | cases t9); all_goals (try dsimp only)) | fail "no exact_over"))
theorem t_lover (w : World) (news : List (Addr × Obj)) (v1 v2 : Value) (T1 P1 T2 P2 places : Int) (tw tp : Tok) (h1 : IsNum w news v1 T1 P1) (h2 : IsNum w news v2 T2 P2)
    (s1 : Sm 200 T1) (s2 : Sm 200 T2) (p1 : 0 ≤ P1) (p1' : P1 ≤ 100) (p2 : 0 ≤ P2) (p2' : P2 ≤ 100) (q1 : 0 ≤ places) (q2 : places ≤ 20) (hT : T2 ≠ 0) : TellT w 236 news [.int 0 tw, v1, v2, .int places tp] 60 300
    (RetV news fun news' r => ∃ a b c T P, Scaled T1 P1 T2 P2 a b c ∧ IsNorm (rq (a * 10 ^ places.toNat) b) places T P ∧ IsT2 news' r T P) := by
  unfold TellT RetV
  w_top off
  k_with_none
  k_fill
  intro mean mg mb dp un gd cn cs a ccd A₀ base h₀ L m s Q E B F X XB N T TB hk hd hu hret
  refine wpAny_call ?_
  k_dflt (walk_at "enterS")
  k_steps
  all_goals (rename Fr h₀ L _ m => FZ; rename News h₀ L _ _ => NZ)
  exact hret _ _ _ _ ⟨_, _, _, _, _, by assumption, by assumption, .mk _ _ _ _ _ (.head _)⟩ FZ NZ fun p hp => .tail _ (by k_mem)
theorem t_lexact (w : World) (news : List (Addr × Obj)) (v1 v2 : Value) (T1 P1 T2 P2 places : Int) (tw tp : Tok) (h1 : IsNum w news v1 T1 P1) (h2 : IsNum w news v2 T2 P2)
    (s1 : Sm 200 T1) (s2 : Sm 200 T2) (p1 : 0 ≤ P1) (p1' : P1 ≤ 100) (p2 : 0 ≤ P2) (p2' : P2 ≤ 100) (hT : T2 ≠ 0) : TellT w 236 news [.int 1 tw, v1, v2, .int places tp] 60 300
    (RetV news fun news' r => ∃ a b c, Scaled T1 P1 T2 P2 a b c ∧ ((r = .none ∧ ∀ k, ¬ red a b ∣ 10 ^ k) ∨ (∃ (n : Nat) (T P : Int), Least (red a b) n ∧ IsNorm ((a * 10 ^ n).fdiv b) n T P ∧ IsT2 news' r T P))) := by
  unfold TellT RetV
  w_top off
  k_with_none
  k_fill
  intro mean mg mb dp un gd cn cs a ccd A₀ base h₀ L m s Q E B F X XB N T TB hk hd hu hret
  refine wpAny_call ?_
  k_dflt (walk_at "enterS")
  k_steps
  all_goals (rename Fr h₀ L _ m => FZ; rename News h₀ L _ _ => NZ)
  all_goals first
    | exact hret _ _ _ _ ⟨_, _, _, by assumption, .inl ⟨rfl, by assumption⟩⟩ FZ NZ fun p hp => by k_mem
    | exact hret _ _ _ _ ⟨_, _, _, by assumption, .inr ⟨_, _, _, by assumption, by assumption, .mk _ _ _ _ _ (.head _)⟩⟩ FZ NZ fun p hp => .tail _ (by k_mem)
    | fail "end"

local macro_rules | `(tactic| walk_at "call ref") => `(tactic| (k_here; (with_reducible show wpAny _ _ (call (Value.ref 203) _) _ _ _); k_dflt first | (refine' tell_use (t_root _ _ _ _ _ _ _ ?p1 ?p2 ?p3 ?p4 ?q1 ?q2 ?p9) ?B ?F ?X ?N ?T ?k ?d ?u ?_; (case B => k_asm); (case F => k_asm); (case X => k_asm); (case N => k_asm); (case T => k_asm); (case k => first | exact rfl | assumption); (case p1 => walk_at "num"); (case p2 => assumption); (case p3 => assumption); (case p4 => assumption); (case q1 => assumption); (case q2 => assumption); (case p9 => assumption); (case d => ktr_room); (case u => ktr_units); intro v9 n9 h9 tk9 p9 F9 N9 i9; obtain ⟨low9, T9, P9, lo9, rr9, no9, t9⟩ := p9; cases t9; (try dsimp only)) | fail "no root_of"))
theorem t_lroot0 (w : World) (news : List (Addr × Obj)) (v1 : Value) (T1 P1 places : Int) (tp : Tok) (h1 : IsNum w news v1 T1 P1)
    (s1 : Sm 200 T1) (p1 : 0 ≤ P1) (p1' : P1 ≤ 100) (hT : T1 < 0) : TellT w 243 news [v1, .int places tp] 60 300
    (fun h₀ L m s Q => ∀ (h' : Heap) (tk' : Nat), Fr h₀ L h' m → News h₀ L h' news → Q .none { s with heap := h', toks := tk' }) := by
  unfold TellT
  w_top off
  k_with_none
  k_fill
  intro mean mg mb dp un gd cn cs a ccd A₀ base h₀ L m s Q E B F X XB N T TB hk hd hu hret
  have hT' : ¬ 0 ≤ T1 := by omega
  refine wpAny_call ?_
  k_dflt (walk_at "enterS")
  repeat' (first | (k_unfold; (try dsimp only)) | (k_end; kc_close) | (walk1) | (dsimp only; walk1) | (leave1; walk_say "STEP leave1"; (try dsimp only)) | fail "no step")
  all_goals (rename Fr h₀ L _ m => FZ; rename News h₀ L _ _ => NZ)
  all_goals first
    | exact hret _ _ FZ fun p hp => NZ p (by k_mem)
    | fail "end"
theorem t_lroot (w : World) (news : List (Addr × Obj)) (v1 : Value) (T1 P1 places : Int) (tp : Tok) (h1 : IsNum w news v1 T1 P1)
    (s1 : Sm 200 T1) (p1 : 0 ≤ P1) (p1' : P1 ≤ 100) (q1 : 0 ≤ places) (q2 : places ≤ 20) (hT : 0 ≤ T1) : TellT w 243 news [v1, .int places tp] 60 300
    (RetV news fun news' r => ∃ low T P, 0 ≤ low ∧ Root2 ((T1 * 10 ^ (2 * places).toNat).fdiv (10 ^ P1.toNat)) low (low + 1) ∧ IsNorm low places T P ∧ IsDec w news' r T P) := by
  unfold TellT RetV
  w_top off
  k_with_none
  k_fill
  intro mean mg mb dp un gd cn cs a ccd A₀ base h₀ L m s Q E B F X XB N T TB hk hd hu hret
  refine wpAny_call ?_
  k_dflt (walk_at "enterS")
  k_steps
  all_goals (rename Fr h₀ L _ m => FZ; rename News h₀ L _ _ => NZ)
  all_goals first
    | exact hret _ _ _ _ ⟨_, _, _, by assumption, by assumption, by assumption, .dec _ _ _ _ _ _ _ _ (by assumption) (by assumption)⟩ FZ NZ fun p hp => by k_mem
    | fail "end"

theorem b_true {Q : Value → Shared → Prop} {p : Prop} [Decidable p] {s : Shared} (hp : p) (h : Q (.bool true) s) : Q (.bool (decide p)) s := by
  rw [decide_eq_true hp]; exact h
theorem t_near (w : World) (news : List (Addr × Obj)) (v : Value) (T3 P3 x y places : Int) (tx ty tp : Tok) (hv : IsT2 news v T3 P3)
    (s3 : Sm 900 T3) (sx : Sm 400 x) (sy : Sm 400 y) (hP : 0 ≤ P3) (hP2 : P3 ≤ places) (q1 : 0 ≤ places) (q2 : places ≤ 20)
    (hg1 : (2 * (T3 * 10 ^ (places - P3).toNat * y - x * 10 ^ places.toNat)).natAbs ≤ y.natAbs)
    (hg2 : (2 * (T3 * 10 ^ (places - P3).toNat * y - x * 10 ^ places.toNat)).natAbs < y.natAbs ∨ (x * 10 ^ places.toNat).natAbs < (T3 * 10 ^ (places - P3).toNat * y).natAbs) :
    Tell w 250 news [v, .int x tx, .int y ty, .int places tp] 30 150
    (fun h₀ L m s Q => ∀ (h' : Heap) (tk' : Nat), Fr h₀ L h' m → News h₀ L h' news → Q (.bool true) { s with heap := h', toks := tk' }) := by
  unfold Tell
  cases hv
  w_top off
  k_with_none
  k_fill
  intro mean mg mb dp un gd cn cs a ccd cl outer A₀ base h₀ L m s Q E B F X N T hk hd hu hret
  refine wpAny_call ?_
  k_dflt cell_enter
  repeat' (first | (k_unfold; (try dsimp only)) | (k_end; kc_close) | (walk1) | (dsimp only; walk1) | (leave1; walk_say "STEP leave1"; (try dsimp only)) | fail "no step")
  all_goals (rename Fr h₀ L _ m => FZ; rename News h₀ L _ _ => NZ)
  all_goals first
    | exact b_true (Q := Q) (by omega) (hret _ _ FZ NZ)
    | fail "end"

/-- the k-th rest and the k-th numeral of long division -/
def rr (x y : Int) (k : Nat) : Int := ((x.natAbs * 10 ^ k % y.natAbs : Nat) : Int)
def nq (x y : Int) (k : Nat) : Int := ((10 * (x.natAbs * 10 ^ k % y.natAbs) / y.natAbs : Nat) : Int)
def sz (x y : Int) (k : Nat) : Int := ((x.natAbs * 10 ^ k / y.natAbs : Nat) : Int)
theorem rr_add (x y : Int) (k m : Nat) : rr x y (k + m) = ((x.natAbs * 10 ^ k % y.natAbs * 10 ^ m % y.natAbs : Nat) : Int) := by
  unfold rr
  rw [Nat.pow_add, ← Nat.mul_assoc, Nat.mod_mul_mod]
theorem rr_zero {x y : Int} {k : Nat} (hco : Nat.Coprime x.natAbs y.natAbs) : rr x y k = 0 ↔ y.natAbs ∣ 10 ^ k := by
  unfold rr
  constructor
  · intro h
    have h1 : x.natAbs * 10 ^ k % y.natAbs = 0 := by omega
    exact (Nat.Coprime.symm hco).dvd_of_dvd_mul_left (Nat.dvd_of_mod_eq_zero h1)
  · intro h
    have h1 := Nat.mod_eq_zero_of_dvd (Nat.dvd_trans h (Nat.dvd_mul_left (10 ^ k) x.natAbs))
    omega
structure QL (x y rest : Int) (nu rs : List Int) : Prop where
  hn : ∃ n, Least y.natAbs n ∧ rs.length ≤ n ∧ n ≤ 200
  e1 : nu = (List.range rs.length).map (nq x y)
  e2 : rs = (List.range rs.length).map (rr x y)
  e3 : rest = rr x y rs.length
theorem ql_start {x y : Int} {n : Nat} (hl : Least y.natAbs n) (h : n ≤ 200) : QL x y ((x.natAbs : Int).fmod (y.natAbs : Int)) [] [] where
  hn := ⟨n, hl, Nat.zero_le _, h⟩
  e1 := rfl
  e2 := rfl
  e3 := by
    rw [Int.fmod_eq_emod_of_nonneg _ (by omega)]
    unfold rr; simp
theorem ql_more {x y rest : Int} {nu rs : List Int} (hco : Nat.Coprime x.natAbs y.natAbs) (q : QL x y rest nu rs) (hr : rest ≠ 0) : ∃ n, Least y.natAbs n ∧ rs.length < n ∧ n ≤ 200 := by
  obtain ⟨n, hl, h1, h2⟩ := q.hn
  refine ⟨n, hl, ?_, h2⟩
  rcases Nat.lt_or_ge rs.length n with h | h
  · exact h
  · exfalso
    have e : rs.length = n := by omega
    refine hr ?_
    rw [q.e3, rr_zero hco, e]
    exact hl.1
theorem ql_turn {x y rest : Int} {nu rs : List Int} (hco : Nat.Coprime x.natAbs y.natAbs) (q : QL x y rest nu rs) (hr : rest ≠ 0) :
    QL x y ((10 * rest).fmod (y.natAbs : Int)) (nu ++ [(10 * rest).fdiv (y.natAbs : Int)]) (rs ++ [rest]) where
  hn := by
    obtain ⟨n, hl, h1, h2⟩ := ql_more hco q hr
    refine ⟨n, hl, ?_, h2⟩
    rw [List.length_append, List.length_singleton]; exact h1
  e1 := by
    rw [List.length_append, List.length_singleton, List.range_succ, List.map_append, ← q.e1]
    congr 1
    rw [q.e3, Int.fdiv_eq_ediv_of_nonneg _ (by omega)]
    rfl
  e2 := by
    rw [List.length_append, List.length_singleton, List.range_succ, List.map_append, ← q.e2]
    congr 1
    rw [q.e3]; rfl
  e3 := by
    rw [List.length_append, List.length_singleton, q.e3, rr_add, Int.fmod_eq_emod_of_nonneg _ (by omega), Nat.pow_one, Nat.mul_comm _ 10]
    rfl
theorem ql_fresh {x y rest : Int} {nu rs : List Int} (hco : Nat.Coprime x.natAbs y.natAbs) (q : QL x y rest nu rs) (hr : rest ≠ 0) : rest ∉ rs := fun hm => by
  obtain ⟨n, hl, h1, _⟩ := ql_more hco q hr
  rw [q.e2] at hm
  obtain ⟨j, hj, e⟩ := List.mem_map.mp hm
  rw [List.mem_range] at hj
  rw [q.e3] at e
  have e' : x.natAbs * 10 ^ j % y.natAbs = x.natAbs * 10 ^ rs.length % y.natAbs := by unfold rr at e; omega
  have z : rr x y (rs.length + (n - rs.length)) = 0 := by
    rw [show rs.length + (n - rs.length) = n by omega, rr_zero hco]; exact hl.1
  rw [rr_add, ← e', ← rr_add, rr_zero hco] at z
  exact hl.2 _ (by omega) z
theorem ql_len {x y rest : Int} {nu rs : List Int} (hco : Nat.Coprime x.natAbs y.natAbs) (q : QL x y rest nu rs) (hr : rest ≠ 0) : rs.length ≤ 199 := by
  obtain ⟨n, _, h1, h2⟩ := ql_more hco q hr
  omega
theorem ql_exit {x y rest : Int} {nu rs : List Int} (hco : Nat.Coprime x.natAbs y.natAbs) (q : QL x y rest nu rs) (hr : rest = 0) : Least y.natAbs nu.length ∧ nu = (List.range nu.length).map (nq x y) := by
  have e : nu.length = rs.length := by rw [q.e1]; simp
  rw [e]
  refine ⟨?_, q.e1⟩
  obtain ⟨n, hl, h1, _⟩ := q.hn
  rw [q.e3, rr_zero hco] at hr
  have : rs.length = n := by
    rcases Nat.lt_or_ge rs.length n with h | h
    · exact absurd hr (hl.2 _ h)
    · omega
  rw [this]; exact hl
theorem sz_zero (x y : Int) : (x.natAbs : Int).fdiv (y.natAbs : Int) = sz x y 0 := by
  rw [Int.fdiv_eq_ediv_of_nonneg _ (by omega)]
  unfold sz; simp
theorem sz_succ {x y : Int} (k : Nat) (hy : y ≠ 0) : 10 * sz x y k + nq x y k = sz x y (k + 1) := by
  unfold sz nq
  have hb : 0 < y.natAbs := by omega
  generalize y.natAbs = b at *
  rw [Nat.pow_succ, ← Nat.mul_assoc]
  generalize x.natAbs * 10 ^ k = X
  have h1 : X * 10 = 10 * (X % b) + b * (10 * (X / b)) := by
    have := Nat.div_add_mod X b
    rw [Nat.mul_left_comm]
    omega
  have h2 : X * 10 / b = 10 * (X % b) / b + 10 * (X / b) := by
    rw [h1, Nat.add_mul_div_left _ _ hb]
  rw [h2]; omega
theorem sz_done {x y : Int} {n : Nat} (hd : y.natAbs ∣ 10 ^ n) : (if (decide (x < 0) == decide (y < 0)) = true then sz x y n else -(sz x y n)) * y = x * 10 ^ n := by
  have h1 : x.natAbs * 10 ^ n / y.natAbs * y.natAbs = x.natAbs * 10 ^ n := Nat.div_mul_cancel (Nat.dvd_trans hd (Nat.dvd_mul_left _ _))
  have h2 : sz x y n * (y.natAbs : Int) = (x.natAbs : Int) * 10 ^ n := by
    unfold sz
    rw [← Int.natCast_mul, h1]
    simp
  by_cases hx : x < 0 <;> by_cases hy' : y < 0
  · rw [show (x.natAbs : Int) = -x by omega, show (y.natAbs : Int) = -y by omega, Int.mul_neg, Int.neg_mul] at h2
    rw [decide_eq_true hx, decide_eq_true hy', if_pos (by decide)]
    omega
  · rw [show (x.natAbs : Int) = -x by omega, show (y.natAbs : Int) = y by omega, Int.neg_mul] at h2
    rw [decide_eq_true hx, decide_eq_false hy', if_neg (by decide), Int.neg_mul]
    omega
  · rw [show (x.natAbs : Int) = x by omega, show (y.natAbs : Int) = -y by omega, Int.mul_neg] at h2
    rw [decide_eq_false hx, decide_eq_true hy', if_neg (by decide), Int.neg_mul]
    omega
  · rw [show (x.natAbs : Int) = x by omega, show (y.natAbs : Int) = y by omega] at h2
    rw [decide_eq_false hx, decide_eq_false hy', if_pos (by decide)]
    omega
theorem ql_lens {x y rest : Int} {nu rs : List Int} (q : QL x y rest nu rs) : nu.length = rs.length := by rw [q.e1]; simp
theorem ql_any {x y rest : Int} {nu rs : List Int} (hco : Nat.Coprime x.natAbs y.natAbs) (q : QL x y rest nu rs) (hr : rest ≠ 0) (h : (rs.any fun z => z == rest) = true) : False := by
  obtain ⟨z, hz, e⟩ := List.any_eq_true.mp h
  rw [beq_iff_eq] at e
  subst e
  exact ql_fresh hco q hr hz
theorem ql_less {r : Int} {rs : List Int} (h : rs.length ≤ 200) : 201 - (rs ++ [r]).length < 201 - rs.length := by
  rw [List.length_append, List.length_singleton]; omega
theorem ql_start' {x y : Int} {n : Nat} (hl : Least y.natAbs n) (h : n ≤ 200) (h1 : 0 < (y.natAbs : Int)) (sy : Sm 400 (y.natAbs : Int)) (hf : ∀ z : Int, Sm 400 (z.fmod (y.natAbs : Int))) :
    QL x y ((x.natAbs : Int).fmod (y.natAbs : Int)) [] [] ∧ Sm 400 ((x.natAbs : Int).fmod (y.natAbs : Int)) ∧ ([] : List Int).length ≤ 200 ∧ ([] : List Int).length ≤ 200 :=
  ⟨ql_start hl h, hf _, Nat.zero_le _, Nat.zero_le _⟩
theorem ql_turn' {x y rest : Int} {nu rs : List Int} (hco : Nat.Coprime x.natAbs y.natAbs) (q : QL x y rest nu rs) (hr : rest ≠ 0) (hf : ∀ z : Int, Sm 400 (z.fmod (y.natAbs : Int))) :
    QL x y ((10 * rest).fmod (y.natAbs : Int)) (nu ++ [(10 * rest).fdiv (y.natAbs : Int)]) (rs ++ [rest]) ∧ Sm 400 ((10 * rest).fmod (y.natAbs : Int)) ∧ (nu ++ [(10 * rest).fdiv (y.natAbs : Int)]).length ≤ 200 ∧ (rs ++ [rest]).length ≤ 200 := by
  have h := ql_len hco q hr
  have e := ql_lens q
  refine ⟨ql_turn hco q hr, hf _, ?_, ?_⟩
  · rw [List.length_append, List.length_singleton]; omega
  · rw [List.length_append, List.length_singleton]; omega
theorem sz_sm {x y : Int} {k : Nat} (sx : Sm 400 x) (hk : k ≤ 200) : Sm 1400 (sz x y k) := by
  refine Sm.of_abs (x := x * 10 ^ k) ?_ ?_
  · have h := Sm.mul sx (Sm.pow10 (k := 200) (e := (k : Int)) (by omega))
    rw [Int.toNat_natCast] at h
    exact Sm.mono h (by decide)
  · unfold sz
    rw [Int.natAbs_mul, Int.natAbs_pow, Int.natAbs_natCast]
    exact Nat.div_le_self _ _
theorem sz_turn {x y rest kN size : Int} {nu rs kPre kPost : List Int} (hy : y ≠ 0) (sx : Sm 400 x) (q : QL x y rest nu rs) (hk : nu = kPre ++ kN :: kPost) (hl : nu.length ≤ 200) (hs : size = sz x y kPre.length) :
    10 * size + kN = sz x y (kPre ++ [kN]).length ∧ Sm 1400 (10 * size + kN) := by
  have hlen : nu.length = kPre.length + (kPost.length + 1) := by rw [hk]; simp
  have e1 : nu = (List.range nu.length).map (nq x y) := by rw [ql_lens q]; exact q.e1
  have hn : kN = nq x y kPre.length := by
    have h1 : nu[kPre.length]? = some kN := by rw [hk]; simp
    rw [e1] at h1
    rw [List.getElem?_map, List.getElem?_range (by omega)] at h1
    simpa using h1.symm
  have e : 10 * size + kN = sz x y (kPre ++ [kN]).length := by
    rw [hs, hn, List.length_append, List.length_singleton, sz_succ _ hy]
  refine ⟨e, ?_⟩
  rw [e]
  refine sz_sm sx ?_
  rw [List.length_append, List.length_singleton]; omega
theorem quot_pos {x y rest size : Int} {nu rs : List Int} {n : Nat} (hco : Nat.Coprime x.natAbs y.natAbs) (hl : Least y.natAbs n) (q : QL x y rest nu rs) (hr : rest = 0) (hs : size = sz x y nu.length) (hc : (decide (x < 0) == decide (y < 0)) = true) :
    n = nu.length ∧ size * y = x * 10 ^ nu.length := by
  obtain ⟨h1, _⟩ := ql_exit hco q hr
  have h := sz_done (x := x) h1.1
  rw [if_pos hc, ← hs] at h
  exact ⟨hl.unique h1, h⟩
theorem quot_neg {x y rest size : Int} {nu rs : List Int} {n : Nat} (hco : Nat.Coprime x.natAbs y.natAbs) (hl : Least y.natAbs n) (q : QL x y rest nu rs) (hr : rest = 0) (hs : size = sz x y nu.length) (hc : (decide (x < 0) == decide (y < 0)) = false) :
    n = nu.length ∧ -size * y = x * 10 ^ nu.length := by
  obtain ⟨h1, _⟩ := ql_exit hco q hr
  have h := sz_done (x := x) h1.1
  rw [hc, if_neg (by decide), ← hs] at h
  exact ⟨hl.unique h1, h⟩

section
local macro_rules | `(tactic| walk_at "memA") => `(tactic| first | exact List.Mem.head _ | exact List.Mem.tail _ (List.Mem.head _) | fail "memA2")
local macro_rules | `(tactic| walk_at "exec While Compare cons nil") => `(tactic| (k_dflt first | k_while_given ["top", "below"] (fun top below _ rest numerals rests => QL top below rest numerals rests ∧ Sm 400 rest ∧ numerals.length ≤ 200 ∧ rests.length ≤ 200) (fun _ _ _ _ _ rests => 201 - rests.length) "rest" "numerals" "rests" | fail "no loop of _law_quotient"))
local macro_rules | `(tactic| kst_facts1) => `(tactic| first | exact True.intro | exact IntsAre.nil | with_reducible assumption | exact IntsAre.append (by with_reducible assumption) (IntsAre.cons _ _ IntsAre.nil) | ((refine And.intro ?_ ?_) <;> kst_facts1) | fail "facts")
theorem t_quot (w : World) (news : List (Addr × Obj)) (x y : Int) (t u : Tok) (n : Nat) (hy : y ≠ 0) (hco : Nat.Coprime x.natAbs y.natAbs) (hl : Least y.natAbs n) (hn : n ≤ 200) (sx : Sm 400 x) (sy : Sm 400 y) : Tell w 229 news [.int x t, .int y u] 30 150
    (RetV news fun news' r => ∃ S : Int, S * y = x * 10 ^ n ∧ IsT2 news' r S n) := by
  unfold Tell RetV
  w_top off
  k_with_none
  k_fill
  intro mean mg mb dp un gd cn cs a ccd cl outer A₀ base h₀ L m s Q E B F X N T hk hd hu hret
  have hy' : (y.natAbs : Int) ≠ 0 := by omega
  have sy' : Sm 400 (y.natAbs : Int) := Sm.abs sy
  have hy1 : 0 < (y.natAbs : Int) := by omega
  have hf : ∀ z : Int, Sm 400 (z.fmod (y.natAbs : Int)) := fun z => Sm.fmod hy1 sy'
  k_with "state" => first | exact ql_start' (by assumption) (by assumption) (by assumption) (by assumption) (by assumption) | exact ql_turn' (by assumption) (by assumption) (by assumption) (by assumption) | exact ⟨sz_zero _ _, Sm.mono (Sm.fdiv (Sm.abs sx)) (by decide)⟩ | exact sz_turn (by assumption) (by assumption) (by assumption) (by assumption) (by assumption) (by assumption) | fail "state"
  k_with "pyIter ref" => k_state_given ["top", "below"] (fun top below pre size => size = sz top below pre.length ∧ Sm 1400 size) "size"
  k_with "measure" => first | exact ql_less (by assumption) | fail "measure"
  refine wpAny_call ?_
  k_dflt cell_enter
  k_steps
  all_goals (rename Fr h₀ L _ m => FZ; rename News h₀ L _ _ => NZ)
  all_goals first
    | (exfalso; exact ql_any hco (by assumption) (by assumption) (by assumption))
    | (obtain ⟨en, e⟩ := quot_pos hco hl (by assumption) (by assumption) (by assumption) (by assumption)
       subst en
       exact hret _ _ _ _ ⟨_, e, .mk _ _ _ _ _ (.head _)⟩ FZ NZ fun p hp => .tail _ (.tail _ (.tail _ hp)))
    | (obtain ⟨en, e⟩ := quot_neg hco hl (by assumption) (by assumption) (by assumption) (by assumption)
       subst en
       exact hret _ _ _ _ ⟨_, e, .mk _ _ _ _ _ (.head _)⟩ FZ NZ fun p hp => .tail _ (.tail _ (.tail _ hp)))
    | fail "end"
end

theorem p10 (k : Nat) : (0 : Int) < 10 ^ k := Int.pow_pos (by decide)
theorem p10n (k : Nat) : (10 : Int) ^ k ≠ 0 := Int.pow_ne_zero (by decide)
theorem IsNorm.ne {x p T P : Int} (h : IsNorm x p T P) (hT : T ≠ 0) : x ≠ 0 := by
  rw [h.eq]; exact Int.mul_ne_zero hT (p10n _)
theorem IsNorm.z {x p T P : Int} (h : IsNorm x p T P) (hT : T = 0) : x = 0 := by
  rw [h.eq, hT, Int.zero_mul]
theorem IsNorm.neg {x p T P : Int} (h : IsNorm x p T P) (hT : T < 0) : x < 0 := by
  rw [h.eq]; exact Int.mul_neg_of_neg_of_pos hT (p10 _)
theorem IsNorm.nn {x p T P : Int} (h : IsNorm x p T P) (hT : 0 ≤ T) : 0 ≤ x := by
  rw [h.eq]; exact Int.mul_nonneg hT (Int.le_of_lt (p10 _))
theorem IsNorm.nn' {x p T P : Int} (h : IsNorm x p T P) (hx : 0 ≤ x) : 0 ≤ T := by
  rcases Int.lt_or_le T 0 with hT | hT
  · have := h.neg hT; omega
  · exact hT
theorem IsNorm.abs_le {x p T P : Int} (h : IsNorm x p T P) : T.natAbs ≤ x.natAbs := by
  rw [h.eq, Int.natAbs_mul]
  refine Nat.le_mul_of_pos_right _ ?_
  rw [Int.natAbs_pow]
  exact Nat.pow_pos (by decide)
theorem IsNorm.sm {n : Nat} {x p T P : Int} (h : IsNorm x p T P) (s : Sm n x) : Sm n T := s.of_abs h.abs_le
theorem IsNorm.self {x : Int} : IsNorm x 0 x 0 := ⟨by omega, by omega, by simp, fun h => absurd h (by omega)⟩
theorem pow_cancel {A B : Int} {i j : Nat} (h : A * 10 ^ (i + j) = B * 10 ^ j) : A * 10 ^ i = B := by
  rw [Int.pow_add, ← Int.mul_assoc] at h
  exact Int.eq_of_mul_eq_mul_right (p10n j) h
theorem mul10_mod {A B : Int} {i : Nat} (h : A * 10 ^ (i + 1) = B) : B % 10 = 0 := by
  rw [← h, Int.pow_succ, ← Int.mul_assoc]; exact Int.mul_emod_left _ _
theorem norm_unique2 {p T P T' P' : Int} (h0 : 0 ≤ P) (h1 : P ≤ p) (h0' : 0 ≤ P') (h1' : P' ≤ p) (r : 0 < P → T % 10 ≠ 0) (r' : 0 < P' → T' % 10 ≠ 0)
    (h : T * 10 ^ (p - P).toNat = T' * 10 ^ (p - P').toNat) : T = T' ∧ P = P' := by
  rcases Int.lt_trichotomy P P' with hl | he | hg
  · exfalso
    have e : (p - P).toNat = (((P' - P).toNat - 1) + 1) + (p - P').toNat := by omega
    rw [e] at h
    exact r' (by omega) (mul10_mod (pow_cancel h))
  · subst he
    exact ⟨Int.eq_of_mul_eq_mul_right (p10n _) h, rfl⟩
  · exfalso
    have e : (p - P').toNat = (((P - P').toNat - 1) + 1) + (p - P).toNat := by omega
    rw [e] at h
    exact r (by omega) (mul10_mod (pow_cancel h.symm))
theorem IsNorm.unique {x p T P T' P' : Int} (h : IsNorm x p T P) (g : IsNorm x p T' P') : T = T' ∧ P = P' :=
  norm_unique2 h.lo h.hi g.lo g.hi h.red g.red (by rw [← h.eq, ← g.eq])
theorem IsNorm.again {x p T P T' P' : Int} (h : IsNorm x p T P) (g : IsNorm T P T' P') : T' = T ∧ P' = P := by
  have k : IsNorm T P T P := ⟨h.lo, by omega, by simp, h.red⟩
  exact g.unique k
/-- the two quotients are one -/
theorem cross {top p1 T1 P1 below p2 T2 P2 a b c : Int} (n1 : IsNorm top p1 T1 P1) (n2 : IsNorm below p2 T2 P2) (sc : Scaled T1 P1 T2 P2 a b c) :
    a * (below * 10 ^ p1.toNat) = b * (top * 10 ^ p2.toNat) := by
  have l1 := n1.lo; have h1 := n1.hi; have l2 := n2.lo; have h2 := n2.hi; have c1 := sc.c1; have c2 := sc.c2
  rw [n1.eq, n2.eq, sc.ea, sc.eb]
  have e1 : T1 * 10 ^ (c - P1).toNat * (T2 * 10 ^ (p2 - P2).toNat * 10 ^ p1.toNat) = T1 * T2 * 10 ^ ((c - P1).toNat + (p2 - P2).toNat + p1.toNat) := by
    rw [Int.pow_add, Int.pow_add]
    simp only [Int.mul_assoc, Int.mul_left_comm, Int.mul_comm]
  have e2 : T2 * 10 ^ (c - P2).toNat * (T1 * 10 ^ (p1 - P1).toNat * 10 ^ p2.toNat) = T1 * T2 * 10 ^ ((c - P2).toNat + (p1 - P1).toNat + p2.toNat) := by
    rw [Int.pow_add, Int.pow_add]
    simp only [Int.mul_assoc, Int.mul_left_comm, Int.mul_comm]
  rw [e1, e2, show (c - P1).toNat + (p2 - P2).toNat + p1.toNat = (c - P2).toNat + (p1 - P1).toNat + p2.toNat by omega]
theorem red_dvd {A B X Y : Nat} (hB : 0 < B) (hY : 0 < Y) (h : A * Y = B * X) : B / Nat.gcd A B ∣ Y / Nat.gcd X Y := by
  have g1 : 0 < Nat.gcd A B := Nat.gcd_pos_of_pos_right _ hB
  have g2 : 0 < Nat.gcd X Y := Nat.gcd_pos_of_pos_right _ hY
  have co : Nat.Coprime (B / Nat.gcd A B) (A / Nat.gcd A B) := (Nat.coprime_div_gcd_div_gcd g1).symm
  refine co.dvd_of_dvd_mul_left ?_
  refine ⟨X / Nat.gcd X Y, ?_⟩
  have a1 := Nat.div_mul_cancel (Nat.gcd_dvd_left A B)
  have a2 := Nat.div_mul_cancel (Nat.gcd_dvd_right A B)
  have a3 := Nat.div_mul_cancel (Nat.gcd_dvd_left X Y)
  have a4 := Nat.div_mul_cancel (Nat.gcd_dvd_right X Y)
  generalize A / Nat.gcd A B = A' at *
  generalize B / Nat.gcd A B = B' at *
  generalize X / Nat.gcd X Y = X' at *
  generalize Y / Nat.gcd X Y = Y' at *
  generalize Nat.gcd A B = g at *
  generalize Nat.gcd X Y = k at *
  have e : g * k * (A' * Y') = g * k * (B' * X') := by
    have e1 : A * Y = g * k * (A' * Y') := by rw [← a1, ← a4]; simp only [Nat.mul_assoc, Nat.mul_left_comm, Nat.mul_comm]
    have e2 : B * X = g * k * (B' * X') := by rw [← a2, ← a3]; simp only [Nat.mul_assoc, Nat.mul_left_comm, Nat.mul_comm]
    rw [← e1, ← e2, h]
  exact Nat.eq_of_mul_eq_mul_left (Nat.mul_pos g1 g2) e
theorem red_ratio {a b x y : Int} (hb : b ≠ 0) (hy : y ≠ 0) (h : a * y = b * x) : red a b = red x y := by
  have h' : a.natAbs * y.natAbs = b.natAbs * x.natAbs := by rw [← Int.natAbs_mul, h, Int.natAbs_mul]
  have hB : 0 < b.natAbs := by omega
  have hY : 0 < y.natAbs := by omega
  refine Nat.dvd_antisymm (red_dvd hB hY h') (red_dvd hY hB ?_)
  rw [Nat.mul_comm x.natAbs, Nat.mul_comm y.natAbs, h']

theorem sgn_mul_abs (x : Int) : sgn x * x = (x.natAbs : Int) := by
  unfold sgn
  split
  · rename_i h; subst h; simp
  · split <;> omega
/-- the rounded quotient lies within half a divisor; a half goes away from 0 -/
theorem rq_near {x b : Int} (hb : b ≠ 0) : (2 * (rq x b * b - x)).natAbs ≤ b.natAbs ∧ ((2 * (rq x b * b - x)).natAbs < b.natAbs ∨ x.natAbs < (rq x b * b).natAbs) := by
  have hB : 0 < (b.natAbs : Int) := by omega
  have e : rq x b * b = (2 * (x.natAbs : Int) + (b.natAbs : Int)).fdiv (2 * (b.natAbs : Int)) * (b.natAbs : Int) * sgn x := by
    unfold rq
    rw [Int.mul_assoc _ (sgn b) b, sgn_mul_abs, Int.mul_assoc, Int.mul_comm (sgn x), ← Int.mul_assoc]
  rw [e, Int.fdiv_eq_ediv_of_nonneg _ (by omega)]
  have d1 := Int.mul_ediv_add_emod (2 * (x.natAbs : Int) + (b.natAbs : Int)) (2 * (b.natAbs : Int))
  have d2 := Int.emod_nonneg (2 * (x.natAbs : Int) + (b.natAbs : Int)) (show (2 * (b.natAbs : Int)) ≠ 0 by omega)
  have d3 := Int.emod_lt_of_pos (2 * (x.natAbs : Int) + (b.natAbs : Int)) (show 0 < (2 * (b.natAbs : Int)) by omega)
  have d4 : (0 : Int) ≤ (2 * (x.natAbs : Int) + (b.natAbs : Int)) / (2 * (b.natAbs : Int)) := Int.ediv_nonneg (by omega) (by omega)
  generalize (2 * (x.natAbs : Int) + (b.natAbs : Int)) / (2 * (b.natAbs : Int)) = q at *
  generalize (2 * (x.natAbs : Int) + (b.natAbs : Int)) % (2 * (b.natAbs : Int)) = r at *
  have d5 : 2 * (b.natAbs : Int) * q = 2 * (q * (b.natAbs : Int)) := by rw [Int.mul_assoc, Int.mul_comm (b.natAbs : Int)]
  rw [d5] at d1
  have d6 : 0 ≤ q * (b.natAbs : Int) := Int.mul_nonneg d4 (by omega)
  generalize q * (b.natAbs : Int) = z at *
  unfold sgn
  split
  · rename_i h; subst h
    simp at *
    omega
  · split
    · rw [Int.mul_one]; omega
    · rw [Int.mul_neg, Int.mul_one]; omega
theorem rq_sm {n : Nat} {x b : Int} (hb : b ≠ 0) (sx : Sm n x) : Sm (n + 1) (rq x b) := by
  have h : (rq x b).natAbs ≤ x.natAbs + 1 := by
    have hB : 0 < (b.natAbs : Int) := by omega
    have d4 : (0 : Int) ≤ (2 * (x.natAbs : Int) + (b.natAbs : Int)) / (2 * (b.natAbs : Int)) := Int.ediv_nonneg (by omega) (by omega)
    have d5 : (2 * (x.natAbs : Int) + (b.natAbs : Int)) / (2 * (b.natAbs : Int)) ≤ (x.natAbs : Int) + 1 := by
      have h1 : 2 * (x.natAbs : Int) + (b.natAbs : Int) ≤ ((x.natAbs : Int) + 1) * (2 * (b.natAbs : Int)) := by
        rw [Int.add_mul, Int.one_mul]
        have : (x.natAbs : Int) * 2 ≤ (x.natAbs : Int) * (2 * (b.natAbs : Int)) := Int.mul_le_mul_of_nonneg_left (by omega) (by omega)
        omega
      exact Int.ediv_le_of_le_mul (by omega) h1
    unfold rq
    rw [Int.fdiv_eq_ediv_of_nonneg _ (by omega), Int.natAbs_mul, Int.natAbs_mul]
    have s1 : (sgn x).natAbs ≤ 1 := by unfold sgn; split <;> (try split) <;> simp
    have s2 : (sgn b).natAbs ≤ 1 := by unfold sgn; split <;> (try split) <;> simp
    refine Nat.le_trans (Nat.mul_le_mul (Nat.mul_le_mul (Nat.le_refl _) s1) s2) ?_
    omega
  unfold Sm at *
  rw [Nat.pow_succ]
  have := Nat.pow_pos (n := n) (show 0 < 2 by decide)
  omega
theorem gap_eq {r b xx y X : Int} (hX : xx * y = b * X) : (2 * (r * b - xx)).natAbs * y.natAbs = (2 * (r * y - X)).natAbs * b.natAbs := by
  rw [← Int.natAbs_mul, ← Int.natAbs_mul]
  congr 1
  rw [Int.mul_assoc 2, Int.mul_assoc 2, Int.sub_mul, Int.sub_mul, hX, Int.mul_comm b X, Int.mul_right_comm r b y]
theorem near_move {r b xx y X : Int} (hb : b ≠ 0) (hy : y ≠ 0) (hX : xx * y = b * X) (k1 : (2 * (r * b - xx)).natAbs ≤ b.natAbs) (k2 : (2 * (r * b - xx)).natAbs < b.natAbs ∨ xx.natAbs < (r * b).natAbs) :
    (2 * (r * y - X)).natAbs ≤ y.natAbs ∧ ((2 * (r * y - X)).natAbs < y.natAbs ∨ X.natAbs < (r * y).natAbs) := by
  have g := gap_eq (r := r) hX
  have hB : 0 < b.natAbs := by omega
  have hY : 0 < y.natAbs := by omega
  refine ⟨?_, ?_⟩
  · have : (2 * (r * y - X)).natAbs * b.natAbs ≤ y.natAbs * b.natAbs := by
      rw [← g, Nat.mul_comm y.natAbs]; exact Nat.mul_le_mul_right _ k1
    exact Nat.le_of_mul_le_mul_right this hB
  · rcases k2 with k2 | k2
    · left
      have : (2 * (r * y - X)).natAbs * b.natAbs < y.natAbs * b.natAbs := by
        rw [← g, Nat.mul_comm y.natAbs]; exact Nat.mul_lt_mul_of_pos_right k2 hY
      exact Nat.lt_of_mul_lt_mul_right this
    · right
      have h1 : xx.natAbs * y.natAbs = X.natAbs * b.natAbs := by rw [← Int.natAbs_mul, hX, Int.mul_comm, Int.natAbs_mul]
      have h2 : (r * b).natAbs * y.natAbs = (r * y).natAbs * b.natAbs := by rw [← Int.natAbs_mul, ← Int.natAbs_mul, Int.mul_right_comm]
      have : X.natAbs * b.natAbs < (r * y).natAbs * b.natAbs := by
        rw [← h1, ← h2]; exact Nat.mul_lt_mul_of_pos_right k2 hY
      exact Nat.lt_of_mul_lt_mul_right this
/-- what _law_is_nearest asks -/
structure NearF (T3 P3 x y places : Int) : Prop where
  s3 : Sm 900 T3
  hP : 0 ≤ P3
  hP2 : P3 ≤ places
  g1 : (2 * (T3 * 10 ^ (places - P3).toNat * y - x * 10 ^ places.toNat)).natAbs ≤ y.natAbs
  g2 : (2 * (T3 * 10 ^ (places - P3).toNat * y - x * 10 ^ places.toNat)).natAbs < y.natAbs ∨ (x * 10 ^ places.toNat).natAbs < (T3 * 10 ^ (places - P3).toNat * y).natAbs
theorem near_facts {x y a b pl T3 P3 : Int} (hb : b ≠ 0) (hy : y ≠ 0) (h : a * y = b * x) (no : IsNorm (rq (a * 10 ^ pl.toNat) b) pl T3 P3) (sa : Sm 601 a) (hpl : pl ≤ 20) : NearF T3 P3 x y pl := by
  obtain ⟨k1, k2⟩ := rq_near (x := a * 10 ^ pl.toNat) hb
  have hX : a * 10 ^ pl.toNat * y = b * (x * 10 ^ pl.toNat) := by
    rw [Int.mul_right_comm, h, Int.mul_assoc]
  have s3 : Sm 900 T3 := Sm.mono (no.sm (rq_sm hb (Sm.mul sa (Sm.pow10 (k := 20) hpl)))) (by decide)
  obtain ⟨m1, m2⟩ := near_move hb hy hX k1 k2
  rw [no.eq] at m1 m2
  exact ⟨s3, no.lo, no.hi, m1, m2⟩

def StripOf (a b : Int) : Prop := ∃ i j : Nat, a = 2 ^ i * 5 ^ j * b
theorem strip_start {r : Int} (h0 : 0 < r) (s : Sm 400 r) : 0 < r ∧ StripOf r r ∧ Sm 400 r := ⟨h0, ⟨0, 0, by simp⟩, s⟩
theorem strip_half {r k : Int} (hk : 2 ≤ k) (h0 : 0 < r) (hm : r.fmod k = 0) : r = k * r.fdiv k ∧ 0 < r.fdiv k ∧ r.fdiv k < r := by
  rw [Int.fmod_eq_emod_of_nonneg _ (by omega)] at hm
  rw [Int.fdiv_eq_ediv_of_nonneg _ (by omega)]
  have e : r = k * (r / k) := (Int.mul_ediv_cancel' (Int.dvd_of_emod_eq_zero hm)).symm
  have hp : 0 < r / k := by
    rcases Int.lt_or_le 0 (r / k) with h | h
    · exact h
    · exfalso
      have : k * (r / k) ≤ 0 := Int.mul_nonpos_of_nonneg_of_nonpos (by omega) h
      omega
  refine ⟨e, hp, ?_⟩
  have : 2 * (r / k) ≤ k * (r / k) := Int.mul_le_mul_of_nonneg_right hk (by omega)
  omega
theorem strip_turn2 {a r : Int} (h0 : 0 < r) (h : StripOf a r) (s : Sm 400 r) (hm : r.fmod 2 = 0) : 0 < r.fdiv 2 ∧ StripOf a (r.fdiv 2) ∧ Sm 400 (r.fdiv 2) := by
  obtain ⟨e, hp, hl⟩ := strip_half (by decide) h0 hm
  obtain ⟨i, j, hi⟩ := h
  refine ⟨hp, ⟨i + 1, j, ?_⟩, Sm.of_abs s (by omega)⟩
  rw [hi, Int.pow_succ]
  generalize (r.fdiv 2) = z at *
  rw [e]
  simp only [Int.mul_assoc, Int.mul_left_comm, Int.mul_comm]
theorem strip_turn5 {a r : Int} (h0 : 0 < r) (h : StripOf a r) (s : Sm 400 r) (hm : r.fmod 5 = 0) : 0 < r.fdiv 5 ∧ StripOf a (r.fdiv 5) ∧ Sm 400 (r.fdiv 5) := by
  obtain ⟨e, hp, hl⟩ := strip_half (by decide) h0 hm
  obtain ⟨i, j, hi⟩ := h
  refine ⟨hp, ⟨i, j + 1, ?_⟩, Sm.of_abs s (by omega)⟩
  rw [hi, Int.pow_succ]
  generalize (r.fdiv 5) = z at *
  rw [e]
  simp only [Int.mul_assoc, Int.mul_left_comm, Int.mul_comm]
theorem strip_less {r k : Int} (hk : 2 ≤ k) (h0 : 0 < r) (hm : r.fmod k = 0) : (r.fdiv k).toNat < r.toNat := by
  obtain ⟨_, hp, hl⟩ := strip_half hk h0 hm
  omega
theorem mod_of_dvd {r k : Int} (hk : 0 ≤ k) (h : k ∣ r) : r.fmod k = 0 := by
  rw [Int.fmod_eq_emod_of_nonneg _ hk]; exact Int.emod_eq_zero_of_dvd h
/-- what is left behind the two loops is 1 where the whole divides a power of ten -/
theorem strip_one {R : Nat} {r1 r2 : Int} {k : Nat} (h1 : StripOf (R : Int) r1) (m1 : r1.fmod 2 ≠ 0) (h2 : StripOf r1 r2) (m2 : r2.fmod 5 ≠ 0) (h0 : 0 < r2) (hR : R ∣ 10 ^ k) : r2 = 1 := by
  obtain ⟨i, j, e1⟩ := h1
  obtain ⟨i', j', e2⟩ := h2
  have d1 : r2 ∣ r1 := ⟨2 ^ i' * 5 ^ j', by rw [e2, Int.mul_comm]⟩
  have d2 : r2 ∣ (R : Int) := Int.dvd_trans d1 ⟨2 ^ i * 5 ^ j, by rw [e1, Int.mul_comm]⟩
  have d3 : r2.natAbs ∣ 10 ^ k := Nat.dvd_trans (Int.natCast_dvd_natCast.mp (Int.dvd_trans (Int.natAbs_dvd.mpr (Int.dvd_refl _)) d2)) hR
  obtain ⟨u, v, e3, _, _⟩ := two_five _ _ d3
  have hu : u = 0 := by
    rcases Nat.eq_zero_or_pos u with h | h
    · exact h
    · exfalso
      refine m1 (mod_of_dvd (by decide) (Int.dvd_trans ?_ d1))
      have : (2 : Nat) ∣ r2.natAbs := by
        rw [e3]; exact Nat.dvd_trans (Nat.dvd_of_pow_dvd (show 1 ≤ u from h) (Nat.dvd_refl _)) (Nat.dvd_mul_right _ _)
      exact Int.ofNat_dvd_left.mpr this
  have hv : v = 0 := by
    rcases Nat.eq_zero_or_pos v with h | h
    · exact h
    · exfalso
      refine m2 (mod_of_dvd (by decide) ?_)
      have : (5 : Nat) ∣ r2.natAbs := by
        rw [e3]; exact Nat.dvd_trans (Nat.dvd_of_pow_dvd (show 1 ≤ v from h) (Nat.dvd_refl _)) (Nat.dvd_mul_left _ _)
      exact Int.ofNat_dvd_left.mpr this
  rw [hu, hv] at e3
  simp at e3
  omega
theorem strip_ten {R : Nat} {r1 r2 : Int} (h1 : StripOf (R : Int) r1) (h2 : StripOf r1 r2) (h : r2 = 1) : ∃ k, R ∣ 10 ^ k := by
  obtain ⟨i, j, e1⟩ := h1
  obtain ⟨i', j', e2⟩ := h2
  refine ⟨i + i' + (j + j'), ?_⟩
  have e : R = 2 ^ (i + i') * 5 ^ (j + j') := by
    have : (R : Int) = ((2 ^ (i + i') * 5 ^ (j + j') : Nat) : Int) := by
      rw [e1, e2, h, Int.mul_one]
      simp only [Int.natCast_mul, Int.natCast_pow, Nat.pow_add]
      simp only [Int.mul_assoc, Int.mul_left_comm, Int.mul_comm]
      rfl
    exact Int.ofNat.inj this
  rw [e]
  exact div_ten (by omega) (by omega)
/-- both sides lessened by their greatest common divisor -/
theorem less_facts {x y : Int} (hy : y ≠ 0) : y.fdiv (gcdI x y) ≠ 0 ∧ Nat.Coprime (x.fdiv (gcdI x y)).natAbs (y.fdiv (gcdI x y)).natAbs ∧ (y.fdiv (gcdI x y)).natAbs = red x y ∧ gcdI x y * x.fdiv (gcdI x y) = x ∧ gcdI x y * y.fdiv (gcdI x y) = y := by
  have g0 := gcdI_ne (a := x) hy
  have gn := gcdI_nn x y
  rw [Int.fdiv_eq_ediv_of_nonneg _ gn, Int.fdiv_eq_ediv_of_nonneg _ gn]
  have ex := Int.mul_ediv_cancel' (gcdI_dvd_l x y)
  have ey := Int.mul_ediv_cancel' (gcdI_dvd_r x y)
  have eg : (gcdI x y).natAbs = Nat.gcd x.natAbs y.natAbs := by unfold gcdI; simp
  have gp : 0 < Nat.gcd x.natAbs y.natAbs := by omega
  have ax : (x / gcdI x y).natAbs = x.natAbs / Nat.gcd x.natAbs y.natAbs := by
    have := congrArg Int.natAbs ex
    rw [Int.natAbs_mul, eg] at this
    exact (Nat.div_eq_of_eq_mul_right gp this.symm).symm
  have ay : (y / gcdI x y).natAbs = y.natAbs / Nat.gcd x.natAbs y.natAbs := by
    have := congrArg Int.natAbs ey
    rw [Int.natAbs_mul, eg] at this
    exact (Nat.div_eq_of_eq_mul_right gp this.symm).symm
  refine ⟨?_, ?_, ay, ex, ey⟩
  · intro h
    rw [h, Int.mul_zero] at ey
    exact hy ey.symm
  · rw [ax, ay]
    exact Nat.coprime_div_gcd_div_gcd gp
theorem less_back {x y S : Int} {n : Nat} (hy : y ≠ 0) (h : S * y.fdiv (gcdI x y) = x.fdiv (gcdI x y) * 10 ^ n) : S * y = x * 10 ^ n := by
  obtain ⟨_, _, _, ex, ey⟩ := less_facts (x := x) hy
  have : gcdI x y * (S * y.fdiv (gcdI x y)) = gcdI x y * (x.fdiv (gcdI x y) * 10 ^ n) := by rw [h]
  rw [Int.mul_left_comm, ey, ← Int.mul_assoc, ex] at this
  exact this
theorem exact_same {a b x y S : Int} {n : Nat} (hb : b ≠ 0) (hy : y ≠ 0) (h : a * y = b * x) (hS : S * y = x * 10 ^ n) : (a * 10 ^ n).fdiv b = S := by
  have e : a * 10 ^ n = b * S := by
    refine Int.eq_of_mul_eq_mul_right hy ?_
    rw [Int.mul_right_comm, h, Int.mul_assoc, ← hS, Int.mul_assoc]
  rw [e]
  exact Int.mul_fdiv_cancel_left S hb
theorem prod_same {top p1 T1 P1 below p2 T2 P2 S T4 P4 T6 P6 : Int} {n : Nat} (n1 : IsNorm top p1 T1 P1) (n2 : IsNorm below p2 T2 P2)
    (hS : S * (below * 10 ^ p1.toNat) = top * 10 ^ p2.toNat * 10 ^ n) (n4 : IsNorm S n T4 P4) (n6 : IsNorm (T4 * T2) (P4 + P2) T6 P6) : T6 = T1 ∧ P6 = P1 := by
  have a1 := n1.lo; have a2 := n1.hi; have a3 := n2.lo; have a4 := n2.hi; have a5 := n4.lo; have a6 := n4.hi; have a7 := n6.lo; have a8 := n6.hi
  refine norm_unique2 (p := (n : Int) + p2 + p1) a7 (by omega) a1 (by omega) n6.red n1.red ?_
  have L : T6 * 10 ^ ((n : Int) + p2 + p1 - P6).toNat = T4 * T2 * (10 ^ ((n : Int) - P4).toNat * 10 ^ (p2 - P2).toNat * 10 ^ p1.toNat) := by
    rw [show ((n : Int) + p2 + p1 - P6).toNat = (P4 + P2 - P6).toNat + (((n : Int) - P4).toNat + (p2 - P2).toNat + p1.toNat) by omega, Int.pow_add, ← Int.mul_assoc, ← n6.eq, Int.pow_add, Int.pow_add]
  have R : T1 * 10 ^ ((n : Int) + p2 + p1 - P1).toNat = top * (10 ^ p2.toNat * 10 ^ n) := by
    rw [show ((n : Int) + p2 + p1 - P1).toNat = (p1 - P1).toNat + (p2.toNat + n) by omega, Int.pow_add, ← Int.mul_assoc, ← n1.eq, Int.pow_add]
  rw [L, R, ← Int.mul_assoc top, ← hS]
  have e4 := n4.eq
  have e2 := n2.eq
  generalize (10 : Int) ^ ((n : Int) - P4).toNat = z1 at *
  generalize (10 : Int) ^ (p2 - P2).toNat = z2 at *
  rw [e4, e2]
  simp only [Int.mul_assoc, Int.mul_left_comm, Int.mul_comm]
theorem root_facts {top p1 T1 P1 pl low T7 P7 : Int} (n1 : IsNorm top p1 T1 P1) (r : Root2 ((T1 * 10 ^ (2 * pl).toNat).fdiv (10 ^ P1.toNat)) low (low + 1)) (h0 : 0 ≤ low) (n7 : IsNorm low pl T7 P7) :
    0 ≤ T7 ∧ P7 ≤ pl ∧ 0 ≤ P7 ∧ T7 * 10 ^ (pl - P7).toNat * (T7 * 10 ^ (pl - P7).toNat) * 10 ^ p1.toNat ≤ top * 10 ^ (2 * pl).toNat ∧
      top * 10 ^ (2 * pl).toNat < (T7 * 10 ^ (pl - P7).toNat + 1) * (T7 * 10 ^ (pl - P7).toNat + 1) * 10 ^ p1.toNat := by
  have a1 := n1.lo; have a2 := n1.hi
  rw [← n7.eq]
  obtain ⟨r1, r2⟩ := r
  rw [Int.fdiv_eq_ediv_of_nonneg _ (Int.le_of_lt (p10 _))] at r1 r2
  have k1 := (Int.le_ediv_iff_mul_le (p10 P1.toNat)).mp r1
  have k2 := (Int.ediv_lt_iff_lt_mul (p10 P1.toNat)).mp r2
  have e1 : (10 : Int) ^ p1.toNat = 10 ^ P1.toNat * 10 ^ (p1 - P1).toNat := by rw [← Int.pow_add, show P1.toNat + (p1 - P1).toNat = p1.toNat by omega]
  have e2 : top * 10 ^ (2 * pl).toNat = T1 * 10 ^ (2 * pl).toNat * 10 ^ (p1 - P1).toNat := by rw [n1.eq, Int.mul_right_comm]
  rw [e1, e2, ← Int.mul_assoc, ← Int.mul_assoc]
  refine ⟨n7.nn' h0, n7.hi, n7.lo, ?_, ?_⟩
  · exact Int.mul_le_mul_of_nonneg_right k1 (Int.le_of_lt (p10 _))
  · exact Int.mul_lt_mul_of_pos_right k2 (p10 _)
theorem least_small {x y : Int} {n : Nat} (hy : y ≠ 0) (sy : Sm 170 y) (h : Least (red x y) n) : n ≤ 200 := by
  have h1 := h.two
  have h2 := red_le (a := x) (b := y)
  unfold Sm at sy
  rcases Nat.lt_or_ge 200 n with h3 | h3
  · exfalso
    have h4 : (2 : Nat) ^ 170 ≤ 2 ^ n := Nat.pow_le_pow_right (by decide) (by omega)
    omega
  · exact h3

theorem tellT_use {w : World} {f : Addr} {news : List (Addr × Obj)} {vs : List Value} {dmax umax : Nat}
    {Ret : Heap → Addr → (Str → Option Value) → Shared → (Value → Shared → Prop) → Prop} {mean : ExcName → Option Value} {mg mb : Str → Option Value} {dp un : Nat} {gd : Option (List Code)} {cn : Str} {cs : Scope} {a : Addr} {ccd : Value} {A₀ : Around} {base h₀ : Heap} {L : Addr} {m : Str → Option Value} {s : Shared} {Q E : Value → Shared → Prop}
    (C : TellT w f news vs dmax umax Ret) (B : Below A₀ base [] h₀) (F : Fr h₀ L s.heap m) (X : (Mine.hd.heap_39 w.params).In h₀) (XB : (Mine.hd.heap_39 w.params).In base) (N : News h₀ L s.heap news) (T : Top Mine.hd.view_39 (looseW Mine.hd.view_39 [Str.ofString "PaperError"]) mean mg mb h₀) (TB : Top Mine.hd.view_39 (looseW Mine.hd.view_39 [Str.ofString "PaperError"]) mean mg mb base) (hk : cs.kind = .function)
    (hd : dp + dmax < recursionLimit) (hu : un + umax < cLine) (r : Ret h₀ L m s Q) :
    wpAny (model PySem.Challenge.rw_nn0116_01.row.prog w) (ktrTop dp un gd cn cs L a ccd [] []) (call (.ref f) vs) Q E s := C _ _ _ _ _ _ _ _ _ _ _ _ _ _ _ _ _ _ B F X XB N T TB hk hd hu r
theorem t_lover_any (w : World) (news : List (Addr × Obj)) (v1 v2 : Value) (T1 P1 T2 P2 places : Int) (tw tp : Tok) (h1 : IsNum w news v1 T1 P1) (h2 : IsNum w news v2 T2 P2)
    (s1 : Sm 200 T1) (s2 : Sm 200 T2) (p1 : 0 ≤ P1) (p1' : P1 ≤ 100) (p2 : 0 ≤ P2) (p2' : P2 ≤ 100) (q1 : 0 ≤ places) (q2 : places ≤ 20) : TellT w 236 news [.int 0 tw, v1, v2, .int places tp] 60 300
    (fun h₀ L m s Q => (T2 = 0 → ∀ (t : Tok) (h' : Heap) (tk' : Nat), Fr h₀ L h' m → News h₀ L h' news → Q (.str (Str.ofString "refused") t) { s with heap := h', toks := tk' }) ∧
      (T2 ≠ 0 → RetV news (fun news' r => ∃ a b c T P, Scaled T1 P1 T2 P2 a b c ∧ IsNorm (rq (a * 10 ^ places.toNat) b) places T P ∧ IsT2 news' r T P) h₀ L m s Q)) := by
  by_cases hT : T2 = 0
  · intro mean mg mb dp un gd cn cs a ccd A₀ base h₀ L m s Q E B F X XB N T TB hk hd hu hret
    exact t_lover0 w news v1 v2 0 T1 P1 T2 P2 places tw tp h1 h2 s1 s2 p1 p1' p2 p2' hT mean mg mb dp un gd cn cs a ccd A₀ base h₀ L m s Q E B F X XB N T TB hk hd hu (hret.1 hT)
  · intro mean mg mb dp un gd cn cs a ccd A₀ base h₀ L m s Q E B F X XB N T TB hk hd hu hret
    exact t_lover w news v1 v2 T1 P1 T2 P2 places tw tp h1 h2 s1 s2 p1 p1' p2 p2' q1 q2 hT mean mg mb dp un gd cn cs a ccd A₀ base h₀ L m s Q E B F X XB N T TB hk hd hu (hret.2 hT)
theorem t_lroot_any (w : World) (news : List (Addr × Obj)) (v1 : Value) (T1 P1 places : Int) (tp : Tok) (h1 : IsNum w news v1 T1 P1)
    (s1 : Sm 200 T1) (p1 : 0 ≤ P1) (p1' : P1 ≤ 100) (q1 : 0 ≤ places) (q2 : places ≤ 20) : TellT w 243 news [v1, .int places tp] 60 300
    (fun h₀ L m s Q => (T1 < 0 → ∀ (h' : Heap) (tk' : Nat), Fr h₀ L h' m → News h₀ L h' news → Q .none { s with heap := h', toks := tk' }) ∧
      (0 ≤ T1 → RetV news (fun news' r => ∃ low T P, 0 ≤ low ∧ Root2 ((T1 * 10 ^ (2 * places).toNat).fdiv (10 ^ P1.toNat)) low (low + 1) ∧ IsNorm low places T P ∧ IsDec w news' r T P) h₀ L m s Q)) := by
  by_cases hT : T1 < 0
  · intro mean mg mb dp un gd cn cs a ccd A₀ base h₀ L m s Q E B F X XB N T TB hk hd hu hret
    exact t_lroot0 w news v1 T1 P1 places tp h1 s1 p1 p1' hT mean mg mb dp un gd cn cs a ccd A₀ base h₀ L m s Q E B F X XB N T TB hk hd hu (hret.1 hT)
  · intro mean mg mb dp un gd cn cs a ccd A₀ base h₀ L m s Q E B F X XB N T TB hk hd hu hret
    exact t_lroot w news v1 T1 P1 places tp h1 s1 p1 p1' q1 q2 (by omega) mean mg mb dp un gd cn cs a ccd A₀ base h₀ L m s Q E B F X XB N T TB hk hd hu (hret.2 (by omega))
theorem t_near' (w : World) (news : List (Addr × Obj)) (v : Value) (T3 P3 x y places : Int) (tx ty tp : Tok) (hv : IsT2 news v T3 P3) (nf : NearF T3 P3 x y places) (sx : Sm 400 x) (sy : Sm 400 y) (q1 : 0 ≤ places) (q2 : places ≤ 20) :
    Tell w 250 news [v, .int x tx, .int y ty, .int places tp] 30 150
    (fun h₀ L m s Q => ∀ (h' : Heap) (tk' : Nat), Fr h₀ L h' m → News h₀ L h' news → Q (.bool true) { s with heap := h', toks := tk' }) :=
  t_near w news v T3 P3 x y places tx ty tp hv nf.s3 sx sy nf.hP nf.hP2 q1 q2 nf.g1 nf.g2
theorem t_quot' (w : World) (news : List (Addr × Obj)) (x y : Int) (t u : Tok) (n : Nat) (hy : y ≠ 0) (hl : Least (red x y) n) (sx : Sm 390 x) (sy : Sm 170 y) : Tell w 229 news [.int (x.fdiv (gcdI x y)) t, .int (y.fdiv (gcdI x y)) u] 30 150
    (RetV news fun news' r => ∃ S : Int, S * y = x * 10 ^ n ∧ IsT2 news' r S n) := by
  obtain ⟨hy', hco, e, _, _⟩ := less_facts (x := x) hy
  intro mean mg mb dp un gd cn cs a ccd cl outer A₀ base h₀ L m s Q E B F X N T hk hd hu hret
  exact t_quot w news _ _ t u n hy' hco (by rw [e]; exact hl) (least_small hy sy hl) (Sm.mono (Sm.fdiv sx) (by decide)) (Sm.mono (Sm.fdiv sy) (by decide)) mean mg mb dp un gd cn cs a ccd cl outer A₀ base h₀ L m s Q E B F X N T hk hd hu
    fun v news' h' tk' ⟨S, h1, h2⟩ => hret v news' h' tk' ⟨S, less_back hy h1, h2⟩
/-- a number was built by one of the two roads -/
def OneJ (w : World) (h₀ : Heap) (L : Addr) (m : Str → Option Value) (s : Shared) (p c : Addr) (rest : List (Addr × Obj)) (x px spot : Int) (v : Value) (s' : Shared) : Prop :=
  ∃ (T P spot' carry' : Int) (t1 t2 : Tok) (n : Nat) (news' : List (Addr × Obj)) (h' : Heap) (tk' : Nat), s' = { s with heap := h', toks := tk' } ∧ IsNum w news' v T P ∧ IsNorm x px T P ∧ 0 ≤ spot' ∧ spot' ≤ spot + 1 ∧ 0 ≤ carry' ∧ Fr h₀ L h' m ∧
    News h₀ L h' ((p, penO c spot' carry' t1 t2 n) :: news') ∧ (∀ q ∈ rest, q ∈ news') ∧ (∀ q ∈ news', q.1 ≠ p)
theorem norm_box {x p T P : Int} (h : IsNorm x p T P) (hp : p ≤ 19) (s : Sm 80 x) : 0 ≤ P ∧ P ≤ 100 ∧ Sm 200 T := ⟨h.lo, by have := h.hi; omega, Sm.mono (h.sm s) (by decide)⟩
theorem join_num {M : Model} {A : Around} {E : Value → Shared → Prop} {s : Shared} {Q : Value → Shared → Prop} {w : World} {h₀ : Heap} {L p c : Addr} {m : Str → Option Value} {rest : List (Addr × Obj)} {spot carry x px : Int} {t1 t2 tx tp : Tok} {n : Nat}
    {nx np : Str} {op : BoolOp} {ops : List CmpOp} {cs more : List Expr} {els : Expr} {pos1 pos2 pos3 pos4 pos5 : Pos} {env : Env}
    (_X : (Mine.hd.heap_39 w.params).In h₀) (_N : News h₀ L s.heap ((p, penO c spot carry t1 t2 n) :: rest)) (_F : Fr h₀ L s.heap m) (_hx : m nx = some (.int x tx)) (_hp : m np = some (.int px tp)) (hpx : px ≤ 19) (sx : Sm 80 x)
    (k : ∀ (v : Value) (T P spot' carry' : Int) (t1 t2 : Tok) (n : Nat) (news' : List (Addr × Obj)) (h' : Heap) (tk' : Nat), IsNum w news' v T P → IsNorm x px T P → 0 ≤ P → P ≤ 100 → Sm 200 T → 0 ≤ spot' → spot' ≤ spot + 1 → 0 ≤ carry' → Fr h₀ L h' m →
      News h₀ L h' ((p, penO c spot' carry' t1 t2 n) :: news') → (∀ q ∈ rest, q ∈ news') → (∀ q ∈ news', q.1 ≠ p) → Q v { s with heap := h', toks := tk' })
    (h : wpAny M A (eval (.IfExp (.BoolOp op (.Compare (.Name np pos1) ops cs pos2 :: more) pos3) (.Name nx pos4) els pos5) env) (OneJ w h₀ L m s p c rest x px spot) E s) :
    wpAny M A (eval (.IfExp (.BoolOp op (.Compare (.Name np pos1) ops cs pos2 :: more) pos3) (.Name nx pos4) els pos5) env) Q E s :=
  wpAny_mono h (fun v s' hq => by
    obtain ⟨T, P, spot', carry', t1, t2, n, news', h', tk', rfl, a1, a2, a3, a4, a5, a6, a7, a8, a9⟩ := hq
    obtain ⟨b1, b2, b3⟩ := norm_box a2 hpx sx
    exact k v T P spot' carry' t1 t2 n news' h' tk' a1 a2 b1 b2 b3 a3 a4 a5 a6 a7 a8 a9) fun _ _ e => e
theorem t_gcd' (w : World) (news : List (Addr × Obj)) (x y : Int) (t u : Tok) (hy : y ≠ 0) (sx : Sm 390 x) (sy : Sm 170 y) : Tell w 189 news [.int x t, .int y u] 10 50
    (fun h₀ L m s Q => ∀ (t : Tok) (h' : Heap) (tk' : Nat), (y ≠ 0 ∧ gcdI x y ≠ 0 ∧ Sm 400 (gcdI x y) ∧ Sm 170 y ∧ Sm 390 x ∧ 0 < (red x y : Int) ∧ Sm 400 (red x y : Int)) → Fr h₀ L h' m → News h₀ L h' news → Q (.int (gcdI x y) t) { s with heap := h', toks := tk' }) := by
  intro mean mg mb dp un gd cn cs a ccd cl outer A₀ base h₀ L m s Q E B F X N T hk hd hu hret
  exact t_gcd w news x y t u (Sm.mono sx (by decide)) (Sm.mono sy (by decide)) mean mg mb dp un gd cn cs a ccd cl outer A₀ base h₀ L m s Q E B F X N T hk hd hu
    fun t h' tk' F' N' => hret t h' tk' ⟨hy, gcdI_ne hy, Sm.mono (gcdI_sm hy sy) (by decide), sy, sx, red_int_pos hy, Sm.mono (red_sm sy) (by decide)⟩ F' N'
section
variable {top p1 T1 P1 below p2 T2 P2 a b c : Int}
theorem ratio_xy (n1 : IsNorm top p1 T1 P1) (n2 : IsNorm below p2 T2 P2) (sc : Scaled T1 P1 T2 P2 a b c) (hT : T2 ≠ 0) : red a b = red (top * 10 ^ p2.toNat) (below * 10 ^ p1.toNat) :=
  red_ratio (sc.ne hT) (Int.mul_ne_zero (n2.ne hT) (p10n _)) (cross n1 n2 sc)
theorem least_xy {n : Nat} (le : Least (red a b) n) (sc : Scaled T1 P1 T2 P2 a b c) (n1 : IsNorm top p1 T1 P1) (n2 : IsNorm below p2 T2 P2) (hT : T2 ≠ 0) : Least (red (top * 10 ^ p2.toNat) (below * 10 ^ p1.toNat)) n := by
  rw [← ratio_xy n1 n2 sc hT]; exact le
theorem near_xy {pl T3 P3 : Int} (no : IsNorm (rq (a * 10 ^ pl.toNat) b) pl T3 P3) (sc : Scaled T1 P1 T2 P2 a b c) (n1 : IsNorm top p1 T1 P1) (n2 : IsNorm below p2 T2 P2) (hT : T2 ≠ 0) (hpl : pl ≤ 20) : NearF T3 P3 (top * 10 ^ p2.toNat) (below * 10 ^ p1.toNat) pl :=
  near_facts (sc.ne hT) (Int.mul_ne_zero (n2.ne hT) (p10n _)) (cross n1 n2 sc) no sc.sa hpl
theorem no_quot {r1 r2 : Int} (nd : ∀ k, ¬ red a b ∣ 10 ^ k) (sc : Scaled T1 P1 T2 P2 a b c) (n1 : IsNorm top p1 T1 P1) (n2 : IsNorm below p2 T2 P2) (hT : T2 ≠ 0) (s1 : StripOf (red (top * 10 ^ p2.toNat) (below * 10 ^ p1.toNat) : Int) r1) (s2 : StripOf r1 r2) (h : r2 = 1) : False := by
  obtain ⟨k, hk⟩ := strip_ten s1 s2 h
  rw [← ratio_xy n1 n2 sc hT] at hk
  exact nd k hk
theorem yes_quot {r1 r2 : Int} {n : Nat} (le : Least (red a b) n) (sc : Scaled T1 P1 T2 P2 a b c) (n1 : IsNorm top p1 T1 P1) (n2 : IsNorm below p2 T2 P2) (hT : T2 ≠ 0) (s1 : StripOf (red (top * 10 ^ p2.toNat) (below * 10 ^ p1.toNat) : Int) r1) (m1 : r1.fmod 2 ≠ 0) (s2 : StripOf r1 r2) (m2 : r2.fmod 5 ≠ 0) (h0 : 0 < r2) (h : r2 ≠ 1) : False :=
  h (strip_one s1 m1 s2 m2 h0 (least_xy le sc n1 n2 hT).1)
/-- the exact quotient is what long division gave -/
theorem norm_xy {S T4 P4 : Int} {n : Nat} (no : IsNorm ((a * 10 ^ n).fdiv b) n T4 P4) (sc : Scaled T1 P1 T2 P2 a b c) (n1 : IsNorm top p1 T1 P1) (n2 : IsNorm below p2 T2 P2) (hT : T2 ≠ 0) (hS : S * (below * 10 ^ p1.toNat) = top * 10 ^ p2.toNat * 10 ^ n) : IsNorm S n T4 P4 := by
  rw [exact_same (sc.ne hT) (Int.mul_ne_zero (n2.ne hT) (p10n _)) (cross n1 n2 sc) hS] at no
  exact no
end

section
variable {prog : Program} {w : World} {A : Around} {E : Value → Shared → Prop} {s : Shared} {h₀ : Heap} {L q r : Addr} {news : List (Addr × Obj)} {T P T' P' : Int} {k1 k2 k3 k4 : Tok} {Q : Value → Shared → Prop}
theorem reads_tup2 {h : Heap} (N : News h₀ L h news) (hm : (q, tup2 T P k1 k2) ∈ news) : Reads h (.ref q) (.tuple [.int T, .int P]) [] :=
  Reads.tuple (as := []) (N _ hm).1 rfl rfl (ReadsAll.cons (as := []) (bs := []) (Reads.int _ _) (ReadsAll.cons (as := []) (bs := []) (Reads.int _ _) ReadsAll.nil))
theorem shaped_tup2 (T P : Int) : PySem.SeqAt.shaped (.tuple [.int T, .int P]) = true := rfl
theorem eq_tup_str {x : Str} {t : Tok} (N : News h₀ L s.heap news) (hm : (q, tup2 T P k1 k2) ∈ news) (hu : A.units + 64 < cLine) (hs : PySem.SeqAt.shaped (.str x) = true) (h : Q (.bool false) s) :
    wpAny (model prog w) A (compareOp .Eq (.ref q) (.str x t)) Q E s :=
  eq_dataH_same (reads_tup2 N hm) (Reads.str _ _) (shaped_tup2 _ _) hs hu rfl h
theorem ne_tup_str {x : Str} {t : Tok} (N : News h₀ L s.heap news) (hm : (q, tup2 T P k1 k2) ∈ news) (hu : A.units + 64 < cLine) (hs : PySem.SeqAt.shaped (.str x) = true) (h : Q (.bool true) s) :
    wpAny (model prog w) A (compareOp .NotEq (.ref q) (.str x t)) Q E s :=
  ne_dataH_same (reads_tup2 N hm) (Reads.str _ _) (shaped_tup2 _ _) hs hu rfl h
theorem ne_tup_same (N : News h₀ L s.heap news) (hm : (q, tup2 T P k1 k2) ∈ news) (hm' : (r, tup2 T' P' k3 k4) ∈ news) (hu : A.units + 64 < cLine) (e : T = T' ∧ P = P') (h : Q (.bool false) s) :
    wpAny (model prog w) A (compareOp .NotEq (.ref q) (.ref r)) Q E s := by
  obtain ⟨rfl, rfl⟩ := e
  refine ne_dataH_same (reads_tup2 N hm) (reads_tup2 N hm') (shaped_tup2 _ _) (shaped_tup2 _ _) hu ?_ ?_
  · simp [PySem.SeqAt.noMix, PySem.SeqAt.noMixAll]
  · simp only [PySem.Spec.same, PySem.Spec.sameAll, beq_self_eq_true, Bool.and_self, Bool.not_true]; exact h
end
theorem shaped_refused : PySem.SeqAt.shaped (.str (Str.ofString "refused")) = true := by decide +kernel
theorem root_sm {T1 P1 pl low T7 P7 : Int} (s1 : Sm 200 T1) (hT : 0 ≤ T1) (q2 : pl ≤ 20) (r : Root2 ((T1 * 10 ^ (2 * pl).toNat).fdiv (10 ^ P1.toNat)) low (low + 1)) (h0 : 0 ≤ low) (n7 : IsNorm low pl T7 P7) : Sm 400 T7 := by
  obtain ⟨_, sW⟩ := whole_facts (P1 := P1) s1 hT q2
  refine Sm.mono (n7.sm (Sm.of_abs sW ?_)) (by decide)
  have hl := r.lo
  rcases Int.lt_or_le low 1 with h | h
  · omega
  · have := root1_le h hl; omega
theorem prod_xy {top p1 T1 P1 below p2 T2 P2 S T4 P4 T6 P6 : Int} {n : Nat} (hS : S * (below * 10 ^ p1.toNat) = top * 10 ^ p2.toNat * 10 ^ n) (n6 : IsNorm (T4 * T2) (P4 + P2) T6 P6) (n4 : IsNorm S n T4 P4)
    (n1 : IsNorm top p1 T1 P1) (n2 : IsNorm below p2 T2 P2) : T6 = T1 ∧ P6 = P1 := prod_same n1 n2 hS n4 n6
theorem norm_int {x p : Int} (h : p = 0) : IsNorm x p x 0 := by subst h; exact IsNorm.self
/-- the two primes -/
theorem ints25 {h₀ h : Heap} {L l : Addr} {t1 t2 : Tok} {n : Nat} {rest : List (Addr × Obj)} (_N : News h₀ L h ((l, listOf #[.int 2 t1, .int 5 t2] n) :: rest)) : IntsAre [.int 2 t1, .int 5 t2] [2, 5] := .cons _ _ (.cons _ _ .nil)
theorem mem25 {k : Int} (h : k ∈ [(2 : Int), 5]) : k = 2 ∨ k = 5 := by simpa using h
theorem ne25 {k : Int} (h : k ∈ [(2 : Int), 5]) : k ≠ 0 := by rcases mem25 h with rfl | rfl <;> decide
theorem sm25 {k : Int} (h : k ∈ [(2 : Int), 5]) : Sm 4 k := by rcases mem25 h with rfl | rfl <;> exact Sm.lit (by decide)
theorem strip_turnk {a r k : Int} (hk : k ∈ [(2 : Int), 5]) (h0 : 0 < r) (h : StripOf a r) (s : Sm 400 r) (hm : r.fmod k = 0) : 0 < r.fdiv k ∧ StripOf a (r.fdiv k) ∧ Sm 400 (r.fdiv k) := by
  rcases mem25 hk with rfl | rfl
  · exact strip_turn2 h0 h s hm
  · exact strip_turn5 h0 h s hm
theorem strip_lessk {r k : Int} (hk : k ∈ [(2 : Int), 5]) (h0 : 0 < r) (hm : r.fmod k = 0) : (r.fdiv k).toNat < r.toNat :=
  strip_less (by rcases mem25 hk with rfl | rfl <;> decide) h0 hm
theorem StripOf.trans {a b c : Int} (h : StripOf a b) (g : StripOf b c) : StripOf a c := by
  obtain ⟨i, j, e⟩ := h
  obtain ⟨i', j', e'⟩ := g
  refine ⟨i + i', j + j', ?_⟩
  rw [e, e', Int.pow_add, Int.pow_add]
  simp only [Int.mul_assoc, Int.mul_left_comm, Int.mul_comm]
theorem strip_keep {a b p : Int} (hp : 0 ≤ p) (h : StripOf a b) (hm : a.fmod p ≠ 0) : b.fmod p ≠ 0 := fun hb => by
  obtain ⟨i, j, e⟩ := h
  rw [Int.fmod_eq_emod_of_nonneg _ hp] at hb
  refine hm (mod_of_dvd hp ?_)
  rw [e]
  exact Int.dvd_trans (Int.dvd_of_emod_eq_zero hb) ⟨2 ^ i * 5 ^ j, by rw [Int.mul_comm]⟩
theorem for_start {r : Int} (h0 : 0 < r) (s : Sm 400 r) : 0 < r ∧ StripOf r r ∧ Sm 400 r ∧ ∀ p ∈ ([] : List Int), r.fmod p ≠ 0 :=
  ⟨h0, ⟨0, 0, by simp⟩, s, fun p hp => absurd hp List.not_mem_nil⟩
theorem for_turn {r0 r1 r2 k : Int} {pre post : List Int} (he : [2, 5] = pre ++ k :: post) (s01 : StripOf r0 r1) (hp : ∀ p ∈ pre, r1.fmod p ≠ 0) (h0 : 0 < r2) (s12 : StripOf r1 r2) (s : Sm 400 r2) (hm : r2.fmod k ≠ 0) :
    0 < r2 ∧ StripOf r0 r2 ∧ Sm 400 r2 ∧ ∀ p ∈ pre ++ [k], r2.fmod p ≠ 0 := by
  refine ⟨h0, s01.trans s12, s, fun p hpm => ?_⟩
  have hpos : 0 ≤ p := by
    have : p ∈ [(2 : Int), 5] := by
      rw [he]
      rcases List.mem_append.mp hpm with h | h
      · exact List.mem_append_left _ h
      · rw [List.mem_singleton.mp h]; exact List.mem_append_right _ (.head _)
    rcases mem25 this with rfl | rfl <;> decide
  rcases List.mem_append.mp hpm with h | h
  · exact strip_keep hpos s12 (hp p h)
  · rw [List.mem_singleton.mp h]; exact hm
section
variable {top p1 T1 P1 below p2 T2 P2 a b c : Int}
theorem no_quot' {r : Int} (nd : ∀ k, ¬ red a b ∣ 10 ^ k) (sc : Scaled T1 P1 T2 P2 a b c) (n1 : IsNorm top p1 T1 P1) (n2 : IsNorm below p2 T2 P2) (hT : T2 ≠ 0) (s1 : StripOf (red (top * 10 ^ p2.toNat) (below * 10 ^ p1.toNat) : Int) r) (h : r = 1) : False :=
  no_quot nd sc n1 n2 hT s1 ⟨0, 0, by simp⟩ h
theorem yes_quot' {r : Int} {n : Nat} (le : Least (red a b) n) (sc : Scaled T1 P1 T2 P2 a b c) (n1 : IsNorm top p1 T1 P1) (n2 : IsNorm below p2 T2 P2) (hT : T2 ≠ 0) (s1 : StripOf (red (top * 10 ^ p2.toNat) (below * 10 ^ p1.toNat) : Int) r) (hp : ∀ p ∈ [(2 : Int), 5], r.fmod p ≠ 0) (h0 : 0 < r) (h : r ≠ 1) : False :=
  yes_quot le sc n1 n2 hT s1 (hp 2 (by simp)) ⟨0, 0, by simp⟩ (hp 5 (by simp)) h0 h
end
theorem sub_id {α : Type} {a : List α} : ∀ p : α, p ∈ a → p ∈ a := fun _ h => h
theorem sub_more {α : Type} {x : α} {a b : List α} : ∀ p : α, p ∈ x :: a → p ∈ x :: (a ++ b) := fun p hp => by
  rcases List.mem_cons.mp hp with rfl | h
  · exact .head _
  · exact .tail _ (List.mem_append_left _ h)
theorem sub_own {α : Type} {x : α} {a b : List α} : ∀ p : α, p ∈ b → p ∈ x :: (a ++ b) := fun _ hp => .tail _ (List.mem_append_right _ hp)
theorem mem_tail {α : Type} {x y : α} {l : List α} (h : x ∈ l) : x ∈ y :: l := .tail _ h
theorem exact_sm {T1 P1 T2 P2 a b c T4 P4 : Int} {n : Nat} (sc : Scaled T1 P1 T2 P2 a b c) (le : Least (red a b) n) (no : IsNorm ((a * 10 ^ n).fdiv b) n T4 P4) : Sm 4000 T4 := by
  have h1 := le.two
  have h2 := red_le (a := a) (b := b)
  have h3 := sc.sb
  unfold Sm at h3
  have hn : n ≤ 601 := by
    rcases Nat.lt_or_ge 601 n with h | h
    · exfalso
      have h4 : (2 : Nat) ^ 601 ≤ 2 ^ n := Nat.pow_le_pow_right (by decide) (by omega)
      omega
    · exact h
  have h5 := Sm.mul sc.sa (Sm.pow10 (k := 601) (e := (n : Int)) (by omega))
  rw [Int.toNat_natCast] at h5
  exact Sm.mono (no.sm (Sm.fdiv h5)) (by decide)

local macro_rules | `(tactic| k_in) => `(tactic| first | with_reducible assumption | exact Frag.In.keeps (by with_reducible assumption) (Fr.keep (by with_reducible assumption)) | fail "k_in")
theorem t_told (w : World) (news : List (Addr × Obj)) (o d : Addr) (T P : Int) (k1 k2 k3 k4 : Tok) (ho : (o, instObj 143 d) ∈ news) (hd : (d, decD w T P k1 k2 k3 k4) ∈ news) : Tell w 126 news [.ref o] 4 20
    (fun h₀ L m s Q => ∀ (q : Addr) (h' : Heap) (tk' : Nat), Fr h₀ L h' m → News h₀ L h' ((q, tup2 T P k2 k4) :: news) → (∀ p ∈ news, p.1 < q) → Q (.ref q) { s with heap := h', toks := tk' }) := by
  unfold Tell
  w_top off
  k_with_none
  k_fill
  intro mean mg mb dp un gd cn cs a ccd cl outer A₀ base h₀ L m s Q E B F X N T' hk hd' hu hret
  refine wpAny_call ?_
  k_dflt cell_enter
  k_steps
  all_goals (rename Fr h₀ L _ m => FZ; rename News h₀ L _ _ => NZ)
  all_goals first
    | exact hret _ _ _ FZ NZ (by assumption)
    | fail "end"
theorem t_times (w : World) (news : List (Addr × Obj)) (o d : Addr) (T1 P1 : Int) (k1 k2 k3 k4 : Tok) (v2 : Value) (T2 P2 : Int) (ho : (o, instObj 143 d) ∈ news) (hd : (d, decD w T1 P1 k1 k2 k3 k4) ∈ news) (h2 : IsNum w news v2 T2 P2)
    (s1 : Sm 4000 T1) (s2 : Sm 4000 T2) (p1 : 0 ≤ P1) (p2 : 0 ≤ P2) : Tell w 84 news [.ref o, v2] 30 150
    (RetV news fun news' r => ∃ T P, IsNorm (T1 * T2) (P1 + P2) T P ∧ IsDec w news' r T P) := by
  unfold Tell RetV
  w_top off
  k_with_none
  k_fill
  intro mean mg mb dp un gd cn cs a ccd cl outer A₀ base h₀ L m s Q E B F X N T' hk hd' hu hret
  have pp := Int.add_nonneg p1 p2
  refine wpAny_call ?_
  k_dflt cell_enter
  k_steps
  all_goals (rename Fr h₀ L _ m => FZ; rename News h₀ L _ _ => NZ)
  all_goals first
    | exact hret _ _ _ _ ⟨_, _, by assumption, .dec _ _ _ _ _ _ _ _ (.head _) (.tail _ (.head _))⟩ FZ NZ fun p hp => .tail _ (.tail _ (by k_mem))
    | fail "end"
theorem oneJ_int {w : World} {h₀ h : Heap} {L p c : Addr} {m : Str → Option Value} {s : Shared} {rest : List (Addr × Obj)} {x px spot spot' carry' : Int} {t1 t2 tx : Tok} {n tk : Nat} (N : News h₀ L h ((p, penO c spot' carry' t1 t2 n) :: rest)) (F : Fr h₀ L h m)
    (hx : px = 0) (h0 : 0 ≤ spot') (h1 : spot' ≤ spot + 1) (h2 : 0 ≤ carry') (ap : ∀ q ∈ rest, q.1 ≠ p) : OneJ w h₀ L m s p c rest x px spot (.int x tx) { s with heap := h, toks := tk } :=
  ⟨_, _, _, _, _, _, _, _, _, _, rfl, .int _ _, norm_int hx, h0, h1, h2, F, N, fun _ hq => hq, ap⟩
theorem oneJ_dec {w : World} {h₀ h : Heap} {L p c o d : Addr} {m : Str → Option Value} {s : Shared} {rest : List (Addr × Obj)} {x px spot spot' carry' T P : Int} {t1 t2 k1 k2 k3 k4 : Tok} {n tk : Nat}
    (N : News h₀ L h ((o, instObj 143 d) :: (d, decD w T P k1 k2 k3 k4) :: (p, penO c spot' carry' t1 t2 n) :: rest)) (F : Fr h₀ L h m)
    (no : IsNorm x px T P) (h0 : 0 ≤ spot') (h1 : spot' ≤ spot + 1) (h2 : 0 ≤ carry') (ap : ∀ q ∈ rest, q.1 ≠ p) (l1 : ∀ q ∈ (p, penO c spot' carry' t1 t2 n) :: rest, q.1 < d) (l2 : d < o) : OneJ w h₀ L m s p c rest x px spot (.ref o) { s with heap := h, toks := tk } :=
  ⟨_, _, _, _, _, _, _, (o, instObj 143 d) :: (d, decD w T P k1 k2 k3 k4) :: rest, _, _, rfl, .dec _ _ _ _ _ _ _ _ (.head _) (.tail _ (.head _)), no, h0, h1, h2, F, rot2 N, fun _ hq => .tail _ (.tail _ hq),
    apart_cons (Nat.ne_of_gt (Nat.lt_trans (l1 _ (.head _)) l2)) (apart_cons (Nat.ne_of_gt (l1 _ (.head _))) ap)⟩

local macro_rules | `(tactic| walk_at "memI") => `(tactic| first | assumption | (refine' incl_use ?i ?m; (case i => with_reducible assumption); (case m => walk_at "memI")) | (refine' List.Mem.tail _ ?_; walk_at "memI") | exact List.Mem.head _ | fail "memI")
local macro_rules | `(tactic| walk_at "sm") => `(tactic| with_reducible first | (show Sm _ (10 ^ Int.toNat _); first | exact Sm.pow10 (k := 20) (by omega) | exact Sm.pow10 (k := 40) (by omega)) | fail "smz")
local macro_rules | `(tactic| walk_at "apart") => `(tactic| first | assumption | exact apart_cons (by first | assumption | exact Nat.ne_of_lt (And.left (by assumption)) | exact Nat.ne_of_lt (And.right (by assumption)) | fail "ne") (by walk_at "apart") | exact (fun q hq => absurd hq List.not_mem_nil) | fail "apart")
local macro_rules | `(tactic| walk_at "memA") => `(tactic| first | assumption | exact List.Mem.head _ | (refine' List.Mem.tail _ ?_; walk_at "memA") | (refine' incl_use ?i ?m; (case i => with_reducible assumption); (case m => walk_at "memA")) | fail "memA2")
local macro_rules | `(tactic| walk_at "few") => `(tactic| first | assumption | (simp only [List.length_map, List.length_take]; omega) | fail "few")
local macro_rules | `(tactic| walk_at "num") => `(tactic| first | assumption | exact IsNum.mono (by assumption) (fun q hq => by walk_at "memI") | fail "num")
local macro_rules | `(tactic| walk_at "eval IfExp") => `(tactic| (k_here; (with_reducible show wpAny _ _ (eval (Expr.IfExp (Expr.BoolOp _ _ _) _ _ _) _) _ _ _); (fail_if_success (with_reducible show wpAny _ _ _ (OneJ _ _ _ _ _ _ _ _ _ _ _) _ _)); k_dflt first | (refine' join_num ?jX ?jN ?jF ?jx ?jp ?jb ?js (fun v9 T9 P9 s9 c9 t91 t92 n9 nw9 h9 tk9 nm9 no9 lo9 hi9 sT9 q91 q92 q93 F9 N9 i9 ap9 => ?_) ?_; (case jX => k_asm); (case jN => k_asm); (case jF => k_asm); (case jx => exact rfl); (case jp => exact rfl); (case jb => assumption); (case js => assumption); (try dsimp only)) | fail "no join"))
local macro_rules | `(tactic| walk_at "compareOp Eq ref str") => `(tactic| (k_here; k_dflt first | (refine' eq_tup_str ?N ?a ?u shaped_refused ?_; (case N => k_asm); (case a => walk_at "memI"); (case u => ktr_units)) | fail "no tuple against a text"))
local macro_rules | `(tactic| walk_at "compareOp NotEq ref str") => `(tactic| (k_here; k_dflt first | (refine' ne_tup_str ?N ?a ?u shaped_refused ?_; (case N => k_asm); (case a => walk_at "memI"); (case u => ktr_units)) | fail "no tuple against a text"))
local macro_rules | `(tactic| walk_at "compareOp NotEq ref ref") => `(tactic| (k_here; (with_reducible show wpAny _ _ (compareOp CmpOp.NotEq (Value.ref _) (Value.ref _)) _ _ _); k_dflt first | (refine' ne_tup_same ?N ?a ?b ?u ?e ?_; (case N => k_asm); (case a => walk_at "memI"); (case b => walk_at "memI"); (case u => ktr_units); (case e => first | exact IsNorm.unique (by assumption) (by assumption) | exact prod_xy (by assumption) (by assumption) (by assumption) (by assumption) (by assumption) | fail "not same")) | fail "no two tuples"))
local macro_rules | `(tactic| walk_at "eval Constant none") => `(tactic| (k_here; k_dflt first | (exfalso; exact yes_quot' (by assumption) (by assumption) (by assumption) (by assumption) (by assumption) (by assumption) (by assumption) (by assumption) (by assumption)) | fail "no absurd none"))
local macro_rules | `(tactic| walk_at "KCj") => `(tactic| (k_dflt ((refine kcj_end (t := (0 : Nat)) ?kce rfl rfl (by assumption) (by assumption) (fun _ hp => hp)); (case kce => rfl))))
local macro_rules | `(tactic| walk_at "exec For Name List cons nil") => `(tactic| (k_here; (rename Fr _ _ _ _ => lF'); (with_unfolding_all refine' For_invVF lF' ?k1 ?k2 ?_; (case k1 => exact rfl); (case k2 => exact rfl); k_whole)))
local macro_rules | `(tactic| walk_at "pyIter ref") => `(tactic| (k_here; have ia9 := ints25 (by k_asm); k_dflt first | k_state_given ["rest!"] (fun rest0 pre rest => 0 < rest ∧ StripOf rest0 rest ∧ Sm 400 rest ∧ ∀ p ∈ pre, rest.fmod p ≠ 0) "rest" | fail "no loop over the primes"))
local macro_rules | `(tactic| walk_at "binaryOp Mod int int") => `(tactic| (k_here; first | (with_reducible refine mod_int' (ne25 (by with_reducible assumption)) ?_) | fail "no prime"))
local macro_rules | `(tactic| walk_at "binaryOp FloorDiv int int") => `(tactic| (k_here; first | (with_reducible refine floordiv_int (ne25 (by with_reducible assumption)) ?_ (Or.inl (PyProof.noPylong_of_log2 (Sm.log (sm25 (by with_reducible assumption)) (by decide))))) | fail "no prime"))
local macro_rules | `(tactic| walk_at "kst") => `(tactic| first | with_reducible exact sub_id | with_reducible exact sub_more | with_reducible exact sub_own | exact sub_id | exact sub_more | exact sub_own | fail "kst")
local macro_rules | `(tactic| kst_in) => `(tactic| walk_at "kst")
local macro_rules | `(tactic| kst_inAny) => `(tactic| walk_at "kst")
local macro_rules | `(tactic| kst_anyIn) => `(tactic| walk_at "kst")
local macro_rules | `(tactic| walk_at "memT") => `(tactic| first | with_reducible assumption | (with_reducible refine' incl_use ?i ?m; (case i => with_reducible assumption); (case m => walk_at "memT")) | with_reducible exact List.mem_cons_self | (with_reducible refine' mem_tail ?_; walk_at "memT") | fail "memT")
local macro_rules | `(tactic| walk_at "subscriptTail") => `(tactic| (k_here; (with_reducible show wpAny _ _ (subscriptTail _ _ (Value.ref _) (Value.int _ _)) _ _ _); k_dflt first | (refine' item_tupleT ?t ?a ?b ?c ?d ?_; (case t => exact News.isTup (by k_asm) (by walk_at "memT")); (case a => decide); (case b => decide); (case c => rfl); (case d => rfl); k_whole) | fail "no item of a tuple"))
local macro_rules | `(tactic| walk_at "callWith ref") => `(tactic| (k_here; (with_reducible show wpAny _ _ (callWith _ _ _ (backTo _ (starEach [] _)) []) _ _ _); k_dflt (refine' callWith_K0 ?k1 ?k2 ?_; (case k1 => k_in); (case k2 => k_is); k_whole)))
section
local macro_rules | `(tactic| walk_at "exec While Compare cons nil") => `(tactic| k_dflt first | k_while_given ["rest!"] (fun rest0 _ rest => 0 < rest ∧ StripOf rest0 rest ∧ Sm 400 rest) (fun _ _ rest => rest.toNat) "rest" | fail "no loop of the law")
theorem tell_r {w : World} {f : Addr} {news : List (Addr × Obj)} {vs : List Value} {dmax umax : Nat}
    {Ret : Heap → Addr → (Str → Option Value) → Shared → (Value → Shared → Prop) → Prop} {mean : ExcName → Option Value} {mg mb : Str → Option Value} {dp un : Nat} {gd : Option (List Code)} {cn : Str} {cs : Scope} {a : Addr} {ccd : Value} {cl : List (Str × Addr)} {outer : List Env} {A₀ : Around} {base h₀ : Heap} {L : Addr} {m : Str → Option Value} {s : Shared} {Q E : Value → Shared → Prop}
    (B : Below A₀ base outer h₀) (F : Fr h₀ L s.heap m) (X : (Mine.hd.heap_39 w.params).In h₀) (N : News h₀ L s.heap news) (T : Top Mine.hd.view_39 (looseW Mine.hd.view_39 [Str.ofString "PaperError"]) mean mg mb h₀) (hk : cs.kind = .function)
    (hd : dp + dmax < recursionLimit) (hu : un + umax < cLine) (C : Tell w f news vs dmax umax Ret) (r : Ret h₀ L m s Q) :
    wpAny (model PySem.Challenge.rw_nn0116_01.row.prog w) (ktrTop dp un gd cn cs L a ccd cl outer) (call (.ref f) vs) Q E s := tell_use C B F X N T hk hd hu r
theorem tellT_r {w : World} {f : Addr} {news : List (Addr × Obj)} {vs : List Value} {dmax umax : Nat}
    {Ret : Heap → Addr → (Str → Option Value) → Shared → (Value → Shared → Prop) → Prop} {mean : ExcName → Option Value} {mg mb : Str → Option Value} {dp un : Nat} {gd : Option (List Code)} {cn : Str} {cs : Scope} {a : Addr} {ccd : Value} {A₀ : Around} {base h₀ : Heap} {L : Addr} {m : Str → Option Value} {s : Shared} {Q E : Value → Shared → Prop}
    (B : Below A₀ base [] h₀) (F : Fr h₀ L s.heap m) (X : (Mine.hd.heap_39 w.params).In h₀) (XB : (Mine.hd.heap_39 w.params).In base) (N : News h₀ L s.heap news) (T : Top Mine.hd.view_39 (looseW Mine.hd.view_39 [Str.ofString "PaperError"]) mean mg mb h₀) (TB : Top Mine.hd.view_39 (looseW Mine.hd.view_39 [Str.ofString "PaperError"]) mean mg mb base) (hk : cs.kind = .function)
    (hd : dp + dmax < recursionLimit) (hu : un + umax < cLine) (C : TellT w f news vs dmax umax Ret) (r : Ret h₀ L m s Q) :
    wpAny (model PySem.Challenge.rw_nn0116_01.row.prog w) (ktrTop dp un gd cn cs L a ccd [] []) (call (.ref f) vs) Q E s := tellT_use C B F X XB N T TB hk hd hu r
theorem the_law : PySem.Challenge.rw_nn0116_01.Holds := by
  w_top off
  k_with_none
  refine Mine.hd ?_
  k_go0
  k_with "state" => first | exact for_start (by assumption) (by assumption) | exact strip_start (by assumption) (by assumption) | exact strip_turnk (by assumption) (by assumption) (by assumption) (by assumption) (by assumption) | exact for_turn (by assumption) (by assumption) (by assumption) (by assumption) (by assumption) (by assumption) (by assumption) | fail "state"
  k_with "measure" => first | exact strip_lessk (by assumption) (by assumption) (by assumption) | fail "measure"
  repeat' (first
    | (k_unfold; (try dsimp only))
    | (k_end; kc_close)
    | ((with_reducible show wpAny _ _ (call (Value.ref _) _) _ _ _); (first
      | ((with_reducible show wpAny _ _ (call (Value.ref 222) _) _ _ _); k_dflt first | (refine' tell_r (by k_asm) (by k_asm) (by k_asm) (by walk_at "penN") (by k_asm) (by first | exact rfl | assumption) (by ktr_room) (by ktr_units) (t_pair _ _ _ _ _ _ _ _ _ _ _ _ (by walk_at "memA") (by assumption) (by walk_at "few") (by walk_at "apart") (by omega) (by omega) (by omega)) ?_; intro q9 a9 b9 s9 c9 ta9 tb9 t91 t92 n9 h9 tk9 q91 q92 q93 q94 q95 q96 q97 F9 N9; (try dsimp only)) | fail "no _law_pair")
      | ((with_reducible show wpAny _ _ (call (Value.ref 255) _) _ _ _); k_dflt first | (refine' tell_r (by k_asm) (by k_asm) (by k_asm) (by k_asm) (by k_asm) (by first | exact rfl | assumption) (by ktr_room) (by ktr_units) (t_divs _ _ _ _ _ _ (by exact Sm.mono (by walk_at "sm") (by decide)) (by exact Sm.mono (by walk_at "sm") (by decide))) ?_; intro h9 tk9 F9 N9; (try dsimp only)) | fail "no _law_divisors")
      | ((with_reducible show wpAny _ _ (call (Value.ref 236) (Value.int 0 _ :: _)) _ _ _); k_dflt first | (refine' tellT_r (by k_asm) (by k_asm) (by k_asm) (by k_asm) (by k_asm) (by k_asm) (by k_asm) (by first | exact rfl | assumption) (by ktr_room) (by ktr_units) (t_lover_any _ _ _ _ _ _ _ _ _ _ _ (by walk_at "num") (by walk_at "num") (by assumption) (by assumption) (by assumption) (by assumption) (by assumption) (by assumption) (by assumption) (by omega)) ?_; (refine ⟨fun hz9 t9 h9 tk9 F9 N9 => ?_, fun hz9 v9 n9 h9 tk9 p9 F9 N9 i9 => ?_⟩); (all_goals (try (have zb9 := IsNorm.z (by assumption) hz9))); (all_goals (try (have nb9 := IsNorm.ne (by assumption) hz9))); (all_goals (try (obtain ⟨a9, b9, c9, T9, P9, sc9, no9, t9⟩ := p9; cases t9))); (all_goals (try dsimp only))) | fail "no _law_over 0")
      | ((with_reducible show wpAny _ _ (call (Value.ref 236) (Value.int 1 _ :: _)) _ _ _); k_dflt first | (refine' tellT_r (by k_asm) (by k_asm) (by k_asm) (by k_asm) (by k_asm) (by k_asm) (by k_asm) (by first | exact rfl | assumption) (by ktr_room) (by ktr_units) (t_lover0 _ _ _ _ _ _ _ _ _ _ _ _ (by walk_at "num") (by walk_at "num") (by assumption) (by assumption) (by assumption) (by assumption) (by assumption) (by assumption) (by assumption)) ?_; intro t9 h9 tk9 F9 N9; (try dsimp only)) | (refine' tellT_r (by k_asm) (by k_asm) (by k_asm) (by k_asm) (by k_asm) (by k_asm) (by k_asm) (by first | exact rfl | assumption) (by ktr_room) (by ktr_units) (t_lexact _ _ _ _ _ _ _ _ _ _ _ (by walk_at "num") (by walk_at "num") (by assumption) (by assumption) (by assumption) (by assumption) (by assumption) (by assumption) (by assumption)) ?_; intro v9 n9 h9 tk9 p9 F9 N9 i9; obtain ⟨a9, b9, c9, sc9, p9⟩ := p9; (rcases p9 with ⟨e9, no9⟩ | ⟨m9, T9, P9, le9, no9, t9⟩); all_goals (try (have sm9 := exact_sm sc9 le9 no9)); all_goals (first | subst e9 | cases t9); all_goals (try dsimp only)) | fail "no _law_over 1")
      | ((with_reducible show wpAny _ _ (call (Value.ref 243) _) _ _ _); k_dflt first | (refine' tellT_r (by k_asm) (by k_asm) (by k_asm) (by k_asm) (by k_asm) (by k_asm) (by k_asm) (by first | exact rfl | assumption) (by ktr_room) (by ktr_units) (t_lroot_any _ _ _ _ _ _ _ (by walk_at "num") (by assumption) (by assumption) (by assumption) (by assumption) (by omega)) ?_; (refine ⟨fun hz9 h9 tk9 F9 N9 => ?_, fun hz9 v9 n9 h9 tk9 p9 F9 N9 i9 => ?_⟩); (all_goals (try (have zn9 := IsNorm.neg (by assumption) hz9))); (all_goals (try (have zp9 := IsNorm.nn (by assumption) hz9))); (all_goals (try (obtain ⟨low9, T9, P9, lo9, rr9, no9, t9⟩ := p9; have rs9 := root_sm (by assumption) hz9 (by omega) rr9 lo9 no9; obtain ⟨rf1, rf2, rf3, rf4, rf5⟩ := root_facts (by assumption) rr9 lo9 no9; cases t9))); (all_goals (try dsimp only))) | fail "no _law_root")
      | ((with_reducible show wpAny _ _ (call (Value.ref 189) _) _ _ _); k_dflt first | (refine' tell_r (by k_asm) (by k_asm) (by k_asm) (by k_asm) (by k_asm) (by first | exact rfl | assumption) (by ktr_room) (by ktr_units) (t_gcd' _ _ _ _ _ _ (by exact Int.mul_ne_zero (by assumption) (p10n _)) (by exact Sm.mono (by walk_at "sm") (by decide)) (by exact Sm.mono (by walk_at "sm") (by decide))) ?_; intro t9 h9 tk9 gf9 F9 N9; obtain ⟨gf1, gf2, gf3, gf4, gf5, gf6, gf7⟩ := gf9; (try dsimp only)) | fail "no common_divisor")
      | ((with_reducible show wpAny _ _ (call (Value.ref 250) _) _ _ _); k_dflt first | (refine' tell_r (by k_asm) (by k_asm) (by k_asm) (by k_asm) (by k_asm) (by first | exact rfl | assumption) (by ktr_room) (by ktr_units) (t_near' _ _ _ _ _ _ _ _ _ _ _ (by exact IsT2.mk _ _ _ _ _ (by walk_at "memI")) (by exact near_xy (by assumption) (by assumption) (by assumption) (by assumption) (by assumption) (by omega)) (by exact Sm.mono (by walk_at "sm") (by decide)) (by exact Sm.mono (by walk_at "sm") (by decide)) (by assumption) (by omega)) ?_; intro h9 tk9 F9 N9; (try dsimp only)) | fail "no _law_is_nearest")
      | ((with_reducible show wpAny _ _ (call (Value.ref 229) _) _ _ _); k_dflt first | (exfalso; exact no_quot' (by assumption) (by assumption) (by assumption) (by assumption) (by assumption) (by assumption) (by assumption)) | (refine' tell_r (by k_asm) (by k_asm) (by k_asm) (by k_asm) (by k_asm) (by first | exact rfl | assumption) (by ktr_room) (by ktr_units) (t_quot' _ _ _ _ _ _ _ (by assumption) (by exact least_xy (by assumption) (by assumption) (by assumption) (by assumption) (by assumption)) (by assumption) (by assumption)) ?_; intro v9 n9 h9 tk9 p9 F9 N9 i9; obtain ⟨S9, eS9, t9⟩ := p9; have nS9 := norm_xy (by assumption) (by assumption) (by assumption) (by assumption) (by assumption) eS9; cases t9; (try dsimp only)) | fail "no _law_quotient")
      | ((with_reducible show wpAny _ _ (call (Value.ref 143) [Value.int _ _, Value.int _ _]) _ _ _); k_dflt first | (refine' tell_r (by k_asm) (by k_asm) (by k_asm) (by k_asm) (by k_asm) (by first | exact rfl | assumption) (by ktr_room) (by ktr_units) (t_dec _ _ _ _ _ _ (by first | decide | assumption | exact IsNorm.lo (by assumption) | exact Int.add_nonneg (IsNorm.lo (by assumption)) (by assumption) | omega)) ?_; intro o9 d9 T9 P9 k91 k92 k93 k94 h9 tk9 no9 F9 N9 l91 l92; (try (have ag90 := IsNorm.again (by assumption) no9; obtain ⟨ag91, ag92⟩ := ag90; subst ag91; subst ag92)); (try dsimp only)) | fail "no Decimal")
      | ((with_reducible show wpAny _ _ (call (Value.ref 126) ([Value.ref _] ++ [])) _ _ _); k_dflt first | (refine' tell_r (by k_asm) (by k_asm) (by k_asm) (by k_asm) (by k_asm) (by first | exact rfl | assumption) (by ktr_room) (by ktr_units) (t_told _ _ _ _ _ _ _ _ _ _ (by walk_at "memT") (by walk_at "memT")) ?_; intro q9 h9 tk9 F9 N9 l91; (try dsimp only)) | fail "no told")
      | ((with_reducible show wpAny _ _ (call (Value.ref 84) _) _ _ _); k_dflt first | (refine' tell_r (by k_asm) (by k_asm) (by k_asm) (by k_asm) (by k_asm) (by first | exact rfl | assumption) (by ktr_room) (by ktr_units) (t_times _ _ _ _ _ _ _ _ _ _ _ _ _ (by walk_at "memT") (by walk_at "memT") (by walk_at "num") (by exact Sm.mono (by walk_at "sm") (by decide)) (by exact Sm.mono (by walk_at "sm") (by decide)) (by exact IsNorm.lo (by assumption)) (by assumption)) ?_; intro v9 n9 h9 tk9 p9 F9 N9 i9; obtain ⟨T9, P9, no9, p9⟩ := p9; cases p9; (try dsimp only)) | fail "no times")))
    | walk1
    | (dsimp only; walk1)
    | (leave1; walk_say "STEP leave1"; (try dsimp only))
    | fail "no step")
  all_goals try first
    | (refine' oneJ_int ?N ?F ?hx ?h0 ?h1 ?h2 ?ap; (case N => with_reducible assumption); (case F => with_reducible assumption); (case hx => assumption); (case h0 => assumption); (case h1 => omega); (case h2 => assumption); (case ap => walk_at "apart"))
    | (refine' oneJ_dec ?N ?F ?no ?h0 ?h1 ?h2 ?ap ?l1 ?l2; (case N => with_reducible assumption); (case F => with_reducible assumption); (case no => assumption); (case h0 => assumption); (case h1 => omega); (case h2 => assumption); (case ap => walk_at "apart"); (case l1 => assumption); (case l2 => assumption))
end

end Mine
theorem PySem.Challenge.cw_nn0116_01_holds : PySem.Challenge.rw_nn0116_01.Holds := by
  exact Mine.the_law
