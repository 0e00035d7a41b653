import PyProof.Rows.All
import Wide.All
import OpenK.AllK
import Wide.FinOn
import HandS.ForMost
import HandS.Exc
import HandS.ExcOwn
import HandS.ExcInit
import HandS.WordsExc
import HandS.TryMany
import HandS.IsInst
import HandS.StrMore
import HandS.Conv
import HandS.Wide
import HandS.Flow
import HandS.Style
import HandS.Flt
import HandS.RaiseMore
import HandS.TupAny
import HandS.Deep
import KE.KRevSl
import PyProof.Draws
import PyProof.StrBlock2
import PyProof.Rows.StrRev
import HandS.Walk
import HandS.TryOnly
import HandS.ExcSuper
import HandS.ExcField
import PySem.Challenge.RW_spoiltline_k74_lags_and_texts_refused
set_option Elab.async false
set_option linter.all false
set_option maxRecDepth 100000
set_option maxHeartbeats 4000000
/-! SlA: defs that know that no container is being written out (guards), and their calls. -/
namespace SL
open PySem PySem.Spec PyProof.Rows L2

/-- a def's promise, kept wherever no container is being written out -/
structure FnG (P : Program) (w : World) (K : PySem.W.Frag) (mg : Str → Option Value) (base : Heap) (k : Nat) (f : Addr) (fd : FuncData) (ps : List Str) (sp : Sp) : Prop where
  len : ∀ vs H Q E, sp vs H Q E → vs.length = ps.length
  run : ∀ (A : Around) (outer : List Env) (s : Shared) (H : Hp) (args : Args) (us : List Value) (vs : List V) (Q : VK) (E : XK),
    Room k A → A.guards = some [] → Env0 P w K mg base A outer s H → BindsTo s fd args (ps.zip us) → Vals vs us → sp vs H Q E →
    codeAny (model P w) A (.call (.ref f) args) (CR (L2.CX P w) outer P w H s Q E) s

theorem gd_deeper {A : Around} {env : Env} (h : A.guards = some []) : (A.deeper env).guards = some [] := by
  first | exact h | (unfold Around.deeper; exact h) | simpa [Around.deeper] using h

section
variable {P : Program} {w : World} {K : PySem.W.Frag} {mg : Str → Option Value} {base : Heap}
/-- by the body, read at each entry -/
theorem fnG_of {x qual : Str} {st : Stmt} {f : Addr} {fd : FuncData} {N ps : List Str} {k : Nat} {sp : Sp} (F : Fun K x qual st f fd) (S : FnScope N ps (defScope st))
    (len : ∀ vs H Q E, sp vs H Q E → vs.length = ps.length)
    (hbody : ∀ (cdv : Value) (A : Around) (outer : List Env) (s : Shared) (H : Hp) (vs : List V) (Q : VK) (E : XK),
      Room k (A.deeper (envOfC qual (defScope st) s.heap.objs.size f cdv)) → (A.deeper (envOfC qual (defScope st) s.heap.objs.size f cdv)).guards = some [] → sp vs H Q E →
      ∃ t, PSs (cxOf (L2.CX P w) P w K mg base N qual (defScope st) f cdv A outer s H E) (defBody st) t ∧ t { nx := fun _ H' => Q .non H', rt := Q } (start N vs) H) :
    FnG P w K mg base (k + 1) f fd ps sp := by
  obtain ⟨oc, od, kV, doc, pm, an, cdv, ct, osl, rfl, lk, hcd⟩ := F.ex
  refine ⟨len, ?_⟩
  intro A outer s H args us vs Q E hr hg e0 hb r hsp
  have nps := len _ _ _ _ hsp
  have kin : K.In s.heap := e0.mod.kin.keeps fun b o e => (e0.bs b o e).1
  have nol : s.heap.NoLimit := e0.mod.nolimit.keeps fun b o e => (e0.bs b o e).1
  have kinds : ∀ y ∈ ps.zip us, (defScope st).names.lookup y.1 = some .local ∨ ((defScope st).names.lookup y.1 = some .cell ∧ ((cellsFrom (s.heap.objs.size + 1) (defScope st).names []).lookup y.1).isSome = true) := by
    rintro ⟨n, v⟩ hy
    have hn := (List.of_mem_zip hy).1
    cases S.par n hn with
    | inl q => exact Or.inl q
    | inr q => exact Or.inr ⟨q, PySem.W.cellsFrom_some _ _ _ (Or.inl q)⟩
  refine codeAny_call_function (Room.depth hr) (kin _ _ lk) rfl S.co S.gen rfl (PySem.W.codeRec_of kin hcd) (hb _ _ _ _ ?_)
  refine wpAny_newFunctionEnv_cells S.kind kinds ?_
  intro env henv s1 ic
  subst henv
  refine ⟨nol.keeps ic.toInCall.keep, codeAny_func ?_⟩
  obtain ⟨t, ht, hq⟩ := hbody cdv A outer s H vs Q E (Room.deeper hr _) (gd_deeper hg) hsp
  have I0 := inv_start (CX := L2.CX P w) (P := P) (w := w) (K := K) (mg := mg) (base := base) (E := E) S hr.hd e0 nps r ic
  refine wpAny_mono (ht.run [] s1 (start N vs) H _ I0 hq) ?_ fun _ _ z => z
  intro fl s' hs
  match fl, hs with
  | .ret u, ⟨v, σ', H', J, rv, q⟩ => exact ⟨v, H', J.os, J.bare, J.base, J.hok, rv, q⟩
  | .next, ⟨σ', H', J, q⟩ => exact ⟨V.non, H', J.os, J.bare, J.base, J.hok, rfl, q⟩
  | .brk, ⟨_, _, _, q⟩ => exact q.elim
  | .cont, ⟨_, _, _, q⟩ => exact q.elim

theorem FnG.mono {j k : Nat} {f : Addr} {fd : FuncData} {ps : List Str} {sp : Sp} (F : FnG P w K mg base j f fd ps sp) (h : j ≤ k) : FnG P w K mg base k f fd ps sp :=
  ⟨F.len, fun A outer s H args us vs Q E hr => F.run A outer s H args us vs Q E (hr.mono h)⟩
theorem FnG.imp {k : Nat} {f : Addr} {fd : FuncData} {ps : List Str} {sp sp' : Sp} (F : FnG P w K mg base k f fd ps sp) (h : ∀ vs H Q E, sp' vs H Q E → sp vs H Q E) : FnG P w K mg base k f fd ps sp' :=
  ⟨fun vs H Q E q => F.len vs H Q E (h _ _ _ _ q), fun A outer s H args us vs Q E hr hg e0 hb hv hs => F.run A outer s H args us vs Q E hr hg e0 hb hv (h _ _ _ _ hs)⟩
end

/-- a def of the module, callable by its name with all arguments given -/
structure Cal (P : Program) (w : World) (K : PySem.W.Frag) (mg : Str → Option Value) (base : Heap) (k : Nat) (x : Str) (ps : List Str) (sp : Sp) : Prop where
  ex : ∃ (f : Addr) (fd : FuncData), FnG P w K mg base k f fd ps sp ∧ mg x = some (.ref f) ∧ PySem.W.keepIn K (.ref f) = true ∧
    ∀ (s : Shared) (us : List Value), us.length = ps.length → BindsTo s fd ⟨us, []⟩ (ps.zip us)

section
variable {X : Cx} {k j : Nat} {x : Str} {ps : List Str} {sp : Sp} {E : L2.St → XK} {p pos : Pos} {e : Expr} {es : List Expr} {t : TA}
theorem run_g {f : Addr} {fd : FuncData} {pins : List (Addr × Obj)} {σ : L2.St} {H : Hp} {s : Shared} {Q : VK} {us : List Value} {vs : List V} (F : FnG X.prog X.w X.K X.mg X.base k f fd ps sp) (hr : Room k X.A) (hg : X.A.guards = some [])
    (hb : ∀ (s : Shared) (us : List Value), us.length = ps.length → BindsTo s fd ⟨us, []⟩ (ps.zip us)) (hx : PassesAt (L2.CX X.prog X.w) X σ (E σ))
    (I : Inv X pins σ H s) (r : Vals vs us) (h : sp vs H Q (E σ)) : wpAny (model X.prog X.w) X.A (call (.ref f) us) (EP X pins σ Q) X.xe s := by
  have hl : us.length = ps.length := by rw [← Paired.length r]; exact F.len _ _ _ _ h
  refine wpAny_call (codeAny_mono (F.run X.A X.stack s H ⟨us, []⟩ us vs Q (E σ) hr hg (Inv.env0 I) (hb s us hl) r h) ?_)
  intro rr s' hq
  match rr, hq with
  | .error ex, hq => exact hx pins H s ex s' I hq
  | .ok (.ret u), hq => exact Inv.after I hq
/-- f(e, ..) -/
theorem pe_g (c : Cal X.prog X.w X.K X.mg X.base k x ps sp) (hr : Room j X.A) (hk : k ≤ j) (hgd : X.A.guards = some []) (hg : Gl X x) (hx : ∀ σ, PassesAt (L2.CX X.prog X.w) X σ (E σ)) (ha : PA X (e :: es) t)
    (hdb : (x == ("__debug__" : Str)) = false := by decide) (he : starEach (e :: es) X.env = (false, eval e X.env) :: starEach es X.env := by rfl) (hpl : (backTo pos (starEach es X.env)).any (·.1) = false := by rfl) :
    PE X (.Call (.Name x p) (e :: es) [] pos) (tCallS sp E t) := by
  obtain ⟨f, fd, F, hm, kp, hb⟩ := c.ex
  constructor
  intro pins s σ H Q I h
  refine wpAny_Call_Name_kw (ld_glob I hg hm ?_ hdb)
  refine PySem.W.callWith_K (h₀ := X.base) I.ok.mod.kin kp (thn (ha.run pos pins s σ H _ I h) ?_) he hpl
  rintro us s1 ⟨vs, H1, I1, r, q⟩
  exact ⟨I1.kIn, run_g F (hr.mono hk) hgd hb (hx σ) I1 r q⟩
/-- f() -/
theorem pe_g0 (c : Cal X.prog X.w X.K X.mg X.base k x ps sp) (hr : Room j X.A) (hk : k ≤ j) (hgd : X.A.guards = some []) (hg : Gl X x) (hx : ∀ σ, PassesAt (L2.CX X.prog X.w) X σ (E σ))
    (hdb : (x == ("__debug__" : Str)) = false := by decide) : PE X (.Call (.Name x p) [] [] pos) (tCallS sp E tNil) := by
  obtain ⟨f, fd, F, hm, kp, hb⟩ := c.ex
  constructor
  intro pins s σ H Q I h
  refine wpAny_Call_Name_kw (ld_glob I hg hm ?_ hdb)
  exact PySem.W.callWith_K0 I.kIn kp (run_g (us := []) F (hr.mono hk) hgd hb (hx σ) I .nil h)
end

end SL
set_option Elab.async false
set_option linter.all false
set_option maxRecDepth 100000
set_option maxHeartbeats 4000000
/-! SlB: text * int, [::-1] of texts and tuples, enumerate(text), least of three; operators whatever the values are. -/
namespace SL
open PySem PySem.Spec PyProof.Rows L2

/-- a text of these signs -/
abbrev tx (l : List Nat) : Str := ⟨l.toArray⟩
theorem tx_list (z : Str) : tx z.cps.toList = z := by
  obtain ⟨⟨l⟩⟩ := z
  rfl
theorem tx_len (l : List Nat) : (tx l).length = l.length := by simp [Str.length]
theorem tx_app (l m : List Nat) : tx l ++ tx m = tx (l ++ m) := by
  show Str.mk (l.toArray ++ m.toArray) = _
  simp
theorem tx_inj {l m : List Nat} (h : tx l = tx m) : l = m := by
  have := congrArg (fun z : Str => z.cps.toList) h
  simpa using this

/-! ### text * int -/
theorem fold_app : ∀ (ls : List (Array Nat)) (acc : Array Nat), (ls.foldl (· ++ ·) acc).toList = acc.toList ++ (ls.map Array.toList).flatten
  | [], acc => by simp
  | a :: r, acc => by
    rw [List.foldl_cons, fold_app r (acc ++ a)]
    simp
theorem mul_txt (l : List Nat) (n : Int) : Txt.mul (tx l) n = tx (List.replicate n.toNat l).flatten := by
  unfold Txt.mul
  by_cases h1 : n < 1
  · rw [if_pos h1]
    have : n.toNat = 0 := by omega
    rw [this]
    rfl
  · rw [if_neg h1]
    by_cases h2 : (n == 1 || (tx l).length == 0) = true
    · rw [if_pos h2]
      rcases Bool.or_eq_true_iff.mp h2 with h | h
      · have e : n = 1 := by simpa using h
        subst e
        simp [tx]
      · have e : l = [] := by
          have h' : (tx l).length = 0 := by simpa using h
          rw [tx_len] at h'
          exact List.length_eq_zero_iff.mp h'
        subst e
        simp [tx]
    · rw [if_neg h2]
      have e := fold_app (List.replicate n.toNat (tx l).cps) #[]
      have e2 : ((List.replicate n.toNat (tx l).cps).foldl (· ++ ·) #[]) = (List.replicate n.toNat l).flatten.toArray := by
        apply Array.ext'
        rw [e]
        simp [List.map_replicate]
      rw [e2]
def rMulS : R2 := fun x y H Q => ∃ (l : List Nat) (n : Int), x = .str (tx l) ∧ y = .int n ∧ n ≤ 1000000 ∧ -1000000 ≤ n ∧ l.length ≤ 1000000 ∧ l.length * n.toNat ≤ 16777216 ∧ Q (.str (tx (List.replicate n.toNat l).flatten)) H
theorem op_mulS {X : Cx} : OpR X (binaryOp .Mult) rMulS := by
  intro pins s σ H x y v u Q I rx ry h
  obtain ⟨l, n, rfl, rfl, h1, h2, hl, hz, q⟩ := h
  obtain ⟨t, rfl⟩ := rx
  obtain ⟨t', rfl⟩ := ry
  refine SB.mul ⟨?_, fun h3 h4 => ?_, fun h3 h4 => ?_⟩ fun t2 k => ⟨.str _, H, I.tok k, ⟨t2, rfl⟩, by rw [mul_txt]; exact q⟩
  · rw [decide_eq_false (by omega), decide_eq_false (by omega)]
    rfl
  · rw [tx_len]
    have hn : 1 ≤ n := by omega
    have : (l.length : Int) ≤ (2 ^ 63 - 1) / n := by
      rw [Int.le_ediv_iff_mul_le (by omega)]
      have h5 : (l.length : Int) * n ≤ 1000000 * 1000000 := Int.mul_le_mul (by omega) h1 (by omega) (by omega)
      omega
    omega
  · rw [tx_len]
    unfold Builtin.Str.tooLong
    have hs := sizeLine_eq
    first
      | (apply decide_eq_false; omega)
      | (simp; omega)

/-! ### least of three -/
theorem call_min3I {X : Cx} (hc : X.calm = true) : CallR X (.builtin "min") (fun xs H Q => ∃ i j k, xs = [.int i, .int j, .int k] ∧ Q (.int (min (min i j) k)) H) := by
  intro pins s σ H xs us Q I r h
  obtain ⟨i, j, k, rfl, q⟩ := h
  refine call_min3Nu hc pins s σ H _ us Q I r ⟨.int i, .int j, .int k, .int (min (min i j) k), rfl, ?_, q⟩
  have two : ∀ a b : Int, nuMin2 (.int a) (.int b) = some (.int (min a b)) := by
    intro a b
    unfold nuMin2
    have e : nuLt (.int b) (.int a) = some (decide (b < a)) := by first | rfl | (unfold nuLt; rfl) | (simp [nuLt, nuCB])
    rw [e]
    show some (if decide (b < a) = true then V.int b else V.int a) = _
    by_cases h : b < a
    · rw [if_pos (decide_eq_true h)]
      congr 2
      omega
    · rw [if_neg (by simpa using h)]
      congr 2
      omega
  unfold nuMin3
  rw [two i j]
  exact two _ k

/-! ### [::-1] of texts and tuples -/
def tRevU (K : PySem.W.Frag) (te : TE) : TE := fun σ H Q => te σ H fun x H1 =>
  (∃ l : List Nat, x = .str (tx l) ∧ l.length ≤ 16777216 ∧ Q (.str (tx l.reverse)) H1) ∨
  (∃ a xs, x = .ref a ∧ SqT K H1 a xs ∧ ∀ p, H1 p = none → Q (.ref p) (upd H1 p (.tup xs.reverse)))
theorem getD_rev (l : List Nat) : ((List.range l.length).map fun k => l.toArray.getD (l.length - 1 - k) 0) = l.reverse := by
  apply List.ext_getElem
  · simp
  · intro i h1 h2
    have hi : i < l.length := by simpa using h1
    simp [Array.getD, show l.length - 1 - i < l.length by omega]
section
variable {prog : Program} {w : World} {A : Around} {E : Value → Shared → Prop} {s : Shared}
open HT in
theorem applied_rev {sl : Addr} {vl vu vs : Value} {n : Nat} {Q : Int × Int × Nat → Shared → Prop} (hs : s.heap.IsSliceOf sl vl vu vs) (pl : IsPart vl none) (pu : IsPart vu none) (ps : IsPart vs (some (-1)))
    (h : Q ((n : Int) - 1, -1, n) s) : wpAny (model prog w) A (Builtin.Slice.sliceApplied (.ref sl) (pure (n : Int))) Q E s := by
  obtain ⟨os, hos, hcs, hds⟩ := id hs
  unfold Builtin.Slice.sliceApplied Builtin.Slice.sliceFields
  refine wpAny_bind (wpAny_bind (wpAny_field hos hds (x := vl) rfl (wpAny_bind (wpAny_field hos hds (x := vu) rfl (wpAny_bind (wpAny_field hos hds (x := vs) rfl (wpAny_pure ?_)))))))
  refine wpAny_bind (slicePart_ ps ?_)
  show wpAny _ _ (if ((-1 : Int) == 0) = true then _ else _) _ _ s
  rw [if_neg (by decide)]
  refine wpAny_bind (slicePart_ pl (wpAny_bind (slicePart_ pu (wpAny_bind (wpAny_pure ?_)))))
  have e1 : Builtin.Slice.sliceAdjust none none (-1) (n : Int) = ((n : Int) - 1, -1) := rfl
  show wpAny _ _ (match Builtin.Slice.sliceAdjust none none (-1) (n : Int) with | (lo, hi) => pure (lo, (-1 : Int), Builtin.Slice.slicePlaces lo hi (-1))) _ _ s
  rw [e1]
  have e2 : Builtin.Slice.slicePlaces ((n : Int) - 1) (-1) (-1) = n := by
    unfold Builtin.Slice.slicePlaces
    rw [if_neg (by decide)]
    by_cases h0 : (n : Int) - 1 > -1
    · rw [if_pos h0]
      have : ((n : Int) - 1 - -1 - 1) / (- -1) = (n : Int) - 1 := by
        rw [show (- -1 : Int) = 1 from by decide, Int.ediv_one]
        omega
      rw [this]
      omega
    · rw [if_neg h0]
      omega
  show wpAny _ _ (pure ((n : Int) - 1, (-1 : Int), Builtin.Slice.slicePlaces ((n : Int) - 1) (-1) (-1))) _ _ s
  rw [e2]
  exact wpAny_pure h
theorem fmap_congr {α β : Type} {f g : α → Option β} : ∀ {l : List α}, (∀ a ∈ l, f a = g a) → l.filterMap f = l.filterMap g
  | [], _ => rfl
  | a :: r, h => by
    rw [List.filterMap_cons, List.filterMap_cons, h a List.mem_cons_self, fmap_congr fun b hb => h b (List.mem_cons_of_mem _ hb)]
theorem pick_rev (xs : Array Value) : ((List.range xs.size).filterMap fun (m : Nat) => xs[((xs.size : Int) - 1 + (m : Int) * -1).toNat]?).toArray = xs.toList.reverse.toArray := by
  have e : ∀ m ∈ List.range xs.size, xs[((xs.size : Int) - 1 + (m : Int) * -1).toNat]? = ((fun k => xs[k]?) ∘ fun k => xs.size - 1 - k) m := by
    intro m hm
    have : m < xs.size := List.mem_range.mp hm
    show _ = xs[xs.size - 1 - m]?
    congr 1
    omega
  rw [fmap_congr e, ← List.filterMap_map, PySem.W.krv_range, List.filterMap_reverse, PySem.W.krv_all]
open HT in
theorem getItem_tuple_rev {t sl : Addr} {items : Array Value} {vl vu vs : Value} {Q : Value → Shared → Prop} (ht : IsTup s.heap t items) (hs : s.heap.IsSliceOf sl vl vu vs) (pl : IsPart vl none) (pu : IsPart vu none) (ps : IsPart vs (some (-1)))
    (h : Q (.ref s.heap.objs.size) { s with heap := s.heap.push { cls := .type "tuple", data := .seq items.toList.reverse.toArray } })
    (hsz : items.size ≤ sizeLine) : wpAny (model prog w) A (getItem (.ref t) (.ref sl)) Q E s := by
  have fits : sizeOk (.seq items.toList.reverse.toArray) := by
    show items.toList.reverse.toArray.size ≤ sizeLine
    rw [List.size_toArray, List.length_reverse, Array.length_toList]
    exact hsz
  obtain ⟨os, hos, hcs, hds⟩ := id hs
  have isS : s.TypeIs (.ref sl) "slice" := ⟨os, hos, hcs⟩
  unfold getItem
  try with_reducible refine wpAny_holding ?_
  first | refine wpAny_bind (wpAny_pure ?_) | skip
  refine wpAny_bind (wpAny_sequenceKey ht.typeIs (by decide) ?_)
  refine wpAny_bind (wpAny_callSpecial?_slot (name := Str.ofString "__getitem__") ht.typeIs PyProof.Rows.slot_tuple_getitem
    (wpAny_call_entry PyProof.Rows.slot_tuple_getitem ht.typeIs entry_tuple_getitem ?_ (args_tuple_getitem _ _)))
  show wpAny _ _ (Builtin.Tuple.tupleItemsOf (.ref t) >>= _) _ _ s
  refine wpAny_bind (tupleItemsOf_ ht ?_)
  refine wpAny_bind (wpAny_typeOf isS ?_)
  rw [if_pos (by decide)]
  refine wpAny_bind (applied_rev hs pl pu ps ?_)
  have no : ¬ ((((items.size : Int) - 1 == 0) && (-1 : Int) == 1 && items.size == items.size) = true) := by simp
  show wpAny _ _ (if (((items.size : Int) - 1 == 0) && (-1 : Int) == 1 && items.size == items.size) = true then _ else _) _ _ s
  rw [if_neg no, pick_rev]
  first
    | exact wpAny_bind (m := Builtin.Tuple.tupleExact _) (wpAny_newObj_type (wpAny_pure ⟨_, rfl, wpAny_pure h⟩) fits)
    | exact wpAny_bind (m := Builtin.Tuple.tupleExact _) (wpAny_newObj_type (wpAny_bind (wpAny_pure (wpAny_pure ⟨_, rfl, wpAny_pure h⟩))) fits)
    | exact wpAny_bind (wpAny_bind (m := Builtin.Tuple.tupleExact _) (wpAny_newObj_type (wpAny_pure (wpAny_pure ⟨_, rfl, wpAny_pure h⟩)) fits))
    | exact wpAny_bind (wpAny_bind (m := Builtin.Tuple.tupleExact _) (wpAny_newObj_type (wpAny_pure ⟨_, rfl, wpAny_pure h⟩) fits))
end
theorem pe_revU {X : Cx} {e : Expr} {te : TE} {k : Nat} {p1 p2 p3 pos : Pos} (he : PE X e te) :
    PE X (.Subscript e (.Slice none none (some (.UnaryOp .USub (.Constant (.int 1) k p1) p2)) p3) pos) (tRevU X.K te) := by
  constructor
  intro pins s σ H Q I h
  refine Subscript_ (thn (he.run pins s σ H _ I h) ?_)
  rintro v s1 ⟨x, H1, I1, r1, q1⟩
  have st : PO X (some (.UnaryOp .USub (.Constant (.int 1) k p1) p2)) (tPart (tUn (rU fun i => .int (-i)) (tC (.int 1)))) := po_some (pe_un un_neg pe_int)
  refine wpAny_Slice (thn (po_none.run pins s1 σ H1 (fun o H2 => o = none ∧ H2 = H1) I1 ⟨rfl, rfl⟩) ?_)
  rintro vl s2 ⟨o2, H2, I2, pl, rfl, rfl⟩
  refine thn (po_none.run pins s2 σ H2 (fun o H3 => o = none ∧ H3 = H2) I2 ⟨rfl, rfl⟩) ?_
  rintro vu s3 ⟨o3, H3, I3, pu, rfl, rfl⟩
  refine thn (st.run pins s3 σ H3 (fun o H4 => o = some (-1) ∧ H4 = H3) I3 ⟨1, rfl, -1, rfl, rfl, rfl⟩) ?_
  rintro vs s4 ⟨o4, H4, I4, ps, rfl, rfl⟩
  have I5 : Inv X pins σ H4 { s4 with heap := s4.heap.push { cls := .type "slice", data := .fields #[vl, vu, vs] } } := I4.kept (t' := s4.toks) fun b ob q => Heap.get?_push_of_some _ q
  rcases q1 with ⟨l, rfl, hz, q⟩ | ⟨a, xs, rfl, hx, q⟩
  · obtain ⟨t, rfl⟩ := r1
    refine tail_any (ops := [.str (tx l) t, .ref s4.heap.objs.size]) (typeIs_str _ _ _) F.slot_str_getitem.lookup ?_ (by with_unfolding_all rfl)
    obtain ⟨l1, rfl, e1⟩ := IsPart.raw pl
    obtain ⟨u1, rfl, e2⟩ := IsPart.raw pu
    obtain ⟨w1, rfl, e3⟩ := IsPart.raw ps
    obtain rfl : l1 = none := by cases l1 with | none => rfl | some _ => cases e1
    obtain rfl : u1 = none := by cases u1 with | none => rfl | some _ => cases e2
    obtain ⟨i, tk, rfl⟩ : ∃ i tk, w1 = some (i, tk) := by cases w1 with | none => cases e3 | some p => exact ⟨p.1, p.2, rfl⟩
    obtain rfl : i = -1 := Option.some.inj e3
    refine wpAny_getItem_str_slice (l := none) (u := none) (st := some (-1, tk)) ⟨_, Heap.get?_push_size _ rfl, rfl, rfl⟩ rfl ?_
    have ee : (tx l.reverse) = ⟨((Builtin.Str.strSliceIndices none none (-1) (tx l).length).filterMap ((tx l).cps[·]?)).toArray⟩ := by
      rw [PyProof.Rows.picked_rev, PyProof.Rows.filterMap_get, List.map_map]
      · rw [tx_len, ← getD_rev l]
        rfl
      · intro i hi
        obtain ⟨k, hk, rfl⟩ := List.mem_map.mp hi
        have hk' : k < (tx l).length := List.mem_range.mp hk
        show (tx l).length - 1 - k < (tx l).length
        omega
    have hl : (tx l.reverse).length ≤ sizeLine := by
      rw [tx_len, List.length_reverse, sizeLine_eq]
      exact hz
    unfold sliceMade
    have no : ¬ ((((some ((-1 : Int), tk)).map (·.1)).getD 1 == 1 && (slicePicked (tx l) none none (some (-1, tk))).length == (tx l).length) = true) := by
      have : (((some ((-1 : Int), tk)).map (·.1)).getD 1 == 1) = false := rfl
      rw [this]
      simp
    rw [if_neg no]
    have em : slicePicked (tx l) none none (some (-1, tk)) = Builtin.Str.strSliceIndices none none (-1) (tx l).length := rfl
    rw [em, ← ee]
    exact ⟨hl, .str _, H4, I5.tok _, ⟨_, rfl⟩, q⟩
  · cases r1
    obtain ⟨its, r, ht, hz⟩ := I5.tuple hx
    refine tail_any (ops := [.ref a, .ref s4.heap.objs.size]) ht.typeIs (PyProof.Rows.slot_tuple_getitem.lookup) ?_ (by with_unfolding_all rfl)
    have hl := r.length
    refine getItem_tuple_rev ht (Heap.IsSliceOf.new _ vl vu vs) pl pu ps ?_ (by rw [List.size_toArray]; omega)
    refine ⟨.ref _, _, I5.laid (t' := s4.toks) (o := .tup xs.reverse) (fun b ob q => Heap.get?_push_of_some _ q) (Nat.le_refl _) ?_, rfl, q _ (I5.hok.fresh (Nat.le_refl _))⟩
    exact ⟨by rw [List.length_reverse]; exact hz, _, r.reverse, IsTup.new _ _⟩
end SL
set_option Elab.async false
set_option linter.all false
set_option maxRecDepth 100000
set_option maxHeartbeats 4000000
/-! SlC: for i, c in enumerate(text). -/
namespace SL
open PySem PySem.Spec PyProof.Rows L2
/-- the signs of a text, each in a new pair with its place -/
def Ites (z : Str) : It :=
  ⟨fun i _ => i < z.cps.size, fun i H v H' => ∃ T c, v = .ref T ∧ H T = none ∧ H' = upd H T (.tup [.int (i : Nat), .str ⟨#[c]⟩]) ∧ z.cps[i]? = some c, fun i _ => i = z.cps.size⟩
theorem drawn {X : Cx} (hh : X.A.in1.handled = none) (it : Addr) (z : Str) (t : Tok) (ty : String) (hty : ty = "str_ascii_iterator" ∨ ty = "str_iterator") :
    Draws X.prog X.w X.A.in1 it [it] z.cps.size (SignAt z) (fun i h => h.IsStrIter it ty z t i) := by
  rcases hty with e | e
  · rw [e]
    exact Draws.strAscii hh it z t
  · rw [e]
    exact Draws.strWide hh it z t
theorem turn_enumS {P : Program} {w : World} {K : PySem.W.Frag} {elts : List Expr} {kk : Nat} {tpos : Pos} (z : Str) (t : Tok) (ty : String) (hty : ty = "str_ascii_iterator" ∨ ty = "str_iterator") (e it : Addr) :
    Turn P w K (.Tuple elts kk tpos) (Ites z) [e, it] e (fun i h => (∃ old, IsEnum h e it ((i : Nat) : Int) old) ∧ h.IsStrIter it ty z t i ∧ e ≠ it) where
  mem := by simp
  obj := fun i h st b hb => by
    obtain ⟨⟨old, he⟩, ⟨o, ho, hc, hd⟩, _⟩ := st
    have two : b = e ∨ b = it := by simpa using hb
    cases two with
    | inl q => rw [q]; exact ⟨_, he, fun v y => nomatch y⟩
    | inr q => rw [q]; exact ⟨o, ho, fun v y => by rw [hd] at y; cases y⟩
  keep := fun i h h' st k => by
    obtain ⟨⟨old, he⟩, ⟨o, ho, hc, hd⟩, hne⟩ := st
    exact ⟨⟨old, k e (by simp) _ he⟩, ⟨o, k it (by simp) o ho, hc, hd⟩, hne⟩
  item := by
    intro X hP hw hK hc i pins s σ H E I hf st hg
    subst hP hw hK
    obtain ⟨⟨old, he⟩, hit, hne⟩ := st
    have hel : e < s.heap.objs.size := Heap.lt_size he
    have hil : it < s.heap.objs.size := by obtain ⟨_, q, _⟩ := hit; exact Heap.lt_size q
    have dr := drawn (X := X) (I.ok.hd hc) it z t ty hty
    refine wpAny_pyNext_enum_itemD dr he hit hg hne (by simpa using hne) ?_
    intro x h' tk hx ho hit' hT hsz hk
    obtain ⟨c, u, hcx, rfl⟩ := hx
    refine ⟨_, rfl, wpAny_letOwnedTupleGo_enum (s := { s with heap := h', toks := tk + 1 }) ho ?_⟩
    intro h'' he' sb
    have hT2 : h''.get? s.heap.objs.size = some { cls := .type "tuple", data := .seq #[.int i tk, .str ⟨#[c]⟩ u] } := (sb.2 _ (Nat.ne_of_gt hel)).trans hT
    have new : ObjOk X.prog X.w (upd H s.heap.objs.size (.tup [.int (i : Nat), .str ⟨#[c]⟩])) h'' s.heap.objs.size (.tup [.int (i : Nat), .str ⟨#[c]⟩]) :=
      ⟨by show 2 ≤ sizeLine; decide, [.int i tk, .str ⟨#[c]⟩ u], .cons ⟨_, rfl⟩ (.cons ⟨_, rfl⟩ .nil), ⟨_, hT2, rfl, _, rfl⟩⟩
    have I1 : Inv X pins σ (upd H s.heap.objs.size (.tup [.int (i : Nat), .str ⟨#[c]⟩])) { s with heap := h'', toks := tk + 1 } :=
      I.turnedNew (ch := [e, it]) (fun b ob hb q => (sb.2 b (fun y => hb (by simp [y]))).trans (hk b ob (fun y => hb (by simp [y])) (fun y => hb (by simp [y])) q)) hf (Nat.le_refl _) new
    refine ⟨.ref s.heap.objs.size, _, I1, rfl, ⟨_, c, rfl, I.hok.fresh (Nat.le_refl _), rfl, hcx⟩, ⟨⟨.str ⟨#[c]⟩ u, ?_⟩, ?_, hne⟩, fun b hb => ?_⟩
    · have e1 : ((i + 1 : Nat) : Int) = (i : Int) + 1 := by omega
      rw [e1]
      exact he'
    · obtain ⟨o, ho2, hc2, hd2⟩ := hit'
      exact ⟨o, (sb.2 it (Ne.symm hne)).trans ho2, hc2, hd2⟩
    · have lt : b < s.heap.objs.size := by
        have two : b = e ∨ b = it := by simpa using hb
        cases two with
        | inl q => rw [q]; exact hel
        | inr q => rw [q]; exact hil
      rw [upd_ne (Nat.ne_of_lt lt)]
      exact (hf b hb).1
  done := by
    intro X hP hw hK hc i pins s σ H E I hf st hg
    subst hP hw hK
    obtain ⟨⟨old, he⟩, hit, hne⟩ := st
    obtain ⟨f0, f1, f2, f3, f4, f5⟩ := hf it (by simp)
    have dr := drawn (X := X) (I.ok.hd hc) it z t ty hty
    have hi : i = z.cps.size := hg
    subst hi
    refine wpAny_pyNext_enum_endD dr he hit ?_
    intro h' eb
    exact ⟨rfl, I.turned (t' := s.toks) (fun b o hb q => eb b o hb q) f0 f1 f3 f4 f5⟩
  self := fun A i s Q E st h => by
    obtain ⟨⟨_, he⟩, _⟩ := st
    exact wpAny_pyIter_enum he h
def iEnumS (ta : TA) : TI := fun σ H R => ta σ H fun vs H1 => ∃ z, vs = [.str z] ∧ R (Ites z) H1
theorem pi_enumS {X : Cx} {e : Expr} {ta : TA} {p pos tpos : Pos} {elts : List Expr} {kk : Nat} (hg : Gl X "enumerate") (hm : X.mg "enumerate" = none) (ha : PA X [e] ta) (hs : starEach [e] X.env = [(false, eval e X.env)] := by rfl) :
    PI X (.Tuple elts kk tpos) (.Call (.Name "enumerate" p) [e] [] pos) (iEnumS ta) := by
  constructor
  intro pins s σ H R I h
  refine Call_ (ld_blt I hg hm boot_enumerate (PyProof.Rows.callWith_type1 (thn (ha.run pos pins s σ H _ I h) ?_) hs rfl))
  rintro us s1 ⟨vs, H1, I1, r1, z, rfl, q⟩
  obtain ⟨u, rfl, ru⟩ : ∃ u, us = [u] ∧ RelV (.str z) u := by
    cases r1 with
    | cons r rr =>
      cases rr
      exact ⟨_, rfl, r⟩
  obtain ⟨t, rfl⟩ := ru
  refine call_enumerate_str ?_
  intro h' he hit hsz hk
  refine wpAny_pyIter_enum he ?_
  have I2 : Inv X pins σ H1 { s1 with heap := h' } := I1.kept (t' := s1.toks) hk
  have hty : strIterType z = "str_ascii_iterator" ∨ strIterType z = "str_iterator" := by
    unfold strIterType
    split <;> simp
  refine ⟨s1.heap.objs.size + 1, [s1.heap.objs.size + 1, s1.heap.objs.size], _, _, H1, rfl, I2, turn_enumS z t _ hty (s1.heap.objs.size + 1) s1.heap.objs.size, ⟨⟨.none, he⟩, hit, Nat.succ_ne_self _⟩, fun b hb => ?_, q⟩
  have two : b = s1.heap.objs.size + 1 ∨ b = s1.heap.objs.size := by simpa using hb
  have hle : s1.heap.objs.size ≤ b := by
    cases two with
    | inl y => rw [y]; exact Nat.le_add_right _ _
    | inr y => rw [y]; exact Nat.le_refl _
  exact I1.fpOk hle (I1.hok.fresh hle)
end SL
set_option Elab.async false
set_option linter.all false
set_option maxRecDepth 100000
set_option maxHeartbeats 4000000
/-! SlD: operators whatever the values are, and each reading's step (w_..), to be taken from the left. -/
namespace SL
open PySem PySem.Spec PyProof.Rows L2
abbrev SSt := L2.St

/-! ### heaps -/
/-- all but p stands -/
def Fr (p : Addr) (H H' : Hp) : Prop := ∀ b o, H b = some o → b ≠ p → H' b = some o
theorem Fr.refl (p : Addr) (H : Hp) : Fr p H H := fun _ _ h _ => h
theorem Fr.trans {p : Addr} {H H1 H2 : Hp} (a : Fr p H H1) (b : Fr p H1 H2) : Fr p H H2 := fun c o h n => b c o (a c o h n) n
theorem Fr.of {p : Addr} {H H' : Hp} (a : Same H H') : Fr p H H' := fun c o h _ => a c o h
theorem Fr.put {p : Addr} {H H' : Hp} {o : HO} (a : Fr p H H') : Fr p H (upd H' p o) := fun c u h n => by rw [upd_ne n]; exact a c u h n
theorem Fr.new {p q : Addr} {H H' : Hp} {o : HO} (a : Fr p H H') (hq : H' q = none) (hp : ∃ u, H p = some u) : Fr p H (upd H' q o) := fun c u h n => by
  have n2 : c ≠ q := ne_of_none (a c u h n) hq
  rw [upd_ne n2]
  exact a c u h n
theorem Same.new {q : Addr} {H H' : Hp} {o : HO} (a : Same H H') (hq : H' q = none) : Same H (upd H' q o) := fun c u h => by
  rw [upd_ne (ne_of_none (a c u h) hq)]
  exact a c u h
theorem same_new {q : Addr} {H : Hp} {o : HO} (hq : H q = none) : Same H (upd H q o) := Same.new (Same.refl H) hq
/-- a new list that grows -/
theorem Same.grow {q : Addr} {H H' : Hp} {o : HO} (a : Same H H') (hq : H q = none) : Same H (upd H' q o) := fun c u h => by
  rw [upd_ne (ne_of_none h hq)]
  exact a c u h
theorem Same.none {H H' : Hp} {q : Addr} (a : Same H H') (hq : H' q = none) : H q = none := a.free hq
theorem rd_new {H : Hp} {a p : Addr} {o u : HO} (hp : H p = none) (h : Rd H a u) : Rd (upd H p o) a u := by
  rcases h with h | ⟨x, h⟩
  · exact .inl (by rw [upd_ne (ne_of_none h hp)]; exact h)
  · exact .inr ⟨x, by rw [upd_ne (ne_of_none h hp)]; exact h⟩
theorem sql_new {K : PySem.W.Frag} {H : Hp} {a p : Addr} {o : HO} {xs : List V} (hp : H p = none) (h : SqL K H a xs) : SqL K (upd H p o) a xs := by
  rcases h with h | h
  · exact .inl (rd_new hp h)
  · exact .inr h
theorem sqt_new {K : PySem.W.Frag} {H : Hp} {a p : Addr} {o : HO} {xs : List V} (hp : H p = none) (h : SqT K H a xs) : SqT K (upd H p o) a xs := by
  rcases h with h | h
  · exact .inl (rd_new hp h)
  · exact .inr h
theorem sql_upd {K : PySem.W.Frag} {H : Hp} {a p : Addr} {o : HO} {xs : List V} (n : a ≠ p) (h : SqL K H a xs) : SqL K (upd H p o) a xs := by
  rcases h with (h | ⟨x, h⟩) | h
  · exact .inl (.inl (by rw [upd_ne n]; exact h))
  · exact .inl (.inr ⟨x, by rw [upd_ne n]; exact h⟩)
  · exact .inr h
theorem sqt_upd {K : PySem.W.Frag} {H : Hp} {a p : Addr} {o : HO} {xs : List V} (n : a ≠ p) (h : SqT K H a xs) : SqT K (upd H p o) a xs := by
  rcases h with (h | ⟨x, h⟩) | h
  · exact .inl (.inl (by rw [upd_ne n]; exact h))
  · exact .inl (.inr ⟨x, by rw [upd_ne n]; exact h⟩)
  · exact .inr h
theorem Same.seqT {K : PySem.W.Frag} {H H' : Hp} {a : Addr} {xs : List V} (e : Same H H') (h : SqT K H a xs) : SqT K H' a xs := by
  rcases h with (h | ⟨o, h⟩) | h
  · exact .inl (.inl (e _ _ h))
  · exact .inl (.inr ⟨o, e _ _ h⟩)
  · exact .inr h

/-! ### operators -/
def rAddU (K : PySem.W.Frag) : R2 := fun x y H Q => (∃ i j, x = .int i ∧ y = .int j ∧ Q (.int (i + j)) H) ∨ (∃ i j, x = .str i ∧ y = .str j ∧ i.length + j.length ≤ sizeLine ∧ Q (.str (i ++ j)) H) ∨ rCat x y H Q ∨ rCatA K x y H Q
theorem uAdd {X : Cx} : OpR X (binaryOp .Add) (rAddU X.K) := op_add.or (op_add_str.or (op_cat.or op_catA))
def rMulU : R2 := fun x y H Q => (∃ i j, x = .int i ∧ y = .int j ∧ CMul i j ∧ Q (.int (i * j)) H) ∨ rMulS x y H Q
theorem uMul {X : Cx} : OpR X (binaryOp .Mult) rMulU := op_mul.or op_mulS
def rSubU : R2 := fun x y H Q => ∃ i j, x = .int i ∧ y = .int j ∧ Q (.int (i - j)) H
theorem uSub {X : Cx} : OpR X (binaryOp .Sub) rSubU := op_sub
def rModU : R2 := fun x y H Q => ∃ i j, x = .int i ∧ y = .int j ∧ 0 < j ∧ Q (.int (i % j)) H
theorem uMod {X : Cx} : OpR X (binaryOp .Mod) rModU := op_mod
def rDivU : R2 := fun x y H Q => ∃ i j, x = .int i ∧ y = .int j ∧ CDiv i j ∧ Q (.int (i / j)) H
theorem uDiv {X : Cx} : OpR X (binaryOp .FloorDiv) rDivU := op_fdiv
def rPowU : R2 := fun x y H Q => ∃ i j, x = .int i ∧ y = .int j ∧ CPow i j ∧ Q (.int (i ^ j.toNat)) H
theorem uPow {X : Cx} : OpR X (binaryOp .Pow) rPowU := op_pow
def rLtU : R2 := fun x y H Q => ∃ i j, x = .int i ∧ y = .int j ∧ Q (.bl (decide (i < j))) H
theorem uLt {X : Cx} : OpR X (compareOp .Lt) rLtU := op_lt
def rLeU : R2 := fun x y H Q => ∃ i j, x = .int i ∧ y = .int j ∧ Q (.bl (decide (i ≤ j))) H
theorem uLe {X : Cx} : OpR X (compareOp .LtE) rLeU := op_le
def rGtU : R2 := fun x y H Q => ∃ i j, x = .int i ∧ y = .int j ∧ Q (.bl (decide (j < i))) H
theorem uGt {X : Cx} : OpR X (compareOp .Gt) rGtU := op_gt
def rGeU : R2 := fun x y H Q => ∃ i j, x = .int i ∧ y = .int j ∧ Q (.bl (decide (j ≤ i))) H
theorem uGe {X : Cx} : OpR X (compareOp .GtE) rGeU := op_ge
def rEqU (K : PySem.W.Frag) : R2 := fun x y H Q => rEq x y H Q ∨ rEqD K x y H Q
theorem uEq {X : Cx} {k : Nat} (hr : Room k X.A) : OpR X (compareOp .Eq) (rEqU X.K) := op_eq.or (op_eqD hr.units)
def rNeU (K : PySem.W.Frag) : R2 := fun x y H Q => rNe x y H Q ∨ rNeD K x y H Q
theorem uNe {X : Cx} {k : Nat} (hr : Room k X.A) : OpR X (compareOp .NotEq) (rNeU X.K) := op_ne.or (op_neD hr.units)
def rInU (K : PySem.W.Frag) : R2 := fun x y H Q => (∃ (c : Nat) (z : Str), x = .str ⟨#[c]⟩ ∧ y = .str z ∧ Q (.bl (decide (c ∈ z.cps.toList))) H) ∨ rIn K false x y H Q
theorem uIn {X : Cx} : OpR X (compareOp .In) (rInU X.K) := op_in_sign.or op_in_seq
def rSlU (K : PySem.W.Frag) : V → Option Int → Option Int → Hp → VK → Prop := fun x lo hi H Q => rSlL K x lo hi H Q ∨ rSlS x lo hi H Q ∨ rSlA K x lo hi H Q
theorem uSl {X : Cx} : SlR X (rSlU X.K) := sl_list.or (sl_str.or sl_tupA)
/-- a written text, by its signs -/
theorem pe_tx {X : Cx} {x : Str} {j : Nat} {pos : Pos} (l : List Nat) (h : x = tx l) : PE X (.Constant (.str x) j pos) (tC (.str (tx l))) := by
  rw [h]
  exact pe_str

/-! ### the steps -/
section
variable {K : PySem.W.Frag} {σ : SSt} {H : Hp} {Q : VK} {D : Ends} {ta tb tc te to : TE} {t tr tk : TA} {tt tu : TT} {t1 t2 : TS} {r : R2} {i j k : Int} {n m : Nat} {b c : Bool} {v w : V} {l z : List Nat} {p q a : Addr} {xs ys zs : List V} {sp : Sp} {E : SSt → XK}
theorem w_var (h : σ[n]? = some (some v)) (q : Q v H) : tVar n σ H Q := ⟨v, h, q⟩
theorem w_c (q : Q v H) : tC v σ H Q := q
theorem w_op (q : ta σ H fun x H1 => tb σ H1 fun y H2 => r x y H2 Q) : tOp r ta tb σ H Q := q
theorem w_un {u : V → Hp → VK → Prop} (q : ta σ H fun x H1 => u x H1 Q) : tUn u ta σ H Q := q
theorem w_neg (q : Q (.int (-i)) H) : rU (fun i => .int (-i)) (.int i) H Q := ⟨i, rfl, q⟩
theorem w_nil {Q : List V → Hp → Prop} (q : Q [] H) : tNil σ H Q := q
theorem w_cons {Q : List V → Hp → Prop} (q : ta σ H fun x H1 => tr σ H1 fun xs H2 => Q (x :: xs) H2) : tCons ta tr σ H Q := q
theorem w_call (q : t σ H fun vs H1 => sp vs H1 Q (E σ)) : tCallS sp E t σ H Q := q
theorem w_cb {u : List V → Hp → VK → Prop} (q : t σ H fun vs H1 => u vs H1 Q) : tCB u t σ H Q := q
theorem w_bm {T : String} {u : V → List V → Hp → VK → Prop} (q : to σ H fun x H1 => tyV K T x H1 ∧ t σ H1 fun xs H2 => u x xs H2 Q) : tBM K T u to t σ H Q := q
theorem w_bm0 {T : String} {u : V → List V → Hp → VK → Prop} (q : to σ H fun x H1 => tyV K T x H1 ∧ u x [] H1 Q) : tBM0 K T u to σ H Q := q
theorem w_m1 {u : V → List V → Hp → VK → Prop} (q : to σ H fun x H1 => (∃ a, x = .str a) ∧ te σ H1 fun y H2 => u x [y] H2 Q) : tM1 u to te σ H Q := q
theorem w_test {Q : Bool → Hp → Prop} (q : te σ H fun x H' => ∃ k, x = .bl k ∧ Q k H') : tTest te σ H Q := q
theorem w_B {Q : Bool → Hp → Prop} (q : te σ H fun x H' => ∃ k, x = .bl k ∧ Q k H') : tB te σ H Q := q
theorem w_k {Q : Bool → Prop} (q : Q b) : ∃ k, V.bl b = .bl k ∧ Q k := ⟨b, rfl, q⟩
theorem w_and {Q : Bool → Hp → Prop} (q : tt σ H fun c H1 => if c = true then tu σ H1 Q else Q false H1) : tAnd tt tu σ H Q := q
theorem w_or {Q : Bool → Hp → Prop} (q : tt σ H fun c H1 => if c = true then Q true H1 else tu σ H1 Q) : tOr tt tu σ H Q := q
theorem w_not {Q : Bool → Hp → Prop} (q : tt σ H fun c H1 => Q (!c) H1) : tNot tt σ H Q := q
theorem w_andV (q : ta σ H fun x H1 => ∃ c, x = .bl c ∧ if c = true then tb σ H1 Q else Q (.bl false) H1) : tAndV ta tb σ H Q := q
theorem w_orV (q : ta σ H fun x H1 => ∃ c, x = .bl c ∧ if c = true then Q (.bl true) H1 else tb σ H1 Q) : tOrV ta tb σ H Q := q
theorem w_notV (q : ta σ H fun x H1 => ∃ c, x = .bl c ∧ Q (.bl (!c)) H1) : tNotV ta σ H Q := q
theorem w_ifE (q : tt σ H fun c H1 => if c = true then ta σ H1 Q else tb σ H1 Q) : tIf tt ta tb σ H Q := q
theorem w_tup (q : t σ H fun xs H1 => xs.length ≤ sizeLine ∧ ∀ p, H1 p = none → Q (.ref p) (upd H1 p (.tup xs))) : tTup t σ H Q := q
theorem w_lst (q : t σ H fun xs H1 => xs.length ≤ sizeLine ∧ ∀ p, H1 p = none → Q (.ref p) (upd H1 p (.lst xs))) : tLst t σ H Q := q
theorem w_chain {r' : R2} (q : ta σ H fun x H1 => tb σ H1 fun y H2 => r x y H2 fun z H3 => ∃ k, z = .bl k ∧ (if k = true then tc σ H3 fun w' H4 => r' y w' H4 Q else Q (.bl false) H3)) : tChain r r' ta tb tc σ H Q := q
theorem w_sl {u : V → Option Int → Option Int → Hp → VK → Prop} {tl th : TO} (q : te σ H fun x H1 => tl σ H1 fun lo H2 => th σ H2 fun hi H3 => u x lo hi H3 Q) : tSl u te tl th σ H Q := q
theorem w_np {Q : Option Int → Hp → Prop} (q : Q none H) : tNoPart σ H Q := q
theorem w_part {Q : Option Int → Hp → Prop} (q : te σ H fun x H1 => ∃ i, x = .int i ∧ Q (some i) H1) : tPart te σ H Q := q
theorem w_i {Q : Int → Prop} (q : Q i) : ∃ k, V.int i = .int k ∧ Q k := ⟨i, rfl, q⟩
/-! statements -/
theorem w_seq (q : t1 { D with nx := t2 D } σ H) : tSeq t1 t2 D σ H := q
theorem w_next (q : D.nx σ H) : tNext D σ H := q
theorem w_brk (q : D.bk σ H) : tBreak D σ H := q
theorem w_cont (q : D.ct σ H) : tCont D σ H := q
theorem w_asg {g : TG} (q : te σ H fun x H1 => g x σ H1 D.nx) : tAsg te g D σ H := q
theorem w_name {Q : SSt → Hp → Prop} (q : Q (σ.set n (some v)) H) : gName n v σ H Q := q
theorem w_par {t : TA} (q : t σ H fun vs H1 => ∃ v w, vs = [v, w] ∧ D.nx ((σ.set n (some v)).set m (some w)) H1) : tPar n m t D σ H := q
theorem w_two {Q : V → V → Prop} (q : Q v w) : ∃ x y, [v, w] = [x, y] ∧ Q x y := ⟨v, w, rfl, q⟩
theorem w_ret (q : te σ H D.rt) : tRet te D σ H := q
theorem w_retN (q : D.rt .non H) : tRetN D σ H := q
theorem w_drop (q : te σ H fun _ H1 => D.nx σ H1) : tDrop te D σ H := q
theorem w_ifS (q : tt σ H fun b H1 => if b = true then t1 D σ H1 else t2 D σ H1) : tIfS tt t1 t2 D σ H := q
theorem w_gtup {tg : TGs} {Q : SSt → Hp → Prop} (q : ∃ a xs, v = .ref a ∧ SqT K H a xs ∧ xs.length = n ∧ tg xs σ H Q) : gTup K n tg v σ H Q := q
theorem w_gnil {Q : SSt → Hp → Prop} (q : Q σ H) : gNil [] σ H Q := ⟨rfl, q⟩
theorem w_gcons {g : TG} {gs : TGs} {Q : SSt → Hp → Prop} (q : g v σ H fun σ' H' => gs xs σ' H' Q) : gCons g gs (v :: xs) σ H Q := ⟨v, xs, rfl, q⟩
theorem w_sub {ti : TE} {s : TSet} {Q : SSt → Hp → Prop} (q : to σ H fun o H1 => ti σ H1 fun i H2 => s o i v H2 fun H3 => Q σ H3) : gSub to ti s v σ H Q := q
theorem w_aug {ti : TIp} (h : σ[n]? = some (some v)) (q : te σ H fun y H1 => ti v y H1 fun z H2 => D.nx (σ.set n (some z)) H2) : tAug n te ti D σ H := ⟨v, h, q⟩
/-! values -/
theorem w_addI (q : Q (.int (i + j)) H) : rAddU K (.int i) (.int j) H Q := .inl ⟨i, j, rfl, rfl, q⟩
theorem w_addS (q : Q (.str (tx (l ++ z))) H) (h : l.length + z.length ≤ 16777216) : rAddU K (.str (tx l)) (.str (tx z)) H Q :=
  .inr (.inl ⟨tx l, tx z, rfl, rfl, by rw [tx_len, tx_len, sizeLine_eq]; exact h, by rw [tx_app]; exact q⟩)
theorem w_addL (h1 : H p = some (.lst xs)) (h2 : H q = some (.lst ys)) (h : xs.length + ys.length ≤ 16777216) (k : ∀ a, H a = none → Q (.ref a) (upd H a (.lst (xs ++ ys)))) : rAddU K (.ref p) (.ref q) H Q :=
  .inr (.inr (.inl ⟨p, q, xs, ys, rfl, rfl, h1, h2, by rw [sizeLine_eq]; exact h, k⟩))
theorem w_mulI (q : Q (.int (i * j)) H) (h : CMul i j) : rMulU (.int i) (.int j) H Q := .inl ⟨i, j, rfl, rfl, h, q⟩
theorem w_mulS (q : Q (.str (tx (List.replicate i.toNat l).flatten)) H) (h : i ≤ 1000000 ∧ -1000000 ≤ i ∧ l.length ≤ 1000000 ∧ l.length * i.toNat ≤ 16777216) : rMulU (.str (tx l)) (.int i) H Q :=
  .inr ⟨l, i, rfl, rfl, h.1, h.2.1, h.2.2.1, h.2.2.2, q⟩
theorem w_subI (q : Q (.int (i - j)) H) : rSubU (.int i) (.int j) H Q := ⟨i, j, rfl, rfl, q⟩
theorem w_modI (q : Q (.int (i % j)) H) (h : 0 < j) : rModU (.int i) (.int j) H Q := ⟨i, j, rfl, rfl, h, q⟩
theorem w_divI (q : Q (.int (i / j)) H) (h : 0 < j ∧ j < 1073741824) : rDivU (.int i) (.int j) H Q := ⟨i, j, rfl, rfl, h, q⟩
theorem w_powI (q : Q (.int (i ^ j.toNat)) H) (h : 0 ≤ j ∧ j ≤ 1000000 ∧ i.natAbs < 2 ^ 64) : rPowU (.int i) (.int j) H Q := ⟨i, j, rfl, rfl, h, q⟩
theorem w_lt (q : Q (.bl (decide (i < j))) H) : rLtU (.int i) (.int j) H Q := ⟨i, j, rfl, rfl, q⟩
theorem w_le (q : Q (.bl (decide (i ≤ j))) H) : rLeU (.int i) (.int j) H Q := ⟨i, j, rfl, rfl, q⟩
theorem w_gt (q : Q (.bl (decide (j < i))) H) : rGtU (.int i) (.int j) H Q := ⟨i, j, rfl, rfl, q⟩
theorem w_ge (q : Q (.bl (decide (j ≤ i))) H) : rGeU (.int i) (.int j) H Q := ⟨i, j, rfl, rfl, q⟩
theorem w_eqI (q : Q (.bl (decide (i = j))) H) : rEqU K (.int i) (.int j) H Q := .inl ⟨rfl, by
  have e : decide (V.int i = V.int j) = decide (i = j) := decide_eq_decide.mpr ⟨fun h => V.int.inj h, fun h => by rw [h]⟩
  rw [e]; exact q⟩
theorem w_neI (q : Q (.bl (!decide (i = j))) H) : rNeU K (.int i) (.int j) H Q := .inl ⟨rfl, by
  have e : decide (V.int i = V.int j) = decide (i = j) := decide_eq_decide.mpr ⟨fun h => V.int.inj h, fun h => by rw [h]⟩
  rw [e]; exact q⟩
theorem str_dec : decide (V.str (tx l) = V.str (tx z)) = decide (l = z) := decide_eq_decide.mpr ⟨fun h => tx_inj (V.str.inj h), fun h => by rw [h]⟩
theorem w_eqS (q : Q (.bl (decide (l = z))) H) : rEqU K (.str (tx l)) (.str (tx z)) H Q := .inl ⟨rfl, by rw [str_dec]; exact q⟩
theorem w_neS (q : Q (.bl (!decide (l = z))) H) : rNeU K (.str (tx l)) (.str (tx z)) H Q := .inl ⟨rfl, by rw [str_dec]; exact q⟩
theorem w_ixL (h : SqL K H p xs) (hi : atI xs i = some v) (q : Q v H) : rIx K (.ref p) (.int i) H Q := .inl ⟨p, xs, i, v, rfl, rfl, h, hi, q⟩
theorem w_ixT (h : SqT K H p xs) (hi : atI xs i = some v) (q : Q v H) : rIx K (.ref p) (.int i) H Q := .inr (.inl ⟨p, xs, i, v, rfl, rfl, h, hi, q⟩)
theorem w_ixS {c : Nat} (hi : atI l i = some c) (q : Q (.str (tx [c])) H) (h : l.length ≤ 16777216) : rIx K (.str (tx l)) (.int i) H Q :=
  .inr (.inr ⟨tx l, i, c, rfl, rfl, by rw [tx_len, sizeLine_eq]; exact h, hi, q⟩)
theorem w_lenS (q : Q (.int (l.length : Int)) H) (h : l.length ≤ 16777216) : (fun xs H Q => ∃ x n, xs = [x] ∧ LenV K x H n ∧ Q (.int (n : Nat)) H : List V → Hp → VK → Prop) [.str (tx l)] H Q :=
  ⟨_, l.length, rfl, ⟨by rw [tx_len, sizeLine_eq]; exact h, (tx_len l).symm⟩, q⟩
theorem w_lenL (h : SqL K H p xs) (q : Q (.int (xs.length : Int)) H) : (fun xs H Q => ∃ x n, xs = [x] ∧ LenV K x H n ∧ Q (.int (n : Nat)) H : List V → Hp → VK → Prop) [.ref p] H Q :=
  ⟨_, xs.length, rfl, .inl ⟨xs, h, rfl⟩, q⟩
theorem w_lenT (h : SqT K H p xs) (q : Q (.int (xs.length : Int)) H) : (fun xs H Q => ∃ x n, xs = [x] ∧ LenV K x H n ∧ Q (.int (n : Nat)) H : List V → Hp → VK → Prop) [.ref p] H Q :=
  ⟨_, xs.length, rfl, .inr ⟨xs, h, rfl⟩, q⟩
end
end SL
set_option Elab.async false
set_option linter.all false
set_option maxRecDepth 100000
set_option maxHeartbeats 4000000
/-! SlE: the defs of a text, the end of a law, built-ins whatever the values are. -/
namespace SL
open PySem PySem.Spec PyProof.Rows L2
/-- a def of the text stands under its name -/
structure DefAt (K : PySem.W.Frag) (mg : Str → Option Value) (x : Str) (st : Stmt) (ps : List Str) : Prop where
  ex : ∃ (f : Addr) (fd : FuncData), Fun K x x st f fd ∧ mg x = some (.ref f) ∧ ∀ (s : Shared) (us : List Value), us.length = ps.length → BindsTo s fd ⟨us, []⟩ (ps.zip us)
theorem DefAt.of {K : PySem.W.Frag} {mg : Str → Option Value} {x : Str} {st : Stmt} {ps : List Str} (f : Addr) (fd : FuncData) (F : Fun K x x st f fd) (hm : mg x = some (.ref f))
    (hb : ∀ (s : Shared) (us : List Value), us.length = ps.length → BindsTo s fd ⟨us, []⟩ (ps.zip us)) : DefAt K mg x st ps := ⟨⟨f, fd, F, hm, hb⟩⟩
abbrev E0s : SSt → XK := fun _ => E0
theorem noX {X : Cx} : ∀ σ, PassesAt (L2.CX X.prog X.w) X σ (E0s σ) := fun σ _ _ _ _ _ _ h => by
  obtain ⟨_, _, _, _, _, _, _, _, _, _, _, _, z⟩ := h
  exact z.elim
section
variable {P : Program} {w : World} {K : PySem.W.Frag} {mg : Str → Option Value} {base : Heap} {x : Str} {st : Stmt} {N ps : List Str} {k : Nat} {sp : Sp}
theorem fn0 {f : Addr} {fd : FuncData} (F : Fun K x x st f fd) (S : FnScope N ps (defScope st)) (len : ∀ vs H Q E, sp vs H Q E → vs.length = ps.length)
    (hbody : ∀ (cdv : Value) (f : Addr) (A : Around) (outer : List Env) (s : Shared) (H : Hp) (vs : List V) (Q : VK) (E : XK),
      Room k (A.deeper (envOfC x (defScope st) s.heap.objs.size f cdv)) → (A.deeper (envOfC x (defScope st) s.heap.objs.size f cdv)).guards = some [] → sp vs H Q E →
      ∃ t, PSs (cxOf (L2.CX P w) P w K mg base N x (defScope st) f cdv A outer s H E).nox (defBody st) t ∧ t { nx := fun _ H' => Q .non H', rt := Q } (start N vs) H) : FnG P w K mg base (k + 1) f fd ps sp :=
  fnG_of F S len fun cdv A outer s H vs Q E hr hg h => by
    obtain ⟨t, h1, h2⟩ := hbody cdv f A outer s H vs Q E hr hg h
    exact ⟨t, h1.nox, h2⟩
/-- a def that lets nothing out -/
theorem cal0 (D : DefAt K mg x st ps) (S : FnScope N ps (defScope st)) (len : ∀ vs H Q E, sp vs H Q E → vs.length = ps.length)
    (hbody : ∀ (cdv : Value) (f : Addr) (A : Around) (outer : List Env) (s : Shared) (H : Hp) (vs : List V) (Q : VK) (E : XK),
      Room k (A.deeper (envOfC x (defScope st) s.heap.objs.size f cdv)) → (A.deeper (envOfC x (defScope st) s.heap.objs.size f cdv)).guards = some [] → sp vs H Q E →
      ∃ t, PSs (cxOf (L2.CX P w) P w K mg base N x (defScope st) f cdv A outer s H E).nox (defBody st) t ∧ t { nx := fun _ H' => Q .non H', rt := Q } (start N vs) H) : Cal P w K mg base (k + 1) x ps sp := by
  obtain ⟨f, fd, F, hm, hb⟩ := D.ex
  exact ⟨f, fd, fn0 F S len hbody, hm, F.kp, hb⟩
/-- a def that may raise -/
theorem calX (D : DefAt K mg x st ps) (S : FnScope N ps (defScope st)) (len : ∀ vs H Q E, sp vs H Q E → vs.length = ps.length)
    (hbody : ∀ (cdv : Value) (f : Addr) (A : Around) (outer : List Env) (s : Shared) (H : Hp) (vs : List V) (Q : VK) (E : XK),
      Room k (A.deeper (envOfC x (defScope st) s.heap.objs.size f cdv)) → (A.deeper (envOfC x (defScope st) s.heap.objs.size f cdv)).guards = some [] → sp vs H Q E →
      ∃ t, PSs (cxOf (L2.CX P w) P w K mg base N x (defScope st) f cdv A outer s H E) (defBody st) t ∧ t { nx := fun _ H' => Q .non H', rt := Q } (start N vs) H) : Cal P w K mg base (k + 1) x ps sp := by
  obtain ⟨f, fd, F, hm, hb⟩ := D.ex
  exact ⟨f, fd, fnG_of F S len fun cdv A outer s H vs Q E hr hg h => hbody cdv f A outer s H vs Q E hr hg h, hm, F.kp, hb⟩
end

/-! ### the end of a law -/
/-- the law's call, from the heap behind the top; H tracks nothing but the script -/
theorem law_enter {P : Program} {w : World} {K : PySem.W.Frag} {mg mb : Str → Option Value} {k : Nat} {fa a : Addr} {fd : FuncData} {x : Str} {sp : Sp} {s₁ : Shared} {vs : List Value} {H : Hp}
    (KX : K.In s₁.heap) (hns : s₁.heap.Ns mainGlobals mg) (hb : s₁.heap.Ns builtinsNs mb) (hbb : ∀ x : Str, x ≠ "__name__" → mb x = bootBuiltins x) (hlim : s₁.heap.NoLimit) (hg : s₁.gens = #[])
    (ha : s₁.heap.get? a = some { cls := .type "list", data := .seq vs.toArray }) (hr : Room k callerA)
    (F : ∀ base : Heap, K.In base → base.Ns mainGlobals mg → FnG P w K mg base k fa fd [x] sp) (hbind : ∀ (s : Shared) (u : Value), BindsTo s fd ⟨[u], []⟩ [(x, u)])
    (hO : Only H) (hok : HOk P w H s₁.heap) (hA : ∀ b, H b ≠ none → b = a) (hK : H a ≠ none → K.lookup a = none)
    (hsp : sp [.ref a] H (fun v _ => v = .bl true) fun _ _ _ => False) :
    codeAny (model P w) callerA (.call (.ref fa) ⟨[.ref a], []⟩) (fun r s' => r = .ok (.ret (.bool true)) ∧ OldK s₁.heap s'.heap ∧ s'.os = s₁.os ∧ AllBare s'.gens) s₁ := by
  have only : ∀ b, H b = none ∨ b = a := fun b => by
    cases q : H b with
    | none => exact Or.inl rfl
    | some _ => exact Or.inr (hA b (by rw [q]; exact Option.some_ne_none _))
  have hid : ∀ {b : Addr} {o : Obj}, s₁.heap.get? b = some o → H b = none → (hidT s₁.heap H).get? b = some o := fun e n => hidT_get e n
  have notDict : ∀ {b : Addr} {o : Obj} {es : Array DictEntry} {ep : Nat}, s₁.heap.get? b = some o → o.data = .dict es ep → H b = none := fun {b o es ep} e d => by
    rcases only b with q | q
    · exact q
    · rw [q, ha] at e
      cases e
      cases (show Data.seq vs.toArray _ = Data.dict es ep from d)
  have keepNs : ∀ {b : Addr} {m : Str → Option Value}, s₁.heap.Ns b m → (hidT s₁.heap H).Ns b m := fun {b m} ⟨o, es, ep, e, d, r⟩ => ⟨o, es, ep, hid e (notDict e d), d, r⟩
  have kb : K.In (hidT s₁.heap H) := fun b o e => hid (KX b o e) (by
    rcases only b with q | q
    · exact q
    · cases z : H b with
      | none => rfl
      | some u =>
        rw [q] at z e
        rw [hK (by rw [z]; exact Option.some_ne_none _)] at e
        cases e)
  have lim : (hidT s₁.heap H).NoLimit := by
    obtain ⟨mc, h1, h2⟩ := hlim
    exact ⟨mc, keepNs h1, h2⟩
  have md : Mod K mg (hidT s₁.heap H) := ⟨kb, keepNs hns, ⟨mb, keepNs hb, hbb⟩, lim⟩
  have e0 : Env0 P w K mg (hidT s₁.heap H) callerA [] s₁ H :=
    ⟨rfl, md, fun b o e => of_hidT e, Nat.le_of_eq (hidT_size _ _), trivial, fun b z => absurd (show b ∈ ([] : List Addr) from z) List.not_mem_nil, hok, AllBare.of_eq hg⟩
  refine codeAny_mono ((F _ kb (keepNs hns)).run callerA [] s₁ H ⟨[.ref a], []⟩ [.ref a] [.ref a] _ _ hr rfl e0 (hbind s₁ (.ref a)) (.cons rfl .nil) hsp) ?_
  intro r s' h
  match r, h with
  | .error e, h =>
    obtain ⟨_, _, _, _, _, _, _, _, _, _, _, _, z⟩ := h
    exact z.elim
  | .ok (.ret u), ⟨v, H', os, bare, un, hok', r', q⟩ =>
    have q' : v = .bl true := q
    subst q'
    obtain rfl : u = Value.bool true := r'
    refine ⟨rfl, OldK.of_keep fun b o e => ?_, os, bare⟩
    cases z : H b with
    | none => exact un.keep b o e z (fun y => absurd (show b ∈ ([] : List Addr) from y) List.not_mem_nil) List.not_mem_nil
    | some u =>
      rcases hO b with y | ⟨ob, xs, y⟩
      · rw [z] at y
        cases y
      · obtain ⟨e1, _⟩ := hok b _ y
        obtain ⟨e2, _⟩ := hok' b _ (un.frzs b ob _ y)
        rw [e] at e1
        cases e1
        exact e2
theorem law_any {P : Program} {w : World} {K : PySem.W.Frag} {mg mb : Str → Option Value} {k : Nat} {fa a : Addr} {fd : FuncData} {x : Str} {sp : Sp} {s₁ : Shared} {vs : List Value} {ns : List Int}
    (KX : K.In s₁.heap) (hns : s₁.heap.Ns mainGlobals mg) (hb : s₁.heap.Ns builtinsNs mb) (hbb : ∀ x : Str, x ≠ "__name__" → mb x = bootBuiltins x) (hlim : s₁.heap.NoLimit) (hg : s₁.gens = #[])
    (ha : s₁.heap.get? a = some { cls := .type "list", data := .seq vs.toArray }) (hi : IntsAre vs ns) (hl : ns.length ≤ sizeLine) (hr : Room k callerA)
    (F : ∀ base : Heap, K.In base → base.Ns mainGlobals mg → FnG P w K mg base k fa fd [x] sp) (hbind : ∀ (s : Shared) (u : Value), BindsTo s fd ⟨[u], []⟩ [(x, u)])
    (hsp : ∀ H : Hp, Only H → SqL K H a (ns.map V.int) → sp [.ref a] H (fun v _ => v = .bl true) fun _ _ _ => False) :
    codeAny (model P w) callerA (.call (.ref fa) ⟨[.ref a], []⟩) (fun r s' => r = .ok (.ret (.bool true)) ∧ OldK s₁.heap s'.heap ∧ s'.os = s₁.os ∧ AllBare s'.gens) s₁ := by
  have rv := vals_ints hi
  have lenV := hi.length
  cases hk : K.lookup a with
  | some o =>
    have e := KX a o hk
    rw [ha] at e
    cases e
    have hO : Only (fun _ => none) := fun _ => Or.inl rfl
    refine law_enter (H := fun _ => none) KX hns hb hbb hlim hg ha hr F hbind hO (fun b u z => nomatch z) (fun b z => absurd rfl z) (fun z => absurd rfl z) (hsp _ hO (Or.inr ⟨_, vs.toArray, _, hk, rfl, rfl, rfl, ?_, by simpa using rv⟩))
    rw [List.size_toArray, lenV]
    exact hl
  | none =>
    have at_a : (fun b => if b = a then some (HO.frz { cls := .type "list", data := .seq vs.toArray } (.lst (ns.map V.int))) else none : Hp) a = some (HO.frz { cls := .type "list", data := .seq vs.toArray } (.lst (ns.map V.int))) := if_pos rfl
    have off_a : ∀ b, b ≠ a → (fun b => if b = a then some (HO.frz { cls := .type "list", data := .seq vs.toArray } (.lst (ns.map V.int))) else none : Hp) b = none := fun b hb => if_neg hb
    have hO : Only (fun b => if b = a then some (HO.frz { cls := .type "list", data := .seq vs.toArray } (.lst (ns.map V.int))) else none) := fun b => by
      by_cases hb : b = a
      · subst hb
        exact Or.inr ⟨_, _, at_a⟩
      · exact Or.inl (off_a b hb)
    refine law_enter KX hns hb hbb hlim hg ha hr F hbind hO (fun b u z => ?_) (fun b z => ?_) (fun _ => hk) (hsp _ hO (Or.inl (Or.inr ⟨_, at_a⟩)))
    · by_cases hb : b = a
      · subst hb
        have z2 := Option.some.inj (at_a.symm.trans z)
        subst z2
        exact ⟨ha, by rw [List.length_map]; exact hl, vs, _, rv, ha⟩
      · cases (off_a b hb).symm.trans z
    · by_cases hb : b = a
      · exact hb
      · exact absurd (off_a b hb) z
theorem walk_g {l : PySem.W.OpenLaw} {n k : Nat} {q : Program} {loose : List Str} {XP : (Str → Option Value) → Heap → Prop} {YP : World → Heap → Prop} {d : DefRec} {K : Params → PySem.W.Frag} {sp : PySem.W.Frag → Sp} {x : Str}
    (hn : l.most = some n) (hn2 : n ≤ sizeLine) (hdf : d.params.defaults = []) (hr : Room k callerA)
    (hY : ∀ (w : World) (h : Heap), YP w h → (K w.params).In h)
    (F : ∀ (w : World) (mg : Str → Option Value) (fa : Addr) (h : Heap), (K w.params).In h → h.Ns mainGlobals mg → mg d.name = some (.ref fa) →
      ∃ fd : FuncData, (∀ (s : Shared) (u : Value), BindsTo s fd ⟨[u], []⟩ [(x, u)]) ∧
        ∀ base : Heap, (K w.params).In base → base.Ns mainGlobals mg → FnG l.prog w (K w.params) mg base k fa fd [x] (sp (K w.params)))
    (hsp : ∀ (K : PySem.W.Frag) (H : Hp) (a : Addr) (ns : List Int), ns.length ≤ n → Only H → SqL K H a (ns.map V.int) → sp K [.ref a] H (fun v _ => v = .bl true) fun _ _ _ => False) :
    PySem.W.WalkO q loose XP YP l.row.toRowW d [] (fun f vs => PySem.call f vs) := by
  refine Att.attach_call hn hdf ?_
  intro w s₀ s₁ mg mb fa o pm cd doc a vs ns G Y ho hd hcd hmg hobj hints hlen hg
  have KX := hY w _ Y
  obtain ⟨fd, hb, hF⟩ := F w mg fa _ KX G.T.g hmg
  exact law_any KX G.T.g G.T.b G.T.builtins G.T.nolimit hg hobj hints (Nat.le_trans hlen hn2) hr hF hb fun H hO hS => hsp _ H a ns hlen hO hS

/-! ### built-ins -/
section
variable {X : Cx}
def rLenU (K : PySem.W.Frag) : List V → Hp → VK → Prop := fun xs H Q => ∃ x n, xs = [x] ∧ LenV K x H n ∧ Q (.int n) H
theorem uLen : CallR X (.builtin "len") (rLenU X.K) := call_len
def rAbsU : List V → Hp → VK → Prop := fun xs H Q => ∃ i, xs = [.int i] ∧ Q (.int (if i < 0 then -i else i)) H
theorem uAbs : CallR X (.builtin "abs") rAbsU := call_abs
def rIntU : List V → Hp → VK → Prop := fun xs H Q => (∃ i, xs = [.int i] ∧ Q (.int i) H) ∨ ∃ k, xs = [.bl k] ∧ Q (.int (if k then 1 else 0)) H
theorem uInt : CallR X (.type "int") rIntU := call_int1
theorem uIsi : CallR X (.builtin "isinstance") (rIsi X.K) := call_isi
theorem uIsiT : CallR X (.builtin "isinstance") (rIsiT X.K) := call_isiT
def rMin2U : List V → Hp → VK → Prop := fun xs H Q => ∃ i j, xs = [.int i, .int j] ∧ Q (.int (if j < i then j else i)) H
theorem uMin2 (hc : X.calm = true) : CallR X (.builtin "min") rMin2U := call_min2 hc
def rMax2U : List V → Hp → VK → Prop := fun xs H Q => ∃ i j, xs = [.int i, .int j] ∧ Q (.int (if j > i then j else i)) H
theorem uMax2 (hc : X.calm = true) : CallR X (.builtin "max") rMax2U := call_max2 hc
def rMin3U : List V → Hp → VK → Prop := fun xs H Q => ∃ i j k, xs = [.int i, .int j, .int k] ∧ Q (.int (min (min i j) k)) H
theorem uMin3 (hc : X.calm = true) : CallR X (.builtin "min") rMin3U := call_min3I hc
def rListU (K : PySem.W.Frag) : List V → Hp → VK → Prop := fun xs H Q => ∃ p ys, xs = [.ref p] ∧ (SqL K H p ys ∨ SqT K H p ys) ∧ ∀ l, H l = none → Q (.ref l) (upd H l (.lst ys))
theorem uList : CallR X (.type "list") (rListU X.K) := call_list_of
def rReprI : List V → Hp → VK → Prop := fun xs H Q => ∃ i, xs = [.int i] ∧ i.natAbs.log2 < 1920 ∧ Q (.str (toString i)) H
theorem uReprI : CallR X (.builtin "repr") rReprI := SkE.call_repr_int
section
variable {K : PySem.W.Frag} {H : Hp} {Q : VK} {i j k : Int} {v : V} {b : Bool} {l : List Nat} {p : Addr} {xs : List V} {ns : List Int} {n : String}
theorem w_lenS' (q : Q (.int (l.length : Int)) H) (h : l.length ≤ 16777216) : rLenU K [.str (tx l)] H Q := ⟨_, l.length, rfl, ⟨by rw [tx_len, sizeLine_eq]; exact h, (tx_len l).symm⟩, q⟩
theorem w_lenL' (h : SqL K H p xs) (q : Q (.int (xs.length : Int)) H) : rLenU K [.ref p] H Q := ⟨_, xs.length, rfl, .inl ⟨xs, h, rfl⟩, q⟩
theorem w_lenT' (h : SqT K H p xs) (q : Q (.int (xs.length : Int)) H) : rLenU K [.ref p] H Q := ⟨_, xs.length, rfl, .inr ⟨xs, h, rfl⟩, q⟩
theorem w_abs (q : Q (.int (if i < 0 then -i else i)) H) : rAbsU [.int i] H Q := ⟨i, rfl, q⟩
theorem w_int (q : Q (.int i) H) : rIntU [.int i] H Q := .inl ⟨i, rfl, q⟩
theorem w_intB (q : Q (.int (if b then 1 else 0)) H) : rIntU [.bl b] H Q := .inr ⟨b, rfl, q⟩
theorem w_min2 (q : Q (.int (if j < i then j else i)) H) : rMin2U [.int i, .int j] H Q := ⟨i, j, rfl, q⟩
theorem w_max2 (q : Q (.int (if j > i then j else i)) H) : rMax2U [.int i, .int j] H Q := ⟨i, j, rfl, q⟩
theorem w_min3 (q : Q (.int (min (min i j) k)) H) : rMin3U [.int i, .int j, .int k] H Q := ⟨i, j, k, rfl, q⟩
theorem w_listL (h : SqL K H p xs) (q : ∀ l, H l = none → Q (.ref l) (upd H l (.lst xs))) : rListU K [.ref p] H Q := ⟨p, xs, rfl, .inl h, q⟩
theorem w_listT (h : SqT K H p xs) (q : ∀ l, H l = none → Q (.ref l) (upd H l (.lst xs))) : rListU K [.ref p] H Q := ⟨p, xs, rfl, .inr h, q⟩
theorem w_reprI (q : Q (.str (toString i)) H) (h : i.natAbs < 2 ^ 1000) : rReprI [.int i] H Q := ⟨i, rfl, by
  by_cases h0 : i.natAbs = 0
  · rw [h0]; decide
  · exact Nat.lt_trans ((Nat.log2_lt h0).mpr h) (by decide), q⟩
theorem w_sum (h : SqL K H p (ns.map V.int)) (q : Q (.int ns.sum) H) : rSum K [.ref p] H Q := ⟨p, ns, rfl, h, q⟩
theorem w_isiS (q : Q (.bl (n == "str")) H) (h : n = "str" ∨ n = "int" ∨ n = "bool" ∨ n = "list" ∨ n = "tuple") : rIsi K [.str (tx l), .ty n] H Q := by
  refine ⟨_, _, .type "str", .type n, n == "str", rfl, .ty n, .base (.str _), kit_ty ?_, q⟩
  rcases h with rfl | rfl | rfl | rfl | rfl <;> decide +kernel
theorem w_isiI (q : Q (.bl (n == "int")) H) (h : n = "str" ∨ n = "int" ∨ n = "bool" ∨ n = "list" ∨ n = "tuple") : rIsi K [.int i, .ty n] H Q := by
  refine ⟨_, _, .type "int", .type n, n == "int", rfl, .ty n, .base (.int _), kit_ty ?_, q⟩
  rcases h with rfl | rfl | rfl | rfl | rfl <;> decide +kernel
theorem w_isiT (h0 : H p = some (.tup xs)) (q : Q (.bl (n == "tuple")) H) (h : n = "str" ∨ n = "int" ∨ n = "bool" ∨ n = "list" ∨ n = "tuple") : rIsi K [.ref p, .ty n] H Q := by
  refine ⟨_, _, .type "tuple", .type n, n == "tuple", rfl, .ty n, .base (.tup h0), kit_ty ?_, q⟩
  rcases h with rfl | rfl | rfl | rfl | rfl <;> decide +kernel
theorem w_isiL (h0 : H p = some (.lst xs)) (q : Q (.bl (n == "list")) H) (h : n = "str" ∨ n = "int" ∨ n = "bool" ∨ n = "list" ∨ n = "tuple") : rIsi K [.ref p, .ty n] H Q := by
  refine ⟨_, _, .type "list", .type n, n == "list", rfl, .ty n, .base (.lst h0), kit_ty ?_, q⟩
  rcases h with rfl | rfl | rfl | rfl | rfl <;> decide +kernel
end
end
end SL
set_option Elab.async false
set_option linter.all false
set_option maxRecDepth 100000
set_option maxHeartbeats 4000000
/-! SlF: slices by their parts, items by their places, ways to say what stands where. -/
namespace SL
open PySem PySem.Spec PyProof.Rows L2
theorem sIx_to (n d : Nat) {i : Int} (h : 0 ≤ i) : HT.sIx n d (some i) = min i.toNat n := by
  obtain ⟨k, rfl⟩ := Int.eq_ofNat_of_zero_le h
  exact HT.sIx_nat n d k
theorem sIx_no (n d : Nat) : HT.sIx n d none = d := HT.sIx_none n d
section
variable {α : Type}
theorem take_min (xs : List α) (k : Nat) : xs.take (min k xs.length) = xs.take k := by
  by_cases h : k ≤ xs.length
  · rw [Nat.min_eq_left h]
  · rw [Nat.min_eq_right (by omega), List.take_length, List.take_of_length_le (by omega)]
theorem drop_min (xs : List α) (k : Nat) : xs.drop (min k xs.length) = xs.drop k := by
  by_cases h : k ≤ xs.length
  · rw [Nat.min_eq_left h]
  · rw [Nat.min_eq_right (by omega), List.drop_length, List.drop_of_length_le (by omega)]
theorem part_to (xs : List α) {i : Int} (h : 0 ≤ i) : (xs.drop (HT.sIx xs.length 0 none)).take (HT.sIx xs.length xs.length (some i) - HT.sIx xs.length 0 none) = xs.take i.toNat := by
  rw [sIx_no, sIx_to _ _ h, List.drop_zero, Nat.sub_zero, take_min]
theorem part_from (xs : List α) {i : Int} (h : 0 ≤ i) : (xs.drop (HT.sIx xs.length 0 (some i))).take (HT.sIx xs.length xs.length none - HT.sIx xs.length 0 (some i)) = xs.drop i.toNat := by
  rw [sIx_no, sIx_to _ _ h, drop_min]
  by_cases hk : i.toNat ≤ xs.length
  · rw [Nat.min_eq_left hk, ← List.length_drop, List.take_length]
  · rw [List.drop_of_length_le (by omega), List.take_nil]
theorem part_all (xs : List α) : (xs.drop (HT.sIx xs.length 0 none)).take (HT.sIx xs.length xs.length none - HT.sIx xs.length 0 none) = xs := by
  rw [sIx_no, sIx_no, List.drop_zero, Nat.sub_zero, List.take_length]
end
theorem cutV_to (xs : List V) {i : Int} (h : 0 ≤ i) : cutV xs none (some i) = xs.take i.toNat := part_to xs h
theorem cutV_from (xs : List V) {i : Int} (h : 0 ≤ i) : cutV xs (some i) none = xs.drop i.toNat := part_from xs h
theorem cutS_to (l : List Nat) {i : Int} (h : 0 ≤ i) : cutS (tx l) none (some i) = tx (l.take i.toNat) := by
  unfold cutS
  rw [tx_len]
  show tx _ = _
  rw [part_to l h]
theorem cutS_from (l : List Nat) {i : Int} (h : 0 ≤ i) : cutS (tx l) (some i) none = tx (l.drop i.toNat) := by
  unfold cutS
  rw [tx_len]
  show tx _ = _
  rw [part_from l h]
section
variable {K : PySem.W.Frag} {H : Hp} {Q : VK} {i j : Int} {l : List Nat} {p : Addr} {xs : List V}
theorem w_sSt (q : Q (.str (tx (l.take i.toNat))) H) (h : 0 ≤ i ∧ l.length ≤ 16777216) : rSlU K (.str (tx l)) none (some i) H Q :=
  .inr (.inl ⟨_, rfl, by rw [tx_len, sizeLine_eq]; exact h.2, by rw [cutS_to l h.1]; exact q⟩)
theorem w_sSf (q : Q (.str (tx (l.drop i.toNat))) H) (h : 0 ≤ i ∧ l.length ≤ 16777216) : rSlU K (.str (tx l)) (some i) none H Q :=
  .inr (.inl ⟨_, rfl, by rw [tx_len, sizeLine_eq]; exact h.2, by rw [cutS_from l h.1]; exact q⟩)
theorem w_sLt (h1 : SqL K H p xs) (h : 0 ≤ i) (q : ∀ a, H a = none → Q (.ref a) (upd H a (.lst (xs.take i.toNat)))) : rSlU K (.ref p) none (some i) H Q :=
  .inl ⟨p, xs, rfl, h1, by rw [cutV_to xs h]; exact q⟩
theorem w_sLf (h1 : SqL K H p xs) (h : 0 ≤ i) (q : ∀ a, H a = none → Q (.ref a) (upd H a (.lst (xs.drop i.toNat)))) : rSlU K (.ref p) (some i) none H Q :=
  .inl ⟨p, xs, rfl, h1, by rw [cutV_from xs h]; exact q⟩
theorem w_revS (q : Q (.str (tx l.reverse)) H) (h : l.length ≤ 16777216) : (∃ m : List Nat, V.str (tx l) = .str (tx m) ∧ m.length ≤ 16777216 ∧ Q (.str (tx m.reverse)) H) ∨
    (∃ a ys, V.str (tx l) = .ref a ∧ SqT K H a ys ∧ ∀ p, H p = none → Q (.ref p) (upd H p (.tup ys.reverse))) := .inl ⟨l, rfl, h, q⟩
theorem w_revU {te : TE} {σ : SSt} (q : te σ H fun x H1 => (∃ l : List Nat, x = .str (tx l) ∧ l.length ≤ 16777216 ∧ Q (.str (tx l.reverse)) H1) ∨
  (∃ a xs, x = .ref a ∧ SqT K H1 a xs ∧ ∀ p, H1 p = none → Q (.ref p) (upd H1 p (.tup xs.reverse)))) : tRevU K te σ H Q := q
theorem fr_get {p b : Addr} {H' : Hp} {o : HO} (f : Fr p H H') (g : H b = some o) (n : b ≠ p) : H' b = some o := f b o g n
theorem same_get {b : Addr} {H' : Hp} {o : HO} (f : Same H H') (g : H b = some o) : H' b = some o := f b o g
theorem none_same {b : Addr} {H' : Hp} (f : Same H H') (g : H' b = none) : H b = none := f.free g
theorem fr_sql {b : Addr} {H' : Hp} (f : Fr b H H') (h : SqL K H p xs) (n : p ≠ b) : SqL K H' p xs := by
  rcases h with (h | ⟨o, h⟩) | h
  · exact .inl (.inl (f _ _ h n))
  · exact .inl (.inr ⟨o, f _ _ h n⟩)
  · exact .inr h
theorem fr_sqt {b : Addr} {H' : Hp} (f : Fr b H H') (h : SqT K H p xs) (n : p ≠ b) : SqT K H' p xs := by
  rcases h with (h | ⟨o, h⟩) | h
  · exact .inl (.inl (f _ _ h n))
  · exact .inl (.inr ⟨o, f _ _ h n⟩)
  · exact .inr h
theorem atI_n {α : Type} {xs : List α} {n : Nat} {v : α} (h : xs[n]? = some v) : atI xs (n : Int) = some v := atI_nat h
theorem atI_i {α : Type} {xs : List α} {i : Int} {v : α} (h0 : 0 ≤ i) (h : xs[i.toNat]? = some v) : atI xs i = some v := by
  obtain ⟨k, rfl⟩ := Int.eq_ofNat_of_zero_le h0
  exact atI_nat h
end
theorem int_at {ns : List Int} {k : Nat} (h : k < ns.length) : (ns.map V.int)[k]? = some (.int ns[k]) := by
  rw [List.getElem?_map, List.getElem?_eq_getElem h]
  rfl
theorem w_modN {i j : Int} {H : Hp} {Q : VK} (h : 0 < j) (q : ∀ r : Int, r = i % j → 0 ≤ r → r < j → Q (.int r) H) : rModU (.int i) (.int j) H Q :=
  ⟨i, j, rfl, rfl, h, q _ rfl (Int.emod_nonneg i (by omega)) (Int.emod_lt_of_pos i h)⟩
theorem w_setL {H : Hp} {p : Addr} {xs : List V} {k : Int} {v : V} {Q : Hp → Prop} {j : Nat} (h : H p = some (.lst xs)) (hj : ixN xs.length k = some j) (q : Q (upd H p (.lst (xs.set j v)))) : rSetL (.ref p) (.int k) v H Q :=
  ⟨p, xs, k, j, rfl, rfl, h, hj, q⟩
theorem w_ip {i j : Int} {f : Int → Int → Int} {H : Hp} {Q : VK} (q : Q (.int (f i j)) H) : ipI f (.int i) (.int j) H Q := ⟨i, j, rfl, rfl, q⟩
/-- the box that draws are taken from -/
def Box (H : Hp) (p : Addr) (c : Nat) : Prop := ∃ (g : Int) (b : Bool) (m : Int) (d : Nat), H p = some (.lst [.int g, .bl b, .int m, .int d]) ∧ 0 ≤ g ∧ 0 ≤ m ∧ m < 2147483648 ∧ d ≤ c
theorem Box.le {H : Hp} {p : Addr} {c d : Nat} (h : Box H p c) (e : c ≤ d) : Box H p d := by
  obtain ⟨g, b, m, n, h1, h2, h3, h4, h5⟩ := h
  exact ⟨g, b, m, n, h1, h2, h3, h4, Nat.le_trans h5 e⟩
theorem Box.has {H : Hp} {p : Addr} {c : Nat} (h : Box H p c) : ∃ o, H p = some o := by
  obtain ⟨g, b, m, n, h1, _⟩ := h
  exact ⟨_, h1⟩
theorem Box.ne {H : Hp} {p q : Addr} {c : Nat} (h : Box H p c) (hq : H q = none) : p ≠ q := by
  obtain ⟨g, b, m, n, h1, _⟩ := h
  exact ne_of_none h1 hq
theorem Box.same {H H' : Hp} {p : Addr} {c : Nat} (h : Box H p c) (s : Same H H') : Box H' p c := by
  obtain ⟨g, b, m, n, h1, h2⟩ := h
  exact ⟨g, b, m, n, s _ _ h1, h2⟩
theorem Box.upd {H : Hp} {p q : Addr} {c : Nat} {o : HO} (h : Box H p c) (n : p ≠ q) : Box (upd H q o) p c := by
  obtain ⟨g, b, m, d, h1, h2⟩ := h
  exact ⟨g, b, m, d, by rw [upd_ne n]; exact h1, h2⟩
/-- both ways of a test -/
theorem w_if {b : Bool} {A B : Prop} (h1 : b = true → A) (h2 : b = false → B) : if b = true then A else B := by
  cases b with
  | true => exact iteT (h1 rfl)
  | false => exact iteF (h2 rfl)
theorem cxK {CX : CXT} {P : Program} {w : World} {K : PySem.W.Frag} {mg : Str → Option Value} {base : Heap} {N : List Str} {q : Str} {sc : Scope} {f : Addr} {cd : Value} {A : Around} {outer : List Env} {s : Shared} {H : Hp} {E : XK} :
    (cxOf CX P w K mg base N q sc f cd A outer s H E).K = K := rfl
theorem ends_rt {a : SSt → Hp → Prop} {b : VK} {c d : SSt → Hp → Prop} : (Ends.mk a b c d).rt = b := rfl
theorem ends_nx {a : SSt → Hp → Prop} {b : VK} {c d : SSt → Hp → Prop} : (Ends.mk a b c d).nx = a := rfl
theorem w_enx {a : SSt → Hp → Prop} {b : VK} {c d : SSt → Hp → Prop} {σ : SSt} {H : Hp} (q : a σ H) : (Ends.mk a b c d).nx σ H := q
theorem w_ert {a : SSt → Hp → Prop} {b : VK} {c d : SSt → Hp → Prop} {v : V} {H : Hp} (q : b v H) : (Ends.mk a b c d).rt v H := q
theorem w_ebk {a : SSt → Hp → Prop} {b : VK} {c d : SSt → Hp → Prop} {σ : SSt} {H : Hp} (q : c σ H) : (Ends.mk a b c d).bk σ H := q
theorem w_ect {a : SSt → Hp → Prop} {b : VK} {c d : SSt → Hp → Prop} {σ : SSt} {H : Hp} (q : d σ H) : (Ends.mk a b c d).ct σ H := q
theorem cut1 (ns : List Int) : (ns.map V.int).take (1 : Int).toNat = (ns.take 1).map V.int := by rw [List.map_take]; rfl
end SL
set_option Elab.async false
set_option linter.all false
set_option maxRecDepth 100000
set_option maxHeartbeats 4000000
/-! SlG: walks: texts, ranges, lists; the steps at a for and at a comprehension. -/
namespace SL
open PySem PySem.Spec PyProof.Rows L2
section
variable {K : PySem.W.Frag} {σ : SSt} {H : Hp} {Q : VK} {D : Ends} {ta te : TE} {t : TA} {tb : TS} {g : TG} {tt : TT} {wi : TI} {vs : List Nat} {R : It → Hp → Prop} {i j : Int} {p : Addr} {xs : List V} {l : List Nat}
theorem w_for (q : wi σ H fun J H1 => ∃ W : Nat → Nat → SSt → Hp → Prop, (∃ m, W 0 m σ H1) ∧ ∀ i m σ H, W i m σ H →
    (J.stop i H ∧ D.nx σ H) ∨ (J.go i H ∧ ∃ N : SSt → Hp → Prop, (∀ σ' H', N σ' H' → ∃ m', m' < m ∧ W (i + 1) m' σ' H') ∧ ∀ x H', J.yld i H x H' → g x σ H' fun σ2 H2 => tb { D with nx := N, ct := N, bk := D.nx } σ2 H2)) : tFor wi g tb D σ H := q
theorem w_lc (q : wi σ H fun J H1 => ∀ D, H1 D = none → ∃ W : Nat → Nat → Hp → Prop, (∃ m, W 0 m (upd H1 D (.lst []))) ∧ ∀ i m H, W i m H →
    (J.stop i H ∧ Q (.ref D) H) ∨ (J.go i H ∧ ∃ Nx : Hp → Prop, (∀ H', Nx H' → ∃ m', m' < m ∧ W (i + 1) m' H') ∧ ∀ x H', J.yld i H x H' → g x (wipe σ vs) H' fun σ2 H2 => wipe σ2 vs = wipe σ vs ∧ tt σ2 H2 fun b H3 =>
      if b = true then te σ2 H3 fun y H4 => ∃ acc, H4 D = some (.lst acc) ∧ acc.length < sizeLine ∧ Nx (upd H4 D (.lst (acc ++ [y]))) else Nx H3)) : tLc wi g tt te vs σ H Q := q
theorem w_yes {Q : Bool → Hp → Prop} (q : Q true H) : tYes σ H Q := q
theorem w_il (q : te σ H fun x H1 => ∃ a, x = .ref a ∧ (∃ xs, SqL K H1 a xs) ∧ R (Itl K a) H1) : iList K te σ H R := q
theorem w_it (q : te σ H fun x H1 => ∃ a, x = .ref a ∧ (∃ xs, SqT K H1 a xs) ∧ R (Itt K a) H1) : iTup K te σ H R := q
theorem w_isx (q : te σ H fun v H1 => ∃ x, v = .str x ∧ R (Its x) H1) : iStr te σ H R := q
theorem w_ir1 (q : t σ H fun vs H1 => ∃ j : Int, vs = [.int j] ∧ -(2 ^ 62) ≤ j ∧ j < 2 ^ 62 ∧ R (Itr 0 j.toNat) H1) : iRng1 t σ H R := q
theorem w_ir2 (q : t σ H fun vs H1 => ∃ i j : Int, vs = [.int i, .int j] ∧ (-(2 ^ 62) ≤ i ∧ i < 2 ^ 62 ∧ -(2 ^ 62) ≤ j ∧ j < 2 ^ 62) ∧ R (Itr i (j - i).toNat) H1) : iRng2 t σ H R := q
theorem w_ies (q : t σ H fun vs H1 => ∃ z, vs = [.str z] ∧ R (Ites z) H1) : iEnumS t σ H R := q
theorem w_r1 {R : Int → Prop} (q : R j) (h : -4611686018427387904 ≤ j ∧ j < 4611686018427387904) : ∃ k : Int, [V.int j] = [.int k] ∧ -2 ^ 62 ≤ k ∧ k < 2 ^ 62 ∧ R k := ⟨j, rfl, by omega, by omega, q⟩
theorem w_r2 {R : Int → Int → Prop} (q : R i j) (h : (-4611686018427387904 ≤ i ∧ i < 4611686018427387904) ∧ -4611686018427387904 ≤ j ∧ j < 4611686018427387904) :
    ∃ a b : Int, [V.int i, V.int j] = [.int a, .int b] ∧ (-2 ^ 62 ≤ a ∧ a < 2 ^ 62 ∧ -2 ^ 62 ≤ b ∧ b < 2 ^ 62) ∧ R a b := ⟨i, j, rfl, ⟨by omega, by omega, by omega, by omega⟩, q⟩
theorem w_s1 {R : Str → Prop} {z : Str} (q : R z) : ∃ x, V.str z = .str x ∧ R x := ⟨z, rfl, q⟩
theorem w_s1l {R : Str → Prop} {z : Str} (q : R z) : ∃ x, [V.str z] = [.str x] ∧ R x := ⟨z, rfl, q⟩
theorem w_l1 {R : Addr → Prop} (h : SqL K H p xs) (q : R p) : ∃ a, V.ref p = .ref a ∧ (∃ xs, SqL K H a xs) ∧ R a := ⟨p, rfl, ⟨xs, h⟩, q⟩
theorem w_t1 {R : Addr → Prop} (h : SqT K H p xs) (q : R p) : ∃ a, V.ref p = .ref a ∧ (∃ xs, SqT K H a xs) ∧ R a := ⟨p, rfl, ⟨xs, h⟩, q⟩
theorem w_app (h : H p = some (.lst xs)) {v : V} (q : Q .non (upd H p (.lst (xs ++ [v])))) (hz : xs.length < 16777216) : rAppend (.ref p) [v] H Q := ⟨p, xs, v, rfl, rfl, h, by rw [sizeLine_eq]; exact hz, q⟩
theorem w_isL (h : SqL K H p xs) {B : Prop} (q : B) : tyV K "list" (.ref p) H ∧ B := ⟨.inl ⟨rfl, xs, h⟩, q⟩
theorem w_minL {ns : List Int} (h : SqL K H p (ns.map V.int)) (hz : 0 < ns.length) (q : ∀ m, m ∈ ns → (∀ y, y ∈ ns → m ≤ y) → Q (.int m) H) : rMin K [.ref p] H Q := ⟨p, ns, rfl, h, hz, q⟩
theorem w_allL {bs : List Bool} (h : SqL K H p (bs.map V.bl)) (q : Q (.bl (bs.all id)) H) : rAll K [.ref p] H Q := ⟨p, bs, rfl, h, q⟩
theorem w_anyL {bs : List Bool} (h : SqL K H p (bs.map V.bl)) (q : Q (.bl (bs.any id)) H) : rAny K [.ref p] H Q := ⟨p, bs, rfl, h, q⟩
theorem w_inC {c : Nat} (q : Q (.bl (decide (c ∈ l))) H) : rInU K (.str (tx [c])) (.str (tx l)) H Q := .inl ⟨c, tx l, rfl, rfl, by
  have e : (tx l).cps.toList = l := rfl
  rw [e]
  exact q⟩
end
/-- a comprehension over the signs of a text -/
theorem lc_tx {l : List Nat} {g : TG} {tt : TT} {te : TE} {vs : List Nat} {σ : SSt} {H1 : Hp} {D : Addr} {Qd : Hp → Prop} (Pv : Nat → Hp → Prop) (h0 : Pv 0 (upd H1 D (.lst [])))
    (hs : ∀ i c H, l[i]? = some c → Pv i H → g (.str (tx [c])) (wipe σ vs) H fun σ2 H2 => wipe σ2 vs = wipe σ vs ∧ tt σ2 H2 fun b H3 =>
      if b = true then te σ2 H3 fun y H4 => ∃ acc, H4 D = some (.lst acc) ∧ acc.length < sizeLine ∧ Pv (i + 1) (upd H4 D (.lst (acc ++ [y]))) else Pv (i + 1) H3) (hd : ∀ H, Pv l.length H → Qd H) :
    ∃ W : Nat → Nat → Hp → Prop, (∃ m, W 0 m (upd H1 D (.lst []))) ∧ ∀ i m H, W i m H →
      ((Its (tx l)).stop i H ∧ Qd H) ∨ ((Its (tx l)).go i H ∧ ∃ Nx : Hp → Prop, (∀ H', Nx H' → ∃ m', m' < m ∧ W (i + 1) m' H') ∧ ∀ x H', (Its (tx l)).yld i H x H' → g x (wipe σ vs) H' fun σ2 H2 => wipe σ2 vs = wipe σ vs ∧ tt σ2 H2 fun b H3 =>
        if b = true then te σ2 H3 fun y H4 => ∃ acc, H4 D = some (.lst acc) ∧ acc.length < sizeLine ∧ Nx (upd H4 D (.lst (acc ++ [y]))) else Nx H3) := by
  refine lc_it walk_str Pv h0 (fun _ _ _ _ => True.intro) ?_ (fun H h => hd H (by simpa using h))
  rintro i x H H' hi p ⟨rfl, c, hc, rfl⟩
  exact hs i c _ (by simpa using hc) p
/-- a for over the signs of a text -/
theorem for_tx {l : List Nat} {g : TG} {tb : TS} {D : Ends} {σ : SSt} {H : Hp} (Pv : Nat → SSt → Hp → Prop) (h0 : Pv 0 σ H)
    (hs : ∀ i c σ H, l[i]? = some c → Pv i σ H → g (.str (tx [c])) σ H fun σ2 H2 => tb { D with nx := Pv (i + 1), ct := Pv (i + 1), bk := D.nx } σ2 H2) (hd : ∀ σ H, Pv l.length σ H → D.nx σ H) :
    ∃ W : Nat → Nat → SSt → Hp → Prop, (∃ m, W 0 m σ H) ∧ ∀ i m σ H, W i m σ H →
      ((Its (tx l)).stop i H ∧ D.nx σ H) ∨ ((Its (tx l)).go i H ∧ ∃ N : SSt → Hp → Prop, (∀ σ' H', N σ' H' → ∃ m', m' < m ∧ W (i + 1) m' σ' H') ∧ ∀ x H', (Its (tx l)).yld i H x H' → g x σ H' fun σ2 H2 => tb { D with nx := N, ct := N, bk := D.nx } σ2 H2) := by
  refine for_it walk_str Pv h0 (fun _ _ _ _ _ => True.intro) ?_ (fun σ H h => hd σ H (by simpa using h))
  rintro i x σ H H' hi p ⟨rfl, c, hc, rfl⟩
  exact hs i c σ _ (by simpa using hc) p
/-- a for over enumerate of a text: each turn has a new pair at T -/
theorem for_etx {l : List Nat} {g : TG} {tb : TS} {D : Ends} {σ : SSt} {H : Hp} (Pv : Nat → SSt → Hp → Prop) (h0 : Pv 0 σ H)
    (hs : ∀ i c T σ H, l[i]? = some c → Pv i σ H → H T = none → g (.ref T) σ (upd H T (.tup [.int (i : Nat), .str (tx [c])])) fun σ2 H2 => tb { D with nx := Pv (i + 1), ct := Pv (i + 1), bk := D.nx } σ2 H2) (hd : ∀ σ H, Pv l.length σ H → D.nx σ H) :
    ∃ W : Nat → Nat → SSt → Hp → Prop, (∃ m, W 0 m σ H) ∧ ∀ i m σ H, W i m σ H →
      ((Ites (tx l)).stop i H ∧ D.nx σ H) ∨ ((Ites (tx l)).go i H ∧ ∃ N : SSt → Hp → Prop, (∀ σ' H', N σ' H' → ∃ m', m' < m ∧ W (i + 1) m' σ' H') ∧ ∀ x H', (Ites (tx l)).yld i H x H' → g x σ H' fun σ2 H2 => tb { D with nx := N, ct := N, bk := D.nx } σ2 H2) := by
  have w : Walk (Ites (tx l)) l.length (fun _ => True) (fun i H v H' => ∃ T c, v = .ref T ∧ H T = none ∧ H' = upd H T (.tup [.int (i : Nat), .str ⟨#[c]⟩]) ∧ (tx l).cps[i]? = some c) :=
    ⟨fun i H hi _ => by show i < (tx l).cps.size; simpa using hi, fun H _ => by show l.length = (tx l).cps.size; simp, fun i H x H' _ _ y => y⟩
  refine for_it w Pv h0 (fun _ _ _ _ _ => True.intro) ?_ hd
  rintro i x σ H H' hi p ⟨T, c, rfl, hT, rfl, hc⟩
  exact hs i c T σ H (by simpa using hc) p hT
/-! letters -/
def abc : List Nat := [97, 98, 99, 100, 101, 102, 103, 104, 105, 106, 107, 108, 109, 110, 111, 112, 113, 114, 115, 116, 117, 118, 119, 120, 121, 122]
theorem mem_abc {c : Nat} : c ∈ abc ↔ 97 ≤ c ∧ c ≤ 122 := by
  unfold abc
  simp only [List.mem_cons, List.not_mem_nil, or_false]
  omega
/-- all of them letters -/
def Let (l : List Nat) : Prop := ∀ c ∈ l, c ∈ abc
instance (l : List Nat) : Decidable (Let l) := inferInstanceAs (Decidable (∀ c ∈ l, c ∈ abc))
theorem all_let (l : List Nat) : (l.map fun c => decide (c ∈ abc)).all id = decide (Let l) := by
  by_cases h : Let l
  · rw [decide_eq_true h, List.all_eq_true]
    intro b hb
    obtain ⟨c, hc, rfl⟩ := List.mem_map.mp hb
    exact decide_eq_true (h c hc)
  · rw [decide_eq_false h, List.all_eq_false]
    have : ∃ c, c ∈ l ∧ ¬ c ∈ abc := by
      refine Classical.byContradiction fun n => h fun c hc => ?_
      exact Classical.byContradiction fun m => n ⟨c, hc, m⟩
    obtain ⟨c, hc, hn⟩ := this
    exact ⟨_, List.mem_map.mpr ⟨c, hc, rfl⟩, by simpa using hn⟩
theorem Let.nil : Let [] := fun _ h => absurd h List.not_mem_nil
theorem Let.app {l m : List Nat} (a : Let l) (b : Let m) : Let (l ++ m) := fun c h => (List.mem_append.mp h).elim (a c) (b c)
theorem Let.take {l : List Nat} (a : Let l) (n : Nat) : Let (l.take n) := fun c h => a c (List.mem_of_mem_take h)
theorem Let.drop {l : List Nat} (a : Let l) (n : Nat) : Let (l.drop n) := fun c h => a c (List.mem_of_mem_drop h)
theorem w_inT {K : PySem.W.Frag} {H : Hp} {Q : VK} {v : V} {p : Addr} {xs : List V} (h : SqT K H p xs) (hv : flatV v = true) (hx : xs.all flatV = true) (q : Q (.bl (inV v xs)) H) : rInU K v (.ref p) H Q :=
  .inr ⟨p, xs, rfl, .inr h, hv, hx, q⟩
theorem take_more {α : Type} {l : List α} {i : Nat} {x : α} (h : l[i]? = some x) : l.take (i + 1) = l.take i ++ [x] := by
  rw [List.take_add_one, h]
  rfl
theorem get_of {α : Type} {l : List α} {i : Nat} (h : i < l.length) : l[i]? = some l[i] := List.getElem?_eq_getElem h
/-! ''.join of texts -/
theorem join_nil' : ∀ ls : List (List Nat), Str.join (tx []) (ls.map tx) = tx ls.flatten
  | [] => rfl
  | [x] => by
    show tx x = tx [x].flatten
    simp
  | x :: y :: r => by
    have ih := join_nil' (y :: r)
    show tx x ++ tx [] ++ Str.join (tx []) ((y :: r).map tx) = _
    rw [ih, tx_app, tx_app, List.append_nil]
    rfl
theorem join_nil (ls : List (List Nat)) : Txt.join (tx []) (ls.map tx) = tx ls.flatten := by
  unfold Txt.join
  rw [StrLaws.glued_eq_join, join_nil']
theorem join_sum (ls : List (List Nat)) : ((ls.map tx).map (·.length)).sum = ls.flatten.length := by
  induction ls with
  | nil => rfl
  | cons x r ih => rw [List.map_cons, List.map_cons, List.sum_cons, ih, tx_len, List.flatten_cons, List.length_append]
def rJoinU (K : PySem.W.Frag) : V → List V → Hp → VK → Prop := fun x xs H Q => ∃ a p, ∃ ys : List Str, x = .str a ∧ xs = [.ref p] ∧ (SqL K H p (ys.map V.str) ∨ SqT K H p (ys.map V.str)) ∧ (ys.map (·.length)).sum + ys.length * a.length ≤ 16777216 ∧ Q (.str (Txt.join a ys)) H
theorem uJoin {X : Cx} : MtR X "str.join" (rJoinU X.K) := mt_join
theorem w_join {K : PySem.W.Frag} {H : Hp} {Q : VK} {p : Addr} {ls : List (List Nat)} (h : SqL K H p (ls.map fun l => V.str (tx l))) (q : Q (.str (tx ls.flatten)) H) (hz : ls.flatten.length ≤ 16777216) : rJoinU K (.str (tx [])) [.ref p] H Q := by
  refine ⟨tx [], p, ls.map tx, rfl, rfl, .inl ?_, ?_, by rw [join_nil]; exact q⟩
  · rw [List.map_map]
    exact h
  · rw [join_sum, tx_len]
    simpa using hz
theorem w_isS {l : List Nat} {B : Prop} (q : B) : (∃ a, V.str (tx l) = .str a) ∧ B := ⟨⟨_, rfl⟩, q⟩
theorem w_lrg {H : Hp} {Q : VK} {σ : SSt} {te : TE} (q : te σ H fun x H1 => ∃ n, x = .int n ∧ (RgOk 0 n ∧ ∀ q, H1 q = none → Q (.ref q) (upd H1 q (.lst (rgV 0 n))))) : tLstRg (tRg1 te) σ H Q := q
theorem rgV_n (n : Nat) : rgV 0 (n : Int) = (List.range n).map fun i => V.int (i : Nat) := by
  unfold rgV
  rw [show ((n : Int) - 0).toNat = n by omega]
  apply List.map_congr_left
  intro i _
  rw [show (0 : Int) + (i : Int) = (i : Int) by omega]
end SL
set_option Elab.async false
set_option linter.all false
set_option maxRecDepth 100000
set_option maxHeartbeats 4000000
/-! SlH: the rules with K said aloud (a comprehension's element must not mention the block's context), constants, keyword calls. -/
namespace SL
open PySem PySem.Spec PyProof.Rows L2
section
variable (K : PySem.W.Frag) {X : Cx} {k : Nat}
theorem kAdd (h : X.K = K) : OpR X (binaryOp .Add) (rAddU K) := h ▸ uAdd
theorem kEq (h : X.K = K) (hr : Room k X.A) : OpR X (compareOp .Eq) (rEqU K) := h ▸ uEq hr
theorem kNe (h : X.K = K) (hr : Room k X.A) : OpR X (compareOp .NotEq) (rNeU K) := h ▸ uNe hr
theorem kIn (h : X.K = K) : OpR X (compareOp .In) (rInU K) := h ▸ uIn
theorem kSl (h : X.K = K) : SlR X (rSlU K) := h ▸ uSl
theorem kIx (h : X.K = K) : IxR X (rIx K) := h ▸ ix_seq
theorem kLen (h : X.K = K) : CallR X (.builtin "len") (rLenU K) := h ▸ uLen
theorem kIsi (h : X.K = K) : CallR X (.builtin "isinstance") (rIsi K) := h ▸ uIsi
theorem kIsiT (h : X.K = K) : CallR X (.builtin "isinstance") (rIsiT K) := h ▸ uIsiT
theorem kList (h : X.K = K) : CallR X (.type "list") (rListU K) := h ▸ uList
theorem kSum (h : X.K = K) (hc : X.calm = true) : CallR X (.builtin "sum") (rSum K) := h ▸ cr_sum hc
theorem kAny (h : X.K = K) (hc : X.calm = true) : CallR X (.builtin "any") (rAny K) := h ▸ cr_any hc
theorem kAll (h : X.K = K) (hc : X.calm = true) : CallR X (.builtin "all") (rAll K) := h ▸ cr_all hc
theorem kMin (h : X.K = K) (hc : X.calm = true) : CallR X (.builtin "min") (rMin K) := h ▸ cr_min hc
theorem kMax (h : X.K = K) (hc : X.calm = true) : CallR X (.builtin "max") (rMax K) := h ▸ cr_max hc
theorem kSorted (h : X.K = K) : CallR X (.builtin "sorted") (rSorted K) := h ▸ cr_sorted
theorem kJoin (h : X.K = K) : MtR X "str.join" (rJoinU K) := h ▸ uJoin
theorem kIndex (h : X.K = K) : MtR X "list.index" (rIndex K) := h ▸ mt_index
theorem kiList (h : X.K = K) {tg l : Expr} {tl : TE} (p : PE X l tl) : PI X tg l (iList K tl) := h ▸ pi_list p
theorem kiTup (h : X.K = K) {tg l : Expr} {tl : TE} (p : PE X l tl) : PI X tg l (iTup K tl) := h ▸ pi_tup p
theorem kRev (h : X.K = K) {e : Expr} {te : TE} {k : Nat} {p1 p2 p3 pos : Pos} (p : PE X e te) :
    PE X (e.Subscript (.Slice none none (some (.UnaryOp .USub (.Constant (.int 1) k p1) p2)) p3) pos) (tRevU K te) := h ▸ pe_revU p
theorem kTup (h : X.K = K) {pos : Pos} {es : List Expr} {k : Nat} {t : TGs} {n : Nat} (hc : X.calm = true) (p : PGs X es t) (h1 : (assignEach es X.env).length = n := by rfl)
    (h2 : List.findIdx? (fun x => x.fst) (assignEach es X.env) = none := by rfl) : PG X (.Tuple es k pos) (gTup K n t) := h ▸ pg_tup hc p h1 h2
theorem kBm (h : X.K = K) {o e : Expr} {es : List Expr} {to : TE} {t : TA} {name : Str} {apos cpos : Pos} {T id : String} {r : V → List V → Hp → VK → Prop}
    (h1 : PlainAttrs T) (h2 : Slot T name id) (h3 : typeOf (Value.builtin id) = pure (Value.type "method_descriptor")) (h4 : MtR X id r) (h5 : PE X o to) (h6 : PA X (e :: es) t)
    (h7 : attributeBase o name X.env (eval o X.env) = eval o X.env := by rfl)
    (h8 : ((((backTo cpos (starEach (e :: es) X.env)).all fun x => !x.fst) && (backToKw cpos (keywordEach [] X.env)).all fun x => x.fst.isSome) && decide (((e :: es).length + ([] : List Keyword).length + if ([] : List Keyword).isEmpty = true then 0 else 1) < 30)) = true := by rfl)
    (h9 : (apos.endLine == cpos.line) = true := by rfl) (h10 : starEach (e :: es) X.env = (false, eval e X.env) :: starEach es X.env := by rfl)
    (h11 : ((backTo cpos (starEach es X.env)).any fun x => x.fst) = false := by rfl) : PE X ((o.Attribute name apos).Call (e :: es) [] cpos) (tBM K T r to t) :=
  h ▸ pe_bm h1 h2 h3 h4 h5 h6 h7 h8 h9 h10 h11
end
/-- a text of the module, by its signs -/
theorem pe_gs {X : Cx} {x : Str} {l : List Nat} {pos : Pos} (hg : Gl X x) (h : ∃ t, X.mg x = some (.str (tx l) t)) (hdb : (x == ("__debug__" : Str)) = false := by decide) : PE X (.Name x pos) (tC (.str (tx l))) := by
  obtain ⟨t, h⟩ := h
  exact pe_glob hg h (by first | exact ⟨_, rfl⟩ | constructor) hdb
theorem pe_gi {X : Cx} {x : Str} {i : Int} {pos : Pos} (hg : Gl X x) (h : ∃ t, X.mg x = some (.int i t)) (hdb : (x == ("__debug__" : Str)) = false := by decide) : PE X (.Name x pos) (tC (.int i)) := by
  obtain ⟨t, h⟩ := h
  exact pe_glob hg h (by first | exact ⟨_, rfl⟩ | constructor) hdb
/-! keyword calls -/
/-- a def called by keywords alone: ks the names in the call's order, g how the values come to the parameters -/
structure CalW (P : Program) (w : World) (K : PySem.W.Frag) (mg : Str → Option Value) (base : Heap) (k : Nat) (x : Str) (ps ks : List Str) (g : {α : Type} → List α → List α) (sp : Sp) : Prop where
  ex : ∃ (f : Addr) (fd : FuncData), FnG P w K mg base k f fd ps sp ∧ mg x = some (.ref f) ∧ PySem.W.keepIn K (.ref f) = true ∧
    ∀ (s : Shared) (ws : List Value), ws.length = ks.length → BindsTo s fd ⟨[], ks.zip ws⟩ (ps.zip (g ws))
def tCallW (sp : Sp) (g : {α : Type} → List α → List α) (n : Nat) (E : SSt → XK) (t : TA) : TE := fun σ H Q => t σ H fun vs H1 => vs.length = n ∧ sp (g vs) H1 Q (E σ)
section
variable {X : Cx} {k j : Nat} {x : Str} {ps ks : List Str} {sp : Sp} {E : L2.St → XK} {p pos : Pos} {kws : List Keyword} {t : TA} {g : {α : Type} → List α → List α}
theorem pe_gw (c : CalW X.prog X.w X.K X.mg X.base k x ps ks g sp) (hr : Room j X.A) (hk : k ≤ j) (hgd : X.A.guards = some []) (hg : Gl X x) (hx : ∀ σ, PassesAt (L2.CX X.prog X.w) X σ (E σ)) (ha : PK X kws t)
    (hl : ∀ {vs : List V} {us : List Value}, vs.length = ks.length → Vals vs us → Vals (g vs) (g us))
    (hall : (backToKw pos (keywordEach kws X.env)).all (·.1.isSome) = true := by rfl) (hks : (backToKw pos (keywordEach kws X.env)).filterMap (·.1) = ks := by rfl)
    (hdb : (x == ("__debug__" : Str)) = false := by decide)
    (hpl : ((backTo pos (starEach [] X.env)).any (·.1) || (backToKw pos (keywordEach kws X.env)).any (·.1.isNone)) = false := by rfl) :
    PE X (.Call (.Name x p) [] kws pos) (tCallW sp g ks.length E t) := by
  obtain ⟨f, fd, F, hm, kp, hb⟩ := c.ex
  constructor
  intro pins s σ H Q I h
  refine wpAny_Call_Name_kw (ld_glob I hg hm ?_ hdb)
  refine PySem.W.callWith_KW0 (h₀ := X.base) I.ok.mod.kin kp hall ?_ hpl
  refine thn (ha.run pos pins s σ H _ I h) ?_
  rintro ws s1 ⟨vs, H1, I1, r, hn, q⟩
  refine ⟨I1.kIn, ?_⟩
  rw [hks]
  refine wpAny_call (codeAny_mono (F.run X.A X.stack s1 H1 ⟨[], ks.zip ws⟩ (g ws) (g vs) Q (E σ) (hr.mono hk) hgd (Inv.env0 I1) (hb s1 ws (by rw [← Paired.length r]; exact hn)) (hl hn r) q) ?_)
  intro rr s' hq
  match rr, hq with
  | .error ex, hq => exact hx σ pins H1 s1 ex s' I1 hq
  | .ok (.ret u), hq => exact Inv.after I1 hq
end
theorem w_callW {g : {α : Type} → List α → List α} {n : Nat} {sp : Sp} {E : SSt → XK} {t : TA} {σ : SSt} {H : Hp} {Q : VK} (q : t σ H fun vs H1 => vs.length = n ∧ sp (g vs) H1 Q (E σ)) : tCallW sp g n E t σ H Q := q
theorem w_same {s : String} {A B : Prop} (q : A) : if (s == s) = true then A else B := by
  rw [if_pos (by simp)]
  exact q
theorem w_diff {s t : String} {A B : Prop} (q : B) (h : (s == t) = false) : if (s == t) = true then A else B := by
  rw [if_neg (by rw [h]; decide)]
  exact q
theorem w_wp {σ τ : SSt} {vs : List Nat} {B : Prop} (h : wipe σ vs = wipe τ vs) (q : B) : wipe σ vs = wipe τ vs ∧ B := ⟨h, q⟩
theorem w_acc {H : Hp} {D : Addr} {acc : List V} {R : List V → Prop} (h : H D = some (.lst acc)) (q : R acc) (hz : acc.length < 16777216) : ∃ acc, H D = some (.lst acc) ∧ acc.length < sizeLine ∧ R acc :=
  ⟨acc, h, by rw [sizeLine_eq]; exact hz, q⟩
theorem lt_of_get {α : Type} {l : List α} {i : Nat} {c : α} (h : l[i]? = some c) : i < l.length := (List.getElem?_eq_some_iff.mp h).1
theorem w_ifT {b : Bool} {A B : Prop} (h : b = true) (q : A) : if b = true then A else B := by rw [if_pos h]; exact q
theorem w_ifF {b : Bool} {A B : Prop} (h : b = false) (q : B) : if b = true then A else B := by rw [if_neg (by rw [h]; decide)]; exact q
def rRev1 (K : PySem.W.Frag) (x : V) (H : Hp) (Q : VK) : Prop := (∃ l : List Nat, x = .str (tx l) ∧ l.length ≤ 16777216 ∧ Q (.str (tx l.reverse)) H) ∨
  (∃ a xs, x = .ref a ∧ SqT K H a xs ∧ ∀ p, H p = none → Q (.ref p) (upd H p (.tup xs.reverse)))
section
variable {K : PySem.W.Frag} {te : TE} {σ : SSt} {H : Hp} {Q : VK} {l : List Nat} {p : Addr} {xs : List V} {k : Nat}
theorem w_rev (q : te σ H fun x H1 => rRev1 K x H1 Q) : tRevU K te σ H Q := q
theorem w_rev1S (q : Q (.str (tx l.reverse)) H) (h : l.length ≤ 16777216) : rRev1 K (.str (tx l)) H Q := .inl ⟨l, rfl, h, q⟩
theorem w_rev1T (h : SqT K H p xs) (q : ∀ a, H a = none → Q (.ref a) (upd H a (.tup xs.reverse))) : rRev1 K (.ref p) H Q := .inr ⟨p, xs, rfl, h, q⟩
theorem w_sSfN (q : Q (.str (tx (l.drop k))) H) (h : l.length ≤ 16777216) : rSlU K (.str (tx l)) (some (k : Int)) none H Q := w_sSf q ⟨by omega, h⟩
theorem w_sStN (q : Q (.str (tx (l.take k))) H) (h : l.length ≤ 16777216) : rSlU K (.str (tx l)) none (some (k : Int)) H Q := w_sSt q ⟨by omega, h⟩
end
theorem in_pair {x y : List Nat} (h : x = [] ∨ y = []) : inV (V.str (tx [])) [V.str (tx x), V.str (tx y)] = true := by
  have e : eqV (V.str (tx [])) (V.str (tx [])) = true := by first | rfl | decide | decide +kernel
  rcases h with rfl | rfl
  · simp [inV, e]
  · simp [inV, e]
/-- a for over a range from 0 -/
theorem for_rg {j : Int} {n : Nat} {g : TG} {tb : TS} {D : Ends} {σ : SSt} {H : Hp} (hn : j.toNat = n) (Pv : Nat → SSt → Hp → Prop) (h0 : Pv 0 σ H)
    (hs : ∀ (i : Nat) σ H, i < n → Pv i σ H → g (.int (i : Int)) σ H fun σ2 H2 => tb { D with nx := Pv (i + 1), ct := Pv (i + 1), bk := D.nx } σ2 H2) (hd : ∀ σ H, Pv n σ H → D.nx σ H) :
    ∃ W : Nat → Nat → SSt → Hp → Prop, (∃ m, W 0 m σ H) ∧ ∀ i m σ H, W i m σ H →
      ((Itr 0 j.toNat).stop i H ∧ D.nx σ H) ∨ ((Itr 0 j.toNat).go i H ∧ ∃ N : SSt → Hp → Prop, (∀ σ' H', N σ' H' → ∃ m', m' < m ∧ W (i + 1) m' σ' H') ∧ ∀ x H', (Itr 0 j.toNat).yld i H x H' → g x σ H' fun σ2 H2 => tb { D with nx := N, ct := N, bk := D.nx } σ2 H2) := by
  subst hn
  refine for_it walk_range Pv h0 (fun _ _ _ _ _ => True.intro) ?_ hd
  rintro i x σ H H' hi p ⟨rfl, rfl⟩
  have e : (0 : Int) + (i : Int) = i := by omega
  show g (.int ((0 : Int) + (i : Int))) _ _ _
  rw [e]
  exact hs i σ _ hi p
/-- a for over a range -/
theorem for_rg2 {lo hi : Int} {n : Nat} {g : TG} {tb : TS} {D : Ends} {σ : SSt} {H : Hp} (hn : (hi - lo).toNat = n) (Pv : Nat → SSt → Hp → Prop) (h0 : Pv 0 σ H)
    (hs : ∀ (i : Nat) σ H, i < n → Pv i σ H → g (.int (lo + i)) σ H fun σ2 H2 => tb { D with nx := Pv (i + 1), ct := Pv (i + 1), bk := D.nx } σ2 H2) (hd : ∀ σ H, Pv n σ H → D.nx σ H) :
    ∃ W : Nat → Nat → SSt → Hp → Prop, (∃ m, W 0 m σ H) ∧ ∀ i m σ H, W i m σ H →
      ((Itr lo (hi - lo).toNat).stop i H ∧ D.nx σ H) ∨ ((Itr lo (hi - lo).toNat).go i H ∧ ∃ N : SSt → Hp → Prop, (∀ σ' H', N σ' H' → ∃ m', m' < m ∧ W (i + 1) m' σ' H') ∧ ∀ x H', (Itr lo (hi - lo).toNat).yld i H x H' → g x σ H' fun σ2 H2 => tb { D with nx := N, ct := N, bk := D.nx } σ2 H2) := by
  subst hn
  refine for_it walk_range Pv h0 (fun _ _ _ _ _ => True.intro) ?_ hd
  rintro i x σ H H' hi p ⟨rfl, rfl⟩
  exact hs i σ _ hi p
/-- a comprehension over a range from 0 -/
theorem lc_rg {j : Int} {n : Nat} {g : TG} {tt : TT} {te : TE} {vs : List Nat} {σ : SSt} {H1 : Hp} {D : Addr} {Qd : Hp → Prop} (hn : j.toNat = n) (Pv : Nat → Hp → Prop) (h0 : Pv 0 (upd H1 D (.lst [])))
    (hs : ∀ (i : Nat) H, i < n → Pv i H → g (.int (i : Int)) (wipe σ vs) H fun σ2 H2 => wipe σ2 vs = wipe σ vs ∧ tt σ2 H2 fun b H3 =>
      if b = true then te σ2 H3 fun y H4 => ∃ acc, H4 D = some (.lst acc) ∧ acc.length < sizeLine ∧ Pv (i + 1) (upd H4 D (.lst (acc ++ [y]))) else Pv (i + 1) H3) (hd : ∀ H, Pv n H → Qd H) :
    ∃ W : Nat → Nat → Hp → Prop, (∃ m, W 0 m (upd H1 D (.lst []))) ∧ ∀ i m H, W i m H →
      ((Itr 0 j.toNat).stop i H ∧ Qd H) ∨ ((Itr 0 j.toNat).go i H ∧ ∃ Nx : Hp → Prop, (∀ H', Nx H' → ∃ m', m' < m ∧ W (i + 1) m' H') ∧ ∀ x H', (Itr 0 j.toNat).yld i H x H' → g x (wipe σ vs) H' fun σ2 H2 => wipe σ2 vs = wipe σ vs ∧ tt σ2 H2 fun b H3 =>
        if b = true then te σ2 H3 fun y H4 => ∃ acc, H4 D = some (.lst acc) ∧ acc.length < sizeLine ∧ Nx (upd H4 D (.lst (acc ++ [y]))) else Nx H3) := by
  subst hn
  refine lc_it walk_range Pv h0 (fun _ _ _ _ => True.intro) ?_ hd
  rintro i x H H' hi p ⟨rfl, rfl⟩
  have e : (0 : Int) + (i : Int) = i := by omega
  show g (.int ((0 : Int) + (i : Int))) _ _ _
  rw [e]
  exact hs i _ hi p
/-- a cut: what stands after the first statement -/
theorem w_seqI {t1 t2 : TS} {D : Ends} {σ : SSt} {H : Hp} (I : SSt → Hp → Prop) (k : ∀ σ H, I σ H → t2 D σ H) (q : ∀ N : SSt → Hp → Prop, (∀ σ H, I σ H → N σ H) → t1 { D with nx := N } σ H) : tSeq t1 t2 D σ H := q _ k
section
variable {t2 : TS} {D : Ends} {σ : SSt} {H : Hp} {te : TE} {g : TG} {n m : Nat} {t : TA} {ti : TIp} {wi : TI} {tb : TS}
theorem w_seqA (q : tAsg te g { D with nx := t2 D } σ H) : tSeq (tAsg te g) t2 D σ H := q
theorem w_seqD (q : tDrop te { D with nx := t2 D } σ H) : tSeq (tDrop te) t2 D σ H := q
theorem w_seqP (q : tPar n m t { D with nx := t2 D } σ H) : tSeq (tPar n m t) t2 D σ H := q
theorem w_seqG (q : tAug n te ti { D with nx := t2 D } σ H) : tSeq (tAug n te ti) t2 D σ H := q
end
theorem w_gT {K : PySem.W.Frag} {n : Nat} {tg : TGs} {p : Addr} {σ : SSt} {H : Hp} {Q : SSt → Hp → Prop} {xs : List V} (h : SqT K H p xs) (q : tg xs σ H Q) (hn : xs.length = n) : gTup K n tg (.ref p) σ H Q := ⟨p, xs, rfl, h, hn, q⟩
def rIsU : R2 := fun x y H Q => y = .non ∧ Q (.bl (decide (x = .non))) H
def rIsNotU : R2 := fun x y H Q => y = .non ∧ Q (.bl (!decide (x = .non))) H
theorem uIs {X : Cx} : OpR X (compareOp .Is) rIsU := op_isN
theorem uIsNot {X : Cx} : OpR X (compareOp .IsNot) rIsNotU := op_notN
section
variable {H : Hp} {Q : VK} {i : Int} {z : Str} {p : Addr} {b : Bool}
theorem w_isnN (q : Q (.bl true) H) : rIsU .non .non H Q := ⟨rfl, by rw [decide_eq_true rfl]; exact q⟩
theorem w_isnI (q : Q (.bl false) H) : rIsU (.int i) .non H Q := ⟨rfl, by rw [decide_eq_false (by simp)]; exact q⟩
theorem w_isnS (q : Q (.bl false) H) : rIsU (.str z) .non H Q := ⟨rfl, by rw [decide_eq_false (by simp)]; exact q⟩
theorem w_isnR (q : Q (.bl false) H) : rIsU (.ref p) .non H Q := ⟨rfl, by rw [decide_eq_false (by simp)]; exact q⟩
theorem w_isnB (q : Q (.bl false) H) : rIsU (.bl b) .non H Q := ⟨rfl, by rw [decide_eq_false (by simp)]; exact q⟩
theorem w_isoN (q : Q (.bl false) H) : rIsNotU .non .non H Q := ⟨rfl, by rw [decide_eq_true rfl]; exact q⟩
theorem w_isoI (q : Q (.bl true) H) : rIsNotU (.int i) .non H Q := ⟨rfl, by rw [decide_eq_false (by simp)]; exact q⟩
theorem w_isoS (q : Q (.bl true) H) : rIsNotU (.str z) .non H Q := ⟨rfl, by rw [decide_eq_false (by simp)]; exact q⟩
theorem w_isoR (q : Q (.bl true) H) : rIsNotU (.ref p) .non H Q := ⟨rfl, by rw [decide_eq_false (by simp)]; exact q⟩
theorem w_isoB (q : Q (.bl true) H) : rIsNotU (.bl b) .non H Q := ⟨rfl, by rw [decide_eq_false (by simp)]; exact q⟩
end
theorem kLst (K : PySem.W.Frag) {X : Cx} (h : X.K = K) {pos : Pos} {es : List Expr} {k : Nat} {t : TGs} {n : Nat} (hc : X.calm = true) (p : PGs X es t) (h1 : (assignEach es X.env).length = n := by rfl)
    (h2 : List.findIdx? (fun x => x.fst) (assignEach es X.env) = none := by rfl) : PG X (.Tuple es k pos) (gLst K n t) := h ▸ pg_lst hc p h1 h2
theorem w_gL {K : PySem.W.Frag} {n : Nat} {tg : TGs} {p : Addr} {σ : SSt} {H : Hp} {Q : SSt → Hp → Prop} {xs : List V} (h : SqL K H p xs) (q : tg xs σ H Q) (hn : xs.length = n) : gLst K n tg (.ref p) σ H Q := ⟨p, xs, rfl, h, hn, q⟩
theorem atI_last {α : Type} {xs : List α} {v : α} (h : xs[xs.length - 1]? = some v) : atI xs (-1) = some v := by
  have hl := (List.getElem?_eq_some_iff.mp h).1
  unfold atI ixN
  rw [if_neg (by omega)]
  rw [if_pos (by omega)]
  rw [Option.bind_some, show ((-1 : Int) + xs.length).toNat = xs.length - 1 by omega]
  exact h
theorem box_le {H : Hp} {p : Addr} {c d : Nat} (h : Box H p c) (e : c ≤ d := by omega) : Box H p d := h.le e
theorem all_take {α : Type} {l : List α} : l.take l.length = l := List.take_length
end SL
set_option Elab.async false
set_option linter.all false
set_option maxRecDepth 100000
set_option maxHeartbeats 4000000
/-! SlI: more about heaps and texts. -/
namespace SL
open PySem PySem.Spec PyProof.Rows L2
theorem Fr.nil {p D : Addr} {H H1 : Hp} (f : Fr p H H1) (hD : H1 D = none) (n : p ≠ D) : H D = none := by
  cases h : H D with
  | none => rfl
  | some o => rw [f D o h (Ne.symm n)] at hD; cases hD
theorem Fr.grow {p D : Addr} {H H1 H' : Hp} {o : HO} (f0 : Fr p H H1) (hD : H1 D = none) (n : p ≠ D) (f : Fr p H H') : Fr p H (upd H' D o) := fun b u h nb => by
  rw [upd_ne (ne_of_none h (Fr.nil f0 hD n))]
  exact f b u h nb
theorem rep_len (n : Nat) (l : List Nat) : (List.replicate n l).flatten.length = n * l.length := by
  induction n with
  | zero => simp
  | succ n ih => rw [List.replicate_succ, List.flatten_cons, List.length_append, ih, Nat.succ_mul]; omega
theorem rep_let {n : Nat} {l : List Nat} (h : Let l) : Let (List.replicate n l).flatten := by
  induction n with
  | zero => exact fun _ h => absurd h (by simp)
  | succ n ih => rw [List.replicate_succ, List.flatten_cons]; exact h.app ih
theorem Let.one {l : List Nat} {k : Nat} {c : Nat} (h : Let l) (hk : l[k]? = some c) : Let [c] := fun d hd => by
  rw [List.mem_singleton.mp hd]
  exact h c (List.mem_of_getElem? hk)
theorem bit_is (b : Bool) : ∃ u : Nat, (if b = true then (1 : Int) else 0) = u ∧ u ≤ 1 := by
  cases b
  · exact ⟨0, rfl, by omega⟩
  · exact ⟨1, rfl, by omega⟩
theorem two_at {α : Type} {a b : α} {k : Nat} (h : k < 2) : [a, b][k]? = some (if k = 0 then a else b) := by
  match k, h with
  | 0, _ => rfl
  | 1, _ => rfl
theorem w_mulSN {l : List Nat} {u : Nat} {H : Hp} {Q : VK} (q : Q (.str (tx (List.replicate u l).flatten)) H) (h : u ≤ 1000000 ∧ l.length ≤ 1000000 ∧ l.length * u ≤ 16777216) : rMulU (.str (tx l)) (.int (u : Int)) H Q :=
  w_mulS (by rw [Int.toNat_natCast]; exact q) ⟨by omega, by omega, h.2.1, by rw [Int.toNat_natCast]; exact h.2.2⟩
theorem ex_get {α : Type} {l : List α} {k : Nat} (h : k < l.length) : ∃ c, l[k]? = some c := ⟨_, get_of h⟩
theorem take_rest {α : Type} (l : List α) (i : Nat) : l.take i ++ l.drop (l.take i).length = l := by
  rw [List.length_take]
  by_cases h : i ≤ l.length
  · rw [Nat.min_eq_left h, List.take_append_drop]
  · rw [Nat.min_eq_right (by omega), List.drop_length, List.append_nil, List.take_of_length_le (by omega)]
theorem Let.left {l m : List Nat} (h : Let (l ++ m)) : Let l := fun c hc => h c (List.mem_append_left m hc)
theorem Let.right {l m : List Nat} (h : Let (l ++ m)) : Let m := fun c hc => h c (List.mem_append_right l hc)
theorem w_eqStr {K : PySem.W.Frag} {H : Hp} {Q : VK} {x y : Str} (q : Q (.bl (decide (x = y))) H) : rEqU K (.str x) (.str y) H Q := .inl ⟨rfl, by
  have e : decide (V.str x = V.str y) = decide (x = y) := decide_eq_decide.mpr ⟨fun h => V.str.inj h, fun h => by rw [h]⟩
  rw [e]; exact q⟩
theorem same_box {p : Addr} {H H1 H2 : Hp} (a : Same H H1) (hp : H p = Option.none) (f : Fr p H1 H2) : Same H H2 := fun b o h => f b o (a b o h) (ne_of_none h hp)
theorem calW_of {P : Program} {w : World} {K : PySem.W.Frag} {mg : Str → Option Value} {base : Heap} {x : Str} {st : Stmt} {ps ks : List Str} {k : Nat} {sp : Sp} {g : {α : Type} → List α → List α} (D : DefAt K mg x st ps)
    (F : ∀ f fd, Fun K x x st f fd → FnG P w K mg base k f fd ps sp) (hb : ∀ f fd, Fun K x x st f fd → ∀ (s : Shared) (ws : List Value), ws.length = ks.length → BindsTo s fd ⟨[], ks.zip ws⟩ (ps.zip (g ws))) :
    CalW P w K mg base k x ps ks g sp := by
  obtain ⟨f, fd, Fn, hm, _⟩ := D.ex
  exact ⟨f, fd, F f fd Fn, hm, Fn.kp, hb f fd Fn⟩
theorem cal_of {P : Program} {w : World} {K : PySem.W.Frag} {mg : Str → Option Value} {base : Heap} {x : Str} {st : Stmt} {ps : List Str} {k : Nat} {sp : Sp} (D : DefAt K mg x st ps)
    (F : ∀ f fd, Fun K x x st f fd → FnG P w K mg base k f fd ps sp) : Cal P w K mg base k x ps sp := by
  obtain ⟨f, fd, Fn, hm, hb⟩ := D.ex
  exact ⟨f, fd, F f fd Fn, hm, Fn.kp, hb⟩
theorem rev4 {vs : List V} {us : List Value} (hn : vs.length = 4) (r : Vals vs us) : Vals vs.reverse us.reverse := by
  match vs, us, r with
  | [a, b, c, d], [a', b', c', d'], .cons r1 (.cons r2 (.cons r3 (.cons r4 .nil))) => exact .cons r4 (.cons r3 (.cons r2 (.cons r1 .nil)))
end SL
set_option Elab.async false
set_option linter.all false
set_option maxRecDepth 100000
set_option maxHeartbeats 4000000
/-! SlJ: startswith; equality of nested data. -/
namespace SL
open PySem PySem.Spec PyProof.Rows L2
theorem starts_is (l m : List Nat) : Txt.startswith (tx l) (tx m) = decide (l.take m.length = m) := by
  unfold Txt.startswith
  rw [StrLaws.subAt_eq, tx_len, tx_len]
  show (decide (0 + m.length ≤ l.length) && ((l.drop 0).take m.length == m)) = _
  rw [List.drop_zero]
  by_cases h : l.take m.length = m
  · have hl : m.length ≤ l.length := by
      have := congrArg List.length h
      rw [List.length_take] at this
      omega
    rw [decide_eq_true h, h]
    simp
    exact hl
  · rw [decide_eq_false h]
    have : (l.take m.length == m) = false := by simpa using h
    rw [this, Bool.and_false]
def rStartsU : V → List V → Hp → VK → Prop := fun x xs H Q => ∃ a b, x = .str a ∧ xs = [.str b] ∧ Q (.bl (Txt.startswith a b)) H
theorem uStarts {X : Cx} : MtR X "str.startswith" rStartsU := mt_startswith
theorem w_starts {l m : List Nat} {H : Hp} {Q : VK} (q : Q (.bl (decide (l.take m.length = m))) H) : rStartsU (.str (tx l)) [.str (tx m)] H Q := ⟨tx l, tx m, rfl, rfl, by rw [starts_is]; exact q⟩
/-- signs -/
def Sgn (l : List Nat) : Prop := ∀ c ∈ l, c < 1114112
theorem Let.sgn {l : List Nat} (h : Let l) : Sgn l := fun c hc => by
  have := mem_abc.mp (h c hc)
  omega
theorem Sgn.ok {l : List Nat} (h : Sgn l) : PyData.strOk (tx l) = true := by
  show l.toArray.all (fun c => decide (c < 0x110000)) = true
  unfold Sgn at h
  simpa using h
/-- pairs of texts -/
theorem dp_pair {K : PySem.W.Frag} {H : Hp} {p : Addr} {x y : Str} (h : SqT K H p [.str x, .str y]) : Dp K H (.ref p) (.tuple [.str x, .str y]) :=
  .tup h (.cons (.str _) (.cons (.str _) .nil))
theorem shaped_pair {x y : List Nat} (hx : Sgn x) (hy : Sgn y) : SeqAt.shaped (.tuple [.str (tx x), .str (tx y)]) = true := by
  simp [SeqAt.shaped, PyData.canLay0, PyData.canLayAll0, PyData.depth, PyData.depthAll, hx.ok, hy.ok]
theorem w_neP {K : PySem.W.Frag} {H : Hp} {Q : VK} {p q : Addr} {x y : List Nat} (h1 : SqT K H p [.str (tx x), .str (tx y)]) (h2 : SqT K H q [.str (tx x), .str (tx y)]) (hx : Sgn x) (hy : Sgn y) (k : Q (.bl false) H) : rNeU K (.ref p) (.ref q) H Q :=
  .inr ⟨_, _, dp_pair h1, dp_pair h2, shaped_pair hx hy, shaped_pair hx hy, by
    have e : PyData.eqv (.tuple [.str (tx x), .str (tx y)]) (.tuple [.str (tx x), .str (tx y)]) = true := by simp [PyData.eqv, PyData.eqvAll]
    rw [e]
    exact k⟩
theorem min_max (b : Int) (l : Nat) (hb : 2 ≤ b ∧ b ≤ 100) : ∃ n : Nat, (if (if (l : Int) < b then (l : Int) else b) > 2 then (if (l : Int) < b then (l : Int) else b) else 2) = n ∧ n ≤ 100 := by
  obtain ⟨c, rfl⟩ := Int.eq_ofNat_of_zero_le (show (0 : Int) ≤ b by omega)
  have : ∃ x : Nat, (if (l : Int) < c then (l : Int) else c) = x ∧ x ≤ 100 := by
    split
    · exact ⟨l, rfl, by omega⟩
    · exact ⟨c, rfl, by omega⟩
  obtain ⟨x, hx, hx2⟩ := this
  rw [hx]
  split
  · exact ⟨x, rfl, hx2⟩
  · exact ⟨2, rfl, by omega⟩
end SL
set_option Elab.async false
set_option linter.all false
set_option maxRecDepth 100000
set_option maxHeartbeats 4000000
/-! SlX: an own error with one field, whose class stands over an own class over Exception, and whose __init__ calls that class's own. (Turned from the worked proof of an own error.) -/
namespace PySem
namespace XIn
open PySem.W PySem.Calls PyProof.Rows PySem.HandSPX
def aI (p1 p2 : Pos) : Arguments := { posonlyargs := [], args := [{ arg := "self", annotation := none, pos := p1 }, { arg := "given", annotation := none, pos := p2 }], vararg := none, kwonlyargs := [], kw_defaults := [], kwarg := none, defaults := [] }
def bI (m : Str) (j : Nat) (q1 q2 q3 q4 q5 q6 q7 q8 q9 q10 : Pos) : List Stmt :=
  [.Expr (.Call (.Attribute (.Name "CodecError" q1) "__init__" q2) [.Name "self" q3, .Constant (.str m) j q4] [] q5) q6, .Assign [.Attribute (.Name "self" q7) "given" q8] (.Name "given" q9) q10]
def sI : Scope := { kind := .function, names := [(PySem.Str.ofString "self", .local), (PySem.Str.ofString "given", .local), (PySem.Str.ofString "CodecError", .globalImplicit)], isGenerator := false, isCoroutine := false, more := [] }
/-- what the written part says of the class at C, of the one under it at B, and of its __init__ at fI -/
structure ErrTxt (K : Frag) (mg : Str → Option Value) (x : Str) (C B fI : Addr) : Prop where
  gC : mg x = some (.ref C)
  gB : mg "CodecError" = some (.ref B)
  cls : ∃ nm q N bs sn sub ab col dd k0 k1 k2 k3 k5, K.lookup C = some (excClassObj nm q C N bs (.ref B :: ESX.exTail) true sn sub ab col dd k0 k1 k2 k3 k5 "Exception.__new__")
  sa : findIn K (.ref C) "__setattr__" = some (some (.builtin "object.__setattr__"))
  ga : findIn K (.ref C) "__getattribute__" = some (some (.builtin "BaseException.__getattribute__"))
  gg : findIn K (.ref C) "__getattr__" = some none
  noN : findIn K (.ref C) "given" = some none
  iC : findIn K (.ref C) "__init__" = some (some (.ref fI))
  tC : typeIn K (.ref fI) = some (.type "function")
  kC : keepIn K (.ref C) = true
  exC : subIn K (.ref C) (.type "BaseException") = some true
  tyC : typeIn K (.ref C) = some (.type "type")
  hdC : hasDictIn K C = true
  te : exmOne K (.ref C) (.ref C) = some true
  sp : specialIn K (.ref B) "__getattribute__" = some (some (.builtin "type.__getattribute__"))
  rd : readsIn K B (.type "type") = true
  fc : findCls K (.ref B) (.type "type") "__init__" = some (.val (.builtin "Exception.__init__"))
  fn : ∃ (oc : Value) (od : Option Addr) (doc pm : Value) (an : Option Addr) (cdv ct : Value) (osl : Array (Option Value)) (p1 p2 q1 q2 q3 q4 q5 q6 q7 q8 q9 q10 : Pos) (q m : Str) (j : Nat),
    K.lookup fI = some ⟨oc, od, .func (fnOf "__init__" q (aI p1 p2) (bI m j q1 q2 q3 q4 q5 q6 q7 q8 q9 q10) sI .none .none doc pm an cdv ct), osl⟩ ∧ codeIn K cdv q = true ∧
    ∀ env : Env, ∃ pl : Sem Bool, eval (.Call (.Attribute (.Name "CodecError" q1) "__init__" q2) [.Name "self" q3, .Constant (.str m) j q4] [] q5) env = (do
      let ov ← eval (.Name "CodecError" q1) env
      standAt q2.atName
      let (f, first) ← holding [ov] (getMethod ov "__init__" pl)
      callWith q5 f first (backTo q5 (starEach [.Name "self" q3, .Constant (.str m) j q4] env)) (backToKw q5 (keywordEach [] env)))
theorem one_fits (v : Value) : [v].length ≤ sizeLine := by
  rw [sizeLine_eq]
  exact (by decide : 1 ≤ 16777216)
theorem tail_is (B : Addr) (X : String) : (Value.ref B :: ESX.exTail).contains (.type X) = ESX.exTail.contains (.type X) := by
  rw [List.contains_cons]
  rfl
theorem in_but {K : Frag} {h h' : Heap} {x : Addr} (X : K.In h) (hx : K.lookup x = none) (k : ∀ b o, b ≠ x → h.get? b = some o → h'.get? b = some o) : K.In h' := fun a o e =>
  k a o (fun z => by rw [z, hx] at e; cases e) (X a o e)
theorem ldC {M : Model} {s : Shared} {name : Str} {scope : Scope} {L a : Addr} {cd : Value} {m : Str → Option Value} {x : Str} {pos : Pos} {v : Value} {Q : Value → Shared → Prop} {A : Around} {E : Value → Shared → Prop} (hn : s.heap.Ns L m) (hv : m x = some v) (h : Q v s)
    (hk : scope.kind = .function := by rfl) (hl : (envOfC name scope L a cd).kindOf x = some .local := by rfl) (hd : (x == ("__debug__" : Str)) = false := by decide) :
    wpAny M A (eval (.Name x pos) (envOfC name scope L a cd)) Q E s := wpAny_Name (wpAny_loadName_local hk hl hn hv h) hd
/-! self.name = v on such an exception that has no dict yet -/
section
open Builtin Builtin.ObjectAttr
theorem osa_two {prog : Program} {w : World} {A : Around} {R : Result → Shared → Prop} {hp : Heap} {g : Array GenState} {d : Drawn} {t : Nat} {os : OsState} {K : W.Frag} {name : Str} {tk : Tok} {v : Value} {x C B : Addr} {fv : Array Value} {cd : ClassData}
    (X : K.In hp) (hx : hp.get? x = some { cls := .ref C, data := .fields fv }) (hcd : W.clsIn K C = some cd) (hm : cd.mro = .ref C :: .ref B :: ESX.exTail) (hh : cd.hasDict = true) (ha : W.findIn K (.ref C) name = some none)
    (hq : ∀ h' tk' dx, (∀ b o, b ≠ x → hp.get? b = some o → h'.get? b = some o) → hp.objs.size ≤ dx → dx ≠ x → h'.get? x = some { cls := .ref C, dict := some dx, data := .fields fv } →
      h'.Ns1 dx (fun y => if y = name then some v else none) → R (.ok (.ret .none)) ⟨h', g, d, tk', os⟩) :
    codeAny (model prog w) A (.call (.builtin "object.__setattr__") ⟨[.ref x, .str name tk, v], []⟩) R ⟨hp, g, d, t, os⟩ := by
  have I : W.InstAt hp x { cls := .ref C, data := .fields fv } C none := ⟨hx, rfl, rfl, trivial⟩
  have far : x ≠ hp.objs.size := Nat.ne_of_lt (Heap.lt_size hx)
  have hob : cd.mro.contains (.type "object") = true := by
    have e : ESX.exTail.contains (.type "object") = true := by decide +kernel
    rw [hm, List.contains_cons, List.contains_cons, e]
    simp
  have ofObj : W.Looks (model prog w) hp (isInstance (.ref x) (.type "object")) true :=
    I.type.andThen (W.looks_mroIn X (by unfold W.mroIn; rw [hcd, Option.bind_some, hm, if_neg (by simp), ← hm, hob]))
  have SO := F.store_object
  refine codeAny_call_builtin SO.slot.plain SO.entry (@W.check_slot (model prog w) _ _ ⟨hp, g, d, t, os⟩ "object.__setattr__" "object" "__setattr__" (.ref x) [.str name tk, v] [] _ SO.kind SO.split ofObj (SO.args (.ref x) (.str name tk) v) ?_)
  have chain : W.Looks (model prog w) hp (mroOf (.ref C)) cd.mro := (W.looks_clsIn X hcd).andThen .now
  have noTaker : W.Looks (model prog w) hp (storeTaker? none) none := .now
  have ofC : W.Looks (model prog w) hp (classData C) cd := W.looks_clsIn X hcd
  have goes : refuseLoop (.ref x) "__setattr__" cd.mro = pure () := by
    rw [hm, refuseLoop_ref, refuseLoop_ref]
    exact F.store_Exception.passes _
  rw [W.osa_eq, refuse_eq]
  refine wpAny_bind (wpAny_bind (I.type.at (wpAny_bind (chain.at ?_))))
  rw [goes]
  refine wpAny_pure (wpAny_bind (I.type.at (wpAny_bind ((W.looks_findIn X ha).at (wpAny_bind (noTaker.at ?_))))))
  show wpAny _ _ (storeInOwnDict (.ref x) (.ref C) (.str name tk) name v false) _ _ _
  obtain ⟨nm, bs, mro, ns, qn, hd, sn, sb, ab, col, del⟩ := cd
  dsimp only at hh
  subst hh
  unfold storeInOwnDict ownDictForStores
  repeat (first | with_reducible refine HandSPX.store_in_new ?_ ?_ | with_reducible refine wpAny_loadPart_at hx ?_ | with_reducible refine ofC.at ?_ | wp_step)
  · exact ⟨_, #[], _, (Heap.get?_update_ne _ _ _ _ far.symm).trans (Heap.get?_push_at rfl rfl), rfl, fun e he => absurd he (by simp), fun _ => rfl⟩
  · intro h' tk' hn' hs
    have hx₁ : (hp.push { cls := .type "dict", data := .dict #[] }).get? x = some { cls := .ref C, data := .fields fv } := Heap.get?_push_of_some _ hx
    refine hq h' tk' hp.objs.size (fun b o hb ho => ?_) (Nat.le_refl _) far.symm ?_ hn'
    · exact (hs.2 b (Nat.ne_of_lt (Heap.lt_size ho))).trans ((Heap.get?_update_ne _ _ _ _ hb).trans (Heap.get?_push_of_some _ ho))
    · exact (hs.2 x far).trans (Heap.get?_update_self _ hx₁ rfl)
end
/-- what __init__ leaves of a fresh exception at x -/
structure InitEnd (h h' : Heap) (x C dx : Addr) (v : Value) : Prop where
  keep : ∀ b o, b ≠ x → h.get? b = some o → h'.get? b = some o
  obj : ∃ t1 : Addr, h'.get? x = some ({ cls := .ref C, dict := some dx, data := .fields #[.ref t1, .none, .none, .none, .bool false, .none] } : Obj)
  dbig : h.objs.size ≤ dx
  dne : dx ≠ x
  ns : h'.Ns1 dx (fun y => if y = "given" then some v else none)
/-- a made one -/
structure OwnMade (h h' : Heap) (e C d : Addr) (v : Value) : Prop where
  keep : ∀ b o, h.get? b = some o → h'.get? b = some o
  new : h.objs.size ≤ e
  obj : ∃ oe vs, h'.get? e = some oe ∧ oe.cls = .ref C ∧ oe.dict = some d ∧ oe.data = .fields vs ∧ vs[1]? = some .none
  dbig : h.objs.size ≤ d
  dne : d ≠ e
  ns : h'.Ns1 d (fun y => if y = "given" then some v else none)
section
variable {prog : Program} {w : World} {A : Around} {E : Value → Shared → Prop} {R : Result → Shared → Prop} {s : Shared} {K : Frag} {mg : Str → Option Value} {n : Str} {C B fI : Addr}
theorem err_init (T : ErrTxt K mg n C B fI) {x t0 : Addr} {v : Value} (X : K.In s.heap) (hG : s.heap.Ns mainGlobals mg) (hlim : s.heap.NoLimit) (hx : s.heap.get? x = some (excO C t0)) (hnx : K.lookup x = none) (hroom : A.depth < recursionLimit)
    (hq : ∀ h' tk dx, InitEnd s.heap h' x C dx v → R (.ok (.ret .none)) { s with heap := h', toks := tk }) :
    codeAny (model prog w) A (.call (.ref fI) ⟨[.ref x, v], []⟩) R s := by
  obtain ⟨oc, od, doc, pm, an, cdv, ct, osl, p1, p2, q1, q2, q3, q4, q5, q6, q7, q8, q9, q10, qn, m, j, ho, hcd, hev⟩ := T.fn
  obtain ⟨nm, q, N, bs, sn, sub, ab, col, dd, k0, k1, k2, k3, k5, hC⟩ := T.cls
  have hcl : clsIn K C = some { name := nm, bases := bs, mro := .ref C :: .ref B :: ESX.exTail, ns := N, qualname := q, hasDict := true, slotNames := sn, subclasses := sub, abstract := ab, collection := col, hasDel := false } := by unfold clsIn; rw [hC] <;> rfl
  refine Att.call_fn (binds := [("self", .ref x), ("given", v)]) X hlim ho hcd hroom (BindsTo.of_eq (by first | rfl | with_unfolding_all rfl)) (by first | rfl | decide | with_unfolding_all rfl) (fun s₁ IC => ?_) rfl rfl rfl
  obtain ⟨h₁, tk₁, rfl⟩ := IC.toInCall.same
  have k : ∀ b o, s.heap.get? b = some o → h₁.get? b = some o := IC.toInCall.keep
  have hn := IC.toInCall.ns
  have hxL : s.heap.objs.size ≠ x := Nat.ne_of_gt (Heap.lt_size hx)
  have X₁ : K.In h₁ := X.keeps k
  have hx₁ := k _ _ hx
  have z : s.heap.objs.size < h₁.objs.size := hn.lt
  show wpAny _ _ (execs _ _) _ _ _
  obtain ⟨pl, hev⟩ := hev (envOfC qn sI s.heap.objs.size fI cdv)
  refine wpAny_execs_cons (wpAny_Expr_any (methodCall_KW ?_ hev) (by first | rfl | simp [interactive]) (by first | rfl | with_unfolding_all rfl))
  refine Name_function_global rfl (by first | rfl | with_unfolding_all rfl | kernel_rfl) (loadGlobal_global (mg := mg) (hG.keeps k) T.gB ?_)
  refine method_cls X₁ T.sp (cls_value X₁ T.rd T.fc (by decide +kernel) ?_)
  refine callWith_method1 (args_cons (ldC (v := .ref x) hn (by first | rfl | with_unfolding_all rfl | kernel_rfl) (args_cons (Constant_str (args_nil ?_)))))
  refine wpAny_call (init_base F.excBase_Exception (tail_is B) (X₁ _ _ hC) hx₁ (one_fits _) fun h₂ t₂ k₂ hx₂ => ?_)
  have X₂ : K.In h₂ := in_but X₁ hnx k₂
  have hn₂ := hn.at fun o q => k₂ _ o hxL q
  refine wpAny_execs_cons (plainObj_wpAny_Assign_Attribute ?_)
  refine ldC (v := v) hn₂ (by first | rfl | with_unfolding_all rfl | kernel_rfl) (ldC (v := .ref x) hn₂ (by first | rfl | with_unfolding_all rfl | kernel_rfl) ?_)
  refine set_plain X₂ (ox := excO C t₂) (od := none) ⟨hx₂, rfl, rfl, trivial⟩ T.sa ?_
  refine osa_two X₂ hx₂ hcl rfl rfl T.noN (fun h₃ tk₃ dx k₃ dn dne hx₃ hn₃ => ?_)
  show wpAny _ _ (execs _ _) _ _ _
  have z2 : s.heap.objs.size < h₂.objs.size := hn₂.lt
  exact wpAny_execs_nil (hq h₃ tk₃ dx ⟨fun b o hb e => k₃ b o hb (k₂ b o hb (k b o e)), ⟨_, hx₃⟩, Nat.le_of_lt (Nat.lt_of_lt_of_le z2 dn), dne, hn₃⟩)
theorem err_made (T : ErrTxt K mg n C B fI) {v : Value} (X : K.In s.heap) (hG : s.heap.Ns mainGlobals mg) (hlim : s.heap.NoLimit) (hroom : A.depth + 1 < recursionLimit)
    (hq : ∀ h' tk e d, OwnMade s.heap h' e C d v → R (.ok (.ret (.ref e))) { s with heap := h', toks := tk }) :
    codeAny (model prog w) A (.call (.ref C) ⟨[v], []⟩) R s := by
  obtain ⟨nm, q, N, bs, sn, sub, ab, col, dd, k0, k1, k2, k3, k5, hC⟩ := T.cls
  obtain ⟨hp, g, dr, tk, os⟩ := s
  have k : ∀ b o, hp.get? b = some o → ((hp.push (kdv_tup [v])).push (excO C hp.objs.size)).get? b = some o := fun b o e => Heap.get?_push_of_some _ (Heap.get?_push_of_some _ e)
  have hget : ((hp.push (kdv_tup [v])).push (excO C hp.objs.size)).get? (hp.objs.size + 1) = some (excO C hp.objs.size) := by heap_get
  have hnx : K.lookup (hp.objs.size + 1) = none := by
    cases e : K.lookup (hp.objs.size + 1) with
    | none => rfl
    | some o =>
      have z : hp.get? (hp.objs.size + 1) = some o := X _ _ e
      exact absurd (Nat.lt_of_succ_lt (Heap.lt_size z)) (Nat.lt_irrefl _)
  refine call_own F.excBase_Exception (tail_is B) (X _ _ hC) (looks_findIn X T.iC) (fun self => bind_fn X self T.tC) (one_fits v) ?_
  refine err_init (s := ⟨(hp.push (kdv_tup [v])).push (excO C hp.objs.size), g, dr, tk, os⟩) T (X.keeps k) (hG.keeps k) (hlim.keeps k) hget hnx ?_ fun h' tk' dx ⟨k', ⟨t1, hx⟩, dn, dne, hns⟩ => ?_
  · show A.depth + 1 < recursionLimit
    exact hroom
  · have old : ∀ b o, hp.get? b = some o → h'.get? b = some o := fun b o e => k' b o (Nat.ne_of_lt (Nat.lt_succ_of_lt (Heap.lt_size e))) (k b o e)
    have z : hp.objs.size + 1 + 1 ≤ dx := by
      first
        | (simpa only [Heap.size_push] using dn)
        | exact dn
        | (have q := dn; rw [Heap.size_push, Heap.size_push] at q; exact q)
    exact ⟨rfl, hq h' tk' (hp.objs.size + 1) dx ⟨old, Nat.le_succ _, ⟨_, _, hx, rfl, rfl, rfl, rfl⟩, Nat.le_trans (Nat.le_trans (Nat.le_succ _) (Nat.le_succ _)) z, dne, hns⟩⟩
end
end XIn
end PySem

namespace SL
open PySem PySem.Spec PyProof.Rows L2
/-- the exception's own dict -/
abbrev xdG (v : V) : HO := .xd [(("given" : Str), v)]
theorem relO_given {v : V} {u : Value} (r : RelV v u) (f : Str) : RelO (List.lookup f [(("given" : Str), v)]) (if f = "given" then some u else none) := by
  by_cases hw : f = "given"
  · subst hw
    rw [if_pos rfl]
    have q : List.lookup ("given" : Str) [(("given" : Str), v)] = some v := by simp [List.lookup]
    rw [q]
    exact r
  · rw [if_neg hw]
    have qw : (f == ("given" : Str)) = false := by simpa using hw
    have q2 : List.lookup f [(("given" : Str), v)] = none := by simp [List.lookup, qw]
    rw [q2]
    trivial
/-- X(e): the made error -/
def tMkE (C : Addr) (ta : TA) : SSt → Hp → XK → Prop := fun σ H Q => ta σ H fun vs H1 => ∃ v, vs = [v] ∧ ∀ d, H1 d = none → Q (.ref C) (some d) (upd H1 d (xdG v))
theorem pmk_err {X : Cx} {C B fI : Addr} {x : Str} {a : Expr} {ta : TA} {p pos : Pos} {k : Nat} (T : PySem.XIn.ErrTxt X.K X.mg x C B fI) (hr : Room (k + 1) X.A) (ha : PA X [a] ta) (hg : Gl X x) (hdb : (x == ("__debug__" : Str)) = false := by decide)
    (he : starEach (a :: []) X.env = (false, eval a X.env) :: starEach [] X.env := by rfl) (hpl : (backTo pos (starEach [] X.env)).any (·.1) = false := by rfl) :
    PMk X (.Call (.Name x p) [a] [] pos) (tMkE C ta) := by
  intro pins s σ H Q I h
  refine wpAny_Call_Name_kw (ld_glob I hg T.gC ?_ hdb)
  refine PySem.W.callWith_K (h₀ := X.base) I.ok.mod.kin T.kC (thn (ha.run pos pins s σ H _ I h) fun us s1 hh => ?_) he hpl
  obtain ⟨vs, H1, I1, r1, v, ev, q1⟩ := hh
  subst ev
  refine ⟨I1.kIn, ?_⟩
  cases r1 with
  | cons rv rn =>
    rename_i v' us'
    cases rn
    show wpAny _ _ (call (.ref C) [v']) _ _ _
    have hlim := I1.nolimit
    have hG := I1.ok.mod.glob.keeps I1.bk
    obtain ⟨hp, g, dr, tk, os⟩ := s1
    refine wpAny_call (PySem.XIn.err_made T I1.kIn hG hlim (by have := hr.dp; omega) fun h' tk' e d M => ?_)
    show MkP X pins σ Q (.ref e) ⟨h', g, dr, tk', os⟩
    obtain ⟨oe, fv, hoe, hc, hd, hdat, h1⟩ := M.obj
    have hns := M.ns
    obtain ⟨G', g1, g2⟩ := restrict h' fun b => decide (b ≠ e)
    have gk : ∀ b, b ≠ e → G'.get? b = h'.get? b := fun b hb => g1 b (decide_eq_true hb)
    have ge : G'.get? e = none := g2 e (by simp)
    have old : ∀ b o, hp.get? b = some o → G'.get? b = some o := fun b o q => (gk b (Nat.ne_of_lt (Nat.lt_of_lt_of_le (Heap.lt_size q) M.new))).trans (M.keep b o q)
    have ob : ObjOk X.prog X.w (upd H1 d (xdG v)) G' d (xdG v) := ⟨_, hns.at (fun o q => (gk d M.dne).trans q), fun f => relO_given rv f⟩
    have J : Inv X pins σ (upd H1 d (xdG v)) ⟨G', g, dr, tk', os⟩ := I1.laid (t' := tk') old M.dbig ob
    refine ⟨e, oe, fv, ⟨G', g, dr, tk', os⟩, _, .ref C, some d, rfl, J, fun b o q => ?_, ge, hoe, ⟨hc, hd⟩, hdat, h1, ?_, rfl, I1.bare, raises_own T.exC T.tyC, q1 d (I1.hok.fresh M.dbig)⟩
    · by_cases hb : b = e
      · have q' : G'.get? b = some o := q
        rw [hb, ge] at q'; cases q'
      · exact (gk b hb).symm.trans q
    · rw [upd_ne (Ne.symm M.dne)]
      exact I1.hok.fresh M.new
/-- raise X(e) -/
def tRz (C : Addr) (W : WX) (ta : TA) : TS := fun _ σ H => ta σ H fun vs H1 => ∃ v, vs = [v] ∧ ∀ d, H1 d = none → W (.ref C) (some d) σ (upd H1 d (xdG v))
theorem ps_rz {X : Cx} {C B fI : Addr} {x : Str} {a : Expr} {ta : TA} {W : WX} {p pos pos2 : Pos} {k : Nat} (hc : X.calm = true) (tk : Takes X W) (T : PySem.XIn.ErrTxt X.K X.mg x C B fI) (hr : Room (k + 1) X.A) (hg : Gl X x) (ha : PA X [a] ta) (hdb : (x == ("__debug__" : Str)) = false := by decide)
    (he : starEach (a :: []) X.env = (false, eval a X.env) :: starEach [] X.env := by rfl) (hpl : (backTo pos (starEach [] X.env)).any (·.1) = false := by rfl) :
    PS X (.Raise (some (.Call (.Name x p) [a] [] pos)) none pos2) (tRz C W ta) := ps_raise hc tk (pmk_err T hr ha hg hdb he hpl)
theorem w_rz {C : Addr} {W : WX} {ta : TA} {D : Ends} {σ : SSt} {H : Hp} (q : ta σ H fun vs H1 => ∃ v, vs = [v] ∧ ∀ d, H1 d = none → W (.ref C) (some d) σ (upd H1 d (xdG v))) : tRz C W ta D σ H := q
theorem w_one {Q : V → Prop} {v : V} (q : Q v) : ∃ x, [v] = [x] ∧ Q x := ⟨v, rfl, q⟩
theorem xf_of {K : PySem.W.Frag} {mg : Str → Option Value} {x : Str} {C B fI : Addr} (T : PySem.XIn.ErrTxt K mg x C B fI) : XfC K C := ⟨T.ga, T.gg, T.exC, T.hdC⟩
/-- try: body, except X as n: suite -/
def tTryA (K : PySem.W.Frag) (c : Value) (i : Nat) (ts : Addr → Value → Option Addr → TS) (Wout : WX) (tb : WX → TS) : TS := fun D σ H => tb (wAs K c i ts Wout D) D σ H
theorem ps_tryA (K : PySem.W.Frag) {X : Cx} {x n : Str} {c : Value} {i : Nat} {body suite : List Stmt} {b₀ : Stmt} {np pos pos' : Pos} {tb : WX → TS} {ts : Addr → Value → Option Addr → TS} {Wout : WX} (hK : X.K = K)
    (hs : X.stack = X.env :: X.outer) (hf : X.env.frame = some X.env.locals) (hN : X.N.Nodup) (hi : X.N[i]? = some n) (hln : X.env.kindOf n = some .local) (hc : Names X x c) (tk : Takes X Wout)
    (hb : ∀ (W : WX) (pn : List (Addr × Obj)) (xe : Value → Shared → Prop), Takes (X.tr pn xe) W → PassesOwn (model X.prog X.w) X.A X.env xe → PSs (X.tr pn xe) body (tb W))
    (hsu : ∀ (a : Addr) (oe : Obj) (cls : Value) (d : Option Addr) (pn : List (Addr × Obj)), Zc cls d oe → (∃ vs, oe.data = .fields vs) → PSs (X.suite a ((a, oe) :: pn)) (b₀ :: suite) (ts a cls d)) :
    PS X (.Try body [.ExceptHandler (some (.Name x np)) (some n) (b₀ :: suite) pos'] [] [] pos) (tTryA K c i ts Wout tb) := hK ▸ ps_try_as hs hf hN hi hln hc tk hb hsu
theorem w_tryA {K : PySem.W.Frag} {c : Value} {i : Nat} {ts : Addr → Value → Option Addr → TS} {Wout : WX} {tb : WX → TS} {D : Ends} {σ : SSt} {H : Hp} (q : tb (wAs K c i ts Wout D) D σ H) : tTryA K c i ts Wout tb D σ H := q
/-- the clause takes it -/
theorem wAs_of {K : PySem.W.Frag} {c cls : Value} {i : Nat} {ts : Addr → Value → Option Addr → TS} {Wout : WX} {D : Ends} {d : Option Addr} {σ : SSt} {H : Hp} (h : PySem.W.exmOne K cls c = some true)
    (q : ∀ a, H a = none → ts a cls d { nx := fun σ' H' => D.nx (σ'.set i none) H', rt := D.rt, bk := fun σ' H' => D.bk (σ'.set i none) H', ct := fun σ' H' => D.ct (σ'.set i none) H' } (σ.set i (some (.ref a))) H) : wAs K c i ts Wout D cls d σ H :=
  ⟨true, h, fun _ => q, fun h => nomatch h⟩
/-- e.given in the suite, e the caught error at a -/
def tGiv (C a : Addr) (cls : Value) (d : Option Addr) (i : Nat) : TE := fun σ H Q => σ[i]? = some (some (.ref a)) ∧ cls = .ref C ∧ ∃ (b : Addr) (v : V), d = some b ∧ H b = some (xdG v) ∧ Q v H
theorem pe_giv {X : Cx} {x : Str} {a C B fI : Addr} {oe : Obj} {cls : Value} {d : Option Addr} {pn : List (Addr × Obj)} {e : Expr} {i : Nat} {pos : Pos} (T : PySem.XIn.ErrTxt X.K X.mg x C B fI)
    (hz : Zc cls d oe) (hf : ∃ vs, oe.data = .fields vs) (he : PE (X.suite a ((a, oe) :: pn)) e (tVar i)) (hb : attributeBase e "given" X.env (eval e X.env) = eval e X.env := by rfl) :
    PE (X.suite a ((a, oe) :: pn)) (.Attribute e "given" pos) (tGiv C a cls d i) := by
  refine ⟨fun pins s σ H Q I h => (pe_xf (xf_of T) T.noN hz hf he hb).run pins s σ H Q I ?_⟩
  obtain ⟨h1, h2, b, v, h3, h4, q⟩ := h
  exact ⟨.ref a, h1, rfl, h2, b, _, v, h3, h4, by simp [List.lookup], q⟩
theorem w_giv {C a d : Addr} {i : Nat} {σ : SSt} {H : Hp} {Q : VK} {v : V} (h : σ[i]? = some (some (.ref a))) (hd : H d = some (xdG v)) (q : Q v H) : tGiv C a (.ref C) (some d) i σ H Q := ⟨h, rfl, d, v, rfl, hd, q⟩
theorem noXt {X : Cx} : ∀ σ, PassesAt (L2.CX X.prog X.w) X σ (E0s σ) := noX
/-- what a def lets out is its own wish -/
theorem tk_def {P : Program} {w : World} {K : PySem.W.Frag} {mg : Str → Option Value} {base : Heap} {N : List Str} {q : Str} {sc : Scope} {f : Addr} {cd : Value} {A : Around} {outer : List Env} {s : Shared} {H : Hp} {E : XK} :
    Takes (cxOf (L2.CX P w) P w K mg base N q sc f cd A outer s H E) (fun cls d _ H => E cls d H) := takes_of rfl rfl rfl rfl
theorem po_def {P : Program} {w : World} {K : PySem.W.Frag} {mg : Str → Option Value} {base : Heap} {N : List Str} {q : Str} {sc : Scope} {f : Addr} {cd : Value} {A : Around} {outer : List Env} {s : Shared} {H : Hp} {E : XK} :
    PassesOwn (model P w) (cxOf (L2.CX P w) P w K mg base N q sc f cd A outer s H E).A (cxOf (L2.CX P w) P w K mg base N q sc f cd A outer s H E).env (cxOf (L2.CX P w) P w K mg base N q sc f cd A outer s H E).xe := passes_of rfl
/-- how a class of errors is named -/
theorem names_err {X : Cx} {x : Str} {C B fI : Addr} (T : PySem.XIn.ErrTxt X.K X.mg x C B fI) (hg : Gl X x) (hdb : (x == ("__debug__" : Str)) = false := by decide) : Names X x (.ref C) := ⟨hg, hdb, .inl T.gC⟩
end SL
set_option Elab.async false
set_option linter.all false
set_option maxRecDepth 100000
set_option maxHeartbeats 4000000
/-! SlR: repr of data: nested lists and tuples of None, bools, ints and texts; an empty dict. -/
namespace SL
open PySem PySem.Spec PyProof.Rows L2
/-- may be written out -/
def ShowOk (d : PyData) : Prop := d.showable = true ∧ d.hasDict = false ∧ d.depth ≤ 60 ∧ d.shown.length ≤ 16777216
def rReprD (K : PySem.W.Frag) : List V → Hp → VK → Prop := fun xs H Q => ∃ x, xs = [x] ∧ ((∃ d, Dp K H x d ∧ ShowOk d ∧ Q (.str d.shown) H) ∨ (∃ a, x = .ref a ∧ H a = some (.dK []) ∧ Q (.str (PyData.dict []).shown) H))
theorem uReprD {X : Cx} {k : Nat} (hr : Room k X.A) (hg : X.A.guards = some []) : CallR X (.builtin "repr") (rReprD X.K) := by
  intro pins s σ H xs us Q I r h
  obtain ⟨x, rfl, h⟩ := h
  obtain ⟨u, rfl, ru⟩ := vals1 r
  have hu := hr.units
  have fin : ∀ {d : PyData} {as : List Addr} {a : Addr}, u = .ref a → Reads s.heap u d as → d.showable = true → (d.hasDict = true → sysModules ∉ as) → d.depth ≤ 60 → d.shown.length ≤ 16777216 → Q (.str d.shown) H →
      wpAny (model X.prog X.w) X.A (call (.builtin "repr") [u]) (EP X pins σ Q) X.xe s := by
    intro d as a e rd sh hs hd hz q
    subst e
    refine repr_of_reads' rd sh hs hg (by omega) (fun _ _ e => e) (fun h' t tk k => ⟨.str d.shown, H, I.kept k, ⟨_, rfl⟩, q⟩) (by rw [sizeLine_eq]; exact hz)
  rcases h with ⟨d, hd, ⟨s1, s2, s3, s4⟩, q⟩ | ⟨a, rfl, ha, q⟩
  · cases hd with
    | non =>
      cases (show u = Value.none from ru)
      exact PySem.P.repr_of_none ⟨.str _, H, I.tok _, ⟨_, rfl⟩, q⟩
    | bl b =>
      cases (show u = Value.bool b from ru)
      refine PySem.P.repr_of_bool ⟨.str _, H, I.tok _, ⟨_, rfl⟩, ?_⟩
      first | exact q | (cases b <;> exact q)
    | int i =>
      obtain ⟨t, rfl⟩ := ru
      refine PySem.P.repr_of_int (by simpa [PyData.showable] using s1) ⟨.str _, H, I.tok _, ⟨_, rfl⟩, q⟩
    | str y =>
      obtain ⟨t, rfl⟩ := ru
      exact PySem.P.repr_of_str ⟨.str _, H, I.tok _, ⟨_, rfl⟩, q⟩ (by rw [sizeLine_eq]; exact s4)
    | lst h1 h2 =>
      obtain ⟨as, rd⟩ := Dp.reads I _ _ u (.lst h1 h2) ru
      exact fin (show u = Value.ref _ from ru) rd s1 (fun z => by rw [s2] at z; cases z) s3 s4 q
    | tup h1 h2 =>
      obtain ⟨as, rd⟩ := Dp.reads I _ _ u (.tup h1 h2) ru
      exact fin (show u = Value.ref _ from ru) rd s1 (fun z => by rw [s2] at z; cases z) s3 s4 q
  · obtain ⟨_, ns, vs, kv, o, es, ep, e1, ⟨e2, e3, _, e4, _⟩⟩ := (show ObjOk X.prog X.w H s.heap a (.dK []) from I.hok a _ ha)
    have hvs : vs = [] := by
      cases kv
      rfl
    subst hvs
    have hes : es.toList = [] := by
      have := e4
      unfold Pairs at this
      cases h : es.toList with
      | nil => rfl
      | cons x r => rw [h] at this; cases this
    have rd : Reads s.heap u (.dict []) ([a] ++ []) := by
      rw [show u = Value.ref a from ru]
      have hd : Reads s.heap (.ref a) (.dict []) (a :: [] ++ []) := Reads.dict e1 (by first | exact e2.1 | exact e2.cls | exact e2) e3 (by rw [hes]; exact .nil) (by rw [hes]; exact .nil)
      exact hd
    refine fin (d := .dict []) (show u = Value.ref a from ru) rd (by rfl) (fun _ hm => ?_) (by decide) (by decide) q
    rw [List.append_nil, List.mem_singleton] at hm
    rw [← hm] at ns
    simp at ns
theorem kReprD (K : PySem.W.Frag) {X : Cx} {k : Nat} (h : X.K = K) (hr : Room k X.A) (hg : X.A.guards = some []) : CallR X (.builtin "repr") (rReprD K) := h ▸ uReprD hr hg
/-- a value that can be written out, and what is written -/
def Shown (K : PySem.W.Frag) (H : Hp) (v : V) (t : Str) : Prop := (∃ d, Dp K H v d ∧ ShowOk d ∧ t = d.shown) ∨ (∃ a, v = .ref a ∧ H a = some (.dK []) ∧ t = (PyData.dict []).shown)
theorem w_reprD {K : PySem.W.Frag} {H : Hp} {Q : VK} {v : V} {t : Str} (h : Shown K H v t) (q : Q (.str t) H) : rReprD K [v] H Q := by
  rcases h with ⟨d, h1, h2, rfl⟩ | ⟨a, h1, h2, rfl⟩
  · exact ⟨v, rfl, .inl ⟨d, h1, h2, q⟩⟩
  · exact ⟨v, rfl, .inr ⟨a, h1, h2, q⟩⟩
/-! errors by their names -/
def errAt (mg : Str → Option Value) (x : Str) : Addr := match mg x with | some (.ref C) => C | _ => 0
def ErrAt (K : PySem.W.Frag) (mg : Str → Option Value) (x : Str) : Prop := ∃ B fI, PySem.XIn.ErrTxt K mg x (errAt mg x) B fI
theorem ErrAt.of {K : PySem.W.Frag} {mg : Str → Option Value} {x : Str} {C B fI : Addr} (T : PySem.XIn.ErrTxt K mg x C B fI) : ErrAt K mg x := by
  have e : errAt mg x = C := by unfold errAt; rw [T.gC]
  exact ⟨B, fI, e.symm ▸ T⟩
theorem ErrAt.te {K : PySem.W.Frag} {mg : Str → Option Value} {x : Str} (T : ErrAt K mg x) : PySem.W.exmOne K (.ref (errAt mg x)) (.ref (errAt mg x)) = some true := by
  obtain ⟨B, fI, T⟩ := T
  exact T.te
theorem ps_rzA (mg : Str → Option Value) {X : Cx} {x : Str} {a : Expr} {ta : TA} {W : WX} {p pos pos2 : Pos} {k : Nat} (T : ErrAt X.K X.mg x) (hm : X.mg = mg) (hc : X.calm = true) (tk : Takes X W) (hr : Room (k + 1) X.A) (hg : Gl X x) (ha : PA X [a] ta) (hdb : (x == ("__debug__" : Str)) = false := by decide)
    (he : starEach (a :: []) X.env = (false, eval a X.env) :: starEach [] X.env := by rfl) (hpl : (backTo pos (starEach [] X.env)).any (·.1) = false := by rfl) :
    PS X (.Raise (some (.Call (.Name x p) [a] [] pos)) none pos2) (tRz (errAt mg x) W ta) := by
  subst hm
  obtain ⟨B, fI, T⟩ := T
  exact ps_rz hc tk T hr hg ha hdb he hpl
theorem pe_givA (mg : Str → Option Value) {X : Cx} {x : Str} {a : Addr} {oe : Obj} {cls : Value} {d : Option Addr} {pn : List (Addr × Obj)} {e : Expr} {i : Nat} {pos : Pos} (T : ErrAt X.K X.mg x) (hm : X.mg = mg)
    (hz : Zc cls d oe) (hf : ∃ vs, oe.data = .fields vs) (he : PE (X.suite a ((a, oe) :: pn)) e (tVar i)) (hb : attributeBase e "given" X.env (eval e X.env) = eval e X.env := by rfl) :
    PE (X.suite a ((a, oe) :: pn)) (.Attribute e "given" pos) (tGiv (errAt mg x) a cls d i) := by
  subst hm
  obtain ⟨B, fI, T⟩ := T
  exact pe_giv T hz hf he hb
theorem names_errA (mg : Str → Option Value) {X : Cx} {x : Str} (T : ErrAt X.K X.mg x) (hm : X.mg = mg) (hg : Gl X x) (hdb : (x == ("__debug__" : Str)) = false := by decide) : Names X x (.ref (errAt mg x)) := by
  subst hm
  obtain ⟨B, fI, T⟩ := T
  exact names_err T hg hdb
end SL
namespace SL
/-- an error of a class is what the clause of this class takes (the worked proof's row) -/
theorem exm_self {K : PySem.W.Frag} {S : PySem.Addr} (h1 : PySem.W.subIn K (.ref S) (.type "BaseException") = some true) (h2 : PySem.W.isClsIn K S = true) (h3 : PySem.W.typeIn K (.ref S) = some (.type "type")) (h4 : PySem.W.subIn K (.ref S) (.ref S) = some true) :
    PySem.W.exmOne K (.ref S) (.ref S) = some true := by
  have e1 : (PySem.W.subIn K (.ref S) (.type "BaseException") == some true) = true := by rw [h1] <;> rfl
  have e2 : ((PySem.W.clsIn K S).isSome && PySem.W.typeIn K (.ref S) == some (.type "type")) = true := by
    have h2' : (PySem.W.clsIn K S).isSome = true := h2
    rw [h2', h3] <;> rfl
  show (if (PySem.W.subIn K (.ref S) (.type "BaseException") == some true) = true then (if ((PySem.W.clsIn K S).isSome && PySem.W.typeIn K (.ref S) == some (.type "type")) = true then PySem.W.subIn K (.ref S) (.ref S) else none) else none) = some true
  rw [if_pos e1, if_pos e2]
  exact h4
end SL
set_option Elab.async false
set_option linter.all false
set_option maxRecDepth 100000
set_option maxHeartbeats 4000000
/-! SlS: values of any kind, as texts and lags are asked of them. -/
namespace SL
open PySem PySem.Spec PyProof.Rows L2
/-- the names of the kinds of values -/
def Kind (t : String) : Prop := t = "int" ∨ t = "bool" ∨ t = "NoneType" ∨ t = "list" ∨ t = "tuple" ∨ t = "dict" ∨ t = "str"
def KindX (t : String) : Prop := t = "int" ∨ t = "bool" ∨ t = "str" ∨ t = "list" ∨ t = "tuple"
theorem kit_kind {K : PySem.W.Frag} {t n : String} (ht : Kind t) (hn : KindX n) : PySem.W.kitOne K (.type t) (.type n) = some (t == n || (t == "bool" && n == "int")) := by
  rcases ht with rfl | rfl | rfl | rfl | rfl | rfl | rfl <;> rcases hn with rfl | rfl | rfl | rfl | rfl <;> exact kit_ty (by decide +kernel)
theorem w_isiK {K : PySem.W.Frag} {H : Hp} {Q : VK} {v : V} {t n : String} (h : TyX K H v (.type t)) (ht : Kind t) (hn : KindX n) (q : Q (.bl (t == n || (t == "bool" && n == "int"))) H) : rIsi K [v, .ty n] H Q :=
  ⟨v, _, .type t, .type n, _, rfl, .ty n, h, kit_kind ht hn, q⟩
/-- how the kind stays -/
theorem tyx_mono {K : PySem.W.Frag} {H H' : Hp} {v : V} {t : Value} (s : Same H H') (h : TyX K H v t) : TyX K H' v t := by
  cases h with
  | base b => cases b with
    | non => exact .base .non
    | bl b => exact .base (.bl b)
    | int i => exact .base (.int i)
    | str x => exact .base (.str x)
    | flt x => exact .base (.flt x)
    | lst e => exact .base (.lst (s _ _ e))
    | tup e => exact .base (.tup (s _ _ e))
    | frz e => exact .base (.frz (s _ _ e))
    | dK e => exact .base (.dK (s _ _ e))
    | dT e => exact .base (.dT (s _ _ e))
    | ins e cl ha hn htk hm => exact .base (.ins (s _ _ e) cl ha hn htk hm)
  | byt b => exact .byt b
  | set e => exact .set (s _ _ e)
  | kList e c => exact .kList e c
  | kTuple e c => exact .kTuple e c
  | kDict e c => exact .kDict e c
  | fTuple e => exact .fTuple (s _ _ e)
  | fDict e => exact .fDict (s _ _ e)
/-- what is_text answers of v -/
def IsTx (K : PySem.W.Frag) (H : Hp) (v : V) (b : Bool) : Prop := (∃ l, v = .str (tx l) ∧ l.length ≤ 100000 ∧ b = decide (Let l)) ∨ (b = false ∧ ∃ t, TyX K H v (.type t) ∧ Kind t ∧ t ≠ "str")
theorem IsTx.mono {K : PySem.W.Frag} {H H' : Hp} {v : V} {b : Bool} (s : Same H H') (h : IsTx K H v b) : IsTx K H' v b := by
  rcases h with h | ⟨h1, t, h2, h3⟩
  · exact .inl h
  · exact .inr ⟨h1, t, tyx_mono s h2, h3⟩
/-- what is_lag answers of v -/
def IsLg (K : PySem.W.Frag) (H : Hp) (v : V) (b : Bool) : Prop := (b = false ∧ ∃ t, TyX K H v (.type t) ∧ Kind t ∧ t ≠ "tuple") ∨
  (∃ p xs, v = .ref p ∧ H p = some (.tup xs) ∧ ((b = false ∧ xs.length ≠ 2) ∨ (∃ x y, xs = [x, y] ∧ b = false ∧ IsTx K H x false) ∨ (∃ l y, xs = [.str (tx l), y] ∧ b = false ∧ l.length ≤ 100000 ∧ Let l ∧ IsTx K H y false) ∨
    (∃ l m, xs = [.str (tx l), .str (tx m)] ∧ l.length ≤ 100000 ∧ m.length ≤ 100000 ∧ Let l ∧ Let m ∧ b = decide (l = [] ∨ m = []))))
theorem IsLg.mono {K : PySem.W.Frag} {H H' : Hp} {v : V} {b : Bool} (s : Same H H') (h : IsLg K H v b) : IsLg K H' v b := by
  rcases h with ⟨h1, t, h2, h3⟩ | ⟨p, xs, h1, h2, h3⟩
  · exact .inl ⟨h1, t, tyx_mono s h2, h3⟩
  · refine .inr ⟨p, xs, h1, s _ _ h2, ?_⟩
    rcases h3 with h3 | ⟨x, y, e, hb, hx⟩ | ⟨l, y, e, hb, z, hl, hy⟩ | h3
    · exact .inl h3
    · exact .inr (.inl ⟨x, y, e, hb, hx.mono s⟩)
    · exact .inr (.inr (.inl ⟨l, y, e, hb, z, hl, hy.mono s⟩))
    · exact .inr (.inr (.inr h3))
/-- a small lag -/
def IsSmall (K : PySem.W.Frag) (H : Hp) (v : V) (x y : List Nat) : Prop := ∃ p, v = .ref p ∧ H p = some (.tup [.str (tx x), .str (tx y)]) ∧ x.length ≤ 10000 ∧ y.length ≤ 10000 ∧ Let x ∧ Let y
theorem in_pair2 {x y : List Nat} : inV (V.str (tx [])) [V.str (tx x), V.str (tx y)] = decide (x = [] ∨ y = []) := by
  by_cases h : x = [] ∨ y = []
  · rw [in_pair h, decide_eq_true h]
  · rw [decide_eq_false h]
    have e : ∀ z : List Nat, z ≠ [] → eqV (V.str (tx z)) (V.str (tx [])) = false := fun z hz => by
      cases z with
      | nil => exact absurd rfl hz
      | cons a r => first | rfl | simp [eqV] | (simp [eqV, tx])
    have h1 : x ≠ [] := fun z => h (.inl z)
    have h2 : y ≠ [] := fun z => h (.inr z)
    simp [inV, e x h1, e y h2]
end SL
set_option Elab.async false
set_option linter.all false
set_option maxRecDepth 100000
set_option maxHeartbeats 4000000
/-! SlV: data that a heap holds, read as plain data. -/
namespace SL
open PySem PySem.Spec PyProof.Rows L2
mutual
inductive Dv (H : Hp) : V → PyData → Prop
  | non : Dv H .non .none
  | bl (b : Bool) : Dv H (.bl b) (.bool b)
  | int (i : Int) : Dv H (.int i) (.int i)
  | str (l : List Nat) : Dv H (.str (tx l)) (.str (tx l))
  | lst {a : Addr} {xs : List V} {ds : List PyData} : H a = some (.lst xs) → DvAll H xs ds → Dv H (.ref a) (.list ds)
  | tup {a : Addr} {xs : List V} {ds : List PyData} : H a = some (.tup xs) → DvAll H xs ds → Dv H (.ref a) (.tuple ds)
  | emp {a : Addr} : H a = some (.dK []) → Dv H (.ref a) (.dict [])
inductive DvAll (H : Hp) : List V → List PyData → Prop
  | nil : DvAll H [] []
  | cons {v : V} {vs : List V} {d : PyData} {ds : List PyData} : Dv H v d → DvAll H vs ds → DvAll H (v :: vs) (d :: ds)
end
mutual
theorem Dv.mono {H H' : Hp} (s : Same H H') : ∀ (d : PyData) (v : V), Dv H v d → Dv H' v d
  | .none, _, h => by cases h; exact .non
  | .bool b, _, h => by cases h; exact .bl b
  | .int i, _, h => by cases h; exact .int i
  | .str x, _, h => by
    cases h
    exact .str _
  | .list ds, _, h => by
    cases h with
    | lst h1 h2 => exact .lst (s _ _ h1) (DvAll.mono s ds _ h2)
  | .tuple ds, _, h => by
    cases h with
    | tup h1 h2 => exact .tup (s _ _ h1) (DvAll.mono s ds _ h2)
  | .dict ks, _, h => by
    cases h with
    | emp h1 => exact .emp (s _ _ h1)
theorem DvAll.mono {H H' : Hp} (s : Same H H') : ∀ (ds : List PyData) (vs : List V), DvAll H vs ds → DvAll H' vs ds
  | [], _, h => by cases h; exact .nil
  | d :: ds, _, h => by
    cases h with
    | cons h1 h2 => exact .cons (Dv.mono s d _ h1) (DvAll.mono s ds _ h2)
end
mutual
theorem Dv.dp {K : PySem.W.Frag} {H : Hp} : ∀ (d : PyData) (v : V), Dv H v d → d.hasDict = false → Dp K H v d
  | .none, _, h, _ => by cases h; exact .non
  | .bool b, _, h, _ => by cases h; exact .bl b
  | .int i, _, h, _ => by cases h; exact .int i
  | .str x, _, h, _ => by
    cases h
    exact .str _
  | .list ds, _, h, z => by
    cases h with
    | lst h1 h2 => exact .lst (SqL.of h1) (DvAll.dp ds _ h2 (by simpa [PyData.hasDict] using z))
  | .tuple ds, _, h, z => by
    cases h with
    | tup h1 h2 => exact .tup (SqT.of h1) (DvAll.dp ds _ h2 (by simpa [PyData.hasDict] using z))
  | .dict ks, _, _, z => by simp [PyData.hasDict] at z
theorem DvAll.dp {K : PySem.W.Frag} {H : Hp} : ∀ (ds : List PyData) (vs : List V), DvAll H vs ds → PyData.hasDictAll ds = false → DpAll K H vs ds
  | [], _, h, _ => by cases h; exact .nil
  | d :: ds, _, h, z => by
    cases h with
    | cons h1 h2 =>
      simp [PyData.hasDictAll] at z
      exact .cons (Dv.dp d _ h1 z.1) (DvAll.dp ds _ h2 z.2)
end
/-- can be written out -/
def okD (d : PyData) : Bool := (match d with | .dict [] => true | d => d.showable && !d.hasDict) && decide (d.depth ≤ 60) && decide (d.shown.length ≤ 16777216)
theorem Dv.shown {K : PySem.W.Frag} {H : Hp} {v : V} {d : PyData} (h : Dv H v d) (ok : okD d = true) : Shown K H v d.shown := by
  unfold okD at ok
  rw [Bool.and_eq_true, Bool.and_eq_true, decide_eq_true_eq, decide_eq_true_eq] at ok
  obtain ⟨⟨o1, o2⟩, o3⟩ := ok
  by_cases hd : d = .dict []
  · subst hd
    cases h with
    | emp h1 => exact .inr ⟨_, rfl, h1, rfl⟩
  · have o1' : d.showable = true ∧ d.hasDict = false := by
      cases d with
      | dict ks =>
        cases ks with
        | nil => exact absurd rfl hd
        | cons a r => simpa using o1
      | _ => simpa using o1
    exact .inl ⟨d, Dv.dp d v h o1'.2, ⟨o1'.1, o1'.2, o2, o3⟩, rfl⟩
/-- the kind -/
def kindD : PyData → String
  | .none => "NoneType" | .bool _ => "bool" | .int _ => "int" | .str _ => "str" | .list _ => "list" | .tuple _ => "tuple" | .dict _ => "dict"
theorem kind_ok (d : PyData) : Kind (kindD d) := by
  unfold Kind kindD
  cases d <;> simp
theorem Dv.ty {K : PySem.W.Frag} {H : Hp} {v : V} {d : PyData} (h : Dv H v d) : TyX K H v (.type (kindD d)) := by
  cases h with
  | non => exact .base .non
  | bl b => exact .base (.bl b)
  | int i => exact .base (.int i)
  | str l => exact .base (.str _)
  | lst h1 _ => exact .base (.lst h1)
  | tup h1 _ => exact .base (.tup h1)
  | emp h1 => exact .base (.dK h1)
/-- what is_text says of data, of lengths that are small -/
def txB : PyData → Bool
  | .str x => decide (Let x.cps.toList)
  | _ => false
def smS : PyData → Bool
  | .str x => decide (x.cps.toList.length ≤ 1000)
  | _ => true
theorem Dv.tx {K : PySem.W.Frag} {H : Hp} {v : V} {d : PyData} (h : Dv H v d) (s : smS d = true) : IsTx K H v (txB d) := by
  by_cases hk : kindD d = "str"
  · cases h with
    | str l => exact .inl ⟨l, rfl, by have := of_decide_eq_true s; have e : (SL.tx l).cps.toList = l := rfl; rw [e] at this; omega, rfl⟩
    | _ => exact absurd hk (by simp [kindD])
  · refine .inr ⟨?_, kindD d, h.ty, kind_ok d, hk⟩
    cases d <;> first | rfl | exact absurd rfl hk
/-- what is_lag says of data -/
def lgB : PyData → Bool
  | .tuple [a, b] => txB a && txB b && (a.shown == (PyData.str (SL.tx [])).shown || b.shown == (PyData.str (SL.tx [])).shown)
  | _ => false
def smL : PyData → Bool
  | .tuple [a, b] => smS a && smS b
  | _ => true
/-- what is no lag: by its parts -/
def noLg : PyData → Bool
  | .tuple [a, b] => !txB a || !txB b || (match a, b with | .str x, .str y => !x.cps.toList.isEmpty && !y.cps.toList.isEmpty | _, _ => true)
  | _ => true
theorem Dv.lg {K : PySem.W.Frag} {H : Hp} {v : V} {d : PyData} (h : Dv H v d) (s : smL d = true) (n : noLg d = true) : IsLg K H v false := by
  by_cases hk : kindD d = "tuple"
  · cases h with
    | @tup a xs ds h1 h2 =>
      refine .inr ⟨a, xs, rfl, h1, ?_⟩
      match xs, ds, h2 with
      | [], [], _ => exact .inl ⟨rfl, by simp⟩
      | [x], [d], _ => exact .inl ⟨rfl, by simp⟩
      | [x, y], [d, e], .cons hx (.cons hy .nil) =>
        have s' : smS d = true ∧ smS e = true := by simpa [smL] using s
        have tx1 := hx.tx (K := K) s'.1
        have ty1 := hy.tx (K := K) s'.2
        cases hd : txB d with
        | false =>
          rw [hd] at tx1
          exact .inr (.inl ⟨x, y, rfl, rfl, tx1⟩)
        | true =>
          cases hx with
          | str l =>
            have hl : Let l := of_decide_eq_true hd
            have zl : l.length ≤ 1000 := of_decide_eq_true s'.1
            cases he : txB e with
            | false =>
              rw [he] at ty1
              exact .inr (.inr (.inl ⟨l, y, rfl, rfl, by omega, hl, ty1⟩))
            | true =>
              cases hy with
              | str m =>
                have hm : Let m := of_decide_eq_true he
                have zm : m.length ≤ 1000 := of_decide_eq_true s'.2
                refine .inr (.inr (.inr ⟨l, m, rfl, by omega, by omega, hl, hm, ?_⟩))
                have n' : (l.isEmpty = false ∧ m.isEmpty = false) := by
                  have : (!txB (.str (SL.tx l)) || !txB (.str (SL.tx m)) || (!l.isEmpty && !m.isEmpty)) = true := n
                  rw [hd, he] at this
                  simpa using this
                symm
                rw [decide_eq_false_iff_not]
                rintro (rfl | rfl)
                · simp at n'
                · simp at n'
              | _ => simp [txB] at he
          | _ => simp [txB] at hd
      | x :: y :: z :: r, d :: e :: g :: q, _ => exact .inl ⟨rfl, by simp⟩
    | _ => exact absurd hk (by simp [kindD])
  · exact .inl ⟨rfl, kindD d, h.ty, kind_ok d, hk⟩
/-- all but those of l -/
def hide (l : List Addr) (H : Hp) : Hp := fun b => if b ∈ l then none else H b
theorem hide_get {l : List Addr} {e : Addr} {H : Hp} {o : HO} (h : H e = some o) (n : e ∉ l) : hide l H e = some o := by unfold hide; rw [if_neg n]; exact h
theorem hide_to {l : List Addr} {H H' : Hp} (f : ∀ b o, H b = some o → b ∉ l → H' b = some o) : Same (hide l H) H' := fun b o h => by
  unfold hide at h
  by_cases e : b ∈ l
  · rw [if_pos e] at h; cases h
  · rw [if_neg e] at h; exact f b o h e
theorem not_in {l : List Addr} {H H' : Hp} {e : Addr} (h : ∀ c ∈ l, H c ≠ none) (s : Same H H') (n : H' e = none) : e ∉ l := fun m => by
  have z := h e m
  cases q : H e with
  | none => exact z q
  | some o => rw [s _ _ q] at n; cases n
theorem dv_in {l : List Addr} {H : Hp} {c : Addr} {d : PyData} (h : Dv (hide l H) (.ref c) d) : c ∉ l := fun m => by
  have e : hide l H c = none := by unfold hide; rw [if_pos m]
  cases h with
  | lst h1 _ => rw [e] at h1; cases h1
  | tup h1 _ => rw [e] at h1; cases h1
  | emp h1 => rw [e] at h1; cases h1
theorem DvAll.len {H : Hp} : ∀ {vs : List V} {ds : List PyData}, DvAll H vs ds → vs.length = ds.length
  | [], [], _ => rfl
  | _ :: _, _ :: _, .cons _ r => by rw [List.length_cons, List.length_cons, r.len]
theorem same_upd {q : Addr} {H H' : Hp} {o : HO} (s : Same H H') : Same (upd H q o) (upd H' q o) := fun b u h => by
  by_cases e : b = q
  · subst e; rw [upd_same] at h ⊢; exact h
  · rw [upd_ne e] at h ⊢; exact s b u h
end SL
namespace SL
open PySem PySem.Spec PyProof.Rows L2
theorem fin_new {H : Hp} {e : Addr} {o : HO} {R : Hp → Prop} (k : ∀ F, Same (upd H e o) F → F e = some o → R F) : R (upd H e o) := k _ (Same.refl _) upd_same
end SL
namespace SL
open PySem PySem.Spec PyProof.Rows L2
def natL (ks : List Nat) : List V := ks.map fun k : Nat => V.int (k : Int)
theorem dp_nats {K : PySem.W.Frag} {H : Hp} : ∀ ks : List Nat, DpAll K H (natL ks) (ks.map fun k : Nat => PyData.int (k : Int))
  | [] => .nil
  | k :: r => .cons (.int _) (dp_nats r)
theorem lay_nats : ∀ ks : List Nat, PyData.canLayAll0 (ks.map fun k : Nat => PyData.int (k : Int)) = true
  | [] => by simp [PyData.canLayAll0]
  | k :: r => by
    have := lay_nats r
    simp [PyData.canLayAll0, PyData.canLay0, this]
theorem deep_nats : ∀ ks : List Nat, PyData.depthAll (ks.map fun k : Nat => PyData.int (k : Int)) = 0
  | [] => by simp [PyData.depthAll]
  | k :: r => by
    have := deep_nats r
    simp [PyData.depthAll, PyData.depth, this]
theorem w_eqNil {K : PySem.W.Frag} {H : Hp} {Q : VK} {r p : Addr} {ks : List Nat} (h1 : H r = some (.lst (natL ks))) (h2 : H p = some (.lst [])) (q : Q (.bl (decide (ks = []))) H) : rEqU K (.ref r) (.ref p) H Q := by
  refine .inr ⟨.list (ks.map fun k : Nat => PyData.int (k : Int)), .list [], .lst (SqL.of h1) (dp_nats ks), .lst (SqL.of h2) .nil, ?_, by simp [SeqAt.shaped, PyData.canLay0, PyData.canLayAll0, PyData.depth, PyData.depthAll], ?_⟩
  · simp [SeqAt.shaped, PyData.canLay0, PyData.depth, lay_nats, deep_nats]
  · have e : PyData.eqv (.list (ks.map fun k : Nat => PyData.int (k : Int))) (.list []) = decide (ks = []) := by
      cases ks with
      | nil => simp [PyData.eqv, PyData.eqvAll]
      | cons k r => simp [PyData.eqv, PyData.eqvAll]
    rw [e]
    exact q
end SL
set_option Elab.async false
set_option linter.all false
set_option maxHeartbeats 1000000
/-! Lev: the distance of two lists by the table of all beginnings, and its band. Plain Lean. -/
namespace Lv
/-- one letter beside another -/
def un (x y : List Nat) (i j : Nat) : Nat := if x.getD i 0 = y.getD j 0 then 0 else 1
theorem un_le (x y : List Nat) (i j : Nat) : un x y i j ≤ 1 := by unfold un; split <;> omega
/-- the table: beginnings of i and of j letters -/
def dl (x y : List Nat) : Nat → Nat → Nat
  | 0, j => j
  | i + 1, 0 => i + 1
  | i + 1, j + 1 => min (min (dl x y i j + un x y i j) (dl x y (i + 1) j + 1)) (dl x y i (j + 1) + 1)
termination_by i j => i + j
theorem un_eq {x y : List Nat} {i j c d : Nat} (h1 : x[i]? = some c) (h2 : y[j]? = some d) : (if (!decide ([c] = [d])) = true then (1 : Int) else 0) = (un x y i j : Nat) := by
  unfold un
  rw [List.getD_eq_getElem?_getD, List.getD_eq_getElem?_getD, h1, h2]
  by_cases h : c = d
  · simp [h]
  · simp [h]
theorem dl_0 (x y : List Nat) (j : Nat) : dl x y 0 j = j := by rw [dl]
theorem dl_r0 (x y : List Nat) (i : Nat) : dl x y i 0 = i := by cases i <;> rw [dl]
theorem dl_s (x y : List Nat) (i j : Nat) : dl x y (i + 1) (j + 1) = min (min (dl x y i j + un x y i j) (dl x y (i + 1) j + 1)) (dl x y i (j + 1) + 1) := by rw [dl]
theorem dl_low (x y : List Nat) : ∀ i j, i ≤ dl x y i j + j ∧ j ≤ dl x y i j + i
  | 0, j => by rw [dl_0]; omega
  | i + 1, 0 => by rw [dl_r0]; omega
  | i + 1, j + 1 => by
    have h1 := dl_low x y i j
    have h2 := dl_low x y (i + 1) j
    have h3 := dl_low x y i (j + 1)
    rw [dl_s]
    omega
termination_by i j => i + j
theorem dl_up (x y : List Nat) : ∀ i j, dl x y i j ≤ max i j
  | 0, j => by rw [dl_0]; omega
  | i + 1, 0 => by rw [dl_r0]; omega
  | i + 1, j + 1 => by
    have h1 := dl_up x y i j
    have h := un_le x y i j
    rw [dl_s]
    omega
termination_by i j => i + j
theorem dl_col (x y : List Nat) (i j : Nat) : dl x y i (j + 1) ≤ dl x y i j + 1 := by
  cases i with
  | zero => rw [dl_0, dl_0]; omega
  | succ i => rw [dl_s]; omega
theorem dl_row (x y : List Nat) (i j : Nat) : dl x y (i + 1) j ≤ dl x y i j + 1 := by
  cases j with
  | zero => rw [dl_r0, dl_r0]; omega
  | succ j => rw [dl_s]; omega
theorem dl_rowB (x y : List Nat) (i : Nat) : ∀ j, dl x y i j ≤ dl x y (i + 1) j + 1
  | 0 => by rw [dl_r0, dl_r0]; omega
  | j + 1 => by
    have h1 := dl_rowB x y i j
    have h2 := dl_col x y i j
    rw [dl_s]
    omega
theorem dl_colB (x y : List Nat) (j : Nat) : ∀ i, dl x y i j ≤ dl x y i (j + 1) + 1
  | 0 => by rw [dl_0, dl_0]; omega
  | i + 1 => by
    have h1 := dl_colB x y j i
    have h2 := dl_row x y i j
    rw [dl_s]
    omega
theorem dl_same {x y : List Nat} {i j : Nat} (h : x.getD i 0 = y.getD j 0) : dl x y (i + 1) (j + 1) = dl x y i j := by
  have h1 := dl_rowB x y i j
  have h2 := dl_colB x y j i
  have e : un x y i j = 0 := by unfold un; rw [if_pos h]
  rw [dl_s, e]
  omega
theorem dl_sym (x y : List Nat) : ∀ i j, dl x y i j = dl y x j i
  | 0, j => by rw [dl_0, dl_r0]
  | i + 1, 0 => by rw [dl_r0, dl_0]
  | i + 1, j + 1 => by
    have e : un x y i j = un y x j i := by
      unfold un
      by_cases h : x.getD i 0 = y.getD j 0
      · rw [if_pos h, if_pos h.symm]
      · rw [if_neg h, if_neg fun z => h z.symm]
    rw [dl_s, dl_s, dl_sym x y i j, dl_sym x y (i + 1) j, dl_sym x y i (j + 1), e]
    omega
termination_by i j => i + j
theorem dl_part {x y u v : List Nat} : ∀ i j, (∀ k, k < i → x.getD k 0 = u.getD k 0) → (∀ k, k < j → y.getD k 0 = v.getD k 0) → dl x y i j = dl u v i j
  | 0, j, _, _ => by rw [dl_0, dl_0]
  | i + 1, 0, _, _ => by rw [dl_r0, dl_r0]
  | i + 1, j + 1, hx, hy => by
    have e : un x y i j = un u v i j := by
      unfold un
      rw [hx i (by omega), hy j (by omega)]
    rw [dl_s, dl_s, dl_part i j (fun k h => hx k (by omega)) (fun k h => hy k (by omega)), dl_part (i + 1) j hx (fun k h => hy k (by omega)), dl_part i (j + 1) (fun k h => hx k (by omega)) hy, e]
termination_by i j => i + j
theorem un_cons (c d : Nat) (x y : List Nat) (i j : Nat) : un (c :: x) (d :: y) (i + 1) (j + 1) = un x y i j := by unfold un; rw [List.getD_cons_succ, List.getD_cons_succ]
theorem dl_head (c : Nat) (x y : List Nat) : ∀ i j, dl (c :: x) (c :: y) (i + 1) (j + 1) = dl x y i j
  | 0, 0 => by rw [dl_0, dl_same (x := c :: x) (y := c :: y) (i := 0) (j := 0) rfl, dl_0]
  | 0, j + 1 => by
    have h1 := dl_head c x y 0 j
    rw [dl_0] at h1
    rw [dl_0, dl_s (c :: x) (c :: y) 0 (j + 1), h1, dl_0, dl_0]
    have := un_le (c :: x) (c :: y) 0 (j + 1)
    omega
  | i + 1, 0 => by
    have h1 := dl_head c x y i 0
    rw [dl_r0] at h1
    have u := un_le (c :: x) (c :: y) (i + 1) 0
    rw [dl_r0, dl_s (c :: x) (c :: y) (i + 1) 0, h1, dl_r0, dl_r0]
    omega
  | i + 1, j + 1 => by
    rw [dl_s (c :: x) (c :: y) (i + 1) (j + 1), dl_s x y i j, dl_head c x y i j, dl_head c x y (i + 1) j, dl_head c x y i (j + 1), un_cons]
termination_by i j => i + j
theorem dl_put (c : Nat) (x y : List Nat) : ∀ i j, dl x (c :: y) i (j + 1) ≤ dl x y i j + 1
  | 0, j => by rw [dl_0, dl_0]; omega
  | i + 1, 0 => by
    have h1 := dl_row x (c :: y) i (0 + 1)
    have h2 := dl_put c x y i 0
    rw [dl_r0] at h2
    rw [dl_r0]
    omega
  | i + 1, j + 1 => by
    have h1 := dl_put c x y i j
    have h2 := dl_put c x y (i + 1) j
    have h3 := dl_put c x y i (j + 1)
    have e : un x (c :: y) i (j + 1) = un x y i j := by unfold un; rw [List.getD_cons_succ]
    rw [dl_s x (c :: y) i (j + 1), dl_s x y i j, e]
    omega
termination_by i j => i + j

/-- the distance -/
def lev (x y : List Nat) : Nat := dl x y x.length y.length
theorem lev_sym (x y : List Nat) : lev x y = lev y x := dl_sym x y _ _
theorem lev_low (x y : List Nat) : x.length ≤ lev x y + y.length ∧ y.length ≤ lev x y + x.length := dl_low x y _ _
theorem lev_up (x y : List Nat) : lev x y ≤ max x.length y.length := dl_up x y _ _
theorem lev_head (c : Nat) (x y : List Nat) : lev (c :: x) (c :: y) = lev x y := dl_head c x y _ _
theorem lev_heads (z x y : List Nat) : lev (z ++ x) (z ++ y) = lev x y := by
  induction z with
  | nil => rfl
  | cons c z ih => rw [List.cons_append, List.cons_append, lev_head, ih]
theorem lev_tail (c : Nat) (x y : List Nat) : lev (x ++ [c]) (y ++ [c]) = lev x y := by
  unfold lev
  rw [List.length_append, List.length_append]
  show dl _ _ (x.length + 1) (y.length + 1) = _
  rw [dl_same (by simp [List.getD_eq_getElem?_getD])]
  refine dl_part _ _ (fun k h => ?_) (fun k h => ?_)
  · simp [List.getD_eq_getElem?_getD, List.getElem?_append_left h]
  · simp [List.getD_eq_getElem?_getD, List.getElem?_append_left h]
theorem lev_tails (z x y : List Nat) : lev (x ++ z) (y ++ z) = lev x y := by
  induction z generalizing x y with
  | nil => rw [List.append_nil, List.append_nil]
  | cons c z ih =>
    have e1 : x ++ c :: z = (x ++ [c]) ++ z := by simp
    have e2 : y ++ c :: z = (y ++ [c]) ++ z := by simp
    rw [e1, e2, ih, lev_tail]
theorem lev_put (c : Nat) (x y : List Nat) : lev x (c :: y) ≤ lev x y + 1 := dl_put c x y _ _
theorem lev_sub {x y : List Nat} (h : List.Sublist x y) : lev x y ≤ y.length - x.length := by
  induction h with
  | slnil => unfold lev; rw [List.length_nil, dl_0]; omega
  | @cons l1 l2 a s ih =>
    have h1 := lev_put a l1 l2
    have h2 := s.length_le
    rw [List.length_cons]
    omega
  | @cons_cons l1 l2 a s ih =>
    rw [lev_head, List.length_cons, List.length_cons]
    omega
theorem lev_sub_eq {x y : List Nat} (h : List.Sublist x y) : lev x y = y.length - x.length := by
  have h1 := lev_sub h
  have h2 := lev_low x y
  omega
theorem lev_self (x : List Nat) : lev x x = 0 := by
  have := lev_sub (List.Sublist.refl x)
  omega

/-! the band: k is the place in it -/
def bval (x y : List Nat) (most i k : Nat) : Int := if most ≤ i + k ∧ i + k ≤ most + y.length then ((min (dl x y i (i + k - most)) (most + 1) : Nat) : Int) else (most : Int) + 1
def bandL (x y : List Nat) (most i : Nat) : List Int := (List.range (2 * most + 1)).map (bval x y most i)
theorem bandL_len (x y : List Nat) (most i : Nat) : (bandL x y most i).length = 2 * most + 1 := by unfold bandL; rw [List.length_map, List.length_range]
theorem bandL_at (x y : List Nat) {most i k : Nat} (h : k < 2 * most + 1) : (bandL x y most i)[k]? = some (bval x y most i k) := by
  unfold bandL
  rw [List.getElem?_map, List.getElem?_range h]
  rfl
theorem bval_0 (x y : List Nat) (most k : Nat) (hk : k ≤ 2 * most) : bval x y most 0 k = if most ≤ k ∧ k ≤ most + y.length then (k : Int) - most else (most : Int) + 1 := by
  unfold bval
  rw [Nat.zero_add, dl_0]
  split <;> omega
theorem bstep {x y : List Nat} {most i k : Nat} {m : Int} (h0 : m ≤ most + 1)
    (h1 : most < i + 1 + k → i + 1 + k ≤ most + y.length → m ≤ bval x y most i k + un x y i (i + k - most))
    (h2 : most < i + 1 + k → i + 1 + k ≤ most + y.length → 0 < k → m ≤ bval x y most (i + 1) (k - 1) + 1)
    (h3 : most ≤ i + 1 + k → i + 1 + k ≤ most + y.length → k < 2 * most → m ≤ bval x y most i (k + 1) + 1)
    (hm : m = most + 1 ∨ (most < i + 1 + k ∧ i + 1 + k ≤ most + y.length ∧ m = bval x y most i k + un x y i (i + k - most)) ∨
      (most < i + 1 + k ∧ i + 1 + k ≤ most + y.length ∧ 0 < k ∧ m = bval x y most (i + 1) (k - 1) + 1) ∨ (most ≤ i + 1 + k ∧ i + 1 + k ≤ most + y.length ∧ k < 2 * most ∧ m = bval x y most i (k + 1) + 1))
    (hk : k ≤ 2 * most) : m = bval x y most (i + 1) k := by
  by_cases ho : most ≤ i + 1 + k ∧ i + 1 + k ≤ most + y.length
  · obtain ⟨ha, hb⟩ := ho
    have e0 : bval x y most (i + 1) k = ((min (dl x y (i + 1) (i + 1 + k - most)) (most + 1) : Nat) : Int) := by
      unfold bval
      rw [if_pos ⟨ha, hb⟩]
    have e3 : bval x y most i (k + 1) = ((min (dl x y i (i + 1 + k - most)) (most + 1) : Nat) : Int) := by
      unfold bval
      rw [if_pos (by omega), show i + (k + 1) - most = i + 1 + k - most by omega]
    by_cases hz : i + 1 + k = most
    · rw [show i + 1 + k - most = 0 by omega, dl_r0] at e0 e3
      have g3 := h3 (by omega) hb
      rw [e3] at g3 hm
      rw [e0]
      omega
    · obtain ⟨j, hj⟩ : ∃ j, i + 1 + k - most = j + 1 := ⟨i + k - most, by omega⟩
      rw [hj, dl_s] at e0
      rw [hj] at e3
      have e1 : bval x y most i k = ((min (dl x y i j) (most + 1) : Nat) : Int) := by
        unfold bval
        rw [if_pos (by omega), show i + k - most = j by omega]
      have ej : i + k - most = j := by omega
      have g1 := h1 (by omega) hb
      have g2 := h2 (by omega) hb
      have g3 := h3 (by omega) hb
      have l2 := dl_low x y (i + 1) j
      have l3 := dl_low x y i (j + 1)
      have u := un_le x y i j
      rw [e1, ej] at g1 hm
      rw [e3] at g3 hm
      by_cases hk0 : 0 < k
      · have e2 : bval x y most (i + 1) (k - 1) = ((min (dl x y (i + 1) j) (most + 1) : Nat) : Int) := by
          unfold bval
          rw [if_pos (by omega), show i + 1 + (k - 1) - most = j by omega]
        rw [e2] at g2 hm
        rw [e0]
        omega
      · rw [e0]
        omega
  · have e0 : bval x y most (i + 1) k = (most : Int) + 1 := by
      unfold bval
      rw [if_neg ho]
    rw [e0]
    omega
/-- what the last row tells -/
theorem band_end (x y : List Nat) {most : Nat} (h : x.length ≤ y.length) (hm : y.length ≤ most + x.length) : bval x y most x.length (y.length - x.length + most) = ((min (lev x y) (most + 1) : Nat) : Int) := by
  unfold bval lev
  rw [if_pos (by omega), show x.length + (y.length - x.length + most) - most = y.length by omega]
/-- both ends cut away -/
theorem lev_cutT {x y : List Nat} {j : Nat} (h : x.reverse.take j = y.reverse.take j) : lev (x.take (x.length - j)) (y.take (y.length - j)) = lev x y := by
  have e : x.drop (x.length - j) = y.drop (y.length - j) := by
    rw [List.take_reverse, List.take_reverse] at h
    exact List.reverse_inj.mp h
  have h1 : lev (x.take (x.length - j) ++ x.drop (x.length - j)) (y.take (y.length - j) ++ y.drop (y.length - j)) = lev (x.take (x.length - j)) (y.take (y.length - j)) := by
    rw [← e]
    exact lev_tails _ _ _
  rw [List.take_append_drop, List.take_append_drop] at h1
  exact h1.symm
theorem lev_cutH {x y : List Nat} {k : Nat} (h : x.take k = y.take k) : lev (x.drop k) (y.drop k) = lev x y := by
  have h1 : lev (x.take k ++ x.drop k) (y.take k ++ y.drop k) = lev (x.drop k) (y.drop k) := by
    rw [← h]
    exact lev_heads _ _ _
  rw [List.take_append_drop, List.take_append_drop] at h1
  exact h1.symm
end Lv
set_option Elab.async false
set_option linter.all false
set_option maxHeartbeats 1000000
/-! Lev2: the distance's triangle and what it says of joined rows. Plain Lean. -/
namespace Lv
theorem un_tri (x y z : List Nat) (i j k : Nat) : un x z i k ≤ un x y i j + un y z j k := by
  unfold un
  by_cases h1 : x.getD i 0 = y.getD j 0
  · by_cases h2 : y.getD j 0 = z.getD k 0
    · rw [if_pos (h1.trans h2)]; omega
    · rw [if_neg h2]; split <;> omega
  · rw [if_neg h1]; split <;> omega
theorem dl_tri (x y z : List Nat) : ∀ i j k, dl x z i k ≤ dl x y i j + dl y z j k
  | 0, j, k => by
    have h := dl_low y z j k
    rw [dl_0, dl_0]
    omega
  | i + 1, j, 0 => by
    have h := dl_low x y (i + 1) j
    rw [dl_r0, dl_r0]
    omega
  | i + 1, 0, k + 1 => by
    have h := dl_up x z (i + 1) (k + 1)
    rw [dl_r0, dl_0]
    omega
  | i + 1, j + 1, k + 1 => by
    have t1 := dl_tri x y z i j k
    have t2 := dl_tri x y z i (j + 1) (k + 1)
    have t3 := dl_tri x y z (i + 1) (j + 1) k
    have t4 := dl_tri x y z (i + 1) j (k + 1)
    have t5 := dl_tri x y z (i + 1) j k
    have t6 := dl_tri x y z i j (k + 1)
    have u := un_tri x y z i j k
    have e1 := dl_s x y i j
    have e2 := dl_s y z j k
    have e3 := dl_s x z i k
    omega
termination_by i j k => i + j + k
theorem lev_tri (x y z : List Nat) : lev x z ≤ lev x y + lev y z := dl_tri x y z _ _ _
/-- one gap more -/
theorem gap_add {A B b0 b1 u v : List Nat} {t : Nat} (hb : b0 = [] ∨ b1 = []) (h : lev (A ++ b1) (B ++ b0) ≤ t) : lev (A ++ u) (B ++ v) ≤ t + lev (b0 ++ u) (b1 ++ v) := by
  rcases hb with rfl | rfl
  · have h1 := lev_tri (A ++ u) (A ++ (b1 ++ v)) (B ++ v)
    have h2 := lev_heads A u (b1 ++ v)
    have h3 := lev_tails v (A ++ b1) B
    rw [List.append_assoc] at h3
    rw [List.append_nil] at h
    rw [List.nil_append]
    omega
  · have h1 := lev_tri (A ++ u) (B ++ (b0 ++ u)) (B ++ v)
    have h2 := lev_heads B (b0 ++ u) v
    have h3 := lev_tails u A (B ++ b0)
    rw [List.append_assoc] at h3
    rw [List.append_nil] at h
    rw [List.nil_append]
    omega
end Lv
set_option Elab.async false
set_option linter.all false
set_option maxRecDepth 100000
set_option maxHeartbeats 4000000
namespace K74
open PySem PySem.Spec PyProof.Rows L2 SL

def top (i : Nat) : Stmt := PySem.Challenge.pw_spoiltline_k74_lags_and_texts_refused.main.body.getD i (.Pass ⟨0, 0, 0, 0⟩)
abbrev s_InvalidText___init__ : Stmt := inClass (top 2) 0
abbrev N_InvalidText___init__ : List Str := ["self", "given"]
theorem sc_InvalidText___init__ : FnScope N_InvalidText___init__ ["self", "given"] (defScope s_InvalidText___init__) := ⟨rfl, rfl, rfl, by decide +kernel, rfl, by decide +kernel, by decide +kernel⟩
abbrev s_is_text : Stmt := top 5
abbrev N_is_text : List Str := ["value", "letter"]
theorem sc_is_text : FnScope N_is_text ["value"] (defScope s_is_text) := ⟨rfl, rfl, rfl, by decide +kernel, rfl, by decide +kernel, by decide +kernel⟩
abbrev s_is_lag : Stmt := top 6
abbrev N_is_lag : List Str := ["value"]
theorem sc_is_lag : FnScope N_is_lag ["value"] (defScope s_is_lag) := ⟨rfl, rfl, rfl, by decide +kernel, rfl, by decide +kernel, by decide +kernel⟩
abbrev s_check_text : Stmt := top 7
abbrev N_check_text : List Str := ["text"]
theorem sc_check_text : FnScope N_check_text ["text"] (defScope s_check_text) := ⟨rfl, rfl, rfl, by decide +kernel, rfl, by decide +kernel, by decide +kernel⟩
abbrev s_common_beginning : Stmt := top 9
abbrev N_common_beginning : List Str := ["one", "other", "many"]
theorem sc_common_beginning : FnScope N_common_beginning ["one", "other"] (defScope s_common_beginning) := ⟨rfl, rfl, rfl, by decide +kernel, rfl, by decide +kernel, by decide +kernel⟩
abbrev s_without_common_ends : Stmt := top 10
abbrev N_without_common_ends : List Str := ["one", "other", "many", "left", "right"]
theorem sc_without_common_ends : FnScope N_without_common_ends ["one", "other"] (defScope s_without_common_ends) := ⟨rfl, rfl, rfl, by decide +kernel, rfl, by decide +kernel, by decide +kernel⟩
abbrev s_next_band : Stmt := top 11
abbrev N_next_band : List Str := ["band", "letter", "at", "other", "k", "most", "found", "place", "ways"]
theorem sc_next_band : FnScope N_next_band ["band", "letter", "at", "other"] (defScope s_next_band) := ⟨rfl, rfl, rfl, by decide +kernel, rfl, by decide +kernel, by decide +kernel⟩
abbrev s_distance_within : Stmt := top 12
abbrev N_distance_within : List Str := ["one", "other", "most", "band", "found", "left", "right", "at", "letter", "k"]
theorem sc_distance_within : FnScope N_distance_within ["one", "other", "most"] (defScope s_distance_within) := ⟨rfl, rfl, rfl, by decide +kernel, rfl, by decide +kernel, by decide +kernel⟩
abbrev s_levenshtein : Stmt := top 13
abbrev N_levenshtein : List Str := ["one", "other", "most", "found"]
theorem sc_levenshtein : FnScope N_levenshtein ["one", "other"] (defScope s_levenshtein) := ⟨rfl, rfl, rfl, by decide +kernel, rfl, by decide +kernel, by decide +kernel⟩
abbrev s_distance : Stmt := top 14
abbrev N_distance : List Str := ["one", "other"]
theorem sc_distance : FnScope N_distance ["one", "other"] (defScope s_distance) := ⟨rfl, rfl, rfl, by decide +kernel, rfl, by decide +kernel, by decide +kernel⟩
abbrev s_gap_price : Stmt := top 16
abbrev N_gap_price : List Str := ["before", "left", "right", "behind"]
theorem sc_gap_price : FnScope N_gap_price ["before", "left", "right", "behind"] (defScope s_gap_price) := ⟨rfl, rfl, rfl, by decide +kernel, rfl, by decide +kernel, by decide +kernel⟩
abbrev s__law_cell : Stmt := top 18
abbrev N__law_cell : List Str := ["script", "k"]
theorem sc__law_cell : FnScope N__law_cell ["script", "k"] (defScope s__law_cell) := ⟨rfl, rfl, rfl, by decide +kernel, rfl, by decide +kernel, by decide +kernel⟩
abbrev s__law_box : Stmt := top 19
abbrev N__law_box : List Str := ["great"]
theorem sc__law_box : FnScope N__law_box ["great"] (defScope s__law_box) := ⟨rfl, rfl, rfl, by decide +kernel, rfl, by decide +kernel, by decide +kernel⟩
abbrev s__law_take : Stmt := top 20
abbrev N__law_take : List Str := ["box", "many", "mixed", "digit"]
theorem sc__law_take : FnScope N__law_take ["box", "many"] (defScope s__law_take) := ⟨rfl, rfl, rfl, by decide +kernel, rfl, by decide +kernel, by decide +kernel⟩
abbrev s__law_odd_lags : Stmt := top 21
abbrev N__law_odd_lags : List Str := ["found"]
theorem sc__law_odd_lags : FnScope N__law_odd_lags [] (defScope s__law_odd_lags) := ⟨rfl, rfl, rfl, by decide +kernel, rfl, by decide +kernel, by decide +kernel⟩
abbrev s__law_odd_texts : Stmt := top 22
abbrev N__law_odd_texts : List Str := []
theorem sc__law_odd_texts : FnScope N__law_odd_texts [] (defScope s__law_odd_texts) := ⟨rfl, rfl, rfl, by decide +kernel, rfl, by decide +kernel, by decide +kernel⟩
abbrev s__law_told : Stmt := top 23
abbrev N__law_told : List Str := ["parts", "named", "e"]
theorem sc__law_told : FnScope N__law_told ["parts", "named"] (defScope s__law_told) := ⟨rfl, rfl, rfl, by decide +kernel, rfl, by decide +kernel, by decide +kernel⟩
abbrev s__law_lot_holds : Stmt := top 24
abbrev N__law_lot_holds : List Str := ["parts", "wrong", "named", "told", "value"]
theorem sc__law_lot_holds : FnScope N__law_lot_holds ["parts", "wrong", "named"] (defScope s__law_lot_holds) := ⟨rfl, rfl, rfl, by decide +kernel, rfl, by decide +kernel, by decide +kernel⟩
abbrev s__law_right : Stmt := top 25
abbrev N__law_right : List Str := ["box", "good", "words", "lot", "lags", "texts", "i", "a", "j", "b", "parts", "wrong", "odd", "k"]
theorem sc__law_right : FnScope N__law_right ["box"] (defScope s__law_right) := ⟨rfl, rfl, rfl, by decide +kernel, rfl, by decide +kernel, by decide +kernel⟩
abbrev s_law : Stmt := top 26
abbrev N_law : List Str := ["script", "k"]
theorem sc_law : FnScope N_law ["script"] (defScope s_law) := ⟨rfl, rfl, rfl, by decide +kernel, rfl, by decide +kernel, by decide +kernel⟩
structure Txt (K : PySem.W.Frag) (mg : Str → Option Value) : Prop where
  d_is_text : DefAt K mg "is_text" s_is_text ["value"]
  d_is_lag : DefAt K mg "is_lag" s_is_lag ["value"]
  d_check_text : DefAt K mg "check_text" s_check_text ["text"]
  d_common_beginning : DefAt K mg "common_beginning" s_common_beginning ["one", "other"]
  d_without_common_ends : DefAt K mg "without_common_ends" s_without_common_ends ["one", "other"]
  d_next_band : DefAt K mg "next_band" s_next_band ["band", "letter", "at", "other"]
  d_distance_within : DefAt K mg "distance_within" s_distance_within ["one", "other", "most"]
  d_levenshtein : DefAt K mg "levenshtein" s_levenshtein ["one", "other"]
  d_distance : DefAt K mg "distance" s_distance ["one", "other"]
  d_gap_price : DefAt K mg "gap_price" s_gap_price ["before", "left", "right", "behind"]
  d__law_cell : DefAt K mg "_law_cell" s__law_cell ["script", "k"]
  d__law_box : DefAt K mg "_law_box" s__law_box ["great"]
  d__law_take : DefAt K mg "_law_take" s__law_take ["box", "many"]
  d__law_odd_lags : DefAt K mg "_law_odd_lags" s__law_odd_lags []
  d__law_odd_texts : DefAt K mg "_law_odd_texts" s__law_odd_texts []
  d__law_told : DefAt K mg "_law_told" s__law_told ["parts", "named"]
  d__law_lot_holds : DefAt K mg "_law_lot_holds" s__law_lot_holds ["parts", "wrong", "named"]
  d__law_right : DefAt K mg "_law_right" s__law_right ["box"]
  d_law : DefAt K mg "law" s_law ["script"]
  x_InvalidText : ErrAt K mg "InvalidText"
  n_abs : mg "abs" = none
  n_all : mg "all" = none
  n_enumerate : mg "enumerate" = none
  n_int : mg "int" = none
  n_isinstance : mg "isinstance" = none
  n_len : mg "len" = none
  n_list : mg "list" = none
  n_max : mg "max" = none
  n_min : mg "min" = none
  n_range : mg "range" = none
  n_repr : mg "repr" = none
  n_str : mg "str" = none
  n_sum : mg "sum" = none
  n_tuple : mg "tuple" = none
  g_LETTERS : ∃ t, mg "LETTERS" = some (.str (tx abc) t)
end K74
set_option Elab.async false
set_option linter.all false
set_option maxRecDepth 100000
set_option maxHeartbeats 4000000
namespace K74
open PySem PySem.Spec PyProof.Rows L2 SL Lv
local macro_rules | `(tactic| walk_at "sz") => `(tactic| first
  | assumption
  | omega
  | (simp only [List.length_cons, List.length_nil, List.length_append, List.length_map, List.length_take, List.length_drop, List.length_reverse, List.length_replicate, List.length_range, tx_len, sizeLine_eq, CMul, CDiv, Nat.reduceAdd, Nat.reduceLeDiff]; first | done | omega)
  | decide)
local macro_rules | `(tactic| walk_at "ne") => `(tactic| first
  | assumption
  | exact Ne.symm (by assumption)
  | (refine ne_of_none (H := ?H0) (o := ?oo) ?hh ?hn; (case hn => assumption); (case hh => walk_at "hget"))
  | (refine Ne.symm (ne_of_none (H := ?H0) (o := ?oo) ?hh ?hn); (case hn => assumption); (case hh => walk_at "hget")))
local macro_rules | `(tactic| walk_at "hget") => `(tactic| first
  | assumption
  | exact upd_same
  | (refine (upd_ne ?n).trans ?g; (case n => walk_at "ne"); (case g => walk_at "hget"))
  | (refine fr_get (p := ?pp) (H := ?H0) ?f ?g ?n; (case f => assumption); (case g => walk_at "hget"); (case n => walk_at "ne"))
  | (refine same_get (H := ?H0) ?f ?g; (case f => assumption); (case g => walk_at "hget")))
local macro_rules | `(tactic| walk_at "vget") => `(tactic| first
  | assumption
  | (refine SqL.of ?g; (case g => walk_at "hget"))
  | (refine SqT.of ?g; (case g => walk_at "hget"))
  | (refine sql_new ?n ?g; (case n => assumption); (case g => walk_at "vget"))
  | (refine sqt_new ?n ?g; (case n => assumption); (case g => walk_at "vget"))
  | (refine sql_upd ?n ?g; (case n => walk_at "ne"); (case g => walk_at "vget"))
  | (refine sqt_upd ?n ?g; (case n => walk_at "ne"); (case g => walk_at "vget"))
  | (refine Same.seq (H := ?H0) ?f ?g; (case f => assumption); (case g => walk_at "vget"))
  | (refine Same.seqT (H := ?H0) ?f ?g; (case f => assumption); (case g => walk_at "vget"))
  | (refine fr_sql (b := ?pp) (H := ?H0) ?f ?g ?n; (case f => assumption); (case g => walk_at "vget"); (case n => walk_at "ne"))
  | (refine fr_sqt (b := ?pp) (H := ?H0) ?f ?g ?n; (case f => assumption); (case g => walk_at "vget"); (case n => walk_at "ne")))
local macro_rules | `(tactic| walk_at "at") => `(tactic| first
  | assumption
  | rfl
  | (refine atI_n ?h; (case h => first | assumption | rfl))
  | (refine atI_i ?h0 ?h; (case h0 => omega); (case h => first | assumption | rfl)))
local macro_rules | `(tactic| walk_at "v1") => `(tactic| first
  | with_reducible refine w_seq ?_
  | with_reducible refine w_enx ?_
  | with_reducible refine w_ert ?_
  | with_reducible refine w_asg ?_
  | ((with_reducible refine w_var (v := ?vv) ?h ?_); (case h => exact rfl))
  | with_reducible refine w_op ?_
  | with_reducible refine w_c ?_
  | with_reducible refine w_cons ?_
  | with_reducible refine w_nil ?_
  | with_reducible refine w_cb ?_
  | with_reducible refine w_call ?_
  | with_reducible refine w_k ?_
  | with_reducible refine w_i ?_
  | with_reducible refine w_two ?_
  | ((with_reducible refine w_name ?_); (try simp only [List.set_cons_zero, List.set_cons_succ]))
  | with_reducible refine w_ifS ?_
  | with_reducible refine w_ret ?_
  | with_reducible refine w_drop ?_
  | with_reducible refine w_test ?_
  | with_reducible refine w_B ?_
  | with_reducible refine iteT ?_
  | with_reducible refine iteF ?_
  | with_reducible refine w_same ?_
  | ((with_reducible refine w_ifT ?h ?_); (case h => first | rfl | assumption))
  | ((with_reducible refine w_ifF ?h ?_); (case h => first | rfl | assumption))
  | ((with_reducible refine w_diff ?_ ?h); (case h => decide +kernel))
  | ((with_reducible refine w_wp ?h ?_); (case h => rfl); (try simp only [wipe, List.set_cons_zero, List.set_cons_succ, List.foldl_cons, List.foldl_nil]))
  | ((with_reducible refine w_acc (acc := ?aa) ?h ?_ ?z); (case h => walk_at "hget"); (case z => walk_at "sz"))
  | with_reducible refine w_addI ?_
  | with_reducible refine w_subI ?_
  | with_reducible refine w_lt ?_
  | with_reducible refine w_le ?_
  | with_reducible refine w_gt ?_
  | with_reducible refine w_ge ?_
  | with_reducible refine w_eqI ?_
  | with_reducible refine w_neI ?_
  | with_reducible refine w_eqS ?_
  | with_reducible refine w_neS ?_
  | ((with_reducible refine w_mulI ?_ ?h); (case h => walk_at "sz"))
  | ((with_reducible refine w_divI ?_ ?h); (case h => walk_at "sz"))
  | ((with_reducible refine w_addS ?_ ?h); (case h => walk_at "sz"))
  | ((with_reducible refine w_mulS ?_ ?h); (case h => walk_at "sz"))
  | ((with_reducible refine w_ixL (xs := ?xx) (v := ?vv) ?h ?i ?_); (case h => walk_at "vget"); (case i => walk_at "at"))
  | ((with_reducible refine w_ixT (xs := ?xx) (v := ?vv) ?h ?i ?_); (case h => walk_at "vget"); (case i => walk_at "at"))
  | ((with_reducible refine w_ixS (c := ?cc) ?i ?_ ?h); (case i => walk_at "at"); (case h => walk_at "sz"))
  | ((with_reducible refine w_lenS' ?_ ?h); (case h => walk_at "sz"))
  | ((with_reducible refine w_lenL' (xs := ?xx) ?h ?_); (case h => walk_at "vget"))
  | ((with_reducible refine w_lenT' (xs := ?xx) ?h ?_); (case h => walk_at "vget"))
  | with_reducible refine w_isnN ?_
  | with_reducible refine w_isnI ?_
  | with_reducible refine w_isnS ?_
  | with_reducible refine w_isnR ?_
  | with_reducible refine w_isnB ?_
  | with_reducible refine w_isoN ?_
  | with_reducible refine w_isoI ?_
  | with_reducible refine w_isoS ?_
  | with_reducible refine w_isoR ?_
  | with_reducible refine w_isoB ?_
  | with_reducible refine w_abs ?_
  | with_reducible refine w_int ?_
  | with_reducible refine w_intB ?_
  | with_reducible refine w_min2 ?_
  | with_reducible refine w_max2 ?_
  | with_reducible refine w_min3 ?_
  | with_reducible refine w_sl ?_
  | with_reducible refine w_np ?_
  | with_reducible refine w_part ?_
  | ((with_reducible refine w_sStN ?_ ?h); (case h => walk_at "sz"))
  | ((with_reducible refine w_sSfN ?_ ?h); (case h => walk_at "sz"))
  | ((with_reducible refine w_sSt ?_ ?h); (case h => walk_at "sz"))
  | ((with_reducible refine w_sSf ?_ ?h); (case h => walk_at "sz"))
  | with_reducible refine w_and ?_
  | with_reducible refine w_or ?_
  | with_reducible refine w_not ?_
  | with_reducible refine w_andV ?_
  | with_reducible refine w_orV ?_
  | with_reducible refine w_notV ?_
  | with_reducible refine w_ifE ?_
  | with_reducible refine w_tup ?_
  | with_reducible refine w_lst ?_
  | with_reducible refine w_chain ?_
  | ((with_reducible refine w_par ?_); (try simp only [List.set_cons_zero, List.set_cons_succ]))
  | with_reducible refine w_un ?_
  | with_reducible refine w_neg ?_
  | with_reducible refine w_next ?_
  | with_reducible refine w_ebk ?_
  | with_reducible refine w_ect ?_
  | with_reducible refine w_for ?_
  | with_reducible refine w_lc ?_
  | with_reducible refine w_yes ?_
  | with_reducible refine w_il ?_
  | with_reducible refine w_it ?_
  | with_reducible refine w_isx ?_
  | with_reducible refine w_ir1 ?_
  | with_reducible refine w_ir2 ?_
  | with_reducible refine w_ies ?_
  | with_reducible refine w_s1 ?_
  | with_reducible refine w_s1l ?_
  | ((with_reducible refine w_r1 ?_ ?h); (case h => walk_at "sz"))
  | ((with_reducible refine w_r2 ?_ ?h); (case h => walk_at "sz"))
  | ((with_reducible refine w_l1 (xs := ?xx) ?h ?_); (case h => walk_at "vget"))
  | ((with_reducible refine w_t1 (xs := ?xx) ?h ?_); (case h => walk_at "vget"))
  | ((with_reducible refine w_isL (xs := ?xx) ?h ?_); (case h => walk_at "vget"))
  | with_reducible refine w_isS ?_
  | ((with_reducible refine w_app (xs := ?xx) ?h ?_ ?z); (case h => walk_at "hget"); (case z => walk_at "sz"))
  | with_reducible refine w_inC ?_
  | with_reducible refine w_rev ?_
  | ((with_reducible refine w_rev1S ?_ ?h); (case h => walk_at "sz"))
  | with_reducible refine w_lrg ?_
  | with_reducible refine w_brk ?_
  | with_reducible refine w_cont ?_
  | with_reducible refine w_retN ?_
  | with_reducible refine w_bm ?_
  | with_reducible refine w_bm0 ?_
  | with_reducible refine w_m1 ?_
  | with_reducible refine w_sub ?_
  | ((with_reducible refine w_setL (xs := ?xx) (j := ?jj) ?h ?i ?_); (case h => walk_at "hget"); (case i => first | rfl | assumption); (try simp only [Int.reduceToNat, List.set_cons_zero, List.set_cons_succ]))
  | with_reducible refine w_ip ?_
  | with_reducible refine w_gnil ?_
  | with_reducible refine w_gcons ?_
  | ((with_reducible refine w_gL (xs := ?xx) ?h ?_ ?n); (case h => walk_at "vget"); (case n => rfl))
  | ((with_reducible refine w_gT (xs := ?xx) ?h ?_ ?n); (case h => walk_at "vget"); (case n => rfl))
  | ((with_reducible refine w_aug (v := ?vv) ?h ?_); (case h => exact rfl)))
local macro_rules | `(tactic| walk_at "v") => `(tactic| repeat walk_at "v1")
local macro_rules | `(tactic| walk_at "v0") => `(tactic| (simp only [L2.start, cxK, ends_rt, List.map_cons, List.map_nil, List.length_cons, List.length_nil, Nat.reduceAdd, Nat.reduceSub, List.replicate_succ, List.replicate_zero, List.append_nil, List.cons_append, List.nil_append]; walk_at "v"))
local macro_rules | `(tactic| walk_at "u1") => `(tactic| first
  | with_reducible refine w_seqA ?_
  | with_reducible refine w_seqD ?_
  | with_reducible refine w_seqP ?_
  | with_reducible refine w_seqG ?_
  | ((fail_if_success (with_reducible refine w_seq ?_)); walk_at "v1"))
local macro_rules | `(tactic| walk_at "u") => `(tactic| repeat walk_at "u1")
local macro_rules | `(tactic| walk_at "u0") => `(tactic| (simp only [L2.start, cxK, ends_rt, List.map_cons, List.map_nil, List.length_cons, List.length_nil, Nat.reduceAdd, Nat.reduceSub, List.replicate_succ, List.replicate_zero, List.append_nil, List.cons_append, List.nil_append]; walk_at "u"))
local macro_rules | `(tactic| walk_at "t1") => `(tactic| ((fail_if_success (with_reducible refine w_seq ?_)); walk_at "v1"))
local macro_rules | `(tactic| walk_at "t") => `(tactic| repeat walk_at "t1")

section
variable {P : Program} {w : World} {K : PySem.W.Frag} {mg : Str → Option Value} {base : Heap}
def spCellG (K : PySem.W.Frag) : Sp := fun vs H Q _ => ∃ (a : Addr) (ns : List Int) (k : Nat), vs = [.ref a, .int k] ∧ SqL K H a (ns.map V.int) ∧ k ≤ 1000 ∧ ∀ i H', Same H H' → Q (.int i) H'
theorem ok_cell (T : Txt K mg) : Cal P w K mg base 1 "_law_cell" ["script", "k"] (spCellG K) := by
  refine cal0 T.d__law_cell sc__law_cell (by rintro vs H Q E ⟨a, ns, k, rfl, _⟩; rfl) (fun cdv f A outer s H vs Q E hr hgd h => ?_)
  obtain ⟨a, ns, k, rfl, hS, hk, q⟩ := h
  refine ⟨_, (pss_one (ps_ret (pe_ifExp (pt_cmpR uLt (pv 1) (pe_callB (kLen K rfl) (by rfl) T.n_len (by decide +kernel) (pa_cons (pv 0) pa_nil)) (nomark _)) (pe_ix (kIx K rfl) (pv 0) (pv 1) (fun _ _ => rfl)) (pe_op (kAdd K rfl) (pe_op uMul pe_int (pv 1)) (pe_op uMod (pe_callB (kSum K rfl rfl) (by rfl) T.n_sum (by decide +kernel) (pa_cons (pe_slice (kSl K rfl) (pv 0) po_none (po_some pe_int)) pa_nil)) pe_int))))), ?_⟩
  walk_at "v0"
  refine w_if (fun h => ?_) (fun h => ?_)
  · simp only [decide_eq_true_eq, List.length_map] at h
    have hk2 : k < ns.length := by omega
    have g1 := int_at hk2
    walk_at "v"
    exact q _ _ (Same.refl _)
  · walk_at "v"
    refine w_sLt (by walk_at "vget") (by omega) fun p hp => ?_
    rw [cut1]
    walk_at "v"
    refine w_sum (SqL.of upd_same) ?_
    walk_at "v"
    refine w_modN (by omega) fun r _ h1 h2 => ?_
    walk_at "v"
    exact q _ _ (same_new hp)
def spBox : Sp := fun vs H Q _ => ∃ (i : Int), vs = [.int i] ∧ ∀ p H', Same H H' → H p = none → Box H' p 0 → Q (.ref p) H'
theorem ok_box (T : Txt K mg) : Cal P w K mg base 1 "_law_box" ["great"] spBox := by
  refine cal0 T.d__law_box sc__law_box (by rintro vs H Q E ⟨i, rfl, _⟩; rfl) (fun cdv f A outer s H vs Q E hr hgd h => ?_)
  obtain ⟨i, rfl, q⟩ := h
  refine ⟨_, (pss_one (ps_ret (pe_lst (pa_cons (pe_callB uAbs (by rfl) T.n_abs (by decide +kernel) (pa_cons (pv 0) pa_nil)) (pa_cons (pe_cmpR uGe (pe_callB uAbs (by rfl) T.n_abs (by decide +kernel) (pa_cons (pv 0) pa_nil)) (pe_op uPow pe_int pe_int) (nomark _)) (pa_cons (pe_op uMod (pe_callTy uInt (by rfl) T.n_int (by decide +kernel) (pa_cons (pe_callB uAbs (by rfl) T.n_abs (by decide +kernel) (pa_cons (pv 0) pa_nil)) pa_nil)) pe_int) (pa_cons pe_int pa_nil))))))), ?_⟩
  walk_at "v0"
  refine w_powI ?_ (by omega)
  walk_at "v"
  refine w_modN (by omega) fun r _ h1 h2 => ?_
  walk_at "v"
  refine ⟨by walk_at "sz", fun p hp => ?_⟩
  exact q p _ (same_new hp) hp ⟨_, _, r, 0, upd_same, by split <;> omega, h1, by omega, Nat.le_refl _⟩
def spTake : Sp := fun vs H Q _ => ∃ (p : Addr) (n : Int) (c : Nat), vs = [.ref p, .int n] ∧ Box H p c ∧ c ≤ 100000000 ∧ 0 < n ∧ n < 1073741824 ∧
  ∀ r H', 0 ≤ r → r < n → Box H' p (c + 1) → Fr p H H' → Q (.int r) H'
theorem ok_take (T : Txt K mg) : Cal P w K mg base 1 "_law_take" ["box", "many"] spTake := by
  refine cal0 T.d__law_take sc__law_take (by rintro vs H Q E ⟨p, n, c, rfl, _⟩; rfl) (fun cdv f A outer s H vs Q E hr hgd h => ?_)
  obtain ⟨p, n, c, rfl, ⟨g, b, m, d, hb, hg, hm, hm2, hd⟩, hc, hn, hn2, q⟩ := h
  refine ⟨_, (pss_cons (ps_if (PW.pt (pw_and (pt_val (pe_ix (kIx K rfl) (pv 0) pe_int (fun _ _ => rfl))) (pw_and1 (pt_cmpR uGt (pe_ix (kIx K rfl) (pv 0) pe_int (fun _ _ => rfl)) pe_int (nomark _))))) (pss_cons (ps_set (i := 3) sc__law_take.nd rfl (by first | exact Or.inl rfl | exact Or.inr rfl) (pe_op uMod (pe_callTy uInt (by rfl) T.n_int (by decide +kernel) (pa_cons (pe_ix (kIx K rfl) (pv 0) pe_int (fun _ _ => rfl)) pa_nil)) (pv 1)))
  (pss_cons (ps_asg (pe_op uDiv (pe_ix (kIx K rfl) (pv 0) pe_int (fun _ _ => rfl)) (pv 1)) (pg_sub (pv 0) pe_int set_list))
  (pss_one (ps_ret (pv 3))))) pss_nil)
  (pss_cons (ps_asg (pe_op (kAdd K rfl) (pe_ix (kIx K rfl) (pv 0) pe_int (fun _ _ => rfl)) pe_int) (pg_sub (pv 0) pe_int set_list))
  (pss_cons (ps_set (i := 2) sc__law_take.nd rfl (by first | exact Or.inl rfl | exact Or.inr rfl) (pe_op uMod (pe_callTy uInt (by rfl) T.n_int (by decide +kernel) (pa_cons (pe_op uPow (pe_op (kAdd K rfl) (pe_op (kAdd K rfl) (pe_ix (kIx K rfl) (pv 0) pe_int (fun _ _ => rfl)) (pe_op uMul pe_int (pe_ix (kIx K rfl) (pv 0) pe_int (fun _ _ => rfl)))) pe_int) pe_int) pa_nil)) pe_int))
  (pss_one (ps_ret (pe_op uMod (pe_op uDiv (pe_op uMod (pe_callTy uInt (by rfl) T.n_int (by decide +kernel) (pa_cons (pe_op uPow (pe_op (kAdd K rfl) (pe_op uMul (pv 2) pe_int) (pe_op uMul pe_int (pe_ix (kIx K rfl) (pv 0) pe_int (fun _ _ => rfl)))) pe_int) pa_nil)) pe_int) pe_int) (pv 1))))))), ?_⟩
  walk_at "v0"
  have e1 : ((d + 1 : Nat) : Int) = (d : Int) + 1 := by omega
  refine w_if (fun hb1 => ?_) (fun hb1 => ?_)
  · walk_at "v"
    refine w_if (fun hb2 => ?_) (fun hb2 => ?_)
    · walk_at "v"
      refine w_modN (by omega) fun r _ h1 h2 => ?_
      walk_at "v"
      exact q _ _ h1 h2 ⟨g / n, b, m, d, upd_same, Int.ediv_nonneg hg (by omega), hm, hm2, by omega⟩ (Fr.put (Fr.refl _ _))
    walk_at "v"
    refine w_powI ?_ (by omega)
    walk_at "v"
    refine w_modN (by omega) fun r1 _ h1 h2 => ?_
    walk_at "v"
    refine w_powI ?_ (by omega)
    walk_at "v"
    refine w_modN (by omega) fun r2 _ h3 h4 => ?_
    walk_at "v"
    refine w_modN (by omega) fun r3 _ h5 h6 => ?_
    walk_at "v"
    exact q _ _ h5 h6 ⟨g, b, m, d + 1, (by rw [e1]; exact upd_same), hg, hm, hm2, by omega⟩ (Fr.put (Fr.refl _ _))
  · walk_at "v"
    refine w_powI ?_ (by omega)
    walk_at "v"
    refine w_modN (by omega) fun r1 _ h1 h2 => ?_
    walk_at "v"
    refine w_powI ?_ (by omega)
    walk_at "v"
    refine w_modN (by omega) fun r2 _ h3 h4 => ?_
    walk_at "v"
    refine w_modN (by omega) fun r3 _ h5 h6 => ?_
    walk_at "v"
    exact q _ _ h5 h6 ⟨g, b, m, d + 1, (by rw [e1]; exact upd_same), hg, hm, hm2, by omega⟩ (Fr.put (Fr.refl _ _))
theorem take_w {p : Addr} {n : Int} {N c : Nat} {H : Hp} {Q : VK} {E : XK} (e : n = (N : Int)) (hb : Box H p c) (hc : c ≤ 100000000 ∧ 0 < N ∧ N < 1073741824) (q : ∀ (k : Nat) H', k < N → Box H' p (c + 1) → SL.Fr p H H' → Q (.int k) H') : spTake [.ref p, .int n] H Q E := by
  refine ⟨p, n, c, rfl, hb, hc.1, by omega, by omega, fun r H' r0 r1 b f => ?_⟩
  obtain ⟨k, rfl⟩ := Int.eq_ofNat_of_zero_le r0
  exact q k H' (by omega) b f
end
section
variable {P : Program} {w : World} {K : PySem.W.Frag} {mg : Str → Option Value} {base : Heap}
def spIsTx (K : PySem.W.Frag) : Sp := fun vs H Q _ => ∃ v b, vs = [v] ∧ IsTx K H v b ∧ ∀ H', Same H H' → Q (.bl b) H'
theorem ok_is_text (T : Txt K mg) : Cal P w K mg base 1 "is_text" ["value"] (spIsTx K) := by
  refine cal0 T.d_is_text sc_is_text (by rintro vs H Q E ⟨v, b, rfl, _⟩; rfl) (fun cdv f A outer s H vs Q E hr hgd h => ?_)
  obtain ⟨v, b, rfl, hv, q⟩ := h
  refine ⟨_, (pss_one (ps_ret (pe_and (pe_callB (kIsi K rfl) (by rfl) T.n_isinstance (by decide +kernel) (pa_cons (pv 0) (pa_cons (pe_bltn (v := .ty "str") (by rfl) T.n_str (by decide +kernel) rfl) pa_nil))) (pe_one (pe_callB (kAll K rfl rfl) (by rfl) T.n_all (by decide +kernel) (pa_cons (pe_lc (own := [("letter", 1)]) rfl sc_is_text.nd (pi_str (pv 0)) (blkOk_by (own := [("letter", 1)]) (N := N_is_text) (sc := defScope s_is_text) (by decide +kernel)) (fun _ _ _ _ _ => (pg_name (i := 1) sc_is_text.nd rfl (by first | exact Or.inl rfl | exact Or.inr rfl))) (fun _ _ _ _ _ => pts_nil) (fun _ _ _ _ _ => (pe_cmpR (kIn K rfl) (pv 1) (pe_gs (by rfl) T.g_LETTERS) (by rfl)))) pa_nil)))))), ?_⟩
  walk_at "v0"
  rcases hv with ⟨l, rfl, hz, rfl⟩ | ⟨rfl, t, ht, hk, hn⟩
  · refine w_isiS ?_ (by decide)
    walk_at "v"
    intro D hD
    refine lc_tx (fun i H' => Same H H' ∧ H' D = some (.lst ((l.take i).map fun c => V.bl (decide (c ∈ abc))))) ⟨same_new hD, upd_same⟩ ?_ ?_
    · rintro i c H1 hi ⟨s1, h1⟩
      have hb := lt_of_get hi
      walk_at "v"
      exact ⟨Same.grow s1 hD, by rw [upd_same, take_more hi, List.map_append]; rfl⟩
    · rintro H1 ⟨s1, h1⟩
      walk_at "v"
      rw [List.take_length] at h1
      refine w_allL (bs := l.map fun c => decide (c ∈ abc)) (SqL.of (by rw [List.map_map]; exact h1)) ?_
      walk_at "v"
      rw [all_let]
      exact q _ s1
  · refine w_isiK ht hk (.inr (.inr (.inl rfl))) ?_
    have e : (t == "str" || (t == "bool" && "str" == "int")) = false := by simp [hn]
    rw [e]
    walk_at "v"
    exact q _ (Same.refl _)
def spIsLg (K : PySem.W.Frag) : Sp := fun vs H Q _ => ∃ v b, vs = [v] ∧ IsLg K H v b ∧ ∀ H', Same H H' → Q (.bl b) H'
theorem ok_is_lag (T : Txt K mg) (c_is_text : Cal P w K mg base 1 "is_text" ["value"] (spIsTx K)) : Cal P w K mg base 2 "is_lag" ["value"] (spIsLg K) := by
  refine cal0 T.d_is_lag sc_is_lag (by rintro vs H Q E ⟨v, b, rfl, _⟩; rfl) (fun cdv f A outer s H vs Q E hr hgd h => ?_)
  obtain ⟨v, b, rfl, hv, q⟩ := h
  refine ⟨_, (pss_cons (ps_if (PW.pt (pw_or (pt_not (pt_val (pe_callB (kIsi K rfl) (by rfl) T.n_isinstance (by decide +kernel) (pa_cons (pv 0) (pa_cons (pe_bltn (v := .ty "tuple") (by rfl) T.n_tuple (by decide +kernel) rfl) pa_nil))))) (pw_or1 (pt_cmpR (kNe K rfl hr) (pe_callB (kLen K rfl) (by rfl) T.n_len (by decide +kernel) (pa_cons (pv 0) pa_nil)) pe_int (nomark _))))) (pss_one (ps_ret pe_bl)) pss_nil)
  (pss_one (ps_ret (pe_and (pe_g c_is_text hr (by decide) hgd (by rfl) noX (pa_cons (pe_ix (kIx K rfl) (pv 0) pe_int (fun _ _ => rfl)) pa_nil)) (pe_and (pe_g c_is_text hr (by decide) hgd (by rfl) noX (pa_cons (pe_ix (kIx K rfl) (pv 0) pe_int (fun _ _ => rfl)) pa_nil)) (pe_one (pe_cmpR (kIn K rfl) (pe_tx [] (by decide +kernel)) (pv 0) (by rfl)))))))), ?_⟩
  walk_at "v0"
  rcases hv with ⟨rfl, t, ht, hk, hn⟩ | ⟨p, xs, rfl, hp, h3⟩
  · refine w_isiK ht hk (.inr (.inr (.inr (.inr rfl)))) ?_
    have e : (t == "tuple" || (t == "bool" && "tuple" == "int")) = false := by simp [hn]
    rw [e]
    walk_at "v"
    exact q _ (Same.refl _)
  · refine w_isiT hp ?_ (by decide)
    walk_at "v"
    rcases h3 with ⟨rfl, hl⟩ | ⟨x, y, rfl, rfl, hx⟩ | ⟨l, y, rfl, rfl, zl, hl, hy⟩ | ⟨l, m, rfl, zl, zm, hl, hm, rfl⟩
    · refine w_ifT (by simp; omega) ?_
      walk_at "v"
      exact q _ (Same.refl _)
    · walk_at "v"
      refine ⟨x, false, rfl, hx, fun H1 s1 => ?_⟩
      walk_at "v"
      exact q _ s1
    · walk_at "v"
      refine ⟨_, true, rfl, .inl ⟨l, rfl, zl, (decide_eq_true hl).symm⟩, fun H1 s1 => ?_⟩
      walk_at "v"
      refine ⟨y, false, rfl, hy.mono s1, fun H2 s2 => ?_⟩
      walk_at "v"
      exact q _ (s1.trans s2)
    · walk_at "v"
      refine ⟨_, true, rfl, .inl ⟨l, rfl, zl, (decide_eq_true hl).symm⟩, fun H1 s1 => ?_⟩
      walk_at "v"
      refine ⟨_, true, rfl, .inl ⟨m, rfl, zm, (decide_eq_true hm).symm⟩, fun H2 s2 => ?_⟩
      walk_at "v"
      have hf : [V.str (tx l), V.str (tx m)].all flatV = true := rfl
      refine w_inT (by walk_at "vget") rfl hf ?_
      rw [in_pair2]
      exact q _ (s1.trans s2)
/-- check_text: nothing, or the error with the value -/
def spCheckD (K : PySem.W.Frag) (C : Addr) : Sp := fun vs H Q E => ∃ v b, vs = [v] ∧ IsTx K H v b ∧ (b = true → ∀ H', Same H H' → Q .non H') ∧ (b = false → ∀ H' d, Same H H' → H' d = some (xdG v) → E (.ref C) (some d) H')
theorem ok_check_text (T : Txt K mg) (c_is_text : Cal P w K mg base 1 "is_text" ["value"] (spIsTx K)) : Cal P w K mg base 2 "check_text" ["text"] (spCheckD K (errAt mg "InvalidText")) := by
  refine calX T.d_check_text sc_check_text (by rintro vs H Q E ⟨v, b, rfl, _⟩; rfl) (fun cdv f A outer s H vs Q E hr hgd h => ?_)
  obtain ⟨v, b, rfl, hv, q1, q2⟩ := h
  refine ⟨_, (pss_one (ps_if (pt_not (pt_val (pe_g c_is_text hr (by decide) hgd (by rfl) (passAt tk_def) (pa_cons (pv 0) pa_nil)))) (pss_one (ps_rzA mg T.x_InvalidText rfl (by rfl) tk_def hr (by rfl) (pa_cons (pv 0) pa_nil))) pss_nil)), ?_⟩
  walk_at "v0"
  refine ⟨v, b, rfl, hv, fun H1 s1 => ?_⟩
  walk_at "v"
  cases b with
  | true =>
    walk_at "v"
    exact q1 rfl _ s1
  | false =>
    walk_at "v"
    refine w_rz ?_
    walk_at "v"
    refine w_one fun d hd => ?_
    exact q2 rfl _ d (Same.new s1 hd) upd_same
end
end K74
set_option Elab.async false
set_option linter.all false
set_option maxRecDepth 100000
set_option maxHeartbeats 4000000
namespace K74
open PySem PySem.Spec PyProof.Rows L2 SL Lv
local macro_rules | `(tactic| walk_at "sz") => `(tactic| first
  | assumption
  | omega
  | (simp only [List.length_cons, List.length_nil, List.length_append, List.length_map, List.length_take, List.length_drop, List.length_reverse, List.length_replicate, List.length_range, tx_len, sizeLine_eq, CMul, CDiv, Nat.reduceAdd, Nat.reduceLeDiff]; first | done | omega)
  | decide)
local macro_rules | `(tactic| walk_at "ne") => `(tactic| first
  | assumption
  | exact Ne.symm (by assumption)
  | (refine ne_of_none (H := ?H0) (o := ?oo) ?hh ?hn; (case hn => assumption); (case hh => walk_at "hget"))
  | (refine Ne.symm (ne_of_none (H := ?H0) (o := ?oo) ?hh ?hn); (case hn => assumption); (case hh => walk_at "hget")))
local macro_rules | `(tactic| walk_at "hget") => `(tactic| first
  | assumption
  | exact upd_same
  | (refine (upd_ne ?n).trans ?g; (case n => walk_at "ne"); (case g => walk_at "hget"))
  | (refine fr_get (p := ?pp) (H := ?H0) ?f ?g ?n; (case f => assumption); (case g => walk_at "hget"); (case n => walk_at "ne"))
  | (refine same_get (H := ?H0) ?f ?g; (case f => assumption); (case g => walk_at "hget")))
local macro_rules | `(tactic| walk_at "vget") => `(tactic| first
  | assumption
  | (refine SqL.of ?g; (case g => walk_at "hget"))
  | (refine SqT.of ?g; (case g => walk_at "hget"))
  | (refine sql_new ?n ?g; (case n => assumption); (case g => walk_at "vget"))
  | (refine sqt_new ?n ?g; (case n => assumption); (case g => walk_at "vget"))
  | (refine sql_upd ?n ?g; (case n => walk_at "ne"); (case g => walk_at "vget"))
  | (refine sqt_upd ?n ?g; (case n => walk_at "ne"); (case g => walk_at "vget"))
  | (refine Same.seq (H := ?H0) ?f ?g; (case f => assumption); (case g => walk_at "vget"))
  | (refine Same.seqT (H := ?H0) ?f ?g; (case f => assumption); (case g => walk_at "vget"))
  | (refine fr_sql (b := ?pp) (H := ?H0) ?f ?g ?n; (case f => assumption); (case g => walk_at "vget"); (case n => walk_at "ne"))
  | (refine fr_sqt (b := ?pp) (H := ?H0) ?f ?g ?n; (case f => assumption); (case g => walk_at "vget"); (case n => walk_at "ne")))
local macro_rules | `(tactic| walk_at "at") => `(tactic| first
  | assumption
  | rfl
  | (refine atI_n ?h; (case h => first | assumption | rfl))
  | (refine atI_i ?h0 ?h; (case h0 => omega); (case h => first | assumption | rfl)))
local macro_rules | `(tactic| walk_at "v1") => `(tactic| first
  | with_reducible refine w_seq ?_
  | with_reducible refine w_enx ?_
  | with_reducible refine w_ert ?_
  | with_reducible refine w_asg ?_
  | ((with_reducible refine w_var (v := ?vv) ?h ?_); (case h => exact rfl))
  | with_reducible refine w_op ?_
  | with_reducible refine w_c ?_
  | with_reducible refine w_cons ?_
  | with_reducible refine w_nil ?_
  | with_reducible refine w_cb ?_
  | with_reducible refine w_call ?_
  | with_reducible refine w_k ?_
  | with_reducible refine w_i ?_
  | with_reducible refine w_two ?_
  | ((with_reducible refine w_name ?_); (try simp only [List.set_cons_zero, List.set_cons_succ]))
  | with_reducible refine w_ifS ?_
  | with_reducible refine w_ret ?_
  | with_reducible refine w_drop ?_
  | with_reducible refine w_test ?_
  | with_reducible refine w_B ?_
  | with_reducible refine iteT ?_
  | with_reducible refine iteF ?_
  | with_reducible refine w_same ?_
  | ((with_reducible refine w_ifT ?h ?_); (case h => first | rfl | assumption))
  | ((with_reducible refine w_ifF ?h ?_); (case h => first | rfl | assumption))
  | ((with_reducible refine w_diff ?_ ?h); (case h => decide +kernel))
  | ((with_reducible refine w_wp ?h ?_); (case h => rfl); (try simp only [wipe, List.set_cons_zero, List.set_cons_succ, List.foldl_cons, List.foldl_nil]))
  | ((with_reducible refine w_acc (acc := ?aa) ?h ?_ ?z); (case h => walk_at "hget"); (case z => walk_at "sz"))
  | with_reducible refine w_addI ?_
  | with_reducible refine w_subI ?_
  | with_reducible refine w_lt ?_
  | with_reducible refine w_le ?_
  | with_reducible refine w_gt ?_
  | with_reducible refine w_ge ?_
  | with_reducible refine w_eqI ?_
  | with_reducible refine w_neI ?_
  | with_reducible refine w_eqS ?_
  | with_reducible refine w_neS ?_
  | ((with_reducible refine w_mulI ?_ ?h); (case h => walk_at "sz"))
  | ((with_reducible refine w_divI ?_ ?h); (case h => walk_at "sz"))
  | ((with_reducible refine w_addS ?_ ?h); (case h => walk_at "sz"))
  | ((with_reducible refine w_mulS ?_ ?h); (case h => walk_at "sz"))
  | ((with_reducible refine w_ixL (xs := ?xx) (v := ?vv) ?h ?i ?_); (case h => walk_at "vget"); (case i => walk_at "at"))
  | ((with_reducible refine w_ixT (xs := ?xx) (v := ?vv) ?h ?i ?_); (case h => walk_at "vget"); (case i => walk_at "at"))
  | ((with_reducible refine w_ixS (c := ?cc) ?i ?_ ?h); (case i => walk_at "at"); (case h => walk_at "sz"))
  | ((with_reducible refine w_lenS' ?_ ?h); (case h => walk_at "sz"))
  | ((with_reducible refine w_lenL' (xs := ?xx) ?h ?_); (case h => walk_at "vget"))
  | ((with_reducible refine w_lenT' (xs := ?xx) ?h ?_); (case h => walk_at "vget"))
  | with_reducible refine w_isnN ?_
  | with_reducible refine w_isnI ?_
  | with_reducible refine w_isnS ?_
  | with_reducible refine w_isnR ?_
  | with_reducible refine w_isnB ?_
  | with_reducible refine w_isoN ?_
  | with_reducible refine w_isoI ?_
  | with_reducible refine w_isoS ?_
  | with_reducible refine w_isoR ?_
  | with_reducible refine w_isoB ?_
  | with_reducible refine w_abs ?_
  | with_reducible refine w_int ?_
  | with_reducible refine w_intB ?_
  | with_reducible refine w_min2 ?_
  | with_reducible refine w_max2 ?_
  | with_reducible refine w_min3 ?_
  | with_reducible refine w_sl ?_
  | with_reducible refine w_np ?_
  | with_reducible refine w_part ?_
  | ((with_reducible refine w_sStN ?_ ?h); (case h => walk_at "sz"))
  | ((with_reducible refine w_sSfN ?_ ?h); (case h => walk_at "sz"))
  | ((with_reducible refine w_sSt ?_ ?h); (case h => walk_at "sz"))
  | ((with_reducible refine w_sSf ?_ ?h); (case h => walk_at "sz"))
  | with_reducible refine w_and ?_
  | with_reducible refine w_or ?_
  | with_reducible refine w_not ?_
  | with_reducible refine w_andV ?_
  | with_reducible refine w_orV ?_
  | with_reducible refine w_notV ?_
  | with_reducible refine w_ifE ?_
  | with_reducible refine w_tup ?_
  | with_reducible refine w_lst ?_
  | with_reducible refine w_chain ?_
  | ((with_reducible refine w_par ?_); (try simp only [List.set_cons_zero, List.set_cons_succ]))
  | with_reducible refine w_un ?_
  | with_reducible refine w_neg ?_
  | with_reducible refine w_next ?_
  | with_reducible refine w_ebk ?_
  | with_reducible refine w_ect ?_
  | with_reducible refine w_for ?_
  | with_reducible refine w_lc ?_
  | with_reducible refine w_yes ?_
  | with_reducible refine w_il ?_
  | with_reducible refine w_it ?_
  | with_reducible refine w_isx ?_
  | with_reducible refine w_ir1 ?_
  | with_reducible refine w_ir2 ?_
  | with_reducible refine w_ies ?_
  | with_reducible refine w_s1 ?_
  | with_reducible refine w_s1l ?_
  | ((with_reducible refine w_r1 ?_ ?h); (case h => walk_at "sz"))
  | ((with_reducible refine w_r2 ?_ ?h); (case h => walk_at "sz"))
  | ((with_reducible refine w_l1 (xs := ?xx) ?h ?_); (case h => walk_at "vget"))
  | ((with_reducible refine w_t1 (xs := ?xx) ?h ?_); (case h => walk_at "vget"))
  | ((with_reducible refine w_isL (xs := ?xx) ?h ?_); (case h => walk_at "vget"))
  | with_reducible refine w_isS ?_
  | ((with_reducible refine w_app (xs := ?xx) ?h ?_ ?z); (case h => walk_at "hget"); (case z => walk_at "sz"))
  | with_reducible refine w_inC ?_
  | with_reducible refine w_rev ?_
  | ((with_reducible refine w_rev1S ?_ ?h); (case h => walk_at "sz"))
  | with_reducible refine w_lrg ?_
  | with_reducible refine w_brk ?_
  | with_reducible refine w_cont ?_
  | with_reducible refine w_retN ?_
  | with_reducible refine w_bm ?_
  | with_reducible refine w_bm0 ?_
  | with_reducible refine w_m1 ?_
  | with_reducible refine w_sub ?_
  | ((with_reducible refine w_setL (xs := ?xx) (j := ?jj) ?h ?i ?_); (case h => walk_at "hget"); (case i => first | rfl | assumption); (try simp only [Int.reduceToNat, List.set_cons_zero, List.set_cons_succ]))
  | with_reducible refine w_ip ?_
  | with_reducible refine w_gnil ?_
  | with_reducible refine w_gcons ?_
  | ((with_reducible refine w_gL (xs := ?xx) ?h ?_ ?n); (case h => walk_at "vget"); (case n => rfl))
  | ((with_reducible refine w_gT (xs := ?xx) ?h ?_ ?n); (case h => walk_at "vget"); (case n => rfl))
  | ((with_reducible refine w_aug (v := ?vv) ?h ?_); (case h => exact rfl)))
local macro_rules | `(tactic| walk_at "v") => `(tactic| repeat walk_at "v1")
local macro_rules | `(tactic| walk_at "v0") => `(tactic| (simp only [L2.start, cxK, ends_rt, List.map_cons, List.map_nil, List.length_cons, List.length_nil, Nat.reduceAdd, Nat.reduceSub, List.replicate_succ, List.replicate_zero, List.append_nil, List.cons_append, List.nil_append]; walk_at "v"))
local macro_rules | `(tactic| walk_at "u1") => `(tactic| first
  | with_reducible refine w_seqA ?_
  | with_reducible refine w_seqD ?_
  | with_reducible refine w_seqP ?_
  | with_reducible refine w_seqG ?_
  | ((fail_if_success (with_reducible refine w_seq ?_)); walk_at "v1"))
local macro_rules | `(tactic| walk_at "u") => `(tactic| repeat walk_at "u1")
local macro_rules | `(tactic| walk_at "u0") => `(tactic| (simp only [L2.start, cxK, ends_rt, List.map_cons, List.map_nil, List.length_cons, List.length_nil, Nat.reduceAdd, Nat.reduceSub, List.replicate_succ, List.replicate_zero, List.append_nil, List.cons_append, List.nil_append]; walk_at "u"))
local macro_rules | `(tactic| walk_at "t1") => `(tactic| ((fail_if_success (with_reducible refine w_seq ?_)); walk_at "v1"))
local macro_rules | `(tactic| walk_at "t") => `(tactic| repeat walk_at "t1")

section
variable {P : Program} {w : World} {K : PySem.W.Frag} {mg : Str → Option Value} {base : Heap}
def spBegin : Sp := fun vs H Q _ => ∃ l m : List Nat, vs = [.str (tx l), .str (tx m)] ∧ l.length ≤ 16000000 ∧ m.length ≤ 16000000 ∧ ∀ k : Nat, k ≤ l.length → k ≤ m.length → l.take k = m.take k → Q (.int k) H
theorem ok_common_beginning (T : Txt K mg) : Cal P w K mg base 1 "common_beginning" ["one", "other"] spBegin := by
  refine cal0 T.d_common_beginning sc_common_beginning (by rintro vs H Q E ⟨l, m, rfl, _⟩; rfl) (fun cdv f A outer s H vs Q E hr hgd h => ?_)
  obtain ⟨l, m, rfl, hl, hm, q⟩ := h
  refine ⟨_, (pss_cons (ps_set (i := 2) sc_common_beginning.nd rfl (by first | exact Or.inl rfl | exact Or.inr rfl) pe_int)
  (pss_cons (ps_while PassesOwn.never (PW.pt (pw_and (pt_cmpR uLt (pv 2) (pe_callB (uMin2 rfl) (by rfl) T.n_min (by decide +kernel) (pa_cons (pe_callB (kLen K rfl) (by rfl) T.n_len (by decide +kernel) (pa_cons (pv 0) pa_nil)) (pa_cons (pe_callB (kLen K rfl) (by rfl) T.n_len (by decide +kernel) (pa_cons (pv 1) pa_nil)) pa_nil))) (nomark _)) (pw_and1 (pt_cmpR (kEq K rfl hr) (pe_ix (kIx K rfl) (pv 0) (pv 2) (fun _ _ => rfl)) (pe_ix (kIx K rfl) (pv 1) (pv 2) (fun _ _ => rfl)) (nomark _)))))
  (pss_one (ps_aug (i := 2) sc_common_beginning.nd rfl (by first | exact Or.inl rfl | exact Or.inr rfl) pe_int ip_add)))
  (pss_one (ps_ret (pv 2))))), ?_⟩
  walk_at "v0"
  refine ⟨fun n σ H1 => H1 = H ∧ ∃ k : Nat, n + k = l.length ∧ k ≤ m.length ∧ l.take k = m.take k ∧ σ = [some (.str (tx l)), some (.str (tx m)), some (.int k)], ⟨l.length, rfl, 0, rfl, by omega, rfl, rfl⟩, ?_⟩
  rintro n σ H1 ⟨rfl, k, hk, hkm, ht, rfl⟩
  walk_at "v"
  refine w_if (fun h => ?_) (fun h => ?_)
  · have hh := of_decide_eq_true h
    have h1 : k < l.length := by split at hh <;> omega
    have h2 : k < m.length := by split at hh <;> omega
    have g1 := get_of h1
    have g2 := get_of h2
    walk_at "v"
    refine w_if (fun h => ?_) (fun h => ?_)
    · refine ⟨_, fun σ' H' z => ⟨n - 1, by omega, z⟩, ?_⟩
      walk_at "v"
      have e := of_decide_eq_true h
      refine ⟨rfl, k + 1, by omega, by omega, ?_, rfl⟩
      rw [take_more g1, take_more g2, ht]
      exact congrArg _ e
    · walk_at "v"
      exact q k (by omega) (by omega) ht
  · walk_at "v"
    exact q k (by omega) (by omega) ht
def spEnds : Sp := fun vs H Q _ => ∃ l m : List Nat, vs = [.str (tx l), .str (tx m)] ∧ l.length ≤ 16000000 ∧ m.length ≤ 16000000 ∧
  ∀ (u v : List Nat) p H', Same H H' → H' p = some (.tup [.str (tx u), .str (tx v)]) → lev u v = lev l m → u.length ≤ l.length → v.length ≤ m.length → u.length + m.length = v.length + l.length → Q (.ref p) H'
theorem ok_without_common_ends (T : Txt K mg) (c_common_beginning : Cal P w K mg base 1 "common_beginning" ["one", "other"] spBegin) : Cal P w K mg base 2 "without_common_ends" ["one", "other"] spEnds := by
  refine cal0 T.d_without_common_ends sc_without_common_ends (by rintro vs H Q E ⟨l, m, rfl, _⟩; rfl) (fun cdv f A outer s H vs Q E hr hgd h => ?_)
  obtain ⟨l, m, rfl, hl, hm, q⟩ := h
  refine ⟨_, (pss_cons (ps_set (i := 2) sc_without_common_ends.nd rfl (by first | exact Or.inl rfl | exact Or.inr rfl) (pe_g c_common_beginning hr (by decide) hgd (by rfl) noX (pa_cons (pv 0) (pa_cons (pv 1) pa_nil))))
  (pss_cons (ps_par (i := 3) (j := 4) (by rfl) sc_without_common_ends.nd rfl rfl (by decide) rfl rfl (pa_cons (pe_slice (kSl K rfl) (pv 0) (po_some (pv 2)) po_none) (pa_cons (pe_slice (kSl K rfl) (pv 1) (po_some (pv 2)) po_none) pa_nil)) (by rfl))
  (pss_cons (ps_set (i := 2) sc_without_common_ends.nd rfl (by first | exact Or.inl rfl | exact Or.inr rfl) (pe_g c_common_beginning hr (by decide) hgd (by rfl) noX (pa_cons (kRev K rfl (pv 3)) (pa_cons (kRev K rfl (pv 4)) pa_nil))))
  (pss_one (ps_ret (pe_tup (pa_cons (pe_slice (kSl K rfl) (pv 3) po_none (po_some (pe_op uSub (pe_callB (kLen K rfl) (by rfl) T.n_len (by decide +kernel) (pa_cons (pv 3) pa_nil)) (pv 2)))) (pa_cons (pe_slice (kSl K rfl) (pv 4) po_none (po_some (pe_op uSub (pe_callB (kLen K rfl) (by rfl) T.n_len (by decide +kernel) (pa_cons (pv 4) pa_nil)) (pv 2)))) pa_nil)))))))), ?_⟩
  walk_at "v0"
  refine ⟨l, m, rfl, hl, hm, fun k k1 k2 kt => ?_⟩
  walk_at "v"
  refine ⟨_, _, rfl, by walk_at "sz", by walk_at "sz", fun j j1 j2 jt => ?_⟩
  rw [List.length_reverse, List.length_drop] at j1 j2
  walk_at "v"
  refine ⟨by walk_at "sz", fun p hp => ?_⟩
  walk_at "v"
  have e1 : ((List.drop k l).length - (j : Int)).toNat = (List.drop k l).length - j := by omega
  have e2 : ((List.drop k m).length - (j : Int)).toNat = (List.drop k m).length - j := by omega
  rw [e1, e2]
  refine q _ _ p _ (same_new hp) upd_same ((lev_cutT jt).trans (lev_cutH kt)) ?_ ?_ ?_
  · simp only [List.length_take, List.length_drop]; omega
  · simp only [List.length_take, List.length_drop]; omega
  · simp only [List.length_take, List.length_drop]; omega
def spNext (K : PySem.W.Frag) : Sp := fun vs H Q _ => ∃ (p : Addr) (x y : List Nat) (most at' c : Nat), vs = [.ref p, .str (tx [c]), .int at', .str (tx y)] ∧ SqL K H p ((bandL x y most at').map V.int) ∧ x[at']? = some c ∧ x.length ≤ 1000000 ∧ y.length ≤ 1000000 ∧ most ≤ 1000000 ∧
  ∀ q H', Same H H' → H' q = some (.lst ((bandL x y most (at' + 1)).map V.int)) → Q (.ref q) H'
theorem ok_next_band (T : Txt K mg) : Cal P w K mg base 1 "next_band" ["band", "letter", "at", "other"] (spNext K) := by
  refine cal0 T.d_next_band sc_next_band (by rintro vs H Q E ⟨p, x, y, most, at', c, rfl, _⟩; rfl) (fun cdv f A outer s H vs Q E hr hgd h => ?_)
  obtain ⟨p, x, y, most, at', c, rfl, hp, hc, zx, zy, zm, q⟩ := h
  refine ⟨_, (pss_cons (ps_par (i := 5) (j := 6) (by rfl) sc_next_band.nd rfl rfl (by decide) rfl rfl (pa_cons (pe_op uDiv (pe_callB (kLen K rfl) (by rfl) T.n_len (by decide +kernel) (pa_cons (pv 0) pa_nil)) pe_int) (pa_cons (pe_lst pa_nil) pa_nil)) (by rfl))
  (pss_cons (ps_for PassesOwn.never rfl (pi_range1 (by rfl) T.n_range (pa_cons (pe_callB (kLen K rfl) (by rfl) T.n_len (by decide +kernel) (pa_cons (pv 0) pa_nil)) pa_nil)) (pg_name (i := 4) sc_next_band.nd rfl (by first | exact Or.inl rfl | exact Or.inr rfl))
  (pss_cons (ps_set (i := 7) sc_next_band.nd rfl (by first | exact Or.inl rfl | exact Or.inr rfl) (pe_op uSub (pe_op (kAdd K rfl) (pe_op (kAdd K rfl) (pv 2) pe_int) (pv 4)) (pv 5)))
  (pss_cons (ps_set (i := 8) sc_next_band.nd rfl (by first | exact Or.inl rfl | exact Or.inr rfl) (pe_lst (pa_cons (pe_op (kAdd K rfl) (pv 5) pe_int) pa_nil)))
  (pss_cons (ps_if (pt_chain uLt uLe pe_int (pv 7) (pe_callB (kLen K rfl) (by rfl) T.n_len (by decide +kernel) (pa_cons (pv 3) pa_nil))) (pss_one (ps_expr (kBm K rfl PySem.F.plainAttrs_list PySem.F.slot_list_append PySem.F.type_list_append mt_append (pv 8) (pa_cons (pe_op (kAdd K rfl) (pe_ix (kIx K rfl) (pv 0) (pv 4) (fun _ _ => rfl)) (pe_callTy uInt (by rfl) T.n_int (by decide +kernel) (pa_cons (pe_cmpR (kNe K rfl hr) (pv 1) (pe_ix (kIx K rfl) (pv 3) (pe_op uSub (pv 7) pe_int) (fun _ _ => rfl)) (nomark _)) pa_nil))) pa_nil)))) pss_nil)
  (pss_cons (ps_if (PW.pt (pw_and (pt_chain uLt uLe pe_int (pv 7) (pe_callB (kLen K rfl) (by rfl) T.n_len (by decide +kernel) (pa_cons (pv 3) pa_nil))) (pw_and1 (pt_cmpR uGt (pv 4) pe_int (nomark _))))) (pss_one (ps_expr (kBm K rfl PySem.F.plainAttrs_list PySem.F.slot_list_append PySem.F.type_list_append mt_append (pv 8) (pa_cons (pe_op (kAdd K rfl) (pe_ix (kIx K rfl) (pv 6) (pe_op uSub (pv 4) pe_int) (fun _ _ => rfl)) pe_int) pa_nil)))) pss_nil)
  (pss_cons (ps_if (PW.pt (pw_and (pt_chain uLe uLe pe_int (pv 7) (pe_callB (kLen K rfl) (by rfl) T.n_len (by decide +kernel) (pa_cons (pv 3) pa_nil))) (pw_and1 (pt_cmpR uLt (pv 4) (pe_op uMul pe_int (pv 5)) (nomark _))))) (pss_one (ps_expr (kBm K rfl PySem.F.plainAttrs_list PySem.F.slot_list_append PySem.F.type_list_append mt_append (pv 8) (pa_cons (pe_op (kAdd K rfl) (pe_ix (kIx K rfl) (pv 0) (pe_op (kAdd K rfl) (pv 4) pe_int) (fun _ _ => rfl)) pe_int) pa_nil)))) pss_nil)
  (pss_one (ps_expr (kBm K rfl PySem.F.plainAttrs_list PySem.F.slot_list_append PySem.F.type_list_append mt_append (pv 6) (pa_cons (pe_callB (kMin K rfl rfl) (by rfl) T.n_min (by decide +kernel) (pa_cons (pv 8) pa_nil)) pa_nil))))))))))
  (pss_one (ps_ret (pv 6))))), ?_⟩
  have hbl : ((bandL x y most at').map V.int).length = 2 * most + 1 := by rw [List.length_map, bandL_len]
  have hlt := lt_of_get hc
  walk_at "v0"
  refine ⟨by walk_at "sz", fun f hf => ?_⟩
  walk_at "v"
  have hm2 : ((List.map V.int (bandL x y most at')).length : Int) / 2 = most := by omega
  rw [hm2]
  refine for_rg (n := 2 * most + 1) (by omega) (fun i σ H' => ∃ u v z, σ = [some (V.ref p), some (V.str (tx [c])), some (V.int at'), some (V.str (tx y)), u, some (V.int most), some (V.ref f), v, z] ∧
    Same H H' ∧ H' f = some (.lst (((bandL x y most (at' + 1)).take i).map V.int))) ⟨_, _, _, rfl, same_new hf, upd_same⟩ ?_ ?_
  · rintro i σ H1 hi ⟨u, v, z, rfl, s1, h1⟩
    have fl : ((List.map V.int ((bandL x y most (at' + 1)).take i))).length = i := by rw [List.length_map, List.length_take, bandL_len]; omega
    have hb1 : ((bandL x y most at').map V.int)[i]? = some (.int (bval x y most at' i)) := by rw [List.getElem?_map, bandL_at x y (by omega)]; rfl
    have hb2 : i < 2 * most → ((bandL x y most at').map V.int)[i + 1]? = some (.int (bval x y most at' (i + 1))) := fun h => by rw [List.getElem?_map, bandL_at x y (by omega)]; rfl
    have hb3 : 0 < i → (((bandL x y most (at' + 1)).take i).map V.int)[i - 1]? = some (.int (bval x y most (at' + 1) (i - 1))) := fun h => by
      rw [List.getElem?_map, List.getElem?_take_of_lt (by omega), bandL_at x y (by omega)]; rfl
    have hp1 := fr_sql (Fr.of (p := f) s1) hp
    obtain ⟨va, hva⟩ : ∃ va : Int, va = bval x y most at' i + un x y at' (at' + i - most) := ⟨_, rfl⟩
    obtain ⟨vb, hvb⟩ : ∃ vb : Int, vb = bval x y most (at' + 1) (i - 1) + 1 := ⟨_, rfl⟩
    obtain ⟨vc, hvc⟩ : ∃ vc : Int, vc = bval x y most at' (i + 1) + 1 := ⟨_, rfl⟩
    obtain ⟨ca, hca⟩ : ∃ ca : Bool, ca = decide (most < at' + 1 + i ∧ at' + 1 + i ≤ most + y.length) := ⟨_, rfl⟩
    obtain ⟨cb, hcb⟩ : ∃ cb : Bool, cb = decide ((most < at' + 1 + i ∧ at' + 1 + i ≤ most + y.length) ∧ 0 < i) := ⟨_, rfl⟩
    obtain ⟨cc, hcc⟩ : ∃ cc : Bool, cc = decide ((most ≤ at' + 1 + i ∧ at' + 1 + i ≤ most + y.length) ∧ i < 2 * most) := ⟨_, rfl⟩
    obtain ⟨w1, hw1⟩ : ∃ w1 : List Int, w1 = [(most : Int) + 1] ++ (if ca then [va] else []) := ⟨_, rfl⟩
    obtain ⟨w2, hw2⟩ : ∃ w2 : List Int, w2 = w1 ++ (if cb then [vb] else []) := ⟨_, rfl⟩
    obtain ⟨w3, hw3⟩ : ∃ w3 : List Int, w3 = w2 ++ (if cc then [vc] else []) := ⟨_, rfl⟩
    have l1 : w1.length ≤ 2 := by rw [hw1]; cases ca <;> simp
    have l2 : w2.length ≤ 3 := by rw [hw2, List.length_append]; cases cb <;> simp <;> omega
    walk_at "u"
    refine ⟨by walk_at "sz", fun g hg => ?_⟩
    have hgf : g ≠ f := Ne.symm (ne_of_none h1 hg)
    walk_at "u"
    refine w_seqI (fun σ H' => σ = [some (V.ref p), some (V.str (tx [c])), some (V.int at'), some (V.str (tx y)), some (V.int i), some (V.int most), some (V.ref f), some (V.int (at' + 1 + i - most)), some (V.ref g)] ∧
      Same H1 H' ∧ H' g = some (.lst (w1.map V.int))) ?_ ?_
    · rintro σ H2 ⟨rfl, s2, h2⟩
      refine w_seqI (fun σ H' => σ = [some (V.ref p), some (V.str (tx [c])), some (V.int at'), some (V.str (tx y)), some (V.int i), some (V.int most), some (V.ref f), some (V.int (at' + 1 + i - most)), some (V.ref g)] ∧
        Same H1 H' ∧ H' g = some (.lst (w2.map V.int))) ?_ ?_
      · rintro σ H3 ⟨rfl, s3, h3⟩
        refine w_seqI (fun σ H' => σ = [some (V.ref p), some (V.str (tx [c])), some (V.int at'), some (V.str (tx y)), some (V.int i), some (V.int most), some (V.ref f), some (V.int (at' + 1 + i - most)), some (V.ref g)] ∧
          Same H1 H' ∧ H' g = some (.lst (w3.map V.int))) ?_ ?_
        · rintro σ H4 ⟨rfl, s4, h4⟩
          walk_at "v"
          refine w_minL (SqL.of h4) (by rw [hw3, hw2, hw1]; simp) fun m hm hall => ?_
          have e : m = bval x y most (at' + 1) i := by
            rw [hw3, hw2, hw1] at hm hall
            have l0 := hall (most + 1) (by simp)
            have l1 : ca = true → m ≤ va := fun h => hall va (by rw [h]; simp)
            have l2 : cb = true → m ≤ vb := fun h => hall vb (by rw [h]; simp)
            have l3 : cc = true → m ≤ vc := fun h => hall vc (by rw [h]; simp)
            rw [hca, decide_eq_true_eq] at l1
            rw [hcb, decide_eq_true_eq] at l2
            rw [hcc, decide_eq_true_eq] at l3
            have hm' : m = most + 1 ∨ (ca = true ∧ m = va) ∨ (cb = true ∧ m = vb) ∨ (cc = true ∧ m = vc) := by
              rcases List.mem_append.mp hm with hm | hm
              · rcases List.mem_append.mp hm with hm | hm
                · rcases List.mem_append.mp hm with hm | hm
                  · exact .inl (by simpa using hm)
                  · cases ca with
                    | true => exact .inr (.inl ⟨rfl, by simpa using hm⟩)
                    | false => simp at hm
                · cases cb with
                  | true => exact .inr (.inr (.inl ⟨rfl, by simpa using hm⟩))
                  | false => simp at hm
              · cases cc with
                | true => exact .inr (.inr (.inr ⟨rfl, by simpa using hm⟩))
                | false => simp at hm
            rw [hca, hcb, hcc, decide_eq_true_eq, decide_eq_true_eq, decide_eq_true_eq] at hm'
            refine bstep (x := x) l0 (fun h1 h2 => by rw [← hva]; exact l1 ⟨h1, h2⟩) (fun h1 h2 h3 => by rw [← hvb]; exact l2 ⟨⟨h1, h2⟩, h3⟩) (fun h1 h2 h3 => by rw [← hvc]; exact l3 ⟨⟨h1, h2⟩, h3⟩) ?_ (by omega)
            rw [← hva, ← hvb, ← hvc]
            rcases hm' with h | ⟨h, h'⟩ | ⟨h, h'⟩ | ⟨h, h'⟩
            · exact .inl h
            · exact .inr (.inl ⟨h.1, h.2, h'⟩)
            · exact .inr (.inr (.inl ⟨h.1.1, h.1.2, h.2, h'⟩))
            · exact .inr (.inr (.inr ⟨h.1.1, h.1.2, h.2, h'⟩))
          subst e
          walk_at "v"
          refine ⟨_, _, _, rfl, Same.grow (s1.trans s4) hf, ?_⟩
          rw [upd_same, take_more (bandL_at x y (by omega)), List.map_append]
          rfl
        · intro N hN
          have no : cc = false → N [some (V.ref p), some (V.str (tx [c])), some (V.int at'), some (V.str (tx y)), some (V.int i), some (V.int most), some (V.ref f), some (V.int (at' + 1 + i - most)), some (V.ref g)] H3 := fun h =>
            hN _ _ ⟨rfl, s3, by rw [h3, hw3, h]; simp⟩
          walk_at "v"
          refine w_if (fun ha => ?_) (fun ha => ?_)
          · have ha := of_decide_eq_true ha
            walk_at "v"
            refine w_if (fun hb => ?_) (fun hb => ?_)
            · have hb := of_decide_eq_true hb
              walk_at "v"
              refine w_if (fun hc => ?_) (fun hc => ?_)
              · have hc := of_decide_eq_true hc
                have hcc2 : cc = true := by rw [hcc, decide_eq_true_eq]; omega
                have g2 : atI ((bandL x y most at').map V.int) ((i : Int) + 1) = some (.int (bval x y most at' (i + 1))) := by
                  rw [show (i : Int) + 1 = ((i + 1 : Nat) : Int) by omega]
                  exact atI_n (hb2 (by omega))
                walk_at "v"
                refine hN _ _ ⟨rfl, Same.grow s3 hg, ?_⟩
                rw [upd_same, hw3, hcc2, hvc, List.map_append]
                rfl
              · walk_at "v"
                exact no (by rw [hcc, decide_eq_false_iff_not]; have hc := of_decide_eq_false hc; omega)
            · walk_at "v"
              exact no (by rw [hcc, decide_eq_false_iff_not]; have hb := of_decide_eq_false hb; omega)
          · walk_at "v"
            exact no (by rw [hcc, decide_eq_false_iff_not]; have ha := of_decide_eq_false ha; omega)
      · intro N hN
        have no : cb = false → N [some (V.ref p), some (V.str (tx [c])), some (V.int at'), some (V.str (tx y)), some (V.int i), some (V.int most), some (V.ref f), some (V.int (at' + 1 + i - most)), some (V.ref g)] H2 := fun h =>
          hN _ _ ⟨rfl, s2, by rw [h2, hw2, h]; simp⟩
        walk_at "v"
        refine w_if (fun ha => ?_) (fun ha => ?_)
        · have ha := of_decide_eq_true ha
          walk_at "v"
          refine w_if (fun hb => ?_) (fun hb => ?_)
          · have hb := of_decide_eq_true hb
            walk_at "v"
            refine w_if (fun hc => ?_) (fun hc => ?_)
            · have hc := of_decide_eq_true hc
              have hcb2 : cb = true := by rw [hcb, decide_eq_true_eq]; omega
              have h1f := s2 _ _ h1
              have g2 : atI (((bandL x y most (at' + 1)).take i).map V.int) ((i : Int) - 1) = some (.int (bval x y most (at' + 1) (i - 1))) := by
                rw [show (i : Int) - 1 = ((i - 1 : Nat) : Int) by omega]
                exact atI_n (hb3 (by omega))
              walk_at "v"
              refine hN _ _ ⟨rfl, Same.grow s2 hg, ?_⟩
              rw [upd_same, hw2, hcb2, hvb, List.map_append]
              rfl
            · walk_at "v"
              exact no (by rw [hcb, decide_eq_false_iff_not]; have hc := of_decide_eq_false hc; omega)
          · walk_at "v"
            exact no (by rw [hcb, decide_eq_false_iff_not]; have hb := of_decide_eq_false hb; omega)
        · walk_at "v"
          exact no (by rw [hcb, decide_eq_false_iff_not]; have ha := of_decide_eq_false ha; omega)
    · intro N hN
      have no : ca = false → N [some (V.ref p), some (V.str (tx [c])), some (V.int at'), some (V.str (tx y)), some (V.int i), some (V.int most), some (V.ref f), some (V.int (at' + 1 + i - most)), some (V.ref g)] (upd H1 g (.lst [.int ((most : Int) + 1)])) := fun h =>
        hN _ _ ⟨rfl, same_new hg, by rw [upd_same, hw1, h]; simp⟩
      walk_at "v"
      refine w_if (fun ha => ?_) (fun ha => ?_)
      · walk_at "v"
        refine w_if (fun hb => ?_) (fun hb => ?_)
        · have ha := of_decide_eq_true ha
          have hb := of_decide_eq_true hb
          have g1 : atI y ((at' : Int) + 1 + i - most - 1) = some (y[at' + i - most]'(by omega)) := by
            rw [show (at' : Int) + 1 + i - most - 1 = ((at' + i - most : Nat) : Int) by omega]
            exact atI_n (get_of (by omega))
          walk_at "v"
          rw [un_eq hc (get_of (by omega))]
          walk_at "v"
          have hca2 : ca = true := by rw [hca, decide_eq_true_eq]; omega
          refine hN _ _ ⟨rfl, Same.grow (same_new hg) hg, ?_⟩
          rw [upd_same, hw1, hca2, hva]
          rfl
        · walk_at "v"
          exact no (by rw [hca, decide_eq_false_iff_not]; have hb := of_decide_eq_false hb; omega)
      · walk_at "v"
        exact no (by rw [hca, decide_eq_false_iff_not]; have ha := of_decide_eq_false ha; omega)
  · rintro σ H1 ⟨u, v, z, rfl, s1, h1⟩
    walk_at "v"
    refine q _ _ s1 ?_
    rw [h1, List.take_of_length_le (by rw [bandL_len]; omega)]
def lv (l m : List Nat) (most : Nat) : V := if lev l m ≤ most then .int (lev l m : Nat) else .non
def spWithin : Sp := fun vs H Q _ => ∃ (l m : List Nat) (most : Nat), vs = [.str (tx l), .str (tx m), .int most] ∧ l.length ≤ 1000000 ∧ m.length ≤ 1000000 ∧ ∀ H', Same H H' → Q (lv l m most) H'
theorem ok_distance_within (T : Txt K mg) (c_without_common_ends : Cal P w K mg base 2 "without_common_ends" ["one", "other"] spEnds)
    (c_next_band : Cal P w K mg base 1 "next_band" ["band", "letter", "at", "other"] (spNext K)) : Cal P w K mg base 3 "distance_within" ["one", "other", "most"] spWithin := by
  refine cal0 T.d_distance_within sc_distance_within (by rintro vs H Q E ⟨l, m, most, rfl, _⟩; rfl) (fun cdv f A outer s H vs Q E hr hgd h => ?_)
  obtain ⟨l, m, most, rfl, zl, zm, q⟩ := h
  refine ⟨_, (pss_cons (ps_if (pt_cmpR uGt (pe_callB uAbs (by rfl) T.n_abs (by decide +kernel) (pa_cons (pe_op uSub (pe_callB (kLen K rfl) (by rfl) T.n_len (by decide +kernel) (pa_cons (pv 0) pa_nil)) (pe_callB (kLen K rfl) (by rfl) T.n_len (by decide +kernel) (pa_cons (pv 1) pa_nil))) pa_nil)) (pv 2) (nomark _)) (pss_one (ps_ret pe_non)) pss_nil)
  (pss_cons (ps_asg (pe_g c_without_common_ends hr (by decide) hgd (by rfl) noX (pa_cons (pv 0) (pa_cons (pv 1) pa_nil))) (kTup K rfl (n := 2) (by rfl) (pgs_cons (pg_name (i := 5) sc_distance_within.nd rfl (by first | exact Or.inl rfl | exact Or.inr rfl)) (pgs_cons (pg_name (i := 6) sc_distance_within.nd rfl (by first | exact Or.inl rfl | exact Or.inr rfl)) pgs_nil))))
  (pss_cons (ps_if (pt_cmpR uGt (pe_callB (kLen K rfl) (by rfl) T.n_len (by decide +kernel) (pa_cons (pv 5) pa_nil)) (pe_callB (kLen K rfl) (by rfl) T.n_len (by decide +kernel) (pa_cons (pv 6) pa_nil)) (nomark _)) (pss_one (ps_asg (pe_tup (pa_cons (pv 6) (pa_cons (pv 5) pa_nil))) (kTup K rfl (n := 2) (by rfl) (pgs_cons (pg_name (i := 5) sc_distance_within.nd rfl (by first | exact Or.inl rfl | exact Or.inr rfl)) (pgs_cons (pg_name (i := 6) sc_distance_within.nd rfl (by first | exact Or.inl rfl | exact Or.inr rfl)) pgs_nil))))) pss_nil)
  (pss_cons (ps_set (i := 2) sc_distance_within.nd rfl (by first | exact Or.inl rfl | exact Or.inr rfl) (pe_callB (uMin2 rfl) (by rfl) T.n_min (by decide +kernel) (pa_cons (pv 2) (pa_cons (pe_callB (kLen K rfl) (by rfl) T.n_len (by decide +kernel) (pa_cons (pv 6) pa_nil)) pa_nil))))
  (pss_cons (ps_setLc (i := 3) (own := [("k", 9)]) rfl sc_distance_within.nd rfl rfl (sw_true rfl rfl rfl (by decide +kernel)) (pi_range1 (by rfl) T.n_range (pa_cons (pe_op (kAdd K rfl) (pe_op uMul pe_int (pv 2)) pe_int) pa_nil)) (blkOk_by (own := [("k", 9)]) (N := N_distance_within) (sc := defScope s_distance_within) (by decide +kernel)) (fun _ _ _ _ _ => (pg_name (i := 9) sc_distance_within.nd rfl (by first | exact Or.inl rfl | exact Or.inr rfl))) (fun _ _ _ _ _ => pts_nil) (fun _ _ _ _ _ => (pe_ifExp (pt_chain uLe uLe (pv 2) (pv 9) (pe_op (kAdd K rfl) (pv 2) (pe_callB (kLen K rfl) (by rfl) T.n_len (by decide +kernel) (pa_cons (pv 6) pa_nil)))) (pe_op uSub (pv 9) (pv 2)) (pe_op (kAdd K rfl) (pv 2) pe_int))))
  (pss_cons (ps_for PassesOwn.never rfl (pi_enumS (by rfl) T.n_enumerate (pa_cons (pv 5) pa_nil)) (kTup K rfl (n := 2) (by rfl) (pgs_cons (pg_name (i := 7) sc_distance_within.nd rfl (by first | exact Or.inl rfl | exact Or.inr rfl)) (pgs_cons (pg_name (i := 8) sc_distance_within.nd rfl (by first | exact Or.inl rfl | exact Or.inr rfl)) pgs_nil)))
  (pss_one (ps_set (i := 3) sc_distance_within.nd rfl (by first | exact Or.inl rfl | exact Or.inr rfl) (pe_g c_next_band hr (by decide) hgd (by rfl) noX (pa_cons (pv 3) (pa_cons (pv 8) (pa_cons (pv 7) (pa_cons (pv 6) pa_nil))))))))
  (pss_cons (ps_set (i := 4) sc_distance_within.nd rfl (by first | exact Or.inl rfl | exact Or.inr rfl) (pe_ix (kIx K rfl) (pv 3) (pe_op (kAdd K rfl) (pe_op uSub (pe_callB (kLen K rfl) (by rfl) T.n_len (by decide +kernel) (pa_cons (pv 6) pa_nil)) (pe_callB (kLen K rfl) (by rfl) T.n_len (by decide +kernel) (pa_cons (pv 5) pa_nil))) (pv 2)) (fun _ _ => rfl)))
  (pss_one (ps_ret (pe_ifExp (pt_cmpR uLe (pv 4) (pv 2) (nomark _)) (pv 4) pe_non)))))))))), ?_⟩
  have low := lev_low l m
  walk_at "u0"
  refine w_seq ?_
  walk_at "v"
  refine w_if (fun ha => ?_) (fun ha => ?_)
  · have ha := of_decide_eq_true ha
    walk_at "v"
    have e : lv l m most = .non := by
      unfold lv
      rw [if_neg (by split at ha <;> omega)]
    rw [← e]
    exact q _ (Same.refl _)
  · have ha := of_decide_eq_false ha
    have hd : l.length ≤ most + m.length ∧ m.length ≤ most + l.length := by constructor <;> split at ha <;> omega
    walk_at "u"
    refine ⟨l, m, rfl, by omega, by omega, fun u v p H1 s1 hp huv lu lv' ld => ?_⟩
    walk_at "u"
    refine w_seqI (fun σ H' => ∃ u v : List Nat, σ = [some (V.str (tx l)), some (V.str (tx m)), some (V.int most), none, none, some (V.str (tx u)), some (V.str (tx v)), none, none, none] ∧ Same H H' ∧
      lev u v = lev l m ∧ u.length ≤ v.length ∧ v.length ≤ 1000000 ∧ v.length ≤ most + u.length) ?_ ?_
    · rintro σ H2 ⟨u, v, rfl, s2, huv, luv, zv, hm⟩
      walk_at "u"
      obtain ⟨b, hb⟩ : ∃ b : Nat, b = min most v.length := ⟨_, rfl⟩
      have eb : (if (v.length : Int) < most then (v.length : Int) else (most : Int)) = (b : Int) := by split <;> omega
      rw [eb]
      walk_at "u"
      intro D hD
      refine lc_rg (n := 2 * b + 1) (by omega) (fun i H' => Same H2 H' ∧ H' D = some (.lst (((bandL u v b 0).take i).map V.int))) ⟨same_new hD, upd_same⟩ ?_ ?_
      · rintro i H3 hi ⟨s3, h3⟩
        have fl : ((List.map V.int ((bandL u v b 0).take i))).length = i := by rw [List.length_map, List.length_take, bandL_len]; omega
        have nx : ∀ z : Int, z = bval u v b 0 i → Same H2 (upd H3 D (.lst (List.map V.int ((bandL u v b 0).take i) ++ [.int z]))) ∧
            upd H3 D (.lst (List.map V.int ((bandL u v b 0).take i) ++ [.int z])) D = some (.lst (((bandL u v b 0).take (i + 1)).map V.int)) := fun z hz => by
          refine ⟨Same.grow s3 hD, ?_⟩
          rw [upd_same, take_more (bandL_at u v (by omega)), List.map_append, hz]
          rfl
        walk_at "v"
        refine w_if (fun ha => ?_) (fun ha => ?_)
        · walk_at "v"
          refine w_if (fun hb => ?_) (fun hb => ?_)
          · walk_at "v"
            refine nx _ ?_
            rw [bval_0 _ _ _ _ (by omega), if_pos (by have := of_decide_eq_true ha; have := of_decide_eq_true hb; omega)]
          · walk_at "v"
            refine nx _ ?_
            rw [bval_0 _ _ _ _ (by omega), if_neg (by have := of_decide_eq_false hb; omega)]
        · walk_at "v"
          refine nx _ ?_
          rw [bval_0 _ _ _ _ (by omega), if_neg (by have := of_decide_eq_false ha; omega)]
      · rintro H3 ⟨s3, h3⟩
        rw [List.take_of_length_le (by rw [bandL_len]; omega)] at h3
        walk_at "u"
        refine w_seq ?_
        walk_at "v"
        refine for_etx (fun i σ H' => ∃ x y z r, σ = [some (V.str (tx l)), some (V.str (tx m)), some (V.int b), some (V.ref r), x, some (V.str (tx u)), some (V.str (tx v)), y, z, none] ∧ Same H3 H' ∧
          H' r = some (.lst ((bandL u v b i).map V.int))) ⟨_, _, _, _, rfl, Same.refl _, h3⟩ ?_ ?_
        · rintro i c T σ H4 hi ⟨x, y, z, r, rfl, s4, h4⟩ hT
          walk_at "v"
          refine ⟨r, u, v, b, i, c, rfl, by walk_at "vget", hi, by omega, by omega, by omega, fun g H5 s5 h5 => ?_⟩
          walk_at "v"
          exact ⟨_, _, _, _, rfl, s4.trans ((same_new hT).trans s5), h5⟩
        · rintro σ H4 ⟨x, y, z, r, rfl, s4, h4⟩
          have be := band_end u v luv (by omega : v.length ≤ b + u.length)
          have g1 : atI ((bandL u v b u.length).map V.int) ((v.length : Int) - u.length + b) = some (.int ((min (lev u v) (b + 1) : Nat) : Int)) := by
            rw [show (v.length : Int) - u.length + b = ((v.length - u.length + b : Nat) : Int) by omega]
            refine atI_n ?_
            rw [List.getElem?_map, bandL_at u v (by omega), be]
            rfl
          have up := lev_up u v
          walk_at "v"
          have fin : ∀ H', Same H4 H' → Q (lv l m most) H' := fun H' s5 => q H' (s2.trans (s3.trans (s4.trans s5)))
          unfold lv at fin
          refine w_if (fun ha => ?_) (fun ha => ?_)
          · have ha := of_decide_eq_true ha
            walk_at "v"
            rw [if_pos (by omega), ← huv, show lev u v = min (lev u v) (b + 1) by omega] at fin
            exact fin _ (Same.refl _)
          · have ha := of_decide_eq_false ha
            walk_at "v"
            rw [if_neg (by omega)] at fin
            exact fin _ (Same.refl _)
    · intro N hN
      walk_at "v"
      refine w_if (fun hb => ?_) (fun hb => ?_)
      · have hb := of_decide_eq_true hb
        walk_at "v"
        refine ⟨by walk_at "sz", fun g hg => ?_⟩
        walk_at "v"
        exact hN _ _ ⟨v, u, rfl, Same.new s1 hg, by rw [lev_sym]; exact huv, by omega, by omega, by omega⟩
      · have hb := of_decide_eq_false hb
        walk_at "v"
        exact hN _ _ ⟨u, v, rfl, s1, huv, by omega, by omega, by omega⟩
def spLev : Sp := fun vs H Q _ => ∃ l m : List Nat, vs = [.str (tx l), .str (tx m)] ∧ l.length ≤ 1000000 ∧ m.length ≤ 1000000 ∧ ∀ H', Same H H' → Q (.int (lev l m : Nat)) H'
theorem ok_levenshtein (T : Txt K mg) (c_distance_within : Cal P w K mg base 3 "distance_within" ["one", "other", "most"] spWithin) : Cal P w K mg base 4 "levenshtein" ["one", "other"] spLev := by
  refine cal0 T.d_levenshtein sc_levenshtein (by rintro vs H Q E ⟨l, m, rfl, _⟩; rfl) (fun cdv f A outer s H vs Q E hr hgd h => ?_)
  obtain ⟨l, m, rfl, zl, zm, q⟩ := h
  refine ⟨_, (pss_cons (ps_set (i := 2) sc_levenshtein.nd rfl (by first | exact Or.inl rfl | exact Or.inr rfl) (pe_op (kAdd K rfl) (pe_callB uAbs (by rfl) T.n_abs (by decide +kernel) (pa_cons (pe_op uSub (pe_callB (kLen K rfl) (by rfl) T.n_len (by decide +kernel) (pa_cons (pv 0) pa_nil)) (pe_callB (kLen K rfl) (by rfl) T.n_len (by decide +kernel) (pa_cons (pv 1) pa_nil))) pa_nil)) pe_int))
  (pss_cons (ps_set (i := 3) sc_levenshtein.nd rfl (by first | exact Or.inl rfl | exact Or.inr rfl) (pe_g c_distance_within hr (by decide) hgd (by rfl) noX (pa_cons (pv 0) (pa_cons (pv 1) (pa_cons (pv 2) pa_nil)))))
  (pss_cons (ps_while PassesOwn.never (pt_cmpR uIs (pv 3) pe_non (nomark _))
  (pss_cons (ps_set (i := 2) sc_levenshtein.nd rfl (by first | exact Or.inl rfl | exact Or.inr rfl) (pe_op uMul pe_int (pv 2)))
  (pss_one (ps_set (i := 3) sc_levenshtein.nd rfl (by first | exact Or.inl rfl | exact Or.inr rfl) (pe_g c_distance_within hr (by decide) hgd (by rfl) noX (pa_cons (pv 0) (pa_cons (pv 1) (pa_cons (pv 2) pa_nil))))))))
  (pss_one (ps_ret (pv 3)))))), ?_⟩
  have up := lev_up l m
  walk_at "v0"
  obtain ⟨b, hb, hb2⟩ : ∃ b : Nat, (if (l.length : Int) - m.length < 0 then -((l.length : Int) - m.length) else (l.length : Int) - m.length) + 1 = b ∧ (1 ≤ b ∧ b ≤ 1000001) := by
    split
    · exact ⟨m.length - l.length + 1, by omega, by omega⟩
    · exact ⟨l.length - m.length + 1, by omega, by omega⟩
  rw [hb]
  refine ⟨l, m, b, rfl, zl, zm, fun H1 s1 => ?_⟩
  walk_at "v"
  refine ⟨fun n σ H' => ∃ b : Nat, n = lev l m - b ∧ 1 ≤ b ∧ b ≤ 4000000 ∧ Same H H' ∧ σ = [some (V.str (tx l)), some (V.str (tx m)), some (V.int b), some (lv l m b)], ⟨_, b, rfl, by omega, by omega, s1, rfl⟩, ?_⟩
  rintro n σ H2 ⟨b, rfl, b1, b2, s2, rfl⟩
  unfold lv
  by_cases h : lev l m ≤ b
  · rw [if_pos h]
    walk_at "v"
    exact q _ s2
  · rw [if_neg h]
    walk_at "v"
    refine ⟨_, fun σ' H' z => ⟨lev l m - 2 * b, by omega, z⟩, ?_⟩
    walk_at "v"
    refine ⟨l, m, 2 * b, rfl, zl, zm, fun H3 s3 => ?_⟩
    walk_at "v"
    exact ⟨2 * b, rfl, by omega, by omega, s2.trans s3, rfl⟩
end
end K74
set_option Elab.async false
set_option linter.all false
set_option maxRecDepth 100000
set_option maxHeartbeats 4000000
namespace K74
open PySem PySem.Spec PyProof.Rows L2 SL Lv
local macro_rules | `(tactic| walk_at "sz") => `(tactic| first
  | assumption
  | omega
  | (simp only [List.length_cons, List.length_nil, List.length_append, List.length_map, List.length_take, List.length_drop, List.length_reverse, List.length_replicate, List.length_range, tx_len, sizeLine_eq, CMul, CDiv, Nat.reduceAdd, Nat.reduceLeDiff]; first | done | omega)
  | decide)
local macro_rules | `(tactic| walk_at "ne") => `(tactic| first
  | assumption
  | exact Ne.symm (by assumption)
  | (refine ne_of_none (H := ?H0) (o := ?oo) ?hh ?hn; (case hn => assumption); (case hh => walk_at "hget"))
  | (refine Ne.symm (ne_of_none (H := ?H0) (o := ?oo) ?hh ?hn); (case hn => assumption); (case hh => walk_at "hget")))
local macro_rules | `(tactic| walk_at "hget") => `(tactic| first
  | assumption
  | exact upd_same
  | (refine (upd_ne ?n).trans ?g; (case n => walk_at "ne"); (case g => walk_at "hget"))
  | (refine fr_get (p := ?pp) (H := ?H0) ?f ?g ?n; (case f => assumption); (case g => walk_at "hget"); (case n => walk_at "ne"))
  | (refine same_get (H := ?H0) ?f ?g; (case f => assumption); (case g => walk_at "hget")))
local macro_rules | `(tactic| walk_at "vget") => `(tactic| first
  | assumption
  | (refine SqL.of ?g; (case g => walk_at "hget"))
  | (refine SqT.of ?g; (case g => walk_at "hget"))
  | (refine sql_new ?n ?g; (case n => assumption); (case g => walk_at "vget"))
  | (refine sqt_new ?n ?g; (case n => assumption); (case g => walk_at "vget"))
  | (refine sql_upd ?n ?g; (case n => walk_at "ne"); (case g => walk_at "vget"))
  | (refine sqt_upd ?n ?g; (case n => walk_at "ne"); (case g => walk_at "vget"))
  | (refine Same.seq (H := ?H0) ?f ?g; (case f => assumption); (case g => walk_at "vget"))
  | (refine Same.seqT (H := ?H0) ?f ?g; (case f => assumption); (case g => walk_at "vget"))
  | (refine fr_sql (b := ?pp) (H := ?H0) ?f ?g ?n; (case f => assumption); (case g => walk_at "vget"); (case n => walk_at "ne"))
  | (refine fr_sqt (b := ?pp) (H := ?H0) ?f ?g ?n; (case f => assumption); (case g => walk_at "vget"); (case n => walk_at "ne")))
local macro_rules | `(tactic| walk_at "at") => `(tactic| first
  | assumption
  | rfl
  | (refine atI_n ?h; (case h => first | assumption | rfl))
  | (refine atI_i ?h0 ?h; (case h0 => omega); (case h => first | assumption | rfl)))
local macro_rules | `(tactic| walk_at "v1") => `(tactic| first
  | with_reducible refine w_seq ?_
  | with_reducible refine w_enx ?_
  | with_reducible refine w_ert ?_
  | with_reducible refine w_asg ?_
  | ((with_reducible refine w_var (v := ?vv) ?h ?_); (case h => exact rfl))
  | with_reducible refine w_op ?_
  | with_reducible refine w_c ?_
  | with_reducible refine w_cons ?_
  | with_reducible refine w_nil ?_
  | with_reducible refine w_cb ?_
  | with_reducible refine w_call ?_
  | with_reducible refine w_k ?_
  | with_reducible refine w_i ?_
  | with_reducible refine w_two ?_
  | ((with_reducible refine w_name ?_); (try simp only [List.set_cons_zero, List.set_cons_succ]))
  | with_reducible refine w_ifS ?_
  | with_reducible refine w_ret ?_
  | with_reducible refine w_drop ?_
  | with_reducible refine w_test ?_
  | with_reducible refine w_B ?_
  | with_reducible refine iteT ?_
  | with_reducible refine iteF ?_
  | with_reducible refine w_same ?_
  | ((with_reducible refine w_ifT ?h ?_); (case h => first | rfl | assumption))
  | ((with_reducible refine w_ifF ?h ?_); (case h => first | rfl | assumption))
  | ((with_reducible refine w_diff ?_ ?h); (case h => decide +kernel))
  | ((with_reducible refine w_wp ?h ?_); (case h => rfl); (try simp only [wipe, List.set_cons_zero, List.set_cons_succ, List.foldl_cons, List.foldl_nil]))
  | ((with_reducible refine w_acc (acc := ?aa) ?h ?_ ?z); (case h => walk_at "hget"); (case z => walk_at "sz"))
  | with_reducible refine w_addI ?_
  | with_reducible refine w_subI ?_
  | with_reducible refine w_lt ?_
  | with_reducible refine w_le ?_
  | with_reducible refine w_gt ?_
  | with_reducible refine w_ge ?_
  | with_reducible refine w_eqI ?_
  | with_reducible refine w_neI ?_
  | with_reducible refine w_eqS ?_
  | with_reducible refine w_neS ?_
  | ((with_reducible refine w_mulI ?_ ?h); (case h => walk_at "sz"))
  | ((with_reducible refine w_divI ?_ ?h); (case h => walk_at "sz"))
  | ((with_reducible refine w_addS ?_ ?h); (case h => walk_at "sz"))
  | ((with_reducible refine w_mulS ?_ ?h); (case h => walk_at "sz"))
  | ((with_reducible refine w_ixL (xs := ?xx) (v := ?vv) ?h ?i ?_); (case h => walk_at "vget"); (case i => walk_at "at"))
  | ((with_reducible refine w_ixT (xs := ?xx) (v := ?vv) ?h ?i ?_); (case h => walk_at "vget"); (case i => walk_at "at"))
  | ((with_reducible refine w_ixS (c := ?cc) ?i ?_ ?h); (case i => walk_at "at"); (case h => walk_at "sz"))
  | ((with_reducible refine w_lenS' ?_ ?h); (case h => walk_at "sz"))
  | ((with_reducible refine w_lenL' (xs := ?xx) ?h ?_); (case h => walk_at "vget"))
  | ((with_reducible refine w_lenT' (xs := ?xx) ?h ?_); (case h => walk_at "vget"))
  | with_reducible refine w_isnN ?_
  | with_reducible refine w_isnI ?_
  | with_reducible refine w_isnS ?_
  | with_reducible refine w_isnR ?_
  | with_reducible refine w_isnB ?_
  | with_reducible refine w_isoN ?_
  | with_reducible refine w_isoI ?_
  | with_reducible refine w_isoS ?_
  | with_reducible refine w_isoR ?_
  | with_reducible refine w_isoB ?_
  | with_reducible refine w_abs ?_
  | with_reducible refine w_int ?_
  | with_reducible refine w_intB ?_
  | with_reducible refine w_min2 ?_
  | with_reducible refine w_max2 ?_
  | with_reducible refine w_min3 ?_
  | with_reducible refine w_sl ?_
  | with_reducible refine w_np ?_
  | with_reducible refine w_part ?_
  | ((with_reducible refine w_sStN ?_ ?h); (case h => walk_at "sz"))
  | ((with_reducible refine w_sSfN ?_ ?h); (case h => walk_at "sz"))
  | ((with_reducible refine w_sSt ?_ ?h); (case h => walk_at "sz"))
  | ((with_reducible refine w_sSf ?_ ?h); (case h => walk_at "sz"))
  | with_reducible refine w_and ?_
  | with_reducible refine w_or ?_
  | with_reducible refine w_not ?_
  | with_reducible refine w_andV ?_
  | with_reducible refine w_orV ?_
  | with_reducible refine w_notV ?_
  | with_reducible refine w_ifE ?_
  | with_reducible refine w_tup ?_
  | with_reducible refine w_lst ?_
  | with_reducible refine w_chain ?_
  | ((with_reducible refine w_par ?_); (try simp only [List.set_cons_zero, List.set_cons_succ]))
  | with_reducible refine w_un ?_
  | with_reducible refine w_neg ?_
  | with_reducible refine w_next ?_
  | with_reducible refine w_ebk ?_
  | with_reducible refine w_ect ?_
  | with_reducible refine w_for ?_
  | with_reducible refine w_lc ?_
  | with_reducible refine w_yes ?_
  | with_reducible refine w_il ?_
  | with_reducible refine w_it ?_
  | with_reducible refine w_isx ?_
  | with_reducible refine w_ir1 ?_
  | with_reducible refine w_ir2 ?_
  | with_reducible refine w_ies ?_
  | with_reducible refine w_s1 ?_
  | with_reducible refine w_s1l ?_
  | ((with_reducible refine w_r1 ?_ ?h); (case h => walk_at "sz"))
  | ((with_reducible refine w_r2 ?_ ?h); (case h => walk_at "sz"))
  | ((with_reducible refine w_l1 (xs := ?xx) ?h ?_); (case h => walk_at "vget"))
  | ((with_reducible refine w_t1 (xs := ?xx) ?h ?_); (case h => walk_at "vget"))
  | ((with_reducible refine w_isL (xs := ?xx) ?h ?_); (case h => walk_at "vget"))
  | with_reducible refine w_isS ?_
  | ((with_reducible refine w_app (xs := ?xx) ?h ?_ ?z); (case h => walk_at "hget"); (case z => walk_at "sz"))
  | with_reducible refine w_inC ?_
  | with_reducible refine w_rev ?_
  | ((with_reducible refine w_rev1S ?_ ?h); (case h => walk_at "sz"))
  | with_reducible refine w_lrg ?_
  | with_reducible refine w_brk ?_
  | with_reducible refine w_cont ?_
  | with_reducible refine w_retN ?_
  | with_reducible refine w_bm ?_
  | with_reducible refine w_bm0 ?_
  | with_reducible refine w_m1 ?_
  | with_reducible refine w_sub ?_
  | ((with_reducible refine w_setL (xs := ?xx) (j := ?jj) ?h ?i ?_); (case h => walk_at "hget"); (case i => first | rfl | assumption); (try simp only [Int.reduceToNat, List.set_cons_zero, List.set_cons_succ]))
  | with_reducible refine w_ip ?_
  | with_reducible refine w_gnil ?_
  | with_reducible refine w_gcons ?_
  | ((with_reducible refine w_gL (xs := ?xx) ?h ?_ ?n); (case h => walk_at "vget"); (case n => rfl))
  | ((with_reducible refine w_gT (xs := ?xx) ?h ?_ ?n); (case h => walk_at "vget"); (case n => rfl))
  | ((with_reducible refine w_aug (v := ?vv) ?h ?_); (case h => exact rfl)))
local macro_rules | `(tactic| walk_at "v") => `(tactic| repeat walk_at "v1")
local macro_rules | `(tactic| walk_at "v0") => `(tactic| (simp only [L2.start, cxK, ends_rt, List.map_cons, List.map_nil, List.length_cons, List.length_nil, Nat.reduceAdd, Nat.reduceSub, List.replicate_succ, List.replicate_zero, List.append_nil, List.cons_append, List.nil_append]; walk_at "v"))
local macro_rules | `(tactic| walk_at "u1") => `(tactic| first
  | with_reducible refine w_seqA ?_
  | with_reducible refine w_seqD ?_
  | with_reducible refine w_seqP ?_
  | with_reducible refine w_seqG ?_
  | ((fail_if_success (with_reducible refine w_seq ?_)); walk_at "v1"))
local macro_rules | `(tactic| walk_at "u") => `(tactic| repeat walk_at "u1")
local macro_rules | `(tactic| walk_at "u0") => `(tactic| (simp only [L2.start, cxK, ends_rt, List.map_cons, List.map_nil, List.length_cons, List.length_nil, Nat.reduceAdd, Nat.reduceSub, List.replicate_succ, List.replicate_zero, List.append_nil, List.cons_append, List.nil_append]; walk_at "u"))
local macro_rules | `(tactic| walk_at "t1") => `(tactic| ((fail_if_success (with_reducible refine w_seq ?_)); walk_at "v1"))
local macro_rules | `(tactic| walk_at "t") => `(tactic| repeat walk_at "t1")

section
variable {P : Program} {w : World} {K : PySem.W.Frag} {mg : Str → Option Value} {base : Heap}
def spDist : Sp := fun vs H Q _ => ∃ l m : List Nat, vs = [.str (tx l), .str (tx m)] ∧ l.length ≤ 100000 ∧ m.length ≤ 100000 ∧ Let l ∧ Let m ∧ ∀ H', Same H H' → Q (.int (lev l m : Nat)) H'
theorem ok_distance (T : Txt K mg) (c_check_text : Cal P w K mg base 2 "check_text" ["text"] (spCheckD K (errAt mg "InvalidText"))) (c_levenshtein : Cal P w K mg base 4 "levenshtein" ["one", "other"] spLev) : Cal P w K mg base 5 "distance" ["one", "other"] spDist := by
  refine cal0 T.d_distance sc_distance (by rintro vs H Q E ⟨l, m, rfl, _⟩; rfl) (fun cdv f A outer s H vs Q E hr hgd h => ?_)
  obtain ⟨l, m, rfl, zl, zm, hl, hm, q⟩ := h
  refine ⟨_, (pss_cons (ps_expr (pe_g c_check_text hr (by decide) hgd (by rfl) noX (pa_cons (pv 0) pa_nil)))
  (pss_cons (ps_expr (pe_g c_check_text hr (by decide) hgd (by rfl) noX (pa_cons (pv 1) pa_nil)))
  (pss_one (ps_ret (pe_g c_levenshtein hr (by decide) hgd (by rfl) noX (pa_cons (pv 0) (pa_cons (pv 1) pa_nil))))))), ?_⟩
  walk_at "v0"
  refine ⟨_, true, rfl, .inl ⟨l, rfl, zl, (decide_eq_true hl).symm⟩, fun _ H1 s1 => ?_, fun h => nomatch h⟩
  walk_at "v"
  refine ⟨_, true, rfl, .inl ⟨m, rfl, zm, (decide_eq_true hm).symm⟩, fun _ H2 s2 => ?_, fun h => nomatch h⟩
  walk_at "v"
  refine ⟨l, m, rfl, by omega, by omega, fun H3 s3 => ?_⟩
  exact q _ (s1.trans (s2.trans s3))
/-- refused with v -/
def Ref (C : Addr) (E : XK) (H : Hp) (v : V) : Prop := ∀ H' d, Same H H' → H' d = some (xdG v) → E (.ref C) (some d) H'
def spGapD (K : PySem.W.Frag) (C : Addr) : Sp := fun vs H Q E => ∃ a l m b ba bl bm bb, vs = [a, l, m, b] ∧ IsLg K H a ba ∧ IsTx K H l bl ∧ IsTx K H m bm ∧ IsLg K H b bb ∧
  (ba = false → Ref C E H a) ∧ (ba = true → bl = false → Ref C E H l) ∧ (ba = true → bl = true → bm = false → Ref C E H m) ∧ (ba = true → bl = true → bm = true → bb = false → Ref C E H b) ∧
  (ba = true → bl = true → bm = true → bb = true → (∃ x y, IsSmall K H a x y) ∧ (∃ x y, IsSmall K H b x y) ∧ (∃ x, l = .str (tx x) ∧ x.length ≤ 10000 ∧ Let x) ∧ (∃ x, m = .str (tx x) ∧ x.length ≤ 10000 ∧ Let x) ∧ ∀ i H', Same H H' → Q (.int i) H')
theorem fn_gap_price (T : Txt K mg) (c_is_lag : Cal P w K mg base 2 "is_lag" ["value"] (spIsLg K)) (c_check_text : Cal P w K mg base 2 "check_text" ["text"] (spCheckD K (errAt mg "InvalidText"))) (c_distance : Cal P w K mg base 5 "distance" ["one", "other"] spDist)
    (f : Addr) (fd : FuncData) (F : Fun K "gap_price" "gap_price" s_gap_price f fd) : FnG P w K mg base 6 f fd ["before", "left", "right", "behind"] (spGapD K (errAt mg "InvalidText")) := by
  refine fnG_of F sc_gap_price (by rintro vs H Q E ⟨a, l, m, b, ba, bl, bm, bb, rfl, _⟩; rfl) (fun cdv A outer s H vs Q E hr hgd h => ?_)
  obtain ⟨a, l, m, b, ba, bl, bm, bb, rfl, ha, hl, hm, hb, q1, q2, q3, q4, q5⟩ := h
  refine ⟨_, (pss_cons (ps_if (pt_not (pt_val (pe_g c_is_lag hr (by decide) hgd (by rfl) (passAt tk_def) (pa_cons (pv 0) pa_nil)))) (pss_one (ps_rzA mg T.x_InvalidText rfl (by rfl) tk_def hr (by rfl) (pa_cons (pv 0) pa_nil))) pss_nil)
  (pss_cons (ps_expr (pe_g c_check_text hr (by decide) hgd (by rfl) (passAt tk_def) (pa_cons (pv 1) pa_nil)))
  (pss_cons (ps_expr (pe_g c_check_text hr (by decide) hgd (by rfl) (passAt tk_def) (pa_cons (pv 2) pa_nil)))
  (pss_cons (ps_if (pt_not (pt_val (pe_g c_is_lag hr (by decide) hgd (by rfl) (passAt tk_def) (pa_cons (pv 3) pa_nil)))) (pss_one (ps_rzA mg T.x_InvalidText rfl (by rfl) tk_def hr (by rfl) (pa_cons (pv 3) pa_nil))) pss_nil)
  (pss_one (ps_ret (pe_g c_distance hr (by decide) hgd (by rfl) (passAt tk_def) (pa_cons (pe_op (kAdd K rfl) (pe_op (kAdd K rfl) (pe_ix (kIx K rfl) (pv 0) pe_int (fun _ _ => rfl)) (pv 1)) (pe_ix (kIx K rfl) (pv 3) pe_int (fun _ _ => rfl))) (pa_cons (pe_op (kAdd K rfl) (pe_op (kAdd K rfl) (pe_ix (kIx K rfl) (pv 0) pe_int (fun _ _ => rfl)) (pv 2)) (pe_ix (kIx K rfl) (pv 3) pe_int (fun _ _ => rfl))) pa_nil))))))))), ?_⟩
  walk_at "v0"
  refine ⟨a, ba, rfl, ha, fun H1 s1 => ?_⟩
  cases ba with
  | false =>
    walk_at "v"
    refine w_rz ?_
    walk_at "v"
    refine w_one fun d hd => ?_
    exact q1 rfl _ d (Same.new s1 hd) upd_same
  | true =>
    walk_at "v"
    refine ⟨l, bl, rfl, hl.mono s1, fun hbl H2 s2 => ?_, fun hbl H2 d s2 h2 => q2 rfl hbl H2 d (s1.trans s2) h2⟩
    subst hbl
    walk_at "v"
    have S2 := s1.trans s2
    refine ⟨m, bm, rfl, hm.mono S2, fun hbm H3 s3 => ?_, fun hbm H3 d s3 h3 => q3 rfl rfl hbm H3 d (S2.trans s3) h3⟩
    subst hbm
    walk_at "v"
    have S3 := S2.trans s3
    refine ⟨b, bb, rfl, hb.mono S3, fun H4 s4 => ?_⟩
    have S4 := S3.trans s4
    cases bb with
    | false =>
      walk_at "v"
      refine w_rz ?_
      walk_at "v"
      refine w_one fun d hd => ?_
      exact q4 rfl rfl rfl rfl _ d (Same.new S4 hd) upd_same
    | true =>
      obtain ⟨⟨x, y, p, rfl, hp, zx, zy, lx, ly⟩, ⟨u, v, r, rfl, hp2, zu, zv, lu, lv'⟩, ⟨l', rfl, zl, ll⟩, ⟨m', rfl, zm, lm⟩, q⟩ := q5 rfl rfl rfl rfl
      have hp' := S4 _ _ hp
      have hp2' := S4 _ _ hp2
      walk_at "v"
      refine ⟨x ++ l' ++ v, y ++ m' ++ u, rfl, by walk_at "sz", by walk_at "sz", (lx.app ll).app lv', (ly.app lm).app lu, fun H5 s5 => ?_⟩
      exact q _ _ (S4.trans s5)
end
end K74
set_option Elab.async false
set_option linter.all false
set_option maxRecDepth 100000
set_option maxHeartbeats 4000000
namespace K74
open PySem PySem.Spec PyProof.Rows L2 SL Lv
local macro_rules | `(tactic| walk_at "sz") => `(tactic| first
  | assumption
  | omega
  | (simp only [List.length_cons, List.length_nil, List.length_append, List.length_map, List.length_take, List.length_drop, List.length_reverse, List.length_replicate, List.length_range, tx_len, sizeLine_eq, CMul, CDiv, Nat.reduceAdd, Nat.reduceLeDiff]; first | done | omega)
  | decide)
local macro_rules | `(tactic| walk_at "ne") => `(tactic| first
  | assumption
  | exact Ne.symm (by assumption)
  | (refine ne_of_none (H := ?H0) (o := ?oo) ?hh ?hn; (case hn => assumption); (case hh => walk_at "hget"))
  | (refine Ne.symm (ne_of_none (H := ?H0) (o := ?oo) ?hh ?hn); (case hn => assumption); (case hh => walk_at "hget")))
local macro_rules | `(tactic| walk_at "hget") => `(tactic| first
  | assumption
  | exact upd_same
  | (refine (upd_ne ?n).trans ?g; (case n => walk_at "ne"); (case g => walk_at "hget"))
  | (refine fr_get (p := ?pp) (H := ?H0) ?f ?g ?n; (case f => assumption); (case g => walk_at "hget"); (case n => walk_at "ne"))
  | (refine same_get (H := ?H0) ?f ?g; (case f => assumption); (case g => walk_at "hget")))
local macro_rules | `(tactic| walk_at "vget") => `(tactic| first
  | assumption
  | (refine SqL.of ?g; (case g => walk_at "hget"))
  | (refine SqT.of ?g; (case g => walk_at "hget"))
  | (refine sql_new ?n ?g; (case n => assumption); (case g => walk_at "vget"))
  | (refine sqt_new ?n ?g; (case n => assumption); (case g => walk_at "vget"))
  | (refine sql_upd ?n ?g; (case n => walk_at "ne"); (case g => walk_at "vget"))
  | (refine sqt_upd ?n ?g; (case n => walk_at "ne"); (case g => walk_at "vget"))
  | (refine Same.seq (H := ?H0) ?f ?g; (case f => assumption); (case g => walk_at "vget"))
  | (refine Same.seqT (H := ?H0) ?f ?g; (case f => assumption); (case g => walk_at "vget"))
  | (refine fr_sql (b := ?pp) (H := ?H0) ?f ?g ?n; (case f => assumption); (case g => walk_at "vget"); (case n => walk_at "ne"))
  | (refine fr_sqt (b := ?pp) (H := ?H0) ?f ?g ?n; (case f => assumption); (case g => walk_at "vget"); (case n => walk_at "ne")))
local macro_rules | `(tactic| walk_at "at") => `(tactic| first
  | assumption
  | rfl
  | (refine atI_n ?h; (case h => first | assumption | rfl))
  | (refine atI_i ?h0 ?h; (case h0 => omega); (case h => first | assumption | rfl)))
local macro_rules | `(tactic| walk_at "v1") => `(tactic| first
  | with_reducible refine w_seq ?_
  | with_reducible refine w_enx ?_
  | with_reducible refine w_ert ?_
  | with_reducible refine w_asg ?_
  | ((with_reducible refine w_var (v := ?vv) ?h ?_); (case h => exact rfl))
  | with_reducible refine w_op ?_
  | with_reducible refine w_c ?_
  | with_reducible refine w_cons ?_
  | with_reducible refine w_nil ?_
  | with_reducible refine w_cb ?_
  | with_reducible refine w_call ?_
  | with_reducible refine w_k ?_
  | with_reducible refine w_i ?_
  | with_reducible refine w_two ?_
  | ((with_reducible refine w_name ?_); (try simp only [List.set_cons_zero, List.set_cons_succ]))
  | with_reducible refine w_ifS ?_
  | with_reducible refine w_ret ?_
  | with_reducible refine w_drop ?_
  | with_reducible refine w_test ?_
  | with_reducible refine w_B ?_
  | with_reducible refine iteT ?_
  | with_reducible refine iteF ?_
  | with_reducible refine w_same ?_
  | ((with_reducible refine w_ifT ?h ?_); (case h => first | rfl | assumption))
  | ((with_reducible refine w_ifF ?h ?_); (case h => first | rfl | assumption))
  | ((with_reducible refine w_diff ?_ ?h); (case h => decide +kernel))
  | ((with_reducible refine w_wp ?h ?_); (case h => rfl); (try simp only [wipe, List.set_cons_zero, List.set_cons_succ, List.foldl_cons, List.foldl_nil]))
  | ((with_reducible refine w_acc (acc := ?aa) ?h ?_ ?z); (case h => walk_at "hget"); (case z => walk_at "sz"))
  | with_reducible refine w_addI ?_
  | with_reducible refine w_subI ?_
  | with_reducible refine w_lt ?_
  | with_reducible refine w_le ?_
  | with_reducible refine w_gt ?_
  | with_reducible refine w_ge ?_
  | with_reducible refine w_eqI ?_
  | with_reducible refine w_neI ?_
  | with_reducible refine w_eqS ?_
  | with_reducible refine w_neS ?_
  | ((with_reducible refine w_mulI ?_ ?h); (case h => walk_at "sz"))
  | ((with_reducible refine w_divI ?_ ?h); (case h => walk_at "sz"))
  | ((with_reducible refine w_addS ?_ ?h); (case h => walk_at "sz"))
  | ((with_reducible refine w_mulS ?_ ?h); (case h => walk_at "sz"))
  | ((with_reducible refine w_ixL (xs := ?xx) (v := ?vv) ?h ?i ?_); (case h => walk_at "vget"); (case i => walk_at "at"))
  | ((with_reducible refine w_ixT (xs := ?xx) (v := ?vv) ?h ?i ?_); (case h => walk_at "vget"); (case i => walk_at "at"))
  | ((with_reducible refine w_ixS (c := ?cc) ?i ?_ ?h); (case i => walk_at "at"); (case h => walk_at "sz"))
  | ((with_reducible refine w_lenS' ?_ ?h); (case h => walk_at "sz"))
  | ((with_reducible refine w_lenL' (xs := ?xx) ?h ?_); (case h => walk_at "vget"))
  | ((with_reducible refine w_lenT' (xs := ?xx) ?h ?_); (case h => walk_at "vget"))
  | with_reducible refine w_isnN ?_
  | with_reducible refine w_isnI ?_
  | with_reducible refine w_isnS ?_
  | with_reducible refine w_isnR ?_
  | with_reducible refine w_isnB ?_
  | with_reducible refine w_isoN ?_
  | with_reducible refine w_isoI ?_
  | with_reducible refine w_isoS ?_
  | with_reducible refine w_isoR ?_
  | with_reducible refine w_isoB ?_
  | with_reducible refine w_abs ?_
  | with_reducible refine w_int ?_
  | with_reducible refine w_intB ?_
  | with_reducible refine w_min2 ?_
  | with_reducible refine w_max2 ?_
  | with_reducible refine w_min3 ?_
  | with_reducible refine w_sl ?_
  | with_reducible refine w_np ?_
  | with_reducible refine w_part ?_
  | ((with_reducible refine w_sStN ?_ ?h); (case h => walk_at "sz"))
  | ((with_reducible refine w_sSfN ?_ ?h); (case h => walk_at "sz"))
  | ((with_reducible refine w_sSt ?_ ?h); (case h => walk_at "sz"))
  | ((with_reducible refine w_sSf ?_ ?h); (case h => walk_at "sz"))
  | with_reducible refine w_and ?_
  | with_reducible refine w_or ?_
  | with_reducible refine w_not ?_
  | with_reducible refine w_andV ?_
  | with_reducible refine w_orV ?_
  | with_reducible refine w_notV ?_
  | with_reducible refine w_ifE ?_
  | with_reducible refine w_tup ?_
  | with_reducible refine w_lst ?_
  | with_reducible refine w_chain ?_
  | ((with_reducible refine w_par ?_); (try simp only [List.set_cons_zero, List.set_cons_succ]))
  | with_reducible refine w_un ?_
  | with_reducible refine w_neg ?_
  | with_reducible refine w_next ?_
  | with_reducible refine w_ebk ?_
  | with_reducible refine w_ect ?_
  | with_reducible refine w_for ?_
  | with_reducible refine w_lc ?_
  | with_reducible refine w_yes ?_
  | with_reducible refine w_il ?_
  | with_reducible refine w_it ?_
  | with_reducible refine w_isx ?_
  | with_reducible refine w_ir1 ?_
  | with_reducible refine w_ir2 ?_
  | with_reducible refine w_ies ?_
  | with_reducible refine w_s1 ?_
  | with_reducible refine w_s1l ?_
  | ((with_reducible refine w_r1 ?_ ?h); (case h => walk_at "sz"))
  | ((with_reducible refine w_r2 ?_ ?h); (case h => walk_at "sz"))
  | ((with_reducible refine w_l1 (xs := ?xx) ?h ?_); (case h => walk_at "vget"))
  | ((with_reducible refine w_t1 (xs := ?xx) ?h ?_); (case h => walk_at "vget"))
  | ((with_reducible refine w_isL (xs := ?xx) ?h ?_); (case h => walk_at "vget"))
  | with_reducible refine w_isS ?_
  | ((with_reducible refine w_app (xs := ?xx) ?h ?_ ?z); (case h => walk_at "hget"); (case z => walk_at "sz"))
  | with_reducible refine w_inC ?_
  | with_reducible refine w_rev ?_
  | ((with_reducible refine w_rev1S ?_ ?h); (case h => walk_at "sz"))
  | with_reducible refine w_lrg ?_
  | with_reducible refine w_brk ?_
  | with_reducible refine w_cont ?_
  | with_reducible refine w_retN ?_
  | with_reducible refine w_bm ?_
  | with_reducible refine w_bm0 ?_
  | with_reducible refine w_m1 ?_
  | with_reducible refine w_sub ?_
  | ((with_reducible refine w_setL (xs := ?xx) (j := ?jj) ?h ?i ?_); (case h => walk_at "hget"); (case i => first | rfl | assumption); (try simp only [Int.reduceToNat, List.set_cons_zero, List.set_cons_succ]))
  | with_reducible refine w_ip ?_
  | with_reducible refine w_gnil ?_
  | with_reducible refine w_gcons ?_
  | ((with_reducible refine w_gL (xs := ?xx) ?h ?_ ?n); (case h => walk_at "vget"); (case n => rfl))
  | ((with_reducible refine w_gT (xs := ?xx) ?h ?_ ?n); (case h => walk_at "vget"); (case n => rfl))
  | ((with_reducible refine w_aug (v := ?vv) ?h ?_); (case h => exact rfl)))
local macro_rules | `(tactic| walk_at "v") => `(tactic| repeat walk_at "v1")
local macro_rules | `(tactic| walk_at "v0") => `(tactic| (simp only [L2.start, cxK, ends_rt, List.map_cons, List.map_nil, List.length_cons, List.length_nil, Nat.reduceAdd, Nat.reduceSub, List.replicate_succ, List.replicate_zero, List.append_nil, List.cons_append, List.nil_append]; walk_at "v"))
local macro_rules | `(tactic| walk_at "u1") => `(tactic| first
  | with_reducible refine w_seqA ?_
  | with_reducible refine w_seqD ?_
  | with_reducible refine w_seqP ?_
  | with_reducible refine w_seqG ?_
  | ((fail_if_success (with_reducible refine w_seq ?_)); walk_at "v1"))
local macro_rules | `(tactic| walk_at "u") => `(tactic| repeat walk_at "u1")
local macro_rules | `(tactic| walk_at "u0") => `(tactic| (simp only [L2.start, cxK, ends_rt, List.map_cons, List.map_nil, List.length_cons, List.length_nil, Nat.reduceAdd, Nat.reduceSub, List.replicate_succ, List.replicate_zero, List.append_nil, List.cons_append, List.nil_append]; walk_at "u"))
local macro_rules | `(tactic| walk_at "t1") => `(tactic| ((fail_if_success (with_reducible refine w_seq ?_)); walk_at "v1"))
local macro_rules | `(tactic| walk_at "t") => `(tactic| repeat walk_at "t1")

section
variable {P : Program} {w : World} {K : PySem.W.Frag} {mg : Str → Option Value} {base : Heap}
abbrev S (l : List Nat) : PyData := .str (tx l)
def more : List Nat := [109, 111, 114, 101]
/-- v is d, and stays data when something is put behind it -/
def Odd (F : Hp) (p : List Addr) (v : V) (d : PyData) : Prop := Dv (hide p F) v d ∧ ((kindD d == "list") = false ∨ ∃ (a : Addr) (l : List V) (ds : List PyData), v = .ref a ∧ F a = some (.lst l) ∧ d = .list ds ∧ Dv (upd (hide p F) a (.lst (l ++ [.str (tx more)]))) (.ref a) (.list (ds ++ [S more])))
inductive Odds (F : Hp) (p : List Addr) : List V → List PyData → Prop
  | nil : Odds F p [] []
  | cons {v : V} {vs : List V} {d : PyData} {ds : List PyData} : Odd F p v d → Odds F p vs ds → Odds F p (v :: vs) (d :: ds)
theorem Odds.get {F : Hp} {p : List Addr} : ∀ {vs : List V} {ds : List PyData} {i : Nat} {v : V}, Odds F p vs ds → vs[i]? = some v → ∃ d, ds[i]? = some d ∧ Odd F p v d
  | _ :: _, _ :: _, 0, _, .cons h _, e => ⟨_, rfl, by rw [← Option.some.inj e]; exact h⟩
  | _ :: _, _ :: _, i + 1, _, .cons _ r, e => r.get (i := i) e
/-- what all odd values have -/
def okA (d : PyData) : Bool := okD d && (match d with | .list ds => okD (.list (ds ++ [S more])) && decide (ds.length ≤ 10) | _ => true)
theorem ne_kind {F : Hp} {a b : Addr} {o u : HO} (h1 : F a = some o) (h2 : F b = some u) (n : o ≠ u) : a ≠ b := fun e => by
  subst e
  rw [h1] at h2
  exact n (Option.some.inj h2)

def lagD : List PyData := [.tuple [S [97], S [98]], .list [S [], S []], .tuple [S []], .tuple [S [], S [], S []], S [], S [97], .tuple [S [65], S []], .tuple [S [], .int 1], .tuple [.none, S []], .list [S [97], S []], .int 0, .tuple [S [], S [97, 32]], .tuple [.tuple [S []], S []], .none, .dict [], .bool true, .tuple [S [], .list [S [97]]], .tuple [S [97, 10], S []], .list [.tuple [S [], S []]], .tuple [S [45], S []]]
def spOddL : Sp := fun vs H Q _ => vs = [] ∧ ∀ r xs H', Same H H' → H' r = some (.lst xs) → xs.length = 20 → (∀ p : List Addr, (∀ c ∈ p, H c ≠ none) → Odds H' p xs lagD) → Q (.ref r) H'
theorem ok__law_odd_lags (T : Txt K mg) : Cal P w K mg base 1 "_law_odd_lags" [] spOddL := by
  refine cal0 T.d__law_odd_lags sc__law_odd_lags (by rintro vs H Q E ⟨rfl, _⟩; rfl) (fun cdv f A outer s H vs Q E hr hgd h => ?_)
  obtain ⟨rfl, q⟩ := h
  refine ⟨_, (pss_cons (ps_set (i := 0) sc__law_odd_lags.nd rfl (by first | exact Or.inl rfl | exact Or.inr rfl) (pe_lst (pa_cons (pe_tup (pa_cons (pe_tx [97] (by decide +kernel)) (pa_cons (pe_tx [98] (by decide +kernel)) pa_nil))) (pa_cons (pe_lst (pa_cons (pe_tx [] (by decide +kernel)) (pa_cons (pe_tx [] (by decide +kernel)) pa_nil))) (pa_cons (pe_tup (pa_cons (pe_tx [] (by decide +kernel)) pa_nil)) (pa_cons (pe_tup (pa_cons (pe_tx [] (by decide +kernel)) (pa_cons (pe_tx [] (by decide +kernel)) (pa_cons (pe_tx [] (by decide +kernel)) pa_nil)))) (pa_cons (pe_tx [] (by decide +kernel)) (pa_cons (pe_tx [97] (by decide +kernel)) (pa_cons (pe_tup (pa_cons (pe_tx [65] (by decide +kernel)) (pa_cons (pe_tx [] (by decide +kernel)) pa_nil))) (pa_cons (pe_tup (pa_cons (pe_tx [] (by decide +kernel)) (pa_cons pe_int pa_nil))) (pa_cons (pe_tup (pa_cons pe_non (pa_cons (pe_tx [] (by decide +kernel)) pa_nil))) (pa_cons (pe_lst (pa_cons (pe_tx [97] (by decide +kernel)) (pa_cons (pe_tx [] (by decide +kernel)) pa_nil))) (pa_cons pe_int pa_nil)))))))))))))
  (pss_one (ps_ret (pe_op (kAdd K rfl) (pv 0) (pe_lst (pa_cons (pe_tup (pa_cons (pe_tx [] (by decide +kernel)) (pa_cons (pe_tx [97, 32] (by decide +kernel)) pa_nil))) (pa_cons (pe_tup (pa_cons (pe_tup (pa_cons (pe_tx [] (by decide +kernel)) pa_nil)) (pa_cons (pe_tx [] (by decide +kernel)) pa_nil))) (pa_cons pe_non (pa_cons pe_dnewK (pa_cons pe_bl (pa_cons (pe_tup (pa_cons (pe_tx [] (by decide +kernel)) (pa_cons (pe_lst (pa_cons (pe_tx [97] (by decide +kernel)) pa_nil)) pa_nil))) (pa_cons (pe_tup (pa_cons (pe_tx [97, 10] (by decide +kernel)) (pa_cons (pe_tx [] (by decide +kernel)) pa_nil))) (pa_cons (pe_lst (pa_cons (pe_tup (pa_cons (pe_tx [] (by decide +kernel)) (pa_cons (pe_tx [] (by decide +kernel)) pa_nil))) pa_nil)) (pa_cons (pe_tup (pa_cons (pe_tx [45] (by decide +kernel)) (pa_cons (pe_tx [] (by decide +kernel)) pa_nil))) pa_nil)))))))))))))), ?_⟩
  walk_at "v0"
  refine ⟨by walk_at "sz", fun e1 n1 => ?_⟩
  walk_at "v"
  refine ⟨by walk_at "sz", fun e2 n2 => ?_⟩
  walk_at "v"
  refine ⟨by walk_at "sz", fun e3 n3 => ?_⟩
  walk_at "v"
  refine ⟨by walk_at "sz", fun e4 n4 => ?_⟩
  walk_at "v"
  refine ⟨by walk_at "sz", fun e5 n5 => ?_⟩
  walk_at "v"
  refine ⟨by walk_at "sz", fun e6 n6 => ?_⟩
  walk_at "v"
  refine ⟨by walk_at "sz", fun e7 n7 => ?_⟩
  walk_at "v"
  refine ⟨by walk_at "sz", fun e8 n8 => ?_⟩
  walk_at "v"
  refine ⟨by walk_at "sz", fun e9 n9 => ?_⟩
  walk_at "v"
  refine ⟨by walk_at "sz", fun e10 n10 => ?_⟩
  walk_at "v"
  refine ⟨by walk_at "sz", fun e11 n11 => ?_⟩
  walk_at "v"
  refine ⟨by walk_at "sz", fun e12 n12 => ?_⟩
  walk_at "v"
  refine fun e13 n13 => ?_
  walk_at "v"
  refine ⟨by walk_at "sz", fun e14 n14 => ?_⟩
  walk_at "v"
  refine ⟨by walk_at "sz", fun e15 n15 => ?_⟩
  walk_at "v"
  refine ⟨by walk_at "sz", fun e16 n16 => ?_⟩
  walk_at "v"
  refine ⟨by walk_at "sz", fun e17 n17 => ?_⟩
  walk_at "v"
  refine ⟨by walk_at "sz", fun e18 n18 => ?_⟩
  walk_at "v"
  refine ⟨by walk_at "sz", fun e19 n19 => ?_⟩
  walk_at "v"
  refine ⟨by walk_at "sz", fun e20 n20 => ?_⟩
  walk_at "v"
  have g0 : ∀ {R : HO}, True := fun {_} => trivial
  refine w_addL ((((((((((((same_new n10).trans (same_new n11)).trans (same_new n12)).trans (same_new n13)).trans (same_new n14)).trans (same_new n15)).trans (same_new n16)).trans (same_new n17)).trans (same_new n18)).trans (same_new n19)).trans (same_new n20)) _ _ upd_same) upd_same (by simp) fun e21 n21 => ?_
  walk_at "v"
  refine fin_new (R := fun F => Q (.ref e21) F) fun F T21 g21 => ?_
  have T20 := (same_new n21).trans T21
  have g20 := T20 _ _ upd_same
  have T19 := (same_new n20).trans T20
  have g19 := T19 _ _ upd_same
  have T18 := (same_new n19).trans T19
  have g18 := T18 _ _ upd_same
  have T17 := (same_new n18).trans T18
  have g17 := T17 _ _ upd_same
  have T16 := (same_new n17).trans T17
  have g16 := T16 _ _ upd_same
  have T15 := (same_new n16).trans T16
  have g15 := T15 _ _ upd_same
  have T14 := (same_new n15).trans T15
  have g14 := T14 _ _ upd_same
  have T13 := (same_new n14).trans T14
  have g13 := T13 _ _ upd_same
  have T12 := (same_new n13).trans T13
  have g12 := T12 _ _ upd_same
  have T11 := (same_new n12).trans T12
  have g11 := T11 _ _ upd_same
  have T10 := (same_new n11).trans T11
  have g10 := T10 _ _ upd_same
  have T9 := (same_new n10).trans T10
  have g9 := T9 _ _ upd_same
  have T8 := (same_new n9).trans T9
  have g8 := T8 _ _ upd_same
  have T7 := (same_new n8).trans T8
  have g7 := T7 _ _ upd_same
  have T6 := (same_new n7).trans T7
  have g6 := T6 _ _ upd_same
  have T5 := (same_new n6).trans T6
  have g5 := T5 _ _ upd_same
  have T4 := (same_new n5).trans T5
  have g4 := T4 _ _ upd_same
  have T3 := (same_new n4).trans T4
  have g3 := T3 _ _ upd_same
  have T2 := (same_new n3).trans T3
  have g2 := T2 _ _ upd_same
  have T1 := (same_new n2).trans T2
  have g1 := T1 _ _ upd_same
  have T0 := (same_new n1).trans T1
  refine q e21 _ F T0 g21 rfl fun p hp => ?_
  have m1 : e1 ∉ p := by
    refine not_in hp ?s n1
    case s => exact (by repeat (first | exact Same.refl _ | refine Same.new ?_ (by assumption)))
  have m2 : e2 ∉ p := by
    refine not_in hp ?s n2
    case s => exact (by repeat (first | exact Same.refl _ | refine Same.new ?_ (by assumption)))
  have m3 : e3 ∉ p := by
    refine not_in hp ?s n3
    case s => exact (by repeat (first | exact Same.refl _ | refine Same.new ?_ (by assumption)))
  have m4 : e4 ∉ p := by
    refine not_in hp ?s n4
    case s => exact (by repeat (first | exact Same.refl _ | refine Same.new ?_ (by assumption)))
  have m5 : e5 ∉ p := by
    refine not_in hp ?s n5
    case s => exact (by repeat (first | exact Same.refl _ | refine Same.new ?_ (by assumption)))
  have m6 : e6 ∉ p := by
    refine not_in hp ?s n6
    case s => exact (by repeat (first | exact Same.refl _ | refine Same.new ?_ (by assumption)))
  have m7 : e7 ∉ p := by
    refine not_in hp ?s n7
    case s => exact (by repeat (first | exact Same.refl _ | refine Same.new ?_ (by assumption)))
  have m8 : e8 ∉ p := by
    refine not_in hp ?s n8
    case s => exact (by repeat (first | exact Same.refl _ | refine Same.new ?_ (by assumption)))
  have m9 : e9 ∉ p := by
    refine not_in hp ?s n9
    case s => exact (by repeat (first | exact Same.refl _ | refine Same.new ?_ (by assumption)))
  have m10 : e10 ∉ p := by
    refine not_in hp ?s n10
    case s => exact (by repeat (first | exact Same.refl _ | refine Same.new ?_ (by assumption)))
  have m11 : e11 ∉ p := by
    refine not_in hp ?s n11
    case s => exact (by repeat (first | exact Same.refl _ | refine Same.new ?_ (by assumption)))
  have m12 : e12 ∉ p := by
    refine not_in hp ?s n12
    case s => exact (by repeat (first | exact Same.refl _ | refine Same.new ?_ (by assumption)))
  have m13 : e13 ∉ p := by
    refine not_in hp ?s n13
    case s => exact (by repeat (first | exact Same.refl _ | refine Same.new ?_ (by assumption)))
  have m14 : e14 ∉ p := by
    refine not_in hp ?s n14
    case s => exact (by repeat (first | exact Same.refl _ | refine Same.new ?_ (by assumption)))
  have m15 : e15 ∉ p := by
    refine not_in hp ?s n15
    case s => exact (by repeat (first | exact Same.refl _ | refine Same.new ?_ (by assumption)))
  have m16 : e16 ∉ p := by
    refine not_in hp ?s n16
    case s => exact (by repeat (first | exact Same.refl _ | refine Same.new ?_ (by assumption)))
  have m17 : e17 ∉ p := by
    refine not_in hp ?s n17
    case s => exact (by repeat (first | exact Same.refl _ | refine Same.new ?_ (by assumption)))
  have m18 : e18 ∉ p := by
    refine not_in hp ?s n18
    case s => exact (by repeat (first | exact Same.refl _ | refine Same.new ?_ (by assumption)))
  have m19 : e19 ∉ p := by
    refine not_in hp ?s n19
    case s => exact (by repeat (first | exact Same.refl _ | refine Same.new ?_ (by assumption)))
  have m20 : e20 ∉ p := by
    refine not_in hp ?s n20
    case s => exact (by repeat (first | exact Same.refl _ | refine Same.new ?_ (by assumption)))
  have m21 : e21 ∉ p := by
    refine not_in hp ?s n21
    case s => exact (by repeat (first | exact Same.refl _ | refine Same.new ?_ (by assumption)))
  refine .cons ⟨(.tup (hide_get g1 m1) (.cons (.str _) (.cons (.str _) .nil))), .inl (by decide)⟩ ?_
  refine .cons ⟨(.lst (hide_get g2 m2) (.cons (.str _) (.cons (.str _) .nil))), .inr ⟨_, _, _, rfl, g2, rfl, .lst upd_same (.cons (.str _) (.cons (.str _) (.cons (.str _) .nil)))⟩⟩ ?_
  refine .cons ⟨(.tup (hide_get g3 m3) (.cons (.str _) .nil)), .inl (by decide)⟩ ?_
  refine .cons ⟨(.tup (hide_get g4 m4) (.cons (.str _) (.cons (.str _) (.cons (.str _) .nil)))), .inl (by decide)⟩ ?_
  refine .cons ⟨(.str _), .inl (by decide)⟩ ?_
  refine .cons ⟨(.str _), .inl (by decide)⟩ ?_
  refine .cons ⟨(.tup (hide_get g5 m5) (.cons (.str _) (.cons (.str _) .nil))), .inl (by decide)⟩ ?_
  refine .cons ⟨(.tup (hide_get g6 m6) (.cons (.str _) (.cons (.int _) .nil))), .inl (by decide)⟩ ?_
  refine .cons ⟨(.tup (hide_get g7 m7) (.cons .non (.cons (.str _) .nil))), .inl (by decide)⟩ ?_
  refine .cons ⟨(.lst (hide_get g8 m8) (.cons (.str _) (.cons (.str _) .nil))), .inr ⟨_, _, _, rfl, g8, rfl, .lst upd_same (.cons (.str _) (.cons (.str _) (.cons (.str _) .nil)))⟩⟩ ?_
  refine .cons ⟨(.int _), .inl (by decide)⟩ ?_
  refine .cons ⟨(.tup (hide_get g10 m10) (.cons (.str _) (.cons (.str _) .nil))), .inl (by decide)⟩ ?_
  refine .cons ⟨(.tup (hide_get g12 m12) (.cons (.tup (hide_get g11 m11) (.cons (.str _) .nil)) (.cons (.str _) .nil))), .inl (by decide)⟩ ?_
  refine .cons ⟨.non, .inl (by decide)⟩ ?_
  refine .cons ⟨(.emp (hide_get g13 m13)), .inl (by decide)⟩ ?_
  refine .cons ⟨(.bl _), .inl (by decide)⟩ ?_
  refine .cons ⟨(.tup (hide_get g15 m15) (.cons (.str _) (.cons (.lst (hide_get g14 m14) (.cons (.str _) .nil)) .nil))), .inl (by decide)⟩ ?_
  refine .cons ⟨(.tup (hide_get g16 m16) (.cons (.str _) (.cons (.str _) .nil))), .inl (by decide)⟩ ?_
  refine .cons ⟨(.lst (hide_get g18 m18) (.cons (.tup (hide_get g17 m17) (.cons (.str _) (.cons (.str _) .nil))) .nil)), .inr ⟨_, _, _, rfl, g18, rfl, .lst upd_same (.cons (.tup ((upd_ne (ne_kind g17 g18 (by simp))).trans (hide_get g17 m17)) (.cons (.str _) (.cons (.str _) .nil))) (.cons (.str _) .nil))⟩⟩ ?_
  refine .cons ⟨(.tup (hide_get g19 m19) (.cons (.str _) (.cons (.str _) .nil))), .inl (by decide)⟩ ?_
  exact .nil
def textD : List PyData := [S [65], S [97, 32, 98], .int 5, .list [S [97]], S [97, 49], .tuple [S [97]], .bool true, S [45], S [97, 90], S [32], S [97, 10], .list [S [97], S [98]], .list [], .tuple [], .none, .dict [], .int 0]
def spOddT : Sp := fun vs H Q _ => vs = [] ∧ ∀ r xs H', Same H H' → H' r = some (.lst xs) → xs.length = 17 → (∀ p : List Addr, (∀ c ∈ p, H c ≠ none) → Odds H' p xs textD) → Q (.ref r) H'
theorem ok__law_odd_texts (T : Txt K mg) : Cal P w K mg base 1 "_law_odd_texts" [] spOddT := by
  refine cal0 T.d__law_odd_texts sc__law_odd_texts (by rintro vs H Q E ⟨rfl, _⟩; rfl) (fun cdv f A outer s H vs Q E hr hgd h => ?_)
  obtain ⟨rfl, q⟩ := h
  refine ⟨_, (pss_one (ps_ret (pe_lst (pa_cons (pe_tx [65] (by decide +kernel)) (pa_cons (pe_tx [97, 32, 98] (by decide +kernel)) (pa_cons pe_int (pa_cons (pe_lst (pa_cons (pe_tx [97] (by decide +kernel)) pa_nil)) (pa_cons (pe_tx [97, 49] (by decide +kernel)) (pa_cons (pe_tup (pa_cons (pe_tx [97] (by decide +kernel)) pa_nil)) (pa_cons pe_bl (pa_cons (pe_tx [45] (by decide +kernel)) (pa_cons (pe_tx [97, 90] (by decide +kernel)) (pa_cons (pe_tx [32] (by decide +kernel)) (pa_cons (pe_tx [97, 10] (by decide +kernel)) (pa_cons (pe_lst (pa_cons (pe_tx [97] (by decide +kernel)) (pa_cons (pe_tx [98] (by decide +kernel)) pa_nil))) (pa_cons (pe_lst pa_nil) (pa_cons (pe_tup pa_nil) (pa_cons pe_non (pa_cons pe_dnewK (pa_cons pe_int pa_nil)))))))))))))))))))), ?_⟩
  walk_at "v0"
  refine ⟨by walk_at "sz", fun e1 n1 => ?_⟩
  walk_at "v"
  refine ⟨by walk_at "sz", fun e2 n2 => ?_⟩
  walk_at "v"
  refine ⟨by walk_at "sz", fun e3 n3 => ?_⟩
  walk_at "v"
  refine ⟨by walk_at "sz", fun e4 n4 => ?_⟩
  walk_at "v"
  refine ⟨by walk_at "sz", fun e5 n5 => ?_⟩
  walk_at "v"
  refine fun e6 n6 => ?_
  walk_at "v"
  refine ⟨by walk_at "sz", fun e7 n7 => ?_⟩
  walk_at "v"
  refine fin_new (R := fun F => Q (.ref e7) F) fun F T7 g7 => ?_
  have T6 := (same_new n7).trans T7
  have g6 := T6 _ _ upd_same
  have T5 := (same_new n6).trans T6
  have g5 := T5 _ _ upd_same
  have T4 := (same_new n5).trans T5
  have g4 := T4 _ _ upd_same
  have T3 := (same_new n4).trans T4
  have g3 := T3 _ _ upd_same
  have T2 := (same_new n3).trans T3
  have g2 := T2 _ _ upd_same
  have T1 := (same_new n2).trans T2
  have g1 := T1 _ _ upd_same
  have T0 := (same_new n1).trans T1
  refine q e7 _ F T0 g7 rfl fun p hp => ?_
  have m1 : e1 ∉ p := by
    refine not_in hp ?s n1
    case s => exact (by repeat (first | exact Same.refl _ | refine Same.new ?_ (by assumption)))
  have m2 : e2 ∉ p := by
    refine not_in hp ?s n2
    case s => exact (by repeat (first | exact Same.refl _ | refine Same.new ?_ (by assumption)))
  have m3 : e3 ∉ p := by
    refine not_in hp ?s n3
    case s => exact (by repeat (first | exact Same.refl _ | refine Same.new ?_ (by assumption)))
  have m4 : e4 ∉ p := by
    refine not_in hp ?s n4
    case s => exact (by repeat (first | exact Same.refl _ | refine Same.new ?_ (by assumption)))
  have m5 : e5 ∉ p := by
    refine not_in hp ?s n5
    case s => exact (by repeat (first | exact Same.refl _ | refine Same.new ?_ (by assumption)))
  have m6 : e6 ∉ p := by
    refine not_in hp ?s n6
    case s => exact (by repeat (first | exact Same.refl _ | refine Same.new ?_ (by assumption)))
  have m7 : e7 ∉ p := by
    refine not_in hp ?s n7
    case s => exact (by repeat (first | exact Same.refl _ | refine Same.new ?_ (by assumption)))
  refine .cons ⟨(.str _), .inl (by decide)⟩ ?_
  refine .cons ⟨(.str _), .inl (by decide)⟩ ?_
  refine .cons ⟨(.int _), .inl (by decide)⟩ ?_
  refine .cons ⟨(.lst (hide_get g1 m1) (.cons (.str _) .nil)), .inr ⟨_, _, _, rfl, g1, rfl, .lst upd_same (.cons (.str _) (.cons (.str _) .nil))⟩⟩ ?_
  refine .cons ⟨(.str _), .inl (by decide)⟩ ?_
  refine .cons ⟨(.tup (hide_get g2 m2) (.cons (.str _) .nil)), .inl (by decide)⟩ ?_
  refine .cons ⟨(.bl _), .inl (by decide)⟩ ?_
  refine .cons ⟨(.str _), .inl (by decide)⟩ ?_
  refine .cons ⟨(.str _), .inl (by decide)⟩ ?_
  refine .cons ⟨(.str _), .inl (by decide)⟩ ?_
  refine .cons ⟨(.str _), .inl (by decide)⟩ ?_
  refine .cons ⟨(.lst (hide_get g3 m3) (.cons (.str _) (.cons (.str _) .nil))), .inr ⟨_, _, _, rfl, g3, rfl, .lst upd_same (.cons (.str _) (.cons (.str _) (.cons (.str _) .nil)))⟩⟩ ?_
  refine .cons ⟨(.lst (hide_get g4 m4) .nil), .inr ⟨_, _, _, rfl, g4, rfl, .lst upd_same (.cons (.str _) .nil)⟩⟩ ?_
  refine .cons ⟨(.tup (hide_get g5 m5) .nil), .inl (by decide)⟩ ?_
  refine .cons ⟨.non, .inl (by decide)⟩ ?_
  refine .cons ⟨(.emp (hide_get g6 m6)), .inl (by decide)⟩ ?_
  refine .cons ⟨(.int _), .inl (by decide)⟩ ?_
  exact .nil
theorem lag_all : (lagD.all fun d => okA d && noLg d && smL d) = true := by decide +kernel
theorem text_all : (textD.all fun d => okA d && !txB d && smS d) = true := by decide +kernel
end
end K74
set_option Elab.async false
set_option linter.all false
set_option maxRecDepth 100000
set_option maxHeartbeats 4000000
namespace K74
open PySem PySem.Spec PyProof.Rows L2 SL Lv
local macro_rules | `(tactic| walk_at "sz") => `(tactic| first
  | assumption
  | omega
  | (simp only [List.length_cons, List.length_nil, List.length_append, List.length_map, List.length_take, List.length_drop, List.length_reverse, List.length_replicate, List.length_range, tx_len, sizeLine_eq, CMul, CDiv, Nat.reduceAdd, Nat.reduceLeDiff]; first | done | omega)
  | decide)
local macro_rules | `(tactic| walk_at "ne") => `(tactic| first
  | assumption
  | exact Ne.symm (by assumption)
  | (refine ne_of_none (H := ?H0) (o := ?oo) ?hh ?hn; (case hn => assumption); (case hh => walk_at "hget"))
  | (refine Ne.symm (ne_of_none (H := ?H0) (o := ?oo) ?hh ?hn); (case hn => assumption); (case hh => walk_at "hget")))
local macro_rules | `(tactic| walk_at "hget") => `(tactic| first
  | assumption
  | exact upd_same
  | (refine (upd_ne ?n).trans ?g; (case n => walk_at "ne"); (case g => walk_at "hget"))
  | (refine fr_get (p := ?pp) (H := ?H0) ?f ?g ?n; (case f => assumption); (case g => walk_at "hget"); (case n => walk_at "ne"))
  | (refine same_get (H := ?H0) ?f ?g; (case f => assumption); (case g => walk_at "hget")))
local macro_rules | `(tactic| walk_at "vget") => `(tactic| first
  | assumption
  | (refine SqL.of ?g; (case g => walk_at "hget"))
  | (refine SqT.of ?g; (case g => walk_at "hget"))
  | (refine sql_new ?n ?g; (case n => assumption); (case g => walk_at "vget"))
  | (refine sqt_new ?n ?g; (case n => assumption); (case g => walk_at "vget"))
  | (refine sql_upd ?n ?g; (case n => walk_at "ne"); (case g => walk_at "vget"))
  | (refine sqt_upd ?n ?g; (case n => walk_at "ne"); (case g => walk_at "vget"))
  | (refine Same.seq (H := ?H0) ?f ?g; (case f => assumption); (case g => walk_at "vget"))
  | (refine Same.seqT (H := ?H0) ?f ?g; (case f => assumption); (case g => walk_at "vget"))
  | (refine fr_sql (b := ?pp) (H := ?H0) ?f ?g ?n; (case f => assumption); (case g => walk_at "vget"); (case n => walk_at "ne"))
  | (refine fr_sqt (b := ?pp) (H := ?H0) ?f ?g ?n; (case f => assumption); (case g => walk_at "vget"); (case n => walk_at "ne")))
local macro_rules | `(tactic| walk_at "at") => `(tactic| first
  | assumption
  | rfl
  | (refine atI_n ?h; (case h => first | assumption | rfl))
  | (refine atI_i ?h0 ?h; (case h0 => omega); (case h => first | assumption | rfl)))
local macro_rules | `(tactic| walk_at "v1") => `(tactic| first
  | with_reducible refine w_seq ?_
  | with_reducible refine w_enx ?_
  | with_reducible refine w_ert ?_
  | with_reducible refine w_asg ?_
  | ((with_reducible refine w_var (v := ?vv) ?h ?_); (case h => exact rfl))
  | with_reducible refine w_op ?_
  | with_reducible refine w_c ?_
  | with_reducible refine w_cons ?_
  | with_reducible refine w_nil ?_
  | with_reducible refine w_cb ?_
  | with_reducible refine w_call ?_
  | with_reducible refine w_k ?_
  | with_reducible refine w_i ?_
  | with_reducible refine w_two ?_
  | ((with_reducible refine w_name ?_); (try simp only [List.set_cons_zero, List.set_cons_succ]))
  | with_reducible refine w_ifS ?_
  | with_reducible refine w_ret ?_
  | with_reducible refine w_drop ?_
  | with_reducible refine w_test ?_
  | with_reducible refine w_B ?_
  | with_reducible refine iteT ?_
  | with_reducible refine iteF ?_
  | with_reducible refine w_same ?_
  | ((with_reducible refine w_ifT ?h ?_); (case h => first | rfl | assumption))
  | ((with_reducible refine w_ifF ?h ?_); (case h => first | rfl | assumption))
  | ((with_reducible refine w_diff ?_ ?h); (case h => decide +kernel))
  | ((with_reducible refine w_wp ?h ?_); (case h => rfl); (try simp only [wipe, List.set_cons_zero, List.set_cons_succ, List.foldl_cons, List.foldl_nil]))
  | ((with_reducible refine w_acc (acc := ?aa) ?h ?_ ?z); (case h => walk_at "hget"); (case z => walk_at "sz"))
  | with_reducible refine w_addI ?_
  | with_reducible refine w_subI ?_
  | with_reducible refine w_lt ?_
  | with_reducible refine w_le ?_
  | with_reducible refine w_gt ?_
  | with_reducible refine w_ge ?_
  | with_reducible refine w_eqI ?_
  | with_reducible refine w_neI ?_
  | with_reducible refine w_eqS ?_
  | with_reducible refine w_neS ?_
  | ((with_reducible refine w_mulI ?_ ?h); (case h => walk_at "sz"))
  | ((with_reducible refine w_divI ?_ ?h); (case h => walk_at "sz"))
  | ((with_reducible refine w_addS ?_ ?h); (case h => walk_at "sz"))
  | ((with_reducible refine w_mulS ?_ ?h); (case h => walk_at "sz"))
  | ((with_reducible refine w_ixL (xs := ?xx) (v := ?vv) ?h ?i ?_); (case h => walk_at "vget"); (case i => walk_at "at"))
  | ((with_reducible refine w_ixT (xs := ?xx) (v := ?vv) ?h ?i ?_); (case h => walk_at "vget"); (case i => walk_at "at"))
  | ((with_reducible refine w_ixS (c := ?cc) ?i ?_ ?h); (case i => walk_at "at"); (case h => walk_at "sz"))
  | ((with_reducible refine w_lenS' ?_ ?h); (case h => walk_at "sz"))
  | ((with_reducible refine w_lenL' (xs := ?xx) ?h ?_); (case h => walk_at "vget"))
  | ((with_reducible refine w_lenT' (xs := ?xx) ?h ?_); (case h => walk_at "vget"))
  | with_reducible refine w_isnN ?_
  | with_reducible refine w_isnI ?_
  | with_reducible refine w_isnS ?_
  | with_reducible refine w_isnR ?_
  | with_reducible refine w_isnB ?_
  | with_reducible refine w_isoN ?_
  | with_reducible refine w_isoI ?_
  | with_reducible refine w_isoS ?_
  | with_reducible refine w_isoR ?_
  | with_reducible refine w_isoB ?_
  | with_reducible refine w_abs ?_
  | with_reducible refine w_int ?_
  | with_reducible refine w_intB ?_
  | with_reducible refine w_min2 ?_
  | with_reducible refine w_max2 ?_
  | with_reducible refine w_min3 ?_
  | with_reducible refine w_sl ?_
  | with_reducible refine w_np ?_
  | with_reducible refine w_part ?_
  | ((with_reducible refine w_sStN ?_ ?h); (case h => walk_at "sz"))
  | ((with_reducible refine w_sSfN ?_ ?h); (case h => walk_at "sz"))
  | ((with_reducible refine w_sSt ?_ ?h); (case h => walk_at "sz"))
  | ((with_reducible refine w_sSf ?_ ?h); (case h => walk_at "sz"))
  | with_reducible refine w_and ?_
  | with_reducible refine w_or ?_
  | with_reducible refine w_not ?_
  | with_reducible refine w_andV ?_
  | with_reducible refine w_orV ?_
  | with_reducible refine w_notV ?_
  | with_reducible refine w_ifE ?_
  | with_reducible refine w_tup ?_
  | with_reducible refine w_lst ?_
  | with_reducible refine w_chain ?_
  | ((with_reducible refine w_par ?_); (try simp only [List.set_cons_zero, List.set_cons_succ]))
  | with_reducible refine w_un ?_
  | with_reducible refine w_neg ?_
  | with_reducible refine w_next ?_
  | with_reducible refine w_ebk ?_
  | with_reducible refine w_ect ?_
  | with_reducible refine w_for ?_
  | with_reducible refine w_lc ?_
  | with_reducible refine w_yes ?_
  | with_reducible refine w_il ?_
  | with_reducible refine w_it ?_
  | with_reducible refine w_isx ?_
  | with_reducible refine w_ir1 ?_
  | with_reducible refine w_ir2 ?_
  | with_reducible refine w_ies ?_
  | with_reducible refine w_s1 ?_
  | with_reducible refine w_s1l ?_
  | ((with_reducible refine w_r1 ?_ ?h); (case h => walk_at "sz"))
  | ((with_reducible refine w_r2 ?_ ?h); (case h => walk_at "sz"))
  | ((with_reducible refine w_l1 (xs := ?xx) ?h ?_); (case h => walk_at "vget"))
  | ((with_reducible refine w_t1 (xs := ?xx) ?h ?_); (case h => walk_at "vget"))
  | ((with_reducible refine w_isL (xs := ?xx) ?h ?_); (case h => walk_at "vget"))
  | with_reducible refine w_isS ?_
  | ((with_reducible refine w_app (xs := ?xx) ?h ?_ ?z); (case h => walk_at "hget"); (case z => walk_at "sz"))
  | with_reducible refine w_inC ?_
  | with_reducible refine w_rev ?_
  | ((with_reducible refine w_rev1S ?_ ?h); (case h => walk_at "sz"))
  | with_reducible refine w_lrg ?_
  | with_reducible refine w_brk ?_
  | with_reducible refine w_cont ?_
  | with_reducible refine w_retN ?_
  | with_reducible refine w_bm ?_
  | with_reducible refine w_bm0 ?_
  | with_reducible refine w_m1 ?_
  | with_reducible refine w_sub ?_
  | ((with_reducible refine w_setL (xs := ?xx) (j := ?jj) ?h ?i ?_); (case h => walk_at "hget"); (case i => first | rfl | assumption); (try simp only [Int.reduceToNat, List.set_cons_zero, List.set_cons_succ]))
  | with_reducible refine w_ip ?_
  | with_reducible refine w_gnil ?_
  | with_reducible refine w_gcons ?_
  | ((with_reducible refine w_gL (xs := ?xx) ?h ?_ ?n); (case h => walk_at "vget"); (case n => rfl))
  | ((with_reducible refine w_gT (xs := ?xx) ?h ?_ ?n); (case h => walk_at "vget"); (case n => rfl))
  | ((with_reducible refine w_aug (v := ?vv) ?h ?_); (case h => exact rfl)))
local macro_rules | `(tactic| walk_at "v") => `(tactic| repeat walk_at "v1")
local macro_rules | `(tactic| walk_at "v0") => `(tactic| (simp only [L2.start, cxK, ends_rt, List.map_cons, List.map_nil, List.length_cons, List.length_nil, Nat.reduceAdd, Nat.reduceSub, List.replicate_succ, List.replicate_zero, List.append_nil, List.cons_append, List.nil_append]; walk_at "v"))
local macro_rules | `(tactic| walk_at "u1") => `(tactic| first
  | with_reducible refine w_seqA ?_
  | with_reducible refine w_seqD ?_
  | with_reducible refine w_seqP ?_
  | with_reducible refine w_seqG ?_
  | ((fail_if_success (with_reducible refine w_seq ?_)); walk_at "v1"))
local macro_rules | `(tactic| walk_at "u") => `(tactic| repeat walk_at "u1")
local macro_rules | `(tactic| walk_at "u0") => `(tactic| (simp only [L2.start, cxK, ends_rt, List.map_cons, List.map_nil, List.length_cons, List.length_nil, Nat.reduceAdd, Nat.reduceSub, List.replicate_succ, List.replicate_zero, List.append_nil, List.cons_append, List.nil_append]; walk_at "u"))
local macro_rules | `(tactic| walk_at "t1") => `(tactic| ((fail_if_success (with_reducible refine w_seq ?_)); walk_at "v1"))
local macro_rules | `(tactic| walk_at "t") => `(tactic| repeat walk_at "t1")

section
variable {P : Program} {w : World} {K : PySem.W.Frag} {mg : Str → Option Value} {base : Heap}
theorem ok_gap_price (T : Txt K mg) (c_is_lag : Cal P w K mg base 2 "is_lag" ["value"] (spIsLg K)) (c_check_text : Cal P w K mg base 2 "check_text" ["text"] (spCheckD K (errAt mg "InvalidText"))) (c_distance : Cal P w K mg base 5 "distance" ["one", "other"] spDist) :
    Cal P w K mg base 6 "gap_price" ["before", "left", "right", "behind"] (spGapD K (errAt mg "InvalidText")) := cal_of T.d_gap_price (fn_gap_price T c_is_lag c_check_text c_distance)
theorem ok_gap_price_w (T : Txt K mg) (c_is_lag : Cal P w K mg base 2 "is_lag" ["value"] (spIsLg K)) (c_check_text : Cal P w K mg base 2 "check_text" ["text"] (spCheckD K (errAt mg "InvalidText"))) (c_distance : Cal P w K mg base 5 "distance" ["one", "other"] spDist) :
    CalW P w K mg base 6 "gap_price" ["before", "left", "right", "behind"] ["behind", "right", "left", "before"] (fun {α} (l : List α) => l.reverse) (spGapD K (errAt mg "InvalidText")) :=
  calW_of T.d_gap_price (fn_gap_price T c_is_lag c_check_text c_distance) (by
    intro f fd F s ws hl
    obtain ⟨oc, od, kV, doc, pm, an, cdv, ct, osl, rfl, lk, hcd⟩ := F.ex
    match ws, hl with
    | [a, b, c, d], _ => exact .of_eq rfl)
theorem hl_gap_price_w {vs : List V} {us : List Value} (hn : vs.length = 4) (r : Vals vs us) : Vals vs.reverse us.reverse := rev4 hn r
/-- the four parts: what they are asked -/
structure Four (K : PySem.W.Frag) (H : Hp) (a l m b : V) (ba bl bm bb : Bool) : Prop where
  ha : IsLg K H a ba
  hl : IsTx K H l bl
  hm : IsTx K H m bm
  hb : IsLg K H b bb
  ga : ba = true → ∃ x y, IsSmall K H a x y
  gb : bb = true → ∃ x y, IsSmall K H b x y
  gl : bl = true → ∃ x, l = .str (tx x) ∧ x.length ≤ 10000 ∧ Let x
  gm : bm = true → ∃ x, m = .str (tx x) ∧ x.length ≤ 10000 ∧ Let x
/-- the first that is refused -/
def firstBad (a l m b : V) (ba bl bm bb : Bool) : Option V := if ba = false then some a else if bl = false then some l else if bm = false then some m else if bb = false then some b else none
def toldL : Option V → List V
  | some v => [.str (tx [116, 101, 120, 116]), v]
  | none => [.str (tx [112, 114, 105, 99, 101]), .non]
def spTold (K : PySem.W.Frag) : Sp := fun vs H Q _ => ∃ p nm a l m b ba bl bm bb, vs = [.ref p, .bl nm] ∧ H p = some (.lst [a, l, m, b]) ∧ Four K H a l m b ba bl bm bb ∧
  ∀ r H', Same H H' → H r = none → H' r = some (.lst (toldL (firstBad a l m b ba bl bm bb))) → Q (.ref r) H'
theorem ok__law_told (T : Txt K mg) (c_gap_price : Cal P w K mg base 6 "gap_price" ["before", "left", "right", "behind"] (spGapD K (errAt mg "InvalidText")))
    (c_gap_price_w : CalW P w K mg base 6 "gap_price" ["before", "left", "right", "behind"] ["behind", "right", "left", "before"] (fun {α} (l : List α) => l.reverse) (spGapD K (errAt mg "InvalidText"))) :
    Cal P w K mg base 7 "_law_told" ["parts", "named"] (spTold K) := by
  refine cal0 T.d__law_told sc__law_told (by rintro vs H Q E ⟨p, nm, a, l, m, b, ba, bl, bm, bb, rfl, _⟩; rfl) (fun cdv f A outer s H vs Q E hr hgd h => ?_)
  obtain ⟨p, nm, a, l, m, b, ba, bl, bm, bb, rfl, hp, F4, q⟩ := h
  refine ⟨_, (pss_cons (ps_tryA K (i := 2) rfl rfl rfl sc__law_told.nd rfl rfl (names_errA mg T.x_InvalidText rfl (by rfl)) takes0 (fun W pn xe tk po => (pss_one (ps_if (pt_val (pv 1)) (pss_one (ps_expr (pe_gw c_gap_price_w hr (by decide) hgd (by rfl) (passAt tk) (pk_cons (pe_ix (kIx K rfl) (pv 0) pe_int (fun _ _ => rfl)) (pk_cons (pe_ix (kIx K rfl) (pv 0) pe_int (fun _ _ => rfl)) (pk_cons (pe_ix (kIx K rfl) (pv 0) pe_int (fun _ _ => rfl)) (pk_cons (pe_ix (kIx K rfl) (pv 0) pe_int (fun _ _ => rfl)) pk_nil)))) hl_gap_price_w))) (pss_one (ps_expr (pe_g c_gap_price hr (by decide) hgd (by rfl) (passAt tk) (pa_cons (pe_ix (kIx K rfl) (pv 0) pe_int (fun _ _ => rfl)) (pa_cons (pe_ix (kIx K rfl) (pv 0) pe_int (fun _ _ => rfl)) (pa_cons (pe_ix (kIx K rfl) (pv 0) pe_int (fun _ _ => rfl)) (pa_cons (pe_ix (kIx K rfl) (pv 0) pe_int (fun _ _ => rfl)) pa_nil)))))))))) (fun a oe cls d pn hz hf => (pss_one (ps_ret (pe_lst (pa_cons (pe_tx [116, 101, 120, 116] (by decide +kernel)) (pa_cons (pe_givA mg T.x_InvalidText rfl hz hf (pv 2)) pa_nil)))))))
  (pss_one (ps_ret (pe_lst (pa_cons (pe_tx [112, 114, 105, 99, 101] (by decide +kernel)) (pa_cons pe_non pa_nil)))))), ?_⟩
  have te := T.x_InvalidText.te
  walk_at "v0"
  refine w_tryA ?_
  dsimp only []
  walk_at "v"
  refine w_if (fun h => ?_) (fun h => ?_)
  · walk_at "v"
    refine w_callW ?_
    walk_at "v"
    refine ⟨rfl, ?_⟩
    refine ⟨a, l, m, b, ba, bl, bm, bb, rfl, F4.ha, F4.hl, F4.hm, F4.hb, fun e => ?_, fun e1 e2 => ?_, fun e1 e2 e3 => ?_, fun e1 e2 e3 e4 => ?_, fun e1 e2 e3 e4 => ⟨F4.ga e1, F4.gb e4, F4.gl e2, F4.gm e3, fun i H1 s1 => ?_⟩⟩
    · intro H1 d s1 h1
      refine wAs_of te (fun x hx => ?_)
      simp only [List.set_cons_zero, List.set_cons_succ]
      walk_at "v"
      refine w_giv rfl h1 ?_
      walk_at "v"
      refine ⟨by walk_at "sz", fun r hr => ?_⟩
      walk_at "v"
      refine q r _ (Same.new s1 hr) (none_same s1 hr) ?_
      rw [upd_same, e]
      rfl
    · intro H1 d s1 h1
      refine wAs_of te (fun x hx => ?_)
      simp only [List.set_cons_zero, List.set_cons_succ]
      walk_at "v"
      refine w_giv rfl h1 ?_
      walk_at "v"
      refine ⟨by walk_at "sz", fun r hr => ?_⟩
      walk_at "v"
      refine q r _ (Same.new s1 hr) (none_same s1 hr) ?_
      rw [upd_same, e1, e2]
      rfl
    · intro H1 d s1 h1
      refine wAs_of te (fun x hx => ?_)
      simp only [List.set_cons_zero, List.set_cons_succ]
      walk_at "v"
      refine w_giv rfl h1 ?_
      walk_at "v"
      refine ⟨by walk_at "sz", fun r hr => ?_⟩
      walk_at "v"
      refine q r _ (Same.new s1 hr) (none_same s1 hr) ?_
      rw [upd_same, e1, e2, e3]
      rfl
    · intro H1 d s1 h1
      refine wAs_of te (fun x hx => ?_)
      simp only [List.set_cons_zero, List.set_cons_succ]
      walk_at "v"
      refine w_giv rfl h1 ?_
      walk_at "v"
      refine ⟨by walk_at "sz", fun r hr => ?_⟩
      walk_at "v"
      refine q r _ (Same.new s1 hr) (none_same s1 hr) ?_
      rw [upd_same, e1, e2, e3, e4]
      rfl
    · walk_at "v"
      refine ⟨by walk_at "sz", fun r hr => ?_⟩
      walk_at "v"
      refine q r _ (Same.new s1 hr) (none_same s1 hr) ?_
      rw [upd_same, e1, e2, e3, e4]
      rfl
  · walk_at "v"
    refine ⟨a, l, m, b, ba, bl, bm, bb, rfl, F4.ha, F4.hl, F4.hm, F4.hb, fun e => ?_, fun e1 e2 => ?_, fun e1 e2 e3 => ?_, fun e1 e2 e3 e4 => ?_, fun e1 e2 e3 e4 => ⟨F4.ga e1, F4.gb e4, F4.gl e2, F4.gm e3, fun i H1 s1 => ?_⟩⟩
    · intro H1 d s1 h1
      refine wAs_of te (fun x hx => ?_)
      simp only [List.set_cons_zero, List.set_cons_succ]
      walk_at "v"
      refine w_giv rfl h1 ?_
      walk_at "v"
      refine ⟨by walk_at "sz", fun r hr => ?_⟩
      walk_at "v"
      refine q r _ (Same.new s1 hr) (none_same s1 hr) ?_
      rw [upd_same, e]
      rfl
    · intro H1 d s1 h1
      refine wAs_of te (fun x hx => ?_)
      simp only [List.set_cons_zero, List.set_cons_succ]
      walk_at "v"
      refine w_giv rfl h1 ?_
      walk_at "v"
      refine ⟨by walk_at "sz", fun r hr => ?_⟩
      walk_at "v"
      refine q r _ (Same.new s1 hr) (none_same s1 hr) ?_
      rw [upd_same, e1, e2]
      rfl
    · intro H1 d s1 h1
      refine wAs_of te (fun x hx => ?_)
      simp only [List.set_cons_zero, List.set_cons_succ]
      walk_at "v"
      refine w_giv rfl h1 ?_
      walk_at "v"
      refine ⟨by walk_at "sz", fun r hr => ?_⟩
      walk_at "v"
      refine q r _ (Same.new s1 hr) (none_same s1 hr) ?_
      rw [upd_same, e1, e2, e3]
      rfl
    · intro H1 d s1 h1
      refine wAs_of te (fun x hx => ?_)
      simp only [List.set_cons_zero, List.set_cons_succ]
      walk_at "v"
      refine w_giv rfl h1 ?_
      walk_at "v"
      refine ⟨by walk_at "sz", fun r hr => ?_⟩
      walk_at "v"
      refine q r _ (Same.new s1 hr) (none_same s1 hr) ?_
      rw [upd_same, e1, e2, e3, e4]
      rfl
    · walk_at "v"
      refine ⟨by walk_at "sz", fun r hr => ?_⟩
      walk_at "v"
      refine q r _ (Same.new s1 hr) (none_same s1 hr) ?_
      rw [upd_same, e1, e2, e3, e4]
      rfl
/-- the value stays data when a list of it grows -/
def Keep (K : PySem.W.Frag) (H : Hp) (v : V) : Prop := (∃ t d, TyX K H v (.type t) ∧ Kind t ∧ t ≠ "list" ∧ Dv H v d ∧ okD d = true) ∨
  (∃ p xs d, v = .ref p ∧ H p = some (.lst xs) ∧ xs.length ≤ 1000 ∧ Dv (upd H p (.lst (xs ++ [.str (tx more)]))) v d ∧ okD d = true)
def spLot (K : PySem.W.Frag) : Sp := fun vs H Q _ => ∃ (p r : Addr) (nm : Bool) (a l m b : V) (ba bl bm bb : Bool) (ks : List Nat), vs = [.ref p, .ref r, .bl nm] ∧ H p = some (.lst [a, l, m, b]) ∧ H r = some (.lst (natL ks)) ∧ Four K H a l m b ba bl bm bb ∧
  ks.length ≤ 4 ∧ (ks = [] → firstBad a l m b ba bl bm bb = none) ∧ (∀ k r, ks = k :: r → ∃ v, [a, l, m, b][k]? = some v ∧ firstBad a l m b ba bl bm bb = some v ∧ Keep K H v ∧ v ≠ .ref p) ∧
  ∀ H', (∀ c o, H c = some o → (∀ v, firstBad a l m b ba bl bm bb = some v → v ≠ .ref c) → H' c = some o) → Q (.bl true) H'
theorem ok__law_lot_holds (T : Txt K mg) (c__law_told : Cal P w K mg base 7 "_law_told" ["parts", "named"] (spTold K)) : Cal P w K mg base 8 "_law_lot_holds" ["parts", "wrong", "named"] (spLot K) := by
  refine cal0 T.d__law_lot_holds sc__law_lot_holds (by rintro vs H Q E ⟨p, r, nm, a, l, m, b, ba, bl, bm, bb, ks, rfl, _⟩; rfl) (fun cdv f A outer s H vs Q E hr hgd h => ?_)
  obtain ⟨p, r, nm, a, l, m, b, ba, bl, bm, bb, ks, rfl, hp, hr', F4, hk, h1, h2, q⟩ := h
  refine ⟨_, (pss_cons (ps_set (i := 3) sc__law_lot_holds.nd rfl (by first | exact Or.inl rfl | exact Or.inr rfl) (pe_g c__law_told hr (by decide) hgd (by rfl) noX (pa_cons (pv 0) (pa_cons (pv 2) pa_nil))))
  (pss_cons (ps_if (pt_cmpR (kEq K rfl hr) (pv 1) (pe_lst pa_nil) (nomark _)) (pss_one (ps_ret (pe_cmpR (kEq K rfl hr) (pe_ix (kIx K rfl) (pv 3) pe_int (fun _ _ => rfl)) (pe_tx [112, 114, 105, 99, 101] (by decide +kernel)) (nomark _)))) pss_nil)
  (pss_cons (ps_set (i := 4) sc__law_lot_holds.nd rfl (by first | exact Or.inl rfl | exact Or.inr rfl) (pe_ix (kIx K rfl) (pv 0) (pe_ix (kIx K rfl) (pv 1) pe_int (fun _ _ => rfl)) (fun _ _ => rfl)))
  (pss_cons (ps_if (pt_val (pe_callB (kIsi K rfl) (by rfl) T.n_isinstance (by decide +kernel) (pa_cons (pv 4) (pa_cons (pe_bltn (v := .ty "list") (by rfl) T.n_list (by decide +kernel) rfl) pa_nil)))) (pss_one (ps_expr (kBm K rfl PySem.F.plainAttrs_list PySem.F.slot_list_append PySem.F.type_list_append mt_append (pv 4) (pa_cons (pe_tx [109, 111, 114, 101] (by decide +kernel)) pa_nil)))) pss_nil)
  (pss_one (ps_ret (pe_and (pe_cmpR (kEq K rfl hr) (pe_ix (kIx K rfl) (pv 3) pe_int (fun _ _ => rfl)) (pe_tx [116, 101, 120, 116] (by decide +kernel)) (nomark _)) (pe_one (pe_cmpR (kEq K rfl hr) (pe_callB (kReprD K rfl hr hgd) (by rfl) T.n_repr (by decide +kernel) (pa_cons (pe_ix (kIx K rfl) (pv 3) pe_int (fun _ _ => rfl)) pa_nil)) (pe_callB (kReprD K rfl hr hgd) (by rfl) T.n_repr (by decide +kernel) (pa_cons (pv 4) pa_nil)) (nomark _)))))))))), ?_⟩
  walk_at "v0"
  refine ⟨p, nm, a, l, m, b, ba, bl, bm, bb, rfl, hp, F4, fun t H1 s1 ht h3 => ?_⟩
  walk_at "v"
  refine ⟨by walk_at "sz", fun e he => ?_⟩
  have hr1 := s1 _ _ hr'
  have hp1 := s1 _ _ hp
  refine w_eqNil (ks := ks) (by walk_at "hget") upd_same ?_
  refine w_k ?_
  have nte : t ≠ e := ne_of_none h3 he
  match ks, hr', hr1, hk, h1, h2 with
  | [], hr', hr1, hk, h1, h2 =>
    rw [h1 rfl] at h3
    have h3' : upd H1 e (.lst []) t = some (.lst [.str (tx [112, 114, 105, 99, 101]), .non]) := (upd_ne nte).trans h3
    walk_at "v"
    rw [decide_eq_true rfl]
    exact q _ fun c o hc _ => (same_new he) _ _ (s1 _ _ hc)
  | k :: ks', hr', hr1, hk, h1, h2 =>
    obtain ⟨v, hv, fb, kp, nvp⟩ := h2 k ks' rfl
    rw [fb] at h3
    have h3' : upd H1 e (.lst []) t = some (.lst [.str (tx [116, 101, 120, 116]), v]) := (upd_ne nte).trans h3
    have hrE : upd H1 e (.lst []) r = some (.lst (natL (k :: ks'))) := by walk_at "hget"
    have hpE : upd H1 e (.lst []) p = some (.lst [a, l, m, b]) := by walk_at "hget"
    have g0 : (natL (k :: ks'))[0]? = some (.int (k : Int)) := rfl
    have SE : Same H (upd H1 e (.lst [])) := Same.new s1 he
    refine w_ifF (decide_eq_false (by simp)) ?_
    walk_at "v"
    rcases kp with ⟨ty, s, k1, k2, k3, k4, k5⟩ | ⟨c, xs, s, rfl, k1, k2, k3, k4⟩
    · refine w_isiK (tyx_mono SE k1) k2 (.inr (.inr (.inr (.inl rfl)))) ?_
      have en : (ty == "list" || (ty == "bool" && "list" == "int")) = false := by simp [k3]
      rw [en]
      have sh := (Dv.mono SE _ _ k4).shown (K := K) k5
      walk_at "v"
      refine w_reprD sh ?_
      walk_at "v"
      refine w_reprD sh ?_
      walk_at "v"
      rw [decide_eq_true rfl]
      exact q _ fun c o hc _ => SE _ _ hc
    · have nt : t ≠ c := Ne.symm (ne_of_none k1 ht)
      have sh := (Dv.mono (same_upd SE) _ _ k3).shown (K := K) k4
      have hcE := SE _ _ k1
      refine w_isiL (SE _ _ k1) ?_ (by decide)
      walk_at "v"
      refine w_reprD sh ?_
      walk_at "v"
      refine w_reprD sh ?_
      walk_at "v"
      rw [decide_eq_true rfl]
      refine q _ fun b' o hc hn => ?_
      have nb : b' ≠ c := fun z => hn _ fb (by rw [z])
      rw [upd_ne nb]
      exact SE _ _ hc
end
end K74
set_option Elab.async false
set_option linter.all false
set_option maxRecDepth 100000
set_option maxHeartbeats 4000000
namespace K74
open PySem PySem.Spec PyProof.Rows L2 SL Lv
local macro_rules | `(tactic| walk_at "sz") => `(tactic| first
  | assumption
  | omega
  | (simp only [List.length_cons, List.length_nil, List.length_append, List.length_map, List.length_take, List.length_drop, List.length_reverse, List.length_replicate, List.length_range, tx_len, sizeLine_eq, CMul, CDiv, Nat.reduceAdd, Nat.reduceLeDiff]; first | done | omega)
  | decide)
local macro_rules | `(tactic| walk_at "ne") => `(tactic| first
  | assumption
  | exact Ne.symm (by assumption)
  | (refine ne_of_none (H := ?H0) (o := ?oo) ?hh ?hn; (case hn => assumption); (case hh => walk_at "hget"))
  | (refine Ne.symm (ne_of_none (H := ?H0) (o := ?oo) ?hh ?hn); (case hn => assumption); (case hh => walk_at "hget")))
local macro_rules | `(tactic| walk_at "hget") => `(tactic| first
  | assumption
  | exact upd_same
  | (refine (upd_ne ?n).trans ?g; (case n => walk_at "ne"); (case g => walk_at "hget"))
  | (refine fr_get (p := ?pp) (H := ?H0) ?f ?g ?n; (case f => assumption); (case g => walk_at "hget"); (case n => walk_at "ne"))
  | (refine same_get (H := ?H0) ?f ?g; (case f => assumption); (case g => walk_at "hget")))
local macro_rules | `(tactic| walk_at "vget") => `(tactic| first
  | assumption
  | (refine SqL.of ?g; (case g => walk_at "hget"))
  | (refine SqT.of ?g; (case g => walk_at "hget"))
  | (refine sql_new ?n ?g; (case n => assumption); (case g => walk_at "vget"))
  | (refine sqt_new ?n ?g; (case n => assumption); (case g => walk_at "vget"))
  | (refine sql_upd ?n ?g; (case n => walk_at "ne"); (case g => walk_at "vget"))
  | (refine sqt_upd ?n ?g; (case n => walk_at "ne"); (case g => walk_at "vget"))
  | (refine Same.seq (H := ?H0) ?f ?g; (case f => assumption); (case g => walk_at "vget"))
  | (refine Same.seqT (H := ?H0) ?f ?g; (case f => assumption); (case g => walk_at "vget"))
  | (refine fr_sql (b := ?pp) (H := ?H0) ?f ?g ?n; (case f => assumption); (case g => walk_at "vget"); (case n => walk_at "ne"))
  | (refine fr_sqt (b := ?pp) (H := ?H0) ?f ?g ?n; (case f => assumption); (case g => walk_at "vget"); (case n => walk_at "ne")))
local macro_rules | `(tactic| walk_at "at") => `(tactic| first
  | assumption
  | rfl
  | (refine atI_n ?h; (case h => first | assumption | rfl))
  | (refine atI_i ?h0 ?h; (case h0 => omega); (case h => first | assumption | rfl)))
local macro_rules | `(tactic| walk_at "v1") => `(tactic| first
  | with_reducible refine w_seq ?_
  | with_reducible refine w_enx ?_
  | with_reducible refine w_ert ?_
  | with_reducible refine w_asg ?_
  | ((with_reducible refine w_var (v := ?vv) ?h ?_); (case h => exact rfl))
  | with_reducible refine w_op ?_
  | with_reducible refine w_c ?_
  | with_reducible refine w_cons ?_
  | with_reducible refine w_nil ?_
  | with_reducible refine w_cb ?_
  | with_reducible refine w_call ?_
  | with_reducible refine w_k ?_
  | with_reducible refine w_i ?_
  | with_reducible refine w_two ?_
  | ((with_reducible refine w_name ?_); (try simp only [List.set_cons_zero, List.set_cons_succ]))
  | with_reducible refine w_ifS ?_
  | with_reducible refine w_ret ?_
  | with_reducible refine w_drop ?_
  | with_reducible refine w_test ?_
  | with_reducible refine w_B ?_
  | with_reducible refine iteT ?_
  | with_reducible refine iteF ?_
  | with_reducible refine w_same ?_
  | ((with_reducible refine w_ifT ?h ?_); (case h => first | rfl | assumption))
  | ((with_reducible refine w_ifF ?h ?_); (case h => first | rfl | assumption))
  | ((with_reducible refine w_diff ?_ ?h); (case h => decide +kernel))
  | ((with_reducible refine w_wp ?h ?_); (case h => rfl); (try simp only [wipe, List.set_cons_zero, List.set_cons_succ, List.foldl_cons, List.foldl_nil]))
  | ((with_reducible refine w_acc (acc := ?aa) ?h ?_ ?z); (case h => walk_at "hget"); (case z => walk_at "sz"))
  | with_reducible refine w_addI ?_
  | with_reducible refine w_subI ?_
  | with_reducible refine w_lt ?_
  | with_reducible refine w_le ?_
  | with_reducible refine w_gt ?_
  | with_reducible refine w_ge ?_
  | with_reducible refine w_eqI ?_
  | with_reducible refine w_neI ?_
  | with_reducible refine w_eqS ?_
  | with_reducible refine w_neS ?_
  | ((with_reducible refine w_mulI ?_ ?h); (case h => walk_at "sz"))
  | ((with_reducible refine w_divI ?_ ?h); (case h => walk_at "sz"))
  | ((with_reducible refine w_addS ?_ ?h); (case h => walk_at "sz"))
  | ((with_reducible refine w_mulS ?_ ?h); (case h => walk_at "sz"))
  | ((with_reducible refine w_ixL (xs := ?xx) (v := ?vv) ?h ?i ?_); (case h => walk_at "vget"); (case i => walk_at "at"))
  | ((with_reducible refine w_ixT (xs := ?xx) (v := ?vv) ?h ?i ?_); (case h => walk_at "vget"); (case i => walk_at "at"))
  | ((with_reducible refine w_ixS (c := ?cc) ?i ?_ ?h); (case i => walk_at "at"); (case h => walk_at "sz"))
  | ((with_reducible refine w_lenS' ?_ ?h); (case h => walk_at "sz"))
  | ((with_reducible refine w_lenL' (xs := ?xx) ?h ?_); (case h => walk_at "vget"))
  | ((with_reducible refine w_lenT' (xs := ?xx) ?h ?_); (case h => walk_at "vget"))
  | with_reducible refine w_isnN ?_
  | with_reducible refine w_isnI ?_
  | with_reducible refine w_isnS ?_
  | with_reducible refine w_isnR ?_
  | with_reducible refine w_isnB ?_
  | with_reducible refine w_isoN ?_
  | with_reducible refine w_isoI ?_
  | with_reducible refine w_isoS ?_
  | with_reducible refine w_isoR ?_
  | with_reducible refine w_isoB ?_
  | with_reducible refine w_abs ?_
  | with_reducible refine w_int ?_
  | with_reducible refine w_intB ?_
  | with_reducible refine w_min2 ?_
  | with_reducible refine w_max2 ?_
  | with_reducible refine w_min3 ?_
  | with_reducible refine w_sl ?_
  | with_reducible refine w_np ?_
  | with_reducible refine w_part ?_
  | ((with_reducible refine w_sStN ?_ ?h); (case h => walk_at "sz"))
  | ((with_reducible refine w_sSfN ?_ ?h); (case h => walk_at "sz"))
  | ((with_reducible refine w_sSt ?_ ?h); (case h => walk_at "sz"))
  | ((with_reducible refine w_sSf ?_ ?h); (case h => walk_at "sz"))
  | with_reducible refine w_and ?_
  | with_reducible refine w_or ?_
  | with_reducible refine w_not ?_
  | with_reducible refine w_andV ?_
  | with_reducible refine w_orV ?_
  | with_reducible refine w_notV ?_
  | with_reducible refine w_ifE ?_
  | with_reducible refine w_tup ?_
  | with_reducible refine w_lst ?_
  | with_reducible refine w_chain ?_
  | ((with_reducible refine w_par ?_); (try simp only [List.set_cons_zero, List.set_cons_succ]))
  | with_reducible refine w_un ?_
  | with_reducible refine w_neg ?_
  | with_reducible refine w_next ?_
  | with_reducible refine w_ebk ?_
  | with_reducible refine w_ect ?_
  | with_reducible refine w_for ?_
  | with_reducible refine w_lc ?_
  | with_reducible refine w_yes ?_
  | with_reducible refine w_il ?_
  | with_reducible refine w_it ?_
  | with_reducible refine w_isx ?_
  | with_reducible refine w_ir1 ?_
  | with_reducible refine w_ir2 ?_
  | with_reducible refine w_ies ?_
  | with_reducible refine w_s1 ?_
  | with_reducible refine w_s1l ?_
  | ((with_reducible refine w_r1 ?_ ?h); (case h => walk_at "sz"))
  | ((with_reducible refine w_r2 ?_ ?h); (case h => walk_at "sz"))
  | ((with_reducible refine w_l1 (xs := ?xx) ?h ?_); (case h => walk_at "vget"))
  | ((with_reducible refine w_t1 (xs := ?xx) ?h ?_); (case h => walk_at "vget"))
  | ((with_reducible refine w_isL (xs := ?xx) ?h ?_); (case h => walk_at "vget"))
  | with_reducible refine w_isS ?_
  | ((with_reducible refine w_app (xs := ?xx) ?h ?_ ?z); (case h => walk_at "hget"); (case z => walk_at "sz"))
  | with_reducible refine w_inC ?_
  | with_reducible refine w_rev ?_
  | ((with_reducible refine w_rev1S ?_ ?h); (case h => walk_at "sz"))
  | with_reducible refine w_lrg ?_
  | with_reducible refine w_brk ?_
  | with_reducible refine w_cont ?_
  | with_reducible refine w_retN ?_
  | with_reducible refine w_bm ?_
  | with_reducible refine w_bm0 ?_
  | with_reducible refine w_m1 ?_
  | with_reducible refine w_sub ?_
  | ((with_reducible refine w_setL (xs := ?xx) (j := ?jj) ?h ?i ?_); (case h => walk_at "hget"); (case i => first | rfl | assumption); (try simp only [Int.reduceToNat, List.set_cons_zero, List.set_cons_succ]))
  | with_reducible refine w_ip ?_
  | with_reducible refine w_gnil ?_
  | with_reducible refine w_gcons ?_
  | ((with_reducible refine w_gL (xs := ?xx) ?h ?_ ?n); (case h => walk_at "vget"); (case n => rfl))
  | ((with_reducible refine w_gT (xs := ?xx) ?h ?_ ?n); (case h => walk_at "vget"); (case n => rfl))
  | ((with_reducible refine w_aug (v := ?vv) ?h ?_); (case h => exact rfl)))
local macro_rules | `(tactic| walk_at "v") => `(tactic| repeat walk_at "v1")
local macro_rules | `(tactic| walk_at "v0") => `(tactic| (simp only [L2.start, cxK, ends_rt, List.map_cons, List.map_nil, List.length_cons, List.length_nil, Nat.reduceAdd, Nat.reduceSub, List.replicate_succ, List.replicate_zero, List.append_nil, List.cons_append, List.nil_append]; walk_at "v"))
local macro_rules | `(tactic| walk_at "u1") => `(tactic| first
  | with_reducible refine w_seqA ?_
  | with_reducible refine w_seqD ?_
  | with_reducible refine w_seqP ?_
  | with_reducible refine w_seqG ?_
  | ((fail_if_success (with_reducible refine w_seq ?_)); walk_at "v1"))
local macro_rules | `(tactic| walk_at "u") => `(tactic| repeat walk_at "u1")
local macro_rules | `(tactic| walk_at "u0") => `(tactic| (simp only [L2.start, cxK, ends_rt, List.map_cons, List.map_nil, List.length_cons, List.length_nil, Nat.reduceAdd, Nat.reduceSub, List.replicate_succ, List.replicate_zero, List.append_nil, List.cons_append, List.nil_append]; walk_at "u"))
local macro_rules | `(tactic| walk_at "t1") => `(tactic| ((fail_if_success (with_reducible refine w_seq ?_)); walk_at "v1"))
local macro_rules | `(tactic| walk_at "t") => `(tactic| repeat walk_at "t1")

section
variable {P : Program} {w : World} {K : PySem.W.Frag} {mg : Str → Option Value} {base : Heap}
theorem odd_fact {vs : List V} {ds : List PyData} {i : Nat} {v : V} {l : List Addr} {M Z : Hp} (o : Odds M l vs ds) (h : vs[i]? = some v) (all : ∀ d ∈ ds, okA d = true) (s : ∀ b o, M b = some o → b ∉ l → Z b = some o) :
    ∃ d, d ∈ ds ∧ Dv Z v d ∧ Keep K Z v ∧ ∀ c ∈ l, v ≠ .ref c := by
  obtain ⟨d, hd, hv, hk⟩ := o.get h
  have S := hide_to s
  have md := List.mem_of_getElem? hd
  have ok := all d md
  unfold okA at ok
  rw [Bool.and_eq_true] at ok
  refine ⟨d, md, Dv.mono S d v hv, ?_, fun c hc e => dv_in (e ▸ hv) hc⟩
  rcases hk with hk | ⟨a, l', ds', rfl, ha, rfl, dv'⟩
  · exact .inl ⟨kindD d, d, (Dv.mono S d v hv).ty, kind_ok d, by simpa using hk, Dv.mono S d v hv, ok.1⟩
  · have o2 := ok.2
    simp only [Bool.and_eq_true, decide_eq_true_eq] at o2
    have hl : l'.length = ds'.length := by
      cases dv' with
      | lst h1 h2 =>
        rw [upd_same] at h1
        have := h2.len
        cases h1
        simpa using this
    exact .inr ⟨a, l', _, rfl, s _ _ ha (dv_in hv), by omega, Dv.mono (same_upd S) _ _ dv', o2.1⟩
theorem lag_fact {xs : List V} {i : Nat} {v : V} {l : List Addr} {M Z : Hp} (o : Odds M l xs lagD) (h : xs[i]? = some v) (s : ∀ b o, M b = some o → b ∉ l → Z b = some o) : IsLg K Z v false ∧ Keep K Z v ∧ ∀ c ∈ l, v ≠ .ref c := by
  have al := List.all_eq_true.mp lag_all
  obtain ⟨d, md, dv, k, n⟩ := odd_fact (K := K) o h (fun d hd => by have := al d hd; simp only [Bool.and_eq_true] at this; exact this.1.1) s
  have := al d md
  simp only [Bool.and_eq_true] at this
  exact ⟨dv.lg this.2 this.1.2, k, n⟩
theorem text_fact {xs : List V} {i : Nat} {v : V} {l : List Addr} {M Z : Hp} (o : Odds M l xs textD) (h : xs[i]? = some v) (s : ∀ b o, M b = some o → b ∉ l → Z b = some o) : IsTx K Z v false ∧ Keep K Z v ∧ ∀ c ∈ l, v ≠ .ref c := by
  have al := List.all_eq_true.mp text_all
  obtain ⟨d, md, dv, k, n⟩ := odd_fact (K := K) o h (fun d hd => by have := al d hd; simp only [Bool.and_eq_true] at this; exact this.1.1) s
  have := al d md
  simp only [Bool.and_eq_true] at this
  have e : txB d = false := by simpa using this.1.2
  exact ⟨e ▸ dv.tx this.2, k, n⟩
/-- which parts are wrong -/
def wl (lot i : Nat) : List Nat := (List.range i).filter fun k => decide (lot / 2 ^ k % 2 = 1)
theorem wl_more (lot i : Nat) : wl lot (i + 1) = wl lot i ++ (if lot / 2 ^ i % 2 = 1 then [i] else []) := by
  unfold wl
  rw [List.range_succ, List.filter_append]
  by_cases h : lot / 2 ^ i % 2 = 1
  · rw [if_pos h]; simp [h]
  · rw [if_neg h]; simp [h]
theorem wl_lt {lot i k : Nat} (h : k ∈ wl lot i) : k < i := List.mem_range.mp (List.mem_filter.mp h).1
theorem wl_len (lot : Nat) : (wl lot 4).length ≤ 4 := Nat.le_trans (List.length_filter_le _ _) (by simp)
theorem wl_fst : ∀ lot : Fin 16, ∀ k : Fin 4, (wl lot.val 4).head? = some k.val → ∀ j : Fin 4, j.val < k.val → ¬ j.val ∈ wl lot.val 4 := by decide +kernel
theorem wl_first (lot : Nat) (h : lot < 16) (k : Nat) (hk : k < 4) (e : (wl lot 4).head? = some k) (j : Nat) (hj : j < k) : j ∉ wl lot 4 := wl_fst ⟨lot, h⟩ ⟨k, hk⟩ e ⟨j, by omega⟩ hj
theorem pow_item {k : Nat} (hk : k < 4) : ∃ d : Nat, [V.int 1, .int 2, .int 4, .int 8][k]? = some (.int d) ∧ d = 2 ^ k ∧ (d = 1 ∨ d = 2 ∨ d = 4 ∨ d = 8) := by
  match k, hk with
  | 0, _ => exact ⟨1, rfl, rfl, by omega⟩
  | 1, _ => exact ⟨2, rfl, rfl, by omega⟩
  | 2, _ => exact ⟨4, rfl, rfl, by omega⟩
  | 3, _ => exact ⟨8, rfl, rfl, by omega⟩
/-- a part, as it is in the end -/
def pk (ks : List Nat) (k : Nat) (g o : V) : V := if k ∈ ks then o else g
def bk (ks : List Nat) (k : Nat) : Bool := !decide (k ∈ ks)
theorem first_of {ks : List Nat} {g0 g1 g2 g3 o0 o1 o2 o3 : V} {k : Nat} {r : List Nat} (e : ks = k :: r) (hk : k < 4) (hf : ∀ j, j < k → j ∉ ks) :
    [pk ks 0 g0 o0, pk ks 1 g1 o1, pk ks 2 g2 o2, pk ks 3 g3 o3][k]? = [o0, o1, o2, o3][k]? ∧ firstBad (pk ks 0 g0 o0) (pk ks 1 g1 o1) (pk ks 2 g2 o2) (pk ks 3 g3 o3) (bk ks 0) (bk ks 1) (bk ks 2) (bk ks 3) = [o0, o1, o2, o3][k]? := by
  have hm : k ∈ ks := by rw [e]; simp
  unfold firstBad pk bk
  match k, hk with
  | 0, _ => simp [hm]
  | 1, _ =>
    have n0 := hf 0 (by omega)
    simp [hm, n0]
  | 2, _ =>
    have n0 := hf 0 (by omega)
    have n1 := hf 1 (by omega)
    simp [hm, n0, n1]
  | 3, _ =>
    have n0 := hf 0 (by omega)
    have n1 := hf 1 (by omega)
    have n2 := hf 2 (by omega)
    simp [hm, n0, n1, n2]
theorem pk_set {js : List Nat} {g0 g1 g2 g3 o0 o1 o2 o3 o : V} {k : Nat} (hk : k < 4) (ho : [o0, o1, o2, o3][k]? = some o) :
    [pk js 0 g0 o0, pk js 1 g1 o1, pk js 2 g2 o2, pk js 3 g3 o3].set k o = [pk (js ++ [k]) 0 g0 o0, pk (js ++ [k]) 1 g1 o1, pk (js ++ [k]) 2 g2 o2, pk (js ++ [k]) 3 g3 o3] := by
  unfold pk
  match k, hk with
  | 0, _ => simp at ho; simp [ho]
  | 1, _ => simp at ho; simp [ho]
  | 2, _ => simp at ho; simp [ho]
  | 3, _ => simp at ho; simp [ho]
theorem odd_ne {vs : List V} {ds : List PyData} {i : Nat} {v : V} {c : Addr} {M : Hp} (o : Odds M [c] vs ds) (h : vs[i]? = some v) : v ≠ .ref c := fun e => by
  obtain ⟨d, _, hv, _⟩ := o.get h
  exact dv_in (e ▸ hv) (by simp)
theorem four_of {K : PySem.W.Frag} {Z : Hp} {ks : List Nat} {v0 v3 w0 w1 w2 w3 : V} {l1 l2 : List Nat} (g0 : (∃ x y, IsSmall K Z v0 x y) ∧ IsLg K Z v0 true) (g3 : (∃ x y, IsSmall K Z v3 x y) ∧ IsLg K Z v3 true)
    (z1 : Let l1) (y1 : l1.length ≤ 100) (z2 : Let l2) (y2 : l2.length ≤ 100) (o0 : IsLg K Z w0 false) (o1 : IsTx K Z w1 false) (o2 : IsTx K Z w2 false) (o3 : IsLg K Z w3 false) :
    Four K Z (pk ks 0 v0 w0) (pk ks 1 (.str (tx l1)) w1) (pk ks 2 (.str (tx l2)) w2) (pk ks 3 v3 w3) (bk ks 0) (bk ks 1) (bk ks 2) (bk ks 3) := by
  constructor
  · unfold pk bk; by_cases h : 0 ∈ ks <;> simp only [h, if_true, if_false, decide_true, decide_false, Bool.not_true, Bool.not_false] <;> first | exact o0 | exact g0.2
  · unfold pk bk; by_cases h : 1 ∈ ks <;> simp only [h, if_true, if_false, decide_true, decide_false, Bool.not_true, Bool.not_false] <;> first | exact o1 | exact .inl ⟨l1, rfl, by omega, (decide_eq_true z1).symm⟩
  · unfold pk bk; by_cases h : 2 ∈ ks <;> simp only [h, if_true, if_false, decide_true, decide_false, Bool.not_true, Bool.not_false] <;> first | exact o2 | exact .inl ⟨l2, rfl, by omega, (decide_eq_true z2).symm⟩
  · unfold pk bk; by_cases h : 3 ∈ ks <;> simp only [h, if_true, if_false, decide_true, decide_false, Bool.not_true, Bool.not_false] <;> first | exact o3 | exact g3.2
  · unfold pk bk; by_cases h : 0 ∈ ks
    · simp [h]
    · intro _; rw [if_neg h]; exact g0.1
  · unfold pk bk; by_cases h : 3 ∈ ks
    · simp [h]
    · intro _; rw [if_neg h]; exact g3.1
  · unfold pk bk; by_cases h : 1 ∈ ks
    · simp [h]
    · intro _; rw [if_neg h]; exact ⟨l1, rfl, by omega, z1⟩
  · unfold pk bk; by_cases h : 2 ∈ ks
    · simp [h]
    · intro _; rw [if_neg h]; exact ⟨l2, rfl, by omega, z2⟩
theorem four_items {w0 w1 w2 w3 v : V} {k : Nat} (hk : k < 4) (h : [w0, w1, w2, w3][k]? = some v) {Pr : V → Prop} (p0 : Pr w0) (p1 : Pr w1) (p2 : Pr w2) (p3 : Pr w3) : Pr v := by
  match k, hk with
  | 0, _ => simp at h; rw [← h]; exact p0
  | 1, _ => simp at h; rw [← h]; exact p1
  | 2, _ => simp at h; rw [← h]; exact p2
  | 3, _ => simp at h; rw [← h]; exact p3
theorem box_keep {H H' : Hp} {p : Addr} {c : Nat} (h : Box H p c) (k : ∀ o, H p = some o → H' p = some o) : Box H' p c := by
  obtain ⟨g, b, m, d, h1, h2⟩ := h
  exact ⟨g, b, m, d, k _ h1, h2⟩
/-- the good parts -/
structure Good (gd wd e1 e2 e3 e4 e5 : Addr) (H : Hp) : Prop where
  g : H gd = some (.lst [.ref e1, .ref e2, .ref e3, .ref e4, .ref e5])
  w : H wd = some (.lst [.str (tx []), .str (tx [97]), .str (tx abc), .str (tx [122, 122])])
  h1 : H e1 = some (.tup [.str (tx []), .str (tx [])])
  h2 : H e2 = some (.tup [.str (tx []), .str (tx [97, 98, 99])])
  h3 : H e3 = some (.tup [.str (tx [122, 121]), .str (tx [])])
  h4 : H e4 = some (.tup [.str (tx []), .str (tx abc)])
  h5 : H e5 = some (.tup [.str (tx [97]), .str (tx [])])
theorem fin_good {gd wd e1 e2 e3 e4 e5 : Addr} {H : Hp} (n1 : H e1 = none) (n2 : upd H e1 (.tup [.str (tx []), .str (tx [])]) e2 = none)
    (n3 : upd (upd H e1 (.tup [.str (tx []), .str (tx [])])) e2 (.tup [.str (tx []), .str (tx [97, 98, 99])]) e3 = none)
    (n4 : upd (upd (upd H e1 (.tup [.str (tx []), .str (tx [])])) e2 (.tup [.str (tx []), .str (tx [97, 98, 99])])) e3 (.tup [.str (tx [122, 121]), .str (tx [])]) e4 = none)
    (n5 : upd (upd (upd (upd H e1 (.tup [.str (tx []), .str (tx [])])) e2 (.tup [.str (tx []), .str (tx [97, 98, 99])])) e3 (.tup [.str (tx [122, 121]), .str (tx [])])) e4 (.tup [.str (tx []), .str (tx abc)]) e5 = none)
    (n6 : upd (upd (upd (upd (upd H e1 (.tup [.str (tx []), .str (tx [])])) e2 (.tup [.str (tx []), .str (tx [97, 98, 99])])) e3 (.tup [.str (tx [122, 121]), .str (tx [])])) e4 (.tup [.str (tx []), .str (tx abc)])) e5 (.tup [.str (tx [97]), .str (tx [])]) gd = none)
    (n7 : upd (upd (upd (upd (upd (upd H e1 (.tup [.str (tx []), .str (tx [])])) e2 (.tup [.str (tx []), .str (tx [97, 98, 99])])) e3 (.tup [.str (tx [122, 121]), .str (tx [])])) e4 (.tup [.str (tx []), .str (tx abc)])) e5 (.tup [.str (tx [97]), .str (tx [])])) gd (.lst [.ref e1, .ref e2, .ref e3, .ref e4, .ref e5]) wd = none) :
    Good gd wd e1 e2 e3 e4 e5 (upd (upd (upd (upd (upd (upd (upd H e1 (.tup [.str (tx []), .str (tx [])])) e2 (.tup [.str (tx []), .str (tx [97, 98, 99])])) e3 (.tup [.str (tx [122, 121]), .str (tx [])])) e4 (.tup [.str (tx []), .str (tx abc)])) e5 (.tup [.str (tx [97]), .str (tx [])])) gd (.lst [.ref e1, .ref e2, .ref e3, .ref e4, .ref e5])) wd (.lst [.str (tx []), .str (tx [97]), .str (tx abc), .str (tx [122, 122])])) := by
  refine fin_new (R := fun F => Good gd wd e1 e2 e3 e4 e5 F) fun F T7 g7 => ?_
  have T6 := (same_new n7).trans T7
  have T5 := (same_new n6).trans T6
  have T4 := (same_new n5).trans T5
  have T3 := (same_new n4).trans T4
  have T2 := (same_new n3).trans T3
  have T1 := (same_new n2).trans T2
  exact ⟨T6 _ _ upd_same, g7, T1 _ _ upd_same, T2 _ _ upd_same, T3 _ _ upd_same, T4 _ _ upd_same, T5 _ _ upd_same⟩
theorem Good.keep {gd wd e1 e2 e3 e4 e5 : Addr} {H H' : Hp} (G : Good gd wd e1 e2 e3 e4 e5 H) (k : ∀ c ∈ [gd, wd, e1, e2, e3, e4, e5], ∀ o, H c = some o → H' c = some o) : Good gd wd e1 e2 e3 e4 e5 H' :=
  ⟨k _ (by simp) _ G.g, k _ (by simp) _ G.w, k _ (by simp) _ G.h1, k _ (by simp) _ G.h2, k _ (by simp) _ G.h3, k _ (by simp) _ G.h4, k _ (by simp) _ G.h5⟩
theorem good_item {gd wd e1 e2 e3 e4 e5 : Addr} {k : Nat} (hk : k < 5) : ∃ v, [V.ref e1, .ref e2, .ref e3, .ref e4, .ref e5][k]? = some v ∧ ∀ (K : PySem.W.Frag) (H : Hp), Good gd wd e1 e2 e3 e4 e5 H → (∃ x y, IsSmall K H v x y) ∧ IsLg K H v true := by
  have mk : ∀ (K : PySem.W.Frag) (H : Hp) (e : Addr) (x y : List Nat), H e = some (.tup [.str (tx x), .str (tx y)]) → (x = [] ∨ y = []) → x.length ≤ 1000 → y.length ≤ 1000 → Let x → Let y → (∃ x y, IsSmall K H (.ref e) x y) ∧ IsLg K H (.ref e) true :=
    fun K H e x y h hxy zx zy lx ly => ⟨⟨x, y, e, rfl, h, by omega, by omega, lx, ly⟩, .inr ⟨e, _, rfl, h, .inr (.inr (.inr ⟨x, y, rfl, by omega, by omega, lx, ly, (decide_eq_true hxy).symm⟩))⟩⟩
  match k, hk with
  | 0, _ => exact ⟨_, rfl, fun K H G => mk K H _ _ _ G.h1 (by simp) (by decide) (by decide) (by decide) (by decide)⟩
  | 1, _ => exact ⟨_, rfl, fun K H G => mk K H _ _ _ G.h2 (by simp) (by decide) (by decide) (by decide) (by decide)⟩
  | 2, _ => exact ⟨_, rfl, fun K H G => mk K H _ _ _ G.h3 (by simp) (by decide) (by decide) (by decide) (by decide)⟩
  | 3, _ => exact ⟨_, rfl, fun K H G => mk K H _ _ _ G.h4 (by simp) (by decide) (by decide) (by decide) (by decide)⟩
  | 4, _ => exact ⟨_, rfl, fun K H G => mk K H _ _ _ G.h5 (by simp) (by decide) (by decide) (by decide) (by decide)⟩
theorem word_item {k : Nat} (hk : k < 4) : ∃ l, [V.str (tx []), .str (tx [97]), .str (tx abc), .str (tx [122, 122])][k]? = some (.str (tx l)) ∧ Let l ∧ l.length ≤ 100 := by
  match k, hk with
  | 0, _ => exact ⟨_, rfl, by decide, by decide⟩
  | 1, _ => exact ⟨_, rfl, by decide, by decide⟩
  | 2, _ => exact ⟨_, rfl, by decide, by decide⟩
  | 3, _ => exact ⟨_, rfl, by decide, by decide⟩
def spRight : Sp := fun vs H Q _ => ∃ (p : Addr) (c : Nat), vs = [.ref p] ∧ Box H p c ∧ c ≤ 1000 ∧ ∀ H', SL.Fr p H H' → Q (.bl true) H'
theorem ok__law_right (T : Txt K mg) (c__law_take : Cal P w K mg base 1 "_law_take" ["box", "many"] spTake) (c__law_odd_lags : Cal P w K mg base 1 "_law_odd_lags" [] spOddL) (c__law_odd_texts : Cal P w K mg base 1 "_law_odd_texts" [] spOddT)
    (c__law_lot_holds : Cal P w K mg base 8 "_law_lot_holds" ["parts", "wrong", "named"] (spLot K)) : Cal P w K mg base 9 "_law_right" ["box"] spRight := by
  refine cal0 T.d__law_right sc__law_right (by rintro vs H Q E ⟨p, c, rfl, _⟩; rfl) (fun cdv f A outer s H vs Q E hr hgd h => ?_)
  obtain ⟨p, c, rfl, hb, hc, q⟩ := h
  refine ⟨_, (pss_cons (ps_par (i := 4) (j := 5) (by rfl) sc__law_right.nd rfl rfl (by decide) rfl rfl (pa_cons (pe_callB (kLen K rfl) (by rfl) T.n_len (by decide +kernel) (pa_cons (pe_g0 c__law_odd_lags hr (by decide) hgd (by rfl) noX) pa_nil)) (pa_cons (pe_callB (kLen K rfl) (by rfl) T.n_len (by decide +kernel) (pa_cons (pe_g0 c__law_odd_texts hr (by decide) hgd (by rfl) noX) pa_nil)) pa_nil)) (by rfl))
  (pss_cons (ps_par (i := 6) (j := 7) (by rfl) sc__law_right.nd rfl rfl (by decide) rfl rfl (pa_cons (pe_g c__law_take hr (by decide) hgd (by rfl) noX (pa_cons (pv 0) (pa_cons (pv 4) pa_nil))) (pa_cons (pe_g c__law_take hr (by decide) hgd (by rfl) noX (pa_cons (pv 0) (pa_cons (pv 5) pa_nil))) pa_nil)) (by rfl))
  (pss_cons (ps_par (i := 8) (j := 9) (by rfl) sc__law_right.nd rfl rfl (by decide) rfl rfl (pa_cons (pe_op uMod (pe_callTy uInt (by rfl) T.n_int (by decide +kernel) (pa_cons (pe_op (kAdd K rfl) (pe_op (kAdd K rfl) (pv 6) pe_int) (pe_g c__law_take hr (by decide) hgd (by rfl) noX (pa_cons (pv 0) (pa_cons (pe_op uSub (pv 4) pe_int) pa_nil)))) pa_nil)) (pv 4)) (pa_cons (pe_op uMod (pe_callTy uInt (by rfl) T.n_int (by decide +kernel) (pa_cons (pe_op (kAdd K rfl) (pe_op (kAdd K rfl) (pv 7) pe_int) (pe_g c__law_take hr (by decide) hgd (by rfl) noX (pa_cons (pv 0) (pa_cons (pe_op uSub (pv 5) pe_int) pa_nil)))) pa_nil)) (pv 5)) pa_nil)) (by rfl))
  (pss_cons (ps_set (i := 1) sc__law_right.nd rfl (by first | exact Or.inl rfl | exact Or.inr rfl) (pe_lst (pa_cons (pe_tup (pa_cons (pe_tx [] (by decide +kernel)) (pa_cons (pe_tx [] (by decide +kernel)) pa_nil))) (pa_cons (pe_tup (pa_cons (pe_tx [] (by decide +kernel)) (pa_cons (pe_tx [97, 98, 99] (by decide +kernel)) pa_nil))) (pa_cons (pe_tup (pa_cons (pe_tx [122, 121] (by decide +kernel)) (pa_cons (pe_tx [] (by decide +kernel)) pa_nil))) (pa_cons (pe_tup (pa_cons (pe_tx [] (by decide +kernel)) (pa_cons (pe_tx abc (by decide +kernel)) pa_nil))) (pa_cons (pe_tup (pa_cons (pe_tx [97] (by decide +kernel)) (pa_cons (pe_tx [] (by decide +kernel)) pa_nil))) pa_nil)))))))
  (pss_cons (ps_set (i := 2) sc__law_right.nd rfl (by first | exact Or.inl rfl | exact Or.inr rfl) (pe_lst (pa_cons (pe_tx [] (by decide +kernel)) (pa_cons (pe_tx [97] (by decide +kernel)) (pa_cons (pe_tx abc (by decide +kernel)) (pa_cons (pe_tx [122, 122] (by decide +kernel)) pa_nil))))))
  (pss_cons (ps_for PassesOwn.never rfl (pi_range1 (by rfl) T.n_range (pa_cons pe_int pa_nil)) (pg_name (i := 3) sc__law_right.nd rfl (by first | exact Or.inl rfl | exact Or.inr rfl))
  (pss_cons (ps_set (i := 10) sc__law_right.nd rfl (by first | exact Or.inl rfl | exact Or.inr rfl) (pe_lst (pa_cons (pe_ix (kIx K rfl) (pv 1) (pe_g c__law_take hr (by decide) hgd (by rfl) noX (pa_cons (pv 0) (pa_cons pe_int pa_nil))) (fun _ _ => rfl)) (pa_cons (pe_ix (kIx K rfl) (pv 2) (pe_g c__law_take hr (by decide) hgd (by rfl) noX (pa_cons (pv 0) (pa_cons pe_int pa_nil))) (fun _ _ => rfl)) (pa_cons (pe_ix (kIx K rfl) (pv 2) (pe_g c__law_take hr (by decide) hgd (by rfl) noX (pa_cons (pv 0) (pa_cons pe_int pa_nil))) (fun _ _ => rfl)) (pa_cons (pe_ix (kIx K rfl) (pv 1) (pe_g c__law_take hr (by decide) hgd (by rfl) noX (pa_cons (pv 0) (pa_cons pe_int pa_nil))) (fun _ _ => rfl)) pa_nil))))))
  (pss_cons (ps_setLc (i := 11) (own := [("k", 13)]) rfl sc__law_right.nd rfl rfl (sw_true rfl rfl rfl (by decide +kernel)) (pi_range1 (by rfl) T.n_range (pa_cons pe_int pa_nil)) (blkOk_by (own := [("k", 13)]) (N := N__law_right) (sc := defScope s__law_right) (by decide +kernel)) (fun _ _ _ _ _ => (pg_name (i := 13) sc__law_right.nd rfl (by first | exact Or.inl rfl | exact Or.inr rfl))) (fun _ _ _ _ _ => (pts_one (pt_cmpR (kEq K rfl hr) (pe_op uMod (pe_op uDiv (pv 3) (pe_ix (kIx K rfl) (pe_lst (pa_cons pe_int (pa_cons pe_int (pa_cons pe_int (pa_cons pe_int pa_nil))))) (pv 13) (fun _ _ => rfl))) pe_int) pe_int (nomark _)))) (fun _ _ _ _ _ => (pv 13)))
  (pss_cons (ps_set (i := 12) sc__law_right.nd rfl (by first | exact Or.inl rfl | exact Or.inr rfl) (pe_lst (pa_cons (pe_ix (kIx K rfl) (pe_g0 c__law_odd_lags hr (by decide) hgd (by rfl) noX) (pv 6) (fun _ _ => rfl)) (pa_cons (pe_ix (kIx K rfl) (pe_g0 c__law_odd_texts hr (by decide) hgd (by rfl) noX) (pv 7) (fun _ _ => rfl)) (pa_cons (pe_ix (kIx K rfl) (pe_g0 c__law_odd_texts hr (by decide) hgd (by rfl) noX) (pv 9) (fun _ _ => rfl)) (pa_cons (pe_ix (kIx K rfl) (pe_g0 c__law_odd_lags hr (by decide) hgd (by rfl) noX) (pv 8) (fun _ _ => rfl)) pa_nil))))))
  (pss_cons (ps_for PassesOwn.never rfl (kiList K rfl (pv 11)) (pg_name (i := 13) sc__law_right.nd rfl (by first | exact Or.inl rfl | exact Or.inr rfl))
  (pss_one (ps_asg (pe_ix (kIx K rfl) (pv 12) (pv 13) (fun _ _ => rfl)) (pg_sub (pv 10) (pv 13) set_list))))
  (pss_one (ps_if (pt_not (pt_val (pe_g c__law_lot_holds hr (by decide) hgd (by rfl) noX (pa_cons (pv 10) (pa_cons (pv 11) (pa_cons (pe_cmpR (kEq K rfl hr) (pe_g c__law_take hr (by decide) hgd (by rfl) noX (pa_cons (pv 0) (pa_cons pe_int pa_nil))) pe_int (nomark _)) pa_nil)))))) (pss_one (ps_ret pe_bl)) pss_nil)))))))
  (pss_one (ps_ret pe_bl)))))))), ?_⟩
  walk_at "v0"
  refine ⟨rfl, fun r1 xs1 H1 s1 g1 z1 o1 => ?_⟩
  walk_at "v"
  refine ⟨rfl, fun r2 xs2 H2 s2 g2 z2 o2 => ?_⟩
  walk_at "v"
  have b2 := (hb.same s1).same s2
  refine take_w (N := xs1.length) rfl b2 (by omega) fun i H3 hi b3 f3 => ?_
  walk_at "v"
  refine take_w (N := xs2.length) rfl b3 (by omega) fun a H4 ha b4 f4 => ?_
  walk_at "v"
  refine take_w (N := 19) (by omega) b4 (by omega) fun j0 H5 hj0 b5 f5 => ?_
  walk_at "v"
  refine w_modN (by omega) fun j _ j1 j2 => ?_
  obtain ⟨j, rfl⟩ := Int.eq_ofNat_of_zero_le j1
  walk_at "v"
  refine take_w (N := 16) (by omega) b5 (by omega) fun k0 H6 hk0 b6 f6 => ?_
  walk_at "v"
  refine w_modN (by omega) fun b _ w1 w2 => ?_
  obtain ⟨b, rfl⟩ := Int.eq_ofNat_of_zero_le w1
  walk_at "v"
  refine ⟨by walk_at "sz", fun e1 n1 => ?_⟩
  walk_at "v"
  refine ⟨by walk_at "sz", fun e2 n2 => ?_⟩
  walk_at "v"
  refine ⟨by walk_at "sz", fun e3 n3 => ?_⟩
  walk_at "v"
  refine ⟨by walk_at "sz", fun e4 n4 => ?_⟩
  walk_at "v"
  refine ⟨by walk_at "sz", fun e5 n5 => ?_⟩
  walk_at "v"
  refine ⟨by walk_at "sz", fun gd n6 => ?_⟩
  walk_at "v"
  refine ⟨by walk_at "sz", fun wd n7 => ?_⟩
  walk_at "v"
  have sm : Same H6 _ := (same_new n1).trans ((same_new n2).trans ((same_new n3).trans ((same_new n4).trans ((same_new n5).trans ((same_new n6).trans (same_new (o := .lst [.str (tx []), .str (tx [97]), .str (tx abc), .str (tx [122, 122])]) n7))))))
  have b7 := b6.same sm
  have F7 : SL.Fr p H _ := ((Fr.of (s1.trans s2)).trans (f3.trans (f4.trans (f5.trans f6)))).trans (Fr.of sm)
  refine for_rg (n := 16) (by omega) (fun lot σ H' => ∃ x3 x10 x11 x12 x13 c', σ = [some (.ref p), some (.ref gd), some (.ref wd), x3, some (.int (xs1.length : Nat)), some (.int (xs2.length : Nat)), some (.int i), some (.int a), some (.int j), some (.int b), x10, x11, x12, x13] ∧
    c' ≤ 2000 + 100 * lot ∧ Box H' p c' ∧ SL.Fr p H H' ∧ Good gd wd e1 e2 e3 e4 e5 H' ∧ (∀ c ∈ [gd, wd, e1, e2, e3, e4, e5], c ≠ p)) ⟨_, _, _, _, _, _, rfl, by omega, b7, F7, ?_, ?_⟩ ?_ ?_
  · have TG := fin_good n1 n2 n3 n4 n5 n6 n7
    exact TG
  · intro c hc
    have hx : ∃ o, H6 p = some o := b6.has
    obtain ⟨o, ho⟩ := hx
    have k1 : e1 ≠ p := Ne.symm (ne_of_none ho n1)
    have k2 : e2 ≠ p := Ne.symm (ne_of_none ((same_new n1) _ _ ho) n2)
    have k3 : e3 ≠ p := Ne.symm (ne_of_none (((same_new n1).trans (same_new n2)) _ _ ho) n3)
    have k4 : e4 ≠ p := Ne.symm (ne_of_none (((same_new n1).trans ((same_new n2).trans (same_new n3))) _ _ ho) n4)
    have k5 : e5 ≠ p := Ne.symm (ne_of_none (((same_new n1).trans ((same_new n2).trans ((same_new n3).trans (same_new n4)))) _ _ ho) n5)
    have k6 : gd ≠ p := Ne.symm (ne_of_none (((same_new n1).trans ((same_new n2).trans ((same_new n3).trans ((same_new n4).trans (same_new n5))))) _ _ ho) n6)
    have k7 : wd ≠ p := Ne.symm (ne_of_none (((same_new n1).trans ((same_new n2).trans ((same_new n3).trans ((same_new n4).trans ((same_new n5).trans (same_new n6)))))) _ _ ho) n7)
    simp only [List.mem_cons, List.not_mem_nil, or_false] at hc
    rcases hc with rfl | rfl | rfl | rfl | rfl | rfl | rfl
    · exact k6
    · exact k7
    · exact k1
    · exact k2
    · exact k3
    · exact k4
    · exact k5
  · rintro lot σ H1' hlot ⟨x3, x10, x11, x12, x13, c', rfl, hc', bx, fr, G, np⟩
    walk_at "v"
    refine take_w (N := 5) rfl bx (by omega) fun q0 K1 hq0 B1 F1 => ?_
    have G1 := G.keep fun c hc o h => F1 c o h (np c hc)
    obtain ⟨v0, i0, P0⟩ := good_item (gd := gd) (wd := wd) (e1 := e1) (e2 := e2) (e3 := e3) (e4 := e4) (e5 := e5) hq0
    have gg1 := G1.g
    walk_at "v"
    refine take_w (N := 4) rfl B1 (by omega) fun q1 K2 hq1 B2 F2 => ?_
    have G2 := G1.keep fun c hc o h => F2 c o h (np c hc)
    obtain ⟨l1, i1, ll1, zl1⟩ := word_item hq1
    have gw2 := G2.w
    walk_at "v"
    refine take_w (N := 4) rfl B2 (by omega) fun q2 K3 hq2 B3 F3 => ?_
    have G3 := G2.keep fun c hc o h => F3 c o h (np c hc)
    obtain ⟨l2, i2, ll2, zl2⟩ := word_item hq2
    have gw3 := G3.w
    walk_at "v"
    refine take_w (N := 5) rfl B3 (by omega) fun q3 K4 hq3 B4 F4 => ?_
    have G4 := G3.keep fun c hc o h => F4 c o h (np c hc)
    obtain ⟨v3, i3, P3⟩ := good_item (gd := gd) (wd := wd) (e1 := e1) (e2 := e2) (e3 := e3) (e4 := e4) (e5 := e5) hq3
    have gg4 := G4.g
    walk_at "v"
    refine ⟨by walk_at "sz", fun ps nps => ?_⟩
    walk_at "v"
    have PS : Same K4 (upd K4 ps (.lst [v0, .str (tx l1), .str (tx l2), v3])) := same_new nps
    intro D hD
    have nDp : ps ≠ D := ne_of_none upd_same hD
    refine lc_rg (n := 4) rfl (fun i' H' => Same (upd K4 ps (.lst [v0, .str (tx l1), .str (tx l2), v3])) H' ∧ H' D = some (.lst (natL (wl lot i')))) ⟨same_new hD, upd_same⟩ ?_ ?_
    · rintro k K5 hk ⟨s5, h5⟩
      have zl := Nat.le_trans (List.length_filter_le (fun k => decide (lot / 2 ^ k % 2 = 1)) (List.range k)) (by rw [List.length_range]; exact Nat.le_refl _)
      have zl' : (natL (wl lot k)).length ≤ k := by unfold natL; rw [List.length_map]; exact zl
      obtain ⟨d, hd1, hd2, hd3⟩ := pow_item hk
      have hd4 : 0 < (d : Int) ∧ (d : Int) < 1073741824 := by clear hd2 hd1; omega
      walk_at "v"
      refine ⟨by walk_at "sz", fun e0 ne0 => ?_⟩
      walk_at "v"
      refine w_modI ?_ (by omega)
      walk_at "v"
      have ev : ((lot : Int) / (d : Int)) % 2 = ((lot / d % 2 : Nat) : Int) := by clear hd2 hd1 hd4; rcases hd3 with rfl | rfl | rfl | rfl <;> omega
      rw [ev]
      have nDe : D ≠ e0 := ne_of_none h5 ne0
      refine w_if (fun h => ?_) (fun h => ?_)
      · have h := of_decide_eq_true h
        have h' : lot / d % 2 = 1 := by
          generalize lot / d % 2 = z at h
          omega
        have h5' : upd K5 e0 (.lst [.int 1, .int 2, .int 4, .int 8]) D = some (.lst (natL (wl lot k))) := (upd_ne nDe).trans h5
        walk_at "v"
        refine ⟨Same.grow (Same.new s5 ne0) hD, ?_⟩
        rw [upd_same, wl_more, if_pos (by rw [← hd2]; exact h')]
        unfold natL
        rw [List.map_append]
        rfl
      · have h := of_decide_eq_false h
        have h' : ¬ lot / d % 2 = 1 := by
          generalize lot / d % 2 = z at h
          omega
        refine ⟨Same.new s5 ne0, ?_⟩
        rw [wl_more, if_neg (by rw [← hd2]; exact h'), List.append_nil, upd_ne nDe]
        exact h5
    · rintro K5 ⟨s5, h5⟩
      walk_at "v"
      refine ⟨rfl, fun r3 ys1 M1 t1 gg1' zz1 oo1 => ?_⟩
      obtain ⟨w0, iw0⟩ := ex_get (l := ys1) (k := i) (by omega)
      walk_at "v"
      refine ⟨rfl, fun r4 ys2 M2 t2 gg2' zz2 oo2 => ?_⟩
      obtain ⟨w1, iw1⟩ := ex_get (l := ys2) (k := a) (by omega)
      walk_at "v"
      refine ⟨rfl, fun r5 ys3 M3 t3 gg3' zz3 oo3 => ?_⟩
      obtain ⟨w2, iw2⟩ := ex_get (l := ys3) (k := b) (by omega)
      walk_at "v"
      refine ⟨rfl, fun r6 ys4 M4 t4 gg4' zz4 oo4 => ?_⟩
      obtain ⟨w3, iw3⟩ := ex_get (l := ys4) (k := j) (by omega)
      walk_at "v"
      refine ⟨by walk_at "sz", fun od nod => ?_⟩
      walk_at "v"
      have hD4 : M4 D = some (.lst (natL (wl lot 4))) := t4 _ _ (t3 _ _ (t2 _ _ (t1 _ _ h5)))
      have hD5 : upd M4 od (.lst [w0, w1, w2, w3]) D = some (.lst (natL (wl lot 4))) := (same_new nod) _ _ hD4
      have S45 : Same K4 (upd M4 od (.lst [w0, w1, w2, w3])) := PS.trans (s5.trans (t1.trans (t2.trans (t3.trans (t4.trans (same_new nod))))))
      have hps5 : upd M4 od (.lst [w0, w1, w2, w3]) ps = some (.lst [v0, .str (tx l1), .str (tx l2), v3]) := (s5.trans (t1.trans (t2.trans (t3.trans (t4.trans (same_new nod)))))) _ _ upd_same
      have zk := wl_len lot
      have zn : (natL (wl lot 4)).length = (wl lot 4).length := by unfold natL; rw [List.length_map]
      have npp : p ≠ ps := B4.ne nps
      obtain ⟨M5, hM5⟩ : ∃ M5, M5 = upd M4 od (.lst [w0, w1, w2, w3]) := ⟨_, rfl⟩
      have hod5 : M5 od = some (.lst [w0, w1, w2, w3]) := by rw [hM5]; exact upd_same
      have nodps : od ≠ ps := fun e => by rw [e] at nod; rw [hM5] at *; have := hps5; rw [e, upd_same] at *; exact absurd nod (by have h9 := t4 _ _ (t3 _ _ (t2 _ _ (t1 _ _ (s5 _ _ (upd_same (H := K4) (a := ps) (o := .lst [v0, .str (tx l1), .str (tx l2), v3])))))); rw [h9]; simp)
      rw [← hM5] at hD5 hps5 S45 ⊢
      refine for_it (walk_list (K := K) (a := D) (xs := natL (wl lot 4))) (fun n σ H' => ∃ x13, σ = [some (.ref p), some (.ref gd), some (.ref wd), some (.int (lot : Nat)), some (.int (xs1.length : Nat)), some (.int (xs2.length : Nat)), some (.int i), some (.int a), some (.int j), some (.int b), some (.ref ps), some (.ref D), some (.ref od), x13] ∧
        H' ps = some (.lst [pk ((wl lot 4).take n) 0 v0 w0, pk ((wl lot 4).take n) 1 (.str (tx l1)) w1, pk ((wl lot 4).take n) 2 (.str (tx l2)) w2, pk ((wl lot 4).take n) 3 v3 w3]) ∧ (∀ c o, M5 c = some o → c ≠ ps → H' c = some o)) ⟨_, rfl, hps5, fun c o h _ => h⟩ ?_ ?_ ?_
      · rintro n σ Y hn ⟨x13, rfl, hy1, hy2⟩
        exact SqL.of (hy2 _ _ hD5 (Ne.symm nDp))
      · rintro n x σ Y Y' hn ⟨x13, rfl, hy1, hy2⟩ ⟨rfl, hx⟩
        obtain ⟨k, hk0⟩ := ex_get (l := wl lot 4) (k := n) (by omega)
        have hx' : x = .int (k : Int) := by
          have : (natL (wl lot 4))[n]? = some (.int (k : Int)) := by unfold natL; rw [List.getElem?_map, hk0]; rfl
          rw [this] at hx
          exact (Option.some.inj hx).symm
        subst hx'
        have hk4 : k < 4 := wl_lt (List.mem_of_getElem? hk0)
        have hod : Y' od = some (.lst [w0, w1, w2, w3]) := hy2 _ _ hod5 nodps
        obtain ⟨wk, hwk⟩ := ex_get (l := [w0, w1, w2, w3]) (k := k) hk4
        walk_at "v"
        refine w_setL (j := k) hy1 (by unfold ixN; rw [if_pos (by omega), if_pos (by simp; omega)]; simp) ?_
        walk_at "v"
        refine ⟨_, rfl, ?_, fun c o h n => by rw [upd_ne n]; exact hy2 c o h n⟩
        rw [upd_same, take_more hk0, pk_set hk4 hwk]
      · rintro σ Y ⟨x13, rfl, hy1, hy2⟩
        rw [zn, List.take_length] at hy1
        walk_at "v"
        have BY : Box Y p (c' + 1 + 1 + 1 + 1) := box_keep (B4.same S45) fun o h => hy2 _ _ h npp
        refine take_w (N := 2) rfl BY (by omega) fun q4 Z hq4 BZ FZ => ?_
        walk_at "v"
        have hps : Z ps = some (.lst [pk (wl lot 4) 0 v0 w0, pk (wl lot 4) 1 (.str (tx l1)) w1, pk (wl lot 4) 2 (.str (tx l2)) w2, pk (wl lot 4) 3 v3 w3]) := FZ _ _ hy1 (Ne.symm npp)
        have hDp : D ≠ p := fun e => by
          obtain ⟨o, ho⟩ := (B4.same PS).has
          rw [e, ho] at hD
          cases hD
        have hD6 : Z D = some (.lst (natL (wl lot 4))) := FZ _ _ (hy2 _ _ hD5 (Ne.symm nDp)) hDp
        have ZM : ∀ {M : Hp}, Same M M5 → ∀ c o, M c = some o → c ∉ [p, ps] → Z c = some o := fun s c o h n => by
          have n1 : c ≠ p := fun e => n (by rw [e]; simp)
          have n2 : c ≠ ps := fun e => n (by rw [e]; simp)
          exact FZ _ _ (hy2 _ _ (s _ _ h) n2) n1
        have SM4 : Same M4 M5 := by rw [hM5]; exact same_new nod
        have SM3 : Same M3 M5 := t4.trans SM4
        have SM2 : Same M2 M5 := t3.trans SM3
        have SM1 : Same M1 M5 := t2.trans SM2
        have K5p : K5 p ≠ none := by
          obtain ⟨o, ho⟩ := (B4.same (PS.trans s5)).has
          rw [ho]; simp
        have K5ps : K5 ps ≠ none := by rw [s5 _ _ upd_same]; simp
        have ex5 : ∀ c ∈ [p, ps], K5 c ≠ none := by
          intro c hc
          simp only [List.mem_cons, List.not_mem_nil, or_false] at hc
          rcases hc with rfl | rfl
          · exact K5p
          · exact K5ps
        have up : ∀ {A B : Hp} {c : Addr}, Same A B → A c ≠ none → B c ≠ none := fun {A B c} s h => by
          cases q : A c with
          | none => exact absurd q h
          | some o => rw [s _ _ q]; simp
        have L0 := lag_fact (K := K) (oo1 [p, ps] ex5) iw0 (ZM SM1)
        have L1 := text_fact (K := K) (oo2 [p, ps] fun c h => up t1 (ex5 c h)) iw1 (ZM SM2)
        have L2' := text_fact (K := K) (oo3 [p, ps] fun c h => up (t1.trans t2) (ex5 c h)) iw2 (ZM SM3)
        have L3 := lag_fact (K := K) (oo4 [p, ps] fun c h => up (t1.trans (t2.trans t3)) (ex5 c h)) iw3 (ZM SM4)
        have H1K : SL.Fr p H1' K4 := F1.trans (F2.trans (F3.trans F4))
        have keepZ : ∀ c o, H1' c = some o → c ≠ p → Z c = some o := fun c o h n => by
          have h4 := H1K c o h n
          have nc : c ≠ ps := ne_of_none h4 nps
          exact FZ _ _ (hy2 _ _ (S45 _ _ h4) nc) n
        have GZ : Good gd wd e1 e2 e3 e4 e5 Z := G.keep fun c hc o h => keepZ c o h (np c hc)
        have F4' := four_of (ks := wl lot 4) (P0 K Z GZ) (P3 K Z GZ) ll1 zl1 ll2 zl2 L0.1 L1.1 L2'.1 L3.1
        have neW : ∀ c, K5 c ≠ none → w0 ≠ .ref c ∧ w1 ≠ .ref c ∧ w2 ≠ .ref c ∧ w3 ≠ .ref c := fun c h =>
          ⟨odd_ne (oo1 [c] (by simpa using h)) iw0, odd_ne (oo2 [c] (by simpa using up t1 h)) iw1, odd_ne (oo3 [c] (by simpa using up (t1.trans t2) h)) iw2, odd_ne (oo4 [c] (by simpa using up (t1.trans (t2.trans t3)) h)) iw3⟩
        have first : ∀ k r, wl lot 4 = k :: r → k < 4 ∧ ∃ v, [w0, w1, w2, w3][k]? = some v ∧ [pk (wl lot 4) 0 v0 w0, pk (wl lot 4) 1 (.str (tx l1)) w1, pk (wl lot 4) 2 (.str (tx l2)) w2, pk (wl lot 4) 3 v3 w3][k]? = some v ∧
            firstBad (pk (wl lot 4) 0 v0 w0) (pk (wl lot 4) 1 (.str (tx l1)) w1) (pk (wl lot 4) 2 (.str (tx l2)) w2) (pk (wl lot 4) 3 v3 w3) (bk (wl lot 4) 0) (bk (wl lot 4) 1) (bk (wl lot 4) 2) (bk (wl lot 4) 3) = some v := fun k r e => by
          have hk4 : k < 4 := wl_lt (lot := lot) (by rw [e]; simp)
          obtain ⟨v, hv⟩ := ex_get (l := [w0, w1, w2, w3]) (k := k) hk4
          have ff := first_of (g0 := v0) (g1 := .str (tx l1)) (g2 := .str (tx l2)) (g3 := v3) (o0 := w0) (o1 := w1) (o2 := w2) (o3 := w3) e hk4 (wl_first lot hlot k hk4 (by rw [e]; rfl))
          exact ⟨hk4, v, hv, ff.1.trans hv, ff.2.trans hv⟩
        have nil : wl lot 4 = [] → firstBad (pk (wl lot 4) 0 v0 w0) (pk (wl lot 4) 1 (.str (tx l1)) w1) (pk (wl lot 4) 2 (.str (tx l2)) w2) (pk (wl lot 4) 3 v3 w3) (bk (wl lot 4) 0) (bk (wl lot 4) 1) (bk (wl lot 4) 2) (bk (wl lot 4) 3) = none := fun e => by
          rw [e]
          simp [firstBad, bk]
        refine ⟨ps, D, _, _, _, _, _, _, _, _, _, wl lot 4, rfl, hps, hD6, F4', zk, nil, fun k r e => ?_, fun X hX => ?_⟩
        · obtain ⟨hk4, v, hv, h1, h2⟩ := first k r e
          refine ⟨v, h1, h2, four_items (Pr := fun v => Keep K Z v) hk4 hv L0.2.1 L1.2.1 L2'.2.1 L3.2.1, ?_⟩
          exact four_items (Pr := fun v => v ≠ .ref ps) hk4 hv (neW ps K5ps).1 (neW ps K5ps).2.1 (neW ps K5ps).2.2.1 (neW ps K5ps).2.2.2
        · have bad : ∀ c, K5 c ≠ none → ∀ v, firstBad (pk (wl lot 4) 0 v0 w0) (pk (wl lot 4) 1 (.str (tx l1)) w1) (pk (wl lot 4) 2 (.str (tx l2)) w2) (pk (wl lot 4) 3 v3 w3) (bk (wl lot 4) 0) (bk (wl lot 4) 1) (bk (wl lot 4) 2) (bk (wl lot 4) 3) = some v → v ≠ .ref c := fun c hc v hv => by
            cases hw : wl lot 4 with
            | nil => rw [nil hw] at hv; cases hv
            | cons k r =>
              obtain ⟨hk4, v', hv', _, h2⟩ := first k r hw
              rw [h2] at hv
              have e := Option.some.inj hv
              rw [← e]
              exact four_items (Pr := fun v => v ≠ .ref c) hk4 hv' (neW c hc).1 (neW c hc).2.1 (neW c hc).2.2.1 (neW c hc).2.2.2
          have old : ∀ c o, H1' c = some o → c ≠ p → X c = some o := fun c o h n =>
            hX c o (keepZ c o h n) (bad c (by rw [(PS.trans s5) _ _ (H1K c o h n)]; simp))
          walk_at "v"
          refine ⟨_, _, _, _, _, c' + 1 + 1 + 1 + 1 + 1, rfl, by omega, box_keep BZ fun o h => hX p o h (bad p K5p), fun c o h n => ?_, G.keep fun c hc o h => old c o h (np c hc), np⟩
          exact old c o (fr c o h n) n
  · rintro σ H1' ⟨x3, x10, x11, x12, x13, c', rfl, hc', bx, fr, G, np⟩
    walk_at "v"
    exact q _ fr
def spLaw (K : PySem.W.Frag) : Sp := fun vs H Q _ => ∃ (a : Addr) (ns : List Int), vs = [.ref a] ∧ SqL K H a (ns.map V.int) ∧ ns.length ≤ 1000000 ∧ ∀ H', Same H H' → Q (.bl true) H'
theorem fn_law (T : Txt K mg) (c__law_cell : Cal P w K mg base 1 "_law_cell" ["script", "k"] (spCellG K)) (c__law_box : Cal P w K mg base 1 "_law_box" ["great"] spBox)
    (c__law_right : Cal P w K mg base 9 "_law_right" ["box"] spRight) (f : Addr) (fd : FuncData) (F : Fun K "law" "law" s_law f fd) : FnG P w K mg base 10 f fd ["script"] (spLaw K) := by
  refine fn0 F sc_law (by rintro vs H Q E ⟨a, ns, rfl, _⟩; rfl) (fun cdv f A outer s' H vs Q E hr hgd h => ?_)
  obtain ⟨a, ns, rfl, hS, hz, q⟩ := h
  refine ⟨_, (pss_cons (ps_for PassesOwn.never rfl (pi_range1 (by rfl) T.n_range (pa_cons (pe_callB (uMax2 rfl) (by rfl) T.n_max (by decide +kernel) (pa_cons pe_int (pa_cons (pe_callB (uMin2 rfl) (by rfl) T.n_min (by decide +kernel) (pa_cons pe_int (pa_cons (pe_callB (kLen K rfl) (by rfl) T.n_len (by decide +kernel) (pa_cons (pv 0) pa_nil)) pa_nil))) pa_nil))) pa_nil)) (pg_name (i := 1) sc_law.nd rfl (by first | exact Or.inl rfl | exact Or.inr rfl))
  (pss_one (ps_if (pt_not (pt_val (pe_g c__law_right hr (by decide) hgd (by rfl) noX (pa_cons (pe_g c__law_box hr (by decide) hgd (by rfl) noX (pa_cons (pe_g c__law_cell hr (by decide) hgd (by rfl) noX (pa_cons (pv 0) (pa_cons (pv 1) pa_nil))) pa_nil)) pa_nil)))) (pss_one (ps_ret pe_bl)) pss_nil)))
  (pss_one (ps_ret pe_bl))), ?_⟩
  walk_at "v0"
  obtain ⟨n, hn, hn2⟩ := min_max 3 (List.map V.int ns).length (by omega)
  rw [hn]
  refine for_rg (n := n) (by omega) (fun i σ H' => ∃ x1, σ = [some (.ref a), x1] ∧ Same H H') ⟨_, rfl, Same.refl _⟩ ?_ ?_
  · rintro i σ H1 hi ⟨x1, rfl, s1⟩
    walk_at "v"
    refine ⟨a, ns, i, rfl, by walk_at "vget", by omega, fun g H2 s2 => ?_⟩
    walk_at "v"
    refine ⟨g, rfl, fun p H3 s3 n3 b3 => ?_⟩
    walk_at "v"
    refine ⟨p, 0, rfl, b3, by omega, fun H4 f4 => ?_⟩
    walk_at "v"
    exact ⟨_, rfl, same_box (s1.trans (s2.trans s3)) (none_same (s1.trans s2) n3) f4⟩
  · rintro σ H1 ⟨x1, rfl, s1⟩
    walk_at "v"
    exact q _ s1
end
end K74
set_option Elab.async false
set_option linter.all false
set_option maxRecDepth 100000
set_option maxHeartbeats 4000000
namespace K74
open PySem PySem.Spec PyProof.Rows L2 SL Lv
theorem law_cal {P : Program} {w : World} {K : PySem.W.Frag} {mg : Str → Option Value} {fa : Addr} (hmg : mg "law" = some (.ref fa)) (T : Txt K mg) :
    ∃ fd : FuncData, (∀ (s : Shared) (u : Value), BindsTo s fd ⟨[u], []⟩ [("script", u)]) ∧ ∀ base : Heap, K.In base → base.Ns mainGlobals mg → FnG P w K mg base 10 fa fd ["script"] (spLaw K) := by
  obtain ⟨f, fd, F, hm, hb⟩ := T.d_law.ex
  rw [hmg] at hm
  cases hm
  refine ⟨fd, fun s u => hb s [u] rfl, fun base _ _ => ?_⟩
  have c1 := ok_is_text (P := P) (w := w) (base := base) T
  have c2 := ok_is_lag T c1
  have c3 := ok_check_text T c1
  have c4 := ok_common_beginning (P := P) (w := w) (base := base) T
  have c5 := ok_without_common_ends T c4
  have c6 := ok_next_band (P := P) (w := w) (base := base) T
  have c7 := ok_distance_within T c5 c6
  have c8 := ok_levenshtein T c7
  have c9 := ok_distance T c3 c8
  have c10 := ok_gap_price T c2 c3 c9
  have c11 := ok_gap_price_w T c2 c3 c9
  have d1 := ok_cell (P := P) (w := w) (base := base) T
  have d2 := ok_box (P := P) (w := w) (base := base) T
  have d3 := ok_take (P := P) (w := w) (base := base) T
  have e1 := ok__law_odd_lags (P := P) (w := w) (base := base) T
  have e2 := ok__law_odd_texts (P := P) (w := w) (base := base) T
  have e3 := ok__law_told T c10 c11
  have e4 := ok__law_lot_holds T e3
  have e5 := ok__law_right T d3 e1 e2 e4
  exact fn_law T d1 d2 e5 _ fd F
theorem law_sp {K : PySem.W.Frag} {H : Hp} {a : Addr} {ns : List Int} {n : Nat} (hl : ns.length ≤ n) (hO : Only H) (hS : SqL K H a (ns.map V.int)) (hn : n ≤ 1000000 := by decide) : spLaw K [.ref a] H (fun v _ => v = .bl true) fun _ _ _ => False :=
  ⟨a, ns, rfl, hS, Nat.le_trans hl hn, fun _ _ => rfl⟩

theorem all_mk {K : PySem.W.Frag} {h : Heap} {mg : Str → Option Value} (X : K.In h) (G : h.Ns mainGlobals mg)
    {f0 : Addr} {od0 an0 : Option Addr} {sl0 : Array (Option Value)} {oc0 kV0 dc0 pm0 cd0 ct0 : Value}
    {f1 : Addr} {od1 an1 : Option Addr} {sl1 : Array (Option Value)} {oc1 kV1 dc1 pm1 cd1 ct1 : Value}
    {f2 : Addr} {od2 an2 : Option Addr} {sl2 : Array (Option Value)} {oc2 kV2 dc2 pm2 cd2 ct2 : Value}
    {f3 : Addr} {od3 an3 : Option Addr} {sl3 : Array (Option Value)} {oc3 kV3 dc3 pm3 cd3 ct3 : Value}
    {f4 : Addr} {od4 an4 : Option Addr} {sl4 : Array (Option Value)} {oc4 kV4 dc4 pm4 cd4 ct4 : Value}
    {f5 : Addr} {od5 an5 : Option Addr} {sl5 : Array (Option Value)} {oc5 kV5 dc5 pm5 cd5 ct5 : Value}
    {f6 : Addr} {od6 an6 : Option Addr} {sl6 : Array (Option Value)} {oc6 kV6 dc6 pm6 cd6 ct6 : Value}
    {f7 : Addr} {od7 an7 : Option Addr} {sl7 : Array (Option Value)} {oc7 kV7 dc7 pm7 cd7 ct7 : Value}
    {f8 : Addr} {od8 an8 : Option Addr} {sl8 : Array (Option Value)} {oc8 kV8 dc8 pm8 cd8 ct8 : Value}
    {f9 : Addr} {od9 an9 : Option Addr} {sl9 : Array (Option Value)} {oc9 kV9 dc9 pm9 cd9 ct9 : Value}
    {f10 : Addr} {od10 an10 : Option Addr} {sl10 : Array (Option Value)} {oc10 kV10 dc10 pm10 cd10 ct10 : Value}
    {f11 : Addr} {od11 an11 : Option Addr} {sl11 : Array (Option Value)} {oc11 kV11 dc11 pm11 cd11 ct11 : Value}
    {f12 : Addr} {od12 an12 : Option Addr} {sl12 : Array (Option Value)} {oc12 kV12 dc12 pm12 cd12 ct12 : Value}
    {f13 : Addr} {od13 an13 : Option Addr} {sl13 : Array (Option Value)} {oc13 kV13 dc13 pm13 cd13 ct13 : Value}
    {f14 : Addr} {od14 an14 : Option Addr} {sl14 : Array (Option Value)} {oc14 kV14 dc14 pm14 cd14 ct14 : Value}
    {f15 : Addr} {od15 an15 : Option Addr} {sl15 : Array (Option Value)} {oc15 kV15 dc15 pm15 cd15 ct15 : Value}
    {f16 : Addr} {od16 an16 : Option Addr} {sl16 : Array (Option Value)} {oc16 kV16 dc16 pm16 cd16 ct16 : Value}
    {f17 : Addr} {od17 an17 : Option Addr} {sl17 : Array (Option Value)} {oc17 kV17 dc17 pm17 cd17 ct17 : Value}
    {f18 : Addr} {od18 an18 : Option Addr} {sl18 : Array (Option Value)} {oc18 kV18 dc18 pm18 cd18 ct18 : Value}
    {B : Addr}
    {C_InvalidText I_InvalidText N_InvalidText : Addr} {nm_InvalidText q_InvalidText : Str} {bs_InvalidText sub_InvalidText : List Value} {sn_InvalidText : List Str} {ab_InvalidText : Bool} {col_InvalidText : Option Bool} {dd_InvalidText od_InvalidText an_InvalidText : Option Addr} {m0_InvalidText m1_InvalidText m2_InvalidText m3_InvalidText m5_InvalidText : Option Value} {sl_InvalidText : Array (Option Value)} {oc_InvalidText dc_InvalidText pm_InvalidText cd_InvalidText ct_InvalidText : Value}
    {t_LETTERS : Tok}
    (a0 : PySem.W.nsIn K mainGlobals "is_text" = some (some (.ref f0))) (l0 : K.lookup f0 = some ⟨oc0, od0, .func (PySem.W.fnOf "is_text" "is_text" (defArgs s_is_text) (defBody s_is_text) (defScope s_is_text) .none kV0 dc0 pm0 an0 cd0 ct0), sl0⟩) (c0 : PySem.W.codeIn K cd0 "is_text" = true) (k0 : PySem.W.keepIn K (.ref f0) = true)
    (a1 : PySem.W.nsIn K mainGlobals "is_lag" = some (some (.ref f1))) (l1 : K.lookup f1 = some ⟨oc1, od1, .func (PySem.W.fnOf "is_lag" "is_lag" (defArgs s_is_lag) (defBody s_is_lag) (defScope s_is_lag) .none kV1 dc1 pm1 an1 cd1 ct1), sl1⟩) (c1 : PySem.W.codeIn K cd1 "is_lag" = true) (k1 : PySem.W.keepIn K (.ref f1) = true)
    (a2 : PySem.W.nsIn K mainGlobals "check_text" = some (some (.ref f2))) (l2 : K.lookup f2 = some ⟨oc2, od2, .func (PySem.W.fnOf "check_text" "check_text" (defArgs s_check_text) (defBody s_check_text) (defScope s_check_text) .none kV2 dc2 pm2 an2 cd2 ct2), sl2⟩) (c2 : PySem.W.codeIn K cd2 "check_text" = true) (k2 : PySem.W.keepIn K (.ref f2) = true)
    (a3 : PySem.W.nsIn K mainGlobals "common_beginning" = some (some (.ref f3))) (l3 : K.lookup f3 = some ⟨oc3, od3, .func (PySem.W.fnOf "common_beginning" "common_beginning" (defArgs s_common_beginning) (defBody s_common_beginning) (defScope s_common_beginning) .none kV3 dc3 pm3 an3 cd3 ct3), sl3⟩) (c3 : PySem.W.codeIn K cd3 "common_beginning" = true) (k3 : PySem.W.keepIn K (.ref f3) = true)
    (a4 : PySem.W.nsIn K mainGlobals "without_common_ends" = some (some (.ref f4))) (l4 : K.lookup f4 = some ⟨oc4, od4, .func (PySem.W.fnOf "without_common_ends" "without_common_ends" (defArgs s_without_common_ends) (defBody s_without_common_ends) (defScope s_without_common_ends) .none kV4 dc4 pm4 an4 cd4 ct4), sl4⟩) (c4 : PySem.W.codeIn K cd4 "without_common_ends" = true) (k4 : PySem.W.keepIn K (.ref f4) = true)
    (a5 : PySem.W.nsIn K mainGlobals "next_band" = some (some (.ref f5))) (l5 : K.lookup f5 = some ⟨oc5, od5, .func (PySem.W.fnOf "next_band" "next_band" (defArgs s_next_band) (defBody s_next_band) (defScope s_next_band) .none kV5 dc5 pm5 an5 cd5 ct5), sl5⟩) (c5 : PySem.W.codeIn K cd5 "next_band" = true) (k5 : PySem.W.keepIn K (.ref f5) = true)
    (a6 : PySem.W.nsIn K mainGlobals "distance_within" = some (some (.ref f6))) (l6 : K.lookup f6 = some ⟨oc6, od6, .func (PySem.W.fnOf "distance_within" "distance_within" (defArgs s_distance_within) (defBody s_distance_within) (defScope s_distance_within) .none kV6 dc6 pm6 an6 cd6 ct6), sl6⟩) (c6 : PySem.W.codeIn K cd6 "distance_within" = true) (k6 : PySem.W.keepIn K (.ref f6) = true)
    (a7 : PySem.W.nsIn K mainGlobals "levenshtein" = some (some (.ref f7))) (l7 : K.lookup f7 = some ⟨oc7, od7, .func (PySem.W.fnOf "levenshtein" "levenshtein" (defArgs s_levenshtein) (defBody s_levenshtein) (defScope s_levenshtein) .none kV7 dc7 pm7 an7 cd7 ct7), sl7⟩) (c7 : PySem.W.codeIn K cd7 "levenshtein" = true) (k7 : PySem.W.keepIn K (.ref f7) = true)
    (a8 : PySem.W.nsIn K mainGlobals "distance" = some (some (.ref f8))) (l8 : K.lookup f8 = some ⟨oc8, od8, .func (PySem.W.fnOf "distance" "distance" (defArgs s_distance) (defBody s_distance) (defScope s_distance) .none kV8 dc8 pm8 an8 cd8 ct8), sl8⟩) (c8 : PySem.W.codeIn K cd8 "distance" = true) (k8 : PySem.W.keepIn K (.ref f8) = true)
    (a9 : PySem.W.nsIn K mainGlobals "gap_price" = some (some (.ref f9))) (l9 : K.lookup f9 = some ⟨oc9, od9, .func (PySem.W.fnOf "gap_price" "gap_price" (defArgs s_gap_price) (defBody s_gap_price) (defScope s_gap_price) .none kV9 dc9 pm9 an9 cd9 ct9), sl9⟩) (c9 : PySem.W.codeIn K cd9 "gap_price" = true) (k9 : PySem.W.keepIn K (.ref f9) = true)
    (a10 : PySem.W.nsIn K mainGlobals "_law_cell" = some (some (.ref f10))) (l10 : K.lookup f10 = some ⟨oc10, od10, .func (PySem.W.fnOf "_law_cell" "_law_cell" (defArgs s__law_cell) (defBody s__law_cell) (defScope s__law_cell) .none kV10 dc10 pm10 an10 cd10 ct10), sl10⟩) (c10 : PySem.W.codeIn K cd10 "_law_cell" = true) (k10 : PySem.W.keepIn K (.ref f10) = true)
    (a11 : PySem.W.nsIn K mainGlobals "_law_box" = some (some (.ref f11))) (l11 : K.lookup f11 = some ⟨oc11, od11, .func (PySem.W.fnOf "_law_box" "_law_box" (defArgs s__law_box) (defBody s__law_box) (defScope s__law_box) .none kV11 dc11 pm11 an11 cd11 ct11), sl11⟩) (c11 : PySem.W.codeIn K cd11 "_law_box" = true) (k11 : PySem.W.keepIn K (.ref f11) = true)
    (a12 : PySem.W.nsIn K mainGlobals "_law_take" = some (some (.ref f12))) (l12 : K.lookup f12 = some ⟨oc12, od12, .func (PySem.W.fnOf "_law_take" "_law_take" (defArgs s__law_take) (defBody s__law_take) (defScope s__law_take) .none kV12 dc12 pm12 an12 cd12 ct12), sl12⟩) (c12 : PySem.W.codeIn K cd12 "_law_take" = true) (k12 : PySem.W.keepIn K (.ref f12) = true)
    (a13 : PySem.W.nsIn K mainGlobals "_law_odd_lags" = some (some (.ref f13))) (l13 : K.lookup f13 = some ⟨oc13, od13, .func (PySem.W.fnOf "_law_odd_lags" "_law_odd_lags" (defArgs s__law_odd_lags) (defBody s__law_odd_lags) (defScope s__law_odd_lags) .none kV13 dc13 pm13 an13 cd13 ct13), sl13⟩) (c13 : PySem.W.codeIn K cd13 "_law_odd_lags" = true) (k13 : PySem.W.keepIn K (.ref f13) = true)
    (a14 : PySem.W.nsIn K mainGlobals "_law_odd_texts" = some (some (.ref f14))) (l14 : K.lookup f14 = some ⟨oc14, od14, .func (PySem.W.fnOf "_law_odd_texts" "_law_odd_texts" (defArgs s__law_odd_texts) (defBody s__law_odd_texts) (defScope s__law_odd_texts) .none kV14 dc14 pm14 an14 cd14 ct14), sl14⟩) (c14 : PySem.W.codeIn K cd14 "_law_odd_texts" = true) (k14 : PySem.W.keepIn K (.ref f14) = true)
    (a15 : PySem.W.nsIn K mainGlobals "_law_told" = some (some (.ref f15))) (l15 : K.lookup f15 = some ⟨oc15, od15, .func (PySem.W.fnOf "_law_told" "_law_told" (defArgs s__law_told) (defBody s__law_told) (defScope s__law_told) .none kV15 dc15 pm15 an15 cd15 ct15), sl15⟩) (c15 : PySem.W.codeIn K cd15 "_law_told" = true) (k15 : PySem.W.keepIn K (.ref f15) = true)
    (a16 : PySem.W.nsIn K mainGlobals "_law_lot_holds" = some (some (.ref f16))) (l16 : K.lookup f16 = some ⟨oc16, od16, .func (PySem.W.fnOf "_law_lot_holds" "_law_lot_holds" (defArgs s__law_lot_holds) (defBody s__law_lot_holds) (defScope s__law_lot_holds) .none kV16 dc16 pm16 an16 cd16 ct16), sl16⟩) (c16 : PySem.W.codeIn K cd16 "_law_lot_holds" = true) (k16 : PySem.W.keepIn K (.ref f16) = true)
    (a17 : PySem.W.nsIn K mainGlobals "_law_right" = some (some (.ref f17))) (l17 : K.lookup f17 = some ⟨oc17, od17, .func (PySem.W.fnOf "_law_right" "_law_right" (defArgs s__law_right) (defBody s__law_right) (defScope s__law_right) .none kV17 dc17 pm17 an17 cd17 ct17), sl17⟩) (c17 : PySem.W.codeIn K cd17 "_law_right" = true) (k17 : PySem.W.keepIn K (.ref f17) = true)
    (a18 : PySem.W.nsIn K mainGlobals "law" = some (some (.ref f18))) (l18 : K.lookup f18 = some ⟨oc18, od18, .func (PySem.W.fnOf "law" "law" (defArgs s_law) (defBody s_law) (defScope s_law) .none kV18 dc18 pm18 an18 cd18 ct18), sl18⟩) (c18 : PySem.W.codeIn K cd18 "law" = true) (k18 : PySem.W.keepIn K (.ref f18) = true)
    (bB : PySem.W.nsIn K mainGlobals "CodecError" = some (some (.ref B))) (bsp : PySem.W.specialIn K (.ref B) "__getattribute__" = some (some (.builtin "type.__getattribute__"))) (brd : PySem.W.readsIn K B (.type "type") = true) (bfc : PySem.W.findCls K (.ref B) (.type "type") "__init__" = some (.val (.builtin "Exception.__init__")))
    (aC_InvalidText : PySem.W.nsIn K mainGlobals "InvalidText" = some (some (.ref C_InvalidText))) (xL_InvalidText : K.lookup C_InvalidText = some (excClassObj nm_InvalidText q_InvalidText C_InvalidText N_InvalidText bs_InvalidText [.ref B, .type "Exception", .type "BaseException", .type "object"] true sn_InvalidText sub_InvalidText ab_InvalidText col_InvalidText dd_InvalidText m0_InvalidText m1_InvalidText m2_InvalidText m3_InvalidText m5_InvalidText "Exception.__new__")) (sa_InvalidText : PySem.W.findIn K (.ref C_InvalidText) "__setattr__" = some (some (.builtin "object.__setattr__"))) (ga_InvalidText : PySem.W.findIn K (.ref C_InvalidText) "__getattribute__" = some (some (.builtin "BaseException.__getattribute__"))) (gg_InvalidText : PySem.W.findIn K (.ref C_InvalidText) "__getattr__" = some none) (nb_InvalidText : PySem.W.findIn K (.ref C_InvalidText) "given" = some none) (a1_InvalidText : PySem.W.findIn K (.ref C_InvalidText) "__init__" = some (some (.ref I_InvalidText))) (t1_InvalidText : PySem.W.typeIn K (.ref I_InvalidText) = some (.type "function")) (l1_InvalidText : K.lookup I_InvalidText = some ⟨oc_InvalidText, od_InvalidText, .func (PySem.W.fnOf "__init__" "InvalidText.__init__" (defArgs s_InvalidText___init__) (defBody s_InvalidText___init__) (defScope s_InvalidText___init__) .none .none dc_InvalidText pm_InvalidText an_InvalidText cd_InvalidText ct_InvalidText), sl_InvalidText⟩) (c1_InvalidText : PySem.W.codeIn K cd_InvalidText "InvalidText.__init__" = true) (kC_InvalidText : PySem.W.keepIn K (.ref C_InvalidText) = true) (eC_InvalidText : PySem.W.subIn K (.ref C_InvalidText) (.type "BaseException") = some true) (tC_InvalidText : PySem.W.typeIn K (.ref C_InvalidText) = some (.type "type")) (hC_InvalidText : PySem.W.hasDictIn K C_InvalidText = true) (iC_InvalidText : PySem.W.isClsIn K C_InvalidText = true) (sC_InvalidText : PySem.W.subIn K (.ref C_InvalidText) (.ref C_InvalidText) = some true)
    (z_abs : PySem.W.nsIn K mainGlobals "abs" = some none)
    (z_all : PySem.W.nsIn K mainGlobals "all" = some none)
    (z_enumerate : PySem.W.nsIn K mainGlobals "enumerate" = some none)
    (z_int : PySem.W.nsIn K mainGlobals "int" = some none)
    (z_isinstance : PySem.W.nsIn K mainGlobals "isinstance" = some none)
    (z_len : PySem.W.nsIn K mainGlobals "len" = some none)
    (z_list : PySem.W.nsIn K mainGlobals "list" = some none)
    (z_max : PySem.W.nsIn K mainGlobals "max" = some none)
    (z_min : PySem.W.nsIn K mainGlobals "min" = some none)
    (z_range : PySem.W.nsIn K mainGlobals "range" = some none)
    (z_repr : PySem.W.nsIn K mainGlobals "repr" = some none)
    (z_str : PySem.W.nsIn K mainGlobals "str" = some none)
    (z_sum : PySem.W.nsIn K mainGlobals "sum" = some none)
    (z_tuple : PySem.W.nsIn K mainGlobals "tuple" = some none)
    (q_LETTERS : PySem.W.nsIn K mainGlobals "LETTERS" = some (some (.str (PySem.Str.ofString "abcdefghijklmnopqrstuvwxyz") t_LETTERS)))
    : Txt K mg where
  d_is_text := .of f0 _ (fun_mk (st := s_is_text) l0 c0 k0) (PySem.W.mg_of X G a0) fun s us hl => match us, hl with | [_], _ => .of_eq rfl
  d_is_lag := .of f1 _ (fun_mk (st := s_is_lag) l1 c1 k1) (PySem.W.mg_of X G a1) fun s us hl => match us, hl with | [_], _ => .of_eq rfl
  d_check_text := .of f2 _ (fun_mk (st := s_check_text) l2 c2 k2) (PySem.W.mg_of X G a2) fun s us hl => match us, hl with | [_], _ => .of_eq rfl
  d_common_beginning := .of f3 _ (fun_mk (st := s_common_beginning) l3 c3 k3) (PySem.W.mg_of X G a3) fun s us hl => match us, hl with | [_, _], _ => .of_eq rfl
  d_without_common_ends := .of f4 _ (fun_mk (st := s_without_common_ends) l4 c4 k4) (PySem.W.mg_of X G a4) fun s us hl => match us, hl with | [_, _], _ => .of_eq rfl
  d_next_band := .of f5 _ (fun_mk (st := s_next_band) l5 c5 k5) (PySem.W.mg_of X G a5) fun s us hl => match us, hl with | [_, _, _, _], _ => .of_eq rfl
  d_distance_within := .of f6 _ (fun_mk (st := s_distance_within) l6 c6 k6) (PySem.W.mg_of X G a6) fun s us hl => match us, hl with | [_, _, _], _ => .of_eq rfl
  d_levenshtein := .of f7 _ (fun_mk (st := s_levenshtein) l7 c7 k7) (PySem.W.mg_of X G a7) fun s us hl => match us, hl with | [_, _], _ => .of_eq rfl
  d_distance := .of f8 _ (fun_mk (st := s_distance) l8 c8 k8) (PySem.W.mg_of X G a8) fun s us hl => match us, hl with | [_, _], _ => .of_eq rfl
  d_gap_price := .of f9 _ (fun_mk (st := s_gap_price) l9 c9 k9) (PySem.W.mg_of X G a9) fun s us hl => match us, hl with | [_, _, _, _], _ => .of_eq rfl
  d__law_cell := .of f10 _ (fun_mk (st := s__law_cell) l10 c10 k10) (PySem.W.mg_of X G a10) fun s us hl => match us, hl with | [_, _], _ => .of_eq rfl
  d__law_box := .of f11 _ (fun_mk (st := s__law_box) l11 c11 k11) (PySem.W.mg_of X G a11) fun s us hl => match us, hl with | [_], _ => .of_eq rfl
  d__law_take := .of f12 _ (fun_mk (st := s__law_take) l12 c12 k12) (PySem.W.mg_of X G a12) fun s us hl => match us, hl with | [_, _], _ => .of_eq rfl
  d__law_odd_lags := .of f13 _ (fun_mk (st := s__law_odd_lags) l13 c13 k13) (PySem.W.mg_of X G a13) fun s us hl => match us, hl with | [], _ => .of_eq rfl
  d__law_odd_texts := .of f14 _ (fun_mk (st := s__law_odd_texts) l14 c14 k14) (PySem.W.mg_of X G a14) fun s us hl => match us, hl with | [], _ => .of_eq rfl
  d__law_told := .of f15 _ (fun_mk (st := s__law_told) l15 c15 k15) (PySem.W.mg_of X G a15) fun s us hl => match us, hl with | [_, _], _ => .of_eq rfl
  d__law_lot_holds := .of f16 _ (fun_mk (st := s__law_lot_holds) l16 c16 k16) (PySem.W.mg_of X G a16) fun s us hl => match us, hl with | [_, _, _], _ => .of_eq rfl
  d__law_right := .of f17 _ (fun_mk (st := s__law_right) l17 c17 k17) (PySem.W.mg_of X G a17) fun s us hl => match us, hl with | [_], _ => .of_eq rfl
  d_law := .of f18 _ (fun_mk (st := s_law) l18 c18 k18) (PySem.W.mg_of X G a18) fun s us hl => match us, hl with | [_], _ => .of_eq rfl
  x_InvalidText := ErrAt.of { gC := PySem.W.mg_of X G aC_InvalidText, gB := PySem.W.mg_of X G bB, cls := ⟨nm_InvalidText, q_InvalidText, N_InvalidText, bs_InvalidText, sn_InvalidText, sub_InvalidText, ab_InvalidText, col_InvalidText, dd_InvalidText, m0_InvalidText, m1_InvalidText, m2_InvalidText, m3_InvalidText, m5_InvalidText, xL_InvalidText⟩, sa := sa_InvalidText, ga := ga_InvalidText, gg := gg_InvalidText, noN := nb_InvalidText, iC := a1_InvalidText, tC := t1_InvalidText, kC := kC_InvalidText, exC := eC_InvalidText, tyC := tC_InvalidText, hdC := hC_InvalidText, te := exm_self eC_InvalidText iC_InvalidText tC_InvalidText sC_InvalidText, sp := bsp, rd := brd, fc := bfc, fn := ⟨_, _, _, _, _, _, _, _, _, _, _, _, _, _, _, _, _, _, _, _, _, _, _, l1_InvalidText, c1_InvalidText, fun env => ⟨_, rfl⟩⟩ }
  n_abs := PySem.W.mg_none_of X G z_abs
  n_all := PySem.W.mg_none_of X G z_all
  n_enumerate := PySem.W.mg_none_of X G z_enumerate
  n_int := PySem.W.mg_none_of X G z_int
  n_isinstance := PySem.W.mg_none_of X G z_isinstance
  n_len := PySem.W.mg_none_of X G z_len
  n_list := PySem.W.mg_none_of X G z_list
  n_max := PySem.W.mg_none_of X G z_max
  n_min := PySem.W.mg_none_of X G z_min
  n_range := PySem.W.mg_none_of X G z_range
  n_repr := PySem.W.mg_none_of X G z_repr
  n_str := PySem.W.mg_none_of X G z_str
  n_sum := PySem.W.mg_none_of X G z_sum
  n_tuple := PySem.W.mg_none_of X G z_tuple
  g_LETTERS := ⟨_, (PySem.W.mg_of X G q_LETTERS).trans (congrArg (fun z => some (Value.str z _)) (by decide +kernel))⟩
end K74
open PySem PySem.W PyProof.Rows in
set_option maxRecDepth 100000 in
set_option maxHeartbeats 0 in
theorem PySem.Challenge.cw_spoiltline_k74_lags_and_texts_refused_holds : PySem.Challenge.rw_spoiltline_k74_lags_and_texts_refused.Holds := by
  w_on; o_law; k_head; (case hw => w_witness2)
  k_fill
  refine SL.walk_g (l := PySem.Challenge.rw_spoiltline_k74_lags_and_texts_refused) (k := 10) (x := "script") rfl (by decide) rfl ⟨rfl, by decide, by decide⟩ (fun w h Y => PySem.W.kIn_of Y) ?F (fun K H a ns hl hO hS => K74.law_sp hl hO hS)
  case F =>
    intro w mg fa h KX G hmg
    refine' K74.law_cal hmg (K74.all_mk KX G ?a0 ?l0 ?c0 ?k0 ?a1 ?l1 ?c1 ?k1 ?a2 ?l2 ?c2 ?k2 ?a3 ?l3 ?c3 ?k3 ?a4 ?l4 ?c4 ?k4 ?a5 ?l5 ?c5 ?k5 ?a6 ?l6 ?c6 ?k6 ?a7 ?l7 ?c7 ?k7 ?a8 ?l8 ?c8 ?k8 ?a9 ?l9 ?c9 ?k9 ?a10 ?l10 ?c10 ?k10 ?a11 ?l11 ?c11 ?k11 ?a12 ?l12 ?c12 ?k12 ?a13 ?l13 ?c13 ?k13 ?a14 ?l14 ?c14 ?k14 ?a15 ?l15 ?c15 ?k15 ?a16 ?l16 ?c16 ?k16 ?a17 ?l17 ?c17 ?k17 ?a18 ?l18 ?c18 ?k18 ?bB ?bsp ?brd ?bfc ?aC_InvalidText ?xL_InvalidText ?sa_InvalidText ?ga_InvalidText ?gg_InvalidText ?nb_InvalidText ?a1_InvalidText ?t1_InvalidText ?l1_InvalidText ?c1_InvalidText ?kC_InvalidText ?eC_InvalidText ?tC_InvalidText ?hC_InvalidText ?iC_InvalidText ?sC_InvalidText ?z_abs ?z_all ?z_enumerate ?z_int ?z_isinstance ?z_len ?z_list ?z_max ?z_min ?z_range ?z_repr ?z_str ?z_sum ?z_tuple ?q_LETTERS)
    (case a0 => k_is)
    (case l0 => k_is)
    (case c0 => k_is)
    (case k0 => k_is)
    (case a1 => k_is)
    (case l1 => k_is)
    (case c1 => k_is)
    (case k1 => k_is)
    (case a2 => k_is)
    (case l2 => k_is)
    (case c2 => k_is)
    (case k2 => k_is)
    (case a3 => k_is)
    (case l3 => k_is)
    (case c3 => k_is)
    (case k3 => k_is)
    (case a4 => k_is)
    (case l4 => k_is)
    (case c4 => k_is)
    (case k4 => k_is)
    (case a5 => k_is)
    (case l5 => k_is)
    (case c5 => k_is)
    (case k5 => k_is)
    (case a6 => k_is)
    (case l6 => k_is)
    (case c6 => k_is)
    (case k6 => k_is)
    (case a7 => k_is)
    (case l7 => k_is)
    (case c7 => k_is)
    (case k7 => k_is)
    (case a8 => k_is)
    (case l8 => k_is)
    (case c8 => k_is)
    (case k8 => k_is)
    (case a9 => k_is)
    (case l9 => k_is)
    (case c9 => k_is)
    (case k9 => k_is)
    (case a10 => k_is)
    (case l10 => k_is)
    (case c10 => k_is)
    (case k10 => k_is)
    (case a11 => k_is)
    (case l11 => k_is)
    (case c11 => k_is)
    (case k11 => k_is)
    (case a12 => k_is)
    (case l12 => k_is)
    (case c12 => k_is)
    (case k12 => k_is)
    (case a13 => k_is)
    (case l13 => k_is)
    (case c13 => k_is)
    (case k13 => k_is)
    (case a14 => k_is)
    (case l14 => k_is)
    (case c14 => k_is)
    (case k14 => k_is)
    (case a15 => k_is)
    (case l15 => k_is)
    (case c15 => k_is)
    (case k15 => k_is)
    (case a16 => k_is)
    (case l16 => k_is)
    (case c16 => k_is)
    (case k16 => k_is)
    (case a17 => k_is)
    (case l17 => k_is)
    (case c17 => k_is)
    (case k17 => k_is)
    (case a18 => k_is)
    (case l18 => k_is)
    (case c18 => k_is)
    (case k18 => k_is)
    (case bB => k_is)
    (case bsp => k_is)
    (case brd => k_is)
    (case bfc => k_is)
    (case aC_InvalidText => k_is)
    (case xL_InvalidText => k_is)
    (case sa_InvalidText => k_is)
    (case ga_InvalidText => k_is)
    (case gg_InvalidText => k_is)
    (case nb_InvalidText => k_is)
    (case a1_InvalidText => k_is)
    (case t1_InvalidText => k_is)
    (case l1_InvalidText => k_is)
    (case c1_InvalidText => k_is)
    (case kC_InvalidText => k_is)
    (case eC_InvalidText => k_is)
    (case tC_InvalidText => k_is)
    (case hC_InvalidText => k_is)
    (case iC_InvalidText => k_is)
    (case sC_InvalidText => k_is)
    (case z_abs => k_is)
    (case z_all => k_is)
    (case z_enumerate => k_is)
    (case z_int => k_is)
    (case z_isinstance => k_is)
    (case z_len => k_is)
    (case z_list => k_is)
    (case z_max => k_is)
    (case z_min => k_is)
    (case z_range => k_is)
    (case z_repr => k_is)
    (case z_str => k_is)
    (case z_sum => k_is)
    (case z_tuple => k_is)
    (case q_LETTERS => k_is)
