import PyProof.Rows.All
import Wide.All
import OpenK.AllK
import Wide.FinOn
import HandS.ForMost
import HandS.Exc
import HandS.ExcOwn
import HandS.ExcInit
import HandS.WordsExc
import HandS.TryMany
import HandS.IsInst
import HandS.StrMore
import HandS.Conv
import HandS.Wide
import HandS.Flow
import HandS.Style
import HandS.Flt
import HandS.RaiseMore
import HandS.TupAny
import HandS.Deep
import KE.KRevSl
import PyProof.Draws
import PyProof.StrBlock2
import PyProof.Rows.StrRev
import HandS.Walk
import HandS.TryOnly
import HandS.ExcSuper
import HandS.ExcField
import PyProof.StrWalks
import KE.KUnpack
import PyProof.ReprLen
import PySem.Challenge.RW_spoiltline_k11_lags_behind_words
set_option Elab.async false
set_option linter.all false
set_option maxRecDepth 100000
set_option maxHeartbeats 4000000
/-! SlA: defs that know that no container is being written out (guards), and their calls. -/
namespace SL
open PySem PySem.Spec PyProof.Rows L2

/-- a def's promise, kept wherever no container is being written out -/
structure FnG (P : Program) (w : World) (K : PySem.W.Frag) (mg : Str → Option Value) (base : Heap) (k : Nat) (f : Addr) (fd : FuncData) (ps : List Str) (sp : Sp) : Prop where
  len : ∀ vs H Q E, sp vs H Q E → vs.length = ps.length
  run : ∀ (A : Around) (outer : List Env) (s : Shared) (H : Hp) (args : Args) (us : List Value) (vs : List V) (Q : VK) (E : XK),
    Room k A → A.guards = some [] → Env0 P w K mg base A outer s H → BindsTo s fd args (ps.zip us) → Vals vs us → sp vs H Q E →
    codeAny (model P w) A (.call (.ref f) args) (CR (L2.CX P w) outer P w H s Q E) s

theorem gd_deeper {A : Around} {env : Env} (h : A.guards = some []) : (A.deeper env).guards = some [] := by
  first | exact h | (unfold Around.deeper; exact h) | simpa [Around.deeper] using h

section
variable {P : Program} {w : World} {K : PySem.W.Frag} {mg : Str → Option Value} {base : Heap}
/-- by the body, read at each entry -/
theorem fnG_of {x qual : Str} {st : Stmt} {f : Addr} {fd : FuncData} {N ps : List Str} {k : Nat} {sp : Sp} (F : Fun K x qual st f fd) (S : FnScope N ps (defScope st))
    (len : ∀ vs H Q E, sp vs H Q E → vs.length = ps.length)
    (hbody : ∀ (cdv : Value) (A : Around) (outer : List Env) (s : Shared) (H : Hp) (vs : List V) (Q : VK) (E : XK),
      Room k (A.deeper (envOfC qual (defScope st) s.heap.objs.size f cdv)) → (A.deeper (envOfC qual (defScope st) s.heap.objs.size f cdv)).guards = some [] → sp vs H Q E →
      ∃ t, PSs (cxOf (L2.CX P w) P w K mg base N qual (defScope st) f cdv A outer s H E) (defBody st) t ∧ t { nx := fun _ H' => Q .non H', rt := Q } (start N vs) H) :
    FnG P w K mg base (k + 1) f fd ps sp := by
  obtain ⟨oc, od, kV, doc, pm, an, cdv, ct, osl, rfl, lk, hcd⟩ := F.ex
  refine ⟨len, ?_⟩
  intro A outer s H args us vs Q E hr hg e0 hb r hsp
  have nps := len _ _ _ _ hsp
  have kin : K.In s.heap := e0.mod.kin.keeps fun b o e => (e0.bs b o e).1
  have nol : s.heap.NoLimit := e0.mod.nolimit.keeps fun b o e => (e0.bs b o e).1
  have kinds : ∀ y ∈ ps.zip us, (defScope st).names.lookup y.1 = some .local ∨ ((defScope st).names.lookup y.1 = some .cell ∧ ((cellsFrom (s.heap.objs.size + 1) (defScope st).names []).lookup y.1).isSome = true) := by
    rintro ⟨n, v⟩ hy
    have hn := (List.of_mem_zip hy).1
    cases S.par n hn with
    | inl q => exact Or.inl q
    | inr q => exact Or.inr ⟨q, PySem.W.cellsFrom_some _ _ _ (Or.inl q)⟩
  refine codeAny_call_function (Room.depth hr) (kin _ _ lk) rfl S.co S.gen rfl (PySem.W.codeRec_of kin hcd) (hb _ _ _ _ ?_)
  refine wpAny_newFunctionEnv_cells S.kind kinds ?_
  intro env henv s1 ic
  subst henv
  refine ⟨nol.keeps ic.toInCall.keep, codeAny_func ?_⟩
  obtain ⟨t, ht, hq⟩ := hbody cdv A outer s H vs Q E (Room.deeper hr _) (gd_deeper hg) hsp
  have I0 := inv_start (CX := L2.CX P w) (P := P) (w := w) (K := K) (mg := mg) (base := base) (E := E) S hr.hd e0 nps r ic
  refine wpAny_mono (ht.run [] s1 (start N vs) H _ I0 hq) ?_ fun _ _ z => z
  intro fl s' hs
  match fl, hs with
  | .ret u, ⟨v, σ', H', J, rv, q⟩ => exact ⟨v, H', J.os, J.bare, J.base, J.hok, rv, q⟩
  | .next, ⟨σ', H', J, q⟩ => exact ⟨V.non, H', J.os, J.bare, J.base, J.hok, rfl, q⟩
  | .brk, ⟨_, _, _, q⟩ => exact q.elim
  | .cont, ⟨_, _, _, q⟩ => exact q.elim

theorem FnG.mono {j k : Nat} {f : Addr} {fd : FuncData} {ps : List Str} {sp : Sp} (F : FnG P w K mg base j f fd ps sp) (h : j ≤ k) : FnG P w K mg base k f fd ps sp :=
  ⟨F.len, fun A outer s H args us vs Q E hr => F.run A outer s H args us vs Q E (hr.mono h)⟩
theorem FnG.imp {k : Nat} {f : Addr} {fd : FuncData} {ps : List Str} {sp sp' : Sp} (F : FnG P w K mg base k f fd ps sp) (h : ∀ vs H Q E, sp' vs H Q E → sp vs H Q E) : FnG P w K mg base k f fd ps sp' :=
  ⟨fun vs H Q E q => F.len vs H Q E (h _ _ _ _ q), fun A outer s H args us vs Q E hr hg e0 hb hv hs => F.run A outer s H args us vs Q E hr hg e0 hb hv (h _ _ _ _ hs)⟩
end

/-- a def of the module, callable by its name with all arguments given -/
structure Cal (P : Program) (w : World) (K : PySem.W.Frag) (mg : Str → Option Value) (base : Heap) (k : Nat) (x : Str) (ps : List Str) (sp : Sp) : Prop where
  ex : ∃ (f : Addr) (fd : FuncData), FnG P w K mg base k f fd ps sp ∧ mg x = some (.ref f) ∧ PySem.W.keepIn K (.ref f) = true ∧
    ∀ (s : Shared) (us : List Value), us.length = ps.length → BindsTo s fd ⟨us, []⟩ (ps.zip us)

section
variable {X : Cx} {k j : Nat} {x : Str} {ps : List Str} {sp : Sp} {E : L2.St → XK} {p pos : Pos} {e : Expr} {es : List Expr} {t : TA}
theorem run_g {f : Addr} {fd : FuncData} {pins : List (Addr × Obj)} {σ : L2.St} {H : Hp} {s : Shared} {Q : VK} {us : List Value} {vs : List V} (F : FnG X.prog X.w X.K X.mg X.base k f fd ps sp) (hr : Room k X.A) (hg : X.A.guards = some [])
    (hb : ∀ (s : Shared) (us : List Value), us.length = ps.length → BindsTo s fd ⟨us, []⟩ (ps.zip us)) (hx : PassesAt (L2.CX X.prog X.w) X σ (E σ))
    (I : Inv X pins σ H s) (r : Vals vs us) (h : sp vs H Q (E σ)) : wpAny (model X.prog X.w) X.A (call (.ref f) us) (EP X pins σ Q) X.xe s := by
  have hl : us.length = ps.length := by rw [← Paired.length r]; exact F.len _ _ _ _ h
  refine wpAny_call (codeAny_mono (F.run X.A X.stack s H ⟨us, []⟩ us vs Q (E σ) hr hg (Inv.env0 I) (hb s us hl) r h) ?_)
  intro rr s' hq
  match rr, hq with
  | .error ex, hq => exact hx pins H s ex s' I hq
  | .ok (.ret u), hq => exact Inv.after I hq
/-- f(e, ..) -/
theorem pe_g (c : Cal X.prog X.w X.K X.mg X.base k x ps sp) (hr : Room j X.A) (hk : k ≤ j) (hgd : X.A.guards = some []) (hg : Gl X x) (hx : ∀ σ, PassesAt (L2.CX X.prog X.w) X σ (E σ)) (ha : PA X (e :: es) t)
    (hdb : (x == ("__debug__" : Str)) = false := by decide) (he : starEach (e :: es) X.env = (false, eval e X.env) :: starEach es X.env := by rfl) (hpl : (backTo pos (starEach es X.env)).any (·.1) = false := by rfl) :
    PE X (.Call (.Name x p) (e :: es) [] pos) (tCallS sp E t) := by
  obtain ⟨f, fd, F, hm, kp, hb⟩ := c.ex
  constructor
  intro pins s σ H Q I h
  refine wpAny_Call_Name_kw (ld_glob I hg hm ?_ hdb)
  refine PySem.W.callWith_K (h₀ := X.base) I.ok.mod.kin kp (thn (ha.run pos pins s σ H _ I h) ?_) he hpl
  rintro us s1 ⟨vs, H1, I1, r, q⟩
  exact ⟨I1.kIn, run_g F (hr.mono hk) hgd hb (hx σ) I1 r q⟩
/-- f() -/
theorem pe_g0 (c : Cal X.prog X.w X.K X.mg X.base k x ps sp) (hr : Room j X.A) (hk : k ≤ j) (hgd : X.A.guards = some []) (hg : Gl X x) (hx : ∀ σ, PassesAt (L2.CX X.prog X.w) X σ (E σ))
    (hdb : (x == ("__debug__" : Str)) = false := by decide) : PE X (.Call (.Name x p) [] [] pos) (tCallS sp E tNil) := by
  obtain ⟨f, fd, F, hm, kp, hb⟩ := c.ex
  constructor
  intro pins s σ H Q I h
  refine wpAny_Call_Name_kw (ld_glob I hg hm ?_ hdb)
  exact PySem.W.callWith_K0 I.kIn kp (run_g (us := []) F (hr.mono hk) hgd hb (hx σ) I .nil h)
end

end SL
set_option Elab.async false
set_option linter.all false
set_option maxRecDepth 100000
set_option maxHeartbeats 4000000
/-! SlB: text * int, [::-1] of texts and tuples, enumerate(text), least of three; operators whatever the values are. -/
namespace SL
open PySem PySem.Spec PyProof.Rows L2

/-- a text of these signs -/
abbrev tx (l : List Nat) : Str := ⟨l.toArray⟩
theorem tx_list (z : Str) : tx z.cps.toList = z := by
  obtain ⟨⟨l⟩⟩ := z
  rfl
theorem tx_len (l : List Nat) : (tx l).length = l.length := by simp [Str.length]
theorem tx_app (l m : List Nat) : tx l ++ tx m = tx (l ++ m) := by
  show Str.mk (l.toArray ++ m.toArray) = _
  simp
theorem tx_inj {l m : List Nat} (h : tx l = tx m) : l = m := by
  have := congrArg (fun z : Str => z.cps.toList) h
  simpa using this

/-! ### text * int -/
theorem fold_app : ∀ (ls : List (Array Nat)) (acc : Array Nat), (ls.foldl (· ++ ·) acc).toList = acc.toList ++ (ls.map Array.toList).flatten
  | [], acc => by simp
  | a :: r, acc => by
    rw [List.foldl_cons, fold_app r (acc ++ a)]
    simp
theorem mul_txt (l : List Nat) (n : Int) : Txt.mul (tx l) n = tx (List.replicate n.toNat l).flatten := by
  unfold Txt.mul
  by_cases h1 : n < 1
  · rw [if_pos h1]
    have : n.toNat = 0 := by omega
    rw [this]
    rfl
  · rw [if_neg h1]
    by_cases h2 : (n == 1 || (tx l).length == 0) = true
    · rw [if_pos h2]
      rcases Bool.or_eq_true_iff.mp h2 with h | h
      · have e : n = 1 := by simpa using h
        subst e
        simp [tx]
      · have e : l = [] := by
          have h' : (tx l).length = 0 := by simpa using h
          rw [tx_len] at h'
          exact List.length_eq_zero_iff.mp h'
        subst e
        simp [tx]
    · rw [if_neg h2]
      have e := fold_app (List.replicate n.toNat (tx l).cps) #[]
      have e2 : ((List.replicate n.toNat (tx l).cps).foldl (· ++ ·) #[]) = (List.replicate n.toNat l).flatten.toArray := by
        apply Array.ext'
        rw [e]
        simp [List.map_replicate]
      rw [e2]
def rMulS : R2 := fun x y H Q => ∃ (l : List Nat) (n : Int), x = .str (tx l) ∧ y = .int n ∧ n ≤ 1000000 ∧ -1000000 ≤ n ∧ l.length ≤ 1000000 ∧ l.length * n.toNat ≤ 16777216 ∧ Q (.str (tx (List.replicate n.toNat l).flatten)) H
theorem op_mulS {X : Cx} : OpR X (binaryOp .Mult) rMulS := by
  intro pins s σ H x y v u Q I rx ry h
  obtain ⟨l, n, rfl, rfl, h1, h2, hl, hz, q⟩ := h
  obtain ⟨t, rfl⟩ := rx
  obtain ⟨t', rfl⟩ := ry
  refine SB.mul ⟨?_, fun h3 h4 => ?_, fun h3 h4 => ?_⟩ fun t2 k => ⟨.str _, H, I.tok k, ⟨t2, rfl⟩, by rw [mul_txt]; exact q⟩
  · rw [decide_eq_false (by omega), decide_eq_false (by omega)]
    rfl
  · rw [tx_len]
    have hn : 1 ≤ n := by omega
    have : (l.length : Int) ≤ (2 ^ 63 - 1) / n := by
      rw [Int.le_ediv_iff_mul_le (by omega)]
      have h5 : (l.length : Int) * n ≤ 1000000 * 1000000 := Int.mul_le_mul (by omega) h1 (by omega) (by omega)
      omega
    omega
  · rw [tx_len]
    unfold Builtin.Str.tooLong
    have hs := sizeLine_eq
    first
      | (apply decide_eq_false; omega)
      | (simp; omega)

/-! ### least of three -/
theorem call_min3I {X : Cx} (hc : X.calm = true) : CallR X (.builtin "min") (fun xs H Q => ∃ i j k, xs = [.int i, .int j, .int k] ∧ Q (.int (min (min i j) k)) H) := by
  intro pins s σ H xs us Q I r h
  obtain ⟨i, j, k, rfl, q⟩ := h
  refine call_min3Nu hc pins s σ H _ us Q I r ⟨.int i, .int j, .int k, .int (min (min i j) k), rfl, ?_, q⟩
  have two : ∀ a b : Int, nuMin2 (.int a) (.int b) = some (.int (min a b)) := by
    intro a b
    unfold nuMin2
    have e : nuLt (.int b) (.int a) = some (decide (b < a)) := by first | rfl | (unfold nuLt; rfl) | (simp [nuLt, nuCB])
    rw [e]
    show some (if decide (b < a) = true then V.int b else V.int a) = _
    by_cases h : b < a
    · rw [if_pos (decide_eq_true h)]
      congr 2
      omega
    · rw [if_neg (by simpa using h)]
      congr 2
      omega
  unfold nuMin3
  rw [two i j]
  exact two _ k

/-! ### [::-1] of texts and tuples -/
def tRevU (K : PySem.W.Frag) (te : TE) : TE := fun σ H Q => te σ H fun x H1 =>
  (∃ l : List Nat, x = .str (tx l) ∧ l.length ≤ 16777216 ∧ Q (.str (tx l.reverse)) H1) ∨
  (∃ a xs, x = .ref a ∧ SqT K H1 a xs ∧ ∀ p, H1 p = none → Q (.ref p) (upd H1 p (.tup xs.reverse)))
theorem getD_rev (l : List Nat) : ((List.range l.length).map fun k => l.toArray.getD (l.length - 1 - k) 0) = l.reverse := by
  apply List.ext_getElem
  · simp
  · intro i h1 h2
    have hi : i < l.length := by simpa using h1
    simp [Array.getD, show l.length - 1 - i < l.length by omega]
section
variable {prog : Program} {w : World} {A : Around} {E : Value → Shared → Prop} {s : Shared}
open HT in
theorem applied_rev {sl : Addr} {vl vu vs : Value} {n : Nat} {Q : Int × Int × Nat → Shared → Prop} (hs : s.heap.IsSliceOf sl vl vu vs) (pl : IsPart vl none) (pu : IsPart vu none) (ps : IsPart vs (some (-1)))
    (h : Q ((n : Int) - 1, -1, n) s) : wpAny (model prog w) A (Builtin.Slice.sliceApplied (.ref sl) (pure (n : Int))) Q E s := by
  obtain ⟨os, hos, hcs, hds⟩ := id hs
  unfold Builtin.Slice.sliceApplied Builtin.Slice.sliceFields
  refine wpAny_bind (wpAny_bind (wpAny_field hos hds (x := vl) rfl (wpAny_bind (wpAny_field hos hds (x := vu) rfl (wpAny_bind (wpAny_field hos hds (x := vs) rfl (wpAny_pure ?_)))))))
  refine wpAny_bind (slicePart_ ps ?_)
  show wpAny _ _ (if ((-1 : Int) == 0) = true then _ else _) _ _ s
  rw [if_neg (by decide)]
  refine wpAny_bind (slicePart_ pl (wpAny_bind (slicePart_ pu (wpAny_bind (wpAny_pure ?_)))))
  have e1 : Builtin.Slice.sliceAdjust none none (-1) (n : Int) = ((n : Int) - 1, -1) := rfl
  show wpAny _ _ (match Builtin.Slice.sliceAdjust none none (-1) (n : Int) with | (lo, hi) => pure (lo, (-1 : Int), Builtin.Slice.slicePlaces lo hi (-1))) _ _ s
  rw [e1]
  have e2 : Builtin.Slice.slicePlaces ((n : Int) - 1) (-1) (-1) = n := by
    unfold Builtin.Slice.slicePlaces
    rw [if_neg (by decide)]
    by_cases h0 : (n : Int) - 1 > -1
    · rw [if_pos h0]
      have : ((n : Int) - 1 - -1 - 1) / (- -1) = (n : Int) - 1 := by
        rw [show (- -1 : Int) = 1 from by decide, Int.ediv_one]
        omega
      rw [this]
      omega
    · rw [if_neg h0]
      omega
  show wpAny _ _ (pure ((n : Int) - 1, (-1 : Int), Builtin.Slice.slicePlaces ((n : Int) - 1) (-1) (-1))) _ _ s
  rw [e2]
  exact wpAny_pure h
theorem fmap_congr {α β : Type} {f g : α → Option β} : ∀ {l : List α}, (∀ a ∈ l, f a = g a) → l.filterMap f = l.filterMap g
  | [], _ => rfl
  | a :: r, h => by
    rw [List.filterMap_cons, List.filterMap_cons, h a List.mem_cons_self, fmap_congr fun b hb => h b (List.mem_cons_of_mem _ hb)]
theorem pick_rev (xs : Array Value) : ((List.range xs.size).filterMap fun (m : Nat) => xs[((xs.size : Int) - 1 + (m : Int) * -1).toNat]?).toArray = xs.toList.reverse.toArray := by
  have e : ∀ m ∈ List.range xs.size, xs[((xs.size : Int) - 1 + (m : Int) * -1).toNat]? = ((fun k => xs[k]?) ∘ fun k => xs.size - 1 - k) m := by
    intro m hm
    have : m < xs.size := List.mem_range.mp hm
    show _ = xs[xs.size - 1 - m]?
    congr 1
    omega
  rw [fmap_congr e, ← List.filterMap_map, PySem.W.krv_range, List.filterMap_reverse, PySem.W.krv_all]
open HT in
theorem getItem_tuple_rev {t sl : Addr} {items : Array Value} {vl vu vs : Value} {Q : Value → Shared → Prop} (ht : IsTup s.heap t items) (hs : s.heap.IsSliceOf sl vl vu vs) (pl : IsPart vl none) (pu : IsPart vu none) (ps : IsPart vs (some (-1)))
    (h : Q (.ref s.heap.objs.size) { s with heap := s.heap.push { cls := .type "tuple", data := .seq items.toList.reverse.toArray } })
    (hsz : items.size ≤ sizeLine) : wpAny (model prog w) A (getItem (.ref t) (.ref sl)) Q E s := by
  have fits : sizeOk (.seq items.toList.reverse.toArray) := by
    show items.toList.reverse.toArray.size ≤ sizeLine
    rw [List.size_toArray, List.length_reverse, Array.length_toList]
    exact hsz
  obtain ⟨os, hos, hcs, hds⟩ := id hs
  have isS : s.TypeIs (.ref sl) "slice" := ⟨os, hos, hcs⟩
  unfold getItem
  try with_reducible refine wpAny_holding ?_
  first | refine wpAny_bind (wpAny_pure ?_) | skip
  refine wpAny_bind (wpAny_sequenceKey ht.typeIs (by decide) ?_)
  refine wpAny_bind (wpAny_callSpecial?_slot (name := Str.ofString "__getitem__") ht.typeIs PyProof.Rows.slot_tuple_getitem
    (wpAny_call_entry PyProof.Rows.slot_tuple_getitem ht.typeIs entry_tuple_getitem ?_ (args_tuple_getitem _ _)))
  show wpAny _ _ (Builtin.Tuple.tupleItemsOf (.ref t) >>= _) _ _ s
  refine wpAny_bind (tupleItemsOf_ ht ?_)
  refine wpAny_bind (wpAny_typeOf isS ?_)
  rw [if_pos (by decide)]
  refine wpAny_bind (applied_rev hs pl pu ps ?_)
  have no : ¬ ((((items.size : Int) - 1 == 0) && (-1 : Int) == 1 && items.size == items.size) = true) := by simp
  show wpAny _ _ (if (((items.size : Int) - 1 == 0) && (-1 : Int) == 1 && items.size == items.size) = true then _ else _) _ _ s
  rw [if_neg no, pick_rev]
  first
    | exact wpAny_bind (m := Builtin.Tuple.tupleExact _) (wpAny_newObj_type (wpAny_pure ⟨_, rfl, wpAny_pure h⟩) fits)
    | exact wpAny_bind (m := Builtin.Tuple.tupleExact _) (wpAny_newObj_type (wpAny_bind (wpAny_pure (wpAny_pure ⟨_, rfl, wpAny_pure h⟩))) fits)
    | exact wpAny_bind (wpAny_bind (m := Builtin.Tuple.tupleExact _) (wpAny_newObj_type (wpAny_pure (wpAny_pure ⟨_, rfl, wpAny_pure h⟩)) fits))
    | exact wpAny_bind (wpAny_bind (m := Builtin.Tuple.tupleExact _) (wpAny_newObj_type (wpAny_pure ⟨_, rfl, wpAny_pure h⟩) fits))
end
theorem pe_revU {X : Cx} {e : Expr} {te : TE} {k : Nat} {p1 p2 p3 pos : Pos} (he : PE X e te) :
    PE X (.Subscript e (.Slice none none (some (.UnaryOp .USub (.Constant (.int 1) k p1) p2)) p3) pos) (tRevU X.K te) := by
  constructor
  intro pins s σ H Q I h
  refine Subscript_ (thn (he.run pins s σ H _ I h) ?_)
  rintro v s1 ⟨x, H1, I1, r1, q1⟩
  have st : PO X (some (.UnaryOp .USub (.Constant (.int 1) k p1) p2)) (tPart (tUn (rU fun i => .int (-i)) (tC (.int 1)))) := po_some (pe_un un_neg pe_int)
  refine wpAny_Slice (thn (po_none.run pins s1 σ H1 (fun o H2 => o = none ∧ H2 = H1) I1 ⟨rfl, rfl⟩) ?_)
  rintro vl s2 ⟨o2, H2, I2, pl, rfl, rfl⟩
  refine thn (po_none.run pins s2 σ H2 (fun o H3 => o = none ∧ H3 = H2) I2 ⟨rfl, rfl⟩) ?_
  rintro vu s3 ⟨o3, H3, I3, pu, rfl, rfl⟩
  refine thn (st.run pins s3 σ H3 (fun o H4 => o = some (-1) ∧ H4 = H3) I3 ⟨1, rfl, -1, rfl, rfl, rfl⟩) ?_
  rintro vs s4 ⟨o4, H4, I4, ps, rfl, rfl⟩
  have I5 : Inv X pins σ H4 { s4 with heap := s4.heap.push { cls := .type "slice", data := .fields #[vl, vu, vs] } } := I4.kept (t' := s4.toks) fun b ob q => Heap.get?_push_of_some _ q
  rcases q1 with ⟨l, rfl, hz, q⟩ | ⟨a, xs, rfl, hx, q⟩
  · obtain ⟨t, rfl⟩ := r1
    refine tail_any (ops := [.str (tx l) t, .ref s4.heap.objs.size]) (typeIs_str _ _ _) F.slot_str_getitem.lookup ?_ (by with_unfolding_all rfl)
    obtain ⟨l1, rfl, e1⟩ := IsPart.raw pl
    obtain ⟨u1, rfl, e2⟩ := IsPart.raw pu
    obtain ⟨w1, rfl, e3⟩ := IsPart.raw ps
    obtain rfl : l1 = none := by cases l1 with | none => rfl | some _ => cases e1
    obtain rfl : u1 = none := by cases u1 with | none => rfl | some _ => cases e2
    obtain ⟨i, tk, rfl⟩ : ∃ i tk, w1 = some (i, tk) := by cases w1 with | none => cases e3 | some p => exact ⟨p.1, p.2, rfl⟩
    obtain rfl : i = -1 := Option.some.inj e3
    refine wpAny_getItem_str_slice (l := none) (u := none) (st := some (-1, tk)) ⟨_, Heap.get?_push_size _ rfl, rfl, rfl⟩ rfl ?_
    have ee : (tx l.reverse) = ⟨((Builtin.Str.strSliceIndices none none (-1) (tx l).length).filterMap ((tx l).cps[·]?)).toArray⟩ := by
      rw [PyProof.Rows.picked_rev, PyProof.Rows.filterMap_get, List.map_map]
      · rw [tx_len, ← getD_rev l]
        rfl
      · intro i hi
        obtain ⟨k, hk, rfl⟩ := List.mem_map.mp hi
        have hk' : k < (tx l).length := List.mem_range.mp hk
        show (tx l).length - 1 - k < (tx l).length
        omega
    have hl : (tx l.reverse).length ≤ sizeLine := by
      rw [tx_len, List.length_reverse, sizeLine_eq]
      exact hz
    unfold sliceMade
    have no : ¬ ((((some ((-1 : Int), tk)).map (·.1)).getD 1 == 1 && (slicePicked (tx l) none none (some (-1, tk))).length == (tx l).length) = true) := by
      have : (((some ((-1 : Int), tk)).map (·.1)).getD 1 == 1) = false := rfl
      rw [this]
      simp
    rw [if_neg no]
    have em : slicePicked (tx l) none none (some (-1, tk)) = Builtin.Str.strSliceIndices none none (-1) (tx l).length := rfl
    rw [em, ← ee]
    exact ⟨hl, .str _, H4, I5.tok _, ⟨_, rfl⟩, q⟩
  · cases r1
    obtain ⟨its, r, ht, hz⟩ := I5.tuple hx
    refine tail_any (ops := [.ref a, .ref s4.heap.objs.size]) ht.typeIs (PyProof.Rows.slot_tuple_getitem.lookup) ?_ (by with_unfolding_all rfl)
    have hl := r.length
    refine getItem_tuple_rev ht (Heap.IsSliceOf.new _ vl vu vs) pl pu ps ?_ (by rw [List.size_toArray]; omega)
    refine ⟨.ref _, _, I5.laid (t' := s4.toks) (o := .tup xs.reverse) (fun b ob q => Heap.get?_push_of_some _ q) (Nat.le_refl _) ?_, rfl, q _ (I5.hok.fresh (Nat.le_refl _))⟩
    exact ⟨by rw [List.length_reverse]; exact hz, _, r.reverse, IsTup.new _ _⟩
end SL
set_option Elab.async false
set_option linter.all false
set_option maxRecDepth 100000
set_option maxHeartbeats 4000000
/-! SlC: for i, c in enumerate(text). -/
namespace SL
open PySem PySem.Spec PyProof.Rows L2
/-- the signs of a text, each in a new pair with its place -/
def Ites (z : Str) : It :=
  ⟨fun i _ => i < z.cps.size, fun i H v H' => ∃ T c, v = .ref T ∧ H T = none ∧ H' = upd H T (.tup [.int (i : Nat), .str ⟨#[c]⟩]) ∧ z.cps[i]? = some c, fun i _ => i = z.cps.size⟩
theorem drawn {X : Cx} (hh : X.A.in1.handled = none) (it : Addr) (z : Str) (t : Tok) (ty : String) (hty : ty = "str_ascii_iterator" ∨ ty = "str_iterator") :
    Draws X.prog X.w X.A.in1 it [it] z.cps.size (SignAt z) (fun i h => h.IsStrIter it ty z t i) := by
  rcases hty with e | e
  · rw [e]
    exact Draws.strAscii hh it z t
  · rw [e]
    exact Draws.strWide hh it z t
theorem turn_enumS {P : Program} {w : World} {K : PySem.W.Frag} {elts : List Expr} {kk : Nat} {tpos : Pos} (z : Str) (t : Tok) (ty : String) (hty : ty = "str_ascii_iterator" ∨ ty = "str_iterator") (e it : Addr) :
    Turn P w K (.Tuple elts kk tpos) (Ites z) [e, it] e (fun i h => (∃ old, IsEnum h e it ((i : Nat) : Int) old) ∧ h.IsStrIter it ty z t i ∧ e ≠ it) where
  mem := by simp
  obj := fun i h st b hb => by
    obtain ⟨⟨old, he⟩, ⟨o, ho, hc, hd⟩, _⟩ := st
    have two : b = e ∨ b = it := by simpa using hb
    cases two with
    | inl q => rw [q]; exact ⟨_, he, fun v y => nomatch y⟩
    | inr q => rw [q]; exact ⟨o, ho, fun v y => by rw [hd] at y; cases y⟩
  keep := fun i h h' st k => by
    obtain ⟨⟨old, he⟩, ⟨o, ho, hc, hd⟩, hne⟩ := st
    exact ⟨⟨old, k e (by simp) _ he⟩, ⟨o, k it (by simp) o ho, hc, hd⟩, hne⟩
  item := by
    intro X hP hw hK hc i pins s σ H E I hf st hg
    subst hP hw hK
    obtain ⟨⟨old, he⟩, hit, hne⟩ := st
    have hel : e < s.heap.objs.size := Heap.lt_size he
    have hil : it < s.heap.objs.size := by obtain ⟨_, q, _⟩ := hit; exact Heap.lt_size q
    have dr := drawn (X := X) (I.ok.hd hc) it z t ty hty
    refine wpAny_pyNext_enum_itemD dr he hit hg hne (by simpa using hne) ?_
    intro x h' tk hx ho hit' hT hsz hk
    obtain ⟨c, u, hcx, rfl⟩ := hx
    refine ⟨_, rfl, wpAny_letOwnedTupleGo_enum (s := { s with heap := h', toks := tk + 1 }) ho ?_⟩
    intro h'' he' sb
    have hT2 : h''.get? s.heap.objs.size = some { cls := .type "tuple", data := .seq #[.int i tk, .str ⟨#[c]⟩ u] } := (sb.2 _ (Nat.ne_of_gt hel)).trans hT
    have new : ObjOk X.prog X.w (upd H s.heap.objs.size (.tup [.int (i : Nat), .str ⟨#[c]⟩])) h'' s.heap.objs.size (.tup [.int (i : Nat), .str ⟨#[c]⟩]) :=
      ⟨by show 2 ≤ sizeLine; decide, [.int i tk, .str ⟨#[c]⟩ u], .cons ⟨_, rfl⟩ (.cons ⟨_, rfl⟩ .nil), ⟨_, hT2, rfl, _, rfl⟩⟩
    have I1 : Inv X pins σ (upd H s.heap.objs.size (.tup [.int (i : Nat), .str ⟨#[c]⟩])) { s with heap := h'', toks := tk + 1 } :=
      I.turnedNew (ch := [e, it]) (fun b ob hb q => (sb.2 b (fun y => hb (by simp [y]))).trans (hk b ob (fun y => hb (by simp [y])) (fun y => hb (by simp [y])) q)) hf (Nat.le_refl _) new
    refine ⟨.ref s.heap.objs.size, _, I1, rfl, ⟨_, c, rfl, I.hok.fresh (Nat.le_refl _), rfl, hcx⟩, ⟨⟨.str ⟨#[c]⟩ u, ?_⟩, ?_, hne⟩, fun b hb => ?_⟩
    · have e1 : ((i + 1 : Nat) : Int) = (i : Int) + 1 := by omega
      rw [e1]
      exact he'
    · obtain ⟨o, ho2, hc2, hd2⟩ := hit'
      exact ⟨o, (sb.2 it (Ne.symm hne)).trans ho2, hc2, hd2⟩
    · have lt : b < s.heap.objs.size := by
        have two : b = e ∨ b = it := by simpa using hb
        cases two with
        | inl q => rw [q]; exact hel
        | inr q => rw [q]; exact hil
      rw [upd_ne (Nat.ne_of_lt lt)]
      exact (hf b hb).1
  done := by
    intro X hP hw hK hc i pins s σ H E I hf st hg
    subst hP hw hK
    obtain ⟨⟨old, he⟩, hit, hne⟩ := st
    obtain ⟨f0, f1, f2, f3, f4, f5⟩ := hf it (by simp)
    have dr := drawn (X := X) (I.ok.hd hc) it z t ty hty
    have hi : i = z.cps.size := hg
    subst hi
    refine wpAny_pyNext_enum_endD dr he hit ?_
    intro h' eb
    exact ⟨rfl, I.turned (t' := s.toks) (fun b o hb q => eb b o hb q) f0 f1 f3 f4 f5⟩
  self := fun A i s Q E st h => by
    obtain ⟨⟨_, he⟩, _⟩ := st
    exact wpAny_pyIter_enum he h
def iEnumS (ta : TA) : TI := fun σ H R => ta σ H fun vs H1 => ∃ z, vs = [.str z] ∧ R (Ites z) H1
theorem pi_enumS {X : Cx} {e : Expr} {ta : TA} {p pos tpos : Pos} {elts : List Expr} {kk : Nat} (hg : Gl X "enumerate") (hm : X.mg "enumerate" = none) (ha : PA X [e] ta) (hs : starEach [e] X.env = [(false, eval e X.env)] := by rfl) :
    PI X (.Tuple elts kk tpos) (.Call (.Name "enumerate" p) [e] [] pos) (iEnumS ta) := by
  constructor
  intro pins s σ H R I h
  refine Call_ (ld_blt I hg hm boot_enumerate (PyProof.Rows.callWith_type1 (thn (ha.run pos pins s σ H _ I h) ?_) hs rfl))
  rintro us s1 ⟨vs, H1, I1, r1, z, rfl, q⟩
  obtain ⟨u, rfl, ru⟩ : ∃ u, us = [u] ∧ RelV (.str z) u := by
    cases r1 with
    | cons r rr =>
      cases rr
      exact ⟨_, rfl, r⟩
  obtain ⟨t, rfl⟩ := ru
  refine call_enumerate_str ?_
  intro h' he hit hsz hk
  refine wpAny_pyIter_enum he ?_
  have I2 : Inv X pins σ H1 { s1 with heap := h' } := I1.kept (t' := s1.toks) hk
  have hty : strIterType z = "str_ascii_iterator" ∨ strIterType z = "str_iterator" := by
    unfold strIterType
    split <;> simp
  refine ⟨s1.heap.objs.size + 1, [s1.heap.objs.size + 1, s1.heap.objs.size], _, _, H1, rfl, I2, turn_enumS z t _ hty (s1.heap.objs.size + 1) s1.heap.objs.size, ⟨⟨.none, he⟩, hit, Nat.succ_ne_self _⟩, fun b hb => ?_, q⟩
  have two : b = s1.heap.objs.size + 1 ∨ b = s1.heap.objs.size := by simpa using hb
  have hle : s1.heap.objs.size ≤ b := by
    cases two with
    | inl y => rw [y]; exact Nat.le_add_right _ _
    | inr y => rw [y]; exact Nat.le_refl _
  exact I1.fpOk hle (I1.hok.fresh hle)
end SL
set_option Elab.async false
set_option linter.all false
set_option maxRecDepth 100000
set_option maxHeartbeats 4000000
/-! SlD: operators whatever the values are, and each reading's step (w_..), to be taken from the left. -/
namespace SL
open PySem PySem.Spec PyProof.Rows L2
abbrev SSt := L2.St

/-! ### heaps -/
/-- all but p stands -/
def Fr (p : Addr) (H H' : Hp) : Prop := ∀ b o, H b = some o → b ≠ p → H' b = some o
theorem Fr.refl (p : Addr) (H : Hp) : Fr p H H := fun _ _ h _ => h
theorem Fr.trans {p : Addr} {H H1 H2 : Hp} (a : Fr p H H1) (b : Fr p H1 H2) : Fr p H H2 := fun c o h n => b c o (a c o h n) n
theorem Fr.of {p : Addr} {H H' : Hp} (a : Same H H') : Fr p H H' := fun c o h _ => a c o h
theorem Fr.put {p : Addr} {H H' : Hp} {o : HO} (a : Fr p H H') : Fr p H (upd H' p o) := fun c u h n => by rw [upd_ne n]; exact a c u h n
theorem Fr.new {p q : Addr} {H H' : Hp} {o : HO} (a : Fr p H H') (hq : H' q = none) (hp : ∃ u, H p = some u) : Fr p H (upd H' q o) := fun c u h n => by
  have n2 : c ≠ q := ne_of_none (a c u h n) hq
  rw [upd_ne n2]
  exact a c u h n
theorem Same.new {q : Addr} {H H' : Hp} {o : HO} (a : Same H H') (hq : H' q = none) : Same H (upd H' q o) := fun c u h => by
  rw [upd_ne (ne_of_none (a c u h) hq)]
  exact a c u h
theorem same_new {q : Addr} {H : Hp} {o : HO} (hq : H q = none) : Same H (upd H q o) := Same.new (Same.refl H) hq
/-- a new list that grows -/
theorem Same.grow {q : Addr} {H H' : Hp} {o : HO} (a : Same H H') (hq : H q = none) : Same H (upd H' q o) := fun c u h => by
  rw [upd_ne (ne_of_none h hq)]
  exact a c u h
theorem Same.none {H H' : Hp} {q : Addr} (a : Same H H') (hq : H' q = none) : H q = none := a.free hq
theorem rd_new {H : Hp} {a p : Addr} {o u : HO} (hp : H p = none) (h : Rd H a u) : Rd (upd H p o) a u := by
  rcases h with h | ⟨x, h⟩
  · exact .inl (by rw [upd_ne (ne_of_none h hp)]; exact h)
  · exact .inr ⟨x, by rw [upd_ne (ne_of_none h hp)]; exact h⟩
theorem sql_new {K : PySem.W.Frag} {H : Hp} {a p : Addr} {o : HO} {xs : List V} (hp : H p = none) (h : SqL K H a xs) : SqL K (upd H p o) a xs := by
  rcases h with h | h
  · exact .inl (rd_new hp h)
  · exact .inr h
theorem sqt_new {K : PySem.W.Frag} {H : Hp} {a p : Addr} {o : HO} {xs : List V} (hp : H p = none) (h : SqT K H a xs) : SqT K (upd H p o) a xs := by
  rcases h with h | h
  · exact .inl (rd_new hp h)
  · exact .inr h
theorem sql_upd {K : PySem.W.Frag} {H : Hp} {a p : Addr} {o : HO} {xs : List V} (n : a ≠ p) (h : SqL K H a xs) : SqL K (upd H p o) a xs := by
  rcases h with (h | ⟨x, h⟩) | h
  · exact .inl (.inl (by rw [upd_ne n]; exact h))
  · exact .inl (.inr ⟨x, by rw [upd_ne n]; exact h⟩)
  · exact .inr h
theorem sqt_upd {K : PySem.W.Frag} {H : Hp} {a p : Addr} {o : HO} {xs : List V} (n : a ≠ p) (h : SqT K H a xs) : SqT K (upd H p o) a xs := by
  rcases h with (h | ⟨x, h⟩) | h
  · exact .inl (.inl (by rw [upd_ne n]; exact h))
  · exact .inl (.inr ⟨x, by rw [upd_ne n]; exact h⟩)
  · exact .inr h
theorem Same.seqT {K : PySem.W.Frag} {H H' : Hp} {a : Addr} {xs : List V} (e : Same H H') (h : SqT K H a xs) : SqT K H' a xs := by
  rcases h with (h | ⟨o, h⟩) | h
  · exact .inl (.inl (e _ _ h))
  · exact .inl (.inr ⟨o, e _ _ h⟩)
  · exact .inr h

/-! ### operators -/
def rAddU (K : PySem.W.Frag) : R2 := fun x y H Q => (∃ i j, x = .int i ∧ y = .int j ∧ Q (.int (i + j)) H) ∨ (∃ i j, x = .str i ∧ y = .str j ∧ i.length + j.length ≤ sizeLine ∧ Q (.str (i ++ j)) H) ∨ rCat x y H Q ∨ rCatA K x y H Q
theorem uAdd {X : Cx} : OpR X (binaryOp .Add) (rAddU X.K) := op_add.or (op_add_str.or (op_cat.or op_catA))
def rMulU : R2 := fun x y H Q => (∃ i j, x = .int i ∧ y = .int j ∧ CMul i j ∧ Q (.int (i * j)) H) ∨ rMulS x y H Q
theorem uMul {X : Cx} : OpR X (binaryOp .Mult) rMulU := op_mul.or op_mulS
def rSubU : R2 := fun x y H Q => ∃ i j, x = .int i ∧ y = .int j ∧ Q (.int (i - j)) H
theorem uSub {X : Cx} : OpR X (binaryOp .Sub) rSubU := op_sub
def rModU : R2 := fun x y H Q => ∃ i j, x = .int i ∧ y = .int j ∧ 0 < j ∧ Q (.int (i % j)) H
theorem uMod {X : Cx} : OpR X (binaryOp .Mod) rModU := op_mod
def rDivU : R2 := fun x y H Q => ∃ i j, x = .int i ∧ y = .int j ∧ CDiv i j ∧ Q (.int (i / j)) H
theorem uDiv {X : Cx} : OpR X (binaryOp .FloorDiv) rDivU := op_fdiv
def rPowU : R2 := fun x y H Q => ∃ i j, x = .int i ∧ y = .int j ∧ CPow i j ∧ Q (.int (i ^ j.toNat)) H
theorem uPow {X : Cx} : OpR X (binaryOp .Pow) rPowU := op_pow
def rLtU : R2 := fun x y H Q => ∃ i j, x = .int i ∧ y = .int j ∧ Q (.bl (decide (i < j))) H
theorem uLt {X : Cx} : OpR X (compareOp .Lt) rLtU := op_lt
def rLeU : R2 := fun x y H Q => ∃ i j, x = .int i ∧ y = .int j ∧ Q (.bl (decide (i ≤ j))) H
theorem uLe {X : Cx} : OpR X (compareOp .LtE) rLeU := op_le
def rGtU : R2 := fun x y H Q => ∃ i j, x = .int i ∧ y = .int j ∧ Q (.bl (decide (j < i))) H
theorem uGt {X : Cx} : OpR X (compareOp .Gt) rGtU := op_gt
def rGeU : R2 := fun x y H Q => ∃ i j, x = .int i ∧ y = .int j ∧ Q (.bl (decide (j ≤ i))) H
theorem uGe {X : Cx} : OpR X (compareOp .GtE) rGeU := op_ge
def rEqU (K : PySem.W.Frag) : R2 := fun x y H Q => rEq x y H Q ∨ rEqD K x y H Q
theorem uEq {X : Cx} {k : Nat} (hr : Room k X.A) : OpR X (compareOp .Eq) (rEqU X.K) := op_eq.or (op_eqD hr.units)
def rNeU (K : PySem.W.Frag) : R2 := fun x y H Q => rNe x y H Q ∨ rNeD K x y H Q
theorem uNe {X : Cx} {k : Nat} (hr : Room k X.A) : OpR X (compareOp .NotEq) (rNeU X.K) := op_ne.or (op_neD hr.units)
def rInU (K : PySem.W.Frag) : R2 := fun x y H Q => (∃ (c : Nat) (z : Str), x = .str ⟨#[c]⟩ ∧ y = .str z ∧ Q (.bl (decide (c ∈ z.cps.toList))) H) ∨ rIn K false x y H Q
theorem uIn {X : Cx} : OpR X (compareOp .In) (rInU X.K) := op_in_sign.or op_in_seq
def rSlU (K : PySem.W.Frag) : V → Option Int → Option Int → Hp → VK → Prop := fun x lo hi H Q => rSlL K x lo hi H Q ∨ rSlS x lo hi H Q ∨ rSlA K x lo hi H Q
theorem uSl {X : Cx} : SlR X (rSlU X.K) := sl_list.or (sl_str.or sl_tupA)
/-- a written text, by its signs -/
theorem pe_tx {X : Cx} {x : Str} {j : Nat} {pos : Pos} (l : List Nat) (h : x = tx l) : PE X (.Constant (.str x) j pos) (tC (.str (tx l))) := by
  rw [h]
  exact pe_str

/-! ### the steps -/
section
variable {K : PySem.W.Frag} {σ : SSt} {H : Hp} {Q : VK} {D : Ends} {ta tb tc te to : TE} {t tr tk : TA} {tt tu : TT} {t1 t2 : TS} {r : R2} {i j k : Int} {n m : Nat} {b c : Bool} {v w : V} {l z : List Nat} {p q a : Addr} {xs ys zs : List V} {sp : Sp} {E : SSt → XK}
theorem w_var (h : σ[n]? = some (some v)) (q : Q v H) : tVar n σ H Q := ⟨v, h, q⟩
theorem w_c (q : Q v H) : tC v σ H Q := q
theorem w_op (q : ta σ H fun x H1 => tb σ H1 fun y H2 => r x y H2 Q) : tOp r ta tb σ H Q := q
theorem w_un {u : V → Hp → VK → Prop} (q : ta σ H fun x H1 => u x H1 Q) : tUn u ta σ H Q := q
theorem w_neg (q : Q (.int (-i)) H) : rU (fun i => .int (-i)) (.int i) H Q := ⟨i, rfl, q⟩
theorem w_nil {Q : List V → Hp → Prop} (q : Q [] H) : tNil σ H Q := q
theorem w_cons {Q : List V → Hp → Prop} (q : ta σ H fun x H1 => tr σ H1 fun xs H2 => Q (x :: xs) H2) : tCons ta tr σ H Q := q
theorem w_call (q : t σ H fun vs H1 => sp vs H1 Q (E σ)) : tCallS sp E t σ H Q := q
theorem w_cb {u : List V → Hp → VK → Prop} (q : t σ H fun vs H1 => u vs H1 Q) : tCB u t σ H Q := q
theorem w_bm {T : String} {u : V → List V → Hp → VK → Prop} (q : to σ H fun x H1 => tyV K T x H1 ∧ t σ H1 fun xs H2 => u x xs H2 Q) : tBM K T u to t σ H Q := q
theorem w_bm0 {T : String} {u : V → List V → Hp → VK → Prop} (q : to σ H fun x H1 => tyV K T x H1 ∧ u x [] H1 Q) : tBM0 K T u to σ H Q := q
theorem w_m1 {u : V → List V → Hp → VK → Prop} (q : to σ H fun x H1 => (∃ a, x = .str a) ∧ te σ H1 fun y H2 => u x [y] H2 Q) : tM1 u to te σ H Q := q
theorem w_test {Q : Bool → Hp → Prop} (q : te σ H fun x H' => ∃ k, x = .bl k ∧ Q k H') : tTest te σ H Q := q
theorem w_B {Q : Bool → Hp → Prop} (q : te σ H fun x H' => ∃ k, x = .bl k ∧ Q k H') : tB te σ H Q := q
theorem w_k {Q : Bool → Prop} (q : Q b) : ∃ k, V.bl b = .bl k ∧ Q k := ⟨b, rfl, q⟩
theorem w_and {Q : Bool → Hp → Prop} (q : tt σ H fun c H1 => if c = true then tu σ H1 Q else Q false H1) : tAnd tt tu σ H Q := q
theorem w_or {Q : Bool → Hp → Prop} (q : tt σ H fun c H1 => if c = true then Q true H1 else tu σ H1 Q) : tOr tt tu σ H Q := q
theorem w_not {Q : Bool → Hp → Prop} (q : tt σ H fun c H1 => Q (!c) H1) : tNot tt σ H Q := q
theorem w_andV (q : ta σ H fun x H1 => ∃ c, x = .bl c ∧ if c = true then tb σ H1 Q else Q (.bl false) H1) : tAndV ta tb σ H Q := q
theorem w_orV (q : ta σ H fun x H1 => ∃ c, x = .bl c ∧ if c = true then Q (.bl true) H1 else tb σ H1 Q) : tOrV ta tb σ H Q := q
theorem w_notV (q : ta σ H fun x H1 => ∃ c, x = .bl c ∧ Q (.bl (!c)) H1) : tNotV ta σ H Q := q
theorem w_ifE (q : tt σ H fun c H1 => if c = true then ta σ H1 Q else tb σ H1 Q) : tIf tt ta tb σ H Q := q
theorem w_tup (q : t σ H fun xs H1 => xs.length ≤ sizeLine ∧ ∀ p, H1 p = none → Q (.ref p) (upd H1 p (.tup xs))) : tTup t σ H Q := q
theorem w_lst (q : t σ H fun xs H1 => xs.length ≤ sizeLine ∧ ∀ p, H1 p = none → Q (.ref p) (upd H1 p (.lst xs))) : tLst t σ H Q := q
theorem w_chain {r' : R2} (q : ta σ H fun x H1 => tb σ H1 fun y H2 => r x y H2 fun z H3 => ∃ k, z = .bl k ∧ (if k = true then tc σ H3 fun w' H4 => r' y w' H4 Q else Q (.bl false) H3)) : tChain r r' ta tb tc σ H Q := q
theorem w_sl {u : V → Option Int → Option Int → Hp → VK → Prop} {tl th : TO} (q : te σ H fun x H1 => tl σ H1 fun lo H2 => th σ H2 fun hi H3 => u x lo hi H3 Q) : tSl u te tl th σ H Q := q
theorem w_np {Q : Option Int → Hp → Prop} (q : Q none H) : tNoPart σ H Q := q
theorem w_part {Q : Option Int → Hp → Prop} (q : te σ H fun x H1 => ∃ i, x = .int i ∧ Q (some i) H1) : tPart te σ H Q := q
theorem w_i {Q : Int → Prop} (q : Q i) : ∃ k, V.int i = .int k ∧ Q k := ⟨i, rfl, q⟩
/-! statements -/
theorem w_seq (q : t1 { D with nx := t2 D } σ H) : tSeq t1 t2 D σ H := q
theorem w_next (q : D.nx σ H) : tNext D σ H := q
theorem w_brk (q : D.bk σ H) : tBreak D σ H := q
theorem w_cont (q : D.ct σ H) : tCont D σ H := q
theorem w_asg {g : TG} (q : te σ H fun x H1 => g x σ H1 D.nx) : tAsg te g D σ H := q
theorem w_name {Q : SSt → Hp → Prop} (q : Q (σ.set n (some v)) H) : gName n v σ H Q := q
theorem w_par {t : TA} (q : t σ H fun vs H1 => ∃ v w, vs = [v, w] ∧ D.nx ((σ.set n (some v)).set m (some w)) H1) : tPar n m t D σ H := q
theorem w_two {Q : V → V → Prop} (q : Q v w) : ∃ x y, [v, w] = [x, y] ∧ Q x y := ⟨v, w, rfl, q⟩
theorem w_ret (q : te σ H D.rt) : tRet te D σ H := q
theorem w_retN (q : D.rt .non H) : tRetN D σ H := q
theorem w_drop (q : te σ H fun _ H1 => D.nx σ H1) : tDrop te D σ H := q
theorem w_ifS (q : tt σ H fun b H1 => if b = true then t1 D σ H1 else t2 D σ H1) : tIfS tt t1 t2 D σ H := q
theorem w_gtup {tg : TGs} {Q : SSt → Hp → Prop} (q : ∃ a xs, v = .ref a ∧ SqT K H a xs ∧ xs.length = n ∧ tg xs σ H Q) : gTup K n tg v σ H Q := q
theorem w_gnil {Q : SSt → Hp → Prop} (q : Q σ H) : gNil [] σ H Q := ⟨rfl, q⟩
theorem w_gcons {g : TG} {gs : TGs} {Q : SSt → Hp → Prop} (q : g v σ H fun σ' H' => gs xs σ' H' Q) : gCons g gs (v :: xs) σ H Q := ⟨v, xs, rfl, q⟩
theorem w_sub {ti : TE} {s : TSet} {Q : SSt → Hp → Prop} (q : to σ H fun o H1 => ti σ H1 fun i H2 => s o i v H2 fun H3 => Q σ H3) : gSub to ti s v σ H Q := q
theorem w_aug {ti : TIp} (h : σ[n]? = some (some v)) (q : te σ H fun y H1 => ti v y H1 fun z H2 => D.nx (σ.set n (some z)) H2) : tAug n te ti D σ H := ⟨v, h, q⟩
/-! values -/
theorem w_addI (q : Q (.int (i + j)) H) : rAddU K (.int i) (.int j) H Q := .inl ⟨i, j, rfl, rfl, q⟩
theorem w_addS (q : Q (.str (tx (l ++ z))) H) (h : l.length + z.length ≤ 16777216) : rAddU K (.str (tx l)) (.str (tx z)) H Q :=
  .inr (.inl ⟨tx l, tx z, rfl, rfl, by rw [tx_len, tx_len, sizeLine_eq]; exact h, by rw [tx_app]; exact q⟩)
theorem w_addL (h1 : H p = some (.lst xs)) (h2 : H q = some (.lst ys)) (h : xs.length + ys.length ≤ 16777216) (k : ∀ a, H a = none → Q (.ref a) (upd H a (.lst (xs ++ ys)))) : rAddU K (.ref p) (.ref q) H Q :=
  .inr (.inr (.inl ⟨p, q, xs, ys, rfl, rfl, h1, h2, by rw [sizeLine_eq]; exact h, k⟩))
theorem w_mulI (q : Q (.int (i * j)) H) (h : CMul i j) : rMulU (.int i) (.int j) H Q := .inl ⟨i, j, rfl, rfl, h, q⟩
theorem w_mulS (q : Q (.str (tx (List.replicate i.toNat l).flatten)) H) (h : i ≤ 1000000 ∧ -1000000 ≤ i ∧ l.length ≤ 1000000 ∧ l.length * i.toNat ≤ 16777216) : rMulU (.str (tx l)) (.int i) H Q :=
  .inr ⟨l, i, rfl, rfl, h.1, h.2.1, h.2.2.1, h.2.2.2, q⟩
theorem w_subI (q : Q (.int (i - j)) H) : rSubU (.int i) (.int j) H Q := ⟨i, j, rfl, rfl, q⟩
theorem w_modI (q : Q (.int (i % j)) H) (h : 0 < j) : rModU (.int i) (.int j) H Q := ⟨i, j, rfl, rfl, h, q⟩
theorem w_divI (q : Q (.int (i / j)) H) (h : 0 < j ∧ j < 1073741824) : rDivU (.int i) (.int j) H Q := ⟨i, j, rfl, rfl, h, q⟩
theorem w_powI (q : Q (.int (i ^ j.toNat)) H) (h : 0 ≤ j ∧ j ≤ 1000000 ∧ i.natAbs < 2 ^ 64) : rPowU (.int i) (.int j) H Q := ⟨i, j, rfl, rfl, h, q⟩
theorem w_lt (q : Q (.bl (decide (i < j))) H) : rLtU (.int i) (.int j) H Q := ⟨i, j, rfl, rfl, q⟩
theorem w_le (q : Q (.bl (decide (i ≤ j))) H) : rLeU (.int i) (.int j) H Q := ⟨i, j, rfl, rfl, q⟩
theorem w_gt (q : Q (.bl (decide (j < i))) H) : rGtU (.int i) (.int j) H Q := ⟨i, j, rfl, rfl, q⟩
theorem w_ge (q : Q (.bl (decide (j ≤ i))) H) : rGeU (.int i) (.int j) H Q := ⟨i, j, rfl, rfl, q⟩
theorem w_eqI (q : Q (.bl (decide (i = j))) H) : rEqU K (.int i) (.int j) H Q := .inl ⟨rfl, by
  have e : decide (V.int i = V.int j) = decide (i = j) := decide_eq_decide.mpr ⟨fun h => V.int.inj h, fun h => by rw [h]⟩
  rw [e]; exact q⟩
theorem w_neI (q : Q (.bl (!decide (i = j))) H) : rNeU K (.int i) (.int j) H Q := .inl ⟨rfl, by
  have e : decide (V.int i = V.int j) = decide (i = j) := decide_eq_decide.mpr ⟨fun h => V.int.inj h, fun h => by rw [h]⟩
  rw [e]; exact q⟩
theorem str_dec : decide (V.str (tx l) = V.str (tx z)) = decide (l = z) := decide_eq_decide.mpr ⟨fun h => tx_inj (V.str.inj h), fun h => by rw [h]⟩
theorem w_eqS (q : Q (.bl (decide (l = z))) H) : rEqU K (.str (tx l)) (.str (tx z)) H Q := .inl ⟨rfl, by rw [str_dec]; exact q⟩
theorem w_neS (q : Q (.bl (!decide (l = z))) H) : rNeU K (.str (tx l)) (.str (tx z)) H Q := .inl ⟨rfl, by rw [str_dec]; exact q⟩
theorem w_ixL (h : SqL K H p xs) (hi : atI xs i = some v) (q : Q v H) : rIx K (.ref p) (.int i) H Q := .inl ⟨p, xs, i, v, rfl, rfl, h, hi, q⟩
theorem w_ixT (h : SqT K H p xs) (hi : atI xs i = some v) (q : Q v H) : rIx K (.ref p) (.int i) H Q := .inr (.inl ⟨p, xs, i, v, rfl, rfl, h, hi, q⟩)
theorem w_ixS {c : Nat} (hi : atI l i = some c) (q : Q (.str (tx [c])) H) (h : l.length ≤ 16777216) : rIx K (.str (tx l)) (.int i) H Q :=
  .inr (.inr ⟨tx l, i, c, rfl, rfl, by rw [tx_len, sizeLine_eq]; exact h, hi, q⟩)
theorem w_lenS (q : Q (.int (l.length : Int)) H) (h : l.length ≤ 16777216) : (fun xs H Q => ∃ x n, xs = [x] ∧ LenV K x H n ∧ Q (.int (n : Nat)) H : List V → Hp → VK → Prop) [.str (tx l)] H Q :=
  ⟨_, l.length, rfl, ⟨by rw [tx_len, sizeLine_eq]; exact h, (tx_len l).symm⟩, q⟩
theorem w_lenL (h : SqL K H p xs) (q : Q (.int (xs.length : Int)) H) : (fun xs H Q => ∃ x n, xs = [x] ∧ LenV K x H n ∧ Q (.int (n : Nat)) H : List V → Hp → VK → Prop) [.ref p] H Q :=
  ⟨_, xs.length, rfl, .inl ⟨xs, h, rfl⟩, q⟩
theorem w_lenT (h : SqT K H p xs) (q : Q (.int (xs.length : Int)) H) : (fun xs H Q => ∃ x n, xs = [x] ∧ LenV K x H n ∧ Q (.int (n : Nat)) H : List V → Hp → VK → Prop) [.ref p] H Q :=
  ⟨_, xs.length, rfl, .inr ⟨xs, h, rfl⟩, q⟩
end
end SL
set_option Elab.async false
set_option linter.all false
set_option maxRecDepth 100000
set_option maxHeartbeats 4000000
/-! SlE: the defs of a text, the end of a law, built-ins whatever the values are. -/
namespace SL
open PySem PySem.Spec PyProof.Rows L2
/-- a def of the text stands under its name -/
structure DefAt (K : PySem.W.Frag) (mg : Str → Option Value) (x : Str) (st : Stmt) (ps : List Str) : Prop where
  ex : ∃ (f : Addr) (fd : FuncData), Fun K x x st f fd ∧ mg x = some (.ref f) ∧ ∀ (s : Shared) (us : List Value), us.length = ps.length → BindsTo s fd ⟨us, []⟩ (ps.zip us)
theorem DefAt.of {K : PySem.W.Frag} {mg : Str → Option Value} {x : Str} {st : Stmt} {ps : List Str} (f : Addr) (fd : FuncData) (F : Fun K x x st f fd) (hm : mg x = some (.ref f))
    (hb : ∀ (s : Shared) (us : List Value), us.length = ps.length → BindsTo s fd ⟨us, []⟩ (ps.zip us)) : DefAt K mg x st ps := ⟨⟨f, fd, F, hm, hb⟩⟩
abbrev E0s : SSt → XK := fun _ => E0
theorem noX {X : Cx} : ∀ σ, PassesAt (L2.CX X.prog X.w) X σ (E0s σ) := fun σ _ _ _ _ _ _ h => by
  obtain ⟨_, _, _, _, _, _, _, _, _, _, _, _, z⟩ := h
  exact z.elim
section
variable {P : Program} {w : World} {K : PySem.W.Frag} {mg : Str → Option Value} {base : Heap} {x : Str} {st : Stmt} {N ps : List Str} {k : Nat} {sp : Sp}
theorem fn0 {f : Addr} {fd : FuncData} (F : Fun K x x st f fd) (S : FnScope N ps (defScope st)) (len : ∀ vs H Q E, sp vs H Q E → vs.length = ps.length)
    (hbody : ∀ (cdv : Value) (f : Addr) (A : Around) (outer : List Env) (s : Shared) (H : Hp) (vs : List V) (Q : VK) (E : XK),
      Room k (A.deeper (envOfC x (defScope st) s.heap.objs.size f cdv)) → (A.deeper (envOfC x (defScope st) s.heap.objs.size f cdv)).guards = some [] → sp vs H Q E →
      ∃ t, PSs (cxOf (L2.CX P w) P w K mg base N x (defScope st) f cdv A outer s H E).nox (defBody st) t ∧ t { nx := fun _ H' => Q .non H', rt := Q } (start N vs) H) : FnG P w K mg base (k + 1) f fd ps sp :=
  fnG_of F S len fun cdv A outer s H vs Q E hr hg h => by
    obtain ⟨t, h1, h2⟩ := hbody cdv f A outer s H vs Q E hr hg h
    exact ⟨t, h1.nox, h2⟩
/-- a def that lets nothing out -/
theorem cal0 (D : DefAt K mg x st ps) (S : FnScope N ps (defScope st)) (len : ∀ vs H Q E, sp vs H Q E → vs.length = ps.length)
    (hbody : ∀ (cdv : Value) (f : Addr) (A : Around) (outer : List Env) (s : Shared) (H : Hp) (vs : List V) (Q : VK) (E : XK),
      Room k (A.deeper (envOfC x (defScope st) s.heap.objs.size f cdv)) → (A.deeper (envOfC x (defScope st) s.heap.objs.size f cdv)).guards = some [] → sp vs H Q E →
      ∃ t, PSs (cxOf (L2.CX P w) P w K mg base N x (defScope st) f cdv A outer s H E).nox (defBody st) t ∧ t { nx := fun _ H' => Q .non H', rt := Q } (start N vs) H) : Cal P w K mg base (k + 1) x ps sp := by
  obtain ⟨f, fd, F, hm, hb⟩ := D.ex
  exact ⟨f, fd, fn0 F S len hbody, hm, F.kp, hb⟩
/-- a def that may raise -/
theorem calX (D : DefAt K mg x st ps) (S : FnScope N ps (defScope st)) (len : ∀ vs H Q E, sp vs H Q E → vs.length = ps.length)
    (hbody : ∀ (cdv : Value) (f : Addr) (A : Around) (outer : List Env) (s : Shared) (H : Hp) (vs : List V) (Q : VK) (E : XK),
      Room k (A.deeper (envOfC x (defScope st) s.heap.objs.size f cdv)) → (A.deeper (envOfC x (defScope st) s.heap.objs.size f cdv)).guards = some [] → sp vs H Q E →
      ∃ t, PSs (cxOf (L2.CX P w) P w K mg base N x (defScope st) f cdv A outer s H E) (defBody st) t ∧ t { nx := fun _ H' => Q .non H', rt := Q } (start N vs) H) : Cal P w K mg base (k + 1) x ps sp := by
  obtain ⟨f, fd, F, hm, hb⟩ := D.ex
  exact ⟨f, fd, fnG_of F S len fun cdv A outer s H vs Q E hr hg h => hbody cdv f A outer s H vs Q E hr hg h, hm, F.kp, hb⟩
end

/-! ### the end of a law -/
/-- the law's call, from the heap behind the top; H tracks nothing but the script -/
theorem law_enter {P : Program} {w : World} {K : PySem.W.Frag} {mg mb : Str → Option Value} {k : Nat} {fa a : Addr} {fd : FuncData} {x : Str} {sp : Sp} {s₁ : Shared} {vs : List Value} {H : Hp}
    (KX : K.In s₁.heap) (hns : s₁.heap.Ns mainGlobals mg) (hb : s₁.heap.Ns builtinsNs mb) (hbb : ∀ x : Str, x ≠ "__name__" → mb x = bootBuiltins x) (hlim : s₁.heap.NoLimit) (hg : s₁.gens = #[])
    (ha : s₁.heap.get? a = some { cls := .type "list", data := .seq vs.toArray }) (hr : Room k callerA)
    (F : ∀ base : Heap, K.In base → base.Ns mainGlobals mg → FnG P w K mg base k fa fd [x] sp) (hbind : ∀ (s : Shared) (u : Value), BindsTo s fd ⟨[u], []⟩ [(x, u)])
    (hO : Only H) (hok : HOk P w H s₁.heap) (hA : ∀ b, H b ≠ none → b = a) (hK : H a ≠ none → K.lookup a = none)
    (hsp : sp [.ref a] H (fun v _ => v = .bl true) fun _ _ _ => False) :
    codeAny (model P w) callerA (.call (.ref fa) ⟨[.ref a], []⟩) (fun r s' => r = .ok (.ret (.bool true)) ∧ OldK s₁.heap s'.heap ∧ s'.os = s₁.os ∧ AllBare s'.gens) s₁ := by
  have only : ∀ b, H b = none ∨ b = a := fun b => by
    cases q : H b with
    | none => exact Or.inl rfl
    | some _ => exact Or.inr (hA b (by rw [q]; exact Option.some_ne_none _))
  have hid : ∀ {b : Addr} {o : Obj}, s₁.heap.get? b = some o → H b = none → (hidT s₁.heap H).get? b = some o := fun e n => hidT_get e n
  have notDict : ∀ {b : Addr} {o : Obj} {es : Array DictEntry} {ep : Nat}, s₁.heap.get? b = some o → o.data = .dict es ep → H b = none := fun {b o es ep} e d => by
    rcases only b with q | q
    · exact q
    · rw [q, ha] at e
      cases e
      cases (show Data.seq vs.toArray _ = Data.dict es ep from d)
  have keepNs : ∀ {b : Addr} {m : Str → Option Value}, s₁.heap.Ns b m → (hidT s₁.heap H).Ns b m := fun {b m} ⟨o, es, ep, e, d, r⟩ => ⟨o, es, ep, hid e (notDict e d), d, r⟩
  have kb : K.In (hidT s₁.heap H) := fun b o e => hid (KX b o e) (by
    rcases only b with q | q
    · exact q
    · cases z : H b with
      | none => rfl
      | some u =>
        rw [q] at z e
        rw [hK (by rw [z]; exact Option.some_ne_none _)] at e
        cases e)
  have lim : (hidT s₁.heap H).NoLimit := by
    obtain ⟨mc, h1, h2⟩ := hlim
    exact ⟨mc, keepNs h1, h2⟩
  have md : Mod K mg (hidT s₁.heap H) := ⟨kb, keepNs hns, ⟨mb, keepNs hb, hbb⟩, lim⟩
  have e0 : Env0 P w K mg (hidT s₁.heap H) callerA [] s₁ H :=
    ⟨rfl, md, fun b o e => of_hidT e, Nat.le_of_eq (hidT_size _ _), trivial, fun b z => absurd (show b ∈ ([] : List Addr) from z) List.not_mem_nil, hok, AllBare.of_eq hg⟩
  refine codeAny_mono ((F _ kb (keepNs hns)).run callerA [] s₁ H ⟨[.ref a], []⟩ [.ref a] [.ref a] _ _ hr rfl e0 (hbind s₁ (.ref a)) (.cons rfl .nil) hsp) ?_
  intro r s' h
  match r, h with
  | .error e, h =>
    obtain ⟨_, _, _, _, _, _, _, _, _, _, _, _, z⟩ := h
    exact z.elim
  | .ok (.ret u), ⟨v, H', os, bare, un, hok', r', q⟩ =>
    have q' : v = .bl true := q
    subst q'
    obtain rfl : u = Value.bool true := r'
    refine ⟨rfl, OldK.of_keep fun b o e => ?_, os, bare⟩
    cases z : H b with
    | none => exact un.keep b o e z (fun y => absurd (show b ∈ ([] : List Addr) from y) List.not_mem_nil) List.not_mem_nil
    | some u =>
      rcases hO b with y | ⟨ob, xs, y⟩
      · rw [z] at y
        cases y
      · obtain ⟨e1, _⟩ := hok b _ y
        obtain ⟨e2, _⟩ := hok' b _ (un.frzs b ob _ y)
        rw [e] at e1
        cases e1
        exact e2
theorem law_any {P : Program} {w : World} {K : PySem.W.Frag} {mg mb : Str → Option Value} {k : Nat} {fa a : Addr} {fd : FuncData} {x : Str} {sp : Sp} {s₁ : Shared} {vs : List Value} {ns : List Int}
    (KX : K.In s₁.heap) (hns : s₁.heap.Ns mainGlobals mg) (hb : s₁.heap.Ns builtinsNs mb) (hbb : ∀ x : Str, x ≠ "__name__" → mb x = bootBuiltins x) (hlim : s₁.heap.NoLimit) (hg : s₁.gens = #[])
    (ha : s₁.heap.get? a = some { cls := .type "list", data := .seq vs.toArray }) (hi : IntsAre vs ns) (hl : ns.length ≤ sizeLine) (hr : Room k callerA)
    (F : ∀ base : Heap, K.In base → base.Ns mainGlobals mg → FnG P w K mg base k fa fd [x] sp) (hbind : ∀ (s : Shared) (u : Value), BindsTo s fd ⟨[u], []⟩ [(x, u)])
    (hsp : ∀ H : Hp, Only H → SqL K H a (ns.map V.int) → sp [.ref a] H (fun v _ => v = .bl true) fun _ _ _ => False) :
    codeAny (model P w) callerA (.call (.ref fa) ⟨[.ref a], []⟩) (fun r s' => r = .ok (.ret (.bool true)) ∧ OldK s₁.heap s'.heap ∧ s'.os = s₁.os ∧ AllBare s'.gens) s₁ := by
  have rv := vals_ints hi
  have lenV := hi.length
  cases hk : K.lookup a with
  | some o =>
    have e := KX a o hk
    rw [ha] at e
    cases e
    have hO : Only (fun _ => none) := fun _ => Or.inl rfl
    refine law_enter (H := fun _ => none) KX hns hb hbb hlim hg ha hr F hbind hO (fun b u z => nomatch z) (fun b z => absurd rfl z) (fun z => absurd rfl z) (hsp _ hO (Or.inr ⟨_, vs.toArray, _, hk, rfl, rfl, rfl, ?_, by simpa using rv⟩))
    rw [List.size_toArray, lenV]
    exact hl
  | none =>
    have at_a : (fun b => if b = a then some (HO.frz { cls := .type "list", data := .seq vs.toArray } (.lst (ns.map V.int))) else none : Hp) a = some (HO.frz { cls := .type "list", data := .seq vs.toArray } (.lst (ns.map V.int))) := if_pos rfl
    have off_a : ∀ b, b ≠ a → (fun b => if b = a then some (HO.frz { cls := .type "list", data := .seq vs.toArray } (.lst (ns.map V.int))) else none : Hp) b = none := fun b hb => if_neg hb
    have hO : Only (fun b => if b = a then some (HO.frz { cls := .type "list", data := .seq vs.toArray } (.lst (ns.map V.int))) else none) := fun b => by
      by_cases hb : b = a
      · subst hb
        exact Or.inr ⟨_, _, at_a⟩
      · exact Or.inl (off_a b hb)
    refine law_enter KX hns hb hbb hlim hg ha hr F hbind hO (fun b u z => ?_) (fun b z => ?_) (fun _ => hk) (hsp _ hO (Or.inl (Or.inr ⟨_, at_a⟩)))
    · by_cases hb : b = a
      · subst hb
        have z2 := Option.some.inj (at_a.symm.trans z)
        subst z2
        exact ⟨ha, by rw [List.length_map]; exact hl, vs, _, rv, ha⟩
      · cases (off_a b hb).symm.trans z
    · by_cases hb : b = a
      · exact hb
      · exact absurd (off_a b hb) z
theorem walk_g {l : PySem.W.OpenLaw} {n k : Nat} {q : Program} {loose : List Str} {XP : (Str → Option Value) → Heap → Prop} {YP : World → Heap → Prop} {d : DefRec} {K : Params → PySem.W.Frag} {sp : PySem.W.Frag → Sp} {x : Str}
    (hn : l.most = some n) (hn2 : n ≤ sizeLine) (hdf : d.params.defaults = []) (hr : Room k callerA)
    (hY : ∀ (w : World) (h : Heap), YP w h → (K w.params).In h)
    (F : ∀ (w : World) (mg : Str → Option Value) (fa : Addr) (h : Heap), (K w.params).In h → h.Ns mainGlobals mg → mg d.name = some (.ref fa) →
      ∃ fd : FuncData, (∀ (s : Shared) (u : Value), BindsTo s fd ⟨[u], []⟩ [(x, u)]) ∧
        ∀ base : Heap, (K w.params).In base → base.Ns mainGlobals mg → FnG l.prog w (K w.params) mg base k fa fd [x] (sp (K w.params)))
    (hsp : ∀ (K : PySem.W.Frag) (H : Hp) (a : Addr) (ns : List Int), ns.length ≤ n → Only H → SqL K H a (ns.map V.int) → sp K [.ref a] H (fun v _ => v = .bl true) fun _ _ _ => False) :
    PySem.W.WalkO q loose XP YP l.row.toRowW d [] (fun f vs => PySem.call f vs) := by
  refine Att.attach_call hn hdf ?_
  intro w s₀ s₁ mg mb fa o pm cd doc a vs ns G Y ho hd hcd hmg hobj hints hlen hg
  have KX := hY w _ Y
  obtain ⟨fd, hb, hF⟩ := F w mg fa _ KX G.T.g hmg
  exact law_any KX G.T.g G.T.b G.T.builtins G.T.nolimit hg hobj hints (Nat.le_trans hlen hn2) hr hF hb fun H hO hS => hsp _ H a ns hlen hO hS

/-! ### built-ins -/
section
variable {X : Cx}
def rLenU (K : PySem.W.Frag) : List V → Hp → VK → Prop := fun xs H Q => ∃ x n, xs = [x] ∧ LenV K x H n ∧ Q (.int n) H
theorem uLen : CallR X (.builtin "len") (rLenU X.K) := call_len
def rAbsU : List V → Hp → VK → Prop := fun xs H Q => ∃ i, xs = [.int i] ∧ Q (.int (if i < 0 then -i else i)) H
theorem uAbs : CallR X (.builtin "abs") rAbsU := call_abs
def rIntU : List V → Hp → VK → Prop := fun xs H Q => (∃ i, xs = [.int i] ∧ Q (.int i) H) ∨ ∃ k, xs = [.bl k] ∧ Q (.int (if k then 1 else 0)) H
theorem uInt : CallR X (.type "int") rIntU := call_int1
theorem uIsi : CallR X (.builtin "isinstance") (rIsi X.K) := call_isi
theorem uIsiT : CallR X (.builtin "isinstance") (rIsiT X.K) := call_isiT
def rMin2U : List V → Hp → VK → Prop := fun xs H Q => ∃ i j, xs = [.int i, .int j] ∧ Q (.int (if j < i then j else i)) H
theorem uMin2 (hc : X.calm = true) : CallR X (.builtin "min") rMin2U := call_min2 hc
def rMax2U : List V → Hp → VK → Prop := fun xs H Q => ∃ i j, xs = [.int i, .int j] ∧ Q (.int (if j > i then j else i)) H
theorem uMax2 (hc : X.calm = true) : CallR X (.builtin "max") rMax2U := call_max2 hc
def rMin3U : List V → Hp → VK → Prop := fun xs H Q => ∃ i j k, xs = [.int i, .int j, .int k] ∧ Q (.int (min (min i j) k)) H
theorem uMin3 (hc : X.calm = true) : CallR X (.builtin "min") rMin3U := call_min3I hc
def rListU (K : PySem.W.Frag) : List V → Hp → VK → Prop := fun xs H Q => ∃ p ys, xs = [.ref p] ∧ (SqL K H p ys ∨ SqT K H p ys) ∧ ∀ l, H l = none → Q (.ref l) (upd H l (.lst ys))
theorem uList : CallR X (.type "list") (rListU X.K) := call_list_of
def rReprI : List V → Hp → VK → Prop := fun xs H Q => ∃ i, xs = [.int i] ∧ i.natAbs.log2 < 1920 ∧ Q (.str (toString i)) H
theorem uReprI : CallR X (.builtin "repr") rReprI := SkE.call_repr_int
section
variable {K : PySem.W.Frag} {H : Hp} {Q : VK} {i j k : Int} {v : V} {b : Bool} {l : List Nat} {p : Addr} {xs : List V} {ns : List Int} {n : String}
theorem w_lenS' (q : Q (.int (l.length : Int)) H) (h : l.length ≤ 16777216) : rLenU K [.str (tx l)] H Q := ⟨_, l.length, rfl, ⟨by rw [tx_len, sizeLine_eq]; exact h, (tx_len l).symm⟩, q⟩
theorem w_lenL' (h : SqL K H p xs) (q : Q (.int (xs.length : Int)) H) : rLenU K [.ref p] H Q := ⟨_, xs.length, rfl, .inl ⟨xs, h, rfl⟩, q⟩
theorem w_lenT' (h : SqT K H p xs) (q : Q (.int (xs.length : Int)) H) : rLenU K [.ref p] H Q := ⟨_, xs.length, rfl, .inr ⟨xs, h, rfl⟩, q⟩
theorem w_abs (q : Q (.int (if i < 0 then -i else i)) H) : rAbsU [.int i] H Q := ⟨i, rfl, q⟩
theorem w_int (q : Q (.int i) H) : rIntU [.int i] H Q := .inl ⟨i, rfl, q⟩
theorem w_intB (q : Q (.int (if b then 1 else 0)) H) : rIntU [.bl b] H Q := .inr ⟨b, rfl, q⟩
theorem w_min2 (q : Q (.int (if j < i then j else i)) H) : rMin2U [.int i, .int j] H Q := ⟨i, j, rfl, q⟩
theorem w_max2 (q : Q (.int (if j > i then j else i)) H) : rMax2U [.int i, .int j] H Q := ⟨i, j, rfl, q⟩
theorem w_min3 (q : Q (.int (min (min i j) k)) H) : rMin3U [.int i, .int j, .int k] H Q := ⟨i, j, k, rfl, q⟩
theorem w_listL (h : SqL K H p xs) (q : ∀ l, H l = none → Q (.ref l) (upd H l (.lst xs))) : rListU K [.ref p] H Q := ⟨p, xs, rfl, .inl h, q⟩
theorem w_listT (h : SqT K H p xs) (q : ∀ l, H l = none → Q (.ref l) (upd H l (.lst xs))) : rListU K [.ref p] H Q := ⟨p, xs, rfl, .inr h, q⟩
theorem w_reprI (q : Q (.str (toString i)) H) (h : i.natAbs < 2 ^ 1000) : rReprI [.int i] H Q := ⟨i, rfl, by
  by_cases h0 : i.natAbs = 0
  · rw [h0]; decide
  · exact Nat.lt_trans ((Nat.log2_lt h0).mpr h) (by decide), q⟩
theorem w_sum (h : SqL K H p (ns.map V.int)) (q : Q (.int ns.sum) H) : rSum K [.ref p] H Q := ⟨p, ns, rfl, h, q⟩
theorem w_isiS (q : Q (.bl (n == "str")) H) (h : n = "str" ∨ n = "int" ∨ n = "bool" ∨ n = "list" ∨ n = "tuple") : rIsi K [.str (tx l), .ty n] H Q := by
  refine ⟨_, _, .type "str", .type n, n == "str", rfl, .ty n, .base (.str _), kit_ty ?_, q⟩
  rcases h with rfl | rfl | rfl | rfl | rfl <;> decide +kernel
theorem w_isiI (q : Q (.bl (n == "int")) H) (h : n = "str" ∨ n = "int" ∨ n = "bool" ∨ n = "list" ∨ n = "tuple") : rIsi K [.int i, .ty n] H Q := by
  refine ⟨_, _, .type "int", .type n, n == "int", rfl, .ty n, .base (.int _), kit_ty ?_, q⟩
  rcases h with rfl | rfl | rfl | rfl | rfl <;> decide +kernel
theorem w_isiT (h0 : H p = some (.tup xs)) (q : Q (.bl (n == "tuple")) H) (h : n = "str" ∨ n = "int" ∨ n = "bool" ∨ n = "list" ∨ n = "tuple") : rIsi K [.ref p, .ty n] H Q := by
  refine ⟨_, _, .type "tuple", .type n, n == "tuple", rfl, .ty n, .base (.tup h0), kit_ty ?_, q⟩
  rcases h with rfl | rfl | rfl | rfl | rfl <;> decide +kernel
theorem w_isiL (h0 : H p = some (.lst xs)) (q : Q (.bl (n == "list")) H) (h : n = "str" ∨ n = "int" ∨ n = "bool" ∨ n = "list" ∨ n = "tuple") : rIsi K [.ref p, .ty n] H Q := by
  refine ⟨_, _, .type "list", .type n, n == "list", rfl, .ty n, .base (.lst h0), kit_ty ?_, q⟩
  rcases h with rfl | rfl | rfl | rfl | rfl <;> decide +kernel
end
end
end SL
set_option Elab.async false
set_option linter.all false
set_option maxRecDepth 100000
set_option maxHeartbeats 4000000
/-! SlF: slices by their parts, items by their places, ways to say what stands where. -/
namespace SL
open PySem PySem.Spec PyProof.Rows L2
theorem sIx_to (n d : Nat) {i : Int} (h : 0 ≤ i) : HT.sIx n d (some i) = min i.toNat n := by
  obtain ⟨k, rfl⟩ := Int.eq_ofNat_of_zero_le h
  exact HT.sIx_nat n d k
theorem sIx_no (n d : Nat) : HT.sIx n d none = d := HT.sIx_none n d
section
variable {α : Type}
theorem take_min (xs : List α) (k : Nat) : xs.take (min k xs.length) = xs.take k := by
  by_cases h : k ≤ xs.length
  · rw [Nat.min_eq_left h]
  · rw [Nat.min_eq_right (by omega), List.take_length, List.take_of_length_le (by omega)]
theorem drop_min (xs : List α) (k : Nat) : xs.drop (min k xs.length) = xs.drop k := by
  by_cases h : k ≤ xs.length
  · rw [Nat.min_eq_left h]
  · rw [Nat.min_eq_right (by omega), List.drop_length, List.drop_of_length_le (by omega)]
theorem part_to (xs : List α) {i : Int} (h : 0 ≤ i) : (xs.drop (HT.sIx xs.length 0 none)).take (HT.sIx xs.length xs.length (some i) - HT.sIx xs.length 0 none) = xs.take i.toNat := by
  rw [sIx_no, sIx_to _ _ h, List.drop_zero, Nat.sub_zero, take_min]
theorem part_from (xs : List α) {i : Int} (h : 0 ≤ i) : (xs.drop (HT.sIx xs.length 0 (some i))).take (HT.sIx xs.length xs.length none - HT.sIx xs.length 0 (some i)) = xs.drop i.toNat := by
  rw [sIx_no, sIx_to _ _ h, drop_min]
  by_cases hk : i.toNat ≤ xs.length
  · rw [Nat.min_eq_left hk, ← List.length_drop, List.take_length]
  · rw [List.drop_of_length_le (by omega), List.take_nil]
theorem part_all (xs : List α) : (xs.drop (HT.sIx xs.length 0 none)).take (HT.sIx xs.length xs.length none - HT.sIx xs.length 0 none) = xs := by
  rw [sIx_no, sIx_no, List.drop_zero, Nat.sub_zero, List.take_length]
end
theorem cutV_to (xs : List V) {i : Int} (h : 0 ≤ i) : cutV xs none (some i) = xs.take i.toNat := part_to xs h
theorem cutV_from (xs : List V) {i : Int} (h : 0 ≤ i) : cutV xs (some i) none = xs.drop i.toNat := part_from xs h
theorem cutS_to (l : List Nat) {i : Int} (h : 0 ≤ i) : cutS (tx l) none (some i) = tx (l.take i.toNat) := by
  unfold cutS
  rw [tx_len]
  show tx _ = _
  rw [part_to l h]
theorem cutS_from (l : List Nat) {i : Int} (h : 0 ≤ i) : cutS (tx l) (some i) none = tx (l.drop i.toNat) := by
  unfold cutS
  rw [tx_len]
  show tx _ = _
  rw [part_from l h]
section
variable {K : PySem.W.Frag} {H : Hp} {Q : VK} {i j : Int} {l : List Nat} {p : Addr} {xs : List V}
theorem w_sSt (q : Q (.str (tx (l.take i.toNat))) H) (h : 0 ≤ i ∧ l.length ≤ 16777216) : rSlU K (.str (tx l)) none (some i) H Q :=
  .inr (.inl ⟨_, rfl, by rw [tx_len, sizeLine_eq]; exact h.2, by rw [cutS_to l h.1]; exact q⟩)
theorem w_sSf (q : Q (.str (tx (l.drop i.toNat))) H) (h : 0 ≤ i ∧ l.length ≤ 16777216) : rSlU K (.str (tx l)) (some i) none H Q :=
  .inr (.inl ⟨_, rfl, by rw [tx_len, sizeLine_eq]; exact h.2, by rw [cutS_from l h.1]; exact q⟩)
theorem w_sLt (h1 : SqL K H p xs) (h : 0 ≤ i) (q : ∀ a, H a = none → Q (.ref a) (upd H a (.lst (xs.take i.toNat)))) : rSlU K (.ref p) none (some i) H Q :=
  .inl ⟨p, xs, rfl, h1, by rw [cutV_to xs h]; exact q⟩
theorem w_sLf (h1 : SqL K H p xs) (h : 0 ≤ i) (q : ∀ a, H a = none → Q (.ref a) (upd H a (.lst (xs.drop i.toNat)))) : rSlU K (.ref p) (some i) none H Q :=
  .inl ⟨p, xs, rfl, h1, by rw [cutV_from xs h]; exact q⟩
theorem w_revS (q : Q (.str (tx l.reverse)) H) (h : l.length ≤ 16777216) : (∃ m : List Nat, V.str (tx l) = .str (tx m) ∧ m.length ≤ 16777216 ∧ Q (.str (tx m.reverse)) H) ∨
    (∃ a ys, V.str (tx l) = .ref a ∧ SqT K H a ys ∧ ∀ p, H p = none → Q (.ref p) (upd H p (.tup ys.reverse))) := .inl ⟨l, rfl, h, q⟩
theorem w_revU {te : TE} {σ : SSt} (q : te σ H fun x H1 => (∃ l : List Nat, x = .str (tx l) ∧ l.length ≤ 16777216 ∧ Q (.str (tx l.reverse)) H1) ∨
  (∃ a xs, x = .ref a ∧ SqT K H1 a xs ∧ ∀ p, H1 p = none → Q (.ref p) (upd H1 p (.tup xs.reverse)))) : tRevU K te σ H Q := q
theorem fr_get {p b : Addr} {H' : Hp} {o : HO} (f : Fr p H H') (g : H b = some o) (n : b ≠ p) : H' b = some o := f b o g n
theorem same_get {b : Addr} {H' : Hp} {o : HO} (f : Same H H') (g : H b = some o) : H' b = some o := f b o g
theorem none_same {b : Addr} {H' : Hp} (f : Same H H') (g : H' b = none) : H b = none := f.free g
theorem fr_sql {b : Addr} {H' : Hp} (f : Fr b H H') (h : SqL K H p xs) (n : p ≠ b) : SqL K H' p xs := by
  rcases h with (h | ⟨o, h⟩) | h
  · exact .inl (.inl (f _ _ h n))
  · exact .inl (.inr ⟨o, f _ _ h n⟩)
  · exact .inr h
theorem fr_sqt {b : Addr} {H' : Hp} (f : Fr b H H') (h : SqT K H p xs) (n : p ≠ b) : SqT K H' p xs := by
  rcases h with (h | ⟨o, h⟩) | h
  · exact .inl (.inl (f _ _ h n))
  · exact .inl (.inr ⟨o, f _ _ h n⟩)
  · exact .inr h
theorem atI_n {α : Type} {xs : List α} {n : Nat} {v : α} (h : xs[n]? = some v) : atI xs (n : Int) = some v := atI_nat h
theorem atI_i {α : Type} {xs : List α} {i : Int} {v : α} (h0 : 0 ≤ i) (h : xs[i.toNat]? = some v) : atI xs i = some v := by
  obtain ⟨k, rfl⟩ := Int.eq_ofNat_of_zero_le h0
  exact atI_nat h
end
theorem int_at {ns : List Int} {k : Nat} (h : k < ns.length) : (ns.map V.int)[k]? = some (.int ns[k]) := by
  rw [List.getElem?_map, List.getElem?_eq_getElem h]
  rfl
theorem w_modN {i j : Int} {H : Hp} {Q : VK} (h : 0 < j) (q : ∀ r : Int, r = i % j → 0 ≤ r → r < j → Q (.int r) H) : rModU (.int i) (.int j) H Q :=
  ⟨i, j, rfl, rfl, h, q _ rfl (Int.emod_nonneg i (by omega)) (Int.emod_lt_of_pos i h)⟩
theorem w_setL {H : Hp} {p : Addr} {xs : List V} {k : Int} {v : V} {Q : Hp → Prop} {j : Nat} (h : H p = some (.lst xs)) (hj : ixN xs.length k = some j) (q : Q (upd H p (.lst (xs.set j v)))) : rSetL (.ref p) (.int k) v H Q :=
  ⟨p, xs, k, j, rfl, rfl, h, hj, q⟩
theorem w_ip {i j : Int} {f : Int → Int → Int} {H : Hp} {Q : VK} (q : Q (.int (f i j)) H) : ipI f (.int i) (.int j) H Q := ⟨i, j, rfl, rfl, q⟩
/-- the box that draws are taken from -/
def Box (H : Hp) (p : Addr) (c : Nat) : Prop := ∃ (g : Int) (b : Bool) (m : Int) (d : Nat), H p = some (.lst [.int g, .bl b, .int m, .int d]) ∧ 0 ≤ g ∧ 0 ≤ m ∧ m < 2147483648 ∧ d ≤ c
theorem Box.le {H : Hp} {p : Addr} {c d : Nat} (h : Box H p c) (e : c ≤ d) : Box H p d := by
  obtain ⟨g, b, m, n, h1, h2, h3, h4, h5⟩ := h
  exact ⟨g, b, m, n, h1, h2, h3, h4, Nat.le_trans h5 e⟩
theorem Box.has {H : Hp} {p : Addr} {c : Nat} (h : Box H p c) : ∃ o, H p = some o := by
  obtain ⟨g, b, m, n, h1, _⟩ := h
  exact ⟨_, h1⟩
theorem Box.ne {H : Hp} {p q : Addr} {c : Nat} (h : Box H p c) (hq : H q = none) : p ≠ q := by
  obtain ⟨g, b, m, n, h1, _⟩ := h
  exact ne_of_none h1 hq
theorem Box.same {H H' : Hp} {p : Addr} {c : Nat} (h : Box H p c) (s : Same H H') : Box H' p c := by
  obtain ⟨g, b, m, n, h1, h2⟩ := h
  exact ⟨g, b, m, n, s _ _ h1, h2⟩
theorem Box.upd {H : Hp} {p q : Addr} {c : Nat} {o : HO} (h : Box H p c) (n : p ≠ q) : Box (upd H q o) p c := by
  obtain ⟨g, b, m, d, h1, h2⟩ := h
  exact ⟨g, b, m, d, by rw [upd_ne n]; exact h1, h2⟩
/-- both ways of a test -/
theorem w_if {b : Bool} {A B : Prop} (h1 : b = true → A) (h2 : b = false → B) : if b = true then A else B := by
  cases b with
  | true => exact iteT (h1 rfl)
  | false => exact iteF (h2 rfl)
theorem cxK {CX : CXT} {P : Program} {w : World} {K : PySem.W.Frag} {mg : Str → Option Value} {base : Heap} {N : List Str} {q : Str} {sc : Scope} {f : Addr} {cd : Value} {A : Around} {outer : List Env} {s : Shared} {H : Hp} {E : XK} :
    (cxOf CX P w K mg base N q sc f cd A outer s H E).K = K := rfl
theorem ends_rt {a : SSt → Hp → Prop} {b : VK} {c d : SSt → Hp → Prop} : (Ends.mk a b c d).rt = b := rfl
theorem ends_nx {a : SSt → Hp → Prop} {b : VK} {c d : SSt → Hp → Prop} : (Ends.mk a b c d).nx = a := rfl
theorem w_enx {a : SSt → Hp → Prop} {b : VK} {c d : SSt → Hp → Prop} {σ : SSt} {H : Hp} (q : a σ H) : (Ends.mk a b c d).nx σ H := q
theorem w_ert {a : SSt → Hp → Prop} {b : VK} {c d : SSt → Hp → Prop} {v : V} {H : Hp} (q : b v H) : (Ends.mk a b c d).rt v H := q
theorem w_ebk {a : SSt → Hp → Prop} {b : VK} {c d : SSt → Hp → Prop} {σ : SSt} {H : Hp} (q : c σ H) : (Ends.mk a b c d).bk σ H := q
theorem w_ect {a : SSt → Hp → Prop} {b : VK} {c d : SSt → Hp → Prop} {σ : SSt} {H : Hp} (q : d σ H) : (Ends.mk a b c d).ct σ H := q
theorem cut1 (ns : List Int) : (ns.map V.int).take (1 : Int).toNat = (ns.take 1).map V.int := by rw [List.map_take]; rfl
end SL
set_option Elab.async false
set_option linter.all false
set_option maxRecDepth 100000
set_option maxHeartbeats 4000000
/-! SlG: walks: texts, ranges, lists; the steps at a for and at a comprehension. -/
namespace SL
open PySem PySem.Spec PyProof.Rows L2
section
variable {K : PySem.W.Frag} {σ : SSt} {H : Hp} {Q : VK} {D : Ends} {ta te : TE} {t : TA} {tb : TS} {g : TG} {tt : TT} {wi : TI} {vs : List Nat} {R : It → Hp → Prop} {i j : Int} {p : Addr} {xs : List V} {l : List Nat}
theorem w_for (q : wi σ H fun J H1 => ∃ W : Nat → Nat → SSt → Hp → Prop, (∃ m, W 0 m σ H1) ∧ ∀ i m σ H, W i m σ H →
    (J.stop i H ∧ D.nx σ H) ∨ (J.go i H ∧ ∃ N : SSt → Hp → Prop, (∀ σ' H', N σ' H' → ∃ m', m' < m ∧ W (i + 1) m' σ' H') ∧ ∀ x H', J.yld i H x H' → g x σ H' fun σ2 H2 => tb { D with nx := N, ct := N, bk := D.nx } σ2 H2)) : tFor wi g tb D σ H := q
theorem w_lc (q : wi σ H fun J H1 => ∀ D, H1 D = none → ∃ W : Nat → Nat → Hp → Prop, (∃ m, W 0 m (upd H1 D (.lst []))) ∧ ∀ i m H, W i m H →
    (J.stop i H ∧ Q (.ref D) H) ∨ (J.go i H ∧ ∃ Nx : Hp → Prop, (∀ H', Nx H' → ∃ m', m' < m ∧ W (i + 1) m' H') ∧ ∀ x H', J.yld i H x H' → g x (wipe σ vs) H' fun σ2 H2 => wipe σ2 vs = wipe σ vs ∧ tt σ2 H2 fun b H3 =>
      if b = true then te σ2 H3 fun y H4 => ∃ acc, H4 D = some (.lst acc) ∧ acc.length < sizeLine ∧ Nx (upd H4 D (.lst (acc ++ [y]))) else Nx H3)) : tLc wi g tt te vs σ H Q := q
theorem w_yes {Q : Bool → Hp → Prop} (q : Q true H) : tYes σ H Q := q
theorem w_il (q : te σ H fun x H1 => ∃ a, x = .ref a ∧ (∃ xs, SqL K H1 a xs) ∧ R (Itl K a) H1) : iList K te σ H R := q
theorem w_it (q : te σ H fun x H1 => ∃ a, x = .ref a ∧ (∃ xs, SqT K H1 a xs) ∧ R (Itt K a) H1) : iTup K te σ H R := q
theorem w_isx (q : te σ H fun v H1 => ∃ x, v = .str x ∧ R (Its x) H1) : iStr te σ H R := q
theorem w_ir1 (q : t σ H fun vs H1 => ∃ j : Int, vs = [.int j] ∧ -(2 ^ 62) ≤ j ∧ j < 2 ^ 62 ∧ R (Itr 0 j.toNat) H1) : iRng1 t σ H R := q
theorem w_ir2 (q : t σ H fun vs H1 => ∃ i j : Int, vs = [.int i, .int j] ∧ (-(2 ^ 62) ≤ i ∧ i < 2 ^ 62 ∧ -(2 ^ 62) ≤ j ∧ j < 2 ^ 62) ∧ R (Itr i (j - i).toNat) H1) : iRng2 t σ H R := q
theorem w_ies (q : t σ H fun vs H1 => ∃ z, vs = [.str z] ∧ R (Ites z) H1) : iEnumS t σ H R := q
theorem w_r1 {R : Int → Prop} (q : R j) (h : -4611686018427387904 ≤ j ∧ j < 4611686018427387904) : ∃ k : Int, [V.int j] = [.int k] ∧ -2 ^ 62 ≤ k ∧ k < 2 ^ 62 ∧ R k := ⟨j, rfl, by omega, by omega, q⟩
theorem w_r2 {R : Int → Int → Prop} (q : R i j) (h : (-4611686018427387904 ≤ i ∧ i < 4611686018427387904) ∧ -4611686018427387904 ≤ j ∧ j < 4611686018427387904) :
    ∃ a b : Int, [V.int i, V.int j] = [.int a, .int b] ∧ (-2 ^ 62 ≤ a ∧ a < 2 ^ 62 ∧ -2 ^ 62 ≤ b ∧ b < 2 ^ 62) ∧ R a b := ⟨i, j, rfl, ⟨by omega, by omega, by omega, by omega⟩, q⟩
theorem w_s1 {R : Str → Prop} {z : Str} (q : R z) : ∃ x, V.str z = .str x ∧ R x := ⟨z, rfl, q⟩
theorem w_s1l {R : Str → Prop} {z : Str} (q : R z) : ∃ x, [V.str z] = [.str x] ∧ R x := ⟨z, rfl, q⟩
theorem w_l1 {R : Addr → Prop} (h : SqL K H p xs) (q : R p) : ∃ a, V.ref p = .ref a ∧ (∃ xs, SqL K H a xs) ∧ R a := ⟨p, rfl, ⟨xs, h⟩, q⟩
theorem w_t1 {R : Addr → Prop} (h : SqT K H p xs) (q : R p) : ∃ a, V.ref p = .ref a ∧ (∃ xs, SqT K H a xs) ∧ R a := ⟨p, rfl, ⟨xs, h⟩, q⟩
theorem w_app (h : H p = some (.lst xs)) {v : V} (q : Q .non (upd H p (.lst (xs ++ [v])))) (hz : xs.length < 16777216) : rAppend (.ref p) [v] H Q := ⟨p, xs, v, rfl, rfl, h, by rw [sizeLine_eq]; exact hz, q⟩
theorem w_isL (h : SqL K H p xs) {B : Prop} (q : B) : tyV K "list" (.ref p) H ∧ B := ⟨.inl ⟨rfl, xs, h⟩, q⟩
theorem w_minL {ns : List Int} (h : SqL K H p (ns.map V.int)) (hz : 0 < ns.length) (q : ∀ m, m ∈ ns → (∀ y, y ∈ ns → m ≤ y) → Q (.int m) H) : rMin K [.ref p] H Q := ⟨p, ns, rfl, h, hz, q⟩
theorem w_allL {bs : List Bool} (h : SqL K H p (bs.map V.bl)) (q : Q (.bl (bs.all id)) H) : rAll K [.ref p] H Q := ⟨p, bs, rfl, h, q⟩
theorem w_anyL {bs : List Bool} (h : SqL K H p (bs.map V.bl)) (q : Q (.bl (bs.any id)) H) : rAny K [.ref p] H Q := ⟨p, bs, rfl, h, q⟩
theorem w_inC {c : Nat} (q : Q (.bl (decide (c ∈ l))) H) : rInU K (.str (tx [c])) (.str (tx l)) H Q := .inl ⟨c, tx l, rfl, rfl, by
  have e : (tx l).cps.toList = l := rfl
  rw [e]
  exact q⟩
end
/-- a comprehension over the signs of a text -/
theorem lc_tx {l : List Nat} {g : TG} {tt : TT} {te : TE} {vs : List Nat} {σ : SSt} {H1 : Hp} {D : Addr} {Qd : Hp → Prop} (Pv : Nat → Hp → Prop) (h0 : Pv 0 (upd H1 D (.lst [])))
    (hs : ∀ i c H, l[i]? = some c → Pv i H → g (.str (tx [c])) (wipe σ vs) H fun σ2 H2 => wipe σ2 vs = wipe σ vs ∧ tt σ2 H2 fun b H3 =>
      if b = true then te σ2 H3 fun y H4 => ∃ acc, H4 D = some (.lst acc) ∧ acc.length < sizeLine ∧ Pv (i + 1) (upd H4 D (.lst (acc ++ [y]))) else Pv (i + 1) H3) (hd : ∀ H, Pv l.length H → Qd H) :
    ∃ W : Nat → Nat → Hp → Prop, (∃ m, W 0 m (upd H1 D (.lst []))) ∧ ∀ i m H, W i m H →
      ((Its (tx l)).stop i H ∧ Qd H) ∨ ((Its (tx l)).go i H ∧ ∃ Nx : Hp → Prop, (∀ H', Nx H' → ∃ m', m' < m ∧ W (i + 1) m' H') ∧ ∀ x H', (Its (tx l)).yld i H x H' → g x (wipe σ vs) H' fun σ2 H2 => wipe σ2 vs = wipe σ vs ∧ tt σ2 H2 fun b H3 =>
        if b = true then te σ2 H3 fun y H4 => ∃ acc, H4 D = some (.lst acc) ∧ acc.length < sizeLine ∧ Nx (upd H4 D (.lst (acc ++ [y]))) else Nx H3) := by
  refine lc_it walk_str Pv h0 (fun _ _ _ _ => True.intro) ?_ (fun H h => hd H (by simpa using h))
  rintro i x H H' hi p ⟨rfl, c, hc, rfl⟩
  exact hs i c _ (by simpa using hc) p
/-- a for over the signs of a text -/
theorem for_tx {l : List Nat} {g : TG} {tb : TS} {D : Ends} {σ : SSt} {H : Hp} (Pv : Nat → SSt → Hp → Prop) (h0 : Pv 0 σ H)
    (hs : ∀ i c σ H, l[i]? = some c → Pv i σ H → g (.str (tx [c])) σ H fun σ2 H2 => tb { D with nx := Pv (i + 1), ct := Pv (i + 1), bk := D.nx } σ2 H2) (hd : ∀ σ H, Pv l.length σ H → D.nx σ H) :
    ∃ W : Nat → Nat → SSt → Hp → Prop, (∃ m, W 0 m σ H) ∧ ∀ i m σ H, W i m σ H →
      ((Its (tx l)).stop i H ∧ D.nx σ H) ∨ ((Its (tx l)).go i H ∧ ∃ N : SSt → Hp → Prop, (∀ σ' H', N σ' H' → ∃ m', m' < m ∧ W (i + 1) m' σ' H') ∧ ∀ x H', (Its (tx l)).yld i H x H' → g x σ H' fun σ2 H2 => tb { D with nx := N, ct := N, bk := D.nx } σ2 H2) := by
  refine for_it walk_str Pv h0 (fun _ _ _ _ _ => True.intro) ?_ (fun σ H h => hd σ H (by simpa using h))
  rintro i x σ H H' hi p ⟨rfl, c, hc, rfl⟩
  exact hs i c σ _ (by simpa using hc) p
/-- a for over enumerate of a text: each turn has a new pair at T -/
theorem for_etx {l : List Nat} {g : TG} {tb : TS} {D : Ends} {σ : SSt} {H : Hp} (Pv : Nat → SSt → Hp → Prop) (h0 : Pv 0 σ H)
    (hs : ∀ i c T σ H, l[i]? = some c → Pv i σ H → H T = none → g (.ref T) σ (upd H T (.tup [.int (i : Nat), .str (tx [c])])) fun σ2 H2 => tb { D with nx := Pv (i + 1), ct := Pv (i + 1), bk := D.nx } σ2 H2) (hd : ∀ σ H, Pv l.length σ H → D.nx σ H) :
    ∃ W : Nat → Nat → SSt → Hp → Prop, (∃ m, W 0 m σ H) ∧ ∀ i m σ H, W i m σ H →
      ((Ites (tx l)).stop i H ∧ D.nx σ H) ∨ ((Ites (tx l)).go i H ∧ ∃ N : SSt → Hp → Prop, (∀ σ' H', N σ' H' → ∃ m', m' < m ∧ W (i + 1) m' σ' H') ∧ ∀ x H', (Ites (tx l)).yld i H x H' → g x σ H' fun σ2 H2 => tb { D with nx := N, ct := N, bk := D.nx } σ2 H2) := by
  have w : Walk (Ites (tx l)) l.length (fun _ => True) (fun i H v H' => ∃ T c, v = .ref T ∧ H T = none ∧ H' = upd H T (.tup [.int (i : Nat), .str ⟨#[c]⟩]) ∧ (tx l).cps[i]? = some c) :=
    ⟨fun i H hi _ => by show i < (tx l).cps.size; simpa using hi, fun H _ => by show l.length = (tx l).cps.size; simp, fun i H x H' _ _ y => y⟩
  refine for_it w Pv h0 (fun _ _ _ _ _ => True.intro) ?_ hd
  rintro i x σ H H' hi p ⟨T, c, rfl, hT, rfl, hc⟩
  exact hs i c T σ H (by simpa using hc) p hT
/-! letters -/
def abc : List Nat := [97, 98, 99, 100, 101, 102, 103, 104, 105, 106, 107, 108, 109, 110, 111, 112, 113, 114, 115, 116, 117, 118, 119, 120, 121, 122]
theorem mem_abc {c : Nat} : c ∈ abc ↔ 97 ≤ c ∧ c ≤ 122 := by
  unfold abc
  simp only [List.mem_cons, List.not_mem_nil, or_false]
  omega
/-- all of them letters -/
def Let (l : List Nat) : Prop := ∀ c ∈ l, c ∈ abc
instance (l : List Nat) : Decidable (Let l) := inferInstanceAs (Decidable (∀ c ∈ l, c ∈ abc))
theorem all_let (l : List Nat) : (l.map fun c => decide (c ∈ abc)).all id = decide (Let l) := by
  by_cases h : Let l
  · rw [decide_eq_true h, List.all_eq_true]
    intro b hb
    obtain ⟨c, hc, rfl⟩ := List.mem_map.mp hb
    exact decide_eq_true (h c hc)
  · rw [decide_eq_false h, List.all_eq_false]
    have : ∃ c, c ∈ l ∧ ¬ c ∈ abc := by
      refine Classical.byContradiction fun n => h fun c hc => ?_
      exact Classical.byContradiction fun m => n ⟨c, hc, m⟩
    obtain ⟨c, hc, hn⟩ := this
    exact ⟨_, List.mem_map.mpr ⟨c, hc, rfl⟩, by simpa using hn⟩
theorem Let.nil : Let [] := fun _ h => absurd h List.not_mem_nil
theorem Let.app {l m : List Nat} (a : Let l) (b : Let m) : Let (l ++ m) := fun c h => (List.mem_append.mp h).elim (a c) (b c)
theorem Let.take {l : List Nat} (a : Let l) (n : Nat) : Let (l.take n) := fun c h => a c (List.mem_of_mem_take h)
theorem Let.drop {l : List Nat} (a : Let l) (n : Nat) : Let (l.drop n) := fun c h => a c (List.mem_of_mem_drop h)
theorem w_inT {K : PySem.W.Frag} {H : Hp} {Q : VK} {v : V} {p : Addr} {xs : List V} (h : SqT K H p xs) (hv : flatV v = true) (hx : xs.all flatV = true) (q : Q (.bl (inV v xs)) H) : rInU K v (.ref p) H Q :=
  .inr ⟨p, xs, rfl, .inr h, hv, hx, q⟩
theorem take_more {α : Type} {l : List α} {i : Nat} {x : α} (h : l[i]? = some x) : l.take (i + 1) = l.take i ++ [x] := by
  rw [List.take_add_one, h]
  rfl
theorem get_of {α : Type} {l : List α} {i : Nat} (h : i < l.length) : l[i]? = some l[i] := List.getElem?_eq_getElem h
/-! ''.join of texts -/
theorem join_nil' : ∀ ls : List (List Nat), Str.join (tx []) (ls.map tx) = tx ls.flatten
  | [] => rfl
  | [x] => by
    show tx x = tx [x].flatten
    simp
  | x :: y :: r => by
    have ih := join_nil' (y :: r)
    show tx x ++ tx [] ++ Str.join (tx []) ((y :: r).map tx) = _
    rw [ih, tx_app, tx_app, List.append_nil]
    rfl
theorem join_nil (ls : List (List Nat)) : Txt.join (tx []) (ls.map tx) = tx ls.flatten := by
  unfold Txt.join
  rw [StrLaws.glued_eq_join, join_nil']
theorem join_sum (ls : List (List Nat)) : ((ls.map tx).map (·.length)).sum = ls.flatten.length := by
  induction ls with
  | nil => rfl
  | cons x r ih => rw [List.map_cons, List.map_cons, List.sum_cons, ih, tx_len, List.flatten_cons, List.length_append]
def rJoinU (K : PySem.W.Frag) : V → List V → Hp → VK → Prop := fun x xs H Q => ∃ a p, ∃ ys : List Str, x = .str a ∧ xs = [.ref p] ∧ (SqL K H p (ys.map V.str) ∨ SqT K H p (ys.map V.str)) ∧ (ys.map (·.length)).sum + ys.length * a.length ≤ 16777216 ∧ Q (.str (Txt.join a ys)) H
theorem uJoin {X : Cx} : MtR X "str.join" (rJoinU X.K) := mt_join
theorem w_join {K : PySem.W.Frag} {H : Hp} {Q : VK} {p : Addr} {ls : List (List Nat)} (h : SqL K H p (ls.map fun l => V.str (tx l))) (q : Q (.str (tx ls.flatten)) H) (hz : ls.flatten.length ≤ 16777216) : rJoinU K (.str (tx [])) [.ref p] H Q := by
  refine ⟨tx [], p, ls.map tx, rfl, rfl, .inl ?_, ?_, by rw [join_nil]; exact q⟩
  · rw [List.map_map]
    exact h
  · rw [join_sum, tx_len]
    simpa using hz
theorem w_isS {l : List Nat} {B : Prop} (q : B) : (∃ a, V.str (tx l) = .str a) ∧ B := ⟨⟨_, rfl⟩, q⟩
theorem w_lrg {H : Hp} {Q : VK} {σ : SSt} {te : TE} (q : te σ H fun x H1 => ∃ n, x = .int n ∧ (RgOk 0 n ∧ ∀ q, H1 q = none → Q (.ref q) (upd H1 q (.lst (rgV 0 n))))) : tLstRg (tRg1 te) σ H Q := q
theorem rgV_n (n : Nat) : rgV 0 (n : Int) = (List.range n).map fun i => V.int (i : Nat) := by
  unfold rgV
  rw [show ((n : Int) - 0).toNat = n by omega]
  apply List.map_congr_left
  intro i _
  rw [show (0 : Int) + (i : Int) = (i : Int) by omega]
end SL
set_option Elab.async false
set_option linter.all false
set_option maxRecDepth 100000
set_option maxHeartbeats 4000000
/-! SlH: the rules with K said aloud (a comprehension's element must not mention the block's context), constants, keyword calls. -/
namespace SL
open PySem PySem.Spec PyProof.Rows L2
section
variable (K : PySem.W.Frag) {X : Cx} {k : Nat}
theorem kAdd (h : X.K = K) : OpR X (binaryOp .Add) (rAddU K) := h ▸ uAdd
theorem kEq (h : X.K = K) (hr : Room k X.A) : OpR X (compareOp .Eq) (rEqU K) := h ▸ uEq hr
theorem kNe (h : X.K = K) (hr : Room k X.A) : OpR X (compareOp .NotEq) (rNeU K) := h ▸ uNe hr
theorem kIn (h : X.K = K) : OpR X (compareOp .In) (rInU K) := h ▸ uIn
theorem kSl (h : X.K = K) : SlR X (rSlU K) := h ▸ uSl
theorem kIx (h : X.K = K) : IxR X (rIx K) := h ▸ ix_seq
theorem kLen (h : X.K = K) : CallR X (.builtin "len") (rLenU K) := h ▸ uLen
theorem kIsi (h : X.K = K) : CallR X (.builtin "isinstance") (rIsi K) := h ▸ uIsi
theorem kIsiT (h : X.K = K) : CallR X (.builtin "isinstance") (rIsiT K) := h ▸ uIsiT
theorem kList (h : X.K = K) : CallR X (.type "list") (rListU K) := h ▸ uList
theorem kSum (h : X.K = K) (hc : X.calm = true) : CallR X (.builtin "sum") (rSum K) := h ▸ cr_sum hc
theorem kAny (h : X.K = K) (hc : X.calm = true) : CallR X (.builtin "any") (rAny K) := h ▸ cr_any hc
theorem kAll (h : X.K = K) (hc : X.calm = true) : CallR X (.builtin "all") (rAll K) := h ▸ cr_all hc
theorem kMin (h : X.K = K) (hc : X.calm = true) : CallR X (.builtin "min") (rMin K) := h ▸ cr_min hc
theorem kMax (h : X.K = K) (hc : X.calm = true) : CallR X (.builtin "max") (rMax K) := h ▸ cr_max hc
theorem kSorted (h : X.K = K) : CallR X (.builtin "sorted") (rSorted K) := h ▸ cr_sorted
theorem kJoin (h : X.K = K) : MtR X "str.join" (rJoinU K) := h ▸ uJoin
theorem kIndex (h : X.K = K) : MtR X "list.index" (rIndex K) := h ▸ mt_index
theorem kiList (h : X.K = K) {tg l : Expr} {tl : TE} (p : PE X l tl) : PI X tg l (iList K tl) := h ▸ pi_list p
theorem kiTup (h : X.K = K) {tg l : Expr} {tl : TE} (p : PE X l tl) : PI X tg l (iTup K tl) := h ▸ pi_tup p
theorem kRev (h : X.K = K) {e : Expr} {te : TE} {k : Nat} {p1 p2 p3 pos : Pos} (p : PE X e te) :
    PE X (e.Subscript (.Slice none none (some (.UnaryOp .USub (.Constant (.int 1) k p1) p2)) p3) pos) (tRevU K te) := h ▸ pe_revU p
theorem kTup (h : X.K = K) {pos : Pos} {es : List Expr} {k : Nat} {t : TGs} {n : Nat} (hc : X.calm = true) (p : PGs X es t) (h1 : (assignEach es X.env).length = n := by rfl)
    (h2 : List.findIdx? (fun x => x.fst) (assignEach es X.env) = none := by rfl) : PG X (.Tuple es k pos) (gTup K n t) := h ▸ pg_tup hc p h1 h2
theorem kBm (h : X.K = K) {o e : Expr} {es : List Expr} {to : TE} {t : TA} {name : Str} {apos cpos : Pos} {T id : String} {r : V → List V → Hp → VK → Prop}
    (h1 : PlainAttrs T) (h2 : Slot T name id) (h3 : typeOf (Value.builtin id) = pure (Value.type "method_descriptor")) (h4 : MtR X id r) (h5 : PE X o to) (h6 : PA X (e :: es) t)
    (h7 : attributeBase o name X.env (eval o X.env) = eval o X.env := by rfl)
    (h8 : ((((backTo cpos (starEach (e :: es) X.env)).all fun x => !x.fst) && (backToKw cpos (keywordEach [] X.env)).all fun x => x.fst.isSome) && decide (((e :: es).length + ([] : List Keyword).length + if ([] : List Keyword).isEmpty = true then 0 else 1) < 30)) = true := by rfl)
    (h9 : (apos.endLine == cpos.line) = true := by rfl) (h10 : starEach (e :: es) X.env = (false, eval e X.env) :: starEach es X.env := by rfl)
    (h11 : ((backTo cpos (starEach es X.env)).any fun x => x.fst) = false := by rfl) : PE X ((o.Attribute name apos).Call (e :: es) [] cpos) (tBM K T r to t) :=
  h ▸ pe_bm h1 h2 h3 h4 h5 h6 h7 h8 h9 h10 h11
end
/-- a text of the module, by its signs -/
theorem pe_gs {X : Cx} {x : Str} {l : List Nat} {pos : Pos} (hg : Gl X x) (h : ∃ t, X.mg x = some (.str (tx l) t)) (hdb : (x == ("__debug__" : Str)) = false := by decide) : PE X (.Name x pos) (tC (.str (tx l))) := by
  obtain ⟨t, h⟩ := h
  exact pe_glob hg h (by first | exact ⟨_, rfl⟩ | constructor) hdb
theorem pe_gi {X : Cx} {x : Str} {i : Int} {pos : Pos} (hg : Gl X x) (h : ∃ t, X.mg x = some (.int i t)) (hdb : (x == ("__debug__" : Str)) = false := by decide) : PE X (.Name x pos) (tC (.int i)) := by
  obtain ⟨t, h⟩ := h
  exact pe_glob hg h (by first | exact ⟨_, rfl⟩ | constructor) hdb
/-! keyword calls -/
/-- a def called by keywords alone: ks the names in the call's order, g how the values come to the parameters -/
structure CalW (P : Program) (w : World) (K : PySem.W.Frag) (mg : Str → Option Value) (base : Heap) (k : Nat) (x : Str) (ps ks : List Str) (g : {α : Type} → List α → List α) (sp : Sp) : Prop where
  ex : ∃ (f : Addr) (fd : FuncData), FnG P w K mg base k f fd ps sp ∧ mg x = some (.ref f) ∧ PySem.W.keepIn K (.ref f) = true ∧
    ∀ (s : Shared) (ws : List Value), ws.length = ks.length → BindsTo s fd ⟨[], ks.zip ws⟩ (ps.zip (g ws))
def tCallW (sp : Sp) (g : {α : Type} → List α → List α) (n : Nat) (E : SSt → XK) (t : TA) : TE := fun σ H Q => t σ H fun vs H1 => vs.length = n ∧ sp (g vs) H1 Q (E σ)
section
variable {X : Cx} {k j : Nat} {x : Str} {ps ks : List Str} {sp : Sp} {E : L2.St → XK} {p pos : Pos} {kws : List Keyword} {t : TA} {g : {α : Type} → List α → List α}
theorem pe_gw (c : CalW X.prog X.w X.K X.mg X.base k x ps ks g sp) (hr : Room j X.A) (hk : k ≤ j) (hgd : X.A.guards = some []) (hg : Gl X x) (hx : ∀ σ, PassesAt (L2.CX X.prog X.w) X σ (E σ)) (ha : PK X kws t)
    (hl : ∀ {vs : List V} {us : List Value}, vs.length = ks.length → Vals vs us → Vals (g vs) (g us))
    (hall : (backToKw pos (keywordEach kws X.env)).all (·.1.isSome) = true := by rfl) (hks : (backToKw pos (keywordEach kws X.env)).filterMap (·.1) = ks := by rfl)
    (hdb : (x == ("__debug__" : Str)) = false := by decide)
    (hpl : ((backTo pos (starEach [] X.env)).any (·.1) || (backToKw pos (keywordEach kws X.env)).any (·.1.isNone)) = false := by rfl) :
    PE X (.Call (.Name x p) [] kws pos) (tCallW sp g ks.length E t) := by
  obtain ⟨f, fd, F, hm, kp, hb⟩ := c.ex
  constructor
  intro pins s σ H Q I h
  refine wpAny_Call_Name_kw (ld_glob I hg hm ?_ hdb)
  refine PySem.W.callWith_KW0 (h₀ := X.base) I.ok.mod.kin kp hall ?_ hpl
  refine thn (ha.run pos pins s σ H _ I h) ?_
  rintro ws s1 ⟨vs, H1, I1, r, hn, q⟩
  refine ⟨I1.kIn, ?_⟩
  rw [hks]
  refine wpAny_call (codeAny_mono (F.run X.A X.stack s1 H1 ⟨[], ks.zip ws⟩ (g ws) (g vs) Q (E σ) (hr.mono hk) hgd (Inv.env0 I1) (hb s1 ws (by rw [← Paired.length r]; exact hn)) (hl hn r) q) ?_)
  intro rr s' hq
  match rr, hq with
  | .error ex, hq => exact hx σ pins H1 s1 ex s' I1 hq
  | .ok (.ret u), hq => exact Inv.after I1 hq
end
theorem w_callW {g : {α : Type} → List α → List α} {n : Nat} {sp : Sp} {E : SSt → XK} {t : TA} {σ : SSt} {H : Hp} {Q : VK} (q : t σ H fun vs H1 => vs.length = n ∧ sp (g vs) H1 Q (E σ)) : tCallW sp g n E t σ H Q := q
theorem w_same {s : String} {A B : Prop} (q : A) : if (s == s) = true then A else B := by
  rw [if_pos (by simp)]
  exact q
theorem w_diff {s t : String} {A B : Prop} (q : B) (h : (s == t) = false) : if (s == t) = true then A else B := by
  rw [if_neg (by rw [h]; decide)]
  exact q
theorem w_wp {σ τ : SSt} {vs : List Nat} {B : Prop} (h : wipe σ vs = wipe τ vs) (q : B) : wipe σ vs = wipe τ vs ∧ B := ⟨h, q⟩
theorem w_acc {H : Hp} {D : Addr} {acc : List V} {R : List V → Prop} (h : H D = some (.lst acc)) (q : R acc) (hz : acc.length < 16777216) : ∃ acc, H D = some (.lst acc) ∧ acc.length < sizeLine ∧ R acc :=
  ⟨acc, h, by rw [sizeLine_eq]; exact hz, q⟩
theorem lt_of_get {α : Type} {l : List α} {i : Nat} {c : α} (h : l[i]? = some c) : i < l.length := (List.getElem?_eq_some_iff.mp h).1
theorem w_ifT {b : Bool} {A B : Prop} (h : b = true) (q : A) : if b = true then A else B := by rw [if_pos h]; exact q
theorem w_ifF {b : Bool} {A B : Prop} (h : b = false) (q : B) : if b = true then A else B := by rw [if_neg (by rw [h]; decide)]; exact q
def rRev1 (K : PySem.W.Frag) (x : V) (H : Hp) (Q : VK) : Prop := (∃ l : List Nat, x = .str (tx l) ∧ l.length ≤ 16777216 ∧ Q (.str (tx l.reverse)) H) ∨
  (∃ a xs, x = .ref a ∧ SqT K H a xs ∧ ∀ p, H p = none → Q (.ref p) (upd H p (.tup xs.reverse)))
section
variable {K : PySem.W.Frag} {te : TE} {σ : SSt} {H : Hp} {Q : VK} {l : List Nat} {p : Addr} {xs : List V} {k : Nat}
theorem w_rev (q : te σ H fun x H1 => rRev1 K x H1 Q) : tRevU K te σ H Q := q
theorem w_rev1S (q : Q (.str (tx l.reverse)) H) (h : l.length ≤ 16777216) : rRev1 K (.str (tx l)) H Q := .inl ⟨l, rfl, h, q⟩
theorem w_rev1T (h : SqT K H p xs) (q : ∀ a, H a = none → Q (.ref a) (upd H a (.tup xs.reverse))) : rRev1 K (.ref p) H Q := .inr ⟨p, xs, rfl, h, q⟩
theorem w_sSfN (q : Q (.str (tx (l.drop k))) H) (h : l.length ≤ 16777216) : rSlU K (.str (tx l)) (some (k : Int)) none H Q := w_sSf q ⟨by omega, h⟩
theorem w_sStN (q : Q (.str (tx (l.take k))) H) (h : l.length ≤ 16777216) : rSlU K (.str (tx l)) none (some (k : Int)) H Q := w_sSt q ⟨by omega, h⟩
end
theorem in_pair {x y : List Nat} (h : x = [] ∨ y = []) : inV (V.str (tx [])) [V.str (tx x), V.str (tx y)] = true := by
  have e : eqV (V.str (tx [])) (V.str (tx [])) = true := by first | rfl | decide | decide +kernel
  rcases h with rfl | rfl
  · simp [inV, e]
  · simp [inV, e]
/-- a for over a range from 0 -/
theorem for_rg {j : Int} {n : Nat} {g : TG} {tb : TS} {D : Ends} {σ : SSt} {H : Hp} (hn : j.toNat = n) (Pv : Nat → SSt → Hp → Prop) (h0 : Pv 0 σ H)
    (hs : ∀ (i : Nat) σ H, i < n → Pv i σ H → g (.int (i : Int)) σ H fun σ2 H2 => tb { D with nx := Pv (i + 1), ct := Pv (i + 1), bk := D.nx } σ2 H2) (hd : ∀ σ H, Pv n σ H → D.nx σ H) :
    ∃ W : Nat → Nat → SSt → Hp → Prop, (∃ m, W 0 m σ H) ∧ ∀ i m σ H, W i m σ H →
      ((Itr 0 j.toNat).stop i H ∧ D.nx σ H) ∨ ((Itr 0 j.toNat).go i H ∧ ∃ N : SSt → Hp → Prop, (∀ σ' H', N σ' H' → ∃ m', m' < m ∧ W (i + 1) m' σ' H') ∧ ∀ x H', (Itr 0 j.toNat).yld i H x H' → g x σ H' fun σ2 H2 => tb { D with nx := N, ct := N, bk := D.nx } σ2 H2) := by
  subst hn
  refine for_it walk_range Pv h0 (fun _ _ _ _ _ => True.intro) ?_ hd
  rintro i x σ H H' hi p ⟨rfl, rfl⟩
  have e : (0 : Int) + (i : Int) = i := by omega
  show g (.int ((0 : Int) + (i : Int))) _ _ _
  rw [e]
  exact hs i σ _ hi p
/-- a for over a range -/
theorem for_rg2 {lo hi : Int} {n : Nat} {g : TG} {tb : TS} {D : Ends} {σ : SSt} {H : Hp} (hn : (hi - lo).toNat = n) (Pv : Nat → SSt → Hp → Prop) (h0 : Pv 0 σ H)
    (hs : ∀ (i : Nat) σ H, i < n → Pv i σ H → g (.int (lo + i)) σ H fun σ2 H2 => tb { D with nx := Pv (i + 1), ct := Pv (i + 1), bk := D.nx } σ2 H2) (hd : ∀ σ H, Pv n σ H → D.nx σ H) :
    ∃ W : Nat → Nat → SSt → Hp → Prop, (∃ m, W 0 m σ H) ∧ ∀ i m σ H, W i m σ H →
      ((Itr lo (hi - lo).toNat).stop i H ∧ D.nx σ H) ∨ ((Itr lo (hi - lo).toNat).go i H ∧ ∃ N : SSt → Hp → Prop, (∀ σ' H', N σ' H' → ∃ m', m' < m ∧ W (i + 1) m' σ' H') ∧ ∀ x H', (Itr lo (hi - lo).toNat).yld i H x H' → g x σ H' fun σ2 H2 => tb { D with nx := N, ct := N, bk := D.nx } σ2 H2) := by
  subst hn
  refine for_it walk_range Pv h0 (fun _ _ _ _ _ => True.intro) ?_ hd
  rintro i x σ H H' hi p ⟨rfl, rfl⟩
  exact hs i σ _ hi p
/-- a comprehension over a range from 0 -/
theorem lc_rg {j : Int} {n : Nat} {g : TG} {tt : TT} {te : TE} {vs : List Nat} {σ : SSt} {H1 : Hp} {D : Addr} {Qd : Hp → Prop} (hn : j.toNat = n) (Pv : Nat → Hp → Prop) (h0 : Pv 0 (upd H1 D (.lst [])))
    (hs : ∀ (i : Nat) H, i < n → Pv i H → g (.int (i : Int)) (wipe σ vs) H fun σ2 H2 => wipe σ2 vs = wipe σ vs ∧ tt σ2 H2 fun b H3 =>
      if b = true then te σ2 H3 fun y H4 => ∃ acc, H4 D = some (.lst acc) ∧ acc.length < sizeLine ∧ Pv (i + 1) (upd H4 D (.lst (acc ++ [y]))) else Pv (i + 1) H3) (hd : ∀ H, Pv n H → Qd H) :
    ∃ W : Nat → Nat → Hp → Prop, (∃ m, W 0 m (upd H1 D (.lst []))) ∧ ∀ i m H, W i m H →
      ((Itr 0 j.toNat).stop i H ∧ Qd H) ∨ ((Itr 0 j.toNat).go i H ∧ ∃ Nx : Hp → Prop, (∀ H', Nx H' → ∃ m', m' < m ∧ W (i + 1) m' H') ∧ ∀ x H', (Itr 0 j.toNat).yld i H x H' → g x (wipe σ vs) H' fun σ2 H2 => wipe σ2 vs = wipe σ vs ∧ tt σ2 H2 fun b H3 =>
        if b = true then te σ2 H3 fun y H4 => ∃ acc, H4 D = some (.lst acc) ∧ acc.length < sizeLine ∧ Nx (upd H4 D (.lst (acc ++ [y]))) else Nx H3) := by
  subst hn
  refine lc_it walk_range Pv h0 (fun _ _ _ _ => True.intro) ?_ hd
  rintro i x H H' hi p ⟨rfl, rfl⟩
  have e : (0 : Int) + (i : Int) = i := by omega
  show g (.int ((0 : Int) + (i : Int))) _ _ _
  rw [e]
  exact hs i _ hi p
/-- a cut: what stands after the first statement -/
theorem w_seqI {t1 t2 : TS} {D : Ends} {σ : SSt} {H : Hp} (I : SSt → Hp → Prop) (k : ∀ σ H, I σ H → t2 D σ H) (q : ∀ N : SSt → Hp → Prop, (∀ σ H, I σ H → N σ H) → t1 { D with nx := N } σ H) : tSeq t1 t2 D σ H := q _ k
section
variable {t2 : TS} {D : Ends} {σ : SSt} {H : Hp} {te : TE} {g : TG} {n m : Nat} {t : TA} {ti : TIp} {wi : TI} {tb : TS}
theorem w_seqA (q : tAsg te g { D with nx := t2 D } σ H) : tSeq (tAsg te g) t2 D σ H := q
theorem w_seqD (q : tDrop te { D with nx := t2 D } σ H) : tSeq (tDrop te) t2 D σ H := q
theorem w_seqP (q : tPar n m t { D with nx := t2 D } σ H) : tSeq (tPar n m t) t2 D σ H := q
theorem w_seqG (q : tAug n te ti { D with nx := t2 D } σ H) : tSeq (tAug n te ti) t2 D σ H := q
end
theorem w_gT {K : PySem.W.Frag} {n : Nat} {tg : TGs} {p : Addr} {σ : SSt} {H : Hp} {Q : SSt → Hp → Prop} {xs : List V} (h : SqT K H p xs) (q : tg xs σ H Q) (hn : xs.length = n) : gTup K n tg (.ref p) σ H Q := ⟨p, xs, rfl, h, hn, q⟩
def rIsU : R2 := fun x y H Q => y = .non ∧ Q (.bl (decide (x = .non))) H
def rIsNotU : R2 := fun x y H Q => y = .non ∧ Q (.bl (!decide (x = .non))) H
theorem uIs {X : Cx} : OpR X (compareOp .Is) rIsU := op_isN
theorem uIsNot {X : Cx} : OpR X (compareOp .IsNot) rIsNotU := op_notN
section
variable {H : Hp} {Q : VK} {i : Int} {z : Str} {p : Addr} {b : Bool}
theorem w_isnN (q : Q (.bl true) H) : rIsU .non .non H Q := ⟨rfl, by rw [decide_eq_true rfl]; exact q⟩
theorem w_isnI (q : Q (.bl false) H) : rIsU (.int i) .non H Q := ⟨rfl, by rw [decide_eq_false (by simp)]; exact q⟩
theorem w_isnS (q : Q (.bl false) H) : rIsU (.str z) .non H Q := ⟨rfl, by rw [decide_eq_false (by simp)]; exact q⟩
theorem w_isnR (q : Q (.bl false) H) : rIsU (.ref p) .non H Q := ⟨rfl, by rw [decide_eq_false (by simp)]; exact q⟩
theorem w_isnB (q : Q (.bl false) H) : rIsU (.bl b) .non H Q := ⟨rfl, by rw [decide_eq_false (by simp)]; exact q⟩
theorem w_isoN (q : Q (.bl false) H) : rIsNotU .non .non H Q := ⟨rfl, by rw [decide_eq_true rfl]; exact q⟩
theorem w_isoI (q : Q (.bl true) H) : rIsNotU (.int i) .non H Q := ⟨rfl, by rw [decide_eq_false (by simp)]; exact q⟩
theorem w_isoS (q : Q (.bl true) H) : rIsNotU (.str z) .non H Q := ⟨rfl, by rw [decide_eq_false (by simp)]; exact q⟩
theorem w_isoR (q : Q (.bl true) H) : rIsNotU (.ref p) .non H Q := ⟨rfl, by rw [decide_eq_false (by simp)]; exact q⟩
theorem w_isoB (q : Q (.bl true) H) : rIsNotU (.bl b) .non H Q := ⟨rfl, by rw [decide_eq_false (by simp)]; exact q⟩
end
theorem kLst (K : PySem.W.Frag) {X : Cx} (h : X.K = K) {pos : Pos} {es : List Expr} {k : Nat} {t : TGs} {n : Nat} (hc : X.calm = true) (p : PGs X es t) (h1 : (assignEach es X.env).length = n := by rfl)
    (h2 : List.findIdx? (fun x => x.fst) (assignEach es X.env) = none := by rfl) : PG X (.Tuple es k pos) (gLst K n t) := h ▸ pg_lst hc p h1 h2
theorem w_gL {K : PySem.W.Frag} {n : Nat} {tg : TGs} {p : Addr} {σ : SSt} {H : Hp} {Q : SSt → Hp → Prop} {xs : List V} (h : SqL K H p xs) (q : tg xs σ H Q) (hn : xs.length = n) : gLst K n tg (.ref p) σ H Q := ⟨p, xs, rfl, h, hn, q⟩
theorem atI_last {α : Type} {xs : List α} {v : α} (h : xs[xs.length - 1]? = some v) : atI xs (-1) = some v := by
  have hl := (List.getElem?_eq_some_iff.mp h).1
  unfold atI ixN
  rw [if_neg (by omega)]
  rw [if_pos (by omega)]
  rw [Option.bind_some, show ((-1 : Int) + xs.length).toNat = xs.length - 1 by omega]
  exact h
theorem box_le {H : Hp} {p : Addr} {c d : Nat} (h : Box H p c) (e : c ≤ d := by omega) : Box H p d := h.le e
theorem all_take {α : Type} {l : List α} : l.take l.length = l := List.take_length
end SL
set_option Elab.async false
set_option linter.all false
set_option maxRecDepth 100000
set_option maxHeartbeats 4000000
/-! SlI: more about heaps and texts. -/
namespace SL
open PySem PySem.Spec PyProof.Rows L2
theorem Fr.nil {p D : Addr} {H H1 : Hp} (f : Fr p H H1) (hD : H1 D = none) (n : p ≠ D) : H D = none := by
  cases h : H D with
  | none => rfl
  | some o => rw [f D o h (Ne.symm n)] at hD; cases hD
theorem Fr.grow {p D : Addr} {H H1 H' : Hp} {o : HO} (f0 : Fr p H H1) (hD : H1 D = none) (n : p ≠ D) (f : Fr p H H') : Fr p H (upd H' D o) := fun b u h nb => by
  rw [upd_ne (ne_of_none h (Fr.nil f0 hD n))]
  exact f b u h nb
theorem rep_len (n : Nat) (l : List Nat) : (List.replicate n l).flatten.length = n * l.length := by
  induction n with
  | zero => simp
  | succ n ih => rw [List.replicate_succ, List.flatten_cons, List.length_append, ih, Nat.succ_mul]; omega
theorem rep_let {n : Nat} {l : List Nat} (h : Let l) : Let (List.replicate n l).flatten := by
  induction n with
  | zero => exact fun _ h => absurd h (by simp)
  | succ n ih => rw [List.replicate_succ, List.flatten_cons]; exact h.app ih
theorem Let.one {l : List Nat} {k : Nat} {c : Nat} (h : Let l) (hk : l[k]? = some c) : Let [c] := fun d hd => by
  rw [List.mem_singleton.mp hd]
  exact h c (List.mem_of_getElem? hk)
theorem bit_is (b : Bool) : ∃ u : Nat, (if b = true then (1 : Int) else 0) = u ∧ u ≤ 1 := by
  cases b
  · exact ⟨0, rfl, by omega⟩
  · exact ⟨1, rfl, by omega⟩
theorem two_at {α : Type} {a b : α} {k : Nat} (h : k < 2) : [a, b][k]? = some (if k = 0 then a else b) := by
  match k, h with
  | 0, _ => rfl
  | 1, _ => rfl
theorem w_mulSN {l : List Nat} {u : Nat} {H : Hp} {Q : VK} (q : Q (.str (tx (List.replicate u l).flatten)) H) (h : u ≤ 1000000 ∧ l.length ≤ 1000000 ∧ l.length * u ≤ 16777216) : rMulU (.str (tx l)) (.int (u : Int)) H Q :=
  w_mulS (by rw [Int.toNat_natCast]; exact q) ⟨by omega, by omega, h.2.1, by rw [Int.toNat_natCast]; exact h.2.2⟩
theorem ex_get {α : Type} {l : List α} {k : Nat} (h : k < l.length) : ∃ c, l[k]? = some c := ⟨_, get_of h⟩
theorem take_rest {α : Type} (l : List α) (i : Nat) : l.take i ++ l.drop (l.take i).length = l := by
  rw [List.length_take]
  by_cases h : i ≤ l.length
  · rw [Nat.min_eq_left h, List.take_append_drop]
  · rw [Nat.min_eq_right (by omega), List.drop_length, List.append_nil, List.take_of_length_le (by omega)]
theorem Let.left {l m : List Nat} (h : Let (l ++ m)) : Let l := fun c hc => h c (List.mem_append_left m hc)
theorem Let.right {l m : List Nat} (h : Let (l ++ m)) : Let m := fun c hc => h c (List.mem_append_right l hc)
theorem w_eqStr {K : PySem.W.Frag} {H : Hp} {Q : VK} {x y : Str} (q : Q (.bl (decide (x = y))) H) : rEqU K (.str x) (.str y) H Q := .inl ⟨rfl, by
  have e : decide (V.str x = V.str y) = decide (x = y) := decide_eq_decide.mpr ⟨fun h => V.str.inj h, fun h => by rw [h]⟩
  rw [e]; exact q⟩
theorem same_box {p : Addr} {H H1 H2 : Hp} (a : Same H H1) (hp : H p = Option.none) (f : Fr p H1 H2) : Same H H2 := fun b o h => f b o (a b o h) (ne_of_none h hp)
theorem calW_of {P : Program} {w : World} {K : PySem.W.Frag} {mg : Str → Option Value} {base : Heap} {x : Str} {st : Stmt} {ps ks : List Str} {k : Nat} {sp : Sp} {g : {α : Type} → List α → List α} (D : DefAt K mg x st ps)
    (F : ∀ f fd, Fun K x x st f fd → FnG P w K mg base k f fd ps sp) (hb : ∀ f fd, Fun K x x st f fd → ∀ (s : Shared) (ws : List Value), ws.length = ks.length → BindsTo s fd ⟨[], ks.zip ws⟩ (ps.zip (g ws))) :
    CalW P w K mg base k x ps ks g sp := by
  obtain ⟨f, fd, Fn, hm, _⟩ := D.ex
  exact ⟨f, fd, F f fd Fn, hm, Fn.kp, hb f fd Fn⟩
theorem cal_of {P : Program} {w : World} {K : PySem.W.Frag} {mg : Str → Option Value} {base : Heap} {x : Str} {st : Stmt} {ps : List Str} {k : Nat} {sp : Sp} (D : DefAt K mg x st ps)
    (F : ∀ f fd, Fun K x x st f fd → FnG P w K mg base k f fd ps sp) : Cal P w K mg base k x ps sp := by
  obtain ⟨f, fd, Fn, hm, hb⟩ := D.ex
  exact ⟨f, fd, F f fd Fn, hm, Fn.kp, hb⟩
theorem rev4 {vs : List V} {us : List Value} (hn : vs.length = 4) (r : Vals vs us) : Vals vs.reverse us.reverse := by
  match vs, us, r with
  | [a, b, c, d], [a', b', c', d'], .cons r1 (.cons r2 (.cons r3 (.cons r4 .nil))) => exact .cons r4 (.cons r3 (.cons r2 (.cons r1 .nil)))
end SL
set_option Elab.async false
set_option linter.all false
set_option maxRecDepth 100000
set_option maxHeartbeats 4000000
/-! SlJ: startswith; equality of nested data. -/
namespace SL
open PySem PySem.Spec PyProof.Rows L2
theorem starts_is (l m : List Nat) : Txt.startswith (tx l) (tx m) = decide (l.take m.length = m) := by
  unfold Txt.startswith
  rw [StrLaws.subAt_eq, tx_len, tx_len]
  show (decide (0 + m.length ≤ l.length) && ((l.drop 0).take m.length == m)) = _
  rw [List.drop_zero]
  by_cases h : l.take m.length = m
  · have hl : m.length ≤ l.length := by
      have := congrArg List.length h
      rw [List.length_take] at this
      omega
    rw [decide_eq_true h, h]
    simp
    exact hl
  · rw [decide_eq_false h]
    have : (l.take m.length == m) = false := by simpa using h
    rw [this, Bool.and_false]
def rStartsU : V → List V → Hp → VK → Prop := fun x xs H Q => ∃ a b, x = .str a ∧ xs = [.str b] ∧ Q (.bl (Txt.startswith a b)) H
theorem uStarts {X : Cx} : MtR X "str.startswith" rStartsU := mt_startswith
theorem w_starts {l m : List Nat} {H : Hp} {Q : VK} (q : Q (.bl (decide (l.take m.length = m))) H) : rStartsU (.str (tx l)) [.str (tx m)] H Q := ⟨tx l, tx m, rfl, rfl, by rw [starts_is]; exact q⟩
/-- signs -/
def Sgn (l : List Nat) : Prop := ∀ c ∈ l, c < 1114112
theorem Let.sgn {l : List Nat} (h : Let l) : Sgn l := fun c hc => by
  have := mem_abc.mp (h c hc)
  omega
theorem Sgn.ok {l : List Nat} (h : Sgn l) : PyData.strOk (tx l) = true := by
  show l.toArray.all (fun c => decide (c < 0x110000)) = true
  unfold Sgn at h
  simpa using h
/-- pairs of texts -/
theorem dp_pair {K : PySem.W.Frag} {H : Hp} {p : Addr} {x y : Str} (h : SqT K H p [.str x, .str y]) : Dp K H (.ref p) (.tuple [.str x, .str y]) :=
  .tup h (.cons (.str _) (.cons (.str _) .nil))
theorem shaped_pair {x y : List Nat} (hx : Sgn x) (hy : Sgn y) : SeqAt.shaped (.tuple [.str (tx x), .str (tx y)]) = true := by
  simp [SeqAt.shaped, PyData.canLay0, PyData.canLayAll0, PyData.depth, PyData.depthAll, hx.ok, hy.ok]
theorem w_neP {K : PySem.W.Frag} {H : Hp} {Q : VK} {p q : Addr} {x y : List Nat} (h1 : SqT K H p [.str (tx x), .str (tx y)]) (h2 : SqT K H q [.str (tx x), .str (tx y)]) (hx : Sgn x) (hy : Sgn y) (k : Q (.bl false) H) : rNeU K (.ref p) (.ref q) H Q :=
  .inr ⟨_, _, dp_pair h1, dp_pair h2, shaped_pair hx hy, shaped_pair hx hy, by
    have e : PyData.eqv (.tuple [.str (tx x), .str (tx y)]) (.tuple [.str (tx x), .str (tx y)]) = true := by simp [PyData.eqv, PyData.eqvAll]
    rw [e]
    exact k⟩
theorem min_max (b : Int) (l : Nat) (hb : 2 ≤ b ∧ b ≤ 100) : ∃ n : Nat, (if (if (l : Int) < b then (l : Int) else b) > 2 then (if (l : Int) < b then (l : Int) else b) else 2) = n ∧ n ≤ 100 := by
  obtain ⟨c, rfl⟩ := Int.eq_ofNat_of_zero_le (show (0 : Int) ≤ b by omega)
  have : ∃ x : Nat, (if (l : Int) < c then (l : Int) else c) = x ∧ x ≤ 100 := by
    split
    · exact ⟨l, rfl, by omega⟩
    · exact ⟨c, rfl, by omega⟩
  obtain ⟨x, hx, hx2⟩ := this
  rw [hx]
  split
  · exact ⟨x, rfl, hx2⟩
  · exact ⟨2, rfl, by omega⟩
end SL
set_option Elab.async false
set_option linter.all false
set_option maxRecDepth 100000
set_option maxHeartbeats 4000000
/-! SlX: an own error with one field, whose class stands over an own class over Exception, and whose __init__ calls that class's own. (Turned from the worked proof of an own error.) -/
namespace PySem
namespace XIn
open PySem.W PySem.Calls PyProof.Rows PySem.HandSPX
def aI (p1 p2 : Pos) : Arguments := { posonlyargs := [], args := [{ arg := "self", annotation := none, pos := p1 }, { arg := "given", annotation := none, pos := p2 }], vararg := none, kwonlyargs := [], kw_defaults := [], kwarg := none, defaults := [] }
def bI (m : Str) (j : Nat) (q1 q2 q3 q4 q5 q6 q7 q8 q9 q10 : Pos) : List Stmt :=
  [.Expr (.Call (.Attribute (.Name "CodecError" q1) "__init__" q2) [.Name "self" q3, .Constant (.str m) j q4] [] q5) q6, .Assign [.Attribute (.Name "self" q7) "given" q8] (.Name "given" q9) q10]
def sI : Scope := { kind := .function, names := [(PySem.Str.ofString "self", .local), (PySem.Str.ofString "given", .local), (PySem.Str.ofString "CodecError", .globalImplicit)], isGenerator := false, isCoroutine := false, more := [] }
/-- what the written part says of the class at C, of the one under it at B, and of its __init__ at fI -/
structure ErrTxt (K : Frag) (mg : Str → Option Value) (x : Str) (C B fI : Addr) : Prop where
  gC : mg x = some (.ref C)
  gB : mg "CodecError" = some (.ref B)
  cls : ∃ nm q N bs sn sub ab col dd k0 k1 k2 k3 k5, K.lookup C = some (excClassObj nm q C N bs (.ref B :: ESX.exTail) true sn sub ab col dd k0 k1 k2 k3 k5 "Exception.__new__")
  sa : findIn K (.ref C) "__setattr__" = some (some (.builtin "object.__setattr__"))
  ga : findIn K (.ref C) "__getattribute__" = some (some (.builtin "BaseException.__getattribute__"))
  gg : findIn K (.ref C) "__getattr__" = some none
  noN : findIn K (.ref C) "given" = some none
  iC : findIn K (.ref C) "__init__" = some (some (.ref fI))
  tC : typeIn K (.ref fI) = some (.type "function")
  kC : keepIn K (.ref C) = true
  exC : subIn K (.ref C) (.type "BaseException") = some true
  tyC : typeIn K (.ref C) = some (.type "type")
  hdC : hasDictIn K C = true
  te : exmOne K (.ref C) (.ref C) = some true
  sp : specialIn K (.ref B) "__getattribute__" = some (some (.builtin "type.__getattribute__"))
  rd : readsIn K B (.type "type") = true
  fc : findCls K (.ref B) (.type "type") "__init__" = some (.val (.builtin "Exception.__init__"))
  fn : ∃ (oc : Value) (od : Option Addr) (doc pm : Value) (an : Option Addr) (cdv ct : Value) (osl : Array (Option Value)) (p1 p2 q1 q2 q3 q4 q5 q6 q7 q8 q9 q10 : Pos) (q m : Str) (j : Nat),
    K.lookup fI = some ⟨oc, od, .func (fnOf "__init__" q (aI p1 p2) (bI m j q1 q2 q3 q4 q5 q6 q7 q8 q9 q10) sI .none .none doc pm an cdv ct), osl⟩ ∧ codeIn K cdv q = true ∧
    ∀ env : Env, ∃ pl : Sem Bool, eval (.Call (.Attribute (.Name "CodecError" q1) "__init__" q2) [.Name "self" q3, .Constant (.str m) j q4] [] q5) env = (do
      let ov ← eval (.Name "CodecError" q1) env
      standAt q2.atName
      let (f, first) ← holding [ov] (getMethod ov "__init__" pl)
      callWith q5 f first (backTo q5 (starEach [.Name "self" q3, .Constant (.str m) j q4] env)) (backToKw q5 (keywordEach [] env)))
theorem one_fits (v : Value) : [v].length ≤ sizeLine := by
  rw [sizeLine_eq]
  exact (by decide : 1 ≤ 16777216)
theorem tail_is (B : Addr) (X : String) : (Value.ref B :: ESX.exTail).contains (.type X) = ESX.exTail.contains (.type X) := by
  rw [List.contains_cons]
  rfl
theorem in_but {K : Frag} {h h' : Heap} {x : Addr} (X : K.In h) (hx : K.lookup x = none) (k : ∀ b o, b ≠ x → h.get? b = some o → h'.get? b = some o) : K.In h' := fun a o e =>
  k a o (fun z => by rw [z, hx] at e; cases e) (X a o e)
theorem ldC {M : Model} {s : Shared} {name : Str} {scope : Scope} {L a : Addr} {cd : Value} {m : Str → Option Value} {x : Str} {pos : Pos} {v : Value} {Q : Value → Shared → Prop} {A : Around} {E : Value → Shared → Prop} (hn : s.heap.Ns L m) (hv : m x = some v) (h : Q v s)
    (hk : scope.kind = .function := by rfl) (hl : (envOfC name scope L a cd).kindOf x = some .local := by rfl) (hd : (x == ("__debug__" : Str)) = false := by decide) :
    wpAny M A (eval (.Name x pos) (envOfC name scope L a cd)) Q E s := wpAny_Name (wpAny_loadName_local hk hl hn hv h) hd
/-! self.name = v on such an exception that has no dict yet -/
section
open Builtin Builtin.ObjectAttr
theorem osa_two {prog : Program} {w : World} {A : Around} {R : Result → Shared → Prop} {hp : Heap} {g : Array GenState} {d : Drawn} {t : Nat} {os : OsState} {K : W.Frag} {name : Str} {tk : Tok} {v : Value} {x C B : Addr} {fv : Array Value} {cd : ClassData}
    (X : K.In hp) (hx : hp.get? x = some { cls := .ref C, data := .fields fv }) (hcd : W.clsIn K C = some cd) (hm : cd.mro = .ref C :: .ref B :: ESX.exTail) (hh : cd.hasDict = true) (ha : W.findIn K (.ref C) name = some none)
    (hq : ∀ h' tk' dx, (∀ b o, b ≠ x → hp.get? b = some o → h'.get? b = some o) → hp.objs.size ≤ dx → dx ≠ x → h'.get? x = some { cls := .ref C, dict := some dx, data := .fields fv } →
      h'.Ns1 dx (fun y => if y = name then some v else none) → R (.ok (.ret .none)) ⟨h', g, d, tk', os⟩) :
    codeAny (model prog w) A (.call (.builtin "object.__setattr__") ⟨[.ref x, .str name tk, v], []⟩) R ⟨hp, g, d, t, os⟩ := by
  have I : W.InstAt hp x { cls := .ref C, data := .fields fv } C none := ⟨hx, rfl, rfl, trivial⟩
  have far : x ≠ hp.objs.size := Nat.ne_of_lt (Heap.lt_size hx)
  have hob : cd.mro.contains (.type "object") = true := by
    have e : ESX.exTail.contains (.type "object") = true := by decide +kernel
    rw [hm, List.contains_cons, List.contains_cons, e]
    simp
  have ofObj : W.Looks (model prog w) hp (isInstance (.ref x) (.type "object")) true :=
    I.type.andThen (W.looks_mroIn X (by unfold W.mroIn; rw [hcd, Option.bind_some, hm, if_neg (by simp), ← hm, hob]))
  have SO := F.store_object
  refine codeAny_call_builtin SO.slot.plain SO.entry (@W.check_slot (model prog w) _ _ ⟨hp, g, d, t, os⟩ "object.__setattr__" "object" "__setattr__" (.ref x) [.str name tk, v] [] _ SO.kind SO.split ofObj (SO.args (.ref x) (.str name tk) v) ?_)
  have chain : W.Looks (model prog w) hp (mroOf (.ref C)) cd.mro := (W.looks_clsIn X hcd).andThen .now
  have noTaker : W.Looks (model prog w) hp (storeTaker? none) none := .now
  have ofC : W.Looks (model prog w) hp (classData C) cd := W.looks_clsIn X hcd
  have goes : refuseLoop (.ref x) "__setattr__" cd.mro = pure () := by
    rw [hm, refuseLoop_ref, refuseLoop_ref]
    exact F.store_Exception.passes _
  rw [W.osa_eq, refuse_eq]
  refine wpAny_bind (wpAny_bind (I.type.at (wpAny_bind (chain.at ?_))))
  rw [goes]
  refine wpAny_pure (wpAny_bind (I.type.at (wpAny_bind ((W.looks_findIn X ha).at (wpAny_bind (noTaker.at ?_))))))
  show wpAny _ _ (storeInOwnDict (.ref x) (.ref C) (.str name tk) name v false) _ _ _
  obtain ⟨nm, bs, mro, ns, qn, hd, sn, sb, ab, col, del⟩ := cd
  dsimp only at hh
  subst hh
  unfold storeInOwnDict ownDictForStores
  repeat (first | with_reducible refine HandSPX.store_in_new ?_ ?_ | with_reducible refine wpAny_loadPart_at hx ?_ | with_reducible refine ofC.at ?_ | wp_step)
  · exact ⟨_, #[], _, (Heap.get?_update_ne _ _ _ _ far.symm).trans (Heap.get?_push_at rfl rfl), rfl, fun e he => absurd he (by simp), fun _ => rfl⟩
  · intro h' tk' hn' hs
    have hx₁ : (hp.push { cls := .type "dict", data := .dict #[] }).get? x = some { cls := .ref C, data := .fields fv } := Heap.get?_push_of_some _ hx
    refine hq h' tk' hp.objs.size (fun b o hb ho => ?_) (Nat.le_refl _) far.symm ?_ hn'
    · exact (hs.2 b (Nat.ne_of_lt (Heap.lt_size ho))).trans ((Heap.get?_update_ne _ _ _ _ hb).trans (Heap.get?_push_of_some _ ho))
    · exact (hs.2 x far).trans (Heap.get?_update_self _ hx₁ rfl)
end
/-- what __init__ leaves of a fresh exception at x -/
structure InitEnd (h h' : Heap) (x C dx : Addr) (v : Value) : Prop where
  keep : ∀ b o, b ≠ x → h.get? b = some o → h'.get? b = some o
  obj : ∃ t1 : Addr, h'.get? x = some ({ cls := .ref C, dict := some dx, data := .fields #[.ref t1, .none, .none, .none, .bool false, .none] } : Obj)
  dbig : h.objs.size ≤ dx
  dne : dx ≠ x
  ns : h'.Ns1 dx (fun y => if y = "given" then some v else none)
/-- a made one -/
structure OwnMade (h h' : Heap) (e C d : Addr) (v : Value) : Prop where
  keep : ∀ b o, h.get? b = some o → h'.get? b = some o
  new : h.objs.size ≤ e
  obj : ∃ oe vs, h'.get? e = some oe ∧ oe.cls = .ref C ∧ oe.dict = some d ∧ oe.data = .fields vs ∧ vs[1]? = some .none
  dbig : h.objs.size ≤ d
  dne : d ≠ e
  ns : h'.Ns1 d (fun y => if y = "given" then some v else none)
section
variable {prog : Program} {w : World} {A : Around} {E : Value → Shared → Prop} {R : Result → Shared → Prop} {s : Shared} {K : Frag} {mg : Str → Option Value} {n : Str} {C B fI : Addr}
theorem err_init (T : ErrTxt K mg n C B fI) {x t0 : Addr} {v : Value} (X : K.In s.heap) (hG : s.heap.Ns mainGlobals mg) (hlim : s.heap.NoLimit) (hx : s.heap.get? x = some (excO C t0)) (hnx : K.lookup x = none) (hroom : A.depth < recursionLimit)
    (hq : ∀ h' tk dx, InitEnd s.heap h' x C dx v → R (.ok (.ret .none)) { s with heap := h', toks := tk }) :
    codeAny (model prog w) A (.call (.ref fI) ⟨[.ref x, v], []⟩) R s := by
  obtain ⟨oc, od, doc, pm, an, cdv, ct, osl, p1, p2, q1, q2, q3, q4, q5, q6, q7, q8, q9, q10, qn, m, j, ho, hcd, hev⟩ := T.fn
  obtain ⟨nm, q, N, bs, sn, sub, ab, col, dd, k0, k1, k2, k3, k5, hC⟩ := T.cls
  have hcl : clsIn K C = some { name := nm, bases := bs, mro := .ref C :: .ref B :: ESX.exTail, ns := N, qualname := q, hasDict := true, slotNames := sn, subclasses := sub, abstract := ab, collection := col, hasDel := false } := by unfold clsIn; rw [hC] <;> rfl
  refine Att.call_fn (binds := [("self", .ref x), ("given", v)]) X hlim ho hcd hroom (BindsTo.of_eq (by first | rfl | with_unfolding_all rfl)) (by first | rfl | decide | with_unfolding_all rfl) (fun s₁ IC => ?_) rfl rfl rfl
  obtain ⟨h₁, tk₁, rfl⟩ := IC.toInCall.same
  have k : ∀ b o, s.heap.get? b = some o → h₁.get? b = some o := IC.toInCall.keep
  have hn := IC.toInCall.ns
  have hxL : s.heap.objs.size ≠ x := Nat.ne_of_gt (Heap.lt_size hx)
  have X₁ : K.In h₁ := X.keeps k
  have hx₁ := k _ _ hx
  have z : s.heap.objs.size < h₁.objs.size := hn.lt
  show wpAny _ _ (execs _ _) _ _ _
  obtain ⟨pl, hev⟩ := hev (envOfC qn sI s.heap.objs.size fI cdv)
  refine wpAny_execs_cons (wpAny_Expr_any (methodCall_KW ?_ hev) (by first | rfl | simp [interactive]) (by first | rfl | with_unfolding_all rfl))
  refine Name_function_global rfl (by first | rfl | with_unfolding_all rfl | kernel_rfl) (loadGlobal_global (mg := mg) (hG.keeps k) T.gB ?_)
  refine method_cls X₁ T.sp (cls_value X₁ T.rd T.fc (by decide +kernel) ?_)
  refine callWith_method1 (args_cons (ldC (v := .ref x) hn (by first | rfl | with_unfolding_all rfl | kernel_rfl) (args_cons (Constant_str (args_nil ?_)))))
  refine wpAny_call (init_base F.excBase_Exception (tail_is B) (X₁ _ _ hC) hx₁ (one_fits _) fun h₂ t₂ k₂ hx₂ => ?_)
  have X₂ : K.In h₂ := in_but X₁ hnx k₂
  have hn₂ := hn.at fun o q => k₂ _ o hxL q
  refine wpAny_execs_cons (plainObj_wpAny_Assign_Attribute ?_)
  refine ldC (v := v) hn₂ (by first | rfl | with_unfolding_all rfl | kernel_rfl) (ldC (v := .ref x) hn₂ (by first | rfl | with_unfolding_all rfl | kernel_rfl) ?_)
  refine set_plain X₂ (ox := excO C t₂) (od := none) ⟨hx₂, rfl, rfl, trivial⟩ T.sa ?_
  refine osa_two X₂ hx₂ hcl rfl rfl T.noN (fun h₃ tk₃ dx k₃ dn dne hx₃ hn₃ => ?_)
  show wpAny _ _ (execs _ _) _ _ _
  have z2 : s.heap.objs.size < h₂.objs.size := hn₂.lt
  exact wpAny_execs_nil (hq h₃ tk₃ dx ⟨fun b o hb e => k₃ b o hb (k₂ b o hb (k b o e)), ⟨_, hx₃⟩, Nat.le_of_lt (Nat.lt_of_lt_of_le z2 dn), dne, hn₃⟩)
theorem err_made (T : ErrTxt K mg n C B fI) {v : Value} (X : K.In s.heap) (hG : s.heap.Ns mainGlobals mg) (hlim : s.heap.NoLimit) (hroom : A.depth + 1 < recursionLimit)
    (hq : ∀ h' tk e d, OwnMade s.heap h' e C d v → R (.ok (.ret (.ref e))) { s with heap := h', toks := tk }) :
    codeAny (model prog w) A (.call (.ref C) ⟨[v], []⟩) R s := by
  obtain ⟨nm, q, N, bs, sn, sub, ab, col, dd, k0, k1, k2, k3, k5, hC⟩ := T.cls
  obtain ⟨hp, g, dr, tk, os⟩ := s
  have k : ∀ b o, hp.get? b = some o → ((hp.push (kdv_tup [v])).push (excO C hp.objs.size)).get? b = some o := fun b o e => Heap.get?_push_of_some _ (Heap.get?_push_of_some _ e)
  have hget : ((hp.push (kdv_tup [v])).push (excO C hp.objs.size)).get? (hp.objs.size + 1) = some (excO C hp.objs.size) := by heap_get
  have hnx : K.lookup (hp.objs.size + 1) = none := by
    cases e : K.lookup (hp.objs.size + 1) with
    | none => rfl
    | some o =>
      have z : hp.get? (hp.objs.size + 1) = some o := X _ _ e
      exact absurd (Nat.lt_of_succ_lt (Heap.lt_size z)) (Nat.lt_irrefl _)
  refine call_own F.excBase_Exception (tail_is B) (X _ _ hC) (looks_findIn X T.iC) (fun self => bind_fn X self T.tC) (one_fits v) ?_
  refine err_init (s := ⟨(hp.push (kdv_tup [v])).push (excO C hp.objs.size), g, dr, tk, os⟩) T (X.keeps k) (hG.keeps k) (hlim.keeps k) hget hnx ?_ fun h' tk' dx ⟨k', ⟨t1, hx⟩, dn, dne, hns⟩ => ?_
  · show A.depth + 1 < recursionLimit
    exact hroom
  · have old : ∀ b o, hp.get? b = some o → h'.get? b = some o := fun b o e => k' b o (Nat.ne_of_lt (Nat.lt_succ_of_lt (Heap.lt_size e))) (k b o e)
    have z : hp.objs.size + 1 + 1 ≤ dx := by
      first
        | (simpa only [Heap.size_push] using dn)
        | exact dn
        | (have q := dn; rw [Heap.size_push, Heap.size_push] at q; exact q)
    exact ⟨rfl, hq h' tk' (hp.objs.size + 1) dx ⟨old, Nat.le_succ _, ⟨_, _, hx, rfl, rfl, rfl, rfl⟩, Nat.le_trans (Nat.le_trans (Nat.le_succ _) (Nat.le_succ _)) z, dne, hns⟩⟩
end
end XIn
end PySem

namespace SL
open PySem PySem.Spec PyProof.Rows L2
/-- the exception's own dict -/
abbrev xdG (v : V) : HO := .xd [(("given" : Str), v)]
theorem relO_given {v : V} {u : Value} (r : RelV v u) (f : Str) : RelO (List.lookup f [(("given" : Str), v)]) (if f = "given" then some u else none) := by
  by_cases hw : f = "given"
  · subst hw
    rw [if_pos rfl]
    have q : List.lookup ("given" : Str) [(("given" : Str), v)] = some v := by simp [List.lookup]
    rw [q]
    exact r
  · rw [if_neg hw]
    have qw : (f == ("given" : Str)) = false := by simpa using hw
    have q2 : List.lookup f [(("given" : Str), v)] = none := by simp [List.lookup, qw]
    rw [q2]
    trivial
/-- X(e): the made error -/
def tMkE (C : Addr) (ta : TA) : SSt → Hp → XK → Prop := fun σ H Q => ta σ H fun vs H1 => ∃ v, vs = [v] ∧ ∀ d, H1 d = none → Q (.ref C) (some d) (upd H1 d (xdG v))
theorem pmk_err {X : Cx} {C B fI : Addr} {x : Str} {a : Expr} {ta : TA} {p pos : Pos} {k : Nat} (T : PySem.XIn.ErrTxt X.K X.mg x C B fI) (hr : Room (k + 1) X.A) (ha : PA X [a] ta) (hg : Gl X x) (hdb : (x == ("__debug__" : Str)) = false := by decide)
    (he : starEach (a :: []) X.env = (false, eval a X.env) :: starEach [] X.env := by rfl) (hpl : (backTo pos (starEach [] X.env)).any (·.1) = false := by rfl) :
    PMk X (.Call (.Name x p) [a] [] pos) (tMkE C ta) := by
  intro pins s σ H Q I h
  refine wpAny_Call_Name_kw (ld_glob I hg T.gC ?_ hdb)
  refine PySem.W.callWith_K (h₀ := X.base) I.ok.mod.kin T.kC (thn (ha.run pos pins s σ H _ I h) fun us s1 hh => ?_) he hpl
  obtain ⟨vs, H1, I1, r1, v, ev, q1⟩ := hh
  subst ev
  refine ⟨I1.kIn, ?_⟩
  cases r1 with
  | cons rv rn =>
    rename_i v' us'
    cases rn
    show wpAny _ _ (call (.ref C) [v']) _ _ _
    have hlim := I1.nolimit
    have hG := I1.ok.mod.glob.keeps I1.bk
    obtain ⟨hp, g, dr, tk, os⟩ := s1
    refine wpAny_call (PySem.XIn.err_made T I1.kIn hG hlim (by have := hr.dp; omega) fun h' tk' e d M => ?_)
    show MkP X pins σ Q (.ref e) ⟨h', g, dr, tk', os⟩
    obtain ⟨oe, fv, hoe, hc, hd, hdat, h1⟩ := M.obj
    have hns := M.ns
    obtain ⟨G', g1, g2⟩ := restrict h' fun b => decide (b ≠ e)
    have gk : ∀ b, b ≠ e → G'.get? b = h'.get? b := fun b hb => g1 b (decide_eq_true hb)
    have ge : G'.get? e = none := g2 e (by simp)
    have old : ∀ b o, hp.get? b = some o → G'.get? b = some o := fun b o q => (gk b (Nat.ne_of_lt (Nat.lt_of_lt_of_le (Heap.lt_size q) M.new))).trans (M.keep b o q)
    have ob : ObjOk X.prog X.w (upd H1 d (xdG v)) G' d (xdG v) := ⟨_, hns.at (fun o q => (gk d M.dne).trans q), fun f => relO_given rv f⟩
    have J : Inv X pins σ (upd H1 d (xdG v)) ⟨G', g, dr, tk', os⟩ := I1.laid (t' := tk') old M.dbig ob
    refine ⟨e, oe, fv, ⟨G', g, dr, tk', os⟩, _, .ref C, some d, rfl, J, fun b o q => ?_, ge, hoe, ⟨hc, hd⟩, hdat, h1, ?_, rfl, I1.bare, raises_own T.exC T.tyC, q1 d (I1.hok.fresh M.dbig)⟩
    · by_cases hb : b = e
      · have q' : G'.get? b = some o := q
        rw [hb, ge] at q'; cases q'
      · exact (gk b hb).symm.trans q
    · rw [upd_ne (Ne.symm M.dne)]
      exact I1.hok.fresh M.new
/-- raise X(e) -/
def tRz (C : Addr) (W : WX) (ta : TA) : TS := fun _ σ H => ta σ H fun vs H1 => ∃ v, vs = [v] ∧ ∀ d, H1 d = none → W (.ref C) (some d) σ (upd H1 d (xdG v))
theorem ps_rz {X : Cx} {C B fI : Addr} {x : Str} {a : Expr} {ta : TA} {W : WX} {p pos pos2 : Pos} {k : Nat} (hc : X.calm = true) (tk : Takes X W) (T : PySem.XIn.ErrTxt X.K X.mg x C B fI) (hr : Room (k + 1) X.A) (hg : Gl X x) (ha : PA X [a] ta) (hdb : (x == ("__debug__" : Str)) = false := by decide)
    (he : starEach (a :: []) X.env = (false, eval a X.env) :: starEach [] X.env := by rfl) (hpl : (backTo pos (starEach [] X.env)).any (·.1) = false := by rfl) :
    PS X (.Raise (some (.Call (.Name x p) [a] [] pos)) none pos2) (tRz C W ta) := ps_raise hc tk (pmk_err T hr ha hg hdb he hpl)
theorem w_rz {C : Addr} {W : WX} {ta : TA} {D : Ends} {σ : SSt} {H : Hp} (q : ta σ H fun vs H1 => ∃ v, vs = [v] ∧ ∀ d, H1 d = none → W (.ref C) (some d) σ (upd H1 d (xdG v))) : tRz C W ta D σ H := q
theorem w_one {Q : V → Prop} {v : V} (q : Q v) : ∃ x, [v] = [x] ∧ Q x := ⟨v, rfl, q⟩
theorem xf_of {K : PySem.W.Frag} {mg : Str → Option Value} {x : Str} {C B fI : Addr} (T : PySem.XIn.ErrTxt K mg x C B fI) : XfC K C := ⟨T.ga, T.gg, T.exC, T.hdC⟩
/-- try: body, except X as n: suite -/
def tTryA (K : PySem.W.Frag) (c : Value) (i : Nat) (ts : Addr → Value → Option Addr → TS) (Wout : WX) (tb : WX → TS) : TS := fun D σ H => tb (wAs K c i ts Wout D) D σ H
theorem ps_tryA (K : PySem.W.Frag) {X : Cx} {x n : Str} {c : Value} {i : Nat} {body suite : List Stmt} {b₀ : Stmt} {np pos pos' : Pos} {tb : WX → TS} {ts : Addr → Value → Option Addr → TS} {Wout : WX} (hK : X.K = K)
    (hs : X.stack = X.env :: X.outer) (hf : X.env.frame = some X.env.locals) (hN : X.N.Nodup) (hi : X.N[i]? = some n) (hln : X.env.kindOf n = some .local) (hc : Names X x c) (tk : Takes X Wout)
    (hb : ∀ (W : WX) (pn : List (Addr × Obj)) (xe : Value → Shared → Prop), Takes (X.tr pn xe) W → PassesOwn (model X.prog X.w) X.A X.env xe → PSs (X.tr pn xe) body (tb W))
    (hsu : ∀ (a : Addr) (oe : Obj) (cls : Value) (d : Option Addr) (pn : List (Addr × Obj)), Zc cls d oe → (∃ vs, oe.data = .fields vs) → PSs (X.suite a ((a, oe) :: pn)) (b₀ :: suite) (ts a cls d)) :
    PS X (.Try body [.ExceptHandler (some (.Name x np)) (some n) (b₀ :: suite) pos'] [] [] pos) (tTryA K c i ts Wout tb) := hK ▸ ps_try_as hs hf hN hi hln hc tk hb hsu
theorem w_tryA {K : PySem.W.Frag} {c : Value} {i : Nat} {ts : Addr → Value → Option Addr → TS} {Wout : WX} {tb : WX → TS} {D : Ends} {σ : SSt} {H : Hp} (q : tb (wAs K c i ts Wout D) D σ H) : tTryA K c i ts Wout tb D σ H := q
/-- the clause takes it -/
theorem wAs_of {K : PySem.W.Frag} {c cls : Value} {i : Nat} {ts : Addr → Value → Option Addr → TS} {Wout : WX} {D : Ends} {d : Option Addr} {σ : SSt} {H : Hp} (h : PySem.W.exmOne K cls c = some true)
    (q : ∀ a, H a = none → ts a cls d { nx := fun σ' H' => D.nx (σ'.set i none) H', rt := D.rt, bk := fun σ' H' => D.bk (σ'.set i none) H', ct := fun σ' H' => D.ct (σ'.set i none) H' } (σ.set i (some (.ref a))) H) : wAs K c i ts Wout D cls d σ H :=
  ⟨true, h, fun _ => q, fun h => nomatch h⟩
/-- e.given in the suite, e the caught error at a -/
def tGiv (C a : Addr) (cls : Value) (d : Option Addr) (i : Nat) : TE := fun σ H Q => σ[i]? = some (some (.ref a)) ∧ cls = .ref C ∧ ∃ (b : Addr) (v : V), d = some b ∧ H b = some (xdG v) ∧ Q v H
theorem pe_giv {X : Cx} {x : Str} {a C B fI : Addr} {oe : Obj} {cls : Value} {d : Option Addr} {pn : List (Addr × Obj)} {e : Expr} {i : Nat} {pos : Pos} (T : PySem.XIn.ErrTxt X.K X.mg x C B fI)
    (hz : Zc cls d oe) (hf : ∃ vs, oe.data = .fields vs) (he : PE (X.suite a ((a, oe) :: pn)) e (tVar i)) (hb : attributeBase e "given" X.env (eval e X.env) = eval e X.env := by rfl) :
    PE (X.suite a ((a, oe) :: pn)) (.Attribute e "given" pos) (tGiv C a cls d i) := by
  refine ⟨fun pins s σ H Q I h => (pe_xf (xf_of T) T.noN hz hf he hb).run pins s σ H Q I ?_⟩
  obtain ⟨h1, h2, b, v, h3, h4, q⟩ := h
  exact ⟨.ref a, h1, rfl, h2, b, _, v, h3, h4, by simp [List.lookup], q⟩
theorem w_giv {C a d : Addr} {i : Nat} {σ : SSt} {H : Hp} {Q : VK} {v : V} (h : σ[i]? = some (some (.ref a))) (hd : H d = some (xdG v)) (q : Q v H) : tGiv C a (.ref C) (some d) i σ H Q := ⟨h, rfl, d, v, rfl, hd, q⟩
theorem noXt {X : Cx} : ∀ σ, PassesAt (L2.CX X.prog X.w) X σ (E0s σ) := noX
/-- what a def lets out is its own wish -/
theorem tk_def {P : Program} {w : World} {K : PySem.W.Frag} {mg : Str → Option Value} {base : Heap} {N : List Str} {q : Str} {sc : Scope} {f : Addr} {cd : Value} {A : Around} {outer : List Env} {s : Shared} {H : Hp} {E : XK} :
    Takes (cxOf (L2.CX P w) P w K mg base N q sc f cd A outer s H E) (fun cls d _ H => E cls d H) := takes_of rfl rfl rfl rfl
theorem po_def {P : Program} {w : World} {K : PySem.W.Frag} {mg : Str → Option Value} {base : Heap} {N : List Str} {q : Str} {sc : Scope} {f : Addr} {cd : Value} {A : Around} {outer : List Env} {s : Shared} {H : Hp} {E : XK} :
    PassesOwn (model P w) (cxOf (L2.CX P w) P w K mg base N q sc f cd A outer s H E).A (cxOf (L2.CX P w) P w K mg base N q sc f cd A outer s H E).env (cxOf (L2.CX P w) P w K mg base N q sc f cd A outer s H E).xe := passes_of rfl
/-- how a class of errors is named -/
theorem names_err {X : Cx} {x : Str} {C B fI : Addr} (T : PySem.XIn.ErrTxt X.K X.mg x C B fI) (hg : Gl X x) (hdb : (x == ("__debug__" : Str)) = false := by decide) : Names X x (.ref C) := ⟨hg, hdb, .inl T.gC⟩
end SL
set_option Elab.async false
set_option linter.all false
set_option maxRecDepth 100000
set_option maxHeartbeats 4000000
/-! SlR: repr of data: nested lists and tuples of None, bools, ints and texts; an empty dict. -/
namespace SL
open PySem PySem.Spec PyProof.Rows L2
/-- may be written out -/
def ShowOk (d : PyData) : Prop := d.showable = true ∧ d.hasDict = false ∧ d.depth ≤ 60 ∧ d.shown.length ≤ 16777216
def rReprD (K : PySem.W.Frag) : List V → Hp → VK → Prop := fun xs H Q => ∃ x, xs = [x] ∧ ((∃ d, Dp K H x d ∧ ShowOk d ∧ Q (.str d.shown) H) ∨ (∃ a, x = .ref a ∧ H a = some (.dK []) ∧ Q (.str (PyData.dict []).shown) H))
theorem uReprD {X : Cx} {k : Nat} (hr : Room k X.A) (hg : X.A.guards = some []) : CallR X (.builtin "repr") (rReprD X.K) := by
  intro pins s σ H xs us Q I r h
  obtain ⟨x, rfl, h⟩ := h
  obtain ⟨u, rfl, ru⟩ := vals1 r
  have hu := hr.units
  have fin : ∀ {d : PyData} {as : List Addr} {a : Addr}, u = .ref a → Reads s.heap u d as → d.showable = true → (d.hasDict = true → sysModules ∉ as) → d.depth ≤ 60 → d.shown.length ≤ 16777216 → Q (.str d.shown) H →
      wpAny (model X.prog X.w) X.A (call (.builtin "repr") [u]) (EP X pins σ Q) X.xe s := by
    intro d as a e rd sh hs hd hz q
    subst e
    refine repr_of_reads' rd sh hs hg (by omega) (fun _ _ e => e) (fun h' t tk k => ⟨.str d.shown, H, I.kept k, ⟨_, rfl⟩, q⟩) (by rw [sizeLine_eq]; exact hz)
  rcases h with ⟨d, hd, ⟨s1, s2, s3, s4⟩, q⟩ | ⟨a, rfl, ha, q⟩
  · cases hd with
    | non =>
      cases (show u = Value.none from ru)
      exact PySem.P.repr_of_none ⟨.str _, H, I.tok _, ⟨_, rfl⟩, q⟩
    | bl b =>
      cases (show u = Value.bool b from ru)
      refine PySem.P.repr_of_bool ⟨.str _, H, I.tok _, ⟨_, rfl⟩, ?_⟩
      first | exact q | (cases b <;> exact q)
    | int i =>
      obtain ⟨t, rfl⟩ := ru
      refine PySem.P.repr_of_int (by simpa [PyData.showable] using s1) ⟨.str _, H, I.tok _, ⟨_, rfl⟩, q⟩
    | str y =>
      obtain ⟨t, rfl⟩ := ru
      exact PySem.P.repr_of_str ⟨.str _, H, I.tok _, ⟨_, rfl⟩, q⟩ (by rw [sizeLine_eq]; exact s4)
    | lst h1 h2 =>
      obtain ⟨as, rd⟩ := Dp.reads I _ _ u (.lst h1 h2) ru
      exact fin (show u = Value.ref _ from ru) rd s1 (fun z => by rw [s2] at z; cases z) s3 s4 q
    | tup h1 h2 =>
      obtain ⟨as, rd⟩ := Dp.reads I _ _ u (.tup h1 h2) ru
      exact fin (show u = Value.ref _ from ru) rd s1 (fun z => by rw [s2] at z; cases z) s3 s4 q
  · obtain ⟨_, ns, vs, kv, o, es, ep, e1, ⟨e2, e3, _, e4, _⟩⟩ := (show ObjOk X.prog X.w H s.heap a (.dK []) from I.hok a _ ha)
    have hvs : vs = [] := by
      cases kv
      rfl
    subst hvs
    have hes : es.toList = [] := by
      have := e4
      unfold Pairs at this
      cases h : es.toList with
      | nil => rfl
      | cons x r => rw [h] at this; cases this
    have rd : Reads s.heap u (.dict []) ([a] ++ []) := by
      rw [show u = Value.ref a from ru]
      have hd : Reads s.heap (.ref a) (.dict []) (a :: [] ++ []) := Reads.dict e1 (by first | exact e2.1 | exact e2.cls | exact e2) e3 (by rw [hes]; exact .nil) (by rw [hes]; exact .nil)
      exact hd
    refine fin (d := .dict []) (show u = Value.ref a from ru) rd (by rfl) (fun _ hm => ?_) (by decide) (by decide) q
    rw [List.append_nil, List.mem_singleton] at hm
    rw [← hm] at ns
    simp at ns
theorem kReprD (K : PySem.W.Frag) {X : Cx} {k : Nat} (h : X.K = K) (hr : Room k X.A) (hg : X.A.guards = some []) : CallR X (.builtin "repr") (rReprD K) := h ▸ uReprD hr hg
/-- a value that can be written out, and what is written -/
def Shown (K : PySem.W.Frag) (H : Hp) (v : V) (t : Str) : Prop := (∃ d, Dp K H v d ∧ ShowOk d ∧ t = d.shown) ∨ (∃ a, v = .ref a ∧ H a = some (.dK []) ∧ t = (PyData.dict []).shown)
theorem w_reprD {K : PySem.W.Frag} {H : Hp} {Q : VK} {v : V} {t : Str} (h : Shown K H v t) (q : Q (.str t) H) : rReprD K [v] H Q := by
  rcases h with ⟨d, h1, h2, rfl⟩ | ⟨a, h1, h2, rfl⟩
  · exact ⟨v, rfl, .inl ⟨d, h1, h2, q⟩⟩
  · exact ⟨v, rfl, .inr ⟨a, h1, h2, q⟩⟩
/-! errors by their names -/
def errAt (mg : Str → Option Value) (x : Str) : Addr := match mg x with | some (.ref C) => C | _ => 0
def ErrAt (K : PySem.W.Frag) (mg : Str → Option Value) (x : Str) : Prop := ∃ B fI, PySem.XIn.ErrTxt K mg x (errAt mg x) B fI
theorem ErrAt.of {K : PySem.W.Frag} {mg : Str → Option Value} {x : Str} {C B fI : Addr} (T : PySem.XIn.ErrTxt K mg x C B fI) : ErrAt K mg x := by
  have e : errAt mg x = C := by unfold errAt; rw [T.gC]
  exact ⟨B, fI, e.symm ▸ T⟩
theorem ErrAt.te {K : PySem.W.Frag} {mg : Str → Option Value} {x : Str} (T : ErrAt K mg x) : PySem.W.exmOne K (.ref (errAt mg x)) (.ref (errAt mg x)) = some true := by
  obtain ⟨B, fI, T⟩ := T
  exact T.te
theorem ps_rzA (mg : Str → Option Value) {X : Cx} {x : Str} {a : Expr} {ta : TA} {W : WX} {p pos pos2 : Pos} {k : Nat} (T : ErrAt X.K X.mg x) (hm : X.mg = mg) (hc : X.calm = true) (tk : Takes X W) (hr : Room (k + 1) X.A) (hg : Gl X x) (ha : PA X [a] ta) (hdb : (x == ("__debug__" : Str)) = false := by decide)
    (he : starEach (a :: []) X.env = (false, eval a X.env) :: starEach [] X.env := by rfl) (hpl : (backTo pos (starEach [] X.env)).any (·.1) = false := by rfl) :
    PS X (.Raise (some (.Call (.Name x p) [a] [] pos)) none pos2) (tRz (errAt mg x) W ta) := by
  subst hm
  obtain ⟨B, fI, T⟩ := T
  exact ps_rz hc tk T hr hg ha hdb he hpl
theorem pe_givA (mg : Str → Option Value) {X : Cx} {x : Str} {a : Addr} {oe : Obj} {cls : Value} {d : Option Addr} {pn : List (Addr × Obj)} {e : Expr} {i : Nat} {pos : Pos} (T : ErrAt X.K X.mg x) (hm : X.mg = mg)
    (hz : Zc cls d oe) (hf : ∃ vs, oe.data = .fields vs) (he : PE (X.suite a ((a, oe) :: pn)) e (tVar i)) (hb : attributeBase e "given" X.env (eval e X.env) = eval e X.env := by rfl) :
    PE (X.suite a ((a, oe) :: pn)) (.Attribute e "given" pos) (tGiv (errAt mg x) a cls d i) := by
  subst hm
  obtain ⟨B, fI, T⟩ := T
  exact pe_giv T hz hf he hb
theorem names_errA (mg : Str → Option Value) {X : Cx} {x : Str} (T : ErrAt X.K X.mg x) (hm : X.mg = mg) (hg : Gl X x) (hdb : (x == ("__debug__" : Str)) = false := by decide) : Names X x (.ref (errAt mg x)) := by
  subst hm
  obtain ⟨B, fI, T⟩ := T
  exact names_err T hg hdb
end SL
namespace SL
/-- an error of a class is what the clause of this class takes (the worked proof's row) -/
theorem exm_self {K : PySem.W.Frag} {S : PySem.Addr} (h1 : PySem.W.subIn K (.ref S) (.type "BaseException") = some true) (h2 : PySem.W.isClsIn K S = true) (h3 : PySem.W.typeIn K (.ref S) = some (.type "type")) (h4 : PySem.W.subIn K (.ref S) (.ref S) = some true) :
    PySem.W.exmOne K (.ref S) (.ref S) = some true := by
  have e1 : (PySem.W.subIn K (.ref S) (.type "BaseException") == some true) = true := by rw [h1] <;> rfl
  have e2 : ((PySem.W.clsIn K S).isSome && PySem.W.typeIn K (.ref S) == some (.type "type")) = true := by
    have h2' : (PySem.W.clsIn K S).isSome = true := h2
    rw [h2', h3] <;> rfl
  show (if (PySem.W.subIn K (.ref S) (.type "BaseException") == some true) = true then (if ((PySem.W.clsIn K S).isSome && PySem.W.typeIn K (.ref S) == some (.type "type")) = true then PySem.W.subIn K (.ref S) (.ref S) else none) else none) = some true
  rw [if_pos e1, if_pos e2]
  exact h4
end SL
set_option Elab.async false
set_option linter.all false
set_option maxRecDepth 100000
set_option maxHeartbeats 4000000
/-! SlS: values of any kind, as texts and lags are asked of them. -/
namespace SL
open PySem PySem.Spec PyProof.Rows L2
/-- the names of the kinds of values -/
def Kind (t : String) : Prop := t = "int" ∨ t = "bool" ∨ t = "NoneType" ∨ t = "list" ∨ t = "tuple" ∨ t = "dict" ∨ t = "str"
def KindX (t : String) : Prop := t = "int" ∨ t = "bool" ∨ t = "str" ∨ t = "list" ∨ t = "tuple"
theorem kit_kind {K : PySem.W.Frag} {t n : String} (ht : Kind t) (hn : KindX n) : PySem.W.kitOne K (.type t) (.type n) = some (t == n || (t == "bool" && n == "int")) := by
  rcases ht with rfl | rfl | rfl | rfl | rfl | rfl | rfl <;> rcases hn with rfl | rfl | rfl | rfl | rfl <;> exact kit_ty (by decide +kernel)
theorem w_isiK {K : PySem.W.Frag} {H : Hp} {Q : VK} {v : V} {t n : String} (h : TyX K H v (.type t)) (ht : Kind t) (hn : KindX n) (q : Q (.bl (t == n || (t == "bool" && n == "int"))) H) : rIsi K [v, .ty n] H Q :=
  ⟨v, _, .type t, .type n, _, rfl, .ty n, h, kit_kind ht hn, q⟩
/-- how the kind stays -/
theorem tyx_mono {K : PySem.W.Frag} {H H' : Hp} {v : V} {t : Value} (s : Same H H') (h : TyX K H v t) : TyX K H' v t := by
  cases h with
  | base b => cases b with
    | non => exact .base .non
    | bl b => exact .base (.bl b)
    | int i => exact .base (.int i)
    | str x => exact .base (.str x)
    | flt x => exact .base (.flt x)
    | lst e => exact .base (.lst (s _ _ e))
    | tup e => exact .base (.tup (s _ _ e))
    | frz e => exact .base (.frz (s _ _ e))
    | dK e => exact .base (.dK (s _ _ e))
    | dT e => exact .base (.dT (s _ _ e))
    | ins e cl ha hn htk hm => exact .base (.ins (s _ _ e) cl ha hn htk hm)
  | byt b => exact .byt b
  | set e => exact .set (s _ _ e)
  | kList e c => exact .kList e c
  | kTuple e c => exact .kTuple e c
  | kDict e c => exact .kDict e c
  | fTuple e => exact .fTuple (s _ _ e)
  | fDict e => exact .fDict (s _ _ e)
/-- what is_text answers of v -/
def IsTx (K : PySem.W.Frag) (H : Hp) (v : V) (b : Bool) : Prop := (∃ l, v = .str (tx l) ∧ l.length ≤ 100000 ∧ b = decide (Let l)) ∨ (b = false ∧ ∃ t, TyX K H v (.type t) ∧ Kind t ∧ t ≠ "str")
theorem IsTx.mono {K : PySem.W.Frag} {H H' : Hp} {v : V} {b : Bool} (s : Same H H') (h : IsTx K H v b) : IsTx K H' v b := by
  rcases h with h | ⟨h1, t, h2, h3⟩
  · exact .inl h
  · exact .inr ⟨h1, t, tyx_mono s h2, h3⟩
/-- what is_lag answers of v -/
def IsLg (K : PySem.W.Frag) (H : Hp) (v : V) (b : Bool) : Prop := (b = false ∧ ∃ t, TyX K H v (.type t) ∧ Kind t ∧ t ≠ "tuple") ∨
  (∃ p xs, v = .ref p ∧ H p = some (.tup xs) ∧ ((b = false ∧ xs.length ≠ 2) ∨ (∃ x y, xs = [x, y] ∧ b = false ∧ IsTx K H x false) ∨ (∃ l y, xs = [.str (tx l), y] ∧ b = false ∧ l.length ≤ 100000 ∧ Let l ∧ IsTx K H y false) ∨
    (∃ l m, xs = [.str (tx l), .str (tx m)] ∧ l.length ≤ 100000 ∧ m.length ≤ 100000 ∧ Let l ∧ Let m ∧ b = decide (l = [] ∨ m = []))))
theorem IsLg.mono {K : PySem.W.Frag} {H H' : Hp} {v : V} {b : Bool} (s : Same H H') (h : IsLg K H v b) : IsLg K H' v b := by
  rcases h with ⟨h1, t, h2, h3⟩ | ⟨p, xs, h1, h2, h3⟩
  · exact .inl ⟨h1, t, tyx_mono s h2, h3⟩
  · refine .inr ⟨p, xs, h1, s _ _ h2, ?_⟩
    rcases h3 with h3 | ⟨x, y, e, hb, hx⟩ | ⟨l, y, e, hb, z, hl, hy⟩ | h3
    · exact .inl h3
    · exact .inr (.inl ⟨x, y, e, hb, hx.mono s⟩)
    · exact .inr (.inr (.inl ⟨l, y, e, hb, z, hl, hy.mono s⟩))
    · exact .inr (.inr (.inr h3))
/-- a small lag -/
def IsSmall (K : PySem.W.Frag) (H : Hp) (v : V) (x y : List Nat) : Prop := ∃ p, v = .ref p ∧ H p = some (.tup [.str (tx x), .str (tx y)]) ∧ x.length ≤ 10000 ∧ y.length ≤ 10000 ∧ Let x ∧ Let y
theorem in_pair2 {x y : List Nat} : inV (V.str (tx [])) [V.str (tx x), V.str (tx y)] = decide (x = [] ∨ y = []) := by
  by_cases h : x = [] ∨ y = []
  · rw [in_pair h, decide_eq_true h]
  · rw [decide_eq_false h]
    have e : ∀ z : List Nat, z ≠ [] → eqV (V.str (tx z)) (V.str (tx [])) = false := fun z hz => by
      cases z with
      | nil => exact absurd rfl hz
      | cons a r => first | rfl | simp [eqV] | (simp [eqV, tx])
    have h1 : x ≠ [] := fun z => h (.inl z)
    have h2 : y ≠ [] := fun z => h (.inr z)
    simp [inV, e x h1, e y h2]
end SL
set_option Elab.async false
set_option linter.all false
set_option maxRecDepth 100000
set_option maxHeartbeats 4000000
/-! SlV: data that a heap holds, read as plain data. -/
namespace SL
open PySem PySem.Spec PyProof.Rows L2
mutual
inductive Dv (H : Hp) : V → PyData → Prop
  | non : Dv H .non .none
  | bl (b : Bool) : Dv H (.bl b) (.bool b)
  | int (i : Int) : Dv H (.int i) (.int i)
  | str (l : List Nat) : Dv H (.str (tx l)) (.str (tx l))
  | lst {a : Addr} {xs : List V} {ds : List PyData} : H a = some (.lst xs) → DvAll H xs ds → Dv H (.ref a) (.list ds)
  | tup {a : Addr} {xs : List V} {ds : List PyData} : H a = some (.tup xs) → DvAll H xs ds → Dv H (.ref a) (.tuple ds)
  | emp {a : Addr} : H a = some (.dK []) → Dv H (.ref a) (.dict [])
inductive DvAll (H : Hp) : List V → List PyData → Prop
  | nil : DvAll H [] []
  | cons {v : V} {vs : List V} {d : PyData} {ds : List PyData} : Dv H v d → DvAll H vs ds → DvAll H (v :: vs) (d :: ds)
end
mutual
theorem Dv.mono {H H' : Hp} (s : Same H H') : ∀ (d : PyData) (v : V), Dv H v d → Dv H' v d
  | .none, _, h => by cases h; exact .non
  | .bool b, _, h => by cases h; exact .bl b
  | .int i, _, h => by cases h; exact .int i
  | .str x, _, h => by
    cases h
    exact .str _
  | .list ds, _, h => by
    cases h with
    | lst h1 h2 => exact .lst (s _ _ h1) (DvAll.mono s ds _ h2)
  | .tuple ds, _, h => by
    cases h with
    | tup h1 h2 => exact .tup (s _ _ h1) (DvAll.mono s ds _ h2)
  | .dict ks, _, h => by
    cases h with
    | emp h1 => exact .emp (s _ _ h1)
theorem DvAll.mono {H H' : Hp} (s : Same H H') : ∀ (ds : List PyData) (vs : List V), DvAll H vs ds → DvAll H' vs ds
  | [], _, h => by cases h; exact .nil
  | d :: ds, _, h => by
    cases h with
    | cons h1 h2 => exact .cons (Dv.mono s d _ h1) (DvAll.mono s ds _ h2)
end
mutual
theorem Dv.dp {K : PySem.W.Frag} {H : Hp} : ∀ (d : PyData) (v : V), Dv H v d → d.hasDict = false → Dp K H v d
  | .none, _, h, _ => by cases h; exact .non
  | .bool b, _, h, _ => by cases h; exact .bl b
  | .int i, _, h, _ => by cases h; exact .int i
  | .str x, _, h, _ => by
    cases h
    exact .str _
  | .list ds, _, h, z => by
    cases h with
    | lst h1 h2 => exact .lst (SqL.of h1) (DvAll.dp ds _ h2 (by simpa [PyData.hasDict] using z))
  | .tuple ds, _, h, z => by
    cases h with
    | tup h1 h2 => exact .tup (SqT.of h1) (DvAll.dp ds _ h2 (by simpa [PyData.hasDict] using z))
  | .dict ks, _, _, z => by simp [PyData.hasDict] at z
theorem DvAll.dp {K : PySem.W.Frag} {H : Hp} : ∀ (ds : List PyData) (vs : List V), DvAll H vs ds → PyData.hasDictAll ds = false → DpAll K H vs ds
  | [], _, h, _ => by cases h; exact .nil
  | d :: ds, _, h, z => by
    cases h with
    | cons h1 h2 =>
      simp [PyData.hasDictAll] at z
      exact .cons (Dv.dp d _ h1 z.1) (DvAll.dp ds _ h2 z.2)
end
/-- can be written out -/
def okD (d : PyData) : Bool := (match d with | .dict [] => true | d => d.showable && !d.hasDict) && decide (d.depth ≤ 60) && decide (d.shown.length ≤ 16777216)
theorem Dv.shown {K : PySem.W.Frag} {H : Hp} {v : V} {d : PyData} (h : Dv H v d) (ok : okD d = true) : Shown K H v d.shown := by
  unfold okD at ok
  rw [Bool.and_eq_true, Bool.and_eq_true, decide_eq_true_eq, decide_eq_true_eq] at ok
  obtain ⟨⟨o1, o2⟩, o3⟩ := ok
  by_cases hd : d = .dict []
  · subst hd
    cases h with
    | emp h1 => exact .inr ⟨_, rfl, h1, rfl⟩
  · have o1' : d.showable = true ∧ d.hasDict = false := by
      cases d with
      | dict ks =>
        cases ks with
        | nil => exact absurd rfl hd
        | cons a r => simpa using o1
      | _ => simpa using o1
    exact .inl ⟨d, Dv.dp d v h o1'.2, ⟨o1'.1, o1'.2, o2, o3⟩, rfl⟩
/-- the kind -/
def kindD : PyData → String
  | .none => "NoneType" | .bool _ => "bool" | .int _ => "int" | .str _ => "str" | .list _ => "list" | .tuple _ => "tuple" | .dict _ => "dict"
theorem kind_ok (d : PyData) : Kind (kindD d) := by
  unfold Kind kindD
  cases d <;> simp
theorem Dv.ty {K : PySem.W.Frag} {H : Hp} {v : V} {d : PyData} (h : Dv H v d) : TyX K H v (.type (kindD d)) := by
  cases h with
  | non => exact .base .non
  | bl b => exact .base (.bl b)
  | int i => exact .base (.int i)
  | str l => exact .base (.str _)
  | lst h1 _ => exact .base (.lst h1)
  | tup h1 _ => exact .base (.tup h1)
  | emp h1 => exact .base (.dK h1)
/-- what is_text says of data, of lengths that are small -/
def txB : PyData → Bool
  | .str x => decide (Let x.cps.toList)
  | _ => false
def smS : PyData → Bool
  | .str x => decide (x.cps.toList.length ≤ 1000)
  | _ => true
theorem Dv.tx {K : PySem.W.Frag} {H : Hp} {v : V} {d : PyData} (h : Dv H v d) (s : smS d = true) : IsTx K H v (txB d) := by
  by_cases hk : kindD d = "str"
  · cases h with
    | str l => exact .inl ⟨l, rfl, by have := of_decide_eq_true s; have e : (SL.tx l).cps.toList = l := rfl; rw [e] at this; omega, rfl⟩
    | _ => exact absurd hk (by simp [kindD])
  · refine .inr ⟨?_, kindD d, h.ty, kind_ok d, hk⟩
    cases d <;> first | rfl | exact absurd rfl hk
/-- what is_lag says of data -/
def lgB : PyData → Bool
  | .tuple [a, b] => txB a && txB b && (a.shown == (PyData.str (SL.tx [])).shown || b.shown == (PyData.str (SL.tx [])).shown)
  | _ => false
def smL : PyData → Bool
  | .tuple [a, b] => smS a && smS b
  | _ => true
/-- what is no lag: by its parts -/
def noLg : PyData → Bool
  | .tuple [a, b] => !txB a || !txB b || (match a, b with | .str x, .str y => !x.cps.toList.isEmpty && !y.cps.toList.isEmpty | _, _ => true)
  | _ => true
theorem Dv.lg {K : PySem.W.Frag} {H : Hp} {v : V} {d : PyData} (h : Dv H v d) (s : smL d = true) (n : noLg d = true) : IsLg K H v false := by
  by_cases hk : kindD d = "tuple"
  · cases h with
    | @tup a xs ds h1 h2 =>
      refine .inr ⟨a, xs, rfl, h1, ?_⟩
      match xs, ds, h2 with
      | [], [], _ => exact .inl ⟨rfl, by simp⟩
      | [x], [d], _ => exact .inl ⟨rfl, by simp⟩
      | [x, y], [d, e], .cons hx (.cons hy .nil) =>
        have s' : smS d = true ∧ smS e = true := by simpa [smL] using s
        have tx1 := hx.tx (K := K) s'.1
        have ty1 := hy.tx (K := K) s'.2
        cases hd : txB d with
        | false =>
          rw [hd] at tx1
          exact .inr (.inl ⟨x, y, rfl, rfl, tx1⟩)
        | true =>
          cases hx with
          | str l =>
            have hl : Let l := of_decide_eq_true hd
            have zl : l.length ≤ 1000 := of_decide_eq_true s'.1
            cases he : txB e with
            | false =>
              rw [he] at ty1
              exact .inr (.inr (.inl ⟨l, y, rfl, rfl, by omega, hl, ty1⟩))
            | true =>
              cases hy with
              | str m =>
                have hm : Let m := of_decide_eq_true he
                have zm : m.length ≤ 1000 := of_decide_eq_true s'.2
                refine .inr (.inr (.inr ⟨l, m, rfl, by omega, by omega, hl, hm, ?_⟩))
                have n' : (l.isEmpty = false ∧ m.isEmpty = false) := by
                  have : (!txB (.str (SL.tx l)) || !txB (.str (SL.tx m)) || (!l.isEmpty && !m.isEmpty)) = true := n
                  rw [hd, he] at this
                  simpa using this
                symm
                rw [decide_eq_false_iff_not]
                rintro (rfl | rfl)
                · simp at n'
                · simp at n'
              | _ => simp [txB] at he
          | _ => simp [txB] at hd
      | x :: y :: z :: r, d :: e :: g :: q, _ => exact .inl ⟨rfl, by simp⟩
    | _ => exact absurd hk (by simp [kindD])
  · exact .inl ⟨rfl, kindD d, h.ty, kind_ok d, hk⟩
/-- all but those of l -/
def hide (l : List Addr) (H : Hp) : Hp := fun b => if b ∈ l then none else H b
theorem hide_get {l : List Addr} {e : Addr} {H : Hp} {o : HO} (h : H e = some o) (n : e ∉ l) : hide l H e = some o := by unfold hide; rw [if_neg n]; exact h
theorem hide_to {l : List Addr} {H H' : Hp} (f : ∀ b o, H b = some o → b ∉ l → H' b = some o) : Same (hide l H) H' := fun b o h => by
  unfold hide at h
  by_cases e : b ∈ l
  · rw [if_pos e] at h; cases h
  · rw [if_neg e] at h; exact f b o h e
theorem not_in {l : List Addr} {H H' : Hp} {e : Addr} (h : ∀ c ∈ l, H c ≠ none) (s : Same H H') (n : H' e = none) : e ∉ l := fun m => by
  have z := h e m
  cases q : H e with
  | none => exact z q
  | some o => rw [s _ _ q] at n; cases n
theorem dv_in {l : List Addr} {H : Hp} {c : Addr} {d : PyData} (h : Dv (hide l H) (.ref c) d) : c ∉ l := fun m => by
  have e : hide l H c = none := by unfold hide; rw [if_pos m]
  cases h with
  | lst h1 _ => rw [e] at h1; cases h1
  | tup h1 _ => rw [e] at h1; cases h1
  | emp h1 => rw [e] at h1; cases h1
theorem DvAll.len {H : Hp} : ∀ {vs : List V} {ds : List PyData}, DvAll H vs ds → vs.length = ds.length
  | [], [], _ => rfl
  | _ :: _, _ :: _, .cons _ r => by rw [List.length_cons, List.length_cons, r.len]
theorem same_upd {q : Addr} {H H' : Hp} {o : HO} (s : Same H H') : Same (upd H q o) (upd H' q o) := fun b u h => by
  by_cases e : b = q
  · subst e; rw [upd_same] at h ⊢; exact h
  · rw [upd_ne e] at h ⊢; exact s b u h
end SL
namespace SL
open PySem PySem.Spec PyProof.Rows L2
theorem fin_new {H : Hp} {e : Addr} {o : HO} {R : Hp → Prop} (k : ∀ F, Same (upd H e o) F → F e = some o → R F) : R (upd H e o) := k _ (Same.refl _) upd_same
end SL
namespace SL
open PySem PySem.Spec PyProof.Rows L2
def natL (ks : List Nat) : List V := ks.map fun k : Nat => V.int (k : Int)
theorem dp_nats {K : PySem.W.Frag} {H : Hp} : ∀ ks : List Nat, DpAll K H (natL ks) (ks.map fun k : Nat => PyData.int (k : Int))
  | [] => .nil
  | k :: r => .cons (.int _) (dp_nats r)
theorem lay_nats : ∀ ks : List Nat, PyData.canLayAll0 (ks.map fun k : Nat => PyData.int (k : Int)) = true
  | [] => by simp [PyData.canLayAll0]
  | k :: r => by
    have := lay_nats r
    simp [PyData.canLayAll0, PyData.canLay0, this]
theorem deep_nats : ∀ ks : List Nat, PyData.depthAll (ks.map fun k : Nat => PyData.int (k : Int)) = 0
  | [] => by simp [PyData.depthAll]
  | k :: r => by
    have := deep_nats r
    simp [PyData.depthAll, PyData.depth, this]
theorem w_eqNil {K : PySem.W.Frag} {H : Hp} {Q : VK} {r p : Addr} {ks : List Nat} (h1 : H r = some (.lst (natL ks))) (h2 : H p = some (.lst [])) (q : Q (.bl (decide (ks = []))) H) : rEqU K (.ref r) (.ref p) H Q := by
  refine .inr ⟨.list (ks.map fun k : Nat => PyData.int (k : Int)), .list [], .lst (SqL.of h1) (dp_nats ks), .lst (SqL.of h2) .nil, ?_, by simp [SeqAt.shaped, PyData.canLay0, PyData.canLayAll0, PyData.depth, PyData.depthAll], ?_⟩
  · simp [SeqAt.shaped, PyData.canLay0, PyData.depth, lay_nats, deep_nats]
  · have e : PyData.eqv (.list (ks.map fun k : Nat => PyData.int (k : Int))) (.list []) = decide (ks = []) := by
      cases ks with
      | nil => simp [PyData.eqv, PyData.eqvAll]
      | cons k r => simp [PyData.eqv, PyData.eqvAll]
    rw [e]
    exact q
end SL
set_option Elab.async false
set_option linter.all false
set_option maxRecDepth 100000
set_option maxHeartbeats 4000000
/-! SlY: try with several except clauses that name their error. -/
namespace SL
open PySem PySem.Spec PyProof.Rows L2
/-- behind a clause its name is gone -/
def unD (i : Nat) (D : Ends) : Ends := { nx := fun σ' H' => D.nx (σ'.set i none) H', rt := D.rt, bk := fun σ' H' => D.bk (σ'.set i none) H', ct := fun σ' H' => D.ct (σ'.set i none) H' }
abbrev Clause := Value × Nat × (Addr → Value → Option Addr → TS)
/-- what the clauses together wish of an error of the body -/
def wNamed (K : PySem.W.Frag) (Wout : WX) (D : Ends) : List Clause → WX
  | [] => Wout
  | (c, i, ts) :: r => fun cls d σ H => ∃ b, PySem.W.exmOne K cls c = some b ∧ (b = true → ∀ a, H a = none → ts a cls d (unD i D) (σ.set i (some (.ref a))) H) ∧ (b = false → wNamed K Wout D r cls d σ H)
inductive NamedOk (X : Cx) : List ExceptHandler → List Clause → Prop
  | nil : NamedOk X [] []
  | cons {x n : Str} {c : Value} {i : Nat} {ts : Addr → Value → Option Addr → TS} {b₀ : Stmt} {suite : List Stmt} {np p : Pos} {hds : List ExceptHandler} {l : List Clause} (hc : Names X x c) (hi : X.N[i]? = some n) (hln : X.env.kindOf n = some .local)
      (hsu : ∀ (a : Addr) (oe : Obj) (cls : Value) (d : Option Addr) (pn : List (Addr × Obj)), Zc cls d oe → (∃ vs, oe.data = .fields vs) → PSs (X.suite a ((a, oe) :: pn)) (b₀ :: suite) (ts a cls d)) (r : NamedOk X hds l) :
      NamedOk X (.ExceptHandler (some (.Name x np)) (some n) (b₀ :: suite) p :: hds) ((c, i, ts) :: l)
def tNamed (K : PySem.W.Frag) (l : List Clause) (Wout : WX) (tb : WX → TS) : TS := fun D σ H => tb (wNamed K Wout D l) D σ H
section
variable {X : Cx} {Wout : WX}
/-- the clauses, one after the other, over an error that has landed -/
theorem clauses_run {pins : List (Addr × Obj)} {σ : L2.St} {H : Hp} {D : Ends} {cls : Value} {d : Option Addr} {a : Addr} {B : Heap} {sI s' : Shared} {h3 : Heap} (hN : X.N.Nodup) (tk : Takes X Wout) (hs : X.stack = X.env :: X.outer) (hf : X.env.frame = some X.env.locals)
    (J : Inv X pins σ H sI) (nb : ∀ b o, sI.heap.get? b = some o → b ∉ frs X.stack → B.get? b = some o) (up : sI.heap.UpToSlots h3) (fl : HandSPX.FlyingZ B (X.env :: X.outer) a (Zc cls d) h3) (na : H a = none) (os : s'.os = sI.os) (ag : AllBare s'.gens) :
    ∀ {hds : List ExceptHandler} {l : List Clause}, NamedOk X hds l → wNamed X.K Wout D l cls d σ H → wpAny (model X.prog X.w) X.A (handleBy (.ref a) X.env hds) (SP X pins D) X.xe { s' with heap := h3 } := by
  have ok := J.ok
  have J3 : Inv X pins σ H { s' with heap := h3 } := J.landed nb fl.1 up os ag
  obtain ⟨oe, vs, he, hz, hd⟩ := fl.there
  have offFrames : ∀ {h : Heap} {o : Obj} {vs : Array Value}, h.FunFrames B (X.env :: X.outer) → h.get? a = some o → o.data = .fields vs → a ∉ frs (X.env :: X.outer) := fun {h o vs} ff e dd m => by
    obtain ⟨_, o', e', no⟩ := ff.mem m
    rw [e] at e'
    cases e'
    exact no _ dd
  have off := offFrames fl.2.2.1 he hd
  have nL : a ≠ X.env.locals := fun z => off (List.mem_filterMap.mpr ⟨X.env, List.mem_cons_self, by rw [hf, z]⟩)
  have nF : a ∉ X.fs := fun m => by
    obtain ⟨e, me, q⟩ := List.mem_filterMap.mp m
    exact off (List.mem_filterMap.mpr ⟨e, List.mem_cons_of_mem _ me, q⟩)
  have S3 := J3.suite he hd na nL nF
  intro hds l ok2
  induction ok2 with
  | nil =>
    intro w
    refine wpAny_handleBy_nil ?_
    obtain ⟨_, _, _, oe', vs', T, _, _, he', _, hd', h1, _⟩ := id fl
    unfold PySem.passOn
    refine wpAny_bind (wpAny_field he' hd' h1 ?_)
    rw [if_neg (show ¬ ((Value.ref T == Value.none) = true) from by simp)]
    have on : wpAny (model X.prog X.w) X.A (setFlight (.ref a) X.env.frame) (fun _ s4 => wpAny (model X.prog X.w) X.A (throw (.ref a) : Sem Flow) (SP X pins D) X.xe s4) X.xe { s' with heap := h3 } := by
      rw [hf]
      refine HandSPX.setFlight_upZ fl fun h4 hh4 up4 => wpAny_throw (tk _ _ ?_)
      exact ⟨a, B, sI, pins, σ, H, cls, d, rfl, J, nb, up.trans up4, .inr (.inr (by rw [hs]; exact hh4)), na, os, ag, w⟩
    first
      | exact wpAny_bind (wpAny_pure (wpAny_bind on))
      | exact wpAny_bind on
  | @cons x n c i ts b₀ suite np p hds2 l2 hc hi hln hsu r ih =>
    intro w
    obtain ⟨b, hb1, yes, no⟩ := w
    refine wpAny_handleBy_cons (codeAny_handlers_test ?_) (by intro q; cases q)
    have ofCls : PySem.W.Looks (model X.prog X.w) h3 (typeOf (.ref a)) cls := fun A Q E s k q => wpAny_typeOf_ref (k _ _ he) (by rw [hz.1]; exact q)
    have test := PySem.W.exm_one (M := model X.prog X.w) (J3.kIn) ofCls hb1
    have named : ∀ {Q : Value → Shared → Prop} {E : Value → Shared → Prop}, Q c { s' with heap := h3 } → wpAny (model X.prog X.w) (X.A.mark (some (.ref a))) (eval (.Name x np) X.env) Q E { s' with heap := h3 } := fun {Q E} q => by
      obtain ⟨hg, hdbg, hm | ⟨hm, hv, hnn⟩⟩ := hc
      · exact ld_glob (X := X.suite a ((a, oe) :: (X.pn ++ pins))) S3 hg hm q hdbg
      · exact ld_blt (X := X.suite a ((a, oe) :: (X.pn ++ pins))) S3 hg hm hv q hnn hdbg
    refine named (test.here ?_)
    cases b with
    | false =>
      show wpAny _ X.A (handleBy (.ref a) X.env hds2) _ _ _
      exact ih (no rfl)
    | true =>
      refine codeAny_handlers_suite_as ?_
      refine HandSPX.lands_againZ fl fun h4 fl4 up4 => ?_
      have J4 : Inv X pins σ H { s' with heap := h4 } := J.landed nb fl4.1 (up.trans up4) os ag
      obtain ⟨oe4, vs4, he4, hz4, hd4⟩ := fl4.there
      have S4 := J4.suite he4 hd4 na nL nF
      refine store_ok (X := X.suite a ((a, oe4) :: (X.pn ++ pins))) (v := .ref a) S4 hN hi (.inl hln) rfl (fun s5 S5 => ?_) (.inr hln)
      refine wpAny_mono ((hsu a oe4 cls d (X.pn ++ pins) hz4 ⟨_, hd4⟩).run [] s5 _ H _ S5 (yes rfl a na)) (fun f s6 hsp => ?_) (fun _ _ z => False.elim z)
      have gone : ∀ {σ6 : L2.St} {H6 : Hp} {Q : Shared → Prop}, Inv (X.suite a ((a, oe4) :: (X.pn ++ pins))) [] σ6 H6 s6 → (∀ s7, Inv X pins (σ6.set i none) H6 s7 → Q s7) →
          wpAny (model X.prog X.w) X.A (do bindName X.env n .none; unbindBehindTheSuite X.env n p) (fun _ s7 => Q s7) X.xe s6 := fun {σ6 H6 Q} S6 hq => gone_ok (S6.unsuite ok) hN hi hln hq
      match f, hsp with
      | .next, ⟨σ6, H6, S6, q6⟩ => exact gone S6 fun s7 J7 => ⟨_, _, J7, q6⟩
      | .brk, ⟨σ6, H6, S6, q6⟩ => exact gone S6 fun s7 J7 => ⟨_, _, J7, q6⟩
      | .cont, ⟨σ6, H6, S6, q6⟩ => exact gone S6 fun s7 J7 => ⟨_, _, J7, q6⟩
      | .ret u, ⟨v6, σ6, H6, S6, r6, q6⟩ => exact gone S6 fun s7 J7 => ⟨_, _, _, J7, r6, q6⟩
theorem ps_named (K : PySem.W.Frag) {body : List Stmt} {h₀ : ExceptHandler} {hds : List ExceptHandler} {l : List Clause} {pos : Pos} {tb : WX → TS} (hK : X.K = K) (hs : X.stack = X.env :: X.outer) (hf : X.env.frame = some X.env.locals) (hN : X.N.Nodup) (tk : Takes X Wout)
    (hb : ∀ (W : WX) (pn : List (Addr × Obj)) (xe : Value → Shared → Prop), Takes (X.tr pn xe) W → PassesOwn (model X.prog X.w) X.A X.env xe → PSs (X.tr pn xe) body (tb W)) (hh : NamedOk X (h₀ :: hds) l) :
    PS X (.Try body (h₀ :: hds) [] [] pos) (tNamed K l Wout tb) := by
  subst hK
  refine ⟨fun pins s σ H D I h => ?_⟩
  have ok := I.ok
  have hfr : X.A.frames = some (X.env :: X.outer) := by rw [ok.frames, hs]
  refine wpAny_Try_except ?_
  refine wpAny_mono ((hb (wNamed X.K Wout D l) (X.pn ++ pins) (fun e s₁ => wpAny (model X.prog X.w) X.A (noteFrame e X.env) (fun _ s₂ => wpAny (model X.prog X.w) X.A (setFlight e none) (fun _ s₃ =>
    wpAny (model X.prog X.w) X.A (handleBy e X.env (h₀ :: hds)) (SP X pins D) X.xe s₃) X.xe s₂) X.xe s₁) (fun u s' xx => ?_) PassesOwn.looking).run [] s σ H D (I.toTry _) h) (fun f s1 hsp => ?_) (fun e s1 he => he)
  · obtain ⟨a, B, sI, pins', σ', H', cls, d, rfl, J', nb, up, sky, na, os, ag, w⟩ := xx
    have J : Inv X pins σ' H' sI := J'.ofTry ok
    have sky' : Sky B (X.env :: X.outer) a (Zc cls d) X.env.locals s'.heap := by rw [← hs]; exact sky
    show wpAny (model X.prog X.w) X.A (noteFrame (.ref a) X.env) _ _ _
    exact Sky.land Zc.steady hfr hf sky' fun h3 fl3 up3 => clauses_run hN tk hs hf J nb (up.trans up3) fl3 na os ag hh w
  · match f, hsp with
    | .next, ⟨σ', H', J', q⟩ => exact wpAny_execs_nil ⟨σ', H', J'.ofTry ok, q⟩
    | .brk, ⟨σ', H', J', q⟩ => exact ⟨σ', H', J'.ofTry ok, q⟩
    | .cont, ⟨σ', H', J', q⟩ => exact ⟨σ', H', J'.ofTry ok, q⟩
    | .ret u, ⟨v, σ', H', J', r, q⟩ => exact ⟨v, σ', H', J'.ofTry ok, r, q⟩
end
theorem w_named {K : PySem.W.Frag} {l : List Clause} {Wout : WX} {tb : WX → TS} {D : Ends} {σ : SSt} {H : Hp} (q : tb (wNamed K Wout D l) D σ H) : tNamed K l Wout tb D σ H := q
theorem wNamed_of {K : PySem.W.Frag} {c cls : Value} {i : Nat} {ts : Addr → Value → Option Addr → TS} {r : List Clause} {Wout : WX} {D : Ends} {d : Option Addr} {σ : SSt} {H : Hp} (h : PySem.W.exmOne K cls c = some true)
    (q : ∀ a, H a = none → ts a cls d (unD i D) (σ.set i (some (.ref a))) H) : wNamed K Wout D ((c, i, ts) :: r) cls d σ H := ⟨true, h, fun _ => q, fun h => nomatch h⟩
theorem wNamed_on {K : PySem.W.Frag} {c cls : Value} {i : Nat} {ts : Addr → Value → Option Addr → TS} {r : List Clause} {Wout : WX} {D : Ends} {d : Option Addr} {σ : SSt} {H : Hp} (h : PySem.W.exmOne K cls c = some false)
    (q : wNamed K Wout D r cls d σ H) : wNamed K Wout D ((c, i, ts) :: r) cls d σ H := ⟨false, h, fun z => absurd z (by decide), fun _ => q⟩
/-- an error of one class is not what the clause of another takes -/
theorem exm_other {K : PySem.W.Frag} {S R : Addr} (h1 : PySem.W.subIn K (.ref S) (.type "BaseException") = some true) (h1' : PySem.W.subIn K (.ref R) (.type "BaseException") = some true) (h2 : PySem.W.isClsIn K R = true) (h3 : PySem.W.typeIn K (.ref R) = some (.type "type")) (h4 : PySem.W.subIn K (.ref S) (.ref R) = some false) :
    PySem.W.exmOne K (.ref S) (.ref R) = some false := by
  have e1 : (PySem.W.subIn K (.ref R) (.type "BaseException") == some true) = true := by rw [h1'] <;> rfl
  have e2 : ((PySem.W.clsIn K R).isSome && PySem.W.typeIn K (.ref R) == some (.type "type")) = true := by
    have h2' : (PySem.W.clsIn K R).isSome = true := h2
    rw [h2', h3] <;> rfl
  show (if (PySem.W.subIn K (.ref R) (.type "BaseException") == some true) = true then (if ((PySem.W.clsIn K R).isSome && PySem.W.typeIn K (.ref R) == some (.type "type")) = true then PySem.W.subIn K (.ref S) (.ref R) else none) else none) = some false
  rw [if_pos e1, if_pos e2]
  exact h4
/-- no error of the one is an error of the other -/
def NotErr (K : PySem.W.Frag) (mg : Str → Option Value) (x y : Str) : Prop := PySem.W.exmOne K (.ref (errAt mg x)) (.ref (errAt mg y)) = some false
theorem NotErr.of {K : PySem.W.Frag} {mg : Str → Option Value} {x y : Str} {S R : Addr} (hx : mg x = some (.ref S)) (hy : mg y = some (.ref R)) (h : PySem.W.exmOne K (.ref S) (.ref R) = some false) : NotErr K mg x y := by
  have e1 : errAt mg x = S := by unfold errAt; rw [hx]
  have e2 : errAt mg y = R := by unfold errAt; rw [hy]
  unfold NotErr
  rw [e1, e2]
  exact h
end SL
set_option Elab.async false
set_option linter.all false
set_option maxRecDepth 100000
set_option maxHeartbeats 4000000
/-! SlU: unpacking a text. -/
namespace SL
open PySem PySem.Spec PyProof.Rows L2
def sgL (l : List Nat) : List V := l.map fun c => V.str (tx [c])
section
variable {prog : Program} {w : World} {A : Around} {E : Value → Shared → Prop} {l : List Nat} {I : Addr} {St : Nat → Heap → Prop}
theorem draw_tx (W : Walks prog w A I [I] [I] l.toArray.size (SignAt (tx l)) St) : ∀ (k i : Nat) (s : Shared) (Q : List Value → Shared → Prop), St i s.heap → i + k ≤ l.length →
    (∀ vs h' t', St (i + k) h' → (∀ b o, b ≠ I → s.heap.get? b = some o → h'.get? b = some o) → Vals (sgL ((l.drop i).take k)) vs → Q vs { s with heap := h', toks := t' }) → wpAny (model prog w) A (draw (.ref I) k) Q E s
  | 0, i, s, Q, st, _, hQ => by
    show wpAny _ _ (pure []) Q E s
    exact wpAny_pure (hQ [] s.heap s.toks st (fun _ _ _ h => h) .nil)
  | k + 1, i, s, Q, st, hle, hQ => by
    show wpAny _ _ (pyNext (.ref I) >>= _) Q E s
    refine wpAny_bind (W.item i s _ _ (by simp; omega) st fun v h1 t1 hv st1 k1 => ?_)
    obtain ⟨c, u, hc, rfl⟩ := hv
    refine wpAny_bind (wpAny_holding (draw_tx W k (i + 1) _ _ st1 (by omega) fun vs h2 t2 st2 k2 r => wpAny_pure ?_))
    have hc' : l[i]? = some c := by simpa using hc
    have hd : l.drop i = c :: l.drop (i + 1) := by
      obtain ⟨hi, e⟩ := List.getElem?_eq_some_iff.mp hc'
      rw [List.drop_eq_getElem_cons hi, e]
    refine hQ _ h2 t2 (by rw [show i + (k + 1) = i + 1 + k by omega]; exact st2) (fun b o n h => k2 b o n (k1 b o (by simpa using n) h)) ?_
    rw [hd, List.take_succ_cons]
    exact .cons ⟨u, rfl⟩ r
end
/-- (a, b, ..) = a text of that length -/
def gTxt (n : Nat) (t : TGs) : TG := fun v σ H Q => ∃ l : List Nat, v = .str (tx l) ∧ l.length = n ∧ t (sgL l) σ H Q
section
variable {X : Cx} {pos : Pos}
theorem pg_txt {es : List Expr} {k : Nat} {t : TGs} {n : Nat} (hc : X.calm = true) (h : PGs X es t)
    (hn : (assignEach es X.env).length = n := by rfl) (hst : (assignEach es X.env).findIdx? (·.1) = none := by rfl) : PG X (.Tuple es k pos) (gTxt n t) := by
  refine ⟨fun pins s σ H v u Q I r hw => ?_⟩
  obtain ⟨l, e1, hl, hw⟩ := hw
  subst e1
  obtain ⟨tk, rfl⟩ := r
  rw [PyProof.Rows.assign_Tuple]
  refine wpAny_bind (wpAny_standAt ?_)
  unfold unpack
  rw [hn, hst]
  have hh := I.ok.hd hc
  refine wpAny_bind (wpAny_holding ?_)
  unfold unpackItems
  refine wpAny_bind ?_
  unfold notIterableAtAll
  refine wpAny_bind (wpAny_specialOf (typeIs_str s (tx l) tk) F.slot_str_iter.lookup ?_)
  refine wpAny_pure ?_
  simp only [Bool.false_eq_true, if_false]
  refine wpAny_bind (wpAny_holding (wpAny_pyIter_str fun o St W st => ?_))
  have sz : ∀ b o', b ≠ s.heap.objs.size → (s.heap.push o).get? b = some o' → True := fun _ _ _ _ => trivial
  refine wpAny_bind (wpAny_holding (draw_tx (W _ hh) n 0 _ _ st (by omega) fun vs h1 t1 st1 k1 rv => ?_))
  have hv : vs.length = n := by
    have := Paired.length rv
    rw [← this]
    unfold sgL
    simp [hl]
  rw [if_neg (by omega)]
  have e0 : (0 : Nat) + n = (tx l).cps.size := by
    show 0 + n = l.toArray.size
    simp [hl]
  rw [e0] at st1
  refine wpAny_bind (wpAny_holding ((W _ hh).done _ _ _ st1 fun h2 t2 k2 => ?_))
  simp only [Option.isSome_none, Bool.false_eq_true, if_false]
  refine wpAny_pure ?_
  have I1 : Inv X pins σ H { s with heap := h2, toks := t2 } := I.kept fun b o' e => by
    have nb : b ≠ s.heap.objs.size := Nat.ne_of_lt (Heap.lt_size e)
    exact k2 b o' (by simpa using nb) (k1 b o' nb (Heap.get?_push_of_some _ e))
  have rv' : Vals (sgL l) vs := by
    have : (l.drop 0).take n = l := by rw [List.drop_zero, ← hl, List.take_length]
    rw [this] at rv
    exact rv
  exact h.run pins _ σ H (sgL l) _ Q I1 rv' hw
end
theorem w_gX {n : Nat} {tg : TGs} {l : List Nat} {σ : SSt} {H : Hp} {Q : SSt → Hp → Prop} (q : tg (sgL l) σ H Q) (hn : l.length = n) : gTxt n tg (.str (tx l)) σ H Q := ⟨l, rfl, hn, q⟩
theorem w_gX2 {tg : TGs} {a b : Nat} {σ : SSt} {H : Hp} {Q : SSt → Hp → Prop} (q : tg [V.str (tx [a]), V.str (tx [b])] σ H Q) : gTxt 2 tg (.str (tx [a, b])) σ H Q := ⟨[a, b], rfl, rfl, q⟩
theorem rep_one (n c : Nat) : (List.replicate n [c]).flatten = List.replicate n c := List.flatten_replicate_singleton
theorem let_rep {n c : Nat} (h : Let [c]) : Let (List.replicate n c) := fun d hd => by
  rw [(List.mem_replicate.mp hd).2]
  exact h c (List.mem_singleton.mpr rfl)
/-- the scope of a comprehension within a comprehension, from the def's scope -/
def relabelBy (sc0 scope : Scope) : Scope := { scope with names := scope.names.map fun (n, k) => if (k == .free && sc0.kind == .function && sc0.names.lookup n == some .cell) then (n, .cell) else (n, k) }
theorem relabel_eq (scope : Scope) (env : Env) (sc0 : Scope) (h : env.scope = sc0) : relabel scope env = relabelBy sc0 scope := by
  subst h
  rfl
theorem w_par3 {n m k : Nat} {t : TA} {D : Ends} {σ : SSt} {H : Hp} (q : t σ H fun vs H1 => ∃ u v w, vs = [u, v, w] ∧ D.nx (((σ.set n (some u)).set m (some v)).set k (some w)) H1) : tPar3 n m k t D σ H := q
theorem w_three {u v w : V} {Q : V → V → V → Prop} (q : Q u v w) : ∃ x y z, [u, v, w] = [x, y, z] ∧ Q x y z := ⟨u, v, w, rfl, q⟩
theorem w_seqP3 {n m k : Nat} {t : TA} {t2 : TS} {D : Ends} {σ : SSt} {H : Hp} (q : tPar3 n m k t { D with nx := t2 D } σ H) : tSeq (tPar3 n m k t) t2 D σ H := q
theorem part_two {α : Type} (xs : List α) {i j : Nat} (h1 : i ≤ xs.length) (h2 : j ≤ xs.length) : (xs.drop (HT.sIx xs.length 0 (some (i : Int)))).take (HT.sIx xs.length xs.length (some (j : Int)) - HT.sIx xs.length 0 (some (i : Int))) = (xs.drop i).take (j - i) := by
  rw [sIx_to _ _ (by omega), sIx_to _ _ (by omega), Int.toNat_natCast, Int.toNat_natCast, Nat.min_eq_left h1, Nat.min_eq_left h2]
theorem w_sLB {K : PySem.W.Frag} {H : Hp} {Q : VK} {p : Addr} {xs : List V} {i j : Nat} (h : SqL K H p xs) (h1 : i ≤ xs.length) (h2 : j ≤ xs.length) (q : ∀ a, H a = none → Q (.ref a) (upd H a (.lst ((xs.drop i).take (j - i))))) : rSlU K (.ref p) (some (i : Int)) (some (j : Int)) H Q :=
  .inl ⟨p, xs, rfl, h, by
    rw [show cutV xs (some (i : Int)) (some (j : Int)) = (xs.drop i).take (j - i) from part_two xs h1 h2]
    exact q⟩
theorem w_sSB {K : PySem.W.Frag} {H : Hp} {Q : VK} {l : List Nat} {i j : Nat} (h1 : i ≤ l.length) (h2 : j ≤ l.length) (z : l.length ≤ 16777216) (q : Q (.str (tx ((l.drop i).take (j - i)))) H) : rSlU K (.str (tx l)) (some (i : Int)) (some (j : Int)) H Q :=
  .inr (.inl ⟨_, rfl, by rw [tx_len, sizeLine_eq]; exact z, by
    have e : cutS (tx l) (some (i : Int)) (some (j : Int)) = tx ((l.drop i).take (j - i)) := by
      unfold cutS
      rw [tx_len]
      show tx _ = _
      rw [part_two l h1 h2]
    rw [e]
    exact q⟩)
theorem ixn {n j : Nat} (h : j < n) : ixN n (j : Int) = some j := by
  unfold ixN
  rw [if_pos (by omega), if_pos (by omega)]
  simp
theorem natL_at {ks : List Nat} {i k : Nat} (h : ks[i]? = some k) : (natL ks)[i]? = some (.int (k : Int)) := by
  unfold natL
  rw [List.getElem?_map, h]
  rfl
theorem natL_set (ks : List Nat) (i m : Nat) : (natL ks).set i (.int (m : Int)) = natL (ks.set i m) := by
  unfold natL
  rw [List.map_set]
theorem natL_len (ks : List Nat) : (natL ks).length = ks.length := by unfold natL; rw [List.length_map]
theorem w_neStr {K : PySem.W.Frag} {H : Hp} {Q : VK} {x : Str} (q : Q (.bl false) H) : rNeU K (.str x) (.str x) H Q := .inl ⟨rfl, by rw [decide_eq_true rfl]; exact q⟩
end SL
set_option Elab.async false
set_option linter.all false
set_option maxRecDepth 100000
set_option maxHeartbeats 4000000
/-! SlO: odd values: plain data that may be written out, lists of one thing that may grow; their copies. -/
namespace SL
open PySem PySem.Spec PyProof.Rows L2
theorem repr_short {l : List Nat} (h : Sgn l) : (PyData.shown (.str (tx l))).length ≤ 10 * l.length + 2 := by
  show (reprText (tx l)).length ≤ _
  have := StrLaws.reprText_len (tx l) (fun c hc => by have := h c hc; omega)
  rw [tx_len] at this
  exact this
theorem ok_str {l : List Nat} (h : Sgn l) (z : l.length ≤ 1000) : okD (.str (tx l)) = true := by
  have := repr_short h
  have e : (PyData.shown (.str (tx l))).length ≤ 16777216 := by omega
  simp [okD, PyData.showable, PyData.hasDict, PyData.depth, e]
theorem ok_listS {l m : List Nat} (h : Sgn l) (z : l.length ≤ 1000) (h2 : Sgn m) (z2 : m.length ≤ 1000) : okD (.list [.str (tx l), .str (tx m)]) = true := by
  have e1 := repr_short h
  have e2 := repr_short h2
  have e : (PyData.shown (.list [.str (tx l), .str (tx m)])).length ≤ 16777216 := by
    refine Nat.le_trans (listText_len_le _) ?_
    simp only [PyData.shownAll, List.map_cons, List.map_nil, List.sum_cons, List.sum_nil, List.length_cons, List.length_nil]
    omega
  simp [okD, PyData.showable, PyData.showableAll, PyData.hasDict, PyData.hasDictAll, PyData.depth, PyData.depthAll, e]
theorem ok_tupS {l m : List Nat} (h : Sgn l) (z : l.length ≤ 1000) (h2 : Sgn m) (z2 : m.length ≤ 1000) : okD (.tuple [.str (tx l), .str (tx m)]) = true := by
  have e1 := repr_short h
  have e2 := repr_short h2
  have e : (PyData.shown (.tuple [.str (tx l), .str (tx m)])).length ≤ 16777216 := by
    refine Nat.le_trans (tupleText_len_le _) ?_
    simp only [PyData.shownAll, List.map_cons, List.map_nil, List.sum_cons, List.sum_nil, List.length_cons, List.length_nil]
    omega
  simp [okD, PyData.showable, PyData.showableAll, PyData.hasDict, PyData.hasDictAll, PyData.depth, PyData.depthAll, e]
/-- something that holds no objects -/
inductive Atom : V → PyData → Prop
  | str (l : List Nat) : Atom (.str (tx l)) (.str (tx l))
  | int (i : Int) : Atom (.int i) (.int i)
  | non : Atom .non .none
  | bl (b : Bool) : Atom (.bl b) (.bool b)
theorem Atom.dv {H : Hp} {v : V} {d : PyData} (h : Atom v d) : Dv H v d := by
  cases h with
  | str l => exact .str l
  | int i => exact .int i
  | non => exact .non
  | bl b => exact .bl b
/-- an odd value; a list of it is of one thing, and z may be put behind it -/
def OddV (z : List Nat) (H : Hp) (v : V) : Prop := (∃ d, Dv H v d ∧ okD d = true ∧ (kindD d == "list") = false) ∨ (∃ a x d, v = .ref a ∧ H a = some (.lst [x]) ∧ Atom x d ∧ okD (.list [d, .str (tx z)]) = true)
theorem OddV.mono {z : List Nat} {H H' : Hp} {v : V} (s : Same H H') (h : OddV z H v) : OddV z H' v := by
  rcases h with ⟨d, h1, h2⟩ | ⟨a, x, d, e, h1, h2⟩
  · exact .inl ⟨d, Dv.mono s d v h1, h2⟩
  · exact .inr ⟨a, x, d, e, s _ _ h1, h2⟩
/-- v' is v or a copy of it, made behind H0 -/
def Cp (z : List Nat) (H0 H : Hp) (v v' : V) : Prop := (∃ d, Dv H0 v d ∧ okD d = true ∧ (kindD d == "list") = false ∧ v' = v) ∨ (∃ a x d r, v = .ref a ∧ H0 a = some (.lst [x]) ∧ Atom x d ∧ okD (.list [d, .str (tx z)]) = true ∧ v' = .ref r ∧ H0 r = none ∧ H r = some (.lst [x]))
theorem Cp.keep {z : List Nat} {H0 H H' : Hp} {v v' : V} (h : Cp z H0 H v v') (k : ∀ r o, v' = .ref r → H0 r = none → H r = some o → H' r = some o) : Cp z H0 H' v v' := by
  rcases h with h | ⟨a, x, d, r, h1, h2, h3, h4, h5, h6, h7⟩
  · exact .inl h
  · exact .inr ⟨a, x, d, r, h1, h2, h3, h4, h5, h6, k r _ h5 h6 h7⟩
theorem Cp.same {z : List Nat} {H0 H H' : Hp} {v v' : V} (h : Cp z H0 H v v') (s : Same H H') : Cp z H0 H' v v' := h.keep fun r o _ _ h => s r o h
/-- list(value) if isinstance(value, list) else value -/
def spCopy (K : PySem.W.Frag) : Sp := fun vs H Q _ => ∃ v, vs = [v] ∧ ((∃ t, TyX K H v (.type t) ∧ Kind t ∧ t ≠ "list" ∧ Q v H) ∨ (∃ a xs, v = .ref a ∧ H a = some (.lst xs) ∧ ∀ r H', Same H H' → H r = none → H' r = some (.lst xs) → Q (.ref r) H'))
theorem copy_w {K : PySem.W.Frag} {z : List Nat} {H0 H : Hp} {v : V} {Q : VK} {E : XK} (h : OddV z H0 v) (s : Same H0 H) (q : ∀ v' H', Same H H' → Cp z H0 H' v v' → (∀ r, v' = .ref r → H0 r = none → H r = none) → Q v' H') : spCopy K [v] H Q E := by
  rcases h with ⟨d, h1, h2, h3⟩ | ⟨a, x, d, e, h1, h2, h3⟩
  · refine ⟨v, rfl, .inl ⟨kindD d, (Dv.mono s d v h1).ty, kind_ok d, by simpa using h3, ?_⟩⟩
    refine q v H (Same.refl _) (.inl ⟨d, h1, h2, h3, rfl⟩) fun r e n => ?_
    subst e
    cases h1 with
    | lst g _ => rw [g] at n; cases n
    | tup g _ => rw [g] at n; cases n
    | emp g => rw [g] at n; cases n
  · subst e
    refine ⟨_, rfl, .inr ⟨a, [x], rfl, s _ _ h1, fun r H' s' n g => ?_⟩⟩
    refine q (.ref r) H' s' (.inr ⟨a, x, d, r, rfl, h1, h2, h3, rfl, ?_, g⟩) fun r' e _ => ?_
    · exact Same.none s n
    · cases e; exact n
theorem cp_tx {K : PySem.W.Frag} {z : List Nat} {H0 H : Hp} {v v' : V} (h : Cp z H0 H v v') (s : Same H0 H) (t : IsTx K H0 v false) : IsTx K H v' false := by
  rcases h with ⟨d, h1, h2, h3, rfl⟩ | ⟨a, x, d, r, h1, h2, h3, h4, rfl, h6, h7⟩
  · exact t.mono s
  · exact .inr ⟨rfl, "list", .base (.lst h7), by unfold Kind; simp, by decide⟩
/-- what a refusal needs of the value: it may be written out, when z is behind it too -/
theorem Cp.show {z : List Nat} {H0 H : Hp} {v v' : V} (h : Cp z H0 H v v') (s : Same H0 H) : (∃ d, Dv H v' d ∧ okD d = true ∧ (kindD d == "list") = false) ∨ (∃ r x d, v' = .ref r ∧ H0 r = none ∧ H r = some (.lst [x]) ∧ Dv (upd H r (.lst ([x] ++ [.str (tx z)]))) (.ref r) (.list [d, .str (tx z)]) ∧ okD (.list [d, .str (tx z)]) = true) := by
  rcases h with ⟨d, h1, h2, h3, rfl⟩ | ⟨a, x, d, r, h1, h2, h3, h4, rfl, h6, h7⟩
  · exact .inl ⟨d, Dv.mono s d _ h1, h2, h3⟩
  · exact .inr ⟨r, x, d, rfl, h6, h7, .lst upd_same (.cons h3.dv (.cons (.str _) .nil)), h4⟩
end SL
set_option Elab.async false
set_option linter.all false
set_option maxRecDepth 100000
set_option maxHeartbeats 4000000
/-! SlP: small data; odd values that are such; comparing with []. -/
namespace SL
open PySem PySem.Spec PyProof.Rows L2
structure Sm (n k : Nat) (d : PyData) : Prop where
  sh : d.showable = true
  nd : d.hasDict = false
  ly : d.canLay0 = true
  dp : d.depth ≤ k
  ln : d.shown.length ≤ n
theorem Sm.le {n k m j : Nat} {d : PyData} (h : Sm n k d) (e : n ≤ m) (f : k ≤ j) : Sm m j d := ⟨h.sh, h.nd, h.ly, Nat.le_trans h.dp f, Nat.le_trans h.ln e⟩
theorem Sm.okD {n k : Nat} {d : PyData} (h : Sm n k d) (e : n ≤ 16777216 := by omega) (f : k ≤ 60 := by omega) : okD d = true := by
  have z := h.ln
  have y := h.dp
  have x := h.nd
  have w := h.sh
  cases d with
  | dict ks => simp [PyData.hasDict] at x
  | _ =>
    unfold SL.okD
    simp only [w, x, Bool.not_false, Bool.and_self, Bool.true_and, Bool.and_eq_true, decide_eq_true_eq]
    exact ⟨by omega, by omega⟩
theorem Sm.shaped {n k : Nat} {d : PyData} (h : Sm n k d) (f : k ≤ 64 := by omega) : SeqAt.shaped d = true := by
  unfold SeqAt.shaped
  rw [h.ly, Bool.true_and]
  exact decide_eq_true (Nat.le_trans h.dp f)
theorem sm_str {l : List Nat} {n : Nat} (h : Sgn l) (z : 10 * l.length + 2 ≤ n) : Sm n 0 (.str (tx l)) :=
  ⟨rfl, rfl, by simp only [PyData.canLay0]; exact h.ok, by simp [PyData.depth], Nat.le_trans (repr_short h) z⟩
theorem sm_non : Sm 4 0 .none := ⟨rfl, rfl, rfl, by decide, by decide +kernel⟩
theorem sm_list1 {n k : Nat} {d : PyData} (h : Sm n k d) : Sm (n + 10) (k + 1) (.list [d]) := by
  refine ⟨by simp [PyData.showable, PyData.showableAll, h.sh], by simp [PyData.hasDict, PyData.hasDictAll, h.nd], by simp [PyData.canLay0, PyData.canLayAll0, h.ly], ?_, ?_⟩
  · have := h.dp
    simp [PyData.depth, PyData.depthAll]
    omega
  · refine Nat.le_trans (listText_len_le _) ?_
    have := h.ln
    simp only [PyData.shownAll, List.map_cons, List.map_nil, List.sum_cons, List.sum_nil, List.length_cons, List.length_nil]
    omega
theorem sm_list2 {n k m j : Nat} {d e : PyData} (h : Sm n k d) (h2 : Sm m j e) : Sm (n + m + 10) (max k j + 1) (.list [d, e]) := by
  refine ⟨by simp [PyData.showable, PyData.showableAll, h.sh, h2.sh], by simp [PyData.hasDict, PyData.hasDictAll, h.nd, h2.nd], by simp [PyData.canLay0, PyData.canLayAll0, h.ly, h2.ly], ?_, ?_⟩
  · have := h.dp
    have := h2.dp
    simp [PyData.depth, PyData.depthAll]
    omega
  · refine Nat.le_trans (listText_len_le _) ?_
    have := h.ln
    have := h2.ln
    simp only [PyData.shownAll, List.map_cons, List.map_nil, List.sum_cons, List.sum_nil, List.length_cons, List.length_nil]
    omega
theorem sm_tup1 {n k : Nat} {d : PyData} (h : Sm n k d) : Sm (n + 10) (k + 1) (.tuple [d]) := by
  refine ⟨by simp [PyData.showable, PyData.showableAll, h.sh], by simp [PyData.hasDict, PyData.hasDictAll, h.nd], by simp [PyData.canLay0, PyData.canLayAll0, h.ly], ?_, ?_⟩
  · have := h.dp
    simp [PyData.depth, PyData.depthAll]
    omega
  · refine Nat.le_trans (tupleText_len_le _) ?_
    have := h.ln
    simp only [PyData.shownAll, List.map_cons, List.map_nil, List.sum_cons, List.sum_nil, List.length_cons, List.length_nil]
    omega
theorem sm_tup2 {n k m j : Nat} {d e : PyData} (h : Sm n k d) (h2 : Sm m j e) : Sm (n + m + 10) (max k j + 1) (.tuple [d, e]) := by
  refine ⟨by simp [PyData.showable, PyData.showableAll, h.sh, h2.sh], by simp [PyData.hasDict, PyData.hasDictAll, h.nd, h2.nd], by simp [PyData.canLay0, PyData.canLayAll0, h.ly, h2.ly], ?_, ?_⟩
  · have := h.dp
    have := h2.dp
    simp [PyData.depth, PyData.depthAll]
    omega
  · refine Nat.le_trans (tupleText_len_le _) ?_
    have := h.ln
    have := h2.ln
    simp only [PyData.shownAll, List.map_cons, List.map_nil, List.sum_cons, List.sum_nil, List.length_cons, List.length_nil]
    omega
theorem sm_tup3 {n k m j a b : Nat} {d e f : PyData} (h : Sm n k d) (h2 : Sm m j e) (h3 : Sm a b f) : Sm (n + m + a + 10) (max k (max j b) + 1) (.tuple [d, e, f]) := by
  refine ⟨by simp [PyData.showable, PyData.showableAll, h.sh, h2.sh, h3.sh], by simp [PyData.hasDict, PyData.hasDictAll, h.nd, h2.nd, h3.nd], by simp [PyData.canLay0, PyData.canLayAll0, h.ly, h2.ly, h3.ly], ?_, ?_⟩
  · have := h.dp
    have := h2.dp
    have := h3.dp
    simp [PyData.depth, PyData.depthAll]
    omega
  · refine Nat.le_trans (tupleText_len_le _) ?_
    have := h.ln
    have := h2.ln
    have := h3.ln
    simp only [PyData.shownAll, List.map_cons, List.map_nil, List.sum_cons, List.sum_nil, List.length_cons, List.length_nil]
    omega
/-- an odd value that is small data; a list of it is not empty -/
def Ov (n k : Nat) (H : Hp) (v : V) : Prop := ∃ d, Dv H v d ∧ Sm n k d ∧ ∀ ds, d = .list ds → 0 < ds.length ∧ ds.length ≤ 10
theorem Ov.mono {n k : Nat} {H H' : Hp} {v : V} (s : Same H H') (h : Ov n k H v) : Ov n k H' v := by
  obtain ⟨d, h1, h2⟩ := h
  exact ⟨d, Dv.mono s d v h1, h2⟩
theorem Ov.le {n k m j : Nat} {H : Hp} {v : V} (h : Ov n k H v) (e : n ≤ m) (f : k ≤ j) : Ov m j H v := by
  obtain ⟨d, h1, h2, h3⟩ := h
  exact ⟨d, h1, h2.le e f, h3⟩
/-- v' is v or, of a list, a copy of it made behind H0 -/
def Cv (n k : Nat) (H0 H : Hp) (v v' : V) : Prop := (∃ d, Dv H0 v d ∧ Sm n k d ∧ (kindD d == "list") = false ∧ v' = v) ∨ (∃ r xs ds, v' = .ref r ∧ H0 r = none ∧ H r = some (.lst xs) ∧ DvAll H0 xs ds ∧ Sm n k (.list ds) ∧ 0 < ds.length ∧ ds.length ≤ 10)
theorem Cv.same {n k : Nat} {H0 H H' : Hp} {v v' : V} (h : Cv n k H0 H v v') (s : Same H H') : Cv n k H0 H' v v' := by
  rcases h with h | ⟨r, xs, ds, h1, h2, h3, h4⟩
  · exact .inl h
  · exact .inr ⟨r, xs, ds, h1, h2, s _ _ h3, h4⟩
theorem copy_v {K : PySem.W.Frag} {n k : Nat} {H0 H : Hp} {v : V} {Q : VK} {E : XK} (h : Ov n k H0 v) (s : Same H0 H) (q : ∀ v' H', Same H H' → Cv n k H0 H' v v' → Q v' H') : spCopy K [v] H Q E := by
  obtain ⟨d, h1, h2, h3⟩ := h
  by_cases hk : (kindD d == "list") = false
  · exact ⟨v, rfl, .inl ⟨kindD d, (Dv.mono s d v h1).ty, kind_ok d, by simpa using hk, q v H (Same.refl _) (.inl ⟨d, h1, h2, hk, rfl⟩)⟩⟩
  · cases h1 with
    | @lst a xs ds g1 g2 =>
      refine ⟨_, rfl, .inr ⟨a, xs, rfl, s _ _ g1, fun r H' s' n0 g => ?_⟩⟩
      obtain ⟨z1, z2⟩ := h3 ds rfl
      exact q (.ref r) H' s' (.inr ⟨r, xs, ds, rfl, Same.none s n0, g, g2, h2, z1, z2⟩)
    | _ => exact absurd rfl hk
theorem cv_tx {K : PySem.W.Frag} {n k : Nat} {H0 H : Hp} {v v' : V} (h : Cv n k H0 H v v') (s : Same H0 H) (t : IsTx K H0 v false) : IsTx K H v' false := by
  rcases h with ⟨d, h1, h2, h3, rfl⟩ | ⟨r, xs, ds, rfl, h2, h3, _⟩
  · exact t.mono s
  · exact .inr ⟨rfl, "list", .base (.lst h3), by unfold SL.Kind; simp, by decide⟩
theorem cv_lg {K : PySem.W.Frag} {n k : Nat} {H0 H : Hp} {v v' : V} (h : Cv n k H0 H v v') (s : Same H0 H) (t : IsLg K H0 v false) : IsLg K H v' false := by
  rcases h with ⟨d, h1, h2, h3, rfl⟩ | ⟨r, xs, ds, rfl, h2, h3, _⟩
  · exact t.mono s
  · exact .inl ⟨rfl, "list", .base (.lst h3), by unfold SL.Kind; simp, by decide⟩
theorem dpall_of {K : PySem.W.Frag} {H : Hp} {v : V} {d : PyData} (h : Dv H v d) (z : d.hasDict = false) : DpAll K H [v] [d] := .cons (Dv.dp d v h z) .nil
/-- [v] == [] -/
theorem w_eqNilD {K : PySem.W.Frag} {H : Hp} {Q : VK} {r e : Addr} {v : V} {d : PyData} {n k : Nat} (h1 : H r = some (.lst [v])) (hv : Dv H v d) (sm : Sm n k d) (f : k ≤ 60) (h2 : H e = some (.lst [])) (q : Q (.bl false) H) : rEqU K (.ref r) (.ref e) H Q :=
  .inr ⟨.list [d], .list [], .lst (SqL.of h1) (dpall_of hv sm.nd), .lst (SqL.of h2) .nil, (sm_list1 sm).shaped (by omega), by decide +kernel, by
    have e : PyData.eqv (.list [d]) (.list []) = false := by simp [PyData.eqv, PyData.eqvAll]
    rw [e]
    exact q⟩
/-- [] != [] -/
theorem w_neNil {K : PySem.W.Frag} {H : Hp} {Q : VK} {r e : Addr} (h1 : H r = some (.lst [])) (h2 : H e = some (.lst [])) (q : Q (.bl false) H) : rNeU K (.ref r) (.ref e) H Q :=
  .inr ⟨.list [], .list [], .lst (SqL.of h1) .nil, .lst (SqL.of h2) .nil, by decide +kernel, by decide +kernel, by
    have e : PyData.eqv (.list []) (.list []) = true := by simp [PyData.eqv, PyData.eqvAll]
    rw [e]
    exact q⟩
theorem hideF {p : Addr} {A B : Hp} (f : SL.Fr p A B) : Same (hide [p] A) B := hide_to fun b o h n => f b o h (by simpa using n)
theorem hideH {p : Addr} {A B : Hp} (f : SL.Fr p A B) : Same (hide [p] A) (hide [p] B) := fun b o h => by
  have n : b ∉ [p] := fun m => by unfold hide at h; rw [if_pos m] at h; cases h
  exact hide_get (hideF f _ _ h) n
end SL
set_option Elab.async false
set_option linter.all false
set_option maxHeartbeats 1000000
/-! Lev: the distance of two lists by the table of all beginnings, and its band. Plain Lean. -/
namespace Lv
/-- one letter beside another -/
def un (x y : List Nat) (i j : Nat) : Nat := if x.getD i 0 = y.getD j 0 then 0 else 1
theorem un_le (x y : List Nat) (i j : Nat) : un x y i j ≤ 1 := by unfold un; split <;> omega
/-- the table: beginnings of i and of j letters -/
def dl (x y : List Nat) : Nat → Nat → Nat
  | 0, j => j
  | i + 1, 0 => i + 1
  | i + 1, j + 1 => min (min (dl x y i j + un x y i j) (dl x y (i + 1) j + 1)) (dl x y i (j + 1) + 1)
termination_by i j => i + j
theorem un_eq {x y : List Nat} {i j c d : Nat} (h1 : x[i]? = some c) (h2 : y[j]? = some d) : (if (!decide ([c] = [d])) = true then (1 : Int) else 0) = (un x y i j : Nat) := by
  unfold un
  rw [List.getD_eq_getElem?_getD, List.getD_eq_getElem?_getD, h1, h2]
  by_cases h : c = d
  · simp [h]
  · simp [h]
theorem dl_0 (x y : List Nat) (j : Nat) : dl x y 0 j = j := by rw [dl]
theorem dl_r0 (x y : List Nat) (i : Nat) : dl x y i 0 = i := by cases i <;> rw [dl]
theorem dl_s (x y : List Nat) (i j : Nat) : dl x y (i + 1) (j + 1) = min (min (dl x y i j + un x y i j) (dl x y (i + 1) j + 1)) (dl x y i (j + 1) + 1) := by rw [dl]
theorem dl_low (x y : List Nat) : ∀ i j, i ≤ dl x y i j + j ∧ j ≤ dl x y i j + i
  | 0, j => by rw [dl_0]; omega
  | i + 1, 0 => by rw [dl_r0]; omega
  | i + 1, j + 1 => by
    have h1 := dl_low x y i j
    have h2 := dl_low x y (i + 1) j
    have h3 := dl_low x y i (j + 1)
    rw [dl_s]
    omega
termination_by i j => i + j
theorem dl_up (x y : List Nat) : ∀ i j, dl x y i j ≤ max i j
  | 0, j => by rw [dl_0]; omega
  | i + 1, 0 => by rw [dl_r0]; omega
  | i + 1, j + 1 => by
    have h1 := dl_up x y i j
    have h := un_le x y i j
    rw [dl_s]
    omega
termination_by i j => i + j
theorem dl_col (x y : List Nat) (i j : Nat) : dl x y i (j + 1) ≤ dl x y i j + 1 := by
  cases i with
  | zero => rw [dl_0, dl_0]; omega
  | succ i => rw [dl_s]; omega
theorem dl_row (x y : List Nat) (i j : Nat) : dl x y (i + 1) j ≤ dl x y i j + 1 := by
  cases j with
  | zero => rw [dl_r0, dl_r0]; omega
  | succ j => rw [dl_s]; omega
theorem dl_rowB (x y : List Nat) (i : Nat) : ∀ j, dl x y i j ≤ dl x y (i + 1) j + 1
  | 0 => by rw [dl_r0, dl_r0]; omega
  | j + 1 => by
    have h1 := dl_rowB x y i j
    have h2 := dl_col x y i j
    rw [dl_s]
    omega
theorem dl_colB (x y : List Nat) (j : Nat) : ∀ i, dl x y i j ≤ dl x y i (j + 1) + 1
  | 0 => by rw [dl_0, dl_0]; omega
  | i + 1 => by
    have h1 := dl_colB x y j i
    have h2 := dl_row x y i j
    rw [dl_s]
    omega
theorem dl_same {x y : List Nat} {i j : Nat} (h : x.getD i 0 = y.getD j 0) : dl x y (i + 1) (j + 1) = dl x y i j := by
  have h1 := dl_rowB x y i j
  have h2 := dl_colB x y j i
  have e : un x y i j = 0 := by unfold un; rw [if_pos h]
  rw [dl_s, e]
  omega
theorem dl_sym (x y : List Nat) : ∀ i j, dl x y i j = dl y x j i
  | 0, j => by rw [dl_0, dl_r0]
  | i + 1, 0 => by rw [dl_r0, dl_0]
  | i + 1, j + 1 => by
    have e : un x y i j = un y x j i := by
      unfold un
      by_cases h : x.getD i 0 = y.getD j 0
      · rw [if_pos h, if_pos h.symm]
      · rw [if_neg h, if_neg fun z => h z.symm]
    rw [dl_s, dl_s, dl_sym x y i j, dl_sym x y (i + 1) j, dl_sym x y i (j + 1), e]
    omega
termination_by i j => i + j
theorem dl_part {x y u v : List Nat} : ∀ i j, (∀ k, k < i → x.getD k 0 = u.getD k 0) → (∀ k, k < j → y.getD k 0 = v.getD k 0) → dl x y i j = dl u v i j
  | 0, j, _, _ => by rw [dl_0, dl_0]
  | i + 1, 0, _, _ => by rw [dl_r0, dl_r0]
  | i + 1, j + 1, hx, hy => by
    have e : un x y i j = un u v i j := by
      unfold un
      rw [hx i (by omega), hy j (by omega)]
    rw [dl_s, dl_s, dl_part i j (fun k h => hx k (by omega)) (fun k h => hy k (by omega)), dl_part (i + 1) j hx (fun k h => hy k (by omega)), dl_part i (j + 1) (fun k h => hx k (by omega)) hy, e]
termination_by i j => i + j
theorem un_cons (c d : Nat) (x y : List Nat) (i j : Nat) : un (c :: x) (d :: y) (i + 1) (j + 1) = un x y i j := by unfold un; rw [List.getD_cons_succ, List.getD_cons_succ]
theorem dl_head (c : Nat) (x y : List Nat) : ∀ i j, dl (c :: x) (c :: y) (i + 1) (j + 1) = dl x y i j
  | 0, 0 => by rw [dl_0, dl_same (x := c :: x) (y := c :: y) (i := 0) (j := 0) rfl, dl_0]
  | 0, j + 1 => by
    have h1 := dl_head c x y 0 j
    rw [dl_0] at h1
    rw [dl_0, dl_s (c :: x) (c :: y) 0 (j + 1), h1, dl_0, dl_0]
    have := un_le (c :: x) (c :: y) 0 (j + 1)
    omega
  | i + 1, 0 => by
    have h1 := dl_head c x y i 0
    rw [dl_r0] at h1
    have u := un_le (c :: x) (c :: y) (i + 1) 0
    rw [dl_r0, dl_s (c :: x) (c :: y) (i + 1) 0, h1, dl_r0, dl_r0]
    omega
  | i + 1, j + 1 => by
    rw [dl_s (c :: x) (c :: y) (i + 1) (j + 1), dl_s x y i j, dl_head c x y i j, dl_head c x y (i + 1) j, dl_head c x y i (j + 1), un_cons]
termination_by i j => i + j
theorem dl_put (c : Nat) (x y : List Nat) : ∀ i j, dl x (c :: y) i (j + 1) ≤ dl x y i j + 1
  | 0, j => by rw [dl_0, dl_0]; omega
  | i + 1, 0 => by
    have h1 := dl_row x (c :: y) i (0 + 1)
    have h2 := dl_put c x y i 0
    rw [dl_r0] at h2
    rw [dl_r0]
    omega
  | i + 1, j + 1 => by
    have h1 := dl_put c x y i j
    have h2 := dl_put c x y (i + 1) j
    have h3 := dl_put c x y i (j + 1)
    have e : un x (c :: y) i (j + 1) = un x y i j := by unfold un; rw [List.getD_cons_succ]
    rw [dl_s x (c :: y) i (j + 1), dl_s x y i j, e]
    omega
termination_by i j => i + j

/-- the distance -/
def lev (x y : List Nat) : Nat := dl x y x.length y.length
theorem lev_sym (x y : List Nat) : lev x y = lev y x := dl_sym x y _ _
theorem lev_low (x y : List Nat) : x.length ≤ lev x y + y.length ∧ y.length ≤ lev x y + x.length := dl_low x y _ _
theorem lev_up (x y : List Nat) : lev x y ≤ max x.length y.length := dl_up x y _ _
theorem lev_head (c : Nat) (x y : List Nat) : lev (c :: x) (c :: y) = lev x y := dl_head c x y _ _
theorem lev_heads (z x y : List Nat) : lev (z ++ x) (z ++ y) = lev x y := by
  induction z with
  | nil => rfl
  | cons c z ih => rw [List.cons_append, List.cons_append, lev_head, ih]
theorem lev_tail (c : Nat) (x y : List Nat) : lev (x ++ [c]) (y ++ [c]) = lev x y := by
  unfold lev
  rw [List.length_append, List.length_append]
  show dl _ _ (x.length + 1) (y.length + 1) = _
  rw [dl_same (by simp [List.getD_eq_getElem?_getD])]
  refine dl_part _ _ (fun k h => ?_) (fun k h => ?_)
  · simp [List.getD_eq_getElem?_getD, List.getElem?_append_left h]
  · simp [List.getD_eq_getElem?_getD, List.getElem?_append_left h]
theorem lev_tails (z x y : List Nat) : lev (x ++ z) (y ++ z) = lev x y := by
  induction z generalizing x y with
  | nil => rw [List.append_nil, List.append_nil]
  | cons c z ih =>
    have e1 : x ++ c :: z = (x ++ [c]) ++ z := by simp
    have e2 : y ++ c :: z = (y ++ [c]) ++ z := by simp
    rw [e1, e2, ih, lev_tail]
theorem lev_put (c : Nat) (x y : List Nat) : lev x (c :: y) ≤ lev x y + 1 := dl_put c x y _ _
theorem lev_sub {x y : List Nat} (h : List.Sublist x y) : lev x y ≤ y.length - x.length := by
  induction h with
  | slnil => unfold lev; rw [List.length_nil, dl_0]; omega
  | @cons l1 l2 a s ih =>
    have h1 := lev_put a l1 l2
    have h2 := s.length_le
    rw [List.length_cons]
    omega
  | @cons_cons l1 l2 a s ih =>
    rw [lev_head, List.length_cons, List.length_cons]
    omega
theorem lev_sub_eq {x y : List Nat} (h : List.Sublist x y) : lev x y = y.length - x.length := by
  have h1 := lev_sub h
  have h2 := lev_low x y
  omega
theorem lev_self (x : List Nat) : lev x x = 0 := by
  have := lev_sub (List.Sublist.refl x)
  omega

/-! the band: k is the place in it -/
def bval (x y : List Nat) (most i k : Nat) : Int := if most ≤ i + k ∧ i + k ≤ most + y.length then ((min (dl x y i (i + k - most)) (most + 1) : Nat) : Int) else (most : Int) + 1
def bandL (x y : List Nat) (most i : Nat) : List Int := (List.range (2 * most + 1)).map (bval x y most i)
theorem bandL_len (x y : List Nat) (most i : Nat) : (bandL x y most i).length = 2 * most + 1 := by unfold bandL; rw [List.length_map, List.length_range]
theorem bandL_at (x y : List Nat) {most i k : Nat} (h : k < 2 * most + 1) : (bandL x y most i)[k]? = some (bval x y most i k) := by
  unfold bandL
  rw [List.getElem?_map, List.getElem?_range h]
  rfl
theorem bval_0 (x y : List Nat) (most k : Nat) (hk : k ≤ 2 * most) : bval x y most 0 k = if most ≤ k ∧ k ≤ most + y.length then (k : Int) - most else (most : Int) + 1 := by
  unfold bval
  rw [Nat.zero_add, dl_0]
  split <;> omega
theorem bstep {x y : List Nat} {most i k : Nat} {m : Int} (h0 : m ≤ most + 1)
    (h1 : most < i + 1 + k → i + 1 + k ≤ most + y.length → m ≤ bval x y most i k + un x y i (i + k - most))
    (h2 : most < i + 1 + k → i + 1 + k ≤ most + y.length → 0 < k → m ≤ bval x y most (i + 1) (k - 1) + 1)
    (h3 : most ≤ i + 1 + k → i + 1 + k ≤ most + y.length → k < 2 * most → m ≤ bval x y most i (k + 1) + 1)
    (hm : m = most + 1 ∨ (most < i + 1 + k ∧ i + 1 + k ≤ most + y.length ∧ m = bval x y most i k + un x y i (i + k - most)) ∨
      (most < i + 1 + k ∧ i + 1 + k ≤ most + y.length ∧ 0 < k ∧ m = bval x y most (i + 1) (k - 1) + 1) ∨ (most ≤ i + 1 + k ∧ i + 1 + k ≤ most + y.length ∧ k < 2 * most ∧ m = bval x y most i (k + 1) + 1))
    (hk : k ≤ 2 * most) : m = bval x y most (i + 1) k := by
  by_cases ho : most ≤ i + 1 + k ∧ i + 1 + k ≤ most + y.length
  · obtain ⟨ha, hb⟩ := ho
    have e0 : bval x y most (i + 1) k = ((min (dl x y (i + 1) (i + 1 + k - most)) (most + 1) : Nat) : Int) := by
      unfold bval
      rw [if_pos ⟨ha, hb⟩]
    have e3 : bval x y most i (k + 1) = ((min (dl x y i (i + 1 + k - most)) (most + 1) : Nat) : Int) := by
      unfold bval
      rw [if_pos (by omega), show i + (k + 1) - most = i + 1 + k - most by omega]
    by_cases hz : i + 1 + k = most
    · rw [show i + 1 + k - most = 0 by omega, dl_r0] at e0 e3
      have g3 := h3 (by omega) hb
      rw [e3] at g3 hm
      rw [e0]
      omega
    · obtain ⟨j, hj⟩ : ∃ j, i + 1 + k - most = j + 1 := ⟨i + k - most, by omega⟩
      rw [hj, dl_s] at e0
      rw [hj] at e3
      have e1 : bval x y most i k = ((min (dl x y i j) (most + 1) : Nat) : Int) := by
        unfold bval
        rw [if_pos (by omega), show i + k - most = j by omega]
      have ej : i + k - most = j := by omega
      have g1 := h1 (by omega) hb
      have g2 := h2 (by omega) hb
      have g3 := h3 (by omega) hb
      have l2 := dl_low x y (i + 1) j
      have l3 := dl_low x y i (j + 1)
      have u := un_le x y i j
      rw [e1, ej] at g1 hm
      rw [e3] at g3 hm
      by_cases hk0 : 0 < k
      · have e2 : bval x y most (i + 1) (k - 1) = ((min (dl x y (i + 1) j) (most + 1) : Nat) : Int) := by
          unfold bval
          rw [if_pos (by omega), show i + 1 + (k - 1) - most = j by omega]
        rw [e2] at g2 hm
        rw [e0]
        omega
      · rw [e0]
        omega
  · have e0 : bval x y most (i + 1) k = (most : Int) + 1 := by
      unfold bval
      rw [if_neg ho]
    rw [e0]
    omega
/-- what the last row tells -/
theorem band_end (x y : List Nat) {most : Nat} (h : x.length ≤ y.length) (hm : y.length ≤ most + x.length) : bval x y most x.length (y.length - x.length + most) = ((min (lev x y) (most + 1) : Nat) : Int) := by
  unfold bval lev
  rw [if_pos (by omega), show x.length + (y.length - x.length + most) - most = y.length by omega]
/-- both ends cut away -/
theorem lev_cutT {x y : List Nat} {j : Nat} (h : x.reverse.take j = y.reverse.take j) : lev (x.take (x.length - j)) (y.take (y.length - j)) = lev x y := by
  have e : x.drop (x.length - j) = y.drop (y.length - j) := by
    rw [List.take_reverse, List.take_reverse] at h
    exact List.reverse_inj.mp h
  have h1 : lev (x.take (x.length - j) ++ x.drop (x.length - j)) (y.take (y.length - j) ++ y.drop (y.length - j)) = lev (x.take (x.length - j)) (y.take (y.length - j)) := by
    rw [← e]
    exact lev_tails _ _ _
  rw [List.take_append_drop, List.take_append_drop] at h1
  exact h1.symm
theorem lev_cutH {x y : List Nat} {k : Nat} (h : x.take k = y.take k) : lev (x.drop k) (y.drop k) = lev x y := by
  have h1 : lev (x.take k ++ x.drop k) (y.take k ++ y.drop k) = lev (x.drop k) (y.drop k) := by
    rw [← h]
    exact lev_heads _ _ _
  rw [List.take_append_drop, List.take_append_drop] at h1
  exact h1.symm
end Lv
set_option Elab.async false
set_option linter.all false
set_option maxHeartbeats 1000000
/-! Lev2: the distance's triangle and what it says of joined rows. Plain Lean. -/
namespace Lv
theorem un_tri (x y z : List Nat) (i j k : Nat) : un x z i k ≤ un x y i j + un y z j k := by
  unfold un
  by_cases h1 : x.getD i 0 = y.getD j 0
  · by_cases h2 : y.getD j 0 = z.getD k 0
    · rw [if_pos (h1.trans h2)]; omega
    · rw [if_neg h2]; split <;> omega
  · rw [if_neg h1]; split <;> omega
theorem dl_tri (x y z : List Nat) : ∀ i j k, dl x z i k ≤ dl x y i j + dl y z j k
  | 0, j, k => by
    have h := dl_low y z j k
    rw [dl_0, dl_0]
    omega
  | i + 1, j, 0 => by
    have h := dl_low x y (i + 1) j
    rw [dl_r0, dl_r0]
    omega
  | i + 1, 0, k + 1 => by
    have h := dl_up x z (i + 1) (k + 1)
    rw [dl_r0, dl_0]
    omega
  | i + 1, j + 1, k + 1 => by
    have t1 := dl_tri x y z i j k
    have t2 := dl_tri x y z i (j + 1) (k + 1)
    have t3 := dl_tri x y z (i + 1) (j + 1) k
    have t4 := dl_tri x y z (i + 1) j (k + 1)
    have t5 := dl_tri x y z (i + 1) j k
    have t6 := dl_tri x y z i j (k + 1)
    have u := un_tri x y z i j k
    have e1 := dl_s x y i j
    have e2 := dl_s y z j k
    have e3 := dl_s x z i k
    omega
termination_by i j k => i + j + k
theorem lev_tri (x y z : List Nat) : lev x z ≤ lev x y + lev y z := dl_tri x y z _ _ _
/-- one gap more -/
theorem gap_add {A B b0 b1 u v : List Nat} {t : Nat} (hb : b0 = [] ∨ b1 = []) (h : lev (A ++ b1) (B ++ b0) ≤ t) : lev (A ++ u) (B ++ v) ≤ t + lev (b0 ++ u) (b1 ++ v) := by
  rcases hb with rfl | rfl
  · have h1 := lev_tri (A ++ u) (A ++ (b1 ++ v)) (B ++ v)
    have h2 := lev_heads A u (b1 ++ v)
    have h3 := lev_tails v (A ++ b1) B
    rw [List.append_assoc] at h3
    rw [List.append_nil] at h
    rw [List.nil_append]
    omega
  · have h1 := lev_tri (A ++ u) (B ++ (b0 ++ u)) (B ++ v)
    have h2 := lev_heads B (b0 ++ u) v
    have h3 := lev_tails u A (B ++ b0)
    rw [List.append_assoc] at h3
    rw [List.append_nil] at h
    rw [List.nil_append]
    omega
end Lv
set_option Elab.async false
set_option linter.all false
set_option maxHeartbeats 1000000
/-! Wd: lags behind words. Plain Lean. -/
namespace Wd
/-- the lag behind two texts -/
def bh (x y : List Nat) : Option (List Nat × List Nat) := if x.take y.length = y then some (x.drop y.length, []) else if y.take x.length = x then some ([], y.drop x.length) else none
theorem take_app (c x : List Nat) (n : Nat) : (c ++ x).take (c.length + n) = c ++ x.take n := by
  induction c with
  | nil => simp
  | cons a c ih => rw [List.cons_append, List.length_cons, show c.length + 1 + n = (c.length + n) + 1 by omega, List.take_succ_cons, ih, List.cons_append]
theorem drop_app (c x : List Nat) (n : Nat) : (c ++ x).drop (c.length + n) = x.drop n := by
  induction c with
  | nil => simp
  | cons a c ih => rw [List.cons_append, List.length_cons, show c.length + 1 + n = (c.length + n) + 1 by omega, List.drop_succ_cons, ih]
theorem bh_app (c x y : List Nat) : bh (c ++ x) (c ++ y) = bh x y := by
  unfold bh
  rw [List.length_append, List.length_append, take_app, take_app, drop_app, drop_app]
  simp only [List.append_cancel_left_eq]
theorem bh_some {x y u v : List Nat} (h : bh x y = some (u, v)) : ∃ c, x = c ++ u ∧ y = c ++ v ∧ (u = [] ∨ v = []) := by
  unfold bh at h
  by_cases h1 : x.take y.length = y
  · rw [if_pos h1] at h
    cases h
    exact ⟨y, by have := List.take_append_drop y.length x; rw [h1] at this; exact this.symm, by simp, .inr rfl⟩
  · rw [if_neg h1] at h
    by_cases h2 : y.take x.length = x
    · rw [if_pos h2] at h
      cases h
      exact ⟨x, by simp, by have := List.take_append_drop x.length y; rw [h2] at this; exact this.symm, .inl rfl⟩
    · rw [if_neg h2] at h
      cases h
theorem bh_more {x y u v : List Nat} (a b : List Nat) (h : bh x y = some (u, v)) : bh (x ++ a) (y ++ b) = bh (u ++ a) (v ++ b) := by
  obtain ⟨c, rfl, rfl, _⟩ := bh_some h
  rw [List.append_assoc, List.append_assoc, bh_app]
theorem bh_turn (x y : List Nat) : bh y x = (bh x y).map fun p => (p.2, p.1) := by
  unfold bh
  by_cases h1 : x.take y.length = y
  · by_cases h2 : y.take x.length = x
    · have l1 := congrArg List.length h1
      have l2 := congrArg List.length h2
      rw [List.length_take] at l1 l2
      have e : x.length = y.length := by omega
      rw [if_pos h2, if_pos h1]
      have d1 : y.drop x.length = [] := List.drop_of_length_le (by omega)
      have d2 : x.drop y.length = [] := List.drop_of_length_le (by omega)
      simp [d1, d2]
    · rw [if_neg h2, if_pos h1, if_pos h1]
      rfl
  · by_cases h2 : y.take x.length = x
    · rw [if_pos h2, if_neg h1, if_pos h2]
      rfl
    · rw [if_neg h2, if_neg h1, if_neg h1, if_neg h2]
      rfl
theorem bh_len {x y u v : List Nat} (h : bh x y = some (u, v)) : u.length ≤ x.length ∧ v.length ≤ y.length := by
  obtain ⟨c, rfl, rfl, _⟩ := bh_some h
  simp
end Wd
set_option Elab.async false
set_option linter.all false
set_option maxRecDepth 100000
set_option maxHeartbeats 4000000
namespace K11
open PySem PySem.Spec PyProof.Rows L2 SL

def top (i : Nat) : Stmt := PySem.Challenge.pw_spoiltline_k11_lags_behind_words.main.body.getD i (.Pass ⟨0, 0, 0, 0⟩)
abbrev s_InvalidText___init__ : Stmt := inClass (top 2) 0
abbrev N_InvalidText___init__ : List Str := ["self", "given"]
theorem sc_InvalidText___init__ : FnScope N_InvalidText___init__ ["self", "given"] (defScope s_InvalidText___init__) := ⟨rfl, rfl, rfl, by decide +kernel, rfl, by decide +kernel, by decide +kernel⟩
abbrev s_is_text : Stmt := top 5
abbrev N_is_text : List Str := ["value", "letter"]
theorem sc_is_text : FnScope N_is_text ["value"] (defScope s_is_text) := ⟨rfl, rfl, rfl, by decide +kernel, rfl, by decide +kernel, by decide +kernel⟩
abbrev s_is_lag : Stmt := top 6
abbrev N_is_lag : List Str := ["value"]
theorem sc_is_lag : FnScope N_is_lag ["value"] (defScope s_is_lag) := ⟨rfl, rfl, rfl, by decide +kernel, rfl, by decide +kernel, by decide +kernel⟩
abbrev s_check_text : Stmt := top 7
abbrev N_check_text : List Str := ["text"]
theorem sc_check_text : FnScope N_check_text ["text"] (defScope s_check_text) := ⟨rfl, rfl, rfl, by decide +kernel, rfl, by decide +kernel, by decide +kernel⟩
abbrev s_lag_after : Stmt := top 9
abbrev N_lag_after : List Str := ["left", "right"]
theorem sc_lag_after : FnScope N_lag_after ["left", "right"] (defScope s_lag_after) := ⟨rfl, rfl, rfl, by decide +kernel, rfl, by decide +kernel, by decide +kernel⟩
abbrev s_check_lag : Stmt := top 10
abbrev N_check_lag : List Str := ["lag"]
theorem sc_check_lag : FnScope N_check_lag ["lag"] (defScope s_check_lag) := ⟨rfl, rfl, rfl, by decide +kernel, rfl, by decide +kernel, by decide +kernel⟩
abbrev s_lag_behind : Stmt := top 11
abbrev N_lag_behind : List Str := ["lag", "one", "other"]
theorem sc_lag_behind : FnScope N_lag_behind ["lag", "one", "other"] (defScope s_lag_behind) := ⟨rfl, rfl, rfl, by decide +kernel, rfl, by decide +kernel, by decide +kernel⟩
abbrev s__law_cell : Stmt := top 13
abbrev N__law_cell : List Str := ["script", "k"]
theorem sc__law_cell : FnScope N__law_cell ["script", "k"] (defScope s__law_cell) := ⟨rfl, rfl, rfl, by decide +kernel, rfl, by decide +kernel, by decide +kernel⟩
abbrev s__law_box : Stmt := top 14
abbrev N__law_box : List Str := ["great"]
theorem sc__law_box : FnScope N__law_box ["great"] (defScope s__law_box) := ⟨rfl, rfl, rfl, by decide +kernel, rfl, by decide +kernel, by decide +kernel⟩
abbrev s__law_take : Stmt := top 15
abbrev N__law_take : List Str := ["box", "many", "mixed", "digit"]
theorem sc__law_take : FnScope N__law_take ["box", "many"] (defScope s__law_take) := ⟨rfl, rfl, rfl, by decide +kernel, rfl, by decide +kernel, by decide +kernel⟩
abbrev s__law_letters : Stmt := top 16
abbrev N__law_letters : List Str := ["box", "first", "second"]
theorem sc__law_letters : FnScope N__law_letters ["box"] (defScope s__law_letters) := ⟨rfl, rfl, rfl, by decide +kernel, rfl, by decide +kernel, by decide +kernel⟩
abbrev s__law_word : Stmt := top 17
abbrev N__law_word : List Str := ["box", "letters", "size", "turn"]
theorem sc__law_word : FnScope N__law_word ["box", "letters", "size"] (defScope s__law_word) := ⟨rfl, rfl, rfl, by decide +kernel, rfl, by decide +kernel, by decide +kernel⟩
abbrev s__law_chain : Stmt := top 18
abbrev N__law_chain : List Str := ["box", "letters", "whole", "turn", "spoil", "spots", "steps", "row", "side", "spot", "ahead"]
theorem sc__law_chain : FnScope N__law_chain ["box", "letters"] (defScope s__law_chain) := ⟨rfl, rfl, rfl, by decide +kernel, rfl, by decide +kernel, by decide +kernel⟩
abbrev s__law_behind : Stmt := top 19
abbrev N__law_behind : List Str := ["left", "right"]
theorem sc__law_behind : FnScope N__law_behind ["left", "right"] (defScope s__law_behind) := ⟨rfl, rfl, rfl, by decide +kernel, rfl, by decide +kernel, by decide +kernel⟩
abbrev s__law_turned : Stmt := top 20
abbrev N__law_turned : List Str := ["pair"]
theorem sc__law_turned : FnScope N__law_turned ["pair"] (defScope s__law_turned) := ⟨rfl, rfl, rfl, by decide +kernel, rfl, by decide +kernel, by decide +kernel⟩
abbrev s__law_steps_right : Stmt := top 21
abbrev N__law_steps_right : List Str := ["steps", "row", "here", "left", "right", "due", "told"]
theorem sc__law_steps_right : FnScope N__law_steps_right ["steps"] (defScope s__law_steps_right) := ⟨rfl, rfl, rfl, by decide +kernel, rfl, by decide +kernel, by decide +kernel⟩
abbrev s__law_stretches_right : Stmt := top 22
abbrev N__law_stretches_right : List Str := ["steps", "start", "ahead", "here", "goal", "more", "due", "side", "row"]
theorem sc__law_stretches_right : FnScope N__law_stretches_right ["steps"] (defScope s__law_stretches_right) := ⟨rfl, rfl, rfl, by decide +kernel, rfl, by decide +kernel, by decide +kernel⟩
abbrev s__law_bad_text : Stmt := top 23
abbrev N__law_bad_text : List Str := ["box", "letters", "way", "word"]
theorem sc__law_bad_text : FnScope N__law_bad_text ["box", "letters"] (defScope s__law_bad_text) := ⟨rfl, rfl, rfl, by decide +kernel, rfl, by decide +kernel, by decide +kernel⟩
abbrev s__law_bad_lag : Stmt := top 24
abbrev N__law_bad_lag : List Str := ["box", "letters", "word", "odd", "way"]
theorem sc__law_bad_lag : FnScope N__law_bad_lag ["box", "letters"] (defScope s__law_bad_lag) := ⟨rfl, rfl, rfl, by decide +kernel, rfl, by decide +kernel, by decide +kernel⟩
abbrev s__law_told : Stmt := top 25
abbrev N__law_told : List Str := ["turn", "parts", "e"]
theorem sc__law_told : FnScope N__law_told ["turn", "parts"] (defScope s__law_told) := ⟨rfl, rfl, rfl, by decide +kernel, rfl, by decide +kernel, by decide +kernel⟩
abbrev s__law_refuses : Stmt := top 26
abbrev N__law_refuses : List Str := ["turn", "parts", "place", "told", "due", "size"]
theorem sc__law_refuses : FnScope N__law_refuses ["turn", "parts", "place"] (defScope s__law_refuses) := ⟨rfl, rfl, rfl, by decide +kernel, rfl, by decide +kernel, by decide +kernel⟩
abbrev s__law_copy : Stmt := top 27
abbrev N__law_copy : List Str := ["value"]
theorem sc__law_copy : FnScope N__law_copy ["value"] (defScope s__law_copy) := ⟨rfl, rfl, rfl, by decide +kernel, rfl, by decide +kernel, by decide +kernel⟩
abbrev s__law_refusals_right : Stmt := top 28
abbrev N__law_refusals_right : List Str := ["box", "letters", "lags", "words", "turn"]
theorem sc__law_refusals_right : FnScope N__law_refusals_right ["box", "letters"] (defScope s__law_refusals_right) := ⟨rfl, rfl, rfl, by decide +kernel, rfl, by decide +kernel, by decide +kernel⟩
abbrev s__law_right : Stmt := top 29
abbrev N__law_right : List Str := ["box", "letters", "chain", "beside", "steps"]
theorem sc__law_right : FnScope N__law_right ["box"] (defScope s__law_right) := ⟨rfl, rfl, rfl, by decide +kernel, rfl, by decide +kernel, by decide +kernel⟩
abbrev s_law : Stmt := top 30
abbrev N_law : List Str := ["script", "k"]
theorem sc_law : FnScope N_law ["script"] (defScope s_law) := ⟨rfl, rfl, rfl, by decide +kernel, rfl, by decide +kernel, by decide +kernel⟩
structure Txt (K : PySem.W.Frag) (mg : Str → Option Value) : Prop where
  d_is_text : DefAt K mg "is_text" s_is_text ["value"]
  d_is_lag : DefAt K mg "is_lag" s_is_lag ["value"]
  d_check_text : DefAt K mg "check_text" s_check_text ["text"]
  d_lag_after : DefAt K mg "lag_after" s_lag_after ["left", "right"]
  d_check_lag : DefAt K mg "check_lag" s_check_lag ["lag"]
  d_lag_behind : DefAt K mg "lag_behind" s_lag_behind ["lag", "one", "other"]
  d__law_cell : DefAt K mg "_law_cell" s__law_cell ["script", "k"]
  d__law_box : DefAt K mg "_law_box" s__law_box ["great"]
  d__law_take : DefAt K mg "_law_take" s__law_take ["box", "many"]
  d__law_letters : DefAt K mg "_law_letters" s__law_letters ["box"]
  d__law_word : DefAt K mg "_law_word" s__law_word ["box", "letters", "size"]
  d__law_chain : DefAt K mg "_law_chain" s__law_chain ["box", "letters"]
  d__law_behind : DefAt K mg "_law_behind" s__law_behind ["left", "right"]
  d__law_turned : DefAt K mg "_law_turned" s__law_turned ["pair"]
  d__law_steps_right : DefAt K mg "_law_steps_right" s__law_steps_right ["steps"]
  d__law_stretches_right : DefAt K mg "_law_stretches_right" s__law_stretches_right ["steps"]
  d__law_bad_text : DefAt K mg "_law_bad_text" s__law_bad_text ["box", "letters"]
  d__law_bad_lag : DefAt K mg "_law_bad_lag" s__law_bad_lag ["box", "letters"]
  d__law_told : DefAt K mg "_law_told" s__law_told ["turn", "parts"]
  d__law_refuses : DefAt K mg "_law_refuses" s__law_refuses ["turn", "parts", "place"]
  d__law_copy : DefAt K mg "_law_copy" s__law_copy ["value"]
  d__law_refusals_right : DefAt K mg "_law_refusals_right" s__law_refusals_right ["box", "letters"]
  d__law_right : DefAt K mg "_law_right" s__law_right ["box"]
  d_law : DefAt K mg "law" s_law ["script"]
  x_InvalidText : ErrAt K mg "InvalidText"
  n_abs : mg "abs" = none
  n_all : mg "all" = none
  n_int : mg "int" = none
  n_isinstance : mg "isinstance" = none
  n_len : mg "len" = none
  n_list : mg "list" = none
  n_max : mg "max" = none
  n_min : mg "min" = none
  n_range : mg "range" = none
  n_repr : mg "repr" = none
  n_str : mg "str" = none
  n_sum : mg "sum" = none
  n_tuple : mg "tuple" = none
  g_LETTERS : ∃ t, mg "LETTERS" = some (.str (tx abc) t)
end K11
set_option Elab.async false
set_option linter.all false
set_option maxRecDepth 100000
set_option maxHeartbeats 4000000
namespace K11
open PySem PySem.Spec PyProof.Rows L2 SL Lv Wd
local macro_rules | `(tactic| walk_at "sz") => `(tactic| first
  | assumption
  | omega
  | (simp only [List.length_cons, List.length_nil, List.length_append, List.length_map, List.length_take, List.length_drop, List.length_reverse, List.length_replicate, List.length_range, tx_len, sizeLine_eq, CMul, CDiv, Nat.reduceAdd, Nat.reduceLeDiff]; first | done | omega)
  | decide)
local macro_rules | `(tactic| walk_at "ne") => `(tactic| first
  | assumption
  | exact Ne.symm (by assumption)
  | (refine ne_of_none (H := ?H0) (o := ?oo) ?hh ?hn; (case hn => assumption); (case hh => walk_at "hget"))
  | (refine Ne.symm (ne_of_none (H := ?H0) (o := ?oo) ?hh ?hn); (case hn => assumption); (case hh => walk_at "hget")))
local macro_rules | `(tactic| walk_at "hget") => `(tactic| first
  | assumption
  | exact upd_same
  | (refine (upd_ne ?n).trans ?g; (case n => walk_at "ne"); (case g => walk_at "hget"))
  | (refine fr_get (p := ?pp) (H := ?H0) ?f ?g ?n; (case f => assumption); (case g => walk_at "hget"); (case n => walk_at "ne"))
  | (refine same_get (H := ?H0) ?f ?g; (case f => assumption); (case g => walk_at "hget")))
local macro_rules | `(tactic| walk_at "vget") => `(tactic| first
  | assumption
  | (refine SqL.of ?g; (case g => walk_at "hget"))
  | (refine SqT.of ?g; (case g => walk_at "hget"))
  | (refine sql_new ?n ?g; (case n => assumption); (case g => walk_at "vget"))
  | (refine sqt_new ?n ?g; (case n => assumption); (case g => walk_at "vget"))
  | (refine sql_upd ?n ?g; (case n => walk_at "ne"); (case g => walk_at "vget"))
  | (refine sqt_upd ?n ?g; (case n => walk_at "ne"); (case g => walk_at "vget"))
  | (refine Same.seq (H := ?H0) ?f ?g; (case f => assumption); (case g => walk_at "vget"))
  | (refine Same.seqT (H := ?H0) ?f ?g; (case f => assumption); (case g => walk_at "vget"))
  | (refine fr_sql (b := ?pp) (H := ?H0) ?f ?g ?n; (case f => assumption); (case g => walk_at "vget"); (case n => walk_at "ne"))
  | (refine fr_sqt (b := ?pp) (H := ?H0) ?f ?g ?n; (case f => assumption); (case g => walk_at "vget"); (case n => walk_at "ne")))
local macro_rules | `(tactic| walk_at "at") => `(tactic| first
  | assumption
  | rfl
  | (refine atI_n ?h; (case h => first | assumption | rfl))
  | (refine atI_i ?h0 ?h; (case h0 => omega); (case h => first | assumption | rfl)))
local macro_rules | `(tactic| walk_at "v1") => `(tactic| first
  | with_reducible refine w_seq ?_
  | with_reducible refine w_enx ?_
  | with_reducible refine w_ert ?_
  | with_reducible refine w_asg ?_
  | ((with_reducible refine w_var (v := ?vv) ?h ?_); (case h => exact rfl))
  | with_reducible refine w_op ?_
  | with_reducible refine w_c ?_
  | with_reducible refine w_cons ?_
  | with_reducible refine w_nil ?_
  | with_reducible refine w_cb ?_
  | with_reducible refine w_call ?_
  | with_reducible refine w_k ?_
  | with_reducible refine w_i ?_
  | with_reducible refine w_two ?_
  | ((with_reducible refine w_name ?_); (try simp only [List.set_cons_zero, List.set_cons_succ]))
  | with_reducible refine w_ifS ?_
  | with_reducible refine w_ret ?_
  | with_reducible refine w_drop ?_
  | with_reducible refine w_test ?_
  | with_reducible refine w_B ?_
  | with_reducible refine iteT ?_
  | with_reducible refine iteF ?_
  | with_reducible refine w_same ?_
  | ((with_reducible refine w_ifT ?h ?_); (case h => first | rfl | assumption))
  | ((with_reducible refine w_ifF ?h ?_); (case h => first | rfl | assumption))
  | ((with_reducible refine w_diff ?_ ?h); (case h => decide +kernel))
  | ((with_reducible refine w_wp ?h ?_); (case h => rfl); (try simp only [wipe, List.set_cons_zero, List.set_cons_succ, List.foldl_cons, List.foldl_nil]))
  | ((with_reducible refine w_acc (acc := ?aa) ?h ?_ ?z); (case h => walk_at "hget"); (case z => walk_at "sz"))
  | with_reducible refine w_addI ?_
  | with_reducible refine w_subI ?_
  | with_reducible refine w_lt ?_
  | with_reducible refine w_le ?_
  | with_reducible refine w_gt ?_
  | with_reducible refine w_ge ?_
  | with_reducible refine w_eqI ?_
  | with_reducible refine w_neI ?_
  | with_reducible refine w_eqS ?_
  | with_reducible refine w_neS ?_
  | ((with_reducible refine w_mulI ?_ ?h); (case h => walk_at "sz"))
  | ((with_reducible refine w_divI ?_ ?h); (case h => walk_at "sz"))
  | ((with_reducible refine w_addS ?_ ?h); (case h => walk_at "sz"))
  | ((with_reducible refine w_mulS ?_ ?h); (case h => walk_at "sz"))
  | ((with_reducible refine w_ixL (xs := ?xx) (v := ?vv) ?h ?i ?_); (case h => walk_at "vget"); (case i => walk_at "at"))
  | ((with_reducible refine w_ixT (xs := ?xx) (v := ?vv) ?h ?i ?_); (case h => walk_at "vget"); (case i => walk_at "at"))
  | ((with_reducible refine w_ixS (c := ?cc) ?i ?_ ?h); (case i => walk_at "at"); (case h => walk_at "sz"))
  | ((with_reducible refine w_lenS' ?_ ?h); (case h => walk_at "sz"))
  | ((with_reducible refine w_lenL' (xs := ?xx) ?h ?_); (case h => walk_at "vget"))
  | ((with_reducible refine w_lenT' (xs := ?xx) ?h ?_); (case h => walk_at "vget"))
  | with_reducible refine w_isnN ?_
  | with_reducible refine w_isnI ?_
  | with_reducible refine w_isnS ?_
  | with_reducible refine w_isnR ?_
  | with_reducible refine w_isnB ?_
  | with_reducible refine w_isoN ?_
  | with_reducible refine w_isoI ?_
  | with_reducible refine w_isoS ?_
  | with_reducible refine w_isoR ?_
  | with_reducible refine w_isoB ?_
  | with_reducible refine w_abs ?_
  | with_reducible refine w_int ?_
  | with_reducible refine w_intB ?_
  | with_reducible refine w_min2 ?_
  | with_reducible refine w_max2 ?_
  | with_reducible refine w_min3 ?_
  | with_reducible refine w_sl ?_
  | with_reducible refine w_np ?_
  | with_reducible refine w_part ?_
  | ((with_reducible refine w_sStN ?_ ?h); (case h => walk_at "sz"))
  | ((with_reducible refine w_sSfN ?_ ?h); (case h => walk_at "sz"))
  | ((with_reducible refine w_sSt ?_ ?h); (case h => walk_at "sz"))
  | ((with_reducible refine w_sSf ?_ ?h); (case h => walk_at "sz"))
  | with_reducible refine w_and ?_
  | with_reducible refine w_or ?_
  | with_reducible refine w_not ?_
  | with_reducible refine w_andV ?_
  | with_reducible refine w_orV ?_
  | with_reducible refine w_notV ?_
  | with_reducible refine w_ifE ?_
  | with_reducible refine w_tup ?_
  | with_reducible refine w_lst ?_
  | with_reducible refine w_chain ?_
  | ((with_reducible refine w_par ?_); (try simp only [List.set_cons_zero, List.set_cons_succ]))
  | ((with_reducible refine w_par3 ?_); (try simp only [List.set_cons_zero, List.set_cons_succ]))
  | with_reducible refine w_three ?_
  | with_reducible refine w_un ?_
  | with_reducible refine w_neg ?_
  | with_reducible refine w_next ?_
  | with_reducible refine w_ebk ?_
  | with_reducible refine w_ect ?_
  | with_reducible refine w_for ?_
  | with_reducible refine w_lc ?_
  | with_reducible refine w_yes ?_
  | with_reducible refine w_il ?_
  | with_reducible refine w_it ?_
  | with_reducible refine w_isx ?_
  | with_reducible refine w_ir1 ?_
  | with_reducible refine w_ir2 ?_
  | with_reducible refine w_ies ?_
  | with_reducible refine w_s1 ?_
  | with_reducible refine w_s1l ?_
  | ((with_reducible refine w_r1 ?_ ?h); (case h => walk_at "sz"))
  | ((with_reducible refine w_r2 ?_ ?h); (case h => walk_at "sz"))
  | ((with_reducible refine w_l1 (xs := ?xx) ?h ?_); (case h => walk_at "vget"))
  | ((with_reducible refine w_t1 (xs := ?xx) ?h ?_); (case h => walk_at "vget"))
  | ((with_reducible refine w_isL (xs := ?xx) ?h ?_); (case h => walk_at "vget"))
  | with_reducible refine w_isS ?_
  | ((with_reducible refine w_app (xs := ?xx) ?h ?_ ?z); (case h => walk_at "hget"); (case z => walk_at "sz"))
  | with_reducible refine w_inC ?_
  | with_reducible refine w_rev ?_
  | ((with_reducible refine w_rev1S ?_ ?h); (case h => walk_at "sz"))
  | with_reducible refine w_lrg ?_
  | with_reducible refine w_brk ?_
  | with_reducible refine w_cont ?_
  | with_reducible refine w_retN ?_
  | with_reducible refine w_bm ?_
  | with_reducible refine w_bm0 ?_
  | with_reducible refine w_m1 ?_
  | with_reducible refine w_sub ?_
  | ((with_reducible refine w_setL (xs := ?xx) (j := ?jj) ?h ?i ?_); (case h => walk_at "hget"); (case i => first | rfl | assumption); (try simp only [Int.reduceToNat, List.set_cons_zero, List.set_cons_succ]))
  | with_reducible refine w_ip ?_
  | with_reducible refine w_gnil ?_
  | with_reducible refine w_gcons ?_
  | ((with_reducible refine w_gL (xs := ?xx) ?h ?_ ?n); (case h => walk_at "vget"); (case n => rfl))
  | ((with_reducible refine w_gT (xs := ?xx) ?h ?_ ?n); (case h => walk_at "vget"); (case n => rfl))
  | ((with_reducible refine w_aug (v := ?vv) ?h ?_); (case h => exact rfl)))
local macro_rules | `(tactic| walk_at "v") => `(tactic| repeat walk_at "v1")
local macro_rules | `(tactic| walk_at "v0") => `(tactic| (simp only [L2.start, cxK, ends_rt, List.map_cons, List.map_nil, List.length_cons, List.length_nil, Nat.reduceAdd, Nat.reduceSub, List.replicate_succ, List.replicate_zero, List.append_nil, List.cons_append, List.nil_append]; walk_at "v"))
local macro_rules | `(tactic| walk_at "u1") => `(tactic| first
  | with_reducible refine w_seqA ?_
  | with_reducible refine w_seqD ?_
  | with_reducible refine w_seqP ?_
  | with_reducible refine w_seqP3 ?_
  | with_reducible refine w_seqG ?_
  | ((fail_if_success (with_reducible refine w_seq ?_)); walk_at "v1"))
local macro_rules | `(tactic| walk_at "u") => `(tactic| repeat walk_at "u1")
local macro_rules | `(tactic| walk_at "u0") => `(tactic| (simp only [L2.start, cxK, ends_rt, List.map_cons, List.map_nil, List.length_cons, List.length_nil, Nat.reduceAdd, Nat.reduceSub, List.replicate_succ, List.replicate_zero, List.append_nil, List.cons_append, List.nil_append]; walk_at "u"))
local macro_rules | `(tactic| walk_at "t1") => `(tactic| ((fail_if_success (with_reducible refine w_seq ?_)); walk_at "v1"))
local macro_rules | `(tactic| walk_at "t") => `(tactic| repeat walk_at "t1")

section
variable {P : Program} {w : World} {K : PySem.W.Frag} {mg : Str → Option Value} {base : Heap}
def spCellG (K : PySem.W.Frag) : Sp := fun vs H Q _ => ∃ (a : Addr) (ns : List Int) (k : Nat), vs = [.ref a, .int k] ∧ SqL K H a (ns.map V.int) ∧ k ≤ 1000 ∧ ∀ i H', Same H H' → Q (.int i) H'
theorem ok_cell (T : Txt K mg) : Cal P w K mg base 1 "_law_cell" ["script", "k"] (spCellG K) := by
  refine cal0 T.d__law_cell sc__law_cell (by rintro vs H Q E ⟨a, ns, k, rfl, _⟩; rfl) (fun cdv f A outer s H vs Q E hr hgd h => ?_)
  obtain ⟨a, ns, k, rfl, hS, hk, q⟩ := h
  refine ⟨_, (pss_one (ps_ret (pe_ifExp (pt_cmpR uLt (pv 1) (pe_callB (kLen K rfl) (by rfl) T.n_len (by decide +kernel) (pa_cons (pv 0) pa_nil)) (nomark _)) (pe_ix (kIx K rfl) (pv 0) (pv 1) (fun _ _ => rfl)) (pe_op (kAdd K rfl) (pe_op uMul pe_int (pv 1)) (pe_op uMod (pe_callB (kSum K rfl rfl) (by rfl) T.n_sum (by decide +kernel) (pa_cons (pe_slice (kSl K rfl) (pv 0) po_none (po_some pe_int)) pa_nil)) pe_int))))), ?_⟩
  walk_at "v0"
  refine w_if (fun h => ?_) (fun h => ?_)
  · simp only [decide_eq_true_eq, List.length_map] at h
    have hk2 : k < ns.length := by omega
    have g1 := int_at hk2
    walk_at "v"
    exact q _ _ (Same.refl _)
  · walk_at "v"
    refine w_sLt (by walk_at "vget") (by omega) fun p hp => ?_
    rw [cut1]
    walk_at "v"
    refine w_sum (SqL.of upd_same) ?_
    walk_at "v"
    refine w_modN (by omega) fun r _ h1 h2 => ?_
    walk_at "v"
    exact q _ _ (same_new hp)
def spBox : Sp := fun vs H Q _ => ∃ (i : Int), vs = [.int i] ∧ ∀ p H', Same H H' → H p = none → Box H' p 0 → Q (.ref p) H'
theorem ok_box (T : Txt K mg) : Cal P w K mg base 1 "_law_box" ["great"] spBox := by
  refine cal0 T.d__law_box sc__law_box (by rintro vs H Q E ⟨i, rfl, _⟩; rfl) (fun cdv f A outer s H vs Q E hr hgd h => ?_)
  obtain ⟨i, rfl, q⟩ := h
  refine ⟨_, (pss_one (ps_ret (pe_lst (pa_cons (pe_callB uAbs (by rfl) T.n_abs (by decide +kernel) (pa_cons (pv 0) pa_nil)) (pa_cons (pe_cmpR uGe (pe_callB uAbs (by rfl) T.n_abs (by decide +kernel) (pa_cons (pv 0) pa_nil)) (pe_op uPow pe_int pe_int) (nomark _)) (pa_cons (pe_op uMod (pe_callTy uInt (by rfl) T.n_int (by decide +kernel) (pa_cons (pe_callB uAbs (by rfl) T.n_abs (by decide +kernel) (pa_cons (pv 0) pa_nil)) pa_nil)) pe_int) (pa_cons pe_int pa_nil))))))), ?_⟩
  walk_at "v0"
  refine w_powI ?_ (by omega)
  walk_at "v"
  refine w_modN (by omega) fun r _ h1 h2 => ?_
  walk_at "v"
  refine ⟨by walk_at "sz", fun p hp => ?_⟩
  exact q p _ (same_new hp) hp ⟨_, _, r, 0, upd_same, by split <;> omega, h1, by omega, Nat.le_refl _⟩
def spTake : Sp := fun vs H Q _ => ∃ (p : Addr) (n : Int) (c : Nat), vs = [.ref p, .int n] ∧ Box H p c ∧ c ≤ 100000000 ∧ 0 < n ∧ n < 1073741824 ∧
  ∀ r H', 0 ≤ r → r < n → Box H' p (c + 1) → Fr p H H' → Q (.int r) H'
theorem ok_take (T : Txt K mg) : Cal P w K mg base 1 "_law_take" ["box", "many"] spTake := by
  refine cal0 T.d__law_take sc__law_take (by rintro vs H Q E ⟨p, n, c, rfl, _⟩; rfl) (fun cdv f A outer s H vs Q E hr hgd h => ?_)
  obtain ⟨p, n, c, rfl, ⟨g, b, m, d, hb, hg, hm, hm2, hd⟩, hc, hn, hn2, q⟩ := h
  refine ⟨_, (pss_cons (ps_if (PW.pt (pw_and (pt_val (pe_ix (kIx K rfl) (pv 0) pe_int (fun _ _ => rfl))) (pw_and1 (pt_cmpR uGt (pe_ix (kIx K rfl) (pv 0) pe_int (fun _ _ => rfl)) pe_int (nomark _))))) (pss_cons (ps_set (i := 3) sc__law_take.nd rfl (by first | exact Or.inl rfl | exact Or.inr rfl) (pe_op uMod (pe_callTy uInt (by rfl) T.n_int (by decide +kernel) (pa_cons (pe_ix (kIx K rfl) (pv 0) pe_int (fun _ _ => rfl)) pa_nil)) (pv 1)))
  (pss_cons (ps_asg (pe_op uDiv (pe_ix (kIx K rfl) (pv 0) pe_int (fun _ _ => rfl)) (pv 1)) (pg_sub (pv 0) pe_int set_list))
  (pss_one (ps_ret (pv 3))))) pss_nil)
  (pss_cons (ps_asg (pe_op (kAdd K rfl) (pe_ix (kIx K rfl) (pv 0) pe_int (fun _ _ => rfl)) pe_int) (pg_sub (pv 0) pe_int set_list))
  (pss_cons (ps_set (i := 2) sc__law_take.nd rfl (by first | exact Or.inl rfl | exact Or.inr rfl) (pe_op uMod (pe_callTy uInt (by rfl) T.n_int (by decide +kernel) (pa_cons (pe_op uPow (pe_op (kAdd K rfl) (pe_op (kAdd K rfl) (pe_ix (kIx K rfl) (pv 0) pe_int (fun _ _ => rfl)) (pe_op uMul pe_int (pe_ix (kIx K rfl) (pv 0) pe_int (fun _ _ => rfl)))) pe_int) pe_int) pa_nil)) pe_int))
  (pss_one (ps_ret (pe_op uMod (pe_op uDiv (pe_op uMod (pe_callTy uInt (by rfl) T.n_int (by decide +kernel) (pa_cons (pe_op uPow (pe_op (kAdd K rfl) (pe_op uMul (pv 2) pe_int) (pe_op uMul pe_int (pe_ix (kIx K rfl) (pv 0) pe_int (fun _ _ => rfl)))) pe_int) pa_nil)) pe_int) pe_int) (pv 1))))))), ?_⟩
  walk_at "v0"
  have e1 : ((d + 1 : Nat) : Int) = (d : Int) + 1 := by omega
  refine w_if (fun hb1 => ?_) (fun hb1 => ?_)
  · walk_at "v"
    refine w_if (fun hb2 => ?_) (fun hb2 => ?_)
    · walk_at "v"
      refine w_modN (by omega) fun r _ h1 h2 => ?_
      walk_at "v"
      exact q _ _ h1 h2 ⟨g / n, b, m, d, upd_same, Int.ediv_nonneg hg (by omega), hm, hm2, by omega⟩ (Fr.put (Fr.refl _ _))
    walk_at "v"
    refine w_powI ?_ (by omega)
    walk_at "v"
    refine w_modN (by omega) fun r1 _ h1 h2 => ?_
    walk_at "v"
    refine w_powI ?_ (by omega)
    walk_at "v"
    refine w_modN (by omega) fun r2 _ h3 h4 => ?_
    walk_at "v"
    refine w_modN (by omega) fun r3 _ h5 h6 => ?_
    walk_at "v"
    exact q _ _ h5 h6 ⟨g, b, m, d + 1, (by rw [e1]; exact upd_same), hg, hm, hm2, by omega⟩ (Fr.put (Fr.refl _ _))
  · walk_at "v"
    refine w_powI ?_ (by omega)
    walk_at "v"
    refine w_modN (by omega) fun r1 _ h1 h2 => ?_
    walk_at "v"
    refine w_powI ?_ (by omega)
    walk_at "v"
    refine w_modN (by omega) fun r2 _ h3 h4 => ?_
    walk_at "v"
    refine w_modN (by omega) fun r3 _ h5 h6 => ?_
    walk_at "v"
    exact q _ _ h5 h6 ⟨g, b, m, d + 1, (by rw [e1]; exact upd_same), hg, hm, hm2, by omega⟩ (Fr.put (Fr.refl _ _))
theorem take_w {p : Addr} {n : Int} {N c : Nat} {H : Hp} {Q : VK} {E : XK} (e : n = (N : Int)) (hb : Box H p c) (hc : c ≤ 100000000 ∧ 0 < N ∧ N < 1073741824) (q : ∀ (k : Nat) H', k < N → Box H' p (c + 1) → SL.Fr p H H' → Q (.int k) H') : spTake [.ref p, .int n] H Q E := by
  refine ⟨p, n, c, rfl, hb, hc.1, by omega, by omega, fun r H' r0 r1 b f => ?_⟩
  obtain ⟨k, rfl⟩ := Int.eq_ofNat_of_zero_le r0
  exact q k H' (by omega) b f
def spIsTx (K : PySem.W.Frag) : Sp := fun vs H Q _ => ∃ v b, vs = [v] ∧ IsTx K H v b ∧ ∀ H', Same H H' → Q (.bl b) H'
theorem ok_is_text (T : Txt K mg) : Cal P w K mg base 1 "is_text" ["value"] (spIsTx K) := by
  refine cal0 T.d_is_text sc_is_text (by rintro vs H Q E ⟨v, b, rfl, _⟩; rfl) (fun cdv f A outer s H vs Q E hr hgd h => ?_)
  obtain ⟨v, b, rfl, hv, q⟩ := h
  refine ⟨_, (pss_one (ps_ret (pe_and (pe_callB (kIsi K rfl) (by rfl) T.n_isinstance (by decide +kernel) (pa_cons (pv 0) (pa_cons (pe_bltn (v := .ty "str") (by rfl) T.n_str (by decide +kernel) rfl) pa_nil))) (pe_one (pe_callB (kAll K rfl rfl) (by rfl) T.n_all (by decide +kernel) (pa_cons (pe_lc (own := [("letter", 1)]) rfl sc_is_text.nd (pi_str (pv 0)) (blkOk_by (own := [("letter", 1)]) (N := N_is_text) (sc := defScope s_is_text) (by decide +kernel)) (fun _ _ _ _ _ => (pg_name (i := 1) sc_is_text.nd rfl (by first | exact Or.inl rfl | exact Or.inr rfl))) (fun _ _ _ _ _ => pts_nil) (fun _ _ _ _ _ => (pe_cmpR (kIn K rfl) (pv 1) (pe_gs (by rfl) T.g_LETTERS) (by rfl)))) pa_nil)))))), ?_⟩
  walk_at "v0"
  rcases hv with ⟨l, rfl, hz, rfl⟩ | ⟨rfl, t, ht, hk, hn⟩
  · refine w_isiS ?_ (by decide)
    walk_at "v"
    intro D hD
    refine lc_tx (fun i H' => Same H H' ∧ H' D = some (.lst ((l.take i).map fun c => V.bl (decide (c ∈ abc))))) ⟨same_new hD, upd_same⟩ ?_ ?_
    · rintro i c H1 hi ⟨s1, h1⟩
      have hb := lt_of_get hi
      walk_at "v"
      exact ⟨Same.grow s1 hD, by rw [upd_same, take_more hi, List.map_append]; rfl⟩
    · rintro H1 ⟨s1, h1⟩
      walk_at "v"
      rw [List.take_length] at h1
      refine w_allL (bs := l.map fun c => decide (c ∈ abc)) (SqL.of (by rw [List.map_map]; exact h1)) ?_
      walk_at "v"
      rw [all_let]
      exact q _ s1
  · refine w_isiK ht hk (.inr (.inr (.inl rfl))) ?_
    have e : (t == "str" || (t == "bool" && "str" == "int")) = false := by simp [hn]
    rw [e]
    walk_at "v"
    exact q _ (Same.refl _)
def spIsLg (K : PySem.W.Frag) : Sp := fun vs H Q _ => ∃ v b, vs = [v] ∧ IsLg K H v b ∧ ∀ H', Same H H' → Q (.bl b) H'
theorem ok_is_lag (T : Txt K mg) (c_is_text : Cal P w K mg base 1 "is_text" ["value"] (spIsTx K)) : Cal P w K mg base 2 "is_lag" ["value"] (spIsLg K) := by
  refine cal0 T.d_is_lag sc_is_lag (by rintro vs H Q E ⟨v, b, rfl, _⟩; rfl) (fun cdv f A outer s H vs Q E hr hgd h => ?_)
  obtain ⟨v, b, rfl, hv, q⟩ := h
  refine ⟨_, (pss_cons (ps_if (PW.pt (pw_or (pt_not (pt_val (pe_callB (kIsi K rfl) (by rfl) T.n_isinstance (by decide +kernel) (pa_cons (pv 0) (pa_cons (pe_bltn (v := .ty "tuple") (by rfl) T.n_tuple (by decide +kernel) rfl) pa_nil))))) (pw_or1 (pt_cmpR (kNe K rfl hr) (pe_callB (kLen K rfl) (by rfl) T.n_len (by decide +kernel) (pa_cons (pv 0) pa_nil)) pe_int (nomark _))))) (pss_one (ps_ret pe_bl)) pss_nil)
  (pss_one (ps_ret (pe_and (pe_g c_is_text hr (by decide) hgd (by rfl) noX (pa_cons (pe_ix (kIx K rfl) (pv 0) pe_int (fun _ _ => rfl)) pa_nil)) (pe_and (pe_g c_is_text hr (by decide) hgd (by rfl) noX (pa_cons (pe_ix (kIx K rfl) (pv 0) pe_int (fun _ _ => rfl)) pa_nil)) (pe_one (pe_cmpR (kIn K rfl) (pe_tx [] (by decide +kernel)) (pv 0) (by rfl)))))))), ?_⟩
  walk_at "v0"
  rcases hv with ⟨rfl, t, ht, hk, hn⟩ | ⟨p, xs, rfl, hp, h3⟩
  · refine w_isiK ht hk (.inr (.inr (.inr (.inr rfl)))) ?_
    have e : (t == "tuple" || (t == "bool" && "tuple" == "int")) = false := by simp [hn]
    rw [e]
    walk_at "v"
    exact q _ (Same.refl _)
  · refine w_isiT hp ?_ (by decide)
    walk_at "v"
    rcases h3 with ⟨rfl, hl⟩ | ⟨x, y, rfl, rfl, hx⟩ | ⟨l, y, rfl, rfl, zl, hl, hy⟩ | ⟨l, m, rfl, zl, zm, hl, hm, rfl⟩
    · refine w_ifT (by simp; omega) ?_
      walk_at "v"
      exact q _ (Same.refl _)
    · walk_at "v"
      refine ⟨x, false, rfl, hx, fun H1 s1 => ?_⟩
      walk_at "v"
      exact q _ s1
    · walk_at "v"
      refine ⟨_, true, rfl, .inl ⟨l, rfl, zl, (decide_eq_true hl).symm⟩, fun H1 s1 => ?_⟩
      walk_at "v"
      refine ⟨y, false, rfl, hy.mono s1, fun H2 s2 => ?_⟩
      walk_at "v"
      exact q _ (s1.trans s2)
    · walk_at "v"
      refine ⟨_, true, rfl, .inl ⟨l, rfl, zl, (decide_eq_true hl).symm⟩, fun H1 s1 => ?_⟩
      walk_at "v"
      refine ⟨_, true, rfl, .inl ⟨m, rfl, zm, (decide_eq_true hm).symm⟩, fun H2 s2 => ?_⟩
      walk_at "v"
      have hf : [V.str (tx l), V.str (tx m)].all flatV = true := rfl
      refine w_inT (by walk_at "vget") rfl hf ?_
      rw [in_pair2]
      exact q _ (s1.trans s2)
/-- check_text: nothing, or the error with the value -/
def spCheckD (K : PySem.W.Frag) (C : Addr) : Sp := fun vs H Q E => ∃ v b, vs = [v] ∧ IsTx K H v b ∧ (b = true → ∀ H', Same H H' → Q .non H') ∧ (b = false → ∀ H' d, Same H H' → H' d = some (xdG v) → E (.ref C) (some d) H')
theorem ok_check_text (T : Txt K mg) (c_is_text : Cal P w K mg base 1 "is_text" ["value"] (spIsTx K)) : Cal P w K mg base 2 "check_text" ["text"] (spCheckD K (errAt mg "InvalidText")) := by
  refine calX T.d_check_text sc_check_text (by rintro vs H Q E ⟨v, b, rfl, _⟩; rfl) (fun cdv f A outer s H vs Q E hr hgd h => ?_)
  obtain ⟨v, b, rfl, hv, q1, q2⟩ := h
  refine ⟨_, (pss_one (ps_if (pt_not (pt_val (pe_g c_is_text hr (by decide) hgd (by rfl) (passAt tk_def) (pa_cons (pv 0) pa_nil)))) (pss_one (ps_rzA mg T.x_InvalidText rfl (by rfl) tk_def hr (by rfl) (pa_cons (pv 0) pa_nil))) pss_nil)), ?_⟩
  walk_at "v0"
  refine ⟨v, b, rfl, hv, fun H1 s1 => ?_⟩
  walk_at "v"
  cases b with
  | true =>
    walk_at "v"
    exact q1 rfl _ s1
  | false =>
    walk_at "v"
    refine w_rz ?_
    walk_at "v"
    refine w_one fun d hd => ?_
    exact q2 rfl _ d (Same.new s1 hd) upd_same
end
section
variable {P : Program} {w : World} {K : PySem.W.Frag} {mg : Str → Option Value} {base : Heap}
/-- what stands for a lag or for none -/
def Lg (H : Hp) (v : V) (o : Option (List Nat × List Nat)) : Prop := (o = none ∧ v = .non) ∨ ∃ p a b, o = some (a, b) ∧ v = .ref p ∧ H p = some (.tup [.str (tx a), .str (tx b)])
theorem Lg.mono {H H' : Hp} {v : V} {o : Option (List Nat × List Nat)} (s : Same H H') (h : Lg H v o) : Lg H' v o := by
  rcases h with h | ⟨p, a, b, h1, h2, h3⟩
  · exact .inl h
  · exact .inr ⟨p, a, b, h1, h2, s _ _ h3⟩
def Ref (C : Addr) (E : XK) (H : Hp) (v : V) : Prop := ∀ H' d, Same H H' → H' d = some (xdG v) → E (.ref C) (some d) H'
def spAfter : Sp := fun vs H Q _ => ∃ x y : List Nat, vs = [.str (tx x), .str (tx y)] ∧ x.length ≤ 100000 ∧ y.length ≤ 100000 ∧ ∀ v H', Same H H' → Lg H' v (bh x y) → Q v H'
theorem ok_lag_after (T : Txt K mg) : Cal P w K mg base 1 "lag_after" ["left", "right"] spAfter := by
  refine cal0 T.d_lag_after sc_lag_after (by rintro vs H Q E ⟨x, y, rfl, _⟩; rfl) (fun cdv f A outer s H vs Q E hr hgd h => ?_)
  obtain ⟨x, y, rfl, zx, zy, q⟩ := h
  refine ⟨_, (pss_cons (ps_if (pt_val (pe_m1 PySem.F.slot_str_startswith PySem.F.type_str_startswith uStarts (pv 0) (pv 1))) (pss_one (ps_ret (pe_tup (pa_cons (pe_slice (kSl K rfl) (pv 0) (po_some (pe_callB (kLen K rfl) (by rfl) T.n_len (by decide +kernel) (pa_cons (pv 1) pa_nil))) po_none) (pa_cons (pe_tx [] (by decide +kernel)) pa_nil))))) pss_nil)
  (pss_cons (ps_if (pt_val (pe_m1 PySem.F.slot_str_startswith PySem.F.type_str_startswith uStarts (pv 1) (pv 0))) (pss_one (ps_ret (pe_tup (pa_cons (pe_tx [] (by decide +kernel)) (pa_cons (pe_slice (kSl K rfl) (pv 1) (po_some (pe_callB (kLen K rfl) (by rfl) T.n_len (by decide +kernel) (pa_cons (pv 0) pa_nil))) po_none) pa_nil))))) pss_nil)
  (pss_one (ps_ret pe_non)))), ?_⟩
  walk_at "v0"
  refine w_starts ?_
  walk_at "v"
  refine w_if (fun h => ?_) (fun h => ?_)
  · have h := of_decide_eq_true h
    walk_at "v"
    refine ⟨by walk_at "sz", fun p hp => ?_⟩
    walk_at "v"
    refine q _ _ (same_new hp) (.inr ⟨p, _, _, ?_, rfl, upd_same⟩)
    unfold bh
    rw [if_pos h]
  · have h := of_decide_eq_false h
    walk_at "v"
    refine w_starts ?_
    walk_at "v"
    refine w_if (fun h2 => ?_) (fun h2 => ?_)
    · have h2 := of_decide_eq_true h2
      walk_at "v"
      refine ⟨by walk_at "sz", fun p hp => ?_⟩
      walk_at "v"
      refine q _ _ (same_new hp) (.inr ⟨p, _, _, ?_, rfl, upd_same⟩)
      unfold bh
      rw [if_neg h, if_pos h2]
    · have h2 := of_decide_eq_false h2
      walk_at "v"
      refine q _ _ (Same.refl _) (.inl ⟨?_, rfl⟩)
      unfold bh
      rw [if_neg h, if_neg h2]
theorem ok__law_behind (T : Txt K mg) : Cal P w K mg base 1 "_law_behind" ["left", "right"] spAfter := by
  refine cal0 T.d__law_behind sc__law_behind (by rintro vs H Q E ⟨x, y, rfl, _⟩; rfl) (fun cdv f A outer s H vs Q E hr hgd h => ?_)
  obtain ⟨x, y, rfl, zx, zy, q⟩ := h
  refine ⟨_, (pss_cons (ps_if (pt_cmpR (kEq K rfl hr) (pe_slice (kSl K rfl) (pv 0) po_none (po_some (pe_callB (kLen K rfl) (by rfl) T.n_len (by decide +kernel) (pa_cons (pv 1) pa_nil)))) (pv 1) (nomark _)) (pss_one (ps_ret (pe_tup (pa_cons (pe_slice (kSl K rfl) (pv 0) (po_some (pe_callB (kLen K rfl) (by rfl) T.n_len (by decide +kernel) (pa_cons (pv 1) pa_nil))) po_none) (pa_cons (pe_tx [] (by decide +kernel)) pa_nil))))) pss_nil)
  (pss_cons (ps_if (pt_cmpR (kEq K rfl hr) (pe_slice (kSl K rfl) (pv 1) po_none (po_some (pe_callB (kLen K rfl) (by rfl) T.n_len (by decide +kernel) (pa_cons (pv 0) pa_nil)))) (pv 0) (nomark _)) (pss_one (ps_ret (pe_tup (pa_cons (pe_tx [] (by decide +kernel)) (pa_cons (pe_slice (kSl K rfl) (pv 1) (po_some (pe_callB (kLen K rfl) (by rfl) T.n_len (by decide +kernel) (pa_cons (pv 0) pa_nil))) po_none) pa_nil))))) pss_nil)
  (pss_one (ps_ret pe_non)))), ?_⟩
  walk_at "v0"
  refine w_if (fun h => ?_) (fun h => ?_)
  · have h := of_decide_eq_true h
    walk_at "v"
    refine ⟨by walk_at "sz", fun p hp => ?_⟩
    walk_at "v"
    refine q _ _ (same_new hp) (.inr ⟨p, _, _, ?_, rfl, upd_same⟩)
    unfold bh
    rw [if_pos h]
  · have h := of_decide_eq_false h
    walk_at "v"
    refine w_if (fun h2 => ?_) (fun h2 => ?_)
    · have h2 := of_decide_eq_true h2
      walk_at "v"
      refine ⟨by walk_at "sz", fun p hp => ?_⟩
      walk_at "v"
      refine q _ _ (same_new hp) (.inr ⟨p, _, _, ?_, rfl, upd_same⟩)
      unfold bh
      rw [if_neg h, if_pos h2]
    · have h2 := of_decide_eq_false h2
      walk_at "v"
      refine q _ _ (Same.refl _) (.inl ⟨?_, rfl⟩)
      unfold bh
      rw [if_neg h, if_neg h2]
def spTurned : Sp := fun vs H Q _ => ∃ v o, vs = [v] ∧ Lg H v o ∧ ∀ v' H', Same H H' → Lg H' v' (o.map fun p => (p.2, p.1)) → Q v' H'
theorem ok__law_turned (T : Txt K mg) : Cal P w K mg base 1 "_law_turned" ["pair"] spTurned := by
  refine cal0 T.d__law_turned sc__law_turned (by rintro vs H Q E ⟨v, o, rfl, _⟩; rfl) (fun cdv f A outer s H vs Q E hr hgd h => ?_)
  obtain ⟨v, o, rfl, hv, q⟩ := h
  refine ⟨_, (pss_one (ps_ret (pe_ifExp (pt_cmpR uIs (pv 0) pe_non (nomark _)) pe_non (pe_tup (pa_cons (pe_ix (kIx K rfl) (pv 0) pe_int (fun _ _ => rfl)) (pa_cons (pe_ix (kIx K rfl) (pv 0) pe_int (fun _ _ => rfl)) pa_nil)))))), ?_⟩
  walk_at "v0"
  rcases hv with ⟨rfl, rfl⟩ | ⟨p, a, b, rfl, rfl, hp⟩
  · walk_at "v"
    exact q _ _ (Same.refl _) (.inl ⟨rfl, rfl⟩)
  · walk_at "v"
    refine ⟨by walk_at "sz", fun r hr' => ?_⟩
    exact q _ _ (same_new hr') (.inr ⟨r, _, _, rfl, rfl, upd_same⟩)
def spCheckL (K : PySem.W.Frag) (C : Addr) : Sp := fun vs H Q E => ∃ v b, vs = [v] ∧ IsLg K H v b ∧ (b = true → ∀ H', Same H H' → Q .non H') ∧ (b = false → Ref C E H v)
theorem ok_check_lag (T : Txt K mg) (c_is_lag : Cal P w K mg base 2 "is_lag" ["value"] (spIsLg K)) : Cal P w K mg base 3 "check_lag" ["lag"] (spCheckL K (errAt mg "InvalidText")) := by
  refine calX T.d_check_lag sc_check_lag (by rintro vs H Q E ⟨v, b, rfl, _⟩; rfl) (fun cdv f A outer s H vs Q E hr hgd h => ?_)
  obtain ⟨v, b, rfl, hv, q1, q2⟩ := h
  refine ⟨_, (pss_one (ps_if (pt_not (pt_val (pe_g c_is_lag hr (by decide) hgd (by rfl) (passAt tk_def) (pa_cons (pv 0) pa_nil)))) (pss_one (ps_rzA mg T.x_InvalidText rfl (by rfl) tk_def hr (by rfl) (pa_cons (pv 0) pa_nil))) pss_nil)), ?_⟩
  walk_at "v0"
  refine ⟨v, b, rfl, hv, fun H1 s1 => ?_⟩
  walk_at "v"
  cases b with
  | true =>
    walk_at "v"
    exact q1 rfl _ s1
  | false =>
    walk_at "v"
    refine w_rz ?_
    walk_at "v"
    refine w_one fun d hd => ?_
    exact q2 rfl _ d (Same.new s1 hd) upd_same
def spLagB (K : PySem.W.Frag) (C : Addr) : Sp := fun vs H Q E => ∃ a l m ba bl bm, vs = [a, l, m] ∧ IsLg K H a ba ∧ IsTx K H l bl ∧ IsTx K H m bm ∧
  (ba = false → Ref C E H a) ∧ (ba = true → bl = false → Ref C E H l) ∧ (ba = true → bl = true → bm = false → Ref C E H m) ∧
  (ba = true → bl = true → bm = true → ∃ x y u v, IsSmall K H a x y ∧ l = .str (tx u) ∧ m = .str (tx v) ∧ u.length ≤ 10000 ∧ v.length ≤ 10000 ∧ ∀ o H', Same H H' → Lg H' o (bh (x ++ u) (y ++ v)) → Q o H')
theorem fn_lag_behind (T : Txt K mg) (c_check_lag : Cal P w K mg base 3 "check_lag" ["lag"] (spCheckL K (errAt mg "InvalidText"))) (c_check_text : Cal P w K mg base 2 "check_text" ["text"] (spCheckD K (errAt mg "InvalidText"))) (c_lag_after : Cal P w K mg base 1 "lag_after" ["left", "right"] spAfter)
    (f : Addr) (fd : FuncData) (F : Fun K "lag_behind" "lag_behind" s_lag_behind f fd) : FnG P w K mg base 4 f fd ["lag", "one", "other"] (spLagB K (errAt mg "InvalidText")) := by
  refine fnG_of F sc_lag_behind (by rintro vs H Q E ⟨a, l, m, ba, bl, bm, rfl, _⟩; rfl) (fun cdv A outer s H vs Q E hr hgd h => ?_)
  obtain ⟨a, l, m, ba, bl, bm, rfl, ha, hl, hm, q1, q2, q3, q4⟩ := h
  refine ⟨_, (pss_cons (ps_expr (pe_g c_check_lag hr (by decide) hgd (by rfl) (passAt tk_def) (pa_cons (pv 0) pa_nil)))
  (pss_cons (ps_expr (pe_g c_check_text hr (by decide) hgd (by rfl) (passAt tk_def) (pa_cons (pv 1) pa_nil)))
  (pss_cons (ps_expr (pe_g c_check_text hr (by decide) hgd (by rfl) (passAt tk_def) (pa_cons (pv 2) pa_nil)))
  (pss_one (ps_ret (pe_g c_lag_after hr (by decide) hgd (by rfl) (passAt tk_def) (pa_cons (pe_op (kAdd K rfl) (pe_ix (kIx K rfl) (pv 0) pe_int (fun _ _ => rfl)) (pv 1)) (pa_cons (pe_op (kAdd K rfl) (pe_ix (kIx K rfl) (pv 0) pe_int (fun _ _ => rfl)) (pv 2)) pa_nil)))))))), ?_⟩
  walk_at "v0"
  refine ⟨a, ba, rfl, ha, fun hb H1 s1 => ?_, fun hb => q1 hb⟩
  subst hb
  walk_at "v"
  refine ⟨l, bl, rfl, hl.mono s1, fun hb H2 s2 => ?_, fun hb H2 d s2 h2 => q2 rfl hb H2 d (s1.trans s2) h2⟩
  subst hb
  walk_at "v"
  have S2 := s1.trans s2
  refine ⟨m, bm, rfl, hm.mono S2, fun hb H3 s3 => ?_, fun hb H3 d s3 h3 => q3 rfl rfl hb H3 d (S2.trans s3) h3⟩
  subst hb
  obtain ⟨x, y, u, v, ⟨p, rfl, hp, zx, zy, lx, ly⟩, rfl, rfl, zu, zv, q⟩ := q4 rfl rfl rfl
  have S3 := S2.trans s3
  have hp3 := S3 _ _ hp
  walk_at "v"
  refine ⟨x ++ u, y ++ v, rfl, by walk_at "sz", by walk_at "sz", fun o H4 s4 g4 => ?_⟩
  exact q o H4 (S3.trans s4) g4
theorem ok_lag_behind (T : Txt K mg) (c_check_lag : Cal P w K mg base 3 "check_lag" ["lag"] (spCheckL K (errAt mg "InvalidText"))) (c_check_text : Cal P w K mg base 2 "check_text" ["text"] (spCheckD K (errAt mg "InvalidText"))) (c_lag_after : Cal P w K mg base 1 "lag_after" ["left", "right"] spAfter) :
    Cal P w K mg base 4 "lag_behind" ["lag", "one", "other"] (spLagB K (errAt mg "InvalidText")) := cal_of T.d_lag_behind (fn_lag_behind T c_check_lag c_check_text c_lag_after)
/-- from other, lag, one -/
def rot3 {α : Type} : List α → List α
  | [a, b, c] => [b, c, a]
  | l => l
theorem ok_lag_behind_w (T : Txt K mg) (c_check_lag : Cal P w K mg base 3 "check_lag" ["lag"] (spCheckL K (errAt mg "InvalidText"))) (c_check_text : Cal P w K mg base 2 "check_text" ["text"] (spCheckD K (errAt mg "InvalidText"))) (c_lag_after : Cal P w K mg base 1 "lag_after" ["left", "right"] spAfter) :
    CalW P w K mg base 4 "lag_behind" ["lag", "one", "other"] ["other", "lag", "one"] (fun {α} (l : List α) => rot3 l) (spLagB K (errAt mg "InvalidText")) :=
  calW_of T.d_lag_behind (fn_lag_behind T c_check_lag c_check_text c_lag_after) (by
    intro f fd F s ws hl
    obtain ⟨oc, od, kV, doc, pm, an, cdv, ct, osl, rfl, lk, hcd⟩ := F.ex
    match ws, hl with
    | [a, b, c], _ => exact .of_eq rfl)
theorem hl_lag_behind_w {vs : List V} {us : List Value} (hn : vs.length = 3) (r : Vals vs us) : Vals (rot3 vs) (rot3 us) := by
  match vs, us, r with
  | [a, b, c], [a', b', c'], .cons r1 (.cons r2 (.cons r3 .nil)) => exact .cons r2 (.cons r3 (.cons r1 .nil))
end
end K11
set_option Elab.async false
set_option linter.all false
set_option maxRecDepth 100000
set_option maxHeartbeats 4000000
namespace K11
open PySem PySem.Spec PyProof.Rows L2 SL Lv Wd
local macro_rules | `(tactic| walk_at "sz") => `(tactic| first
  | assumption
  | omega
  | (simp only [List.length_cons, List.length_nil, List.length_append, List.length_map, List.length_take, List.length_drop, List.length_reverse, List.length_replicate, List.length_range, tx_len, sizeLine_eq, CMul, CDiv, Nat.reduceAdd, Nat.reduceLeDiff]; first | done | omega)
  | decide)
local macro_rules | `(tactic| walk_at "ne") => `(tactic| first
  | assumption
  | exact Ne.symm (by assumption)
  | (refine ne_of_none (H := ?H0) (o := ?oo) ?hh ?hn; (case hn => assumption); (case hh => walk_at "hget"))
  | (refine Ne.symm (ne_of_none (H := ?H0) (o := ?oo) ?hh ?hn); (case hn => assumption); (case hh => walk_at "hget")))
local macro_rules | `(tactic| walk_at "hget") => `(tactic| first
  | assumption
  | exact upd_same
  | (refine (upd_ne ?n).trans ?g; (case n => walk_at "ne"); (case g => walk_at "hget"))
  | (refine fr_get (p := ?pp) (H := ?H0) ?f ?g ?n; (case f => assumption); (case g => walk_at "hget"); (case n => walk_at "ne"))
  | (refine same_get (H := ?H0) ?f ?g; (case f => assumption); (case g => walk_at "hget")))
local macro_rules | `(tactic| walk_at "vget") => `(tactic| first
  | assumption
  | (refine SqL.of ?g; (case g => walk_at "hget"))
  | (refine SqT.of ?g; (case g => walk_at "hget"))
  | (refine sql_new ?n ?g; (case n => assumption); (case g => walk_at "vget"))
  | (refine sqt_new ?n ?g; (case n => assumption); (case g => walk_at "vget"))
  | (refine sql_upd ?n ?g; (case n => walk_at "ne"); (case g => walk_at "vget"))
  | (refine sqt_upd ?n ?g; (case n => walk_at "ne"); (case g => walk_at "vget"))
  | (refine Same.seq (H := ?H0) ?f ?g; (case f => assumption); (case g => walk_at "vget"))
  | (refine Same.seqT (H := ?H0) ?f ?g; (case f => assumption); (case g => walk_at "vget"))
  | (refine fr_sql (b := ?pp) (H := ?H0) ?f ?g ?n; (case f => assumption); (case g => walk_at "vget"); (case n => walk_at "ne"))
  | (refine fr_sqt (b := ?pp) (H := ?H0) ?f ?g ?n; (case f => assumption); (case g => walk_at "vget"); (case n => walk_at "ne")))
local macro_rules | `(tactic| walk_at "at") => `(tactic| first
  | assumption
  | rfl
  | (refine atI_n ?h; (case h => first | assumption | rfl))
  | (refine atI_i ?h0 ?h; (case h0 => omega); (case h => first | assumption | rfl)))
local macro_rules | `(tactic| walk_at "v1") => `(tactic| first
  | with_reducible refine w_seq ?_
  | with_reducible refine w_enx ?_
  | with_reducible refine w_ert ?_
  | with_reducible refine w_asg ?_
  | ((with_reducible refine w_var (v := ?vv) ?h ?_); (case h => exact rfl))
  | with_reducible refine w_op ?_
  | with_reducible refine w_c ?_
  | with_reducible refine w_cons ?_
  | with_reducible refine w_nil ?_
  | with_reducible refine w_cb ?_
  | with_reducible refine w_call ?_
  | with_reducible refine w_k ?_
  | with_reducible refine w_i ?_
  | with_reducible refine w_two ?_
  | ((with_reducible refine w_name ?_); (try simp only [List.set_cons_zero, List.set_cons_succ]))
  | with_reducible refine w_ifS ?_
  | with_reducible refine w_ret ?_
  | with_reducible refine w_drop ?_
  | with_reducible refine w_test ?_
  | with_reducible refine w_B ?_
  | with_reducible refine iteT ?_
  | with_reducible refine iteF ?_
  | with_reducible refine w_same ?_
  | ((with_reducible refine w_ifT ?h ?_); (case h => first | rfl | assumption))
  | ((with_reducible refine w_ifF ?h ?_); (case h => first | rfl | assumption))
  | ((with_reducible refine w_diff ?_ ?h); (case h => decide +kernel))
  | ((with_reducible refine w_wp ?h ?_); (case h => rfl); (try simp only [wipe, List.set_cons_zero, List.set_cons_succ, List.foldl_cons, List.foldl_nil]))
  | ((with_reducible refine w_acc (acc := ?aa) ?h ?_ ?z); (case h => walk_at "hget"); (case z => walk_at "sz"))
  | with_reducible refine w_addI ?_
  | with_reducible refine w_subI ?_
  | with_reducible refine w_lt ?_
  | with_reducible refine w_le ?_
  | with_reducible refine w_gt ?_
  | with_reducible refine w_ge ?_
  | with_reducible refine w_eqI ?_
  | with_reducible refine w_neI ?_
  | with_reducible refine w_eqS ?_
  | with_reducible refine w_neS ?_
  | ((with_reducible refine w_mulI ?_ ?h); (case h => walk_at "sz"))
  | ((with_reducible refine w_divI ?_ ?h); (case h => walk_at "sz"))
  | ((with_reducible refine w_addS ?_ ?h); (case h => walk_at "sz"))
  | ((with_reducible refine w_mulS ?_ ?h); (case h => walk_at "sz"))
  | ((with_reducible refine w_ixL (xs := ?xx) (v := ?vv) ?h ?i ?_); (case h => walk_at "vget"); (case i => walk_at "at"))
  | ((with_reducible refine w_ixT (xs := ?xx) (v := ?vv) ?h ?i ?_); (case h => walk_at "vget"); (case i => walk_at "at"))
  | ((with_reducible refine w_ixS (c := ?cc) ?i ?_ ?h); (case i => walk_at "at"); (case h => walk_at "sz"))
  | ((with_reducible refine w_lenS' ?_ ?h); (case h => walk_at "sz"))
  | ((with_reducible refine w_lenL' (xs := ?xx) ?h ?_); (case h => walk_at "vget"))
  | ((with_reducible refine w_lenT' (xs := ?xx) ?h ?_); (case h => walk_at "vget"))
  | with_reducible refine w_isnN ?_
  | with_reducible refine w_isnI ?_
  | with_reducible refine w_isnS ?_
  | with_reducible refine w_isnR ?_
  | with_reducible refine w_isnB ?_
  | with_reducible refine w_isoN ?_
  | with_reducible refine w_isoI ?_
  | with_reducible refine w_isoS ?_
  | with_reducible refine w_isoR ?_
  | with_reducible refine w_isoB ?_
  | with_reducible refine w_abs ?_
  | with_reducible refine w_int ?_
  | with_reducible refine w_intB ?_
  | with_reducible refine w_min2 ?_
  | with_reducible refine w_max2 ?_
  | with_reducible refine w_min3 ?_
  | with_reducible refine w_sl ?_
  | with_reducible refine w_np ?_
  | with_reducible refine w_part ?_
  | ((with_reducible refine w_sStN ?_ ?h); (case h => walk_at "sz"))
  | ((with_reducible refine w_sSfN ?_ ?h); (case h => walk_at "sz"))
  | ((with_reducible refine w_sSt ?_ ?h); (case h => walk_at "sz"))
  | ((with_reducible refine w_sSf ?_ ?h); (case h => walk_at "sz"))
  | with_reducible refine w_and ?_
  | with_reducible refine w_or ?_
  | with_reducible refine w_not ?_
  | with_reducible refine w_andV ?_
  | with_reducible refine w_orV ?_
  | with_reducible refine w_notV ?_
  | with_reducible refine w_ifE ?_
  | with_reducible refine w_tup ?_
  | with_reducible refine w_lst ?_
  | with_reducible refine w_chain ?_
  | ((with_reducible refine w_par ?_); (try simp only [List.set_cons_zero, List.set_cons_succ]))
  | ((with_reducible refine w_par3 ?_); (try simp only [List.set_cons_zero, List.set_cons_succ]))
  | with_reducible refine w_three ?_
  | with_reducible refine w_un ?_
  | with_reducible refine w_neg ?_
  | with_reducible refine w_next ?_
  | with_reducible refine w_ebk ?_
  | with_reducible refine w_ect ?_
  | with_reducible refine w_for ?_
  | with_reducible refine w_lc ?_
  | with_reducible refine w_yes ?_
  | with_reducible refine w_il ?_
  | with_reducible refine w_it ?_
  | with_reducible refine w_isx ?_
  | with_reducible refine w_ir1 ?_
  | with_reducible refine w_ir2 ?_
  | with_reducible refine w_ies ?_
  | with_reducible refine w_s1 ?_
  | with_reducible refine w_s1l ?_
  | ((with_reducible refine w_r1 ?_ ?h); (case h => walk_at "sz"))
  | ((with_reducible refine w_r2 ?_ ?h); (case h => walk_at "sz"))
  | ((with_reducible refine w_l1 (xs := ?xx) ?h ?_); (case h => walk_at "vget"))
  | ((with_reducible refine w_t1 (xs := ?xx) ?h ?_); (case h => walk_at "vget"))
  | ((with_reducible refine w_isL (xs := ?xx) ?h ?_); (case h => walk_at "vget"))
  | with_reducible refine w_isS ?_
  | ((with_reducible refine w_app (xs := ?xx) ?h ?_ ?z); (case h => walk_at "hget"); (case z => walk_at "sz"))
  | with_reducible refine w_inC ?_
  | with_reducible refine w_rev ?_
  | ((with_reducible refine w_rev1S ?_ ?h); (case h => walk_at "sz"))
  | with_reducible refine w_lrg ?_
  | with_reducible refine w_brk ?_
  | with_reducible refine w_cont ?_
  | with_reducible refine w_retN ?_
  | with_reducible refine w_bm ?_
  | with_reducible refine w_bm0 ?_
  | with_reducible refine w_m1 ?_
  | with_reducible refine w_sub ?_
  | ((with_reducible refine w_setL (xs := ?xx) (j := ?jj) ?h ?i ?_); (case h => walk_at "hget"); (case i => first | rfl | assumption); (try simp only [Int.reduceToNat, List.set_cons_zero, List.set_cons_succ]))
  | with_reducible refine w_ip ?_
  | with_reducible refine w_gnil ?_
  | with_reducible refine w_gcons ?_
  | ((with_reducible refine w_gL (xs := ?xx) ?h ?_ ?n); (case h => walk_at "vget"); (case n => rfl))
  | ((with_reducible refine w_gT (xs := ?xx) ?h ?_ ?n); (case h => walk_at "vget"); (case n => rfl))
  | ((with_reducible refine w_aug (v := ?vv) ?h ?_); (case h => exact rfl)))
local macro_rules | `(tactic| walk_at "v") => `(tactic| repeat walk_at "v1")
local macro_rules | `(tactic| walk_at "v0") => `(tactic| (simp only [L2.start, cxK, ends_rt, List.map_cons, List.map_nil, List.length_cons, List.length_nil, Nat.reduceAdd, Nat.reduceSub, List.replicate_succ, List.replicate_zero, List.append_nil, List.cons_append, List.nil_append]; walk_at "v"))
local macro_rules | `(tactic| walk_at "u1") => `(tactic| first
  | with_reducible refine w_seqA ?_
  | with_reducible refine w_seqD ?_
  | with_reducible refine w_seqP ?_
  | with_reducible refine w_seqP3 ?_
  | with_reducible refine w_seqG ?_
  | ((fail_if_success (with_reducible refine w_seq ?_)); walk_at "v1"))
local macro_rules | `(tactic| walk_at "u") => `(tactic| repeat walk_at "u1")
local macro_rules | `(tactic| walk_at "u0") => `(tactic| (simp only [L2.start, cxK, ends_rt, List.map_cons, List.map_nil, List.length_cons, List.length_nil, Nat.reduceAdd, Nat.reduceSub, List.replicate_succ, List.replicate_zero, List.append_nil, List.cons_append, List.nil_append]; walk_at "u"))
local macro_rules | `(tactic| walk_at "t1") => `(tactic| ((fail_if_success (with_reducible refine w_seq ?_)); walk_at "v1"))
local macro_rules | `(tactic| walk_at "t") => `(tactic| repeat walk_at "t1")

section
variable {P : Program} {w : World} {K : PySem.W.Frag} {mg : Str → Option Value} {base : Heap}
def ltL (l : List Nat) : List V := l.map fun c => V.str (tx [c])
theorem ltL_at {l : List Nat} {k c : Nat} (h : l[k]? = some c) : (ltL l)[k]? = some (.str (tx [c])) := by
  unfold ltL
  rw [List.getElem?_map, h]
  rfl
def spLetters : Sp := fun vs H Q _ => ∃ (p : Addr) (c : Nat), vs = [.ref p] ∧ Box H p c ∧ c ≤ 10000000 ∧
  ∀ (l : List Nat) r H', l.length = 2 → Let l → H' r = some (.lst (ltL l)) → Box H' p (c + 2) → SL.Fr p H H' → r ≠ p → Q (.ref r) H'
theorem ok__law_letters (T : Txt K mg) (c__law_take : Cal P w K mg base 1 "_law_take" ["box", "many"] spTake) : Cal P w K mg base 2 "_law_letters" ["box"] spLetters := by
  refine cal0 T.d__law_letters sc__law_letters (by rintro vs H Q E ⟨p, c, rfl, _⟩; rfl) (fun cdv f A outer s H vs Q E hr hgd h => ?_)
  obtain ⟨p, c, rfl, hb, hc, q⟩ := h
  refine ⟨_, (pss_cons (ps_set (i := 1) sc__law_letters.nd rfl (by first | exact Or.inl rfl | exact Or.inr rfl) (pe_g c__law_take hr (by decide) hgd (by rfl) noX (pa_cons (pv 0) (pa_cons pe_int pa_nil))))
  (pss_cons (ps_set (i := 2) sc__law_letters.nd rfl (by first | exact Or.inl rfl | exact Or.inr rfl) (pe_op uMod (pe_callTy uInt (by rfl) T.n_int (by decide +kernel) (pa_cons (pe_op (kAdd K rfl) (pe_op (kAdd K rfl) (pv 1) pe_int) (pe_g c__law_take hr (by decide) hgd (by rfl) noX (pa_cons (pv 0) (pa_cons pe_int pa_nil)))) pa_nil)) pe_int))
  (pss_one (ps_ret (pe_lst (pa_cons (pe_ix (kIx K rfl) (pe_tx abc (by decide +kernel)) (pv 1) (fun _ _ => rfl)) (pa_cons (pe_ix (kIx K rfl) (pe_tx abc (by decide +kernel)) (pv 2) (fun _ _ => rfl)) pa_nil))))))), ?_⟩
  have labc : Let abc := fun c h => h
  walk_at "v0"
  refine take_w (N := 26) rfl hb (by omega) fun k H1 hk b1 f1 => ?_
  obtain ⟨c1, g1⟩ := ex_get (l := abc) hk
  walk_at "v"
  refine take_w (N := 25) rfl b1 (by omega) fun k2 H2 hk2 b2 f2 => ?_
  walk_at "v"
  refine w_modN (by omega) fun r _ h1 h2 => ?_
  obtain ⟨m, rfl⟩ := Int.eq_ofNat_of_zero_le h1
  obtain ⟨c2, g2⟩ := ex_get (l := abc) (k := m) (by show m < 26; omega)
  walk_at "v"
  refine ⟨by walk_at "sz", fun e he => ?_⟩
  exact q [c1, c2] e _ rfl ((labc.one g1).app (labc.one g2)) upd_same ((b2.upd (b2.ne he)).le (by omega)) ((f1.trans f2).new he hb.has) (Ne.symm (b2.ne he))
def spWord (K : PySem.W.Frag) : Sp := fun vs H Q _ => ∃ (p r : Addr) (l : List Nat) (many c : Nat), vs = [.ref p, .ref r, .int many] ∧ Box H p c ∧ c ≤ 10000000 ∧ H r = some (.lst (ltL l)) ∧ l.length = 2 ∧ Let l ∧ r ≠ p ∧ many ≤ 1000 ∧
  ∀ (t : List Nat) H', Let t → t.length = many → Box H' p (c + many) → SL.Fr p H H' → Q (.str (tx t)) H'
theorem ok__law_word (T : Txt K mg) (c__law_take : Cal P w K mg base 1 "_law_take" ["box", "many"] spTake) : Cal P w K mg base 2 "_law_word" ["box", "letters", "size"] (spWord K) := by
  refine cal0 T.d__law_word sc__law_word (by rintro vs H Q E ⟨p, r, l, many, c, rfl, _⟩; rfl) (fun cdv f A outer s H vs Q E hr hgd h => ?_)
  obtain ⟨p, r, l, many, c, rfl, hb, hc, hl, z3, ll, nrp, hm, q⟩ := h
  refine ⟨_, (pss_one (ps_ret (pe_m1 PySem.F.slot_str_join PySem.F.type_str_join (kJoin K rfl) (pe_tx [] (by decide +kernel)) (pe_lc (own := [("turn", 3)]) rfl sc__law_word.nd (pi_range1 (by rfl) T.n_range (pa_cons (pv 2) pa_nil)) (blkOk_by (own := [("turn", 3)]) (N := N__law_word) (sc := defScope s__law_word) (by decide +kernel)) (fun _ _ _ _ _ => (pg_name (i := 3) sc__law_word.nd rfl (by first | exact Or.inl rfl | exact Or.inr rfl))) (fun _ _ _ _ _ => pts_nil) (fun _ _ _ _ _ => (pe_ix (kIx K rfl) (pv 1) (pe_g c__law_take hr (by decide) hgd (by rfl) noX (pa_cons (pv 0) (pa_cons pe_int pa_nil))) (fun _ _ => rfl))))))), ?_⟩
  walk_at "v0"
  intro D hD
  have nD := hb.ne hD
  have nr : r ≠ D := ne_of_none hl hD
  refine lc_rg (n := many) (by omega) (fun i H' => ∃ ts : List (List Nat), ts.length = i ∧ ts.flatten.length = i ∧ Let ts.flatten ∧ Box H' p (c + i) ∧ SL.Fr p H H' ∧ H' D = some (.lst (ts.map fun t => V.str (tx t)))) ⟨[], rfl, rfl, Let.nil, hb.upd nD, Fr.new (SL.Fr.refl _ _) hD hb.has, upd_same⟩ ?_ ?_
  · rintro i H2 hi ⟨ts, e1, e2, e3, b2, f2, h2⟩
    walk_at "v"
    refine take_w (N := 2) rfl b2 (by omega) fun k H3 hk b3 f3 => ?_
    obtain ⟨c1, g1⟩ := ex_get (l := l) (k := k) (by omega)
    have g2 := ltL_at g1
    have hl3 := (f2.trans f3) _ _ hl nrp
    have h3 := f3 _ _ h2 (Ne.symm nD)
    walk_at "v"
    refine ⟨ts ++ [[c1]], ?_, ?_, ?_, (b3.le (by omega)).upd nD, Fr.grow (SL.Fr.refl _ _) hD nD (f2.trans f3), ?_⟩
    · rw [List.length_append, e1]; rfl
    · rw [List.flatten_append, List.length_append, e2]; rfl
    · rw [List.flatten_append]; exact e3.app (by simpa using ll.one g1)
    · rw [upd_same, List.map_append]; rfl
  · rintro H2 ⟨ts, e1, e2, e3, b2, f2, h2⟩
    walk_at "v"
    refine w_join (SqL.of h2) ?_ (by omega)
    walk_at "v"
    exact q _ _ e3 (by omega) b2 f2
/-! chains -/
/-- a row of two texts -/
def good (n : Nat) (H : Hp) (b : Addr) : Prop := ∃ x y : List Nat, Let x ∧ Let y ∧ x.length ≤ n ∧ y.length ≤ n ∧ H b = some (.lst [.str (tx x), .str (tx y)])
theorem good.keep {n : Nat} {H H' : Hp} {b : Addr} (h : good n H b) (k : ∀ o, H b = some o → H' b = some o) : good n H' b := by
  obtain ⟨x, y, h1, h2, h3, h4, h5⟩ := h
  exact ⟨x, y, h1, h2, h3, h4, k _ h5⟩
theorem good.le {m n : Nat} {H : Hp} {b : Addr} (h : good m H b) (k : m ≤ n) : good n H b := by
  obtain ⟨x, y, h1, h2, h3, h4, h5⟩ := h
  exact ⟨x, y, h1, h2, by omega, by omega, h5⟩
def Ch (n : Nat) (H : Hp) (a : Addr) : Prop := ∃ as : List Addr, H a = some (.lst (as.map V.ref)) ∧ as.length ≤ 6 ∧ 0 < as.length ∧ ∀ b ∈ as, good n H b
theorem Ch.mono {n : Nat} {H H' : Hp} {a : Addr} (s : Same H H') (h : Ch n H a) : Ch n H' a := by
  obtain ⟨as, h1, h2, h3, h4⟩ := h
  exact ⟨as, s _ _ h1, h2, h3, fun b hb => (h4 b hb).keep fun o => s b o⟩
theorem box_cell {H : Hp} {p : Addr} {c : Nat} (h : Box H p c) : ∃ g b m d, H p = some (.lst [.int g, .bl b, .int m, .int d]) := by
  obtain ⟨g, b, m, d, h1, _⟩ := h
  exact ⟨g, b, m, _, h1⟩
theorem good.ne {n c : Nat} {H : Hp} {b p : Addr} (h : good n H b) (k : Box H p c) : b ≠ p := fun e => by
  obtain ⟨x, y, _, _, _, _, h5⟩ := h
  obtain ⟨g, b', m, d, h1⟩ := box_cell k
  rw [e, h1] at h5
  simp at h5
theorem Ch.frp {n c : Nat} {H H' : Hp} {a p : Addr} (k : Box H p c) (f : SL.Fr p H H') (h : Ch n H a) : Ch n H' a := by
  obtain ⟨as, h1, h2, h3, h4⟩ := h
  refine ⟨as, f _ _ h1 (fun e => ?_), h2, h3, fun b hb => (h4 b hb).keep fun o ho => f b o ho ((h4 b hb).ne k)⟩
  obtain ⟨g, b', m, d, h5⟩ := box_cell k
  rw [e, h5] at h1
  match as, h3 with
  | a :: r, _ => simp at h1
/-- the rows, read at once -/
inductive Rows (n : Nat) (H : Hp) : List Addr → List (List Nat × List Nat) → Prop
  | nil : Rows n H [] []
  | cons {b : Addr} {x y : List Nat} {as : List Addr} {rs : List (List Nat × List Nat)} : H b = some (.lst [.str (tx x), .str (tx y)]) → Let x → Let y → x.length ≤ n → y.length ≤ n → Rows n H as rs → Rows n H (b :: as) ((x, y) :: rs)
theorem rows_of {n : Nat} {H : Hp} : ∀ {as : List Addr}, (∀ b ∈ as, good n H b) → ∃ rs, Rows n H as rs
  | [], _ => ⟨[], .nil⟩
  | a :: r, h => by
    obtain ⟨rs, hr⟩ := rows_of fun b hb => h b (List.mem_cons_of_mem _ hb)
    obtain ⟨x, y, h1, h2, h3, h4, h5⟩ := h a List.mem_cons_self
    exact ⟨(x, y) :: rs, .cons h5 h1 h2 h3 h4 hr⟩
theorem Rows.mono {n : Nat} {H H' : Hp} (s : Same H H') : ∀ {as : List Addr} {rs : List (List Nat × List Nat)}, Rows n H as rs → Rows n H' as rs
  | _, _, .nil => .nil
  | _, _, .cons h1 h2 h3 h4 h5 r => .cons (s _ _ h1) h2 h3 h4 h5 (r.mono s)
theorem Rows.len {n : Nat} {H : Hp} : ∀ {as : List Addr} {rs : List (List Nat × List Nat)}, Rows n H as rs → as.length = rs.length
  | _, _, .nil => rfl
  | _, _, .cons _ _ _ _ _ r => by rw [List.length_cons, List.length_cons, r.len]
theorem Rows.at {n : Nat} {H : Hp} : ∀ {as : List Addr} {rs : List (List Nat × List Nat)} {i : Nat} {b : Addr}, Rows n H as rs → as[i]? = some b → ∃ x y, rs[i]? = some (x, y) ∧ H b = some (.lst [.str (tx x), .str (tx y)]) ∧ Let x ∧ Let y ∧ x.length ≤ n ∧ y.length ≤ n
  | _, _, 0, _, .cons h1 h2 h3 h4 h5 _, e => by cases e; exact ⟨_, _, rfl, h1, h2, h3, h4, h5⟩
  | _, _, i + 1, _, .cons _ _ _ _ _ r, e => r.at (i := i) e
/-- what is written on a side -/
def side1 (rs : List (List Nat × List Nat)) : List Nat := (rs.map (·.1)).flatten
def side2 (rs : List (List Nat × List Nat)) : List Nat := (rs.map (·.2)).flatten
/-! what is written out of a lag -/
def lgD : Option (List Nat × List Nat) → PyData
  | none => .none
  | some (a, b) => .tuple [.str (tx a), .str (tx b)]
def shL (o : Option (List Nat × List Nat)) : Str := (lgD o).shown
/-- both parts are short texts of letters -/
def LetO (n : Nat) (o : Option (List Nat × List Nat)) : Prop := ∀ a b, o = some (a, b) → Let a ∧ Let b ∧ a.length ≤ n ∧ b.length ≤ n
theorem Lg.shown {H : Hp} {v : V} {o : Option (List Nat × List Nat)} (h : Lg H v o) (l : LetO 1000 o) : Shown K H v (shL o) := by
  rcases h with ⟨rfl, rfl⟩ | ⟨p, a, b, rfl, rfl, hp⟩
  · exact Dv.shown (d := .none) .non (by decide +kernel)
  · obtain ⟨la, lb, za, zb⟩ := l a b rfl
    exact Dv.shown (d := .tuple [.str (tx a), .str (tx b)]) (.tup hp (.cons (.str _) (.cons (.str _) .nil))) (ok_tupS la.sgn za lb.sgn zb)
theorem bh_let {x y : List Nat} {n : Nat} (lx : Let x) (ly : Let y) (zx : x.length ≤ n) (zy : y.length ≤ n) : LetO n (bh x y) := by
  intro a b e
  have z := bh_len e
  obtain ⟨c, rfl, rfl, _⟩ := bh_some e
  exact ⟨lx.right, ly.right, by omega, by omega⟩
theorem LetO.turn {n : Nat} {o : Option (List Nat × List Nat)} (h : LetO n o) : LetO n (o.map fun p => (p.2, p.1)) := by
  intro a b e
  cases o with
  | none => cases e
  | some p =>
    obtain ⟨c, d⟩ := p
    cases e
    obtain ⟨h1, h2, h3, h4⟩ := h _ _ rfl
    exact ⟨h2, h1, h4, h3⟩
/-- a lag as lag_behind wants it -/
theorem Lg.small {H : Hp} {v : V} {x y : List Nat} (h : Lg H v (some (x, y))) (l : LetO 1000 (some (x, y))) : IsSmall K H v x y := by
  rcases h with ⟨h, _⟩ | ⟨p, a, b, e, rfl, hp⟩
  · cases h
  · cases e
    obtain ⟨la, lb, za, zb⟩ := l _ _ rfl
    exact ⟨p, rfl, hp, by omega, by omega, la, lb⟩
theorem Lg.lag {H : Hp} {v : V} {x y : List Nat} (h : Lg H v (some (x, y))) (l : LetO 1000 (some (x, y))) (k : x = [] ∨ y = []) : IsLg K H v true := by
  rcases h with ⟨h, _⟩ | ⟨p, a, b, e, rfl, hp⟩
  · cases h
  · cases e
    obtain ⟨la, lb, za, zb⟩ := l _ _ rfl
    exact .inr ⟨p, _, rfl, hp, .inr (.inr (.inr ⟨x, y, rfl, by omega, by omega, la, lb, (decide_eq_true k).symm⟩))⟩
/-- lag_behind, from a lag -/
theorem behind_w {H : Hp} {Q : VK} {E : XK} {C : Addr} {v : V} {x y u t : List Nat} (h : Lg H v (some (x, y))) (l : LetO 1000 (some (x, y))) (k : x = [] ∨ y = []) (lu : Let u) (lt : Let t) (zu : u.length ≤ 1000) (zt : t.length ≤ 1000) (q : ∀ o H', Same H H' → Lg H' o (bh (x ++ u) (y ++ t)) → Q o H') :
    spLagB K C [v, .str (tx u), .str (tx t)] H Q E :=
  ⟨v, _, _, true, true, true, rfl, h.lag l k, .inl ⟨u, rfl, by omega, (decide_eq_true lu).symm⟩, .inl ⟨t, rfl, by omega, (decide_eq_true lt).symm⟩, (fun h => nomatch h), (fun _ h => nomatch h), (fun _ _ h => nomatch h),
    fun _ _ _ => ⟨x, y, u, t, h.small l, rfl, rfl, by omega, by omega, q⟩⟩
end
end K11
set_option Elab.async false
set_option linter.all false
set_option maxRecDepth 100000
set_option maxHeartbeats 4000000
namespace K11
open PySem PySem.Spec PyProof.Rows L2 SL Lv Wd
local macro_rules | `(tactic| walk_at "sz") => `(tactic| first
  | assumption
  | omega
  | (simp only [List.length_cons, List.length_nil, List.length_append, List.length_map, List.length_take, List.length_drop, List.length_reverse, List.length_replicate, List.length_range, tx_len, sizeLine_eq, CMul, CDiv, Nat.reduceAdd, Nat.reduceLeDiff]; first | done | omega)
  | decide)
local macro_rules | `(tactic| walk_at "ne") => `(tactic| first
  | assumption
  | exact Ne.symm (by assumption)
  | (refine ne_of_none (H := ?H0) (o := ?oo) ?hh ?hn; (case hn => assumption); (case hh => walk_at "hget"))
  | (refine Ne.symm (ne_of_none (H := ?H0) (o := ?oo) ?hh ?hn); (case hn => assumption); (case hh => walk_at "hget")))
local macro_rules | `(tactic| walk_at "hget") => `(tactic| first
  | assumption
  | exact upd_same
  | (refine (upd_ne ?n).trans ?g; (case n => walk_at "ne"); (case g => walk_at "hget"))
  | (refine fr_get (p := ?pp) (H := ?H0) ?f ?g ?n; (case f => assumption); (case g => walk_at "hget"); (case n => walk_at "ne"))
  | (refine same_get (H := ?H0) ?f ?g; (case f => assumption); (case g => walk_at "hget")))
local macro_rules | `(tactic| walk_at "vget") => `(tactic| first
  | assumption
  | (refine SqL.of ?g; (case g => walk_at "hget"))
  | (refine SqT.of ?g; (case g => walk_at "hget"))
  | (refine sql_new ?n ?g; (case n => assumption); (case g => walk_at "vget"))
  | (refine sqt_new ?n ?g; (case n => assumption); (case g => walk_at "vget"))
  | (refine sql_upd ?n ?g; (case n => walk_at "ne"); (case g => walk_at "vget"))
  | (refine sqt_upd ?n ?g; (case n => walk_at "ne"); (case g => walk_at "vget"))
  | (refine Same.seq (H := ?H0) ?f ?g; (case f => assumption); (case g => walk_at "vget"))
  | (refine Same.seqT (H := ?H0) ?f ?g; (case f => assumption); (case g => walk_at "vget"))
  | (refine fr_sql (b := ?pp) (H := ?H0) ?f ?g ?n; (case f => assumption); (case g => walk_at "vget"); (case n => walk_at "ne"))
  | (refine fr_sqt (b := ?pp) (H := ?H0) ?f ?g ?n; (case f => assumption); (case g => walk_at "vget"); (case n => walk_at "ne")))
local macro_rules | `(tactic| walk_at "at") => `(tactic| first
  | assumption
  | rfl
  | (refine atI_n ?h; (case h => first | assumption | rfl))
  | (refine atI_i ?h0 ?h; (case h0 => omega); (case h => first | assumption | rfl)))
local macro_rules | `(tactic| walk_at "v1") => `(tactic| first
  | with_reducible refine w_seq ?_
  | with_reducible refine w_enx ?_
  | with_reducible refine w_ert ?_
  | with_reducible refine w_asg ?_
  | ((with_reducible refine w_var (v := ?vv) ?h ?_); (case h => exact rfl))
  | with_reducible refine w_op ?_
  | with_reducible refine w_c ?_
  | with_reducible refine w_cons ?_
  | with_reducible refine w_nil ?_
  | with_reducible refine w_cb ?_
  | with_reducible refine w_call ?_
  | with_reducible refine w_k ?_
  | with_reducible refine w_i ?_
  | with_reducible refine w_two ?_
  | ((with_reducible refine w_name ?_); (try simp only [List.set_cons_zero, List.set_cons_succ]))
  | with_reducible refine w_ifS ?_
  | with_reducible refine w_ret ?_
  | with_reducible refine w_drop ?_
  | with_reducible refine w_test ?_
  | with_reducible refine w_B ?_
  | with_reducible refine iteT ?_
  | with_reducible refine iteF ?_
  | with_reducible refine w_same ?_
  | ((with_reducible refine w_ifT ?h ?_); (case h => first | rfl | assumption))
  | ((with_reducible refine w_ifF ?h ?_); (case h => first | rfl | assumption))
  | ((with_reducible refine w_diff ?_ ?h); (case h => decide +kernel))
  | ((with_reducible refine w_wp ?h ?_); (case h => rfl); (try simp only [wipe, List.set_cons_zero, List.set_cons_succ, List.foldl_cons, List.foldl_nil]))
  | ((with_reducible refine w_acc (acc := ?aa) ?h ?_ ?z); (case h => walk_at "hget"); (case z => walk_at "sz"))
  | with_reducible refine w_addI ?_
  | with_reducible refine w_subI ?_
  | with_reducible refine w_lt ?_
  | with_reducible refine w_le ?_
  | with_reducible refine w_gt ?_
  | with_reducible refine w_ge ?_
  | with_reducible refine w_eqI ?_
  | with_reducible refine w_neI ?_
  | with_reducible refine w_eqS ?_
  | with_reducible refine w_neS ?_
  | ((with_reducible refine w_mulI ?_ ?h); (case h => walk_at "sz"))
  | ((with_reducible refine w_divI ?_ ?h); (case h => walk_at "sz"))
  | ((with_reducible refine w_addS ?_ ?h); (case h => walk_at "sz"))
  | ((with_reducible refine w_mulS ?_ ?h); (case h => walk_at "sz"))
  | ((with_reducible refine w_ixL (xs := ?xx) (v := ?vv) ?h ?i ?_); (case h => walk_at "vget"); (case i => walk_at "at"))
  | ((with_reducible refine w_ixT (xs := ?xx) (v := ?vv) ?h ?i ?_); (case h => walk_at "vget"); (case i => walk_at "at"))
  | ((with_reducible refine w_ixS (c := ?cc) ?i ?_ ?h); (case i => walk_at "at"); (case h => walk_at "sz"))
  | ((with_reducible refine w_lenS' ?_ ?h); (case h => walk_at "sz"))
  | ((with_reducible refine w_lenL' (xs := ?xx) ?h ?_); (case h => walk_at "vget"))
  | ((with_reducible refine w_lenT' (xs := ?xx) ?h ?_); (case h => walk_at "vget"))
  | with_reducible refine w_isnN ?_
  | with_reducible refine w_isnI ?_
  | with_reducible refine w_isnS ?_
  | with_reducible refine w_isnR ?_
  | with_reducible refine w_isnB ?_
  | with_reducible refine w_isoN ?_
  | with_reducible refine w_isoI ?_
  | with_reducible refine w_isoS ?_
  | with_reducible refine w_isoR ?_
  | with_reducible refine w_isoB ?_
  | with_reducible refine w_abs ?_
  | with_reducible refine w_int ?_
  | with_reducible refine w_intB ?_
  | with_reducible refine w_min2 ?_
  | with_reducible refine w_max2 ?_
  | with_reducible refine w_min3 ?_
  | with_reducible refine w_sl ?_
  | with_reducible refine w_np ?_
  | with_reducible refine w_part ?_
  | ((with_reducible refine w_sStN ?_ ?h); (case h => walk_at "sz"))
  | ((with_reducible refine w_sSfN ?_ ?h); (case h => walk_at "sz"))
  | ((with_reducible refine w_sSt ?_ ?h); (case h => walk_at "sz"))
  | ((with_reducible refine w_sSf ?_ ?h); (case h => walk_at "sz"))
  | with_reducible refine w_and ?_
  | with_reducible refine w_or ?_
  | with_reducible refine w_not ?_
  | with_reducible refine w_andV ?_
  | with_reducible refine w_orV ?_
  | with_reducible refine w_notV ?_
  | with_reducible refine w_ifE ?_
  | with_reducible refine w_tup ?_
  | with_reducible refine w_lst ?_
  | with_reducible refine w_chain ?_
  | ((with_reducible refine w_par ?_); (try simp only [List.set_cons_zero, List.set_cons_succ]))
  | ((with_reducible refine w_par3 ?_); (try simp only [List.set_cons_zero, List.set_cons_succ]))
  | with_reducible refine w_three ?_
  | with_reducible refine w_un ?_
  | with_reducible refine w_neg ?_
  | with_reducible refine w_next ?_
  | with_reducible refine w_ebk ?_
  | with_reducible refine w_ect ?_
  | with_reducible refine w_for ?_
  | with_reducible refine w_lc ?_
  | with_reducible refine w_yes ?_
  | with_reducible refine w_il ?_
  | with_reducible refine w_it ?_
  | with_reducible refine w_isx ?_
  | with_reducible refine w_ir1 ?_
  | with_reducible refine w_ir2 ?_
  | with_reducible refine w_ies ?_
  | with_reducible refine w_s1 ?_
  | with_reducible refine w_s1l ?_
  | ((with_reducible refine w_r1 ?_ ?h); (case h => walk_at "sz"))
  | ((with_reducible refine w_r2 ?_ ?h); (case h => walk_at "sz"))
  | ((with_reducible refine w_l1 (xs := ?xx) ?h ?_); (case h => walk_at "vget"))
  | ((with_reducible refine w_t1 (xs := ?xx) ?h ?_); (case h => walk_at "vget"))
  | ((with_reducible refine w_isL (xs := ?xx) ?h ?_); (case h => walk_at "vget"))
  | with_reducible refine w_isS ?_
  | ((with_reducible refine w_app (xs := ?xx) ?h ?_ ?z); (case h => walk_at "hget"); (case z => walk_at "sz"))
  | with_reducible refine w_inC ?_
  | with_reducible refine w_rev ?_
  | ((with_reducible refine w_rev1S ?_ ?h); (case h => walk_at "sz"))
  | with_reducible refine w_lrg ?_
  | with_reducible refine w_brk ?_
  | with_reducible refine w_cont ?_
  | with_reducible refine w_retN ?_
  | with_reducible refine w_bm ?_
  | with_reducible refine w_bm0 ?_
  | with_reducible refine w_m1 ?_
  | with_reducible refine w_sub ?_
  | ((with_reducible refine w_setL (xs := ?xx) (j := ?jj) ?h ?i ?_); (case h => walk_at "hget"); (case i => first | rfl | assumption); (try simp only [Int.reduceToNat, List.set_cons_zero, List.set_cons_succ]))
  | with_reducible refine w_ip ?_
  | with_reducible refine w_gnil ?_
  | with_reducible refine w_gcons ?_
  | ((with_reducible refine w_gL (xs := ?xx) ?h ?_ ?n); (case h => walk_at "vget"); (case n => rfl))
  | ((with_reducible refine w_gT (xs := ?xx) ?h ?_ ?n); (case h => walk_at "vget"); (case n => rfl))
  | ((with_reducible refine w_aug (v := ?vv) ?h ?_); (case h => exact rfl)))
local macro_rules | `(tactic| walk_at "v") => `(tactic| repeat walk_at "v1")
local macro_rules | `(tactic| walk_at "v0") => `(tactic| (simp only [L2.start, cxK, ends_rt, List.map_cons, List.map_nil, List.length_cons, List.length_nil, Nat.reduceAdd, Nat.reduceSub, List.replicate_succ, List.replicate_zero, List.append_nil, List.cons_append, List.nil_append]; walk_at "v"))
local macro_rules | `(tactic| walk_at "u1") => `(tactic| first
  | with_reducible refine w_seqA ?_
  | with_reducible refine w_seqD ?_
  | with_reducible refine w_seqP ?_
  | with_reducible refine w_seqP3 ?_
  | with_reducible refine w_seqG ?_
  | ((fail_if_success (with_reducible refine w_seq ?_)); walk_at "v1"))
local macro_rules | `(tactic| walk_at "u") => `(tactic| repeat walk_at "u1")
local macro_rules | `(tactic| walk_at "u0") => `(tactic| (simp only [L2.start, cxK, ends_rt, List.map_cons, List.map_nil, List.length_cons, List.length_nil, Nat.reduceAdd, Nat.reduceSub, List.replicate_succ, List.replicate_zero, List.append_nil, List.cons_append, List.nil_append]; walk_at "u"))
local macro_rules | `(tactic| walk_at "t1") => `(tactic| ((fail_if_success (with_reducible refine w_seq ?_)); walk_at "v1"))
local macro_rules | `(tactic| walk_at "t") => `(tactic| repeat walk_at "t1")

section
variable {P : Program} {w : World} {K : PySem.W.Frag} {mg : Str → Option Value} {base : Heap}
def spSteps : Sp := fun vs H Q _ => ∃ (a : Addr), vs = [.ref a] ∧ Ch 10 H a ∧ ∀ H', Same H H' → Q (.bl true) H'
theorem ok__law_steps_right (T : Txt K mg) (c__law_behind : Cal P w K mg base 1 "_law_behind" ["left", "right"] spAfter) (c__law_turned : Cal P w K mg base 1 "_law_turned" ["pair"] spTurned)
    (c_lag_behind : Cal P w K mg base 4 "lag_behind" ["lag", "one", "other"] (spLagB K (errAt mg "InvalidText")))
    (c_lag_behind_w : CalW P w K mg base 4 "lag_behind" ["lag", "one", "other"] ["other", "lag", "one"] (fun {α} (l : List α) => rot3 l) (spLagB K (errAt mg "InvalidText"))) :
    Cal P w K mg base 5 "_law_steps_right" ["steps"] spSteps := by
  refine cal0 T.d__law_steps_right sc__law_steps_right (by rintro vs H Q E ⟨a, rfl, _⟩; rfl) (fun cdv f A outer s H vs Q E hr hgd h => ?_)
  obtain ⟨a, rfl, ⟨as, ha, zas, _, hg⟩, q⟩ := h
  obtain ⟨rs, hrs⟩ := rows_of hg
  refine ⟨_, (pss_cons (ps_asg (pe_tup (pa_cons (pe_tup (pa_cons (pe_tx [] (by decide +kernel)) (pa_cons (pe_tx [] (by decide +kernel)) pa_nil))) (pa_cons (pe_tx [] (by decide +kernel)) (pa_cons (pe_tx [] (by decide +kernel)) pa_nil)))) (kTup K rfl (n := 3) (by rfl) (pgs_cons (pg_name (i := 2) sc__law_steps_right.nd rfl (by first | exact Or.inl rfl | exact Or.inr rfl)) (pgs_cons (pg_name (i := 3) sc__law_steps_right.nd rfl (by first | exact Or.inl rfl | exact Or.inr rfl)) (pgs_cons (pg_name (i := 4) sc__law_steps_right.nd rfl (by first | exact Or.inl rfl | exact Or.inr rfl)) pgs_nil)))))
  (pss_cons (ps_for PassesOwn.never rfl (kiList K rfl (pv 0)) (pg_name (i := 1) sc__law_steps_right.nd rfl (by first | exact Or.inl rfl | exact Or.inr rfl))
  (pss_cons (ps_if (pt_cmpR uIs (pv 2) pe_non (nomark _)) (pss_one (ps_ret pe_bl)) pss_nil)
  (pss_cons (ps_par (i := 3) (j := 4) (by rfl) sc__law_steps_right.nd rfl rfl (by decide) rfl rfl (pa_cons (pe_op (kAdd K rfl) (pv 3) (pe_ix (kIx K rfl) (pv 1) pe_int (fun _ _ => rfl))) (pa_cons (pe_op (kAdd K rfl) (pv 4) (pe_ix (kIx K rfl) (pv 1) pe_int (fun _ _ => rfl))) pa_nil)) (by rfl))
  (pss_cons (ps_set (i := 5) sc__law_steps_right.nd rfl (by first | exact Or.inl rfl | exact Or.inr rfl) (pe_g c__law_behind hr (by decide) hgd (by rfl) noX (pa_cons (pv 3) (pa_cons (pv 4) pa_nil))))
  (pss_cons (ps_set (i := 6) sc__law_steps_right.nd rfl (by first | exact Or.inl rfl | exact Or.inr rfl) (pe_g c_lag_behind hr (by decide) hgd (by rfl) noX (pa_cons (pv 2) (pa_cons (pe_ix (kIx K rfl) (pv 1) pe_int (fun _ _ => rfl)) (pa_cons (pe_ix (kIx K rfl) (pv 1) pe_int (fun _ _ => rfl)) pa_nil)))))
  (pss_cons (ps_if (PW.pt (pw_or (pt_cmpR (kNe K rfl hr) (pe_callB (kReprD K rfl hr hgd) (by rfl) T.n_repr (by decide +kernel) (pa_cons (pv 6) pa_nil)) (pe_callB (kReprD K rfl hr hgd) (by rfl) T.n_repr (by decide +kernel) (pa_cons (pv 5) pa_nil)) (nomark _)) (pw_or1 (pt_cmpR (kNe K rfl hr) (pe_callB (kReprD K rfl hr hgd) (by rfl) T.n_repr (by decide +kernel) (pa_cons (pe_gw c_lag_behind_w hr (by decide) hgd (by rfl) noX (pk_cons (pe_ix (kIx K rfl) (pv 1) pe_int (fun _ _ => rfl)) (pk_cons (pv 2) (pk_cons (pe_ix (kIx K rfl) (pv 1) pe_int (fun _ _ => rfl)) pk_nil))) hl_lag_behind_w) pa_nil)) (pe_callB (kReprD K rfl hr hgd) (by rfl) T.n_repr (by decide +kernel) (pa_cons (pv 5) pa_nil)) (nomark _))))) (pss_one (ps_ret pe_bl)) pss_nil)
  (pss_cons (ps_if (pt_cmpR (kNe K rfl hr) (pe_callB (kReprD K rfl hr hgd) (by rfl) T.n_repr (by decide +kernel) (pa_cons (pe_g c_lag_behind hr (by decide) hgd (by rfl) noX (pa_cons (pe_g c__law_turned hr (by decide) hgd (by rfl) noX (pa_cons (pv 2) pa_nil)) (pa_cons (pe_ix (kIx K rfl) (pv 1) pe_int (fun _ _ => rfl)) (pa_cons (pe_ix (kIx K rfl) (pv 1) pe_int (fun _ _ => rfl)) pa_nil)))) pa_nil)) (pe_callB (kReprD K rfl hr hgd) (by rfl) T.n_repr (by decide +kernel) (pa_cons (pe_g c__law_turned hr (by decide) hgd (by rfl) noX (pa_cons (pv 5) pa_nil)) pa_nil)) (nomark _)) (pss_one (ps_ret pe_bl)) pss_nil)
  (pss_one (ps_set (i := 2) sc__law_steps_right.nd rfl (by first | exact Or.inl rfl | exact Or.inr rfl) (pv 5))))))))))
  (pss_one (ps_ret pe_bl)))), ?_⟩
  walk_at "v0"
  refine ⟨by walk_at "sz", fun e1 n1 => ?_⟩
  walk_at "v"
  refine ⟨by walk_at "sz", fun e2 n2 => ?_⟩
  walk_at "v"
  refine for_it (walk_list (K := K) (a := a) (xs := as.map V.ref)) (fun i σ H' => ∃ x1 v l r x5 x6 o, σ = [some (.ref a), x1, some v, some (.str (tx l)), some (.str (tx r)), x5, x6] ∧ o = bh l r ∧ Lg H' v o ∧ Same H H' ∧ Let l ∧ Let r ∧ l.length ≤ 10 * i ∧ r.length ≤ 10 * i)
    ⟨_, _, [], [], _, _, _, rfl, rfl, .inr ⟨e1, [], [], rfl, rfl, (same_new n2) _ _ upd_same⟩, (same_new n1).trans (same_new n2), Let.nil, Let.nil, by simp, by simp⟩ ?_ ?_ ?_
  · rintro i σ Y hi ⟨x1, v, l, r, x5, x6, o, rfl, _, _, sY, _⟩
    exact SqL.of (sY _ _ ha)
  · rintro i x σ Y Y' hi ⟨x1, v, l, r, x5, x6, o, rfl, ho, hv, sY, ll, lr, zl, zr⟩ ⟨rfl, hx⟩
    rw [List.length_map] at hi
    obtain ⟨b, hb⟩ := ex_get (l := as) hi
    have hx' : x = .ref b := by
      rw [List.getElem?_map, hb] at hx
      exact (Option.some.inj hx).symm
    subst hx'
    obtain ⟨r0, r1, _, hrow, l0, l1, z0, z1⟩ := (hrs.mono sY).at hb
    walk_at "v"
    cases o with
    | none =>
      rcases hv with ⟨_, rfl⟩ | ⟨_, _, _, h, _⟩
      · walk_at "v"
        exact q _ sY
      · cases h
    | some xy =>
      obtain ⟨x, y⟩ := xy
      obtain ⟨pv, rfl⟩ : ∃ pv, v = .ref pv := by
        rcases hv with ⟨h, _⟩ | ⟨pv, _, _, _, h, _⟩
        · cases h
        · exact ⟨pv, h⟩
      obtain ⟨cc, ecl, ecr, hxy⟩ := bh_some ho.symm
      have lo : LetO 1000 (some (x, y)) := by
        rw [ho]
        exact bh_let ll lr (by omega) (by omega)
      have hm := bh_more r0 r1 ho.symm
      have LB : LetO 1000 (bh (l ++ r0) (r ++ r1)) := bh_let (ll.app l0) (lr.app l1) (by rw [List.length_append]; omega) (by rw [List.length_append]; omega)
      walk_at "v"
      refine ⟨l ++ r0, r ++ r1, rfl, by rw [List.length_append]; omega, by rw [List.length_append]; omega, fun vd H1 s1 gd => ?_⟩
      have row1 := s1 _ _ hrow
      walk_at "v"
      refine behind_w (hv.mono s1) lo hxy l0 l1 (by omega) (by omega) fun vt H2 s2 gt => ?_
      have row2 := s2 _ _ row1
      rw [← hm] at gt
      have gd2 := gd.mono s2
      walk_at "v"
      refine w_reprD (gt.shown LB) ?_
      walk_at "v"
      refine w_reprD (gd2.shown LB) ?_
      walk_at "v"
      refine w_ifF (by simp) ?_
      walk_at "v"
      refine w_callW ?_
      walk_at "v"
      refine ⟨rfl, ?_⟩
      refine behind_w (v := .ref pv) (u := r0) (t := r1) (hv.mono (s1.trans s2)) lo hxy l0 l1 (by omega) (by omega) fun v3 H3 s3 g3 => ?_
      have row3 := s3 _ _ row2
      rw [← hm] at g3
      have gd3 := gd2.mono s3
      walk_at "v"
      refine w_reprD (g3.shown LB) ?_
      walk_at "v"
      refine w_reprD (gd3.shown LB) ?_
      walk_at "v"
      refine w_ifF (by simp) ?_
      walk_at "v"
      refine ⟨.ref pv, some (x, y), rfl, hv.mono (s1.trans (s2.trans s3)), fun v4 H4 s4 g4 => ?_⟩
      have row4 := s4 _ _ row3
      walk_at "v"
      refine behind_w (x := y) (y := x) g4 lo.turn hxy.symm l1 l0 (by omega) (by omega) fun v5 H5 s5 g5 => ?_
      rw [bh_turn (x ++ r0) (y ++ r1), ← hm] at g5
      walk_at "v"
      refine w_reprD (g5.shown LB.turn) ?_
      walk_at "v"
      refine ⟨vd, _, rfl, gd3.mono (s4.trans s5), fun v6 H6 s6 g6 => ?_⟩
      walk_at "v"
      refine w_reprD (g6.shown LB.turn) ?_
      walk_at "v"
      refine w_ifF (by simp) ?_
      walk_at "v"
      exact ⟨_, _, _, _, _, _, _, rfl, rfl, gd3.mono (s4.trans (s5.trans s6)), sY.trans (s1.trans (s2.trans (s3.trans (s4.trans (s5.trans s6))))), ll.app l0, lr.app l1, by rw [List.length_append]; omega, by rw [List.length_append]; omega⟩
  · rintro σ Y ⟨x1, v, l, r, x5, x6, o, rfl, _, _, sY, _⟩
    walk_at "v"
    exact q _ sY
end
end K11
set_option Elab.async false
set_option linter.all false
set_option maxRecDepth 100000
set_option maxHeartbeats 4000000
namespace K11
open PySem PySem.Spec PyProof.Rows L2 SL Lv Wd
local macro_rules | `(tactic| walk_at "sz") => `(tactic| first
  | assumption
  | omega
  | (simp only [List.length_cons, List.length_nil, List.length_append, List.length_map, List.length_take, List.length_drop, List.length_reverse, List.length_replicate, List.length_range, tx_len, sizeLine_eq, CMul, CDiv, Nat.reduceAdd, Nat.reduceLeDiff]; first | done | omega)
  | decide)
local macro_rules | `(tactic| walk_at "ne") => `(tactic| first
  | assumption
  | exact Ne.symm (by assumption)
  | (refine ne_of_none (H := ?H0) (o := ?oo) ?hh ?hn; (case hn => assumption); (case hh => walk_at "hget"))
  | (refine Ne.symm (ne_of_none (H := ?H0) (o := ?oo) ?hh ?hn); (case hn => assumption); (case hh => walk_at "hget")))
local macro_rules | `(tactic| walk_at "hget") => `(tactic| first
  | assumption
  | exact upd_same
  | (refine (upd_ne ?n).trans ?g; (case n => walk_at "ne"); (case g => walk_at "hget"))
  | (refine fr_get (p := ?pp) (H := ?H0) ?f ?g ?n; (case f => assumption); (case g => walk_at "hget"); (case n => walk_at "ne"))
  | (refine same_get (H := ?H0) ?f ?g; (case f => assumption); (case g => walk_at "hget")))
local macro_rules | `(tactic| walk_at "vget") => `(tactic| first
  | assumption
  | (refine SqL.of ?g; (case g => walk_at "hget"))
  | (refine SqT.of ?g; (case g => walk_at "hget"))
  | (refine sql_new ?n ?g; (case n => assumption); (case g => walk_at "vget"))
  | (refine sqt_new ?n ?g; (case n => assumption); (case g => walk_at "vget"))
  | (refine sql_upd ?n ?g; (case n => walk_at "ne"); (case g => walk_at "vget"))
  | (refine sqt_upd ?n ?g; (case n => walk_at "ne"); (case g => walk_at "vget"))
  | (refine Same.seq (H := ?H0) ?f ?g; (case f => assumption); (case g => walk_at "vget"))
  | (refine Same.seqT (H := ?H0) ?f ?g; (case f => assumption); (case g => walk_at "vget"))
  | (refine fr_sql (b := ?pp) (H := ?H0) ?f ?g ?n; (case f => assumption); (case g => walk_at "vget"); (case n => walk_at "ne"))
  | (refine fr_sqt (b := ?pp) (H := ?H0) ?f ?g ?n; (case f => assumption); (case g => walk_at "vget"); (case n => walk_at "ne")))
local macro_rules | `(tactic| walk_at "at") => `(tactic| first
  | assumption
  | rfl
  | (refine atI_n ?h; (case h => first | assumption | rfl))
  | (refine atI_i ?h0 ?h; (case h0 => omega); (case h => first | assumption | rfl)))
local macro_rules | `(tactic| walk_at "v1") => `(tactic| first
  | with_reducible refine w_seq ?_
  | with_reducible refine w_enx ?_
  | with_reducible refine w_ert ?_
  | with_reducible refine w_asg ?_
  | ((with_reducible refine w_var (v := ?vv) ?h ?_); (case h => exact rfl))
  | with_reducible refine w_op ?_
  | with_reducible refine w_c ?_
  | with_reducible refine w_cons ?_
  | with_reducible refine w_nil ?_
  | with_reducible refine w_cb ?_
  | with_reducible refine w_call ?_
  | with_reducible refine w_k ?_
  | with_reducible refine w_i ?_
  | with_reducible refine w_two ?_
  | ((with_reducible refine w_name ?_); (try simp only [List.set_cons_zero, List.set_cons_succ]))
  | with_reducible refine w_ifS ?_
  | with_reducible refine w_ret ?_
  | with_reducible refine w_drop ?_
  | with_reducible refine w_test ?_
  | with_reducible refine w_B ?_
  | with_reducible refine iteT ?_
  | with_reducible refine iteF ?_
  | with_reducible refine w_same ?_
  | ((with_reducible refine w_ifT ?h ?_); (case h => first | rfl | assumption))
  | ((with_reducible refine w_ifF ?h ?_); (case h => first | rfl | assumption))
  | ((with_reducible refine w_diff ?_ ?h); (case h => decide +kernel))
  | ((with_reducible refine w_wp ?h ?_); (case h => rfl); (try simp only [wipe, List.set_cons_zero, List.set_cons_succ, List.foldl_cons, List.foldl_nil]))
  | ((with_reducible refine w_acc (acc := ?aa) ?h ?_ ?z); (case h => walk_at "hget"); (case z => walk_at "sz"))
  | with_reducible refine w_addI ?_
  | with_reducible refine w_subI ?_
  | with_reducible refine w_lt ?_
  | with_reducible refine w_le ?_
  | with_reducible refine w_gt ?_
  | with_reducible refine w_ge ?_
  | with_reducible refine w_eqI ?_
  | with_reducible refine w_neI ?_
  | with_reducible refine w_eqS ?_
  | with_reducible refine w_neS ?_
  | ((with_reducible refine w_mulI ?_ ?h); (case h => walk_at "sz"))
  | ((with_reducible refine w_divI ?_ ?h); (case h => walk_at "sz"))
  | ((with_reducible refine w_addS ?_ ?h); (case h => walk_at "sz"))
  | ((with_reducible refine w_mulS ?_ ?h); (case h => walk_at "sz"))
  | ((with_reducible refine w_ixL (xs := ?xx) (v := ?vv) ?h ?i ?_); (case h => walk_at "vget"); (case i => walk_at "at"))
  | ((with_reducible refine w_ixT (xs := ?xx) (v := ?vv) ?h ?i ?_); (case h => walk_at "vget"); (case i => walk_at "at"))
  | ((with_reducible refine w_ixS (c := ?cc) ?i ?_ ?h); (case i => walk_at "at"); (case h => walk_at "sz"))
  | ((with_reducible refine w_lenS' ?_ ?h); (case h => walk_at "sz"))
  | ((with_reducible refine w_lenL' (xs := ?xx) ?h ?_); (case h => walk_at "vget"))
  | ((with_reducible refine w_lenT' (xs := ?xx) ?h ?_); (case h => walk_at "vget"))
  | with_reducible refine w_isnN ?_
  | with_reducible refine w_isnI ?_
  | with_reducible refine w_isnS ?_
  | with_reducible refine w_isnR ?_
  | with_reducible refine w_isnB ?_
  | with_reducible refine w_isoN ?_
  | with_reducible refine w_isoI ?_
  | with_reducible refine w_isoS ?_
  | with_reducible refine w_isoR ?_
  | with_reducible refine w_isoB ?_
  | with_reducible refine w_abs ?_
  | with_reducible refine w_int ?_
  | with_reducible refine w_intB ?_
  | with_reducible refine w_min2 ?_
  | with_reducible refine w_max2 ?_
  | with_reducible refine w_min3 ?_
  | with_reducible refine w_sl ?_
  | with_reducible refine w_np ?_
  | with_reducible refine w_part ?_
  | ((with_reducible refine w_sStN ?_ ?h); (case h => walk_at "sz"))
  | ((with_reducible refine w_sSfN ?_ ?h); (case h => walk_at "sz"))
  | ((with_reducible refine w_sSt ?_ ?h); (case h => walk_at "sz"))
  | ((with_reducible refine w_sSf ?_ ?h); (case h => walk_at "sz"))
  | with_reducible refine w_and ?_
  | with_reducible refine w_or ?_
  | with_reducible refine w_not ?_
  | with_reducible refine w_andV ?_
  | with_reducible refine w_orV ?_
  | with_reducible refine w_notV ?_
  | with_reducible refine w_ifE ?_
  | with_reducible refine w_tup ?_
  | with_reducible refine w_lst ?_
  | with_reducible refine w_chain ?_
  | ((with_reducible refine w_par ?_); (try simp only [List.set_cons_zero, List.set_cons_succ]))
  | ((with_reducible refine w_par3 ?_); (try simp only [List.set_cons_zero, List.set_cons_succ]))
  | with_reducible refine w_three ?_
  | with_reducible refine w_un ?_
  | with_reducible refine w_neg ?_
  | with_reducible refine w_next ?_
  | with_reducible refine w_ebk ?_
  | with_reducible refine w_ect ?_
  | with_reducible refine w_for ?_
  | with_reducible refine w_lc ?_
  | with_reducible refine w_yes ?_
  | with_reducible refine w_il ?_
  | with_reducible refine w_it ?_
  | with_reducible refine w_isx ?_
  | with_reducible refine w_ir1 ?_
  | with_reducible refine w_ir2 ?_
  | with_reducible refine w_ies ?_
  | with_reducible refine w_s1 ?_
  | with_reducible refine w_s1l ?_
  | ((with_reducible refine w_r1 ?_ ?h); (case h => walk_at "sz"))
  | ((with_reducible refine w_r2 ?_ ?h); (case h => walk_at "sz"))
  | ((with_reducible refine w_l1 (xs := ?xx) ?h ?_); (case h => walk_at "vget"))
  | ((with_reducible refine w_t1 (xs := ?xx) ?h ?_); (case h => walk_at "vget"))
  | ((with_reducible refine w_isL (xs := ?xx) ?h ?_); (case h => walk_at "vget"))
  | with_reducible refine w_isS ?_
  | ((with_reducible refine w_app (xs := ?xx) ?h ?_ ?z); (case h => walk_at "hget"); (case z => walk_at "sz"))
  | with_reducible refine w_inC ?_
  | with_reducible refine w_rev ?_
  | ((with_reducible refine w_rev1S ?_ ?h); (case h => walk_at "sz"))
  | with_reducible refine w_lrg ?_
  | with_reducible refine w_brk ?_
  | with_reducible refine w_cont ?_
  | with_reducible refine w_retN ?_
  | with_reducible refine w_bm ?_
  | with_reducible refine w_bm0 ?_
  | with_reducible refine w_m1 ?_
  | with_reducible refine w_sub ?_
  | ((with_reducible refine w_setL (xs := ?xx) (j := ?jj) ?h ?i ?_); (case h => walk_at "hget"); (case i => first | rfl | assumption); (try simp only [Int.reduceToNat, List.set_cons_zero, List.set_cons_succ]))
  | with_reducible refine w_ip ?_
  | with_reducible refine w_gnil ?_
  | with_reducible refine w_gcons ?_
  | ((with_reducible refine w_gL (xs := ?xx) ?h ?_ ?n); (case h => walk_at "vget"); (case n => rfl))
  | ((with_reducible refine w_gT (xs := ?xx) ?h ?_ ?n); (case h => walk_at "vget"); (case n => rfl))
  | ((with_reducible refine w_aug (v := ?vv) ?h ?_); (case h => exact rfl)))
local macro_rules | `(tactic| walk_at "v") => `(tactic| repeat walk_at "v1")
local macro_rules | `(tactic| walk_at "v0") => `(tactic| (simp only [L2.start, cxK, ends_rt, List.map_cons, List.map_nil, List.length_cons, List.length_nil, Nat.reduceAdd, Nat.reduceSub, List.replicate_succ, List.replicate_zero, List.append_nil, List.cons_append, List.nil_append]; walk_at "v"))
local macro_rules | `(tactic| walk_at "u1") => `(tactic| first
  | with_reducible refine w_seqA ?_
  | with_reducible refine w_seqD ?_
  | with_reducible refine w_seqP ?_
  | with_reducible refine w_seqP3 ?_
  | with_reducible refine w_seqG ?_
  | ((fail_if_success (with_reducible refine w_seq ?_)); walk_at "v1"))
local macro_rules | `(tactic| walk_at "u") => `(tactic| repeat walk_at "u1")
local macro_rules | `(tactic| walk_at "u0") => `(tactic| (simp only [L2.start, cxK, ends_rt, List.map_cons, List.map_nil, List.length_cons, List.length_nil, Nat.reduceAdd, Nat.reduceSub, List.replicate_succ, List.replicate_zero, List.append_nil, List.cons_append, List.nil_append]; walk_at "u"))
local macro_rules | `(tactic| walk_at "t1") => `(tactic| ((fail_if_success (with_reducible refine w_seq ?_)); walk_at "v1"))
local macro_rules | `(tactic| walk_at "t") => `(tactic| repeat walk_at "t1")

section
variable {P : Program} {w : World} {K : PySem.W.Frag} {mg : Str → Option Value} {base : Heap}
def sd (k : Nat) (p : List Nat × List Nat) : List Nat := if k = 0 then p.1 else p.2
def side (k : Nat) (rs : List (List Nat × List Nat)) : List Nat := (rs.map (sd k)).flatten
theorem Rows.take {n : Nat} {H : Hp} : ∀ {as : List Addr} {rs : List (List Nat × List Nat)} (i : Nat), Rows n H as rs → Rows n H (as.take i) (rs.take i)
  | _, _, 0, _ => .nil
  | _, _, _ + 1, .nil => .nil
  | _, _, i + 1, .cons h1 h2 h3 h4 h5 r => .cons h1 h2 h3 h4 h5 (r.take i)
theorem Rows.drop {n : Nat} {H : Hp} : ∀ {as : List Addr} {rs : List (List Nat × List Nat)} (i : Nat), Rows n H as rs → Rows n H (as.drop i) (rs.drop i)
  | _, _, 0, h => h
  | _, _, _ + 1, .nil => .nil
  | _, _, i + 1, .cons h1 h2 h3 h4 h5 r => r.drop i
theorem Rows.side {n : Nat} {H : Hp} (k : Nat) : ∀ {as : List Addr} {rs : List (List Nat × List Nat)}, Rows n H as rs → Let (side k rs) ∧ (side k rs).length ≤ n * as.length
  | _, _, .nil => ⟨Let.nil, by simp [K11.side]⟩
  | _, _, .cons (x := x) (y := y) (as := as) (rs := rs) h1 h2 h3 h4 h5 r => by
    obtain ⟨i1, i2⟩ := r.side k
    have e : K11.side k ((x, y) :: rs) = sd k (x, y) ++ K11.side k rs := rfl
    rw [e]
    have l1 : Let (sd k (x, y)) ∧ (sd k (x, y)).length ≤ n := by
      unfold sd
      split
      · exact ⟨h2, h4⟩
      · exact ⟨h3, h5⟩
    refine ⟨l1.1.app i1, ?_⟩
    rw [List.length_append, List.length_cons, Nat.mul_succ]
    omega
theorem side_more (k : Nat) {rs : List (List Nat × List Nat)} {i : Nat} {p : List Nat × List Nat} (h : rs[i]? = some p) : (rs.take (i + 1)).map (sd k) = (rs.take i).map (sd k) ++ [sd k p] := by
  rw [take_more h, List.map_append]
  rfl
theorem col_at {k : Nat} (hk : k < 2) (x y : List Nat) : [V.str (tx x), V.str (tx y)][k]? = some (.str (tx (sd k (x, y)))) := by
  match k, hk with
  | 0, _ => rfl
  | 1, _ => rfl
theorem ok__law_stretches_right (T : Txt K mg) (c__law_behind : Cal P w K mg base 1 "_law_behind" ["left", "right"] spAfter)
    (c_lag_behind : Cal P w K mg base 4 "lag_behind" ["lag", "one", "other"] (spLagB K (errAt mg "InvalidText"))) :
    Cal P w K mg base 5 "_law_stretches_right" ["steps"] spSteps := by
  refine cal0 T.d__law_stretches_right sc__law_stretches_right (by rintro vs H Q E ⟨a, rfl, _⟩; rfl) (fun cdv f A outer s H vs Q E hr hgd h => ?_)
  obtain ⟨a, rfl, ⟨as, ha, zas, _, hg⟩, q⟩ := h
  obtain ⟨rs, hrs⟩ := rows_of hg
  have zrs := hrs.len
  have zm : (as.map V.ref).length = as.length := by rw [List.length_map]
  refine ⟨_, (pss_cons (ps_for PassesOwn.never rfl (pi_range1 (by rfl) T.n_range (pa_cons (pe_callB (kLen K rfl) (by rfl) T.n_len (by decide +kernel) (pa_cons (pv 0) pa_nil)) pa_nil)) (pg_name (i := 1) sc__law_stretches_right.nd rfl (by first | exact Or.inl rfl | exact Or.inr rfl))
  (pss_cons (ps_setLc (i := 2) (own := [("side", 7)]) rfl sc__law_stretches_right.nd rfl rfl (sw_true rfl rfl rfl (by decide +kernel)) (pi_range1 (by rfl) T.n_range (pa_cons pe_int pa_nil)) (blkOk_by (own := [("side", 7)]) (N := N__law_stretches_right) (sc := defScope s__law_stretches_right) (by decide +kernel)) (fun _ _ _ _ _ => (pg_name (i := 7) sc__law_stretches_right.nd rfl (by first | exact Or.inl rfl | exact Or.inr rfl))) (fun _ _ _ _ _ => pts_nil) (fun _ _ _ _ _ => (pe_m1 PySem.F.slot_str_join PySem.F.type_str_join (kJoin K rfl) (pe_tx [] (by decide +kernel)) (pe_lc (own := [("row", 8)]) rfl sc__law_stretches_right.nd (kiList K rfl (pe_slice (kSl K rfl) (pv 0) po_none (po_some (pv 1)))) (by refine blkOk_by ?_; show blkC N__law_stretches_right _ _ _ = true; dsimp only [Cx.blk, compEnvC]; rw [SL.relabel_eq _ _ (defScope s__law_stretches_right) rfl]; decide +kernel) (fun _ _ _ _ _ => (pg_name (i := 8) sc__law_stretches_right.nd rfl (by first | exact Or.inl rfl | exact Or.inr rfl))) (fun _ _ _ _ _ => pts_nil) (fun _ _ _ _ _ => (pe_ix (kIx K rfl) (pv 8) (pv 7) (fun _ _ => rfl)))))))
  (pss_cons (ps_set (i := 3) sc__law_stretches_right.nd rfl (by first | exact Or.inl rfl | exact Or.inr rfl) (pe_g c__law_behind hr (by decide) hgd (by rfl) noX (pa_cons (pe_ix (kIx K rfl) (pv 2) pe_int (fun _ _ => rfl)) (pa_cons (pe_ix (kIx K rfl) (pv 2) pe_int (fun _ _ => rfl)) pa_nil))))
  (pss_one (ps_for PassesOwn.never rfl (pi_range2 (by rfl) T.n_range (pa_cons (pv 1) (pa_cons (pe_op (kAdd K rfl) (pe_callB (kLen K rfl) (by rfl) T.n_len (by decide +kernel) (pa_cons (pv 0) pa_nil)) pe_int) pa_nil))) (pg_name (i := 4) sc__law_stretches_right.nd rfl (by first | exact Or.inl rfl | exact Or.inr rfl))
  (pss_cons (ps_setLc (i := 5) (own := [("side", 7)]) rfl sc__law_stretches_right.nd rfl rfl (sw_true rfl rfl rfl (by decide +kernel)) (pi_range1 (by rfl) T.n_range (pa_cons pe_int pa_nil)) (blkOk_by (own := [("side", 7)]) (N := N__law_stretches_right) (sc := defScope s__law_stretches_right) (by decide +kernel)) (fun _ _ _ _ _ => (pg_name (i := 7) sc__law_stretches_right.nd rfl (by first | exact Or.inl rfl | exact Or.inr rfl))) (fun _ _ _ _ _ => pts_nil) (fun _ _ _ _ _ => (pe_m1 PySem.F.slot_str_join PySem.F.type_str_join (kJoin K rfl) (pe_tx [] (by decide +kernel)) (pe_lc (own := [("row", 8)]) rfl sc__law_stretches_right.nd (kiList K rfl (pe_slice (kSl K rfl) (pv 0) (po_some (pv 1)) (po_some (pv 4)))) (by refine blkOk_by ?_; show blkC N__law_stretches_right _ _ _ = true; dsimp only [Cx.blk, compEnvC]; rw [SL.relabel_eq _ _ (defScope s__law_stretches_right) rfl]; decide +kernel) (fun _ _ _ _ _ => (pg_name (i := 8) sc__law_stretches_right.nd rfl (by first | exact Or.inl rfl | exact Or.inr rfl))) (fun _ _ _ _ _ => pts_nil) (fun _ _ _ _ _ => (pe_ix (kIx K rfl) (pv 8) (pv 7) (fun _ _ => rfl)))))))
  (pss_cons (ps_set (i := 6) sc__law_stretches_right.nd rfl (by first | exact Or.inl rfl | exact Or.inr rfl) (pe_g c__law_behind hr (by decide) hgd (by rfl) noX (pa_cons (pe_op (kAdd K rfl) (pe_ix (kIx K rfl) (pv 2) pe_int (fun _ _ => rfl)) (pe_ix (kIx K rfl) (pv 5) pe_int (fun _ _ => rfl))) (pa_cons (pe_op (kAdd K rfl) (pe_ix (kIx K rfl) (pv 2) pe_int (fun _ _ => rfl)) (pe_ix (kIx K rfl) (pv 5) pe_int (fun _ _ => rfl))) pa_nil))))
  (pss_one (ps_if (PW.pt (pw_and (pt_cmpR uIsNot (pv 3) pe_non (nomark _)) (pw_and1 (pt_cmpR (kNe K rfl hr) (pe_callB (kReprD K rfl hr hgd) (by rfl) T.n_repr (by decide +kernel) (pa_cons (pe_g c_lag_behind hr (by decide) hgd (by rfl) noX (pa_cons (pv 3) (pa_cons (pe_ix (kIx K rfl) (pv 5) pe_int (fun _ _ => rfl)) (pa_cons (pe_ix (kIx K rfl) (pv 5) pe_int (fun _ _ => rfl)) pa_nil)))) pa_nil)) (pe_callB (kReprD K rfl hr hgd) (by rfl) T.n_repr (by decide +kernel) (pa_cons (pv 6) pa_nil)) (nomark _))))) (pss_one (ps_ret pe_bl)) pss_nil)))))))))
  (pss_one (ps_ret pe_bl))), ?_⟩
  walk_at "v0"
  refine for_rg (n := as.length) (by rw [zm]; omega) (fun i σ H' => ∃ x2 x3 x4 x5 x6 x7 x8 x1, σ = [some (.ref a), x1, x2, x3, x4, x5, x6, x7, x8] ∧ Same H H') ⟨_, _, _, _, _, _, _, _, rfl, Same.refl _⟩ ?_ ?_
  · rintro i σ Y hi ⟨x2, x3, x4, x5, x6, x7, x8, x1, rfl, sY⟩
    have r1 := (hrs.take i).mono sY
    have haY := sY _ _ ha
    have za : (as.take i).length ≤ 6 := by rw [List.length_take]; omega
    walk_at "v"
    intro D hD
    refine lc_rg (n := 2) rfl (fun k H' => Same Y H' ∧ H' D = some (.lst ((List.range k).map fun k => V.str (tx (side k (rs.take i)))))) ⟨same_new hD, upd_same⟩ ?_ ?_
    · rintro k Y1 hk ⟨s1, h1⟩
      have g1 := s1 _ _ haY
      walk_at "v"
      refine w_sLt (SqL.of g1) (by omega) fun e he => ?_
      have em : (as.map V.ref).take ((i : Int)).toNat = (as.take i).map V.ref := by rw [Int.toNat_natCast, List.map_take]
      rw [em]
      have nDe : D ≠ e := ne_of_none h1 he
      walk_at "v"
      intro D2 hD2
      have neD : e ≠ D2 := ne_of_none upd_same hD2
      refine lc_it (walk_list (K := K) (a := e) (xs := (as.take i).map V.ref)) (fun jj H' => Same Y1 H' ∧ H' e = some (.lst ((as.take i).map V.ref)) ∧ H' D2 = some (.lst (((rs.take i).take jj).map fun p => V.str (tx (sd k p))))) ⟨(same_new he).trans (same_new hD2), (same_new hD2) _ _ upd_same, upd_same⟩ ?_ ?_ ?_
      · rintro jj Y2 hj ⟨s2, h2, h3⟩
        exact SqL.of h2
      · rintro jj x Y2 Y3 hj ⟨s2, h2, h3⟩ ⟨rfl, hx⟩
        obtain ⟨b, hb⟩ := ex_get (l := as.take i) (k := jj) (by rw [List.length_map] at hj; exact hj)
        have hx' : x = .ref b := by
          rw [List.getElem?_map, hb] at hx
          exact (Option.some.inj hx).symm
        subst hx'
        obtain ⟨r0, r1', hr0, hrow, _⟩ := (r1.mono (s1.trans s2)).at hb
        have hc := col_at hk r0 r1'
        have zc : (((rs.take i).take jj).map fun p => V.str (tx (sd k p))).length ≤ 6 := by
          rw [List.length_map]
          simp only [List.length_take, List.length_drop]
          omega
        walk_at "v"
        refine ⟨Same.grow s2 (by have := Same.none (same_new he) hD2; exact this), (upd_ne neD).trans h2, ?_⟩
        rw [upd_same, take_more hr0, List.map_append]
        rfl
      · rintro Y2 ⟨s2, h2, h3⟩
        have ec : (rs.take i).take ((as.take i).map V.ref).length = rs.take i := List.take_of_length_le (by simp only [List.length_map, List.length_take, List.length_drop]; omega)
        rw [ec] at h3
        have hl := (r1.side k).2
        walk_at "v"
        refine w_join (ls := (rs.take i).map (sd k)) (SqL.of (by rw [List.map_map]; exact h3)) ?_ (by show (side k (rs.take i)).length ≤ _; have := r1.side k; have := za; omega)
        have h1' := s2 _ _ h1
        have zk : ((List.range k).map fun k => V.str (tx (side k (rs.take i)))).length = k := by rw [List.length_map, List.length_range]
        walk_at "v"
        refine ⟨Same.grow (s1.trans s2) hD, ?_⟩
        rw [upd_same, List.range_succ, List.map_append]
        rfl
    · rintro Y1 ⟨s1, h1⟩
      have h1 : Y1 D = some (.lst [.str (tx (side 0 (rs.take i))), .str (tx (side 1 (rs.take i)))]) := h1
      have A0 := r1.side 0
      have A1 := r1.side 1
      have zA0 : (side 0 (rs.take i)).length ≤ 60 := by omega
      have zA1 : (side 1 (rs.take i)).length ≤ 60 := by omega
      walk_at "v"
      refine ⟨_, _, rfl, by omega, by omega, fun v Z sZ gv => ?_⟩
      have hD2 := sZ _ _ h1
      have sZ' := sY.trans (s1.trans sZ)
      have aZ := sZ' _ _ ha
      walk_at "v"
      refine for_rg2 (n := as.length + 1 - i) (by rw [zm]; omega) (fun j σ H' => ∃ x5 x6 x7 x8 x9, σ = [some (.ref a), some (.int i), some (.ref D), some v, x5, x6, x7, x8, x9] ∧ Same Z H') ⟨_, _, _, _, _, rfl, Same.refl _⟩ ?_ ?_
      · rintro j σ W hj ⟨x5, x6, x7, x8, x9, rfl, sW⟩
        have r2 := ((hrs.drop i).take j).mono (sZ'.trans sW)
        have haW := (sZ'.trans sW) _ _ ha
        have zb : ((as.drop i).take j).length ≤ 6 := by rw [List.length_take, List.length_drop]; omega
        have hij : (i : Int) + (j : Int) = ((i + j : Nat) : Int) := by omega
        rw [hij]
        walk_at "v"
        intro M hM
        refine lc_rg (n := 2) rfl (fun k H' => Same W H' ∧ H' M = some (.lst ((List.range k).map fun k => V.str (tx (side k ((rs.drop i).take j)))))) ⟨same_new hM, upd_same⟩ ?_ ?_
        · rintro k Y1 hk ⟨s1, h1⟩
          have g1 := s1 _ _ haW
          walk_at "v"
          refine w_sLB (SqL.of g1) (by rw [zm]; omega) (by rw [zm]; omega) fun e he => ?_
          have em : ((as.map V.ref).drop i).take (i + j - i) = ((as.drop i).take j).map V.ref := by rw [List.map_take, List.map_drop, Nat.add_sub_cancel_left]
          rw [em]
          have nDe : M ≠ e := ne_of_none h1 he
          walk_at "v"
          intro D2 hD2
          have neD : e ≠ D2 := ne_of_none upd_same hD2
          refine lc_it (walk_list (K := K) (a := e) (xs := ((as.drop i).take j).map V.ref)) (fun jj H' => Same Y1 H' ∧ H' e = some (.lst (((as.drop i).take j).map V.ref)) ∧ H' D2 = some (.lst ((((rs.drop i).take j).take jj).map fun p => V.str (tx (sd k p))))) ⟨(same_new he).trans (same_new hD2), (same_new hD2) _ _ upd_same, upd_same⟩ ?_ ?_ ?_
          · rintro jj Y2 hj ⟨s2, h2, h3⟩
            exact SqL.of h2
          · rintro jj x Y2 Y3 hj ⟨s2, h2, h3⟩ ⟨rfl, hx⟩
            obtain ⟨b, hb⟩ := ex_get (l := (as.drop i).take j) (k := jj) (by rw [List.length_map] at hj; exact hj)
            have hx' : x = .ref b := by
              rw [List.getElem?_map, hb] at hx
              exact (Option.some.inj hx).symm
            subst hx'
            obtain ⟨r0, r1', hr0, hrow, _⟩ := (r2.mono (s1.trans s2)).at hb
            have hc := col_at hk r0 r1'
            have zc : ((((rs.drop i).take j).take jj).map fun p => V.str (tx (sd k p))).length ≤ 6 := by
              rw [List.length_map]
              simp only [List.length_take, List.length_drop]
              omega
            walk_at "v"
            refine ⟨Same.grow s2 (by have := Same.none (same_new he) hD2; exact this), (upd_ne neD).trans h2, ?_⟩
            rw [upd_same, take_more hr0, List.map_append]
            rfl
          · rintro Y2 ⟨s2, h2, h3⟩
            have ec : ((rs.drop i).take j).take (((as.drop i).take j).map V.ref).length = (rs.drop i).take j := List.take_of_length_le (by simp only [List.length_map, List.length_take, List.length_drop]; omega)
            rw [ec] at h3
            have hl := (r2.side k).2
            walk_at "v"
            refine w_join (ls := ((rs.drop i).take j).map (sd k)) (SqL.of (by rw [List.map_map]; exact h3)) ?_ (by show (side k ((rs.drop i).take j)).length ≤ _; have := r2.side k; have := zb; omega)
            have h1' := s2 _ _ h1
            have zk : ((List.range k).map fun k => V.str (tx (side k ((rs.drop i).take j)))).length = k := by rw [List.length_map, List.length_range]
            walk_at "v"
            refine ⟨Same.grow (s1.trans s2) hM, ?_⟩
            rw [upd_same, List.range_succ, List.map_append]
            rfl
        · rintro Y2 ⟨s2, h2⟩
          have h2 : Y2 M = some (.lst [.str (tx (side 0 ((rs.drop i).take j))), .str (tx (side 1 ((rs.drop i).take j)))]) := h2
          have B0 := r2.side 0
          have B1 := r2.side 1
          have zB0 : (side 0 ((rs.drop i).take j)).length ≤ 60 := by omega
          have zB1 : (side 1 ((rs.drop i).take j)).length ≤ 60 := by omega
          have hD3 := (sW.trans s2) _ _ hD2
          walk_at "v"
          refine ⟨_, _, rfl, by rw [List.length_append]; omega, by rw [List.length_append]; omega, fun vd Y3 s3 gd => ?_⟩
          have h3 := s3 _ _ h2
          have LB : LetO 1000 (bh (side 0 (rs.take i) ++ side 0 ((rs.drop i).take j)) (side 1 (rs.take i) ++ side 1 ((rs.drop i).take j))) := bh_let (A0.1.app B0.1) (A1.1.app B1.1) (by rw [List.length_append]; omega) (by rw [List.length_append]; omega)
          have gv3 := gv.mono (sW.trans (s2.trans s3))
          cases ho : bh (side 0 (rs.take i)) (side 1 (rs.take i)) with
          | none =>
            rw [ho] at gv3
            rcases gv3 with ⟨_, rfl⟩ | ⟨_, _, _, h, _⟩
            · walk_at "v"
              exact ⟨_, _, _, _, _, rfl, sW.trans (s2.trans s3)⟩
            · cases h
          | some xy =>
            obtain ⟨x, y⟩ := xy
            rw [ho] at gv3
            obtain ⟨pv, rfl⟩ : ∃ pv, v = .ref pv := by
              rcases gv3 with ⟨h, _⟩ | ⟨pv, _, _, _, h, _⟩
              · cases h
              · exact ⟨pv, h⟩
            obtain ⟨cc, ecl, ecr, hxy⟩ := bh_some ho
            have lo : LetO 1000 (some (x, y)) := by
              rw [← ho]
              exact bh_let A0.1 A1.1 (by omega) (by omega)
            have hm := bh_more (side 0 ((rs.drop i).take j)) (side 1 ((rs.drop i).take j)) ho
            walk_at "v"
            refine behind_w gv3 lo hxy B0.1 B1.1 (by omega) (by omega) fun vt Y4 s4 gt => ?_
            rw [← hm] at gt
            walk_at "v"
            refine w_reprD (gt.shown LB) ?_
            walk_at "v"
            refine w_reprD ((gd.mono s4).shown LB) ?_
            walk_at "v"
            refine w_ifF (by simp) ?_
            walk_at "v"
            exact ⟨_, _, _, _, _, rfl, sW.trans (s2.trans (s3.trans s4))⟩
      · rintro σ W ⟨x5, x6, x7, x8, x9, rfl, sW⟩
        walk_at "v"
        exact ⟨_, _, _, _, _, _, _, _, rfl, sZ'.trans sW⟩
  · rintro σ Y ⟨x2, x3, x4, x5, x6, x7, x8, x1, rfl, sY⟩
    walk_at "v"
    exact q _ sY
end
end K11
set_option Elab.async false
set_option linter.all false
set_option maxRecDepth 100000
set_option maxHeartbeats 4000000
namespace K11
open PySem PySem.Spec PyProof.Rows L2 SL Lv Wd
local macro_rules | `(tactic| walk_at "sz") => `(tactic| first
  | assumption
  | omega
  | (simp only [List.length_cons, List.length_nil, List.length_append, List.length_map, List.length_take, List.length_drop, List.length_reverse, List.length_replicate, List.length_range, tx_len, sizeLine_eq, CMul, CDiv, Nat.reduceAdd, Nat.reduceLeDiff]; first | done | omega)
  | decide)
local macro_rules | `(tactic| walk_at "ne") => `(tactic| first
  | assumption
  | exact Ne.symm (by assumption)
  | (refine ne_of_none (H := ?H0) (o := ?oo) ?hh ?hn; (case hn => assumption); (case hh => walk_at "hget"))
  | (refine Ne.symm (ne_of_none (H := ?H0) (o := ?oo) ?hh ?hn); (case hn => assumption); (case hh => walk_at "hget")))
local macro_rules | `(tactic| walk_at "hget") => `(tactic| first
  | assumption
  | exact upd_same
  | (refine (upd_ne ?n).trans ?g; (case n => walk_at "ne"); (case g => walk_at "hget"))
  | (refine fr_get (p := ?pp) (H := ?H0) ?f ?g ?n; (case f => assumption); (case g => walk_at "hget"); (case n => walk_at "ne"))
  | (refine same_get (H := ?H0) ?f ?g; (case f => assumption); (case g => walk_at "hget")))
local macro_rules | `(tactic| walk_at "vget") => `(tactic| first
  | assumption
  | (refine SqL.of ?g; (case g => walk_at "hget"))
  | (refine SqT.of ?g; (case g => walk_at "hget"))
  | (refine sql_new ?n ?g; (case n => assumption); (case g => walk_at "vget"))
  | (refine sqt_new ?n ?g; (case n => assumption); (case g => walk_at "vget"))
  | (refine sql_upd ?n ?g; (case n => walk_at "ne"); (case g => walk_at "vget"))
  | (refine sqt_upd ?n ?g; (case n => walk_at "ne"); (case g => walk_at "vget"))
  | (refine Same.seq (H := ?H0) ?f ?g; (case f => assumption); (case g => walk_at "vget"))
  | (refine Same.seqT (H := ?H0) ?f ?g; (case f => assumption); (case g => walk_at "vget"))
  | (refine fr_sql (b := ?pp) (H := ?H0) ?f ?g ?n; (case f => assumption); (case g => walk_at "vget"); (case n => walk_at "ne"))
  | (refine fr_sqt (b := ?pp) (H := ?H0) ?f ?g ?n; (case f => assumption); (case g => walk_at "vget"); (case n => walk_at "ne")))
local macro_rules | `(tactic| walk_at "at") => `(tactic| first
  | assumption
  | rfl
  | (refine atI_n ?h; (case h => first | assumption | rfl))
  | (refine atI_i ?h0 ?h; (case h0 => omega); (case h => first | assumption | rfl)))
local macro_rules | `(tactic| walk_at "v1") => `(tactic| first
  | with_reducible refine w_seq ?_
  | with_reducible refine w_enx ?_
  | with_reducible refine w_ert ?_
  | with_reducible refine w_asg ?_
  | ((with_reducible refine w_var (v := ?vv) ?h ?_); (case h => exact rfl))
  | with_reducible refine w_op ?_
  | with_reducible refine w_c ?_
  | with_reducible refine w_cons ?_
  | with_reducible refine w_nil ?_
  | with_reducible refine w_cb ?_
  | with_reducible refine w_call ?_
  | with_reducible refine w_k ?_
  | with_reducible refine w_i ?_
  | with_reducible refine w_two ?_
  | ((with_reducible refine w_name ?_); (try simp only [List.set_cons_zero, List.set_cons_succ]))
  | with_reducible refine w_ifS ?_
  | with_reducible refine w_ret ?_
  | with_reducible refine w_drop ?_
  | with_reducible refine w_test ?_
  | with_reducible refine w_B ?_
  | with_reducible refine iteT ?_
  | with_reducible refine iteF ?_
  | with_reducible refine w_same ?_
  | ((with_reducible refine w_ifT ?h ?_); (case h => first | rfl | assumption))
  | ((with_reducible refine w_ifF ?h ?_); (case h => first | rfl | assumption))
  | ((with_reducible refine w_diff ?_ ?h); (case h => decide +kernel))
  | ((with_reducible refine w_wp ?h ?_); (case h => rfl); (try simp only [wipe, List.set_cons_zero, List.set_cons_succ, List.foldl_cons, List.foldl_nil]))
  | ((with_reducible refine w_acc (acc := ?aa) ?h ?_ ?z); (case h => walk_at "hget"); (case z => walk_at "sz"))
  | with_reducible refine w_addI ?_
  | with_reducible refine w_subI ?_
  | with_reducible refine w_lt ?_
  | with_reducible refine w_le ?_
  | with_reducible refine w_gt ?_
  | with_reducible refine w_ge ?_
  | with_reducible refine w_eqI ?_
  | with_reducible refine w_neI ?_
  | with_reducible refine w_eqS ?_
  | with_reducible refine w_neS ?_
  | ((with_reducible refine w_mulI ?_ ?h); (case h => walk_at "sz"))
  | ((with_reducible refine w_divI ?_ ?h); (case h => walk_at "sz"))
  | ((with_reducible refine w_addS ?_ ?h); (case h => walk_at "sz"))
  | ((with_reducible refine w_mulS ?_ ?h); (case h => walk_at "sz"))
  | ((with_reducible refine w_ixL (xs := ?xx) (v := ?vv) ?h ?i ?_); (case h => walk_at "vget"); (case i => walk_at "at"))
  | ((with_reducible refine w_ixT (xs := ?xx) (v := ?vv) ?h ?i ?_); (case h => walk_at "vget"); (case i => walk_at "at"))
  | ((with_reducible refine w_ixS (c := ?cc) ?i ?_ ?h); (case i => walk_at "at"); (case h => walk_at "sz"))
  | ((with_reducible refine w_lenS' ?_ ?h); (case h => walk_at "sz"))
  | ((with_reducible refine w_lenL' (xs := ?xx) ?h ?_); (case h => walk_at "vget"))
  | ((with_reducible refine w_lenT' (xs := ?xx) ?h ?_); (case h => walk_at "vget"))
  | with_reducible refine w_isnN ?_
  | with_reducible refine w_isnI ?_
  | with_reducible refine w_isnS ?_
  | with_reducible refine w_isnR ?_
  | with_reducible refine w_isnB ?_
  | with_reducible refine w_isoN ?_
  | with_reducible refine w_isoI ?_
  | with_reducible refine w_isoS ?_
  | with_reducible refine w_isoR ?_
  | with_reducible refine w_isoB ?_
  | with_reducible refine w_abs ?_
  | with_reducible refine w_int ?_
  | with_reducible refine w_intB ?_
  | with_reducible refine w_min2 ?_
  | with_reducible refine w_max2 ?_
  | with_reducible refine w_min3 ?_
  | with_reducible refine w_sl ?_
  | with_reducible refine w_np ?_
  | with_reducible refine w_part ?_
  | ((with_reducible refine w_sStN ?_ ?h); (case h => walk_at "sz"))
  | ((with_reducible refine w_sSfN ?_ ?h); (case h => walk_at "sz"))
  | ((with_reducible refine w_sSt ?_ ?h); (case h => walk_at "sz"))
  | ((with_reducible refine w_sSf ?_ ?h); (case h => walk_at "sz"))
  | with_reducible refine w_and ?_
  | with_reducible refine w_or ?_
  | with_reducible refine w_not ?_
  | with_reducible refine w_andV ?_
  | with_reducible refine w_orV ?_
  | with_reducible refine w_notV ?_
  | with_reducible refine w_ifE ?_
  | with_reducible refine w_tup ?_
  | with_reducible refine w_lst ?_
  | with_reducible refine w_chain ?_
  | ((with_reducible refine w_par ?_); (try simp only [List.set_cons_zero, List.set_cons_succ]))
  | ((with_reducible refine w_par3 ?_); (try simp only [List.set_cons_zero, List.set_cons_succ]))
  | with_reducible refine w_three ?_
  | with_reducible refine w_un ?_
  | with_reducible refine w_neg ?_
  | with_reducible refine w_next ?_
  | with_reducible refine w_ebk ?_
  | with_reducible refine w_ect ?_
  | with_reducible refine w_for ?_
  | with_reducible refine w_lc ?_
  | with_reducible refine w_yes ?_
  | with_reducible refine w_il ?_
  | with_reducible refine w_it ?_
  | with_reducible refine w_isx ?_
  | with_reducible refine w_ir1 ?_
  | with_reducible refine w_ir2 ?_
  | with_reducible refine w_ies ?_
  | with_reducible refine w_s1 ?_
  | with_reducible refine w_s1l ?_
  | ((with_reducible refine w_r1 ?_ ?h); (case h => walk_at "sz"))
  | ((with_reducible refine w_r2 ?_ ?h); (case h => walk_at "sz"))
  | ((with_reducible refine w_l1 (xs := ?xx) ?h ?_); (case h => walk_at "vget"))
  | ((with_reducible refine w_t1 (xs := ?xx) ?h ?_); (case h => walk_at "vget"))
  | ((with_reducible refine w_isL (xs := ?xx) ?h ?_); (case h => walk_at "vget"))
  | with_reducible refine w_isS ?_
  | ((with_reducible refine w_app (xs := ?xx) ?h ?_ ?z); (case h => walk_at "hget"); (case z => walk_at "sz"))
  | with_reducible refine w_inC ?_
  | with_reducible refine w_rev ?_
  | ((with_reducible refine w_rev1S ?_ ?h); (case h => walk_at "sz"))
  | with_reducible refine w_lrg ?_
  | with_reducible refine w_brk ?_
  | with_reducible refine w_cont ?_
  | with_reducible refine w_retN ?_
  | with_reducible refine w_bm ?_
  | with_reducible refine w_bm0 ?_
  | with_reducible refine w_m1 ?_
  | with_reducible refine w_sub ?_
  | ((with_reducible refine w_setL (xs := ?xx) (j := ?jj) ?h ?i ?_); (case h => walk_at "hget"); (case i => first | rfl | assumption); (try simp only [Int.reduceToNat, List.set_cons_zero, List.set_cons_succ]))
  | with_reducible refine w_ip ?_
  | with_reducible refine w_gnil ?_
  | with_reducible refine w_gcons ?_
  | ((with_reducible refine w_gL (xs := ?xx) ?h ?_ ?n); (case h => walk_at "vget"); (case n => rfl))
  | ((with_reducible refine w_gT (xs := ?xx) ?h ?_ ?n); (case h => walk_at "vget"); (case n => rfl))
  | ((with_reducible refine w_aug (v := ?vv) ?h ?_); (case h => exact rfl)))
local macro_rules | `(tactic| walk_at "v") => `(tactic| repeat walk_at "v1")
local macro_rules | `(tactic| walk_at "v0") => `(tactic| (simp only [L2.start, cxK, ends_rt, List.map_cons, List.map_nil, List.length_cons, List.length_nil, Nat.reduceAdd, Nat.reduceSub, List.replicate_succ, List.replicate_zero, List.append_nil, List.cons_append, List.nil_append]; walk_at "v"))
local macro_rules | `(tactic| walk_at "u1") => `(tactic| first
  | with_reducible refine w_seqA ?_
  | with_reducible refine w_seqD ?_
  | with_reducible refine w_seqP ?_
  | with_reducible refine w_seqP3 ?_
  | with_reducible refine w_seqG ?_
  | ((fail_if_success (with_reducible refine w_seq ?_)); walk_at "v1"))
local macro_rules | `(tactic| walk_at "u") => `(tactic| repeat walk_at "u1")
local macro_rules | `(tactic| walk_at "u0") => `(tactic| (simp only [L2.start, cxK, ends_rt, List.map_cons, List.map_nil, List.length_cons, List.length_nil, Nat.reduceAdd, Nat.reduceSub, List.replicate_succ, List.replicate_zero, List.append_nil, List.cons_append, List.nil_append]; walk_at "u"))
local macro_rules | `(tactic| walk_at "t1") => `(tactic| ((fail_if_success (with_reducible refine w_seq ?_)); walk_at "v1"))
local macro_rules | `(tactic| walk_at "t") => `(tactic| repeat walk_at "t1")

section
variable {P : Program} {w : World} {K : PySem.W.Frag} {mg : Str → Option Value} {base : Heap}
theorem good.ne_nat {n : Nat} {H : Hp} {b e : Addr} {ss : List Nat} (h : good n H b) (k : H e = some (.lst (natL ss))) (z : ss.length = 2) : b ≠ e := fun q => by
  obtain ⟨x, y, _, _, _, _, h5⟩ := h
  rw [q, k] at h5
  match ss, z with
  | [s, t], _ => simp [natL] at h5
theorem good.ne_ref {n : Nat} {H : Hp} {b e : Addr} {as : List Addr} (h : good n H b) (k : H e = some (.lst (as.map V.ref))) : b ≠ e := fun q => by
  obtain ⟨x, y, _, _, _, _, h5⟩ := h
  rw [q, k] at h5
  cases as with
  | nil => simp at h5
  | cons a r => simp at h5
def spChain : Sp := fun vs H Q _ => ∃ (p r : Addr) (l : List Nat) (c : Nat), vs = [.ref p, .ref r] ∧ Box H p c ∧ c ≤ 1000000 ∧ H r = some (.lst (ltL l)) ∧ l.length = 2 ∧ Let l ∧ r ≠ p ∧
  ∀ a H', Ch 10 H' a → Box H' p (c + 200) → SL.Fr p H H' → Q (.ref a) H'
theorem ok__law_chain (T : Txt K mg) (c__law_take : Cal P w K mg base 1 "_law_take" ["box", "many"] spTake) (c__law_word : Cal P w K mg base 2 "_law_word" ["box", "letters", "size"] (spWord K)) :
    Cal P w K mg base 3 "_law_chain" ["box", "letters"] spChain := by
  refine cal0 T.d__law_chain sc__law_chain (by rintro vs H Q E ⟨p, r, l, c, rfl, _⟩; rfl) (fun cdv f A outer s H vs Q E hr hgd h => ?_)
  obtain ⟨p, r, l, c, rfl, hb, hc, hl, z2, ll, nrp, q⟩ := h
  refine ⟨_, (pss_cons (ps_set (i := 2) sc__law_chain.nd rfl (by first | exact Or.inl rfl | exact Or.inr rfl) (pe_g c__law_word hr (by decide) hgd (by rfl) noX (pa_cons (pv 0) (pa_cons (pv 1) (pa_cons (pe_op (kAdd K rfl) pe_int (pe_g c__law_take hr (by decide) hgd (by rfl) noX (pa_cons (pv 0) (pa_cons pe_int pa_nil)))) pa_nil)))))
  (pss_cons (ps_if (pt_cmpR (kEq K rfl hr) (pe_g c__law_take hr (by decide) hgd (by rfl) noX (pa_cons (pv 0) (pa_cons pe_int pa_nil))) pe_int (nomark _)) (pss_one (ps_set (i := 2) sc__law_chain.nd rfl (by first | exact Or.inl rfl | exact Or.inr rfl) (pe_slice (kSl K rfl) (pe_op uMul (pe_slice (kSl K rfl) (pv 2) po_none (po_some pe_int)) pe_int) po_none (po_some pe_int)))) pss_nil)
  (pss_cons (ps_par3 (i := 4) (j := 5) (l := 6) (by rfl) sc__law_chain.nd rfl rfl rfl (by decide) (by decide) (by decide) rfl rfl rfl (pa_cons (pe_cmpR (kEq K rfl hr) (pe_g c__law_take hr (by decide) hgd (by rfl) noX (pa_cons (pv 0) (pa_cons pe_int pa_nil))) pe_int (nomark _)) (pa_cons (pe_lst (pa_cons pe_int (pa_cons pe_int pa_nil))) (pa_cons (pe_lst pa_nil) pa_nil))) (by rfl))
  (pss_cons (ps_for PassesOwn.never rfl (pi_range1 (by rfl) T.n_range (pa_cons (pe_op (kAdd K rfl) pe_int (pe_g c__law_take hr (by decide) hgd (by rfl) noX (pa_cons (pv 0) (pa_cons pe_int pa_nil)))) pa_nil)) (pg_name (i := 3) sc__law_chain.nd rfl (by first | exact Or.inl rfl | exact Or.inr rfl))
  (pss_cons (ps_set (i := 7) sc__law_chain.nd rfl (by first | exact Or.inl rfl | exact Or.inr rfl) (pe_lst pa_nil))
  (pss_cons (ps_for PassesOwn.never rfl (pi_range1 (by rfl) T.n_range (pa_cons pe_int pa_nil)) (pg_name (i := 8) sc__law_chain.nd rfl (by first | exact Or.inl rfl | exact Or.inr rfl))
  (pss_cons (ps_set (i := 10) sc__law_chain.nd rfl (by first | exact Or.inl rfl | exact Or.inr rfl) (pe_callB (uMin2 rfl) (by rfl) T.n_min (by decide +kernel) (pa_cons (pe_callB (kLen K rfl) (by rfl) T.n_len (by decide +kernel) (pa_cons (pv 2) pa_nil)) (pa_cons (pe_op (kAdd K rfl) (pe_ix (kIx K rfl) (pv 5) (pv 8) (fun _ _ => rfl)) (pe_g c__law_take hr (by decide) hgd (by rfl) noX (pa_cons (pv 0) (pa_cons pe_int pa_nil)))) pa_nil))))
  (pss_cons (ps_expr (kBm K rfl PySem.F.plainAttrs_list PySem.F.slot_list_append PySem.F.type_list_append mt_append (pv 7) (pa_cons (pe_slice (kSl K rfl) (pv 2) (po_some (pe_ix (kIx K rfl) (pv 5) (pv 8) (fun _ _ => rfl))) (po_some (pv 10))) pa_nil)))
  (pss_one (ps_asg (pv 10) (pg_sub (pv 5) (pv 8) set_list))))))
  (pss_one (ps_expr (kBm K rfl PySem.F.plainAttrs_list PySem.F.slot_list_append PySem.F.type_list_append mt_append (pv 6) (pa_cons (pv 7) pa_nil)))))))
  (pss_cons (ps_if (pt_val (pv 4)) (pss_cons (ps_par (i := 3) (j := 8) (by rfl) sc__law_chain.nd rfl rfl (by decide) rfl rfl (pa_cons (pe_g c__law_take hr (by decide) hgd (by rfl) noX (pa_cons (pv 0) (pa_cons (pe_callB (kLen K rfl) (by rfl) T.n_len (by decide +kernel) (pa_cons (pv 6) pa_nil)) pa_nil))) (pa_cons (pe_g c__law_take hr (by decide) hgd (by rfl) noX (pa_cons (pv 0) (pa_cons pe_int pa_nil))) pa_nil)) (by rfl))
  (pss_cons (ps_set (i := 9) sc__law_chain.nd rfl (by first | exact Or.inl rfl | exact Or.inr rfl) (pe_g c__law_take hr (by decide) hgd (by rfl) noX (pa_cons (pv 0) (pa_cons (pe_op (kAdd K rfl) (pe_callB (kLen K rfl) (by rfl) T.n_len (by decide +kernel) (pa_cons (pe_ix (kIx K rfl) (pe_ix (kIx K rfl) (pv 6) (pv 3) (fun _ _ => rfl)) (pv 8) (fun _ _ => rfl)) pa_nil)) pe_int) pa_nil))))
  (pss_one (ps_asg (pe_op (kAdd K rfl) (pe_op (kAdd K rfl) (pe_slice (kSl K rfl) (pe_ix (kIx K rfl) (pe_ix (kIx K rfl) (pv 6) (pv 3) (fun _ _ => rfl)) (pv 8) (fun _ _ => rfl)) po_none (po_some (pv 9))) (pe_ix (kIx K rfl) (pv 1) (pe_g c__law_take hr (by decide) hgd (by rfl) noX (pa_cons (pv 0) (pa_cons pe_int pa_nil))) (fun _ _ => rfl))) (pe_slice (kSl K rfl) (pe_ix (kIx K rfl) (pe_ix (kIx K rfl) (pv 6) (pv 3) (fun _ _ => rfl)) (pv 8) (fun _ _ => rfl)) (po_some (pe_op (kAdd K rfl) (pv 9) pe_int)) po_none)) (pg_sub (pe_ix (kIx K rfl) (pv 6) (pv 3) (fun _ _ => rfl)) (pv 8) set_list))))) pss_nil)
  (pss_one (ps_ret (pv 6)))))))), ?_⟩
  walk_at "v0"
  refine take_w (N := 24) rfl hb (by omega) fun k1 H1 hk1 b1 f1 => ?_
  have g1 := f1 _ _ hl nrp
  walk_at "v"
  refine ⟨p, r, l, 1 + k1, _, by rw [show (1 : Int) + (k1 : Int) = ((1 + k1 : Nat) : Int) by omega], b1, by omega, g1, z2, ll, nrp, by omega, fun t H2 lt zt b2 f2 => ?_⟩
  have F2 := f1.trans f2
  walk_at "t"
  refine w_seqI (fun σ H' => ∃ t, σ = [some (.ref p), some (.ref r), some (.str (tx t)), none, none, none, none, none, none, none, none] ∧ Let t ∧ t.length ≤ 24 ∧ Box H' p (c + 30) ∧ SL.Fr p H H') ?_ fun N hN => ?_
  · rintro σ H3 ⟨t, rfl, lt, zt, b3, f3⟩
    walk_at "v"
    refine take_w (N := 2) rfl b3 (by omega) fun k4 H4 hk4 b4 f4 => ?_
    walk_at "v"
    refine ⟨by walk_at "sz", fun e1 n1 => ?_⟩
    have n1p : e1 ≠ p := Ne.symm (b4.ne n1)
    have B1 := b4.upd (o := .lst [.int 0, .int 0]) (b4.ne n1)
    walk_at "v"
    refine ⟨by walk_at "sz", fun e2 n2 => ?_⟩
    have n2p : e2 ≠ p := Ne.symm (B1.ne n2)
    have B2 := B1.upd (o := .lst []) (B1.ne n2)
    have n12 : e1 ≠ e2 := ne_of_none upd_same n2
    have F4 := f3.trans f4
    have h1 : H e1 = none := Fr.nil F4 n1 (Ne.symm n1p)
    have F4' := F4.new n1 hb.has (o := .lst [.int 0, .int 0])
    have h2 : H e2 = none := Fr.nil F4' n2 (Ne.symm n2p)
    have F5 := F4'.new n2 hb.has (o := .lst [])
    walk_at "v"
    refine take_w (N := 6) rfl B2 (by omega) fun k6 H6 hk6 b6 f6 => ?_
    have g1 : H6 e1 = some (.lst (natL [0, 0])) := f6 _ _ ((upd_ne n12).trans upd_same) n1p
    have g2 : H6 e2 = some (.lst (([] : List Addr).map V.ref)) := f6 _ _ upd_same n2p
    walk_at "v"
    refine for_rg (n := 1 + k6) (by omega) (fun i σ H' => ∃ x3 x7 x8 x9 x10, ∃ (as : List Addr) (ss : List Nat), σ = [some (.ref p), some (.ref r), some (.str (tx t)), x3, some (.bl (decide ((k4 : Int) = 0))), some (.ref e1), some (.ref e2), x7, x8, x9, x10] ∧ as.length = i ∧ H' e2 = some (.lst (as.map V.ref)) ∧ H' e1 = some (.lst (natL ss)) ∧ ss.length = 2 ∧ (∀ s ∈ ss, s ≤ t.length) ∧ (∀ b ∈ as, good 5 H' b) ∧ (∀ b ∈ as, H b = none) ∧ Box H' p (c + 40 + 2 * i) ∧ SL.Fr p H H')
      ⟨_, _, _, _, _, [], [0, 0], rfl, rfl, g2, g1, rfl, by simp, by simp, by simp, b6.le (by omega), F5.trans f6⟩ ?_ ?_
    · rintro i σ Y hi ⟨x3, x7, x8, x9, x10, as, ss, rfl, zas, hs2, hs1, zss, hss, hg, hnn, bY, fY⟩
      walk_at "v"
      refine ⟨by walk_at "sz", fun rw' nrw => ?_⟩
      have nrp' : rw' ≠ p := Ne.symm (bY.ne nrw)
      have nr1 : e1 ≠ rw' := ne_of_none hs1 nrw
      have nr2 : e2 ≠ rw' := ne_of_none hs2 nrw
      walk_at "v"
      refine for_rg (n := 2) rfl (fun k σ H' => ∃ x8 x10, ∃ (ts : List (List Nat)) (ss : List Nat), σ = [some (.ref p), some (.ref r), some (.str (tx t)), some (.int (i : Int)), some (.bl (decide ((k4 : Int) = 0))), some (.ref e1), some (.ref e2), some (.ref rw'), x8, x9, x10] ∧ ts.length = k ∧ (∀ u ∈ ts, Let u ∧ u.length ≤ 5) ∧ H' rw' = some (.lst (ts.map fun u => V.str (tx u))) ∧ H' e1 = some (.lst (natL ss)) ∧ ss.length = 2 ∧ (∀ s ∈ ss, s ≤ t.length) ∧ Box H' p (c + 40 + 2 * i + k) ∧ (∀ b o, Y b = some o → b ≠ p → b ≠ e1 → H' b = some o))
        ⟨_, _, [], ss, rfl, rfl, by simp, upd_same, (upd_ne nr1).trans hs1, zss, hss, bY.upd (bY.ne nrw), fun b o h _ _ => (upd_ne (ne_of_none h nrw)).trans h⟩ ?_ ?_
      · rintro k σ Y1 hk ⟨x8, x10, ts, ss, rfl, zts, hts, h3, h4, zs, hs, b5, f5⟩
        obtain ⟨s0, gs⟩ := ex_get (l := ss) (k := k) (by omega)
        have gs' := natL_at gs
        have hs0 := hs s0 (List.mem_of_getElem? gs)
        walk_at "v"
        refine take_w (N := 6) rfl b5 (by omega) fun d Y2 hd b7 f7 => ?_
        have h3' := f7 _ _ h3 nrp'
        have h4' := f7 _ _ h4 n1p
        obtain ⟨m, hm⟩ : ∃ m, m = min t.length (s0 + d) := ⟨_, rfl⟩
        walk_at "v"
        rw [show (if (s0 : Int) + (d : Int) < (t.length : Int) then (s0 : Int) + (d : Int) else (t.length : Int)) = (m : Int) by rw [hm]; split <;> omega]
        refine w_sSB (by omega) (by omega) (by omega) ?_
        have zt3 : (ts.map fun u => V.str (tx u)).length ≤ 2 := by rw [List.length_map]; omega
        have ei : ixN (natL ss).length (k : Int) = some k := ixn (by rw [natL_len]; omega)
        have nre : e1 ≠ rw' := nr1
        walk_at "v"
        rw [natL_set]
        refine ⟨_, _, ts ++ [(t.drop s0).take (m - s0)], ss.set k m, rfl, by rw [List.length_append, zts]; rfl, fun u hu => ?_, ?_, upd_same, by rw [List.length_set]; exact zs, fun s1 hs1' => ?_, ?_, fun b o h n1 n2 => ?_⟩
        · rcases List.mem_append.mp hu with hu | hu
          · exact hts u hu
          · rw [List.mem_singleton.mp hu]
            exact ⟨(lt.drop _).take _, by rw [List.length_take, List.length_drop]; omega⟩
        · rw [upd_ne (Ne.symm nr1), upd_same, List.map_append]
          rfl
        · rcases List.mem_or_eq_of_mem_set hs1' with h | h
          · exact hs s1 h
          · omega
        · exact (((b7.upd (Ne.symm nrp')).upd (Ne.symm n1p)).le (by omega))
        · have nb : b ≠ rw' := ne_of_none h nrw
          rw [upd_ne n2, upd_ne nb]
          exact f7 _ _ (f5 b o h n1 n2) n1
      · rintro σ Y1 ⟨x8, x10, ts, ss', rfl, zts, hts, h3, h4, zs, hs, b5, f5⟩
        match ts, zts with
        | [u0, u1], _ =>
          have h2' := f5 _ _ hs2 n2p (Ne.symm n12)
          have za : (as.map V.ref).length ≤ 7 := by rw [List.length_map]; omega
          walk_at "v"
          have hgY : ∀ b ∈ as, good 5 Y1 b := fun b hb' => (hg b hb').keep fun o ho => f5 b o ho ((hg b hb').ne bY) ((hg b hb').ne_nat hs1 zss)
          have grw : good 5 Y1 rw' := ⟨u0, u1, (hts u0 (by simp)).1, (hts u1 (by simp)).1, (hts u0 (by simp)).2, (hts u1 (by simp)).2, h3⟩
          refine ⟨_, _, _, _, _, as ++ [rw'], ss', rfl, by rw [List.length_append, zas]; rfl, ?_, (upd_ne n12).trans h4, zs, hs, fun b hb' => ?_, fun b hb' => ?_, ?_, fun b o h n => ?_⟩
          · rw [upd_same, List.map_append]
            rfl
          · rcases List.mem_append.mp hb' with hb' | hb'
            · exact (hgY b hb').keep fun o ho => (upd_ne ((hgY b hb').ne_ref h2')).trans ho
            · rw [List.mem_singleton.mp hb']
              exact grw.keep fun o ho => (upd_ne (grw.ne_ref h2')).trans ho
          · rcases List.mem_append.mp hb' with hb' | hb'
            · exact hnn b hb'
            · rw [List.mem_singleton.mp hb']
              exact Fr.nil fY nrw (Ne.symm nrp')
          · exact (b5.upd (Ne.symm n2p)).le (by omega)
          · have nb1 : b ≠ e1 := ne_of_none h h1
            have nb2 : b ≠ e2 := ne_of_none h h2
            rw [upd_ne nb2]
            exact f5 b o (fY b o h n) n nb1
    · rintro σ Y ⟨x3, x7, x8, x9, x10, as, ss, rfl, zas, hs2, hs1, zss, hss, hg, hnn, bY, fY⟩
      have zm : (as.map V.ref).length = as.length := by rw [List.length_map]
      walk_at "v"
      refine w_if (fun hsp => ?_) (fun hsp => ?_)
      · walk_at "v"
        refine take_w (N := as.length) (by rw [zm]) bY (by omega) fun tn Y1 htn b7 f7 => ?_
        walk_at "v"
        refine take_w (N := 2) rfl b7 (by omega) fun k Y2 hk b8 f8 => ?_
        have F8 := f7.trans f8
        have e8 := F8 _ _ hs2 n2p
        have g8 : ∀ b ∈ as, good 5 Y2 b := fun b hb' => (hg b hb').keep fun o ho => F8 b o ho ((hg b hb').ne bY)
        obtain ⟨b, hb'⟩ := ex_get (l := as) htn
        have mb := List.mem_of_getElem? hb'
        have nbp := (g8 b mb).ne b8
        have nbe := (g8 b mb).ne_ref e8
        obtain ⟨x, y, lx, ly, zx, zy, hrow⟩ := g8 b mb
        have ib : (as.map V.ref)[tn]? = some (.ref b) := by rw [List.getElem?_map, hb']; rfl
        have hcol := col_at hk x y
        obtain ⟨u, hu⟩ : ∃ u, u = sd k (x, y) := ⟨_, rfl⟩
        rw [← hu] at hcol
        have lu : Let u ∧ u.length ≤ 5 := by
          rw [hu]
          unfold sd
          split
          · exact ⟨lx, zx⟩
          · exact ⟨ly, zy⟩
        walk_at "v"
        refine take_w (N := u.length + 1) (by omega) b8 (by omega) fun sp Y3 hsp' b9 f9 => ?_
        have e9 := f9 _ _ e8 n2p
        have hrow9 := f9 _ _ hrow nbp
        walk_at "v"
        refine take_w (N := 2) rfl b9 (by omega) fun kl Y4 hkl b10 f10 => ?_
        have e10 := f10 _ _ e9 n2p
        have hrow10 := f10 _ _ hrow9 nbp
        have F10 := fY.trans (F8.trans (f9.trans f10))
        have gl := F10 _ _ hl nrp
        obtain ⟨cl, gcl⟩ := ex_get (l := l) (k := kl) (by omega)
        have gcl' := ltL_at gcl
        have ei : ixN ([V.str (tx x), V.str (tx y)] : List V).length (k : Int) = some k := ixn (by simpa using hk)
        walk_at "v"
        have zu : (u.take sp ++ [cl] ++ u.drop ((sp : Int) + 1).toNat).length ≤ 10 := by
          simp only [List.length_append, List.length_take, List.length_drop, List.length_singleton]
          omega
        have lu' : Let (u.take sp ++ [cl] ++ u.drop ((sp : Int) + 1).toNat) := ((lu.1.take _).app (ll.one gcl)).app (lu.1.drop _)
        obtain ⟨u', hu'⟩ : ∃ u', u' = u.take sp ++ [cl] ++ u.drop ((sp : Int) + 1).toNat := ⟨_, rfl⟩
        rw [← hu'] at zu lu' ⊢
        have gd : good 10 (upd Y4 b (.lst ([V.str (tx x), V.str (tx y)].set k (.str (tx u'))))) b := by
          match k, hk with
          | 0, _ => exact ⟨u', y, lu', ly, zu, by omega, upd_same⟩
          | 1, _ => exact ⟨x, u', lx, lu', by omega, zu, upd_same⟩
        have F910 := f9.trans f10
        refine q e2 _ ⟨as, (upd_ne (Ne.symm nbe)).trans e10, by omega, by omega, fun b' hb2 => ?_⟩ ((b10.upd (Ne.symm nbp)).le (by omega)) (fun b' o h n => ?_)
        · by_cases e : b' = b
          · rw [e]; exact gd
          · exact ((g8 b' hb2).keep fun o ho => (upd_ne e).trans (F910 _ _ ho ((g8 b' hb2).ne b8))).le (by omega)
        · by_cases e : b' = b
          · rw [e, hnn b mb] at h
            cases h
          · rw [upd_ne e]
            exact F10 _ _ h n
      · walk_at "v"
        exact q e2 _ ⟨as, hs2, by omega, by omega, fun b hb' => (hg b hb').le (by omega)⟩ (bY.le (by omega)) fY
  · walk_at "v"
    refine take_w (N := 3) rfl b2 (by omega) fun k3 H3 hk3 b3 f3 => ?_
    walk_at "v"
    refine w_if (fun h => ?_) (fun h => ?_)
    · walk_at "v"
      refine w_mulS ?_ ⟨by omega, by omega, by simp; omega, by simp; omega⟩
      have zr := rep_len (12 : Int).toNat (t.take (2 : Int).toNat)
      have zr2 : (List.replicate (12 : Int).toNat (t.take (2 : Int).toNat)).flatten.length ≤ 24 := by
        rw [zr, List.length_take]
        simp
        omega
      walk_at "v"
      exact hN _ _ ⟨_, rfl, (rep_let (lt.take _)).take _, by rw [List.length_take]; omega, b3.le (by omega), F2.trans f3⟩
    · walk_at "v"
      exact hN _ _ ⟨t, rfl, lt, by omega, b3.le (by omega), F2.trans f3⟩
end
end K11
set_option Elab.async false
set_option linter.all false
set_option maxRecDepth 100000
set_option maxHeartbeats 4000000
namespace K11
open PySem PySem.Spec PyProof.Rows L2 SL Lv Wd
local macro_rules | `(tactic| walk_at "sz") => `(tactic| first
  | assumption
  | omega
  | (simp only [List.length_cons, List.length_nil, List.length_append, List.length_map, List.length_take, List.length_drop, List.length_reverse, List.length_replicate, List.length_range, tx_len, sizeLine_eq, CMul, CDiv, Nat.reduceAdd, Nat.reduceLeDiff]; first | done | omega)
  | decide)
local macro_rules | `(tactic| walk_at "ne") => `(tactic| first
  | assumption
  | exact Ne.symm (by assumption)
  | (refine ne_of_none (H := ?H0) (o := ?oo) ?hh ?hn; (case hn => assumption); (case hh => walk_at "hget"))
  | (refine Ne.symm (ne_of_none (H := ?H0) (o := ?oo) ?hh ?hn); (case hn => assumption); (case hh => walk_at "hget")))
local macro_rules | `(tactic| walk_at "hget") => `(tactic| first
  | assumption
  | exact upd_same
  | (refine (upd_ne ?n).trans ?g; (case n => walk_at "ne"); (case g => walk_at "hget"))
  | (refine fr_get (p := ?pp) (H := ?H0) ?f ?g ?n; (case f => assumption); (case g => walk_at "hget"); (case n => walk_at "ne"))
  | (refine same_get (H := ?H0) ?f ?g; (case f => assumption); (case g => walk_at "hget")))
local macro_rules | `(tactic| walk_at "vget") => `(tactic| first
  | assumption
  | (refine SqL.of ?g; (case g => walk_at "hget"))
  | (refine SqT.of ?g; (case g => walk_at "hget"))
  | (refine sql_new ?n ?g; (case n => assumption); (case g => walk_at "vget"))
  | (refine sqt_new ?n ?g; (case n => assumption); (case g => walk_at "vget"))
  | (refine sql_upd ?n ?g; (case n => walk_at "ne"); (case g => walk_at "vget"))
  | (refine sqt_upd ?n ?g; (case n => walk_at "ne"); (case g => walk_at "vget"))
  | (refine Same.seq (H := ?H0) ?f ?g; (case f => assumption); (case g => walk_at "vget"))
  | (refine Same.seqT (H := ?H0) ?f ?g; (case f => assumption); (case g => walk_at "vget"))
  | (refine fr_sql (b := ?pp) (H := ?H0) ?f ?g ?n; (case f => assumption); (case g => walk_at "vget"); (case n => walk_at "ne"))
  | (refine fr_sqt (b := ?pp) (H := ?H0) ?f ?g ?n; (case f => assumption); (case g => walk_at "vget"); (case n => walk_at "ne")))
local macro_rules | `(tactic| walk_at "at") => `(tactic| first
  | assumption
  | rfl
  | (refine atI_n ?h; (case h => first | assumption | rfl))
  | (refine atI_i ?h0 ?h; (case h0 => omega); (case h => first | assumption | rfl)))
local macro_rules | `(tactic| walk_at "v1") => `(tactic| first
  | with_reducible refine w_seq ?_
  | with_reducible refine w_enx ?_
  | with_reducible refine w_ert ?_
  | with_reducible refine w_asg ?_
  | ((with_reducible refine w_var (v := ?vv) ?h ?_); (case h => exact rfl))
  | with_reducible refine w_op ?_
  | with_reducible refine w_c ?_
  | with_reducible refine w_cons ?_
  | with_reducible refine w_nil ?_
  | with_reducible refine w_cb ?_
  | with_reducible refine w_call ?_
  | with_reducible refine w_k ?_
  | with_reducible refine w_i ?_
  | with_reducible refine w_two ?_
  | ((with_reducible refine w_name ?_); (try simp only [List.set_cons_zero, List.set_cons_succ]))
  | with_reducible refine w_ifS ?_
  | with_reducible refine w_ret ?_
  | with_reducible refine w_drop ?_
  | with_reducible refine w_test ?_
  | with_reducible refine w_B ?_
  | with_reducible refine iteT ?_
  | with_reducible refine iteF ?_
  | with_reducible refine w_same ?_
  | ((with_reducible refine w_ifT ?h ?_); (case h => first | rfl | assumption))
  | ((with_reducible refine w_ifF ?h ?_); (case h => first | rfl | assumption))
  | ((with_reducible refine w_diff ?_ ?h); (case h => decide +kernel))
  | ((with_reducible refine w_wp ?h ?_); (case h => rfl); (try simp only [wipe, List.set_cons_zero, List.set_cons_succ, List.foldl_cons, List.foldl_nil]))
  | ((with_reducible refine w_acc (acc := ?aa) ?h ?_ ?z); (case h => walk_at "hget"); (case z => walk_at "sz"))
  | with_reducible refine w_addI ?_
  | with_reducible refine w_subI ?_
  | with_reducible refine w_lt ?_
  | with_reducible refine w_le ?_
  | with_reducible refine w_gt ?_
  | with_reducible refine w_ge ?_
  | with_reducible refine w_eqI ?_
  | with_reducible refine w_neI ?_
  | with_reducible refine w_eqS ?_
  | with_reducible refine w_neS ?_
  | ((with_reducible refine w_mulI ?_ ?h); (case h => walk_at "sz"))
  | ((with_reducible refine w_divI ?_ ?h); (case h => walk_at "sz"))
  | ((with_reducible refine w_addS ?_ ?h); (case h => walk_at "sz"))
  | ((with_reducible refine w_mulS ?_ ?h); (case h => walk_at "sz"))
  | ((with_reducible refine w_ixL (xs := ?xx) (v := ?vv) ?h ?i ?_); (case h => walk_at "vget"); (case i => walk_at "at"))
  | ((with_reducible refine w_ixT (xs := ?xx) (v := ?vv) ?h ?i ?_); (case h => walk_at "vget"); (case i => walk_at "at"))
  | ((with_reducible refine w_ixS (c := ?cc) ?i ?_ ?h); (case i => walk_at "at"); (case h => walk_at "sz"))
  | ((with_reducible refine w_lenS' ?_ ?h); (case h => walk_at "sz"))
  | ((with_reducible refine w_lenL' (xs := ?xx) ?h ?_); (case h => walk_at "vget"))
  | ((with_reducible refine w_lenT' (xs := ?xx) ?h ?_); (case h => walk_at "vget"))
  | with_reducible refine w_isnN ?_
  | with_reducible refine w_isnI ?_
  | with_reducible refine w_isnS ?_
  | with_reducible refine w_isnR ?_
  | with_reducible refine w_isnB ?_
  | with_reducible refine w_isoN ?_
  | with_reducible refine w_isoI ?_
  | with_reducible refine w_isoS ?_
  | with_reducible refine w_isoR ?_
  | with_reducible refine w_isoB ?_
  | with_reducible refine w_abs ?_
  | with_reducible refine w_int ?_
  | with_reducible refine w_intB ?_
  | with_reducible refine w_min2 ?_
  | with_reducible refine w_max2 ?_
  | with_reducible refine w_min3 ?_
  | with_reducible refine w_sl ?_
  | with_reducible refine w_np ?_
  | with_reducible refine w_part ?_
  | ((with_reducible refine w_sStN ?_ ?h); (case h => walk_at "sz"))
  | ((with_reducible refine w_sSfN ?_ ?h); (case h => walk_at "sz"))
  | ((with_reducible refine w_sSt ?_ ?h); (case h => walk_at "sz"))
  | ((with_reducible refine w_sSf ?_ ?h); (case h => walk_at "sz"))
  | with_reducible refine w_and ?_
  | with_reducible refine w_or ?_
  | with_reducible refine w_not ?_
  | with_reducible refine w_andV ?_
  | with_reducible refine w_orV ?_
  | with_reducible refine w_notV ?_
  | with_reducible refine w_ifE ?_
  | with_reducible refine w_tup ?_
  | with_reducible refine w_lst ?_
  | with_reducible refine w_chain ?_
  | ((with_reducible refine w_par ?_); (try simp only [List.set_cons_zero, List.set_cons_succ]))
  | ((with_reducible refine w_par3 ?_); (try simp only [List.set_cons_zero, List.set_cons_succ]))
  | with_reducible refine w_three ?_
  | with_reducible refine w_un ?_
  | with_reducible refine w_neg ?_
  | with_reducible refine w_next ?_
  | with_reducible refine w_ebk ?_
  | with_reducible refine w_ect ?_
  | with_reducible refine w_for ?_
  | with_reducible refine w_lc ?_
  | with_reducible refine w_yes ?_
  | with_reducible refine w_il ?_
  | with_reducible refine w_it ?_
  | with_reducible refine w_isx ?_
  | with_reducible refine w_ir1 ?_
  | with_reducible refine w_ir2 ?_
  | with_reducible refine w_ies ?_
  | with_reducible refine w_s1 ?_
  | with_reducible refine w_s1l ?_
  | ((with_reducible refine w_r1 ?_ ?h); (case h => walk_at "sz"))
  | ((with_reducible refine w_r2 ?_ ?h); (case h => walk_at "sz"))
  | ((with_reducible refine w_l1 (xs := ?xx) ?h ?_); (case h => walk_at "vget"))
  | ((with_reducible refine w_t1 (xs := ?xx) ?h ?_); (case h => walk_at "vget"))
  | ((with_reducible refine w_isL (xs := ?xx) ?h ?_); (case h => walk_at "vget"))
  | with_reducible refine w_isS ?_
  | ((with_reducible refine w_app (xs := ?xx) ?h ?_ ?z); (case h => walk_at "hget"); (case z => walk_at "sz"))
  | with_reducible refine w_inC ?_
  | with_reducible refine w_rev ?_
  | ((with_reducible refine w_rev1S ?_ ?h); (case h => walk_at "sz"))
  | with_reducible refine w_lrg ?_
  | with_reducible refine w_brk ?_
  | with_reducible refine w_cont ?_
  | with_reducible refine w_retN ?_
  | with_reducible refine w_bm ?_
  | with_reducible refine w_bm0 ?_
  | with_reducible refine w_m1 ?_
  | with_reducible refine w_sub ?_
  | ((with_reducible refine w_setL (xs := ?xx) (j := ?jj) ?h ?i ?_); (case h => walk_at "hget"); (case i => first | rfl | assumption); (try simp only [Int.reduceToNat, List.set_cons_zero, List.set_cons_succ]))
  | with_reducible refine w_ip ?_
  | with_reducible refine w_gnil ?_
  | with_reducible refine w_gcons ?_
  | ((with_reducible refine w_gL (xs := ?xx) ?h ?_ ?n); (case h => walk_at "vget"); (case n => rfl))
  | ((with_reducible refine w_gT (xs := ?xx) ?h ?_ ?n); (case h => walk_at "vget"); (case n => rfl))
  | ((with_reducible refine w_aug (v := ?vv) ?h ?_); (case h => exact rfl)))
local macro_rules | `(tactic| walk_at "v") => `(tactic| repeat walk_at "v1")
local macro_rules | `(tactic| walk_at "v0") => `(tactic| (simp only [L2.start, cxK, ends_rt, List.map_cons, List.map_nil, List.length_cons, List.length_nil, Nat.reduceAdd, Nat.reduceSub, List.replicate_succ, List.replicate_zero, List.append_nil, List.cons_append, List.nil_append]; walk_at "v"))
local macro_rules | `(tactic| walk_at "u1") => `(tactic| first
  | with_reducible refine w_seqA ?_
  | with_reducible refine w_seqD ?_
  | with_reducible refine w_seqP ?_
  | with_reducible refine w_seqP3 ?_
  | with_reducible refine w_seqG ?_
  | ((fail_if_success (with_reducible refine w_seq ?_)); walk_at "v1"))
local macro_rules | `(tactic| walk_at "u") => `(tactic| repeat walk_at "u1")
local macro_rules | `(tactic| walk_at "u0") => `(tactic| (simp only [L2.start, cxK, ends_rt, List.map_cons, List.map_nil, List.length_cons, List.length_nil, Nat.reduceAdd, Nat.reduceSub, List.replicate_succ, List.replicate_zero, List.append_nil, List.cons_append, List.nil_append]; walk_at "u"))
local macro_rules | `(tactic| walk_at "t1") => `(tactic| ((fail_if_success (with_reducible refine w_seq ?_)); walk_at "v1"))
local macro_rules | `(tactic| walk_at "t") => `(tactic| repeat walk_at "t1")

section
variable {P : Program} {w : World} {K : PySem.W.Frag} {mg : Str → Option Value} {base : Heap}
def spBadT (K : PySem.W.Frag) : Sp := fun vs H Q _ => ∃ (p r : Addr) (l : List Nat) (c : Nat), vs = [.ref p, .ref r] ∧ Box H p c ∧ c ≤ 1000000 ∧ H r = some (.lst (ltL l)) ∧ l.length = 2 ∧ Let l ∧ r ≠ p ∧
  ∀ v H', Box H' p (c + 10) → SL.Fr p H H' → IsTx K (hide [p] H') v false → Ov 200 2 (hide [p] H') v → Q v H'
theorem ok__law_bad_text (T : Txt K mg) (c__law_take : Cal P w K mg base 1 "_law_take" ["box", "many"] spTake) (c__law_word : Cal P w K mg base 2 "_law_word" ["box", "letters", "size"] (spWord K)) :
    Cal P w K mg base 3 "_law_bad_text" ["box", "letters"] (spBadT K) := by
  refine cal0 T.d__law_bad_text sc__law_bad_text (by rintro vs H Q E ⟨p, r, l, c, rfl, _⟩; rfl) (fun cdv f A outer s H vs Q E hr hgd h => ?_)
  obtain ⟨p, r, l, c, rfl, hb, hc, hl, z2, ll, nrp, q⟩ := h
  refine ⟨_, (pss_cons (ps_par (i := 2) (j := 3) (by rfl) sc__law_bad_text.nd rfl rfl (by decide) rfl rfl (pa_cons (pe_g c__law_take hr (by decide) hgd (by rfl) noX (pa_cons (pv 0) (pa_cons pe_int pa_nil))) (pa_cons (pe_g c__law_word hr (by decide) hgd (by rfl) noX (pa_cons (pv 0) (pa_cons (pv 1) (pa_cons (pe_g c__law_take hr (by decide) hgd (by rfl) noX (pa_cons (pv 0) (pa_cons pe_int pa_nil))) pa_nil)))) pa_nil)) (by rfl))
  (pss_cons (ps_if (pt_cmpR uLt (pv 2) pe_int (nomark _)) (pss_one (ps_ret (pe_op (kAdd K rfl) (pv 3) (pe_ix (kIx K rfl) (pe_lst (pa_cons (pe_tx [66] (by decide +kernel)) (pa_cons (pe_tx [48] (by decide +kernel)) (pa_cons (pe_tx [123] (by decide +kernel)) (pa_cons (pe_tx [32] (by decide +kernel)) (pa_cons (pe_tx [10] (by decide +kernel)) pa_nil)))))) (pv 2) (fun _ _ => rfl))))) pss_nil)
  (pss_one (ps_ret (pe_ix (kIx K rfl) (pe_lst (pa_cons (pe_lst (pa_cons (pv 3) pa_nil)) (pa_cons (pe_tup (pa_cons (pv 3) (pa_cons (pe_tx [] (by decide +kernel)) pa_nil))) (pa_cons pe_non (pa_cons pe_int pa_nil))))) (pe_op uSub (pv 2) pe_int) (fun _ _ => rfl)))))), ?_⟩
  walk_at "v0"
  refine take_w (N := 9) rfl hb (by omega) fun way H1 hw b1 f1 => ?_
  walk_at "v"
  refine take_w (N := 4) rfl b1 (by omega) fun k2 H2 hk2 b2 f2 => ?_
  have g2 := (f1.trans f2) _ _ hl nrp
  walk_at "v"
  refine ⟨p, r, l, k2, _, rfl, b2, by omega, g2, z2, ll, nrp, by omega, fun t H3 lt zt b3 f3 => ?_⟩
  have F3 := f1.trans (f2.trans f3)
  walk_at "v"
  refine w_if (fun h => ?_) (fun h => ?_)
  · have h := of_decide_eq_true h
    have hw5 : way < 5 := by omega
    walk_at "v"
    refine ⟨by walk_at "sz", fun e1 n1 => ?_⟩
    have hs : ∃ o : Nat, ([.str (tx [66]), .str (tx [48]), .str (tx [123]), .str (tx [32]), .str (tx [10])] : List V)[way]? = some (.str (tx [o])) ∧ ¬ Let [o] ∧ o < 128 := by
      match way, hw5 with
      | 0, _ => exact ⟨66, rfl, by decide, by decide⟩
      | 1, _ => exact ⟨48, rfl, by decide, by decide⟩
      | 2, _ => exact ⟨123, rfl, by decide, by decide⟩
      | 3, _ => exact ⟨32, rfl, by decide, by decide⟩
      | 4, _ => exact ⟨10, rfl, by decide, by decide⟩
    obtain ⟨o, hs, no, zo⟩ := hs
    walk_at "v"
    have zt' : (t ++ [o]).length ≤ 5 := by
      simp only [List.length_append, List.length_singleton]
      omega
    have nt : ¬ Let (t ++ [o]) := fun h => no h.right
    have st : Sgn (t ++ [o]) := fun x hx => by
      rcases List.mem_append.mp hx with hx | hx
      · exact lt.sgn x hx
      · rw [List.mem_singleton.mp hx]; omega
    exact q _ _ ((b3.upd (b3.ne n1)).le (by omega)) (F3.new n1 hb.has) (.inl ⟨_, rfl, by omega, (decide_eq_false nt).symm⟩) ⟨_, .str _, (sm_str (n := 200) st (by omega)).le (by omega) (by omega), fun ds h => nomatch h⟩
  · have h := of_decide_eq_false h
    obtain ⟨j, rfl⟩ : ∃ j, way = 5 + j := ⟨way - 5, by omega⟩
    have hj : j < 4 := by omega
    walk_at "v"
    refine ⟨by walk_at "sz", fun e1 n1 => ?_⟩
    walk_at "v"
    refine ⟨by walk_at "sz", fun e2 n2 => ?_⟩
    walk_at "v"
    refine ⟨by walk_at "sz", fun e3 n3 => ?_⟩
    have p1 := b3.ne n1
    have B1 := b3.upd (o := .lst [.str (tx t)]) p1
    have p2 := B1.ne n2
    have B2 := B1.upd (o := .tup [.str (tx t), .str (tx [])]) p2
    have p3 := B2.ne n3
    have BB := B2.upd (o := .lst [.ref e1, .ref e2, .non, .int 7]) p3
    have FF := ((F3.new n1 hb.has (o := .lst [.str (tx t)])).new n2 hb.has (o := .tup [.str (tx t), .str (tx [])])).new n3 hb.has (o := .lst [.ref e1, .ref e2, .non, .int 7])
    obtain ⟨M, hM⟩ : ∃ M, M = upd (upd (upd H3 e1 (.lst [.str (tx t)])) e2 (.tup [.str (tx t), .str (tx [])])) e3 (.lst [.ref e1, .ref e2, .non, .int 7]) := ⟨_, rfl⟩
    rw [← hM] at FF BB
    have g3 : M e3 = some (.lst [.ref e1, .ref e2, .non, .int 7]) := by rw [hM]; exact upd_same
    have g2 : M e2 = some (.tup [.str (tx t), .str (tx [])]) := by rw [hM]; exact (same_new n3) _ _ upd_same
    have g1 : M e1 = some (.lst [.str (tx t)]) := by rw [hM]; exact (same_new n3) _ _ ((same_new n2) _ _ upd_same)
    rw [← hM]
    have i1 : e1 ∉ [p] := by simpa using Ne.symm p1
    have i2 : e2 ∉ [p] := by simpa using Ne.symm p2
    have smt := sm_str (n := 50) lt.sgn (by omega)
    have sme := sm_str (l := []) (n := 2) (fun x hx => absurd hx (by simp)) (by simp)
    have hv : ∃ v, ([.ref e1, .ref e2, .non, .int 7] : List V)[j]? = some v ∧ IsTx K (hide [p] M) v false ∧ Ov 200 2 (hide [p] M) v := by
      match j, hj with
      | 0, _ => exact ⟨_, rfl, .inr ⟨rfl, _, .base (.lst (hide_get g1 i1)), by unfold SL.Kind; simp, by decide⟩, ⟨_, .lst (hide_get g1 i1) (.cons (.str _) .nil), (sm_list1 smt).le (by omega) (by omega), fun ds h => by cases h; simp⟩⟩
      | 1, _ => exact ⟨_, rfl, .inr ⟨rfl, _, .base (.tup (hide_get g2 i2)), by unfold SL.Kind; simp, by decide⟩, ⟨_, .tup (hide_get g2 i2) (.cons (.str _) (.cons (.str _) .nil)), (sm_tup2 smt sme).le (by omega) (by omega), fun ds h => nomatch h⟩⟩
      | 2, _ => exact ⟨_, rfl, .inr ⟨rfl, _, .base .non, by unfold SL.Kind; simp, by decide⟩, ⟨_, .non, sm_non.le (by omega) (by omega), fun ds h => nomatch h⟩⟩
      | 3, _ => exact ⟨_, rfl, .inr ⟨rfl, _, .base (.int _), by unfold SL.Kind; simp, by decide⟩, ⟨_, .int _, ⟨by decide +kernel, by decide, by decide, by decide, by decide +kernel⟩, fun ds h => nomatch h⟩⟩
    obtain ⟨v, hv, tv, ov⟩ := hv
    have hix : atI ([.ref e1, .ref e2, .non, .int 7] : List V) (((5 + j : Nat) : Int) - 5) = some v := by
      rw [show ((5 + j : Nat) : Int) - 5 = ((j : Nat) : Int) by omega]
      exact atI_n hv
    walk_at "v"
    exact q _ _ (BB.le (by omega)) FF tv ov
def spBadL (K : PySem.W.Frag) : Sp := fun vs H Q _ => ∃ (p r : Addr) (l : List Nat) (c : Nat), vs = [.ref p, .ref r] ∧ Box H p c ∧ c ≤ 900000 ∧ H r = some (.lst (ltL l)) ∧ l.length = 2 ∧ Let l ∧ r ≠ p ∧
  ∀ v H', Box H' p (c + 30) → SL.Fr p H H' → IsLg K (hide [p] H') v false → Ov 500 5 (hide [p] H') v → Q v H'
theorem ok__law_bad_lag (T : Txt K mg) (c__law_take : Cal P w K mg base 1 "_law_take" ["box", "many"] spTake) (c__law_word : Cal P w K mg base 2 "_law_word" ["box", "letters", "size"] (spWord K))
    (c__law_bad_text : Cal P w K mg base 3 "_law_bad_text" ["box", "letters"] (spBadT K)) : Cal P w K mg base 4 "_law_bad_lag" ["box", "letters"] (spBadL K) := by
  refine cal0 T.d__law_bad_lag sc__law_bad_lag (by rintro vs H Q E ⟨p, r, l, c, rfl, _⟩; rfl) (fun cdv f A outer s H vs Q E hr hgd h => ?_)
  obtain ⟨p, r, l, c, rfl, hb, hc, hl, z2, ll, nrp, q⟩ := h
  refine ⟨_, (pss_cons (ps_set (i := 2) sc__law_bad_lag.nd rfl (by first | exact Or.inl rfl | exact Or.inr rfl) (pe_g c__law_word hr (by decide) hgd (by rfl) noX (pa_cons (pv 0) (pa_cons (pv 1) (pa_cons (pe_op (kAdd K rfl) pe_int (pe_g c__law_take hr (by decide) hgd (by rfl) noX (pa_cons (pv 0) (pa_cons pe_int pa_nil)))) pa_nil)))))
  (pss_cons (ps_set (i := 3) sc__law_bad_lag.nd rfl (by first | exact Or.inl rfl | exact Or.inr rfl) (pe_g c__law_bad_text hr (by decide) hgd (by rfl) noX (pa_cons (pv 0) (pa_cons (pv 1) pa_nil))))
  (pss_cons (ps_set (i := 4) sc__law_bad_lag.nd rfl (by first | exact Or.inl rfl | exact Or.inr rfl) (pe_g c__law_take hr (by decide) hgd (by rfl) noX (pa_cons (pv 0) (pa_cons pe_int pa_nil))))
  (pss_cons (ps_if (pt_cmpR uLt (pv 4) pe_int (nomark _)) (pss_one (ps_ret (pe_ix (kIx K rfl) (pe_lst (pa_cons (pe_tup (pa_cons (pv 2) (pa_cons (kRev K rfl (pv 2)) pa_nil))) (pa_cons (pe_lst (pa_cons (pv 2) (pa_cons (pe_tx [] (by decide +kernel)) pa_nil))) (pa_cons (pe_tup (pa_cons (pv 3) (pa_cons (pe_tx [] (by decide +kernel)) pa_nil))) pa_nil)))) (pv 4) (fun _ _ => rfl)))) pss_nil)
  (pss_one (ps_ret (pe_ix (kIx K rfl) (pe_lst (pa_cons (pe_tup (pa_cons (pe_tx [] (by decide +kernel)) (pa_cons (pv 3) pa_nil))) (pa_cons (pe_tup (pa_cons (pv 2) pa_nil)) (pa_cons (pe_tup (pa_cons (pe_tx [] (by decide +kernel)) (pa_cons (pe_tx [] (by decide +kernel)) (pa_cons (pv 2) pa_nil)))) (pa_cons (pv 2) (pa_cons pe_non pa_nil)))))) (pe_op uSub (pv 4) pe_int) (fun _ _ => rfl)))))))), ?_⟩
  walk_at "v0"
  refine take_w (N := 4) rfl hb (by omega) fun k1 H1 hk1 b1 f1 => ?_
  have g1 := f1 _ _ hl nrp
  walk_at "v"
  refine ⟨p, r, l, 1 + k1, _, by rw [show (1 : Int) + (k1 : Int) = ((1 + k1 : Nat) : Int) by omega], b1, by omega, g1, z2, ll, nrp, by omega, fun t H2 lt zt b2 f2 => ?_⟩
  have g2 := f2 _ _ g1 nrp
  have F2 := f1.trans f2
  walk_at "v"
  refine ⟨p, r, l, _, rfl, b2, by omega, g2, z2, ll, nrp, fun od H3 b3 f3 t3 o3 => ?_⟩
  walk_at "v"
  refine take_w (N := 8) rfl b3 (by omega) fun way H4 hw b4 f4 => ?_
  have F4 := F2.trans (f3.trans f4)
  have smt := sm_str (n := 50) lt.sgn (by omega)
  have lr : Let t.reverse := fun c hc => lt c (List.mem_reverse.mp hc)
  have smr := sm_str (l := t.reverse) (n := 50) lr.sgn (by rw [List.length_reverse]; omega)
  have sme := sm_str (l := []) (n := 2) (fun x hx => absurd hx (by simp)) (by simp)
  have nt : t ≠ [] := fun e => by rw [e, List.length_nil] at zt; omega
  walk_at "v"
  refine w_if (fun h => ?_) (fun h => ?_)
  · have h := of_decide_eq_true h
    have hw3 : way < 3 := by omega
    walk_at "v"
    refine ⟨by walk_at "sz", fun e1 n1 => ?_⟩
    walk_at "v"
    refine ⟨by walk_at "sz", fun e2 n2 => ?_⟩
    walk_at "v"
    refine ⟨by walk_at "sz", fun e3 n3 => ?_⟩
    walk_at "v"
    refine ⟨by walk_at "sz", fun e4 n4 => ?_⟩
    have p1 := b4.ne n1
    have B1 := b4.upd (o := .tup [.str (tx t), .str (tx t.reverse)]) p1
    have p2 := B1.ne n2
    have B2 := B1.upd (o := .lst [.str (tx t), .str (tx [])]) p2
    have p3 := B2.ne n3
    have B3 := B2.upd (o := .tup [od, .str (tx [])]) p3
    have p4 := B3.ne n4
    have BB := B3.upd (o := .lst [.ref e1, .ref e2, .ref e3]) p4
    have FF := (((F4.new n1 hb.has (o := .tup [.str (tx t), .str (tx t.reverse)])).new n2 hb.has (o := .lst [.str (tx t), .str (tx [])])).new n3 hb.has (o := .tup [od, .str (tx [])])).new n4 hb.has (o := .lst [.ref e1, .ref e2, .ref e3])
    have F3M := (((f4.new n1 b3.has (o := .tup [.str (tx t), .str (tx t.reverse)])).new n2 b3.has (o := .lst [.str (tx t), .str (tx [])])).new n3 b3.has (o := .tup [od, .str (tx [])])).new n4 b3.has (o := .lst [.ref e1, .ref e2, .ref e3])
    obtain ⟨M, hM⟩ : ∃ M, M = upd (upd (upd (upd H4 e1 (.tup [.str (tx t), .str (tx t.reverse)])) e2 (.lst [.str (tx t), .str (tx [])])) e3 (.tup [od, .str (tx [])])) e4 (.lst [.ref e1, .ref e2, .ref e3]) := ⟨_, rfl⟩
    rw [← hM] at FF BB F3M
    have g4 : M e4 = some (.lst [.ref e1, .ref e2, .ref e3]) := by rw [hM]; exact upd_same
    have g3 : M e3 = some (.tup [od, .str (tx [])]) := by rw [hM]; exact (same_new n4) _ _ upd_same
    have g2 : M e2 = some (.lst [.str (tx t), .str (tx [])]) := by rw [hM]; exact (same_new n4) _ _ ((same_new n3) _ _ upd_same)
    have g1 : M e1 = some (.tup [.str (tx t), .str (tx t.reverse)]) := by rw [hM]; exact (same_new n4) _ _ ((same_new n3) _ _ ((same_new n2) _ _ upd_same))
    rw [← hM]
    have i1 : e1 ∉ [p] := by simpa using Ne.symm p1
    have i2 : e2 ∉ [p] := by simpa using Ne.symm p2
    have i3 : e3 ∉ [p] := by simpa using Ne.symm p3
    have t3 := t3.mono (hideH F3M)
    obtain ⟨d, hd, smd, _⟩ := o3.mono (hideH F3M)
    have hv : ∃ v, ([.ref e1, .ref e2, .ref e3] : List V)[way]? = some v ∧ IsLg K (hide [p] M) v false ∧ Ov 500 5 (hide [p] M) v := by
      match way, hw3 with
      | 0, _ => exact ⟨_, rfl, .inr ⟨e1, _, rfl, hide_get g1 i1, .inr (.inr (.inr ⟨t, t.reverse, rfl, by omega, by rw [List.length_reverse]; omega, lt, lr, (decide_eq_false (by simpa using nt)).symm⟩))⟩, ⟨_, .tup (hide_get g1 i1) (.cons (.str _) (.cons (.str _) .nil)), (sm_tup2 smt smr).le (by omega) (by omega), fun ds h => nomatch h⟩⟩
      | 1, _ => exact ⟨_, rfl, .inl ⟨rfl, _, .base (.lst (hide_get g2 i2)), by unfold SL.Kind; simp, by decide⟩, ⟨_, .lst (hide_get g2 i2) (.cons (.str _) (.cons (.str _) .nil)), (sm_list2 smt sme).le (by omega) (by omega), fun ds h => by cases h; simp⟩⟩
      | 2, _ => exact ⟨_, rfl, .inr ⟨e3, _, rfl, hide_get g3 i3, .inr (.inl ⟨od, _, rfl, rfl, t3⟩)⟩, ⟨_, .tup (hide_get g3 i3) (.cons hd (.cons (.str _) .nil)), (sm_tup2 smd sme).le (by omega) (by omega), fun ds h => nomatch h⟩⟩
    obtain ⟨v, hv, tv, ov⟩ := hv
    walk_at "v"
    exact q _ _ (BB.le (by omega)) FF tv ov
  · have h := of_decide_eq_false h
    obtain ⟨j, rfl⟩ : ∃ j, way = 3 + j := ⟨way - 3, by omega⟩
    have hj : j < 5 := by omega
    walk_at "v"
    refine ⟨by walk_at "sz", fun e1 n1 => ?_⟩
    walk_at "v"
    refine ⟨by walk_at "sz", fun e2 n2 => ?_⟩
    walk_at "v"
    refine ⟨by walk_at "sz", fun e3 n3 => ?_⟩
    walk_at "v"
    refine ⟨by walk_at "sz", fun e4 n4 => ?_⟩
    have p1 := b4.ne n1
    have B1 := b4.upd (o := .tup [.str (tx []), od]) p1
    have p2 := B1.ne n2
    have B2 := B1.upd (o := .tup [.str (tx t)]) p2
    have p3 := B2.ne n3
    have B3 := B2.upd (o := .tup [.str (tx []), .str (tx []), .str (tx t)]) p3
    have p4 := B3.ne n4
    have BB := B3.upd (o := .lst [.ref e1, .ref e2, .ref e3, .str (tx t), .non]) p4
    have FF := (((F4.new n1 hb.has (o := .tup [.str (tx []), od])).new n2 hb.has (o := .tup [.str (tx t)])).new n3 hb.has (o := .tup [.str (tx []), .str (tx []), .str (tx t)])).new n4 hb.has (o := .lst [.ref e1, .ref e2, .ref e3, .str (tx t), .non])
    have F3M := (((f4.new n1 b3.has (o := .tup [.str (tx []), od])).new n2 b3.has (o := .tup [.str (tx t)])).new n3 b3.has (o := .tup [.str (tx []), .str (tx []), .str (tx t)])).new n4 b3.has (o := .lst [.ref e1, .ref e2, .ref e3, .str (tx t), .non])
    obtain ⟨M, hM⟩ : ∃ M, M = upd (upd (upd (upd H4 e1 (.tup [.str (tx []), od])) e2 (.tup [.str (tx t)])) e3 (.tup [.str (tx []), .str (tx []), .str (tx t)])) e4 (.lst [.ref e1, .ref e2, .ref e3, .str (tx t), .non]) := ⟨_, rfl⟩
    rw [← hM] at FF BB F3M
    have g4 : M e4 = some (.lst [.ref e1, .ref e2, .ref e3, .str (tx t), .non]) := by rw [hM]; exact upd_same
    have g3 : M e3 = some (.tup [.str (tx []), .str (tx []), .str (tx t)]) := by rw [hM]; exact (same_new n4) _ _ upd_same
    have g2 : M e2 = some (.tup [.str (tx t)]) := by rw [hM]; exact (same_new n4) _ _ ((same_new n3) _ _ upd_same)
    have g1 : M e1 = some (.tup [.str (tx []), od]) := by rw [hM]; exact (same_new n4) _ _ ((same_new n3) _ _ ((same_new n2) _ _ upd_same))
    rw [← hM]
    have i1 : e1 ∉ [p] := by simpa using Ne.symm p1
    have i2 : e2 ∉ [p] := by simpa using Ne.symm p2
    have i3 : e3 ∉ [p] := by simpa using Ne.symm p3
    have t3 := t3.mono (hideH F3M)
    obtain ⟨d, hd, smd, _⟩ := o3.mono (hideH F3M)
    have hv : ∃ v, ([.ref e1, .ref e2, .ref e3, .str (tx t), .non] : List V)[j]? = some v ∧ IsLg K (hide [p] M) v false ∧ Ov 500 5 (hide [p] M) v := by
      match j, hj with
      | 0, _ => exact ⟨_, rfl, .inr ⟨e1, _, rfl, hide_get g1 i1, .inr (.inr (.inl ⟨[], od, rfl, rfl, by simp, Let.nil, t3⟩))⟩, ⟨_, .tup (hide_get g1 i1) (.cons (.str _) (.cons hd .nil)), (sm_tup2 sme smd).le (by omega) (by omega), fun ds h => nomatch h⟩⟩
      | 1, _ => exact ⟨_, rfl, .inr ⟨e2, _, rfl, hide_get g2 i2, .inl ⟨rfl, by simp⟩⟩, ⟨_, .tup (hide_get g2 i2) (.cons (.str _) .nil), (sm_tup1 smt).le (by omega) (by omega), fun ds h => nomatch h⟩⟩
      | 2, _ => exact ⟨_, rfl, .inr ⟨e3, _, rfl, hide_get g3 i3, .inl ⟨rfl, by simp⟩⟩, ⟨_, .tup (hide_get g3 i3) (.cons (.str _) (.cons (.str _) (.cons (.str _) .nil))), (sm_tup3 sme sme smt).le (by omega) (by omega), fun ds h => nomatch h⟩⟩
      | 3, _ => exact ⟨_, rfl, .inl ⟨rfl, _, .base (.str _), by unfold SL.Kind; simp, by decide⟩, ⟨_, .str _, smt.le (by omega) (by omega), fun ds h => nomatch h⟩⟩
      | 4, _ => exact ⟨_, rfl, .inl ⟨rfl, _, .base .non, by unfold SL.Kind; simp, by decide⟩, ⟨_, .non, sm_non.le (by omega) (by omega), fun ds h => nomatch h⟩⟩
    obtain ⟨v, hv, tv, ov⟩ := hv
    have hix : atI ([.ref e1, .ref e2, .ref e3, .str (tx t), .non] : List V) (((3 + j : Nat) : Int) - 3) = some v := by
      rw [show ((3 + j : Nat) : Int) - 3 = ((j : Nat) : Int) by omega]
      exact atI_n hv
    walk_at "v"
    exact q _ _ (BB.le (by omega)) FF tv ov
/-- the first that is refused -/
def fb (a l m : V) (ba bl bm : Bool) : Option V := if ba = false then some a else if bl = false then some l else if bm = false then some m else none
def fbL : Option V → List V
  | some v => [v]
  | none => []
/-- the parts -/
structure Three (K : PySem.W.Frag) (H : Hp) (a l m : V) (ba bl bm : Bool) : Prop where
  ha : IsLg K H a ba
  hl : IsTx K H l bl
  hm : IsTx K H m bm
  ga : ba = true → ∃ x y, IsSmall K H a x y
  gl : bl = true → ∃ x, l = .str (tx x) ∧ x.length ≤ 10000
  gm : bm = true → ∃ x, m = .str (tx x) ∧ x.length ≤ 10000
def spTold (K : PySem.W.Frag) : Sp := fun vs H Q _ => ∃ (tn : Nat) (ps : Addr) (a l m : V) (ba bl bm : Bool), vs = [.int (tn : Nat), .ref ps] ∧ H ps = some (.lst [a, l, m]) ∧ Three K H a l m ba bl bm ∧
  ∀ r H', Same H H' → H r = none → H' r = some (.lst (fbL (fb a l m ba bl bm))) → Q (.ref r) H'
theorem ok_lag_behind_v (T : Txt K mg) (c_check_lag : Cal P w K mg base 3 "check_lag" ["lag"] (spCheckL K (errAt mg "InvalidText"))) (c_check_text : Cal P w K mg base 2 "check_text" ["text"] (spCheckD K (errAt mg "InvalidText"))) (c_lag_after : Cal P w K mg base 1 "lag_after" ["left", "right"] spAfter) :
    CalW P w K mg base 4 "lag_behind" ["lag", "one", "other"] ["other", "one", "lag"] (fun {α} (l : List α) => l.reverse) (spLagB K (errAt mg "InvalidText")) :=
  calW_of T.d_lag_behind (fn_lag_behind T c_check_lag c_check_text c_lag_after) (by
    intro f fd F s ws hl
    obtain ⟨oc, od, kV, doc, pm, an, cdv, ct, osl, rfl, lk, hcd⟩ := F.ex
    match ws, hl with
    | [a, b, c], _ => exact .of_eq rfl)
theorem hl_lag_behind_v {vs : List V} {us : List Value} (hn : vs.length = 3) (r : Vals vs us) : Vals vs.reverse us.reverse := by
  match vs, us, r with
  | [a, b, c], [a', b', c'], .cons r1 (.cons r2 (.cons r3 .nil)) => exact .cons r3 (.cons r2 (.cons r1 .nil))
theorem ok__law_told (T : Txt K mg) (c_lag_behind : Cal P w K mg base 4 "lag_behind" ["lag", "one", "other"] (spLagB K (errAt mg "InvalidText")))
    (c_lag_behind_v : CalW P w K mg base 4 "lag_behind" ["lag", "one", "other"] ["other", "one", "lag"] (fun {α} (l : List α) => l.reverse) (spLagB K (errAt mg "InvalidText"))) :
    Cal P w K mg base 5 "_law_told" ["turn", "parts"] (spTold K) := by
  refine cal0 T.d__law_told sc__law_told (by rintro vs H Q E ⟨tn, ps, a, l, m, ba, bl, bm, rfl, _⟩; rfl) (fun cdv f A outer s H vs Q E hr hgd h => ?_)
  obtain ⟨tn, ps, a, l, m, ba, bl, bm, rfl, hp, F3, q⟩ := h
  refine ⟨_, (pss_one (ps_tryA K (i := 2) rfl rfl rfl sc__law_told.nd rfl rfl (names_errA mg T.x_InvalidText rfl (by rfl)) takes0 (fun W pn xe tk po => (pss_cons (ps_if (pt_cmpR (kEq K rfl hr) (pv 0) pe_int (nomark _)) (pss_one (ps_expr (pe_g c_lag_behind hr (by decide) hgd (by rfl) (passAt tk) (pa_cons (pe_ix (kIx K rfl) (pv 1) pe_int (fun _ _ => rfl)) (pa_cons (pe_ix (kIx K rfl) (pv 1) pe_int (fun _ _ => rfl)) (pa_cons (pe_ix (kIx K rfl) (pv 1) pe_int (fun _ _ => rfl)) pa_nil)))))) (pss_one (ps_expr (pe_gw c_lag_behind_v hr (by decide) hgd (by rfl) (passAt tk) (pk_cons (pe_ix (kIx K rfl) (pv 1) pe_int (fun _ _ => rfl)) (pk_cons (pe_ix (kIx K rfl) (pv 1) pe_int (fun _ _ => rfl)) (pk_cons (pe_ix (kIx K rfl) (pv 1) pe_int (fun _ _ => rfl)) pk_nil))) hl_lag_behind_v))))
  (pss_one (ps_ret (pe_lst pa_nil))))) (fun a oe cls d pn hz hf => (pss_one (ps_ret (pe_lst (pa_cons (pe_givA mg T.x_InvalidText rfl hz hf (pv 2)) pa_nil))))))), ?_⟩
  have te := T.x_InvalidText.te
  have bad : ∀ v H1 d, Same H H1 → H1 d = some (xdG v) → fb a l m ba bl bm = some v → True := fun _ _ _ _ _ _ => trivial
  walk_at "v0"
  refine w_tryA ?_
  try dsimp only []
  walk_at "v"
  refine w_if (fun h => ?_) (fun h => ?_)
  · walk_at "v"
    refine ⟨a, l, m, ba, bl, bm, rfl, F3.ha, F3.hl, F3.hm, fun e => ?_, fun e1 e2 => ?_, fun e1 e2 e3 => ?_, fun e1 e2 e3 => ?_⟩
    · intro H1 d s1 h1
      refine wAs_of te (fun x hx => ?_)
      simp only [List.set_cons_zero, List.set_cons_succ]
      walk_at "v"
      refine w_giv rfl h1 ?_
      walk_at "v"
      refine ⟨by walk_at "sz", fun r hr => ?_⟩
      walk_at "v"
      refine q r _ (Same.new s1 hr) (none_same s1 hr) ?_
      rw [upd_same, e]
      rfl
    · intro H1 d s1 h1
      refine wAs_of te (fun x hx => ?_)
      simp only [List.set_cons_zero, List.set_cons_succ]
      walk_at "v"
      refine w_giv rfl h1 ?_
      walk_at "v"
      refine ⟨by walk_at "sz", fun r hr => ?_⟩
      walk_at "v"
      refine q r _ (Same.new s1 hr) (none_same s1 hr) ?_
      rw [upd_same, e1, e2]
      rfl
    · intro H1 d s1 h1
      refine wAs_of te (fun x hx => ?_)
      simp only [List.set_cons_zero, List.set_cons_succ]
      walk_at "v"
      refine w_giv rfl h1 ?_
      walk_at "v"
      refine ⟨by walk_at "sz", fun r hr => ?_⟩
      walk_at "v"
      refine q r _ (Same.new s1 hr) (none_same s1 hr) ?_
      rw [upd_same, e1, e2, e3]
      rfl
    · obtain ⟨x, y, sm⟩ := F3.ga e1
      obtain ⟨u, hu, zu⟩ := F3.gl e2
      obtain ⟨t, ht, zt⟩ := F3.gm e3
      refine ⟨x, y, u, t, sm, hu, ht, zu, zt, fun o H1 s1 _ => ?_⟩
      walk_at "v"
      refine ⟨by walk_at "sz", fun r hr => ?_⟩
      walk_at "v"
      refine q r _ (Same.new s1 hr) (none_same s1 hr) ?_
      rw [upd_same, e1, e2, e3]
      rfl
  · walk_at "v"
    refine w_callW ?_
    walk_at "v"
    refine ⟨rfl, ?_⟩
    refine ⟨a, l, m, ba, bl, bm, rfl, F3.ha, F3.hl, F3.hm, fun e => ?_, fun e1 e2 => ?_, fun e1 e2 e3 => ?_, fun e1 e2 e3 => ?_⟩
    · intro H1 d s1 h1
      refine wAs_of te (fun x hx => ?_)
      simp only [List.set_cons_zero, List.set_cons_succ]
      walk_at "v"
      refine w_giv rfl h1 ?_
      walk_at "v"
      refine ⟨by walk_at "sz", fun r hr => ?_⟩
      walk_at "v"
      refine q r _ (Same.new s1 hr) (none_same s1 hr) ?_
      rw [upd_same, e]
      rfl
    · intro H1 d s1 h1
      refine wAs_of te (fun x hx => ?_)
      simp only [List.set_cons_zero, List.set_cons_succ]
      walk_at "v"
      refine w_giv rfl h1 ?_
      walk_at "v"
      refine ⟨by walk_at "sz", fun r hr => ?_⟩
      walk_at "v"
      refine q r _ (Same.new s1 hr) (none_same s1 hr) ?_
      rw [upd_same, e1, e2]
      rfl
    · intro H1 d s1 h1
      refine wAs_of te (fun x hx => ?_)
      simp only [List.set_cons_zero, List.set_cons_succ]
      walk_at "v"
      refine w_giv rfl h1 ?_
      walk_at "v"
      refine ⟨by walk_at "sz", fun r hr => ?_⟩
      walk_at "v"
      refine q r _ (Same.new s1 hr) (none_same s1 hr) ?_
      rw [upd_same, e1, e2, e3]
      rfl
    · obtain ⟨x, y, sm⟩ := F3.ga e1
      obtain ⟨u, hu, zu⟩ := F3.gl e2
      obtain ⟨t, ht, zt⟩ := F3.gm e3
      refine ⟨x, y, u, t, sm, hu, ht, zu, zt, fun o H1 s1 _ => ?_⟩
      walk_at "v"
      refine ⟨by walk_at "sz", fun r hr => ?_⟩
      walk_at "v"
      refine q r _ (Same.new s1 hr) (none_same s1 hr) ?_
      rw [upd_same, e1, e2, e3]
      rfl
end
end K11
set_option Elab.async false
set_option linter.all false
set_option maxRecDepth 100000
set_option maxHeartbeats 4000000
namespace K11
open PySem PySem.Spec PyProof.Rows L2 SL Lv Wd
local macro_rules | `(tactic| walk_at "sz") => `(tactic| first
  | assumption
  | omega
  | (simp only [List.length_cons, List.length_nil, List.length_append, List.length_map, List.length_take, List.length_drop, List.length_reverse, List.length_replicate, List.length_range, tx_len, sizeLine_eq, CMul, CDiv, Nat.reduceAdd, Nat.reduceLeDiff]; first | done | omega)
  | decide)
local macro_rules | `(tactic| walk_at "ne") => `(tactic| first
  | assumption
  | exact Ne.symm (by assumption)
  | (refine ne_of_none (H := ?H0) (o := ?oo) ?hh ?hn; (case hn => assumption); (case hh => walk_at "hget"))
  | (refine Ne.symm (ne_of_none (H := ?H0) (o := ?oo) ?hh ?hn); (case hn => assumption); (case hh => walk_at "hget")))
local macro_rules | `(tactic| walk_at "hget") => `(tactic| first
  | assumption
  | exact upd_same
  | (refine (upd_ne ?n).trans ?g; (case n => walk_at "ne"); (case g => walk_at "hget"))
  | (refine fr_get (p := ?pp) (H := ?H0) ?f ?g ?n; (case f => assumption); (case g => walk_at "hget"); (case n => walk_at "ne"))
  | (refine same_get (H := ?H0) ?f ?g; (case f => assumption); (case g => walk_at "hget")))
local macro_rules | `(tactic| walk_at "vget") => `(tactic| first
  | assumption
  | (refine SqL.of ?g; (case g => walk_at "hget"))
  | (refine SqT.of ?g; (case g => walk_at "hget"))
  | (refine sql_new ?n ?g; (case n => assumption); (case g => walk_at "vget"))
  | (refine sqt_new ?n ?g; (case n => assumption); (case g => walk_at "vget"))
  | (refine sql_upd ?n ?g; (case n => walk_at "ne"); (case g => walk_at "vget"))
  | (refine sqt_upd ?n ?g; (case n => walk_at "ne"); (case g => walk_at "vget"))
  | (refine Same.seq (H := ?H0) ?f ?g; (case f => assumption); (case g => walk_at "vget"))
  | (refine Same.seqT (H := ?H0) ?f ?g; (case f => assumption); (case g => walk_at "vget"))
  | (refine fr_sql (b := ?pp) (H := ?H0) ?f ?g ?n; (case f => assumption); (case g => walk_at "vget"); (case n => walk_at "ne"))
  | (refine fr_sqt (b := ?pp) (H := ?H0) ?f ?g ?n; (case f => assumption); (case g => walk_at "vget"); (case n => walk_at "ne")))
local macro_rules | `(tactic| walk_at "at") => `(tactic| first
  | assumption
  | rfl
  | (refine atI_n ?h; (case h => first | assumption | rfl))
  | (refine atI_i ?h0 ?h; (case h0 => omega); (case h => first | assumption | rfl)))
local macro_rules | `(tactic| walk_at "v1") => `(tactic| first
  | with_reducible refine w_seq ?_
  | with_reducible refine w_enx ?_
  | with_reducible refine w_ert ?_
  | with_reducible refine w_asg ?_
  | ((with_reducible refine w_var (v := ?vv) ?h ?_); (case h => exact rfl))
  | with_reducible refine w_op ?_
  | with_reducible refine w_c ?_
  | with_reducible refine w_cons ?_
  | with_reducible refine w_nil ?_
  | with_reducible refine w_cb ?_
  | with_reducible refine w_call ?_
  | with_reducible refine w_k ?_
  | with_reducible refine w_i ?_
  | with_reducible refine w_two ?_
  | ((with_reducible refine w_name ?_); (try simp only [List.set_cons_zero, List.set_cons_succ]))
  | with_reducible refine w_ifS ?_
  | with_reducible refine w_ret ?_
  | with_reducible refine w_drop ?_
  | with_reducible refine w_test ?_
  | with_reducible refine w_B ?_
  | with_reducible refine iteT ?_
  | with_reducible refine iteF ?_
  | with_reducible refine w_same ?_
  | ((with_reducible refine w_ifT ?h ?_); (case h => first | rfl | assumption))
  | ((with_reducible refine w_ifF ?h ?_); (case h => first | rfl | assumption))
  | ((with_reducible refine w_diff ?_ ?h); (case h => decide +kernel))
  | ((with_reducible refine w_wp ?h ?_); (case h => rfl); (try simp only [wipe, List.set_cons_zero, List.set_cons_succ, List.foldl_cons, List.foldl_nil]))
  | ((with_reducible refine w_acc (acc := ?aa) ?h ?_ ?z); (case h => walk_at "hget"); (case z => walk_at "sz"))
  | with_reducible refine w_addI ?_
  | with_reducible refine w_subI ?_
  | with_reducible refine w_lt ?_
  | with_reducible refine w_le ?_
  | with_reducible refine w_gt ?_
  | with_reducible refine w_ge ?_
  | with_reducible refine w_eqI ?_
  | with_reducible refine w_neI ?_
  | with_reducible refine w_eqS ?_
  | with_reducible refine w_neS ?_
  | ((with_reducible refine w_mulI ?_ ?h); (case h => walk_at "sz"))
  | ((with_reducible refine w_divI ?_ ?h); (case h => walk_at "sz"))
  | ((with_reducible refine w_addS ?_ ?h); (case h => walk_at "sz"))
  | ((with_reducible refine w_mulS ?_ ?h); (case h => walk_at "sz"))
  | ((with_reducible refine w_ixL (xs := ?xx) (v := ?vv) ?h ?i ?_); (case h => walk_at "vget"); (case i => walk_at "at"))
  | ((with_reducible refine w_ixT (xs := ?xx) (v := ?vv) ?h ?i ?_); (case h => walk_at "vget"); (case i => walk_at "at"))
  | ((with_reducible refine w_ixS (c := ?cc) ?i ?_ ?h); (case i => walk_at "at"); (case h => walk_at "sz"))
  | ((with_reducible refine w_lenS' ?_ ?h); (case h => walk_at "sz"))
  | ((with_reducible refine w_lenL' (xs := ?xx) ?h ?_); (case h => walk_at "vget"))
  | ((with_reducible refine w_lenT' (xs := ?xx) ?h ?_); (case h => walk_at "vget"))
  | with_reducible refine w_isnN ?_
  | with_reducible refine w_isnI ?_
  | with_reducible refine w_isnS ?_
  | with_reducible refine w_isnR ?_
  | with_reducible refine w_isnB ?_
  | with_reducible refine w_isoN ?_
  | with_reducible refine w_isoI ?_
  | with_reducible refine w_isoS ?_
  | with_reducible refine w_isoR ?_
  | with_reducible refine w_isoB ?_
  | with_reducible refine w_abs ?_
  | with_reducible refine w_int ?_
  | with_reducible refine w_intB ?_
  | with_reducible refine w_min2 ?_
  | with_reducible refine w_max2 ?_
  | with_reducible refine w_min3 ?_
  | with_reducible refine w_sl ?_
  | with_reducible refine w_np ?_
  | with_reducible refine w_part ?_
  | ((with_reducible refine w_sStN ?_ ?h); (case h => walk_at "sz"))
  | ((with_reducible refine w_sSfN ?_ ?h); (case h => walk_at "sz"))
  | ((with_reducible refine w_sSt ?_ ?h); (case h => walk_at "sz"))
  | ((with_reducible refine w_sSf ?_ ?h); (case h => walk_at "sz"))
  | with_reducible refine w_and ?_
  | with_reducible refine w_or ?_
  | with_reducible refine w_not ?_
  | with_reducible refine w_andV ?_
  | with_reducible refine w_orV ?_
  | with_reducible refine w_notV ?_
  | with_reducible refine w_ifE ?_
  | with_reducible refine w_tup ?_
  | with_reducible refine w_lst ?_
  | with_reducible refine w_chain ?_
  | ((with_reducible refine w_par ?_); (try simp only [List.set_cons_zero, List.set_cons_succ]))
  | ((with_reducible refine w_par3 ?_); (try simp only [List.set_cons_zero, List.set_cons_succ]))
  | with_reducible refine w_three ?_
  | with_reducible refine w_un ?_
  | with_reducible refine w_neg ?_
  | with_reducible refine w_next ?_
  | with_reducible refine w_ebk ?_
  | with_reducible refine w_ect ?_
  | with_reducible refine w_for ?_
  | with_reducible refine w_lc ?_
  | with_reducible refine w_yes ?_
  | with_reducible refine w_il ?_
  | with_reducible refine w_it ?_
  | with_reducible refine w_isx ?_
  | with_reducible refine w_ir1 ?_
  | with_reducible refine w_ir2 ?_
  | with_reducible refine w_ies ?_
  | with_reducible refine w_s1 ?_
  | with_reducible refine w_s1l ?_
  | ((with_reducible refine w_r1 ?_ ?h); (case h => walk_at "sz"))
  | ((with_reducible refine w_r2 ?_ ?h); (case h => walk_at "sz"))
  | ((with_reducible refine w_l1 (xs := ?xx) ?h ?_); (case h => walk_at "vget"))
  | ((with_reducible refine w_t1 (xs := ?xx) ?h ?_); (case h => walk_at "vget"))
  | ((with_reducible refine w_isL (xs := ?xx) ?h ?_); (case h => walk_at "vget"))
  | with_reducible refine w_isS ?_
  | ((with_reducible refine w_app (xs := ?xx) ?h ?_ ?z); (case h => walk_at "hget"); (case z => walk_at "sz"))
  | with_reducible refine w_inC ?_
  | with_reducible refine w_rev ?_
  | ((with_reducible refine w_rev1S ?_ ?h); (case h => walk_at "sz"))
  | with_reducible refine w_lrg ?_
  | with_reducible refine w_brk ?_
  | with_reducible refine w_cont ?_
  | with_reducible refine w_retN ?_
  | with_reducible refine w_bm ?_
  | with_reducible refine w_bm0 ?_
  | with_reducible refine w_m1 ?_
  | with_reducible refine w_sub ?_
  | ((with_reducible refine w_setL (xs := ?xx) (j := ?jj) ?h ?i ?_); (case h => walk_at "hget"); (case i => first | rfl | assumption); (try simp only [Int.reduceToNat, List.set_cons_zero, List.set_cons_succ]))
  | with_reducible refine w_ip ?_
  | with_reducible refine w_gnil ?_
  | with_reducible refine w_gcons ?_
  | ((with_reducible refine w_gL (xs := ?xx) ?h ?_ ?n); (case h => walk_at "vget"); (case n => rfl))
  | ((with_reducible refine w_gT (xs := ?xx) ?h ?_ ?n); (case h => walk_at "vget"); (case n => rfl))
  | ((with_reducible refine w_aug (v := ?vv) ?h ?_); (case h => exact rfl)))
local macro_rules | `(tactic| walk_at "v") => `(tactic| repeat walk_at "v1")
local macro_rules | `(tactic| walk_at "v0") => `(tactic| (simp only [L2.start, cxK, ends_rt, List.map_cons, List.map_nil, List.length_cons, List.length_nil, Nat.reduceAdd, Nat.reduceSub, List.replicate_succ, List.replicate_zero, List.append_nil, List.cons_append, List.nil_append]; walk_at "v"))
local macro_rules | `(tactic| walk_at "u1") => `(tactic| first
  | with_reducible refine w_seqA ?_
  | with_reducible refine w_seqD ?_
  | with_reducible refine w_seqP ?_
  | with_reducible refine w_seqP3 ?_
  | with_reducible refine w_seqG ?_
  | ((fail_if_success (with_reducible refine w_seq ?_)); walk_at "v1"))
local macro_rules | `(tactic| walk_at "u") => `(tactic| repeat walk_at "u1")
local macro_rules | `(tactic| walk_at "u0") => `(tactic| (simp only [L2.start, cxK, ends_rt, List.map_cons, List.map_nil, List.length_cons, List.length_nil, Nat.reduceAdd, Nat.reduceSub, List.replicate_succ, List.replicate_zero, List.append_nil, List.cons_append, List.nil_append]; walk_at "u"))
local macro_rules | `(tactic| walk_at "t1") => `(tactic| ((fail_if_success (with_reducible refine w_seq ?_)); walk_at "v1"))
local macro_rules | `(tactic| walk_at "t") => `(tactic| repeat walk_at "t1")

section
variable {P : Program} {w : World} {K : PySem.W.Frag} {mg : Str → Option Value} {base : Heap}
theorem ok__law_copy (T : Txt K mg) : Cal P w K mg base 1 "_law_copy" ["value"] (spCopy K) := by
  refine cal0 T.d__law_copy sc__law_copy (by rintro vs H Q E ⟨v, rfl, _⟩; rfl) (fun cdv f A outer s H vs Q E hr hgd h => ?_)
  obtain ⟨v, rfl, h⟩ := h
  refine ⟨_, (pss_one (ps_ret (pe_ifExp (pt_val (pe_callB (kIsi K rfl) (by rfl) T.n_isinstance (by decide +kernel) (pa_cons (pv 0) (pa_cons (pe_bltn (v := .ty "list") (by rfl) T.n_list (by decide +kernel) rfl) pa_nil)))) (pe_callTy (kList K rfl) (by rfl) T.n_list (by decide +kernel) (pa_cons (pv 0) pa_nil)) (pv 0)))), ?_⟩
  walk_at "v0"
  rcases h with ⟨t, ht, hk, hn, q⟩ | ⟨a, xs, rfl, ha, q⟩
  · refine w_isiK ht hk (.inr (.inr (.inr (.inl rfl)))) ?_
    have en : (t == "list" || (t == "bool" && "list" == "int")) = false := by simp [hn]
    rw [en]
    walk_at "v"
    exact q
  · refine w_isiL ha ?_ (by decide)
    walk_at "v"
    refine w_listL (SqL.of ha) fun r hr => ?_
    exact q r _ (same_new hr) hr upd_same
/-- what a refusal leaves -/
def spRef (K : PySem.W.Frag) : Sp := fun vs H Q _ => ∃ (tn : Nat) (ps : Addr) (a l m v : V) (ba bl bm : Bool) (pl : Nat), vs = [.int (tn : Nat), .ref ps, .int (pl : Nat)] ∧ H ps = some (.lst [a, l, m]) ∧ Three K H a l m ba bl bm ∧ [a, l, m][pl]? = some v ∧ fb a l m ba bl bm = some v ∧
  ((∃ d, Dv H v d ∧ Sm 500 5 d ∧ (kindD d == "list") = false ∧ ∀ H', Same H H' → Q (.bl true) H') ∨
   (∃ r xs ds, v = .ref r ∧ r ≠ ps ∧ H r = some (.lst xs) ∧ DvAll H xs ds ∧ Sm 500 5 (.list ds) ∧ 0 < ds.length ∧ ds.length ≤ 10 ∧ ∀ H', SL.Fr r H H' → Q (.bl true) H'))
theorem ok__law_refuses (T : Txt K mg) (c__law_told : Cal P w K mg base 5 "_law_told" ["turn", "parts"] (spTold K)) : Cal P w K mg base 6 "_law_refuses" ["turn", "parts", "place"] (spRef K) := by
  refine cal0 T.d__law_refuses sc__law_refuses (by rintro vs H Q E ⟨tn, ps, a, l, m, v, ba, bl, bm, pl, rfl, _⟩; rfl) (fun cdv f A outer s H vs Q E hr hgd h => ?_)
  obtain ⟨tn, ps, a, l, m, v, ba, bl, bm, pl, rfl, hp, F3, hv, hfb, hq⟩ := h
  refine ⟨_, (pss_cons (ps_par (i := 4) (j := 5) (by rfl) sc__law_refuses.nd rfl rfl (by decide) rfl rfl (pa_cons (pe_callB (kReprD K rfl hr hgd) (by rfl) T.n_repr (by decide +kernel) (pa_cons (pe_ix (kIx K rfl) (pv 1) (pv 2) (fun _ _ => rfl)) pa_nil)) (pa_cons (pe_ifExp (pt_val (pe_callB (kIsi K rfl) (by rfl) T.n_isinstance (by decide +kernel) (pa_cons (pe_ix (kIx K rfl) (pv 1) (pv 2) (fun _ _ => rfl)) (pa_cons (pe_bltn (v := .ty "list") (by rfl) T.n_list (by decide +kernel) rfl) pa_nil)))) (pe_callB (kLen K rfl) (by rfl) T.n_len (by decide +kernel) (pa_cons (pe_ix (kIx K rfl) (pv 1) (pv 2) (fun _ _ => rfl)) pa_nil)) pe_int) pa_nil)) (by rfl))
  (pss_cons (ps_set (i := 3) sc__law_refuses.nd rfl (by first | exact Or.inl rfl | exact Or.inr rfl) (pe_g c__law_told hr (by decide) hgd (by rfl) noX (pa_cons (pv 0) (pa_cons (pv 1) pa_nil))))
  (pss_cons (ps_if (PW.pt (pw_or (pt_cmpR (kEq K rfl hr) (pv 3) (pe_lst pa_nil) (nomark _)) (pw_or1 (pt_cmpR (kNe K rfl hr) (pe_callB (kReprD K rfl hr hgd) (by rfl) T.n_repr (by decide +kernel) (pa_cons (pe_ix (kIx K rfl) (pv 3) pe_int (fun _ _ => rfl)) pa_nil)) (pv 4) (nomark _))))) (pss_one (ps_ret pe_bl)) pss_nil)
  (pss_cons (ps_if (pt_cmpR (kEq K rfl hr) (pv 5) pe_int (nomark _)) (pss_one (ps_ret pe_bl)) pss_nil)
  (pss_cons (ps_if (pt_not (pt_val (pe_callB (kIsi K rfl) (by rfl) T.n_isinstance (by decide +kernel) (pa_cons (pe_ix (kIx K rfl) (pv 3) pe_int (fun _ _ => rfl)) (pa_cons (pe_bltn (v := .ty "list") (by rfl) T.n_list (by decide +kernel) rfl) pa_nil))))) (pss_one (ps_ret pe_bl)) pss_nil)
  (pss_cons (ps_expr (kBm K rfl PySem.F.plainAttrs_list PySem.F.slot_list_append PySem.F.type_list_append mt_append (pe_ix (kIx K rfl) (pv 3) pe_int (fun _ _ => rfl)) (pa_cons (pv 0) pa_nil)))
  (pss_one (ps_ret (pe_and (pe_cmpR (kEq K rfl hr) (pe_callB (kLen K rfl) (by rfl) T.n_len (by decide +kernel) (pa_cons (pe_ix (kIx K rfl) (pv 1) (pv 2) (fun _ _ => rfl)) pa_nil)) (pe_op (kAdd K rfl) (pv 5) pe_int) (nomark _)) (pe_one (pe_cmpR (kEq K rfl hr) (pe_ix (kIx K rfl) (pe_ix (kIx K rfl) (pv 1) (pv 2) (fun _ _ => rfl)) (pe_un un_neg pe_int) (fun _ _ => rfl)) (pv 0) (nomark _)))))))))))), ?_⟩
  rcases hq with ⟨d, k1, k2, k3, q⟩ | ⟨r0, xs, ds, rfl, nps, k1, k2, k3, z1, z2, q⟩
  · have sh := k1.shown (K := K) k2.okD
    walk_at "v0"
    refine w_reprD sh ?_
    walk_at "v"
    refine w_isiK k1.ty (kind_ok d) (.inr (.inr (.inr (.inl rfl)))) ?_
    have en : (kindD d == "list" || (kindD d == "bool" && "list" == "int")) = false := by rw [k3]; simp
    rw [en]
    walk_at "v"
    refine ⟨tn, ps, a, l, m, ba, bl, bm, rfl, hp, F3, fun r H1 s1 n1 h1 => ?_⟩
    rw [hfb] at h1
    have h1 : H1 r = some (.lst [v]) := h1
    walk_at "v"
    refine ⟨by walk_at "sz", fun e he => ?_⟩
    have nre : r ≠ e := ne_of_none h1 he
    have h2 := (upd_ne (o := .lst []) nre).trans h1
    have S2 := Same.new (o := .lst []) s1 he
    refine w_eqNilD h2 (Dv.mono S2 d v k1) k2 (by omega) upd_same ?_
    walk_at "v"
    refine w_reprD ((Dv.mono S2 d v k1).shown k2.okD) ?_
    walk_at "v"
    refine w_ifF (by simp) ?_
    walk_at "v"
    exact q _ S2
  · have kd : Dv H (.ref r0) (.list ds) := .lst k1 k2
    have sh := kd.shown (K := K) k3.okD
    have zx := k2.len
    walk_at "v0"
    refine w_reprD sh ?_
    walk_at "v"
    refine w_isiL k1 ?_ (by decide)
    walk_at "v"
    refine ⟨tn, ps, a, l, m, ba, bl, bm, rfl, hp, F3, fun r H1 s1 n1 h1 => ?_⟩
    rw [hfb] at h1
    have h1 : H1 r = some (.lst [.ref r0]) := h1
    walk_at "v"
    refine ⟨by walk_at "sz", fun e he => ?_⟩
    have nre : r ≠ e := ne_of_none h1 he
    have nr0 : r ≠ r0 := Ne.symm (ne_of_none k1 n1)
    have h2 := (upd_ne (o := .lst []) nre).trans h1
    have S2 := Same.new (o := .lst []) s1 he
    have k12 := S2 _ _ k1
    have hp2 := S2 _ _ hp
    refine w_eqNilD h2 (Dv.mono S2 _ _ kd) k3 (by omega) upd_same ?_
    walk_at "v"
    refine w_reprD ((Dv.mono S2 _ _ kd).shown k3.okD) ?_
    walk_at "v"
    refine w_ifF (by simp) ?_
    walk_at "v"
    refine w_ifF (by simp; intro h; rw [h] at zx; simp at zx; omega) ?_
    walk_at "v"
    refine w_isiL k12 ?_ (by decide)
    have za : xs.length < 100 := by omega
    walk_at "v"
    have hp3 := (upd_ne (o := .lst (xs ++ [.int (tn : Int)])) (Ne.symm nps)).trans hp2
    have il : atI (xs ++ [V.int (tn : Int)]) (-1) = some (.int (tn : Int)) := atI_last (by simp)
    have ec : (((xs ++ [V.int (tn : Int)]).length : Nat) : Int) = (xs.length : Int) + 1 := by rw [List.length_append]; rfl
    walk_at "v"
    refine w_ifT (decide_eq_true ec) ?_
    walk_at "v"
    rw [decide_eq_true rfl]
    exact q _ (Fr.put (Fr.of S2))
theorem Three.mono {H H' : Hp} {a l m : V} {ba bl bm : Bool} (s : Same H H') (h : Three K H a l m ba bl bm) : Three K H' a l m ba bl bm :=
  ⟨h.ha.mono s, h.hl.mono s, h.hm.mono s, fun e => by
    obtain ⟨x, y, p, h1, h2, h3⟩ := h.ga e
    exact ⟨x, y, p, h1, s _ _ h2, h3⟩, h.gl, h.gm⟩
theorem refuse_w {H0 A : Hp} {v v' a l m : V} {ba bl bm : Bool} {i j : Int} {tn pl : Nat} {ps : Addr} {Q : VK} {E : XK} (c : Cv 500 5 H0 A v v') (s : Same H0 A) (np : A ps = none) (t : Three K A a l m ba bl bm) (e : i = (tn : Nat)) (e2 : j = (pl : Nat)) (hv : [a, l, m][pl]? = some v') (hfb : fb a l m ba bl bm = some v')
    (q : ∀ H', Same H0 H' → Q (.bl true) H') : spRef K [.int i, .ref ps, .int j] (upd A ps (.lst [a, l, m])) Q E := by
  subst e e2
  refine ⟨tn, ps, a, l, m, v', ba, bl, bm, pl, rfl, upd_same, t.mono (same_new np), hv, hfb, ?_⟩
  rcases c with ⟨d, h1, h2, h3, rfl⟩ | ⟨r, xs, ds, rfl, h2, h3, h4, h5, h6, h7⟩
  · exact .inl ⟨d, Dv.mono (s.trans (same_new np)) d _ h1, h2, h3, fun H' s' => q H' ((s.trans (same_new np)).trans s')⟩
  · refine .inr ⟨r, xs, ds, rfl, ne_of_none h3 np, same_new np _ _ h3, DvAll.mono (s.trans (same_new np)) ds xs h4, h5, h6, h7, fun H' f => q H' fun b o h => ?_⟩
    refine f b o (same_new np _ _ (s _ _ h)) fun e => ?_
    rw [e, h2] at h
    cases h
def spRefR : Sp := fun vs H Q _ => ∃ (p r : Addr) (l : List Nat) (c : Nat), vs = [.ref p, .ref r] ∧ Box H p c ∧ c ≤ 800000 ∧ H r = some (.lst (ltL l)) ∧ l.length = 2 ∧ Let l ∧ r ≠ p ∧ ∀ H', SL.Fr p H H' → Q (.bl true) H'
theorem ok__law_refusals_right (T : Txt K mg) (c__law_word : Cal P w K mg base 2 "_law_word" ["box", "letters", "size"] (spWord K)) (c__law_bad_text : Cal P w K mg base 3 "_law_bad_text" ["box", "letters"] (spBadT K)) (c__law_bad_lag : Cal P w K mg base 4 "_law_bad_lag" ["box", "letters"] (spBadL K))
    (c__law_copy : Cal P w K mg base 1 "_law_copy" ["value"] (spCopy K)) (c__law_told : Cal P w K mg base 5 "_law_told" ["turn", "parts"] (spTold K)) (c__law_refuses : Cal P w K mg base 6 "_law_refuses" ["turn", "parts", "place"] (spRef K)) :
    Cal P w K mg base 7 "_law_refusals_right" ["box", "letters"] spRefR := by
  refine cal0 T.d__law_refusals_right sc__law_refusals_right (by rintro vs H Q E ⟨p, r, l, c, rfl, _⟩; rfl) (fun cdv f A outer s H vs Q E hr hgd h => ?_)
  obtain ⟨p, r, l, c, rfl, hb, hc, hl, z2, ll, nrp, q⟩ := h
  refine ⟨_, (pss_cons (ps_set (i := 2) sc__law_refusals_right.nd rfl (by first | exact Or.inl rfl | exact Or.inr rfl) (pe_lst (pa_cons (pe_g c__law_bad_lag hr (by decide) hgd (by rfl) noX (pa_cons (pv 0) (pa_cons (pv 1) pa_nil))) (pa_cons (pe_tup (pa_cons (pe_tx [] (by decide +kernel)) (pa_cons (pe_g c__law_word hr (by decide) hgd (by rfl) noX (pa_cons (pv 0) (pa_cons (pv 1) (pa_cons pe_int pa_nil)))) pa_nil))) pa_nil))))
  (pss_cons (ps_set (i := 3) sc__law_refusals_right.nd rfl (by first | exact Or.inl rfl | exact Or.inr rfl) (pe_lst (pa_cons (pe_g c__law_bad_text hr (by decide) hgd (by rfl) noX (pa_cons (pv 0) (pa_cons (pv 1) pa_nil))) (pa_cons (pe_g c__law_bad_text hr (by decide) hgd (by rfl) noX (pa_cons (pv 0) (pa_cons (pv 1) pa_nil))) (pa_cons (pe_g c__law_word hr (by decide) hgd (by rfl) noX (pa_cons (pv 0) (pa_cons (pv 1) (pa_cons pe_int pa_nil)))) pa_nil)))))
  (pss_cons (ps_for PassesOwn.never rfl (pi_range1 (by rfl) T.n_range (pa_cons pe_int pa_nil)) (pg_name (i := 4) sc__law_refusals_right.nd rfl (by first | exact Or.inl rfl | exact Or.inr rfl))
  (pss_cons (ps_if (pt_not (pt_val (pe_g c__law_refuses hr (by decide) hgd (by rfl) noX (pa_cons (pv 4) (pa_cons (pe_lst (pa_cons (pe_g c__law_copy hr (by decide) hgd (by rfl) noX (pa_cons (pe_ix (kIx K rfl) (pv 2) pe_int (fun _ _ => rfl)) pa_nil)) (pa_cons (pe_ix (kIx K rfl) (pv 3) pe_int (fun _ _ => rfl)) (pa_cons (pe_ix (kIx K rfl) (pv 3) pe_int (fun _ _ => rfl)) pa_nil)))) (pa_cons pe_int pa_nil)))))) (pss_one (ps_ret pe_bl)) pss_nil)
  (pss_cons (ps_if (pt_not (pt_val (pe_g c__law_refuses hr (by decide) hgd (by rfl) noX (pa_cons (pv 4) (pa_cons (pe_lst (pa_cons (pe_g c__law_copy hr (by decide) hgd (by rfl) noX (pa_cons (pe_ix (kIx K rfl) (pv 2) pe_int (fun _ _ => rfl)) pa_nil)) (pa_cons (pe_g c__law_copy hr (by decide) hgd (by rfl) noX (pa_cons (pe_ix (kIx K rfl) (pv 3) pe_int (fun _ _ => rfl)) pa_nil)) (pa_cons (pe_g c__law_copy hr (by decide) hgd (by rfl) noX (pa_cons (pe_ix (kIx K rfl) (pv 3) pe_int (fun _ _ => rfl)) pa_nil)) pa_nil)))) (pa_cons pe_int pa_nil)))))) (pss_one (ps_ret pe_bl)) pss_nil)
  (pss_cons (ps_if (pt_not (pt_val (pe_g c__law_refuses hr (by decide) hgd (by rfl) noX (pa_cons (pv 4) (pa_cons (pe_lst (pa_cons (pe_ix (kIx K rfl) (pv 2) pe_int (fun _ _ => rfl)) (pa_cons (pe_g c__law_copy hr (by decide) hgd (by rfl) noX (pa_cons (pe_ix (kIx K rfl) (pv 3) pe_int (fun _ _ => rfl)) pa_nil)) (pa_cons (pe_g c__law_copy hr (by decide) hgd (by rfl) noX (pa_cons (pe_ix (kIx K rfl) (pv 3) pe_int (fun _ _ => rfl)) pa_nil)) pa_nil)))) (pa_cons pe_int pa_nil)))))) (pss_one (ps_ret pe_bl)) pss_nil)
  (pss_cons (ps_if (pt_not (pt_val (pe_g c__law_refuses hr (by decide) hgd (by rfl) noX (pa_cons (pv 4) (pa_cons (pe_lst (pa_cons (pe_ix (kIx K rfl) (pv 2) pe_int (fun _ _ => rfl)) (pa_cons (pe_ix (kIx K rfl) (pv 3) pe_int (fun _ _ => rfl)) (pa_cons (pe_g c__law_copy hr (by decide) hgd (by rfl) noX (pa_cons (pe_ix (kIx K rfl) (pv 3) pe_int (fun _ _ => rfl)) pa_nil)) pa_nil)))) (pa_cons pe_int pa_nil)))))) (pss_one (ps_ret pe_bl)) pss_nil)
  (pss_one (ps_if (pt_cmpR (kNe K rfl hr) (pe_g c__law_told hr (by decide) hgd (by rfl) noX (pa_cons (pv 4) (pa_cons (pe_lst (pa_cons (pe_ix (kIx K rfl) (pv 2) pe_int (fun _ _ => rfl)) (pa_cons (pe_ix (kIx K rfl) (pv 3) pe_int (fun _ _ => rfl)) (pa_cons (pe_tx [] (by decide +kernel)) pa_nil)))) pa_nil))) (pe_lst pa_nil) (nomark _)) (pss_one (ps_ret pe_bl)) pss_nil)))))))
  (pss_one (ps_ret pe_bl))))), ?_⟩
  walk_at "v0"
  refine ⟨p, r, l, _, rfl, hb, by omega, hl, z2, ll, nrp, fun v0 H1 b1 f1 t0 o0 => ?_⟩
  have hl1 := f1 _ _ hl nrp
  walk_at "v"
  refine ⟨p, r, l, 2, _, rfl, b1, by omega, hl1, z2, ll, nrp, by omega, fun u2 H2 lu2 zu2 b2 f2 => ?_⟩
  have hl2 := f2 _ _ hl1 nrp
  walk_at "v"
  refine ⟨by walk_at "sz", fun e1 n1 => ?_⟩
  have n1p : e1 ≠ p := Ne.symm (b2.ne n1)
  have B1 := b2.upd (o := .tup [.str (tx []), .str (tx u2)]) (b2.ne n1)
  walk_at "v"
  refine ⟨by walk_at "sz", fun e2 n2 => ?_⟩
  have n2p : e2 ≠ p := Ne.symm (B1.ne n2)
  have B2 := B1.upd (o := .lst [v0, .ref e1]) (B1.ne n2)
  have f12 := (f2.new n1 b1.has (o := .tup [.str (tx []), .str (tx u2)])).new n2 b1.has (o := .lst [v0, .ref e1])
  obtain ⟨H3, hH3⟩ : ∃ H3, H3 = upd (upd H2 e1 (.tup [.str (tx []), .str (tx u2)])) e2 (.lst [v0, .ref e1]) := ⟨_, rfl⟩
  rw [← hH3] at f12 B2
  have g1 : H3 e1 = some (.tup [.str (tx []), .str (tx u2)]) := by rw [hH3]; exact (same_new n2) _ _ upd_same
  have g2 : H3 e2 = some (.lst [v0, .ref e1]) := by rw [hH3]; exact upd_same
  have hl3 := f12 _ _ hl1 nrp
  rw [← hH3]
  walk_at "v"
  refine ⟨p, r, l, _, rfl, B2, by omega, hl3, z2, ll, nrp, fun v1 H4 b4 f4 t1 o1 => ?_⟩
  have hl4 := f4 _ _ hl3 nrp
  walk_at "v"
  refine ⟨p, r, l, _, rfl, b4, by omega, hl4, z2, ll, nrp, fun v2 H5 b5 f5 t2 o2 => ?_⟩
  have hl5 := f5 _ _ hl4 nrp
  walk_at "v"
  refine ⟨p, r, l, 3, _, rfl, b5, by omega, hl5, z2, ll, nrp, by omega, fun u3 H6 lu3 zu3 b6 f6 => ?_⟩
  walk_at "v"
  refine ⟨by walk_at "sz", fun e3 n3 => ?_⟩
  have n3p : e3 ≠ p := Ne.symm (b6.ne n3)
  obtain ⟨H0, hH0⟩ : ∃ H0, H0 = upd H6 e3 (.lst [v1, v2, .str (tx u3)]) := ⟨_, rfl⟩
  have f50 : SL.Fr p H5 H0 := by rw [hH0]; exact f6.new n3 b5.has
  have f40 := f5.trans f50
  have f30 := f4.trans f40
  have f10 := f12.trans f30
  have g1 := f30 _ _ g1 n1p
  have g2 := f30 _ _ g2 n2p
  have g3 : H0 e3 = some (.lst [v1, v2, .str (tx u3)]) := by rw [hH0]; exact upd_same
  have F0 := f1.trans f10
  have t0 := t0.mono (hideF f10)
  have o0 := o0.mono (hideF f10)
  have t1 := t1.mono (hideF f40)
  have o1 := (o1.mono (hideF f40)).le (m := 500) (j := 5) (by omega) (by omega)
  have t2 := t2.mono (hideF f50)
  have o2 := (o2.mono (hideF f50)).le (m := 500) (j := 5) (by omega) (by omega)
  have lgE : ∀ {Z : Hp}, Same H0 Z → IsLg K Z (.ref e1) true := fun s => .inr ⟨e1, _, rfl, s _ _ g1, .inr (.inr (.inr ⟨[], u2, rfl, by simp, by omega, Let.nil, lu2, (decide_eq_true (.inl rfl)).symm⟩))⟩
  have smE : ∀ {Z : Hp}, Same H0 Z → ∃ x y, IsSmall K Z (.ref e1) x y := fun s => ⟨[], u2, e1, rfl, s _ _ g1, by simp, by omega, Let.nil, lu2⟩
  have txU : ∀ {Z : Hp}, IsTx K Z (.str (tx u3)) true := fun {Z} => .inl ⟨u3, rfl, by omega, (decide_eq_true lu3).symm⟩
  have txG : ∃ x, V.str (tx u3) = .str (tx x) ∧ x.length ≤ 10000 := ⟨u3, rfl, by omega⟩
  rw [← hH0]
  walk_at "v"
  refine for_rg (n := 2) rfl (fun i σ H' => ∃ x5, σ = [some (.ref p), some (.ref r), some (.ref e2), some (.ref e3), x5] ∧ Same H0 H') ⟨_, rfl, Same.refl _⟩ ?_ ?_
  · rintro i σ Y hi ⟨x5, rfl, sY⟩
    have y2 := sY _ _ g2
    walk_at "v"
    refine copy_v o0 sY fun w0 A1 s1 c0 => ?_
    have S1 := sY.trans s1
    have a3 := S1 _ _ g3
    walk_at "v"
    refine ⟨by walk_at "sz", fun ps1 np1 => ?_⟩
    walk_at "v"
    refine refuse_w (pl := 0) (ba := false) (bl := true) (bm := true) c0 S1 np1 ⟨cv_lg c0 S1 t0, txU, txU, (fun h => nomatch h), fun _ => txG, fun _ => txG⟩ rfl rfl rfl rfl fun Y1 S2 => ?_
    have y2 := S2 _ _ g2
    walk_at "v"
    refine copy_v o0 S2 fun w0' A2 s2 c0' => ?_
    have S3 := S2.trans s2
    have a3 := S3 _ _ g3
    walk_at "v"
    refine copy_v o1 S3 fun w1 A3 s3 c1 => ?_
    have S4 := S3.trans s3
    have a3 := S4 _ _ g3
    walk_at "v"
    refine copy_v o2 S4 fun w2 A4 s4 c2 => ?_
    have S5 := S4.trans s4
    walk_at "v"
    refine ⟨by walk_at "sz", fun ps2 np2 => ?_⟩
    walk_at "v"
    refine refuse_w (pl := 0) (ba := false) (bl := false) (bm := false) (c0'.same (s3.trans s4)) S5 np2 ⟨cv_lg (c0'.same (s3.trans s4)) S5 t0, cv_tx (c1.same s4) S5 t1, cv_tx c2 S5 t2, (fun h => nomatch h), (fun h => nomatch h), (fun h => nomatch h)⟩ rfl rfl rfl rfl fun Y2 S6 => ?_
    have y2 := S6 _ _ g2
    have y3 := S6 _ _ g3
    walk_at "v"
    refine copy_v o1 S6 fun w3 A5 s5 c3 => ?_
    have S7 := S6.trans s5
    have a3 := S7 _ _ g3
    walk_at "v"
    refine copy_v o2 S7 fun w4 A6 s6 c4 => ?_
    have S8 := S7.trans s6
    walk_at "v"
    refine ⟨by walk_at "sz", fun ps3 np3 => ?_⟩
    walk_at "v"
    refine refuse_w (pl := 1) (ba := true) (bl := false) (bm := false) (c3.same s6) S8 np3 ⟨lgE S8, cv_tx (c3.same s6) S8 t1, cv_tx c4 S8 t2, fun _ => smE S8, (fun h => nomatch h), (fun h => nomatch h)⟩ rfl rfl rfl rfl fun Y3 S9 => ?_
    have y2 := S9 _ _ g2
    have y3 := S9 _ _ g3
    walk_at "v"
    refine copy_v o2 S9 fun w5 A7 s7 c5 => ?_
    have S10 := S9.trans s7
    walk_at "v"
    refine ⟨by walk_at "sz", fun ps4 np4 => ?_⟩
    walk_at "v"
    refine refuse_w (pl := 2) (ba := true) (bl := true) (bm := false) c5 S10 np4 ⟨lgE S10, txU, cv_tx c5 S10 t2, fun _ => smE S10, fun _ => txG, (fun h => nomatch h)⟩ rfl rfl rfl rfl fun Y4 S11 => ?_
    have y2 := S11 _ _ g2
    have y3 := S11 _ _ g3
    walk_at "v"
    refine ⟨by walk_at "sz", fun ps5 np5 => ?_⟩
    have S12 := Same.new (o := .lst [.ref e1, .str (tx u3), .str (tx [])]) S11 np5
    walk_at "v"
    refine ⟨i, ps5, _, _, _, true, true, true, rfl, upd_same, ⟨lgE S12, txU, .inl ⟨[], rfl, by simp, (decide_eq_true Let.nil).symm⟩, fun _ => smE S12, fun _ => txG, fun _ => ⟨[], rfl, by simp⟩⟩, fun r1 Y5 s13 m1 h1 => ?_⟩
    have h1 : Y5 r1 = some (.lst []) := h1
    walk_at "v"
    refine ⟨by walk_at "sz", fun r2 m2 => ?_⟩
    refine w_neNil ((upd_ne (ne_of_none h1 m2)).trans h1) upd_same ?_
    walk_at "v"
    exact ⟨_, rfl, Same.new (S12.trans s13) m2⟩
  · rintro σ Y ⟨x5, rfl, sY⟩
    walk_at "v"
    exact q _ (F0.trans (Fr.of sY))
def spRight : Sp := fun vs H Q _ => ∃ (p : Addr) (c : Nat), vs = [.ref p] ∧ Box H p c ∧ c ≤ 100000 ∧ ∀ H', SL.Fr p H H' → Q (.bl true) H'
theorem ok__law_right (T : Txt K mg) (c__law_letters : Cal P w K mg base 2 "_law_letters" ["box"] spLetters) (c__law_chain : Cal P w K mg base 3 "_law_chain" ["box", "letters"] spChain) (c__law_steps_right : Cal P w K mg base 5 "_law_steps_right" ["steps"] spSteps)
    (c__law_stretches_right : Cal P w K mg base 5 "_law_stretches_right" ["steps"] spSteps) (c__law_refusals_right : Cal P w K mg base 7 "_law_refusals_right" ["box", "letters"] spRefR) : Cal P w K mg base 8 "_law_right" ["box"] spRight := by
  refine cal0 T.d__law_right sc__law_right (by rintro vs H Q E ⟨p, c, rfl, _⟩; rfl) (fun cdv f A outer s H vs Q E hr hgd h => ?_)
  obtain ⟨p, c, rfl, hb, hc, q⟩ := h
  refine ⟨_, (pss_cons (ps_set (i := 1) sc__law_right.nd rfl (by first | exact Or.inl rfl | exact Or.inr rfl) (pe_g c__law_letters hr (by decide) hgd (by rfl) noX (pa_cons (pv 0) pa_nil)))
  (pss_cons (ps_set (i := 2) sc__law_right.nd rfl (by first | exact Or.inl rfl | exact Or.inr rfl) (pe_g c__law_chain hr (by decide) hgd (by rfl) noX (pa_cons (pv 0) (pa_cons (pv 1) pa_nil))))
  (pss_cons (ps_set (i := 3) sc__law_right.nd rfl (by first | exact Or.inl rfl | exact Or.inr rfl) (pe_g c__law_chain hr (by decide) hgd (by rfl) noX (pa_cons (pv 0) (pa_cons (pv 1) pa_nil))))
  (pss_cons (ps_for PassesOwn.never rfl (kiList K rfl (pe_lst (pa_cons (pv 2) (pa_cons (pv 3) (pa_cons (pv 2) pa_nil))))) (pg_name (i := 4) sc__law_right.nd rfl (by first | exact Or.inl rfl | exact Or.inr rfl))
  (pss_one (ps_if (pt_not (pt_val (pe_g c__law_steps_right hr (by decide) hgd (by rfl) noX (pa_cons (pv 4) pa_nil)))) (pss_one (ps_ret pe_bl)) pss_nil)))
  (pss_cons (ps_if (PW.pt (pw_or (pt_not (pt_val (pe_g c__law_stretches_right hr (by decide) hgd (by rfl) noX (pa_cons (pv 2) pa_nil)))) (pw_or1 (pt_not (pt_val (pe_g c__law_stretches_right hr (by decide) hgd (by rfl) noX (pa_cons (pv 3) pa_nil))))))) (pss_one (ps_ret pe_bl)) pss_nil)
  (pss_one (ps_ret (pe_g c__law_refusals_right hr (by decide) hgd (by rfl) noX (pa_cons (pv 0) (pa_cons (pv 1) pa_nil)))))))))), ?_⟩
  walk_at "v0"
  refine ⟨p, _, rfl, hb, by omega, fun l r H1 z2 ll hl b1 f1 nrp => ?_⟩
  walk_at "v"
  refine ⟨p, r, l, _, rfl, b1, by omega, hl, z2, ll, nrp, fun a1 H2 ch1 b2 f2 => ?_⟩
  have hl2 := f2 _ _ hl nrp
  walk_at "v"
  refine ⟨p, r, l, _, rfl, b2, by omega, hl2, z2, ll, nrp, fun a2 H3 ch2 b3 f3 => ?_⟩
  have ch1 := ch1.frp b2 f3
  have hl3 := f3 _ _ hl2 nrp
  have F3 := f1.trans (f2.trans f3)
  walk_at "v"
  refine ⟨by walk_at "sz", fun e ne => ?_⟩
  have sE := same_new (o := .lst [.ref a1, .ref a2, .ref a1]) ne
  walk_at "v"
  refine for_it (walk_list (K := K) (a := e) (xs := [.ref a1, .ref a2, .ref a1])) (fun i σ H' => ∃ x5, σ = [some (.ref p), some (.ref r), some (.ref a1), some (.ref a2), x5] ∧ Same (upd H3 e (.lst [.ref a1, .ref a2, .ref a1])) H') ⟨_, rfl, Same.refl _⟩ ?_ ?_ ?_
  · rintro i σ Y hi ⟨x5, rfl, sY⟩
    exact SqL.of (sY _ _ upd_same)
  · rintro i x σ Y Y' hi ⟨x5, rfl, sY⟩ ⟨rfl, hx⟩
    have SY := sE.trans sY
    have hc : ∃ a, x = .ref a ∧ Ch 10 Y' a := by
      match i, hx with
      | 0, hx => exact ⟨a1, (Option.some.inj hx).symm, ch1.mono SY⟩
      | 1, hx => exact ⟨a2, (Option.some.inj hx).symm, ch2.mono SY⟩
      | 2, hx => exact ⟨a1, (Option.some.inj hx).symm, ch1.mono SY⟩
      | n + 3, hx => simp at hx
    obtain ⟨a, rfl, cha⟩ := hc
    walk_at "v"
    refine ⟨a, rfl, cha, fun Y2 s2 => ?_⟩
    walk_at "v"
    exact ⟨_, rfl, sY.trans s2⟩
  · rintro σ Y ⟨x5, rfl, sY⟩
    have SY := sE.trans sY
    walk_at "v"
    refine ⟨a1, rfl, ch1.mono SY, fun Y2 s2 => ?_⟩
    walk_at "v"
    refine ⟨a2, rfl, ch2.mono (SY.trans s2), fun Y3 s3 => ?_⟩
    have S3 := SY.trans (s2.trans s3)
    walk_at "v"
    refine ⟨p, r, l, _, rfl, b3.same S3, by omega, S3 _ _ hl3, z2, ll, nrp, fun Y4 f4 => ?_⟩
    walk_at "v"
    exact q _ (F3.trans ((Fr.of S3).trans f4))
def spLaw (K : PySem.W.Frag) : Sp := fun vs H Q _ => ∃ (a : Addr) (ns : List Int), vs = [.ref a] ∧ SqL K H a (ns.map V.int) ∧ ns.length ≤ 1000000 ∧ ∀ H', Same H H' → Q (.bl true) H'
theorem fn_law (T : Txt K mg) (c__law_cell : Cal P w K mg base 1 "_law_cell" ["script", "k"] (spCellG K)) (c__law_box : Cal P w K mg base 1 "_law_box" ["great"] spBox)
    (c__law_right : Cal P w K mg base 8 "_law_right" ["box"] spRight) (f : Addr) (fd : FuncData) (F : Fun K "law" "law" s_law f fd) : FnG P w K mg base 9 f fd ["script"] (spLaw K) := by
  refine fn0 F sc_law (by rintro vs H Q E ⟨a, ns, rfl, _⟩; rfl) (fun cdv f A outer s' H vs Q E hr hgd h => ?_)
  obtain ⟨a, ns, rfl, hS, hz, q⟩ := h
  refine ⟨_, (pss_cons (ps_for PassesOwn.never rfl (pi_range1 (by rfl) T.n_range (pa_cons (pe_callB (uMax2 rfl) (by rfl) T.n_max (by decide +kernel) (pa_cons pe_int (pa_cons (pe_callB (uMin2 rfl) (by rfl) T.n_min (by decide +kernel) (pa_cons pe_int (pa_cons (pe_callB (kLen K rfl) (by rfl) T.n_len (by decide +kernel) (pa_cons (pv 0) pa_nil)) pa_nil))) pa_nil))) pa_nil)) (pg_name (i := 1) sc_law.nd rfl (by first | exact Or.inl rfl | exact Or.inr rfl))
  (pss_one (ps_if (pt_not (pt_val (pe_g c__law_right hr (by decide) hgd (by rfl) noX (pa_cons (pe_g c__law_box hr (by decide) hgd (by rfl) noX (pa_cons (pe_g c__law_cell hr (by decide) hgd (by rfl) noX (pa_cons (pv 0) (pa_cons (pv 1) pa_nil))) pa_nil)) pa_nil)))) (pss_one (ps_ret pe_bl)) pss_nil)))
  (pss_one (ps_ret pe_bl))), ?_⟩
  walk_at "v0"
  obtain ⟨n, hn, hn2⟩ := min_max 5 (List.map V.int ns).length (by omega)
  rw [hn]
  refine for_rg (n := n) (by omega) (fun i σ H' => ∃ x1, σ = [some (.ref a), x1] ∧ Same H H') ⟨_, rfl, Same.refl _⟩ ?_ ?_
  · rintro i σ H1 hi ⟨x1, rfl, s1⟩
    walk_at "v"
    refine ⟨a, ns, i, rfl, by walk_at "vget", by omega, fun g H2 s2 => ?_⟩
    walk_at "v"
    refine ⟨g, rfl, fun p H3 s3 n3 b3 => ?_⟩
    walk_at "v"
    refine ⟨p, 0, rfl, b3, by omega, fun H4 f4 => ?_⟩
    walk_at "v"
    exact ⟨_, rfl, same_box (s1.trans (s2.trans s3)) (none_same (s1.trans s2) n3) f4⟩
  · rintro σ H1 ⟨x1, rfl, s1⟩
    walk_at "v"
    exact q _ s1
end
end K11
set_option Elab.async false
set_option linter.all false
set_option maxRecDepth 100000
set_option maxHeartbeats 4000000
namespace K11
open PySem PySem.Spec PyProof.Rows L2 SL Lv
theorem law_cal {P : Program} {w : World} {K : PySem.W.Frag} {mg : Str → Option Value} {fa : Addr} (hmg : mg "law" = some (.ref fa)) (T : Txt K mg) :
    ∃ fd : FuncData, (∀ (s : Shared) (u : Value), BindsTo s fd ⟨[u], []⟩ [("script", u)]) ∧ ∀ base : Heap, K.In base → base.Ns mainGlobals mg → FnG P w K mg base 9 fa fd ["script"] (spLaw K) := by
  obtain ⟨f, fd, F, hm, hb⟩ := T.d_law.ex
  rw [hmg] at hm
  cases hm
  refine ⟨fd, fun s u => hb s [u] rfl, fun base _ _ => ?_⟩
  have c1 := ok_is_text (P := P) (w := w) (base := base) T
  have c2 := ok_is_lag T c1
  have c3 := ok_check_text T c1
  have c4 := ok_check_lag T c2
  have c5 := ok_lag_after (P := P) (w := w) (base := base) T
  have c6 := ok_lag_behind T c4 c3 c5
  have c7 := ok_lag_behind_w T c4 c3 c5
  have c8 := ok_lag_behind_v T c4 c3 c5
  have d1 := ok_cell (P := P) (w := w) (base := base) T
  have d2 := ok_box (P := P) (w := w) (base := base) T
  have d3 := ok_take (P := P) (w := w) (base := base) T
  have e1 := ok__law_letters T d3
  have e2 := ok__law_word T d3
  have e3 := ok__law_chain T d3 e2
  have e4 := ok__law_behind (P := P) (w := w) (base := base) T
  have e5 := ok__law_turned (P := P) (w := w) (base := base) T
  have e6 := ok__law_steps_right T e4 e5 c6 c7
  have e7 := ok__law_stretches_right T e4 c6
  have e8 := ok__law_bad_text T d3 e2
  have e9 := ok__law_bad_lag T d3 e2 e8
  have e10 := ok__law_told T c6 c8
  have e11 := ok__law_refuses T e10
  have e12 := ok__law_copy (P := P) (w := w) (base := base) T
  have e13 := ok__law_refusals_right T e2 e8 e9 e12 e10 e11
  have e14 := ok__law_right T e1 e3 e6 e7 e13
  exact fn_law T d1 d2 e14 _ fd F
theorem law_sp {K : PySem.W.Frag} {H : Hp} {a : Addr} {ns : List Int} {n : Nat} (hl : ns.length ≤ n) (hO : Only H) (hS : SqL K H a (ns.map V.int)) (hn : n ≤ 1000000 := by decide) : spLaw K [.ref a] H (fun v _ => v = .bl true) fun _ _ _ => False :=
  ⟨a, ns, rfl, hS, Nat.le_trans hl hn, fun _ _ => rfl⟩

theorem all_mk {K : PySem.W.Frag} {h : Heap} {mg : Str → Option Value} (X : K.In h) (G : h.Ns mainGlobals mg)
    {f0 : Addr} {od0 an0 : Option Addr} {sl0 : Array (Option Value)} {oc0 kV0 dc0 pm0 cd0 ct0 : Value}
    {f1 : Addr} {od1 an1 : Option Addr} {sl1 : Array (Option Value)} {oc1 kV1 dc1 pm1 cd1 ct1 : Value}
    {f2 : Addr} {od2 an2 : Option Addr} {sl2 : Array (Option Value)} {oc2 kV2 dc2 pm2 cd2 ct2 : Value}
    {f3 : Addr} {od3 an3 : Option Addr} {sl3 : Array (Option Value)} {oc3 kV3 dc3 pm3 cd3 ct3 : Value}
    {f4 : Addr} {od4 an4 : Option Addr} {sl4 : Array (Option Value)} {oc4 kV4 dc4 pm4 cd4 ct4 : Value}
    {f5 : Addr} {od5 an5 : Option Addr} {sl5 : Array (Option Value)} {oc5 kV5 dc5 pm5 cd5 ct5 : Value}
    {f6 : Addr} {od6 an6 : Option Addr} {sl6 : Array (Option Value)} {oc6 kV6 dc6 pm6 cd6 ct6 : Value}
    {f7 : Addr} {od7 an7 : Option Addr} {sl7 : Array (Option Value)} {oc7 kV7 dc7 pm7 cd7 ct7 : Value}
    {f8 : Addr} {od8 an8 : Option Addr} {sl8 : Array (Option Value)} {oc8 kV8 dc8 pm8 cd8 ct8 : Value}
    {f9 : Addr} {od9 an9 : Option Addr} {sl9 : Array (Option Value)} {oc9 kV9 dc9 pm9 cd9 ct9 : Value}
    {f10 : Addr} {od10 an10 : Option Addr} {sl10 : Array (Option Value)} {oc10 kV10 dc10 pm10 cd10 ct10 : Value}
    {f11 : Addr} {od11 an11 : Option Addr} {sl11 : Array (Option Value)} {oc11 kV11 dc11 pm11 cd11 ct11 : Value}
    {f12 : Addr} {od12 an12 : Option Addr} {sl12 : Array (Option Value)} {oc12 kV12 dc12 pm12 cd12 ct12 : Value}
    {f13 : Addr} {od13 an13 : Option Addr} {sl13 : Array (Option Value)} {oc13 kV13 dc13 pm13 cd13 ct13 : Value}
    {f14 : Addr} {od14 an14 : Option Addr} {sl14 : Array (Option Value)} {oc14 kV14 dc14 pm14 cd14 ct14 : Value}
    {f15 : Addr} {od15 an15 : Option Addr} {sl15 : Array (Option Value)} {oc15 kV15 dc15 pm15 cd15 ct15 : Value}
    {f16 : Addr} {od16 an16 : Option Addr} {sl16 : Array (Option Value)} {oc16 kV16 dc16 pm16 cd16 ct16 : Value}
    {f17 : Addr} {od17 an17 : Option Addr} {sl17 : Array (Option Value)} {oc17 kV17 dc17 pm17 cd17 ct17 : Value}
    {f18 : Addr} {od18 an18 : Option Addr} {sl18 : Array (Option Value)} {oc18 kV18 dc18 pm18 cd18 ct18 : Value}
    {f19 : Addr} {od19 an19 : Option Addr} {sl19 : Array (Option Value)} {oc19 kV19 dc19 pm19 cd19 ct19 : Value}
    {f20 : Addr} {od20 an20 : Option Addr} {sl20 : Array (Option Value)} {oc20 kV20 dc20 pm20 cd20 ct20 : Value}
    {f21 : Addr} {od21 an21 : Option Addr} {sl21 : Array (Option Value)} {oc21 kV21 dc21 pm21 cd21 ct21 : Value}
    {f22 : Addr} {od22 an22 : Option Addr} {sl22 : Array (Option Value)} {oc22 kV22 dc22 pm22 cd22 ct22 : Value}
    {f23 : Addr} {od23 an23 : Option Addr} {sl23 : Array (Option Value)} {oc23 kV23 dc23 pm23 cd23 ct23 : Value}
    {B : Addr}
    {C_InvalidText I_InvalidText N_InvalidText : Addr} {nm_InvalidText q_InvalidText : Str} {bs_InvalidText sub_InvalidText : List Value} {sn_InvalidText : List Str} {ab_InvalidText : Bool} {col_InvalidText : Option Bool} {dd_InvalidText od_InvalidText an_InvalidText : Option Addr} {m0_InvalidText m1_InvalidText m2_InvalidText m3_InvalidText m5_InvalidText : Option Value} {sl_InvalidText : Array (Option Value)} {oc_InvalidText dc_InvalidText pm_InvalidText cd_InvalidText ct_InvalidText : Value}
    {t_LETTERS : Tok}
    (a0 : PySem.W.nsIn K mainGlobals "is_text" = some (some (.ref f0))) (l0 : K.lookup f0 = some ⟨oc0, od0, .func (PySem.W.fnOf "is_text" "is_text" (defArgs s_is_text) (defBody s_is_text) (defScope s_is_text) .none kV0 dc0 pm0 an0 cd0 ct0), sl0⟩) (c0 : PySem.W.codeIn K cd0 "is_text" = true) (k0 : PySem.W.keepIn K (.ref f0) = true)
    (a1 : PySem.W.nsIn K mainGlobals "is_lag" = some (some (.ref f1))) (l1 : K.lookup f1 = some ⟨oc1, od1, .func (PySem.W.fnOf "is_lag" "is_lag" (defArgs s_is_lag) (defBody s_is_lag) (defScope s_is_lag) .none kV1 dc1 pm1 an1 cd1 ct1), sl1⟩) (c1 : PySem.W.codeIn K cd1 "is_lag" = true) (k1 : PySem.W.keepIn K (.ref f1) = true)
    (a2 : PySem.W.nsIn K mainGlobals "check_text" = some (some (.ref f2))) (l2 : K.lookup f2 = some ⟨oc2, od2, .func (PySem.W.fnOf "check_text" "check_text" (defArgs s_check_text) (defBody s_check_text) (defScope s_check_text) .none kV2 dc2 pm2 an2 cd2 ct2), sl2⟩) (c2 : PySem.W.codeIn K cd2 "check_text" = true) (k2 : PySem.W.keepIn K (.ref f2) = true)
    (a3 : PySem.W.nsIn K mainGlobals "lag_after" = some (some (.ref f3))) (l3 : K.lookup f3 = some ⟨oc3, od3, .func (PySem.W.fnOf "lag_after" "lag_after" (defArgs s_lag_after) (defBody s_lag_after) (defScope s_lag_after) .none kV3 dc3 pm3 an3 cd3 ct3), sl3⟩) (c3 : PySem.W.codeIn K cd3 "lag_after" = true) (k3 : PySem.W.keepIn K (.ref f3) = true)
    (a4 : PySem.W.nsIn K mainGlobals "check_lag" = some (some (.ref f4))) (l4 : K.lookup f4 = some ⟨oc4, od4, .func (PySem.W.fnOf "check_lag" "check_lag" (defArgs s_check_lag) (defBody s_check_lag) (defScope s_check_lag) .none kV4 dc4 pm4 an4 cd4 ct4), sl4⟩) (c4 : PySem.W.codeIn K cd4 "check_lag" = true) (k4 : PySem.W.keepIn K (.ref f4) = true)
    (a5 : PySem.W.nsIn K mainGlobals "lag_behind" = some (some (.ref f5))) (l5 : K.lookup f5 = some ⟨oc5, od5, .func (PySem.W.fnOf "lag_behind" "lag_behind" (defArgs s_lag_behind) (defBody s_lag_behind) (defScope s_lag_behind) .none kV5 dc5 pm5 an5 cd5 ct5), sl5⟩) (c5 : PySem.W.codeIn K cd5 "lag_behind" = true) (k5 : PySem.W.keepIn K (.ref f5) = true)
    (a6 : PySem.W.nsIn K mainGlobals "_law_cell" = some (some (.ref f6))) (l6 : K.lookup f6 = some ⟨oc6, od6, .func (PySem.W.fnOf "_law_cell" "_law_cell" (defArgs s__law_cell) (defBody s__law_cell) (defScope s__law_cell) .none kV6 dc6 pm6 an6 cd6 ct6), sl6⟩) (c6 : PySem.W.codeIn K cd6 "_law_cell" = true) (k6 : PySem.W.keepIn K (.ref f6) = true)
    (a7 : PySem.W.nsIn K mainGlobals "_law_box" = some (some (.ref f7))) (l7 : K.lookup f7 = some ⟨oc7, od7, .func (PySem.W.fnOf "_law_box" "_law_box" (defArgs s__law_box) (defBody s__law_box) (defScope s__law_box) .none kV7 dc7 pm7 an7 cd7 ct7), sl7⟩) (c7 : PySem.W.codeIn K cd7 "_law_box" = true) (k7 : PySem.W.keepIn K (.ref f7) = true)
    (a8 : PySem.W.nsIn K mainGlobals "_law_take" = some (some (.ref f8))) (l8 : K.lookup f8 = some ⟨oc8, od8, .func (PySem.W.fnOf "_law_take" "_law_take" (defArgs s__law_take) (defBody s__law_take) (defScope s__law_take) .none kV8 dc8 pm8 an8 cd8 ct8), sl8⟩) (c8 : PySem.W.codeIn K cd8 "_law_take" = true) (k8 : PySem.W.keepIn K (.ref f8) = true)
    (a9 : PySem.W.nsIn K mainGlobals "_law_letters" = some (some (.ref f9))) (l9 : K.lookup f9 = some ⟨oc9, od9, .func (PySem.W.fnOf "_law_letters" "_law_letters" (defArgs s__law_letters) (defBody s__law_letters) (defScope s__law_letters) .none kV9 dc9 pm9 an9 cd9 ct9), sl9⟩) (c9 : PySem.W.codeIn K cd9 "_law_letters" = true) (k9 : PySem.W.keepIn K (.ref f9) = true)
    (a10 : PySem.W.nsIn K mainGlobals "_law_word" = some (some (.ref f10))) (l10 : K.lookup f10 = some ⟨oc10, od10, .func (PySem.W.fnOf "_law_word" "_law_word" (defArgs s__law_word) (defBody s__law_word) (defScope s__law_word) .none kV10 dc10 pm10 an10 cd10 ct10), sl10⟩) (c10 : PySem.W.codeIn K cd10 "_law_word" = true) (k10 : PySem.W.keepIn K (.ref f10) = true)
    (a11 : PySem.W.nsIn K mainGlobals "_law_chain" = some (some (.ref f11))) (l11 : K.lookup f11 = some ⟨oc11, od11, .func (PySem.W.fnOf "_law_chain" "_law_chain" (defArgs s__law_chain) (defBody s__law_chain) (defScope s__law_chain) .none kV11 dc11 pm11 an11 cd11 ct11), sl11⟩) (c11 : PySem.W.codeIn K cd11 "_law_chain" = true) (k11 : PySem.W.keepIn K (.ref f11) = true)
    (a12 : PySem.W.nsIn K mainGlobals "_law_behind" = some (some (.ref f12))) (l12 : K.lookup f12 = some ⟨oc12, od12, .func (PySem.W.fnOf "_law_behind" "_law_behind" (defArgs s__law_behind) (defBody s__law_behind) (defScope s__law_behind) .none kV12 dc12 pm12 an12 cd12 ct12), sl12⟩) (c12 : PySem.W.codeIn K cd12 "_law_behind" = true) (k12 : PySem.W.keepIn K (.ref f12) = true)
    (a13 : PySem.W.nsIn K mainGlobals "_law_turned" = some (some (.ref f13))) (l13 : K.lookup f13 = some ⟨oc13, od13, .func (PySem.W.fnOf "_law_turned" "_law_turned" (defArgs s__law_turned) (defBody s__law_turned) (defScope s__law_turned) .none kV13 dc13 pm13 an13 cd13 ct13), sl13⟩) (c13 : PySem.W.codeIn K cd13 "_law_turned" = true) (k13 : PySem.W.keepIn K (.ref f13) = true)
    (a14 : PySem.W.nsIn K mainGlobals "_law_steps_right" = some (some (.ref f14))) (l14 : K.lookup f14 = some ⟨oc14, od14, .func (PySem.W.fnOf "_law_steps_right" "_law_steps_right" (defArgs s__law_steps_right) (defBody s__law_steps_right) (defScope s__law_steps_right) .none kV14 dc14 pm14 an14 cd14 ct14), sl14⟩) (c14 : PySem.W.codeIn K cd14 "_law_steps_right" = true) (k14 : PySem.W.keepIn K (.ref f14) = true)
    (a15 : PySem.W.nsIn K mainGlobals "_law_stretches_right" = some (some (.ref f15))) (l15 : K.lookup f15 = some ⟨oc15, od15, .func (PySem.W.fnOf "_law_stretches_right" "_law_stretches_right" (defArgs s__law_stretches_right) (defBody s__law_stretches_right) (defScope s__law_stretches_right) .none kV15 dc15 pm15 an15 cd15 ct15), sl15⟩) (c15 : PySem.W.codeIn K cd15 "_law_stretches_right" = true) (k15 : PySem.W.keepIn K (.ref f15) = true)
    (a16 : PySem.W.nsIn K mainGlobals "_law_bad_text" = some (some (.ref f16))) (l16 : K.lookup f16 = some ⟨oc16, od16, .func (PySem.W.fnOf "_law_bad_text" "_law_bad_text" (defArgs s__law_bad_text) (defBody s__law_bad_text) (defScope s__law_bad_text) .none kV16 dc16 pm16 an16 cd16 ct16), sl16⟩) (c16 : PySem.W.codeIn K cd16 "_law_bad_text" = true) (k16 : PySem.W.keepIn K (.ref f16) = true)
    (a17 : PySem.W.nsIn K mainGlobals "_law_bad_lag" = some (some (.ref f17))) (l17 : K.lookup f17 = some ⟨oc17, od17, .func (PySem.W.fnOf "_law_bad_lag" "_law_bad_lag" (defArgs s__law_bad_lag) (defBody s__law_bad_lag) (defScope s__law_bad_lag) .none kV17 dc17 pm17 an17 cd17 ct17), sl17⟩) (c17 : PySem.W.codeIn K cd17 "_law_bad_lag" = true) (k17 : PySem.W.keepIn K (.ref f17) = true)
    (a18 : PySem.W.nsIn K mainGlobals "_law_told" = some (some (.ref f18))) (l18 : K.lookup f18 = some ⟨oc18, od18, .func (PySem.W.fnOf "_law_told" "_law_told" (defArgs s__law_told) (defBody s__law_told) (defScope s__law_told) .none kV18 dc18 pm18 an18 cd18 ct18), sl18⟩) (c18 : PySem.W.codeIn K cd18 "_law_told" = true) (k18 : PySem.W.keepIn K (.ref f18) = true)
    (a19 : PySem.W.nsIn K mainGlobals "_law_refuses" = some (some (.ref f19))) (l19 : K.lookup f19 = some ⟨oc19, od19, .func (PySem.W.fnOf "_law_refuses" "_law_refuses" (defArgs s__law_refuses) (defBody s__law_refuses) (defScope s__law_refuses) .none kV19 dc19 pm19 an19 cd19 ct19), sl19⟩) (c19 : PySem.W.codeIn K cd19 "_law_refuses" = true) (k19 : PySem.W.keepIn K (.ref f19) = true)
    (a20 : PySem.W.nsIn K mainGlobals "_law_copy" = some (some (.ref f20))) (l20 : K.lookup f20 = some ⟨oc20, od20, .func (PySem.W.fnOf "_law_copy" "_law_copy" (defArgs s__law_copy) (defBody s__law_copy) (defScope s__law_copy) .none kV20 dc20 pm20 an20 cd20 ct20), sl20⟩) (c20 : PySem.W.codeIn K cd20 "_law_copy" = true) (k20 : PySem.W.keepIn K (.ref f20) = true)
    (a21 : PySem.W.nsIn K mainGlobals "_law_refusals_right" = some (some (.ref f21))) (l21 : K.lookup f21 = some ⟨oc21, od21, .func (PySem.W.fnOf "_law_refusals_right" "_law_refusals_right" (defArgs s__law_refusals_right) (defBody s__law_refusals_right) (defScope s__law_refusals_right) .none kV21 dc21 pm21 an21 cd21 ct21), sl21⟩) (c21 : PySem.W.codeIn K cd21 "_law_refusals_right" = true) (k21 : PySem.W.keepIn K (.ref f21) = true)
    (a22 : PySem.W.nsIn K mainGlobals "_law_right" = some (some (.ref f22))) (l22 : K.lookup f22 = some ⟨oc22, od22, .func (PySem.W.fnOf "_law_right" "_law_right" (defArgs s__law_right) (defBody s__law_right) (defScope s__law_right) .none kV22 dc22 pm22 an22 cd22 ct22), sl22⟩) (c22 : PySem.W.codeIn K cd22 "_law_right" = true) (k22 : PySem.W.keepIn K (.ref f22) = true)
    (a23 : PySem.W.nsIn K mainGlobals "law" = some (some (.ref f23))) (l23 : K.lookup f23 = some ⟨oc23, od23, .func (PySem.W.fnOf "law" "law" (defArgs s_law) (defBody s_law) (defScope s_law) .none kV23 dc23 pm23 an23 cd23 ct23), sl23⟩) (c23 : PySem.W.codeIn K cd23 "law" = true) (k23 : PySem.W.keepIn K (.ref f23) = true)
    (bB : PySem.W.nsIn K mainGlobals "CodecError" = some (some (.ref B))) (bsp : PySem.W.specialIn K (.ref B) "__getattribute__" = some (some (.builtin "type.__getattribute__"))) (brd : PySem.W.readsIn K B (.type "type") = true) (bfc : PySem.W.findCls K (.ref B) (.type "type") "__init__" = some (.val (.builtin "Exception.__init__")))
    (aC_InvalidText : PySem.W.nsIn K mainGlobals "InvalidText" = some (some (.ref C_InvalidText))) (xL_InvalidText : K.lookup C_InvalidText = some (excClassObj nm_InvalidText q_InvalidText C_InvalidText N_InvalidText bs_InvalidText [.ref B, .type "Exception", .type "BaseException", .type "object"] true sn_InvalidText sub_InvalidText ab_InvalidText col_InvalidText dd_InvalidText m0_InvalidText m1_InvalidText m2_InvalidText m3_InvalidText m5_InvalidText "Exception.__new__")) (sa_InvalidText : PySem.W.findIn K (.ref C_InvalidText) "__setattr__" = some (some (.builtin "object.__setattr__"))) (ga_InvalidText : PySem.W.findIn K (.ref C_InvalidText) "__getattribute__" = some (some (.builtin "BaseException.__getattribute__"))) (gg_InvalidText : PySem.W.findIn K (.ref C_InvalidText) "__getattr__" = some none) (nb_InvalidText : PySem.W.findIn K (.ref C_InvalidText) "given" = some none) (a1_InvalidText : PySem.W.findIn K (.ref C_InvalidText) "__init__" = some (some (.ref I_InvalidText))) (t1_InvalidText : PySem.W.typeIn K (.ref I_InvalidText) = some (.type "function")) (l1_InvalidText : K.lookup I_InvalidText = some ⟨oc_InvalidText, od_InvalidText, .func (PySem.W.fnOf "__init__" "InvalidText.__init__" (defArgs s_InvalidText___init__) (defBody s_InvalidText___init__) (defScope s_InvalidText___init__) .none .none dc_InvalidText pm_InvalidText an_InvalidText cd_InvalidText ct_InvalidText), sl_InvalidText⟩) (c1_InvalidText : PySem.W.codeIn K cd_InvalidText "InvalidText.__init__" = true) (kC_InvalidText : PySem.W.keepIn K (.ref C_InvalidText) = true) (eC_InvalidText : PySem.W.subIn K (.ref C_InvalidText) (.type "BaseException") = some true) (tC_InvalidText : PySem.W.typeIn K (.ref C_InvalidText) = some (.type "type")) (hC_InvalidText : PySem.W.hasDictIn K C_InvalidText = true) (iC_InvalidText : PySem.W.isClsIn K C_InvalidText = true) (sC_InvalidText : PySem.W.subIn K (.ref C_InvalidText) (.ref C_InvalidText) = some true)
    (z_abs : PySem.W.nsIn K mainGlobals "abs" = some none)
    (z_all : PySem.W.nsIn K mainGlobals "all" = some none)
    (z_int : PySem.W.nsIn K mainGlobals "int" = some none)
    (z_isinstance : PySem.W.nsIn K mainGlobals "isinstance" = some none)
    (z_len : PySem.W.nsIn K mainGlobals "len" = some none)
    (z_list : PySem.W.nsIn K mainGlobals "list" = some none)
    (z_max : PySem.W.nsIn K mainGlobals "max" = some none)
    (z_min : PySem.W.nsIn K mainGlobals "min" = some none)
    (z_range : PySem.W.nsIn K mainGlobals "range" = some none)
    (z_repr : PySem.W.nsIn K mainGlobals "repr" = some none)
    (z_str : PySem.W.nsIn K mainGlobals "str" = some none)
    (z_sum : PySem.W.nsIn K mainGlobals "sum" = some none)
    (z_tuple : PySem.W.nsIn K mainGlobals "tuple" = some none)
    (q_LETTERS : PySem.W.nsIn K mainGlobals "LETTERS" = some (some (.str (PySem.Str.ofString "abcdefghijklmnopqrstuvwxyz") t_LETTERS)))
    : Txt K mg where
  d_is_text := .of f0 _ (fun_mk (st := s_is_text) l0 c0 k0) (PySem.W.mg_of X G a0) fun s us hl => match us, hl with | [_], _ => .of_eq rfl
  d_is_lag := .of f1 _ (fun_mk (st := s_is_lag) l1 c1 k1) (PySem.W.mg_of X G a1) fun s us hl => match us, hl with | [_], _ => .of_eq rfl
  d_check_text := .of f2 _ (fun_mk (st := s_check_text) l2 c2 k2) (PySem.W.mg_of X G a2) fun s us hl => match us, hl with | [_], _ => .of_eq rfl
  d_lag_after := .of f3 _ (fun_mk (st := s_lag_after) l3 c3 k3) (PySem.W.mg_of X G a3) fun s us hl => match us, hl with | [_, _], _ => .of_eq rfl
  d_check_lag := .of f4 _ (fun_mk (st := s_check_lag) l4 c4 k4) (PySem.W.mg_of X G a4) fun s us hl => match us, hl with | [_], _ => .of_eq rfl
  d_lag_behind := .of f5 _ (fun_mk (st := s_lag_behind) l5 c5 k5) (PySem.W.mg_of X G a5) fun s us hl => match us, hl with | [_, _, _], _ => .of_eq rfl
  d__law_cell := .of f6 _ (fun_mk (st := s__law_cell) l6 c6 k6) (PySem.W.mg_of X G a6) fun s us hl => match us, hl with | [_, _], _ => .of_eq rfl
  d__law_box := .of f7 _ (fun_mk (st := s__law_box) l7 c7 k7) (PySem.W.mg_of X G a7) fun s us hl => match us, hl with | [_], _ => .of_eq rfl
  d__law_take := .of f8 _ (fun_mk (st := s__law_take) l8 c8 k8) (PySem.W.mg_of X G a8) fun s us hl => match us, hl with | [_, _], _ => .of_eq rfl
  d__law_letters := .of f9 _ (fun_mk (st := s__law_letters) l9 c9 k9) (PySem.W.mg_of X G a9) fun s us hl => match us, hl with | [_], _ => .of_eq rfl
  d__law_word := .of f10 _ (fun_mk (st := s__law_word) l10 c10 k10) (PySem.W.mg_of X G a10) fun s us hl => match us, hl with | [_, _, _], _ => .of_eq rfl
  d__law_chain := .of f11 _ (fun_mk (st := s__law_chain) l11 c11 k11) (PySem.W.mg_of X G a11) fun s us hl => match us, hl with | [_, _], _ => .of_eq rfl
  d__law_behind := .of f12 _ (fun_mk (st := s__law_behind) l12 c12 k12) (PySem.W.mg_of X G a12) fun s us hl => match us, hl with | [_, _], _ => .of_eq rfl
  d__law_turned := .of f13 _ (fun_mk (st := s__law_turned) l13 c13 k13) (PySem.W.mg_of X G a13) fun s us hl => match us, hl with | [_], _ => .of_eq rfl
  d__law_steps_right := .of f14 _ (fun_mk (st := s__law_steps_right) l14 c14 k14) (PySem.W.mg_of X G a14) fun s us hl => match us, hl with | [_], _ => .of_eq rfl
  d__law_stretches_right := .of f15 _ (fun_mk (st := s__law_stretches_right) l15 c15 k15) (PySem.W.mg_of X G a15) fun s us hl => match us, hl with | [_], _ => .of_eq rfl
  d__law_bad_text := .of f16 _ (fun_mk (st := s__law_bad_text) l16 c16 k16) (PySem.W.mg_of X G a16) fun s us hl => match us, hl with | [_, _], _ => .of_eq rfl
  d__law_bad_lag := .of f17 _ (fun_mk (st := s__law_bad_lag) l17 c17 k17) (PySem.W.mg_of X G a17) fun s us hl => match us, hl with | [_, _], _ => .of_eq rfl
  d__law_told := .of f18 _ (fun_mk (st := s__law_told) l18 c18 k18) (PySem.W.mg_of X G a18) fun s us hl => match us, hl with | [_, _], _ => .of_eq rfl
  d__law_refuses := .of f19 _ (fun_mk (st := s__law_refuses) l19 c19 k19) (PySem.W.mg_of X G a19) fun s us hl => match us, hl with | [_, _, _], _ => .of_eq rfl
  d__law_copy := .of f20 _ (fun_mk (st := s__law_copy) l20 c20 k20) (PySem.W.mg_of X G a20) fun s us hl => match us, hl with | [_], _ => .of_eq rfl
  d__law_refusals_right := .of f21 _ (fun_mk (st := s__law_refusals_right) l21 c21 k21) (PySem.W.mg_of X G a21) fun s us hl => match us, hl with | [_, _], _ => .of_eq rfl
  d__law_right := .of f22 _ (fun_mk (st := s__law_right) l22 c22 k22) (PySem.W.mg_of X G a22) fun s us hl => match us, hl with | [_], _ => .of_eq rfl
  d_law := .of f23 _ (fun_mk (st := s_law) l23 c23 k23) (PySem.W.mg_of X G a23) fun s us hl => match us, hl with | [_], _ => .of_eq rfl
  x_InvalidText := ErrAt.of { gC := PySem.W.mg_of X G aC_InvalidText, gB := PySem.W.mg_of X G bB, cls := ⟨nm_InvalidText, q_InvalidText, N_InvalidText, bs_InvalidText, sn_InvalidText, sub_InvalidText, ab_InvalidText, col_InvalidText, dd_InvalidText, m0_InvalidText, m1_InvalidText, m2_InvalidText, m3_InvalidText, m5_InvalidText, xL_InvalidText⟩, sa := sa_InvalidText, ga := ga_InvalidText, gg := gg_InvalidText, noN := nb_InvalidText, iC := a1_InvalidText, tC := t1_InvalidText, kC := kC_InvalidText, exC := eC_InvalidText, tyC := tC_InvalidText, hdC := hC_InvalidText, te := exm_self eC_InvalidText iC_InvalidText tC_InvalidText sC_InvalidText, sp := bsp, rd := brd, fc := bfc, fn := ⟨_, _, _, _, _, _, _, _, _, _, _, _, _, _, _, _, _, _, _, _, _, _, _, l1_InvalidText, c1_InvalidText, fun env => ⟨_, rfl⟩⟩ }
  n_abs := PySem.W.mg_none_of X G z_abs
  n_all := PySem.W.mg_none_of X G z_all
  n_int := PySem.W.mg_none_of X G z_int
  n_isinstance := PySem.W.mg_none_of X G z_isinstance
  n_len := PySem.W.mg_none_of X G z_len
  n_list := PySem.W.mg_none_of X G z_list
  n_max := PySem.W.mg_none_of X G z_max
  n_min := PySem.W.mg_none_of X G z_min
  n_range := PySem.W.mg_none_of X G z_range
  n_repr := PySem.W.mg_none_of X G z_repr
  n_str := PySem.W.mg_none_of X G z_str
  n_sum := PySem.W.mg_none_of X G z_sum
  n_tuple := PySem.W.mg_none_of X G z_tuple
  g_LETTERS := ⟨_, (PySem.W.mg_of X G q_LETTERS).trans (congrArg (fun z => some (Value.str z _)) (by decide +kernel))⟩
end K11
open PySem PySem.W PyProof.Rows in
set_option maxRecDepth 100000 in
set_option maxHeartbeats 0 in
theorem PySem.Challenge.cw_spoiltline_k11_lags_behind_words_holds : PySem.Challenge.rw_spoiltline_k11_lags_behind_words.Holds := by
  w_on; o_law; k_head; (case hw => w_witness2)
  k_fill
  refine SL.walk_g (l := PySem.Challenge.rw_spoiltline_k11_lags_behind_words) (k := 9) (x := "script") rfl (by decide) rfl ⟨rfl, by decide, by decide⟩ (fun w h Y => PySem.W.kIn_of Y) ?F (fun K H a ns hl hO hS => K11.law_sp hl hO hS)
  case F =>
    intro w mg fa h KX G hmg
    refine' K11.law_cal hmg (K11.all_mk KX G ?a0 ?l0 ?c0 ?k0 ?a1 ?l1 ?c1 ?k1 ?a2 ?l2 ?c2 ?k2 ?a3 ?l3 ?c3 ?k3 ?a4 ?l4 ?c4 ?k4 ?a5 ?l5 ?c5 ?k5 ?a6 ?l6 ?c6 ?k6 ?a7 ?l7 ?c7 ?k7 ?a8 ?l8 ?c8 ?k8 ?a9 ?l9 ?c9 ?k9 ?a10 ?l10 ?c10 ?k10 ?a11 ?l11 ?c11 ?k11 ?a12 ?l12 ?c12 ?k12 ?a13 ?l13 ?c13 ?k13 ?a14 ?l14 ?c14 ?k14 ?a15 ?l15 ?c15 ?k15 ?a16 ?l16 ?c16 ?k16 ?a17 ?l17 ?c17 ?k17 ?a18 ?l18 ?c18 ?k18 ?a19 ?l19 ?c19 ?k19 ?a20 ?l20 ?c20 ?k20 ?a21 ?l21 ?c21 ?k21 ?a22 ?l22 ?c22 ?k22 ?a23 ?l23 ?c23 ?k23 ?bB ?bsp ?brd ?bfc ?aC_InvalidText ?xL_InvalidText ?sa_InvalidText ?ga_InvalidText ?gg_InvalidText ?nb_InvalidText ?a1_InvalidText ?t1_InvalidText ?l1_InvalidText ?c1_InvalidText ?kC_InvalidText ?eC_InvalidText ?tC_InvalidText ?hC_InvalidText ?iC_InvalidText ?sC_InvalidText ?z_abs ?z_all ?z_int ?z_isinstance ?z_len ?z_list ?z_max ?z_min ?z_range ?z_repr ?z_str ?z_sum ?z_tuple ?q_LETTERS)
    (case a0 => k_is)
    (case l0 => k_is)
    (case c0 => k_is)
    (case k0 => k_is)
    (case a1 => k_is)
    (case l1 => k_is)
    (case c1 => k_is)
    (case k1 => k_is)
    (case a2 => k_is)
    (case l2 => k_is)
    (case c2 => k_is)
    (case k2 => k_is)
    (case a3 => k_is)
    (case l3 => k_is)
    (case c3 => k_is)
    (case k3 => k_is)
    (case a4 => k_is)
    (case l4 => k_is)
    (case c4 => k_is)
    (case k4 => k_is)
    (case a5 => k_is)
    (case l5 => k_is)
    (case c5 => k_is)
    (case k5 => k_is)
    (case a6 => k_is)
    (case l6 => k_is)
    (case c6 => k_is)
    (case k6 => k_is)
    (case a7 => k_is)
    (case l7 => k_is)
    (case c7 => k_is)
    (case k7 => k_is)
    (case a8 => k_is)
    (case l8 => k_is)
    (case c8 => k_is)
    (case k8 => k_is)
    (case a9 => k_is)
    (case l9 => k_is)
    (case c9 => k_is)
    (case k9 => k_is)
    (case a10 => k_is)
    (case l10 => k_is)
    (case c10 => k_is)
    (case k10 => k_is)
    (case a11 => k_is)
    (case l11 => k_is)
    (case c11 => k_is)
    (case k11 => k_is)
    (case a12 => k_is)
    (case l12 => k_is)
    (case c12 => k_is)
    (case k12 => k_is)
    (case a13 => k_is)
    (case l13 => k_is)
    (case c13 => k_is)
    (case k13 => k_is)
    (case a14 => k_is)
    (case l14 => k_is)
    (case c14 => k_is)
    (case k14 => k_is)
    (case a15 => k_is)
    (case l15 => k_is)
    (case c15 => k_is)
    (case k15 => k_is)
    (case a16 => k_is)
    (case l16 => k_is)
    (case c16 => k_is)
    (case k16 => k_is)
    (case a17 => k_is)
    (case l17 => k_is)
    (case c17 => k_is)
    (case k17 => k_is)
    (case a18 => k_is)
    (case l18 => k_is)
    (case c18 => k_is)
    (case k18 => k_is)
    (case a19 => k_is)
    (case l19 => k_is)
    (case c19 => k_is)
    (case k19 => k_is)
    (case a20 => k_is)
    (case l20 => k_is)
    (case c20 => k_is)
    (case k20 => k_is)
    (case a21 => k_is)
    (case l21 => k_is)
    (case c21 => k_is)
    (case k21 => k_is)
    (case a22 => k_is)
    (case l22 => k_is)
    (case c22 => k_is)
    (case k22 => k_is)
    (case a23 => k_is)
    (case l23 => k_is)
    (case c23 => k_is)
    (case k23 => k_is)
    (case bB => k_is)
    (case bsp => k_is)
    (case brd => k_is)
    (case bfc => k_is)
    (case aC_InvalidText => k_is)
    (case xL_InvalidText => k_is)
    (case sa_InvalidText => k_is)
    (case ga_InvalidText => k_is)
    (case gg_InvalidText => k_is)
    (case nb_InvalidText => k_is)
    (case a1_InvalidText => k_is)
    (case t1_InvalidText => k_is)
    (case l1_InvalidText => k_is)
    (case c1_InvalidText => k_is)
    (case kC_InvalidText => k_is)
    (case eC_InvalidText => k_is)
    (case tC_InvalidText => k_is)
    (case hC_InvalidText => k_is)
    (case iC_InvalidText => k_is)
    (case sC_InvalidText => k_is)
    (case z_abs => k_is)
    (case z_all => k_is)
    (case z_int => k_is)
    (case z_isinstance => k_is)
    (case z_len => k_is)
    (case z_list => k_is)
    (case z_max => k_is)
    (case z_min => k_is)
    (case z_range => k_is)
    (case z_repr => k_is)
    (case z_str => k_is)
    (case z_sum => k_is)
    (case z_tuple => k_is)
    (case q_LETTERS => k_is)
