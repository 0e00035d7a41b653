import PyProof.Rows.All
import Wide.All
import OpenK.AllK
import Wide.FinOn
import HandS.ForMost
import HandS.Exc
import HandS.ExcOwn
import HandS.ExcInit
import HandS.WordsExc
import HandS.TryMany
import HandS.IsInst
import HandS.StrMore
import HandS.Conv
import HandS.Wide
import HandS.Flow
import HandS.Style
import HandS.Flt
import HandS.RaiseMore
import HandS.TupAny
import HandS.Deep
import KE.KRevSl
import PyProof.Draws
import PyProof.StrBlock2
import PyProof.Rows.StrRev
import HandS.Walk
import HandS.TryOnly
import HandS.ExcSuper
import HandS.ExcField
import PyProof.StrWalks
import KE.KUnpack
import PyProof.ReprLen
import PySem.Challenge.RW_spoiltline_k09_prices_of_rounds
set_option Elab.async false
set_option linter.all false
set_option maxRecDepth 100000
set_option maxHeartbeats 4000000
/-! SlA: defs that know that no container is being written out (guards), and their calls. -/
namespace SL
open PySem PySem.Spec PyProof.Rows L2

/-- a def's promise, kept wherever no container is being written out -/
structure FnG (P : Program) (w : World) (K : PySem.W.Frag) (mg : Str → Option Value) (base : Heap) (k : Nat) (f : Addr) (fd : FuncData) (ps : List Str) (sp : Sp) : Prop where
  len : ∀ vs H Q E, sp vs H Q E → vs.length = ps.length
  run : ∀ (A : Around) (outer : List Env) (s : Shared) (H : Hp) (args : Args) (us : List Value) (vs : List V) (Q : VK) (E : XK),
    Room k A → A.guards = some [] → Env0 P w K mg base A outer s H → BindsTo s fd args (ps.zip us) → Vals vs us → sp vs H Q E →
    codeAny (model P w) A (.call (.ref f) args) (CR (L2.CX P w) outer P w H s Q E) s

theorem gd_deeper {A : Around} {env : Env} (h : A.guards = some []) : (A.deeper env).guards = some [] := by
  first | exact h | (unfold Around.deeper; exact h) | simpa [Around.deeper] using h

section
variable {P : Program} {w : World} {K : PySem.W.Frag} {mg : Str → Option Value} {base : Heap}
/-- by the body, read at each entry -/
theorem fnG_of {x qual : Str} {st : Stmt} {f : Addr} {fd : FuncData} {N ps : List Str} {k : Nat} {sp : Sp} (F : Fun K x qual st f fd) (S : FnScope N ps (defScope st))
    (len : ∀ vs H Q E, sp vs H Q E → vs.length = ps.length)
    (hbody : ∀ (cdv : Value) (A : Around) (outer : List Env) (s : Shared) (H : Hp) (vs : List V) (Q : VK) (E : XK),
      Room k (A.deeper (envOfC qual (defScope st) s.heap.objs.size f cdv)) → (A.deeper (envOfC qual (defScope st) s.heap.objs.size f cdv)).guards = some [] → sp vs H Q E →
      ∃ t, PSs (cxOf (L2.CX P w) P w K mg base N qual (defScope st) f cdv A outer s H E) (defBody st) t ∧ t { nx := fun _ H' => Q .non H', rt := Q } (start N vs) H) :
    FnG P w K mg base (k + 1) f fd ps sp := by
  obtain ⟨oc, od, kV, doc, pm, an, cdv, ct, osl, rfl, lk, hcd⟩ := F.ex
  refine ⟨len, ?_⟩
  intro A outer s H args us vs Q E hr hg e0 hb r hsp
  have nps := len _ _ _ _ hsp
  have kin : K.In s.heap := e0.mod.kin.keeps fun b o e => (e0.bs b o e).1
  have nol : s.heap.NoLimit := e0.mod.nolimit.keeps fun b o e => (e0.bs b o e).1
  have kinds : ∀ y ∈ ps.zip us, (defScope st).names.lookup y.1 = some .local ∨ ((defScope st).names.lookup y.1 = some .cell ∧ ((cellsFrom (s.heap.objs.size + 1) (defScope st).names []).lookup y.1).isSome = true) := by
    rintro ⟨n, v⟩ hy
    have hn := (List.of_mem_zip hy).1
    cases S.par n hn with
    | inl q => exact Or.inl q
    | inr q => exact Or.inr ⟨q, PySem.W.cellsFrom_some _ _ _ (Or.inl q)⟩
  refine codeAny_call_function (Room.depth hr) (kin _ _ lk) rfl S.co S.gen rfl (PySem.W.codeRec_of kin hcd) (hb _ _ _ _ ?_)
  refine wpAny_newFunctionEnv_cells S.kind kinds ?_
  intro env henv s1 ic
  subst henv
  refine ⟨nol.keeps ic.toInCall.keep, codeAny_func ?_⟩
  obtain ⟨t, ht, hq⟩ := hbody cdv A outer s H vs Q E (Room.deeper hr _) (gd_deeper hg) hsp
  have I0 := inv_start (CX := L2.CX P w) (P := P) (w := w) (K := K) (mg := mg) (base := base) (E := E) S hr.hd e0 nps r ic
  refine wpAny_mono (ht.run [] s1 (start N vs) H _ I0 hq) ?_ fun _ _ z => z
  intro fl s' hs
  match fl, hs with
  | .ret u, ⟨v, σ', H', J, rv, q⟩ => exact ⟨v, H', J.os, J.bare, J.base, J.hok, rv, q⟩
  | .next, ⟨σ', H', J, q⟩ => exact ⟨V.non, H', J.os, J.bare, J.base, J.hok, rfl, q⟩
  | .brk, ⟨_, _, _, q⟩ => exact q.elim
  | .cont, ⟨_, _, _, q⟩ => exact q.elim

theorem FnG.mono {j k : Nat} {f : Addr} {fd : FuncData} {ps : List Str} {sp : Sp} (F : FnG P w K mg base j f fd ps sp) (h : j ≤ k) : FnG P w K mg base k f fd ps sp :=
  ⟨F.len, fun A outer s H args us vs Q E hr => F.run A outer s H args us vs Q E (hr.mono h)⟩
theorem FnG.imp {k : Nat} {f : Addr} {fd : FuncData} {ps : List Str} {sp sp' : Sp} (F : FnG P w K mg base k f fd ps sp) (h : ∀ vs H Q E, sp' vs H Q E → sp vs H Q E) : FnG P w K mg base k f fd ps sp' :=
  ⟨fun vs H Q E q => F.len vs H Q E (h _ _ _ _ q), fun A outer s H args us vs Q E hr hg e0 hb hv hs => F.run A outer s H args us vs Q E hr hg e0 hb hv (h _ _ _ _ hs)⟩
end

/-- a def of the module, callable by its name with all arguments given -/
structure Cal (P : Program) (w : World) (K : PySem.W.Frag) (mg : Str → Option Value) (base : Heap) (k : Nat) (x : Str) (ps : List Str) (sp : Sp) : Prop where
  ex : ∃ (f : Addr) (fd : FuncData), FnG P w K mg base k f fd ps sp ∧ mg x = some (.ref f) ∧ PySem.W.keepIn K (.ref f) = true ∧
    ∀ (s : Shared) (us : List Value), us.length = ps.length → BindsTo s fd ⟨us, []⟩ (ps.zip us)

section
variable {X : Cx} {k j : Nat} {x : Str} {ps : List Str} {sp : Sp} {E : L2.St → XK} {p pos : Pos} {e : Expr} {es : List Expr} {t : TA}
theorem run_g {f : Addr} {fd : FuncData} {pins : List (Addr × Obj)} {σ : L2.St} {H : Hp} {s : Shared} {Q : VK} {us : List Value} {vs : List V} (F : FnG X.prog X.w X.K X.mg X.base k f fd ps sp) (hr : Room k X.A) (hg : X.A.guards = some [])
    (hb : ∀ (s : Shared) (us : List Value), us.length = ps.length → BindsTo s fd ⟨us, []⟩ (ps.zip us)) (hx : PassesAt (L2.CX X.prog X.w) X σ (E σ))
    (I : Inv X pins σ H s) (r : Vals vs us) (h : sp vs H Q (E σ)) : wpAny (model X.prog X.w) X.A (call (.ref f) us) (EP X pins σ Q) X.xe s := by
  have hl : us.length = ps.length := by rw [← Paired.length r]; exact F.len _ _ _ _ h
  refine wpAny_call (codeAny_mono (F.run X.A X.stack s H ⟨us, []⟩ us vs Q (E σ) hr hg (Inv.env0 I) (hb s us hl) r h) ?_)
  intro rr s' hq
  match rr, hq with
  | .error ex, hq => exact hx pins H s ex s' I hq
  | .ok (.ret u), hq => exact Inv.after I hq
/-- f(e, ..) -/
theorem pe_g (c : Cal X.prog X.w X.K X.mg X.base k x ps sp) (hr : Room j X.A) (hk : k ≤ j) (hgd : X.A.guards = some []) (hg : Gl X x) (hx : ∀ σ, PassesAt (L2.CX X.prog X.w) X σ (E σ)) (ha : PA X (e :: es) t)
    (hdb : (x == ("__debug__" : Str)) = false := by decide) (he : starEach (e :: es) X.env = (false, eval e X.env) :: starEach es X.env := by rfl) (hpl : (backTo pos (starEach es X.env)).any (·.1) = false := by rfl) :
    PE X (.Call (.Name x p) (e :: es) [] pos) (tCallS sp E t) := by
  obtain ⟨f, fd, F, hm, kp, hb⟩ := c.ex
  constructor
  intro pins s σ H Q I h
  refine wpAny_Call_Name_kw (ld_glob I hg hm ?_ hdb)
  refine PySem.W.callWith_K (h₀ := X.base) I.ok.mod.kin kp (thn (ha.run pos pins s σ H _ I h) ?_) he hpl
  rintro us s1 ⟨vs, H1, I1, r, q⟩
  exact ⟨I1.kIn, run_g F (hr.mono hk) hgd hb (hx σ) I1 r q⟩
/-- f() -/
theorem pe_g0 (c : Cal X.prog X.w X.K X.mg X.base k x ps sp) (hr : Room j X.A) (hk : k ≤ j) (hgd : X.A.guards = some []) (hg : Gl X x) (hx : ∀ σ, PassesAt (L2.CX X.prog X.w) X σ (E σ))
    (hdb : (x == ("__debug__" : Str)) = false := by decide) : PE X (.Call (.Name x p) [] [] pos) (tCallS sp E tNil) := by
  obtain ⟨f, fd, F, hm, kp, hb⟩ := c.ex
  constructor
  intro pins s σ H Q I h
  refine wpAny_Call_Name_kw (ld_glob I hg hm ?_ hdb)
  exact PySem.W.callWith_K0 I.kIn kp (run_g (us := []) F (hr.mono hk) hgd hb (hx σ) I .nil h)
end

end SL
set_option Elab.async false
set_option linter.all false
set_option maxRecDepth 100000
set_option maxHeartbeats 4000000
/-! SlB: text * int, [::-1] of texts and tuples, enumerate(text), least of three; operators whatever the values are. -/
namespace SL
open PySem PySem.Spec PyProof.Rows L2

/-- a text of these signs -/
abbrev tx (l : List Nat) : Str := ⟨l.toArray⟩
theorem tx_list (z : Str) : tx z.cps.toList = z := by
  obtain ⟨⟨l⟩⟩ := z
  rfl
theorem tx_len (l : List Nat) : (tx l).length = l.length := by simp [Str.length]
theorem tx_app (l m : List Nat) : tx l ++ tx m = tx (l ++ m) := by
  show Str.mk (l.toArray ++ m.toArray) = _
  simp
theorem tx_inj {l m : List Nat} (h : tx l = tx m) : l = m := by
  have := congrArg (fun z : Str => z.cps.toList) h
  simpa using this

/-! ### text * int -/
theorem fold_app : ∀ (ls : List (Array Nat)) (acc : Array Nat), (ls.foldl (· ++ ·) acc).toList = acc.toList ++ (ls.map Array.toList).flatten
  | [], acc => by simp
  | a :: r, acc => by
    rw [List.foldl_cons, fold_app r (acc ++ a)]
    simp
theorem mul_txt (l : List Nat) (n : Int) : Txt.mul (tx l) n = tx (List.replicate n.toNat l).flatten := by
  unfold Txt.mul
  by_cases h1 : n < 1
  · rw [if_pos h1]
    have : n.toNat = 0 := by omega
    rw [this]
    rfl
  · rw [if_neg h1]
    by_cases h2 : (n == 1 || (tx l).length == 0) = true
    · rw [if_pos h2]
      rcases Bool.or_eq_true_iff.mp h2 with h | h
      · have e : n = 1 := by simpa using h
        subst e
        simp [tx]
      · have e : l = [] := by
          have h' : (tx l).length = 0 := by simpa using h
          rw [tx_len] at h'
          exact List.length_eq_zero_iff.mp h'
        subst e
        simp [tx]
    · rw [if_neg h2]
      have e := fold_app (List.replicate n.toNat (tx l).cps) #[]
      have e2 : ((List.replicate n.toNat (tx l).cps).foldl (· ++ ·) #[]) = (List.replicate n.toNat l).flatten.toArray := by
        apply Array.ext'
        rw [e]
        simp [List.map_replicate]
      rw [e2]
def rMulS : R2 := fun x y H Q => ∃ (l : List Nat) (n : Int), x = .str (tx l) ∧ y = .int n ∧ n ≤ 1000000 ∧ -1000000 ≤ n ∧ l.length ≤ 1000000 ∧ l.length * n.toNat ≤ 16777216 ∧ Q (.str (tx (List.replicate n.toNat l).flatten)) H
theorem op_mulS {X : Cx} : OpR X (binaryOp .Mult) rMulS := by
  intro pins s σ H x y v u Q I rx ry h
  obtain ⟨l, n, rfl, rfl, h1, h2, hl, hz, q⟩ := h
  obtain ⟨t, rfl⟩ := rx
  obtain ⟨t', rfl⟩ := ry
  refine SB.mul ⟨?_, fun h3 h4 => ?_, fun h3 h4 => ?_⟩ fun t2 k => ⟨.str _, H, I.tok k, ⟨t2, rfl⟩, by rw [mul_txt]; exact q⟩
  · rw [decide_eq_false (by omega), decide_eq_false (by omega)]
    rfl
  · rw [tx_len]
    have hn : 1 ≤ n := by omega
    have : (l.length : Int) ≤ (2 ^ 63 - 1) / n := by
      rw [Int.le_ediv_iff_mul_le (by omega)]
      have h5 : (l.length : Int) * n ≤ 1000000 * 1000000 := Int.mul_le_mul (by omega) h1 (by omega) (by omega)
      omega
    omega
  · rw [tx_len]
    unfold Builtin.Str.tooLong
    have hs := sizeLine_eq
    first
      | (apply decide_eq_false; omega)
      | (simp; omega)

/-! ### least of three -/
theorem call_min3I {X : Cx} (hc : X.calm = true) : CallR X (.builtin "min") (fun xs H Q => ∃ i j k, xs = [.int i, .int j, .int k] ∧ Q (.int (min (min i j) k)) H) := by
  intro pins s σ H xs us Q I r h
  obtain ⟨i, j, k, rfl, q⟩ := h
  refine call_min3Nu hc pins s σ H _ us Q I r ⟨.int i, .int j, .int k, .int (min (min i j) k), rfl, ?_, q⟩
  have two : ∀ a b : Int, nuMin2 (.int a) (.int b) = some (.int (min a b)) := by
    intro a b
    unfold nuMin2
    have e : nuLt (.int b) (.int a) = some (decide (b < a)) := by first | rfl | (unfold nuLt; rfl) | (simp [nuLt, nuCB])
    rw [e]
    show some (if decide (b < a) = true then V.int b else V.int a) = _
    by_cases h : b < a
    · rw [if_pos (decide_eq_true h)]
      congr 2
      omega
    · rw [if_neg (by simpa using h)]
      congr 2
      omega
  unfold nuMin3
  rw [two i j]
  exact two _ k

/-! ### [::-1] of texts and tuples -/
def tRevU (K : PySem.W.Frag) (te : TE) : TE := fun σ H Q => te σ H fun x H1 =>
  (∃ l : List Nat, x = .str (tx l) ∧ l.length ≤ 16777216 ∧ Q (.str (tx l.reverse)) H1) ∨
  (∃ a xs, x = .ref a ∧ SqT K H1 a xs ∧ ∀ p, H1 p = none → Q (.ref p) (upd H1 p (.tup xs.reverse)))
theorem getD_rev (l : List Nat) : ((List.range l.length).map fun k => l.toArray.getD (l.length - 1 - k) 0) = l.reverse := by
  apply List.ext_getElem
  · simp
  · intro i h1 h2
    have hi : i < l.length := by simpa using h1
    simp [Array.getD, show l.length - 1 - i < l.length by omega]
section
variable {prog : Program} {w : World} {A : Around} {E : Value → Shared → Prop} {s : Shared}
open HT in
theorem applied_rev {sl : Addr} {vl vu vs : Value} {n : Nat} {Q : Int × Int × Nat → Shared → Prop} (hs : s.heap.IsSliceOf sl vl vu vs) (pl : IsPart vl none) (pu : IsPart vu none) (ps : IsPart vs (some (-1)))
    (h : Q ((n : Int) - 1, -1, n) s) : wpAny (model prog w) A (Builtin.Slice.sliceApplied (.ref sl) (pure (n : Int))) Q E s := by
  obtain ⟨os, hos, hcs, hds⟩ := id hs
  unfold Builtin.Slice.sliceApplied Builtin.Slice.sliceFields
  refine wpAny_bind (wpAny_bind (wpAny_field hos hds (x := vl) rfl (wpAny_bind (wpAny_field hos hds (x := vu) rfl (wpAny_bind (wpAny_field hos hds (x := vs) rfl (wpAny_pure ?_)))))))
  refine wpAny_bind (slicePart_ ps ?_)
  show wpAny _ _ (if ((-1 : Int) == 0) = true then _ else _) _ _ s
  rw [if_neg (by decide)]
  refine wpAny_bind (slicePart_ pl (wpAny_bind (slicePart_ pu (wpAny_bind (wpAny_pure ?_)))))
  have e1 : Builtin.Slice.sliceAdjust none none (-1) (n : Int) = ((n : Int) - 1, -1) := rfl
  show wpAny _ _ (match Builtin.Slice.sliceAdjust none none (-1) (n : Int) with | (lo, hi) => pure (lo, (-1 : Int), Builtin.Slice.slicePlaces lo hi (-1))) _ _ s
  rw [e1]
  have e2 : Builtin.Slice.slicePlaces ((n : Int) - 1) (-1) (-1) = n := by
    unfold Builtin.Slice.slicePlaces
    rw [if_neg (by decide)]
    by_cases h0 : (n : Int) - 1 > -1
    · rw [if_pos h0]
      have : ((n : Int) - 1 - -1 - 1) / (- -1) = (n : Int) - 1 := by
        rw [show (- -1 : Int) = 1 from by decide, Int.ediv_one]
        omega
      rw [this]
      omega
    · rw [if_neg h0]
      omega
  show wpAny _ _ (pure ((n : Int) - 1, (-1 : Int), Builtin.Slice.slicePlaces ((n : Int) - 1) (-1) (-1))) _ _ s
  rw [e2]
  exact wpAny_pure h
theorem fmap_congr {α β : Type} {f g : α → Option β} : ∀ {l : List α}, (∀ a ∈ l, f a = g a) → l.filterMap f = l.filterMap g
  | [], _ => rfl
  | a :: r, h => by
    rw [List.filterMap_cons, List.filterMap_cons, h a List.mem_cons_self, fmap_congr fun b hb => h b (List.mem_cons_of_mem _ hb)]
theorem pick_rev (xs : Array Value) : ((List.range xs.size).filterMap fun (m : Nat) => xs[((xs.size : Int) - 1 + (m : Int) * -1).toNat]?).toArray = xs.toList.reverse.toArray := by
  have e : ∀ m ∈ List.range xs.size, xs[((xs.size : Int) - 1 + (m : Int) * -1).toNat]? = ((fun k => xs[k]?) ∘ fun k => xs.size - 1 - k) m := by
    intro m hm
    have : m < xs.size := List.mem_range.mp hm
    show _ = xs[xs.size - 1 - m]?
    congr 1
    omega
  rw [fmap_congr e, ← List.filterMap_map, PySem.W.krv_range, List.filterMap_reverse, PySem.W.krv_all]
open HT in
theorem getItem_tuple_rev {t sl : Addr} {items : Array Value} {vl vu vs : Value} {Q : Value → Shared → Prop} (ht : IsTup s.heap t items) (hs : s.heap.IsSliceOf sl vl vu vs) (pl : IsPart vl none) (pu : IsPart vu none) (ps : IsPart vs (some (-1)))
    (h : Q (.ref s.heap.objs.size) { s with heap := s.heap.push { cls := .type "tuple", data := .seq items.toList.reverse.toArray } })
    (hsz : items.size ≤ sizeLine) : wpAny (model prog w) A (getItem (.ref t) (.ref sl)) Q E s := by
  have fits : sizeOk (.seq items.toList.reverse.toArray) := by
    show items.toList.reverse.toArray.size ≤ sizeLine
    rw [List.size_toArray, List.length_reverse, Array.length_toList]
    exact hsz
  obtain ⟨os, hos, hcs, hds⟩ := id hs
  have isS : s.TypeIs (.ref sl) "slice" := ⟨os, hos, hcs⟩
  unfold getItem
  try with_reducible refine wpAny_holding ?_
  first | refine wpAny_bind (wpAny_pure ?_) | skip
  refine wpAny_bind (wpAny_sequenceKey ht.typeIs (by decide) ?_)
  refine wpAny_bind (wpAny_callSpecial?_slot (name := Str.ofString "__getitem__") ht.typeIs PyProof.Rows.slot_tuple_getitem
    (wpAny_call_entry PyProof.Rows.slot_tuple_getitem ht.typeIs entry_tuple_getitem ?_ (args_tuple_getitem _ _)))
  show wpAny _ _ (Builtin.Tuple.tupleItemsOf (.ref t) >>= _) _ _ s
  refine wpAny_bind (tupleItemsOf_ ht ?_)
  refine wpAny_bind (wpAny_typeOf isS ?_)
  rw [if_pos (by decide)]
  refine wpAny_bind (applied_rev hs pl pu ps ?_)
  have no : ¬ ((((items.size : Int) - 1 == 0) && (-1 : Int) == 1 && items.size == items.size) = true) := by simp
  show wpAny _ _ (if (((items.size : Int) - 1 == 0) && (-1 : Int) == 1 && items.size == items.size) = true then _ else _) _ _ s
  rw [if_neg no, pick_rev]
  first
    | exact wpAny_bind (m := Builtin.Tuple.tupleExact _) (wpAny_newObj_type (wpAny_pure ⟨_, rfl, wpAny_pure h⟩) fits)
    | exact wpAny_bind (m := Builtin.Tuple.tupleExact _) (wpAny_newObj_type (wpAny_bind (wpAny_pure (wpAny_pure ⟨_, rfl, wpAny_pure h⟩))) fits)
    | exact wpAny_bind (wpAny_bind (m := Builtin.Tuple.tupleExact _) (wpAny_newObj_type (wpAny_pure (wpAny_pure ⟨_, rfl, wpAny_pure h⟩)) fits))
    | exact wpAny_bind (wpAny_bind (m := Builtin.Tuple.tupleExact _) (wpAny_newObj_type (wpAny_pure ⟨_, rfl, wpAny_pure h⟩) fits))
end
theorem pe_revU {X : Cx} {e : Expr} {te : TE} {k : Nat} {p1 p2 p3 pos : Pos} (he : PE X e te) :
    PE X (.Subscript e (.Slice none none (some (.UnaryOp .USub (.Constant (.int 1) k p1) p2)) p3) pos) (tRevU X.K te) := by
  constructor
  intro pins s σ H Q I h
  refine Subscript_ (thn (he.run pins s σ H _ I h) ?_)
  rintro v s1 ⟨x, H1, I1, r1, q1⟩
  have st : PO X (some (.UnaryOp .USub (.Constant (.int 1) k p1) p2)) (tPart (tUn (rU fun i => .int (-i)) (tC (.int 1)))) := po_some (pe_un un_neg pe_int)
  refine wpAny_Slice (thn (po_none.run pins s1 σ H1 (fun o H2 => o = none ∧ H2 = H1) I1 ⟨rfl, rfl⟩) ?_)
  rintro vl s2 ⟨o2, H2, I2, pl, rfl, rfl⟩
  refine thn (po_none.run pins s2 σ H2 (fun o H3 => o = none ∧ H3 = H2) I2 ⟨rfl, rfl⟩) ?_
  rintro vu s3 ⟨o3, H3, I3, pu, rfl, rfl⟩
  refine thn (st.run pins s3 σ H3 (fun o H4 => o = some (-1) ∧ H4 = H3) I3 ⟨1, rfl, -1, rfl, rfl, rfl⟩) ?_
  rintro vs s4 ⟨o4, H4, I4, ps, rfl, rfl⟩
  have I5 : Inv X pins σ H4 { s4 with heap := s4.heap.push { cls := .type "slice", data := .fields #[vl, vu, vs] } } := I4.kept (t' := s4.toks) fun b ob q => Heap.get?_push_of_some _ q
  rcases q1 with ⟨l, rfl, hz, q⟩ | ⟨a, xs, rfl, hx, q⟩
  · obtain ⟨t, rfl⟩ := r1
    refine tail_any (ops := [.str (tx l) t, .ref s4.heap.objs.size]) (typeIs_str _ _ _) F.slot_str_getitem.lookup ?_ (by with_unfolding_all rfl)
    obtain ⟨l1, rfl, e1⟩ := IsPart.raw pl
    obtain ⟨u1, rfl, e2⟩ := IsPart.raw pu
    obtain ⟨w1, rfl, e3⟩ := IsPart.raw ps
    obtain rfl : l1 = none := by cases l1 with | none => rfl | some _ => cases e1
    obtain rfl : u1 = none := by cases u1 with | none => rfl | some _ => cases e2
    obtain ⟨i, tk, rfl⟩ : ∃ i tk, w1 = some (i, tk) := by cases w1 with | none => cases e3 | some p => exact ⟨p.1, p.2, rfl⟩
    obtain rfl : i = -1 := Option.some.inj e3
    refine wpAny_getItem_str_slice (l := none) (u := none) (st := some (-1, tk)) ⟨_, Heap.get?_push_size _ rfl, rfl, rfl⟩ rfl ?_
    have ee : (tx l.reverse) = ⟨((Builtin.Str.strSliceIndices none none (-1) (tx l).length).filterMap ((tx l).cps[·]?)).toArray⟩ := by
      rw [PyProof.Rows.picked_rev, PyProof.Rows.filterMap_get, List.map_map]
      · rw [tx_len, ← getD_rev l]
        rfl
      · intro i hi
        obtain ⟨k, hk, rfl⟩ := List.mem_map.mp hi
        have hk' : k < (tx l).length := List.mem_range.mp hk
        show (tx l).length - 1 - k < (tx l).length
        omega
    have hl : (tx l.reverse).length ≤ sizeLine := by
      rw [tx_len, List.length_reverse, sizeLine_eq]
      exact hz
    unfold sliceMade
    have no : ¬ ((((some ((-1 : Int), tk)).map (·.1)).getD 1 == 1 && (slicePicked (tx l) none none (some (-1, tk))).length == (tx l).length) = true) := by
      have : (((some ((-1 : Int), tk)).map (·.1)).getD 1 == 1) = false := rfl
      rw [this]
      simp
    rw [if_neg no]
    have em : slicePicked (tx l) none none (some (-1, tk)) = Builtin.Str.strSliceIndices none none (-1) (tx l).length := rfl
    rw [em, ← ee]
    exact ⟨hl, .str _, H4, I5.tok _, ⟨_, rfl⟩, q⟩
  · cases r1
    obtain ⟨its, r, ht, hz⟩ := I5.tuple hx
    refine tail_any (ops := [.ref a, .ref s4.heap.objs.size]) ht.typeIs (PyProof.Rows.slot_tuple_getitem.lookup) ?_ (by with_unfolding_all rfl)
    have hl := r.length
    refine getItem_tuple_rev ht (Heap.IsSliceOf.new _ vl vu vs) pl pu ps ?_ (by rw [List.size_toArray]; omega)
    refine ⟨.ref _, _, I5.laid (t' := s4.toks) (o := .tup xs.reverse) (fun b ob q => Heap.get?_push_of_some _ q) (Nat.le_refl _) ?_, rfl, q _ (I5.hok.fresh (Nat.le_refl _))⟩
    exact ⟨by rw [List.length_reverse]; exact hz, _, r.reverse, IsTup.new _ _⟩
end SL
set_option Elab.async false
set_option linter.all false
set_option maxRecDepth 100000
set_option maxHeartbeats 4000000
/-! SlC: for i, c in enumerate(text). -/
namespace SL
open PySem PySem.Spec PyProof.Rows L2
/-- the signs of a text, each in a new pair with its place -/
def Ites (z : Str) : It :=
  ⟨fun i _ => i < z.cps.size, fun i H v H' => ∃ T c, v = .ref T ∧ H T = none ∧ H' = upd H T (.tup [.int (i : Nat), .str ⟨#[c]⟩]) ∧ z.cps[i]? = some c, fun i _ => i = z.cps.size⟩
theorem drawn {X : Cx} (hh : X.A.in1.handled = none) (it : Addr) (z : Str) (t : Tok) (ty : String) (hty : ty = "str_ascii_iterator" ∨ ty = "str_iterator") :
    Draws X.prog X.w X.A.in1 it [it] z.cps.size (SignAt z) (fun i h => h.IsStrIter it ty z t i) := by
  rcases hty with e | e
  · rw [e]
    exact Draws.strAscii hh it z t
  · rw [e]
    exact Draws.strWide hh it z t
theorem turn_enumS {P : Program} {w : World} {K : PySem.W.Frag} {elts : List Expr} {kk : Nat} {tpos : Pos} (z : Str) (t : Tok) (ty : String) (hty : ty = "str_ascii_iterator" ∨ ty = "str_iterator") (e it : Addr) :
    Turn P w K (.Tuple elts kk tpos) (Ites z) [e, it] e (fun i h => (∃ old, IsEnum h e it ((i : Nat) : Int) old) ∧ h.IsStrIter it ty z t i ∧ e ≠ it) where
  mem := by simp
  obj := fun i h st b hb => by
    obtain ⟨⟨old, he⟩, ⟨o, ho, hc, hd⟩, _⟩ := st
    have two : b = e ∨ b = it := by simpa using hb
    cases two with
    | inl q => rw [q]; exact ⟨_, he, fun v y => nomatch y⟩
    | inr q => rw [q]; exact ⟨o, ho, fun v y => by rw [hd] at y; cases y⟩
  keep := fun i h h' st k => by
    obtain ⟨⟨old, he⟩, ⟨o, ho, hc, hd⟩, hne⟩ := st
    exact ⟨⟨old, k e (by simp) _ he⟩, ⟨o, k it (by simp) o ho, hc, hd⟩, hne⟩
  item := by
    intro X hP hw hK hc i pins s σ H E I hf st hg
    subst hP hw hK
    obtain ⟨⟨old, he⟩, hit, hne⟩ := st
    have hel : e < s.heap.objs.size := Heap.lt_size he
    have hil : it < s.heap.objs.size := by obtain ⟨_, q, _⟩ := hit; exact Heap.lt_size q
    have dr := drawn (X := X) (I.ok.hd hc) it z t ty hty
    refine wpAny_pyNext_enum_itemD dr he hit hg hne (by simpa using hne) ?_
    intro x h' tk hx ho hit' hT hsz hk
    obtain ⟨c, u, hcx, rfl⟩ := hx
    refine ⟨_, rfl, wpAny_letOwnedTupleGo_enum (s := { s with heap := h', toks := tk + 1 }) ho ?_⟩
    intro h'' he' sb
    have hT2 : h''.get? s.heap.objs.size = some { cls := .type "tuple", data := .seq #[.int i tk, .str ⟨#[c]⟩ u] } := (sb.2 _ (Nat.ne_of_gt hel)).trans hT
    have new : ObjOk X.prog X.w (upd H s.heap.objs.size (.tup [.int (i : Nat), .str ⟨#[c]⟩])) h'' s.heap.objs.size (.tup [.int (i : Nat), .str ⟨#[c]⟩]) :=
      ⟨by show 2 ≤ sizeLine; decide, [.int i tk, .str ⟨#[c]⟩ u], .cons ⟨_, rfl⟩ (.cons ⟨_, rfl⟩ .nil), ⟨_, hT2, rfl, _, rfl⟩⟩
    have I1 : Inv X pins σ (upd H s.heap.objs.size (.tup [.int (i : Nat), .str ⟨#[c]⟩])) { s with heap := h'', toks := tk + 1 } :=
      I.turnedNew (ch := [e, it]) (fun b ob hb q => (sb.2 b (fun y => hb (by simp [y]))).trans (hk b ob (fun y => hb (by simp [y])) (fun y => hb (by simp [y])) q)) hf (Nat.le_refl _) new
    refine ⟨.ref s.heap.objs.size, _, I1, rfl, ⟨_, c, rfl, I.hok.fresh (Nat.le_refl _), rfl, hcx⟩, ⟨⟨.str ⟨#[c]⟩ u, ?_⟩, ?_, hne⟩, fun b hb => ?_⟩
    · have e1 : ((i + 1 : Nat) : Int) = (i : Int) + 1 := by omega
      rw [e1]
      exact he'
    · obtain ⟨o, ho2, hc2, hd2⟩ := hit'
      exact ⟨o, (sb.2 it (Ne.symm hne)).trans ho2, hc2, hd2⟩
    · have lt : b < s.heap.objs.size := by
        have two : b = e ∨ b = it := by simpa using hb
        cases two with
        | inl q => rw [q]; exact hel
        | inr q => rw [q]; exact hil
      rw [upd_ne (Nat.ne_of_lt lt)]
      exact (hf b hb).1
  done := by
    intro X hP hw hK hc i pins s σ H E I hf st hg
    subst hP hw hK
    obtain ⟨⟨old, he⟩, hit, hne⟩ := st
    obtain ⟨f0, f1, f2, f3, f4, f5⟩ := hf it (by simp)
    have dr := drawn (X := X) (I.ok.hd hc) it z t ty hty
    have hi : i = z.cps.size := hg
    subst hi
    refine wpAny_pyNext_enum_endD dr he hit ?_
    intro h' eb
    exact ⟨rfl, I.turned (t' := s.toks) (fun b o hb q => eb b o hb q) f0 f1 f3 f4 f5⟩
  self := fun A i s Q E st h => by
    obtain ⟨⟨_, he⟩, _⟩ := st
    exact wpAny_pyIter_enum he h
def iEnumS (ta : TA) : TI := fun σ H R => ta σ H fun vs H1 => ∃ z, vs = [.str z] ∧ R (Ites z) H1
theorem pi_enumS {X : Cx} {e : Expr} {ta : TA} {p pos tpos : Pos} {elts : List Expr} {kk : Nat} (hg : Gl X "enumerate") (hm : X.mg "enumerate" = none) (ha : PA X [e] ta) (hs : starEach [e] X.env = [(false, eval e X.env)] := by rfl) :
    PI X (.Tuple elts kk tpos) (.Call (.Name "enumerate" p) [e] [] pos) (iEnumS ta) := by
  constructor
  intro pins s σ H R I h
  refine Call_ (ld_blt I hg hm boot_enumerate (PyProof.Rows.callWith_type1 (thn (ha.run pos pins s σ H _ I h) ?_) hs rfl))
  rintro us s1 ⟨vs, H1, I1, r1, z, rfl, q⟩
  obtain ⟨u, rfl, ru⟩ : ∃ u, us = [u] ∧ RelV (.str z) u := by
    cases r1 with
    | cons r rr =>
      cases rr
      exact ⟨_, rfl, r⟩
  obtain ⟨t, rfl⟩ := ru
  refine call_enumerate_str ?_
  intro h' he hit hsz hk
  refine wpAny_pyIter_enum he ?_
  have I2 : Inv X pins σ H1 { s1 with heap := h' } := I1.kept (t' := s1.toks) hk
  have hty : strIterType z = "str_ascii_iterator" ∨ strIterType z = "str_iterator" := by
    unfold strIterType
    split <;> simp
  refine ⟨s1.heap.objs.size + 1, [s1.heap.objs.size + 1, s1.heap.objs.size], _, _, H1, rfl, I2, turn_enumS z t _ hty (s1.heap.objs.size + 1) s1.heap.objs.size, ⟨⟨.none, he⟩, hit, Nat.succ_ne_self _⟩, fun b hb => ?_, q⟩
  have two : b = s1.heap.objs.size + 1 ∨ b = s1.heap.objs.size := by simpa using hb
  have hle : s1.heap.objs.size ≤ b := by
    cases two with
    | inl y => rw [y]; exact Nat.le_add_right _ _
    | inr y => rw [y]; exact Nat.le_refl _
  exact I1.fpOk hle (I1.hok.fresh hle)
end SL
set_option Elab.async false
set_option linter.all false
set_option maxRecDepth 100000
set_option maxHeartbeats 4000000
/-! SlD: operators whatever the values are, and each reading's step (w_..), to be taken from the left. -/
namespace SL
open PySem PySem.Spec PyProof.Rows L2
abbrev SSt := L2.St

/-! ### heaps -/
/-- all but p stands -/
def Fr (p : Addr) (H H' : Hp) : Prop := ∀ b o, H b = some o → b ≠ p → H' b = some o
theorem Fr.refl (p : Addr) (H : Hp) : Fr p H H := fun _ _ h _ => h
theorem Fr.trans {p : Addr} {H H1 H2 : Hp} (a : Fr p H H1) (b : Fr p H1 H2) : Fr p H H2 := fun c o h n => b c o (a c o h n) n
theorem Fr.of {p : Addr} {H H' : Hp} (a : Same H H') : Fr p H H' := fun c o h _ => a c o h
theorem Fr.put {p : Addr} {H H' : Hp} {o : HO} (a : Fr p H H') : Fr p H (upd H' p o) := fun c u h n => by rw [upd_ne n]; exact a c u h n
theorem Fr.new {p q : Addr} {H H' : Hp} {o : HO} (a : Fr p H H') (hq : H' q = none) (hp : ∃ u, H p = some u) : Fr p H (upd H' q o) := fun c u h n => by
  have n2 : c ≠ q := ne_of_none (a c u h n) hq
  rw [upd_ne n2]
  exact a c u h n
theorem Same.new {q : Addr} {H H' : Hp} {o : HO} (a : Same H H') (hq : H' q = none) : Same H (upd H' q o) := fun c u h => by
  rw [upd_ne (ne_of_none (a c u h) hq)]
  exact a c u h
theorem same_new {q : Addr} {H : Hp} {o : HO} (hq : H q = none) : Same H (upd H q o) := Same.new (Same.refl H) hq
/-- a new list that grows -/
theorem Same.grow {q : Addr} {H H' : Hp} {o : HO} (a : Same H H') (hq : H q = none) : Same H (upd H' q o) := fun c u h => by
  rw [upd_ne (ne_of_none h hq)]
  exact a c u h
theorem Same.none {H H' : Hp} {q : Addr} (a : Same H H') (hq : H' q = none) : H q = none := a.free hq
theorem rd_new {H : Hp} {a p : Addr} {o u : HO} (hp : H p = none) (h : Rd H a u) : Rd (upd H p o) a u := by
  rcases h with h | ⟨x, h⟩
  · exact .inl (by rw [upd_ne (ne_of_none h hp)]; exact h)
  · exact .inr ⟨x, by rw [upd_ne (ne_of_none h hp)]; exact h⟩
theorem sql_new {K : PySem.W.Frag} {H : Hp} {a p : Addr} {o : HO} {xs : List V} (hp : H p = none) (h : SqL K H a xs) : SqL K (upd H p o) a xs := by
  rcases h with h | h
  · exact .inl (rd_new hp h)
  · exact .inr h
theorem sqt_new {K : PySem.W.Frag} {H : Hp} {a p : Addr} {o : HO} {xs : List V} (hp : H p = none) (h : SqT K H a xs) : SqT K (upd H p o) a xs := by
  rcases h with h | h
  · exact .inl (rd_new hp h)
  · exact .inr h
theorem sql_upd {K : PySem.W.Frag} {H : Hp} {a p : Addr} {o : HO} {xs : List V} (n : a ≠ p) (h : SqL K H a xs) : SqL K (upd H p o) a xs := by
  rcases h with (h | ⟨x, h⟩) | h
  · exact .inl (.inl (by rw [upd_ne n]; exact h))
  · exact .inl (.inr ⟨x, by rw [upd_ne n]; exact h⟩)
  · exact .inr h
theorem sqt_upd {K : PySem.W.Frag} {H : Hp} {a p : Addr} {o : HO} {xs : List V} (n : a ≠ p) (h : SqT K H a xs) : SqT K (upd H p o) a xs := by
  rcases h with (h | ⟨x, h⟩) | h
  · exact .inl (.inl (by rw [upd_ne n]; exact h))
  · exact .inl (.inr ⟨x, by rw [upd_ne n]; exact h⟩)
  · exact .inr h
theorem Same.seqT {K : PySem.W.Frag} {H H' : Hp} {a : Addr} {xs : List V} (e : Same H H') (h : SqT K H a xs) : SqT K H' a xs := by
  rcases h with (h | ⟨o, h⟩) | h
  · exact .inl (.inl (e _ _ h))
  · exact .inl (.inr ⟨o, e _ _ h⟩)
  · exact .inr h

/-! ### operators -/
def rAddU (K : PySem.W.Frag) : R2 := fun x y H Q => (∃ i j, x = .int i ∧ y = .int j ∧ Q (.int (i + j)) H) ∨ (∃ i j, x = .str i ∧ y = .str j ∧ i.length + j.length ≤ sizeLine ∧ Q (.str (i ++ j)) H) ∨ rCat x y H Q ∨ rCatA K x y H Q
theorem uAdd {X : Cx} : OpR X (binaryOp .Add) (rAddU X.K) := op_add.or (op_add_str.or (op_cat.or op_catA))
def rMulU : R2 := fun x y H Q => (∃ i j, x = .int i ∧ y = .int j ∧ CMul i j ∧ Q (.int (i * j)) H) ∨ rMulS x y H Q
theorem uMul {X : Cx} : OpR X (binaryOp .Mult) rMulU := op_mul.or op_mulS
def rSubU : R2 := fun x y H Q => ∃ i j, x = .int i ∧ y = .int j ∧ Q (.int (i - j)) H
theorem uSub {X : Cx} : OpR X (binaryOp .Sub) rSubU := op_sub
def rModU : R2 := fun x y H Q => ∃ i j, x = .int i ∧ y = .int j ∧ 0 < j ∧ Q (.int (i % j)) H
theorem uMod {X : Cx} : OpR X (binaryOp .Mod) rModU := op_mod
def rDivU : R2 := fun x y H Q => ∃ i j, x = .int i ∧ y = .int j ∧ CDiv i j ∧ Q (.int (i / j)) H
theorem uDiv {X : Cx} : OpR X (binaryOp .FloorDiv) rDivU := op_fdiv
def rPowU : R2 := fun x y H Q => ∃ i j, x = .int i ∧ y = .int j ∧ CPow i j ∧ Q (.int (i ^ j.toNat)) H
theorem uPow {X : Cx} : OpR X (binaryOp .Pow) rPowU := op_pow
def rLtU : R2 := fun x y H Q => ∃ i j, x = .int i ∧ y = .int j ∧ Q (.bl (decide (i < j))) H
theorem uLt {X : Cx} : OpR X (compareOp .Lt) rLtU := op_lt
def rLeU : R2 := fun x y H Q => ∃ i j, x = .int i ∧ y = .int j ∧ Q (.bl (decide (i ≤ j))) H
theorem uLe {X : Cx} : OpR X (compareOp .LtE) rLeU := op_le
def rGtU : R2 := fun x y H Q => ∃ i j, x = .int i ∧ y = .int j ∧ Q (.bl (decide (j < i))) H
theorem uGt {X : Cx} : OpR X (compareOp .Gt) rGtU := op_gt
def rGeU : R2 := fun x y H Q => ∃ i j, x = .int i ∧ y = .int j ∧ Q (.bl (decide (j ≤ i))) H
theorem uGe {X : Cx} : OpR X (compareOp .GtE) rGeU := op_ge
def rEqU (K : PySem.W.Frag) : R2 := fun x y H Q => rEq x y H Q ∨ rEqD K x y H Q
theorem uEq {X : Cx} {k : Nat} (hr : Room k X.A) : OpR X (compareOp .Eq) (rEqU X.K) := op_eq.or (op_eqD hr.units)
def rNeU (K : PySem.W.Frag) : R2 := fun x y H Q => rNe x y H Q ∨ rNeD K x y H Q
theorem uNe {X : Cx} {k : Nat} (hr : Room k X.A) : OpR X (compareOp .NotEq) (rNeU X.K) := op_ne.or (op_neD hr.units)
def rInU (K : PySem.W.Frag) : R2 := fun x y H Q => (∃ (c : Nat) (z : Str), x = .str ⟨#[c]⟩ ∧ y = .str z ∧ Q (.bl (decide (c ∈ z.cps.toList))) H) ∨ rIn K false x y H Q
theorem uIn {X : Cx} : OpR X (compareOp .In) (rInU X.K) := op_in_sign.or op_in_seq
def rSlU (K : PySem.W.Frag) : V → Option Int → Option Int → Hp → VK → Prop := fun x lo hi H Q => rSlL K x lo hi H Q ∨ rSlS x lo hi H Q ∨ rSlA K x lo hi H Q
theorem uSl {X : Cx} : SlR X (rSlU X.K) := sl_list.or (sl_str.or sl_tupA)
/-- a written text, by its signs -/
theorem pe_tx {X : Cx} {x : Str} {j : Nat} {pos : Pos} (l : List Nat) (h : x = tx l) : PE X (.Constant (.str x) j pos) (tC (.str (tx l))) := by
  rw [h]
  exact pe_str

/-! ### the steps -/
section
variable {K : PySem.W.Frag} {σ : SSt} {H : Hp} {Q : VK} {D : Ends} {ta tb tc te to : TE} {t tr tk : TA} {tt tu : TT} {t1 t2 : TS} {r : R2} {i j k : Int} {n m : Nat} {b c : Bool} {v w : V} {l z : List Nat} {p q a : Addr} {xs ys zs : List V} {sp : Sp} {E : SSt → XK}
theorem w_var (h : σ[n]? = some (some v)) (q : Q v H) : tVar n σ H Q := ⟨v, h, q⟩
theorem w_c (q : Q v H) : tC v σ H Q := q
theorem w_op (q : ta σ H fun x H1 => tb σ H1 fun y H2 => r x y H2 Q) : tOp r ta tb σ H Q := q
theorem w_un {u : V → Hp → VK → Prop} (q : ta σ H fun x H1 => u x H1 Q) : tUn u ta σ H Q := q
theorem w_neg (q : Q (.int (-i)) H) : rU (fun i => .int (-i)) (.int i) H Q := ⟨i, rfl, q⟩
theorem w_nil {Q : List V → Hp → Prop} (q : Q [] H) : tNil σ H Q := q
theorem w_cons {Q : List V → Hp → Prop} (q : ta σ H fun x H1 => tr σ H1 fun xs H2 => Q (x :: xs) H2) : tCons ta tr σ H Q := q
theorem w_call (q : t σ H fun vs H1 => sp vs H1 Q (E σ)) : tCallS sp E t σ H Q := q
theorem w_cb {u : List V → Hp → VK → Prop} (q : t σ H fun vs H1 => u vs H1 Q) : tCB u t σ H Q := q
theorem w_bm {T : String} {u : V → List V → Hp → VK → Prop} (q : to σ H fun x H1 => tyV K T x H1 ∧ t σ H1 fun xs H2 => u x xs H2 Q) : tBM K T u to t σ H Q := q
theorem w_bm0 {T : String} {u : V → List V → Hp → VK → Prop} (q : to σ H fun x H1 => tyV K T x H1 ∧ u x [] H1 Q) : tBM0 K T u to σ H Q := q
theorem w_m1 {u : V → List V → Hp → VK → Prop} (q : to σ H fun x H1 => (∃ a, x = .str a) ∧ te σ H1 fun y H2 => u x [y] H2 Q) : tM1 u to te σ H Q := q
theorem w_test {Q : Bool → Hp → Prop} (q : te σ H fun x H' => ∃ k, x = .bl k ∧ Q k H') : tTest te σ H Q := q
theorem w_B {Q : Bool → Hp → Prop} (q : te σ H fun x H' => ∃ k, x = .bl k ∧ Q k H') : tB te σ H Q := q
theorem w_k {Q : Bool → Prop} (q : Q b) : ∃ k, V.bl b = .bl k ∧ Q k := ⟨b, rfl, q⟩
theorem w_and {Q : Bool → Hp → Prop} (q : tt σ H fun c H1 => if c = true then tu σ H1 Q else Q false H1) : tAnd tt tu σ H Q := q
theorem w_or {Q : Bool → Hp → Prop} (q : tt σ H fun c H1 => if c = true then Q true H1 else tu σ H1 Q) : tOr tt tu σ H Q := q
theorem w_not {Q : Bool → Hp → Prop} (q : tt σ H fun c H1 => Q (!c) H1) : tNot tt σ H Q := q
theorem w_andV (q : ta σ H fun x H1 => ∃ c, x = .bl c ∧ if c = true then tb σ H1 Q else Q (.bl false) H1) : tAndV ta tb σ H Q := q
theorem w_orV (q : ta σ H fun x H1 => ∃ c, x = .bl c ∧ if c = true then Q (.bl true) H1 else tb σ H1 Q) : tOrV ta tb σ H Q := q
theorem w_notV (q : ta σ H fun x H1 => ∃ c, x = .bl c ∧ Q (.bl (!c)) H1) : tNotV ta σ H Q := q
theorem w_ifE (q : tt σ H fun c H1 => if c = true then ta σ H1 Q else tb σ H1 Q) : tIf tt ta tb σ H Q := q
theorem w_tup (q : t σ H fun xs H1 => xs.length ≤ sizeLine ∧ ∀ p, H1 p = none → Q (.ref p) (upd H1 p (.tup xs))) : tTup t σ H Q := q
theorem w_lst (q : t σ H fun xs H1 => xs.length ≤ sizeLine ∧ ∀ p, H1 p = none → Q (.ref p) (upd H1 p (.lst xs))) : tLst t σ H Q := q
theorem w_chain {r' : R2} (q : ta σ H fun x H1 => tb σ H1 fun y H2 => r x y H2 fun z H3 => ∃ k, z = .bl k ∧ (if k = true then tc σ H3 fun w' H4 => r' y w' H4 Q else Q (.bl false) H3)) : tChain r r' ta tb tc σ H Q := q
theorem w_sl {u : V → Option Int → Option Int → Hp → VK → Prop} {tl th : TO} (q : te σ H fun x H1 => tl σ H1 fun lo H2 => th σ H2 fun hi H3 => u x lo hi H3 Q) : tSl u te tl th σ H Q := q
theorem w_np {Q : Option Int → Hp → Prop} (q : Q none H) : tNoPart σ H Q := q
theorem w_part {Q : Option Int → Hp → Prop} (q : te σ H fun x H1 => ∃ i, x = .int i ∧ Q (some i) H1) : tPart te σ H Q := q
theorem w_i {Q : Int → Prop} (q : Q i) : ∃ k, V.int i = .int k ∧ Q k := ⟨i, rfl, q⟩
/-! statements -/
theorem w_seq (q : t1 { D with nx := t2 D } σ H) : tSeq t1 t2 D σ H := q
theorem w_next (q : D.nx σ H) : tNext D σ H := q
theorem w_brk (q : D.bk σ H) : tBreak D σ H := q
theorem w_cont (q : D.ct σ H) : tCont D σ H := q
theorem w_asg {g : TG} (q : te σ H fun x H1 => g x σ H1 D.nx) : tAsg te g D σ H := q
theorem w_name {Q : SSt → Hp → Prop} (q : Q (σ.set n (some v)) H) : gName n v σ H Q := q
theorem w_par {t : TA} (q : t σ H fun vs H1 => ∃ v w, vs = [v, w] ∧ D.nx ((σ.set n (some v)).set m (some w)) H1) : tPar n m t D σ H := q
theorem w_two {Q : V → V → Prop} (q : Q v w) : ∃ x y, [v, w] = [x, y] ∧ Q x y := ⟨v, w, rfl, q⟩
theorem w_ret (q : te σ H D.rt) : tRet te D σ H := q
theorem w_retN (q : D.rt .non H) : tRetN D σ H := q
theorem w_drop (q : te σ H fun _ H1 => D.nx σ H1) : tDrop te D σ H := q
theorem w_ifS (q : tt σ H fun b H1 => if b = true then t1 D σ H1 else t2 D σ H1) : tIfS tt t1 t2 D σ H := q
theorem w_gtup {tg : TGs} {Q : SSt → Hp → Prop} (q : ∃ a xs, v = .ref a ∧ SqT K H a xs ∧ xs.length = n ∧ tg xs σ H Q) : gTup K n tg v σ H Q := q
theorem w_gnil {Q : SSt → Hp → Prop} (q : Q σ H) : gNil [] σ H Q := ⟨rfl, q⟩
theorem w_gcons {g : TG} {gs : TGs} {Q : SSt → Hp → Prop} (q : g v σ H fun σ' H' => gs xs σ' H' Q) : gCons g gs (v :: xs) σ H Q := ⟨v, xs, rfl, q⟩
theorem w_sub {ti : TE} {s : TSet} {Q : SSt → Hp → Prop} (q : to σ H fun o H1 => ti σ H1 fun i H2 => s o i v H2 fun H3 => Q σ H3) : gSub to ti s v σ H Q := q
theorem w_aug {ti : TIp} (h : σ[n]? = some (some v)) (q : te σ H fun y H1 => ti v y H1 fun z H2 => D.nx (σ.set n (some z)) H2) : tAug n te ti D σ H := ⟨v, h, q⟩
/-! values -/
theorem w_addI (q : Q (.int (i + j)) H) : rAddU K (.int i) (.int j) H Q := .inl ⟨i, j, rfl, rfl, q⟩
theorem w_addS (q : Q (.str (tx (l ++ z))) H) (h : l.length + z.length ≤ 16777216) : rAddU K (.str (tx l)) (.str (tx z)) H Q :=
  .inr (.inl ⟨tx l, tx z, rfl, rfl, by rw [tx_len, tx_len, sizeLine_eq]; exact h, by rw [tx_app]; exact q⟩)
theorem w_addL (h1 : H p = some (.lst xs)) (h2 : H q = some (.lst ys)) (h : xs.length + ys.length ≤ 16777216) (k : ∀ a, H a = none → Q (.ref a) (upd H a (.lst (xs ++ ys)))) : rAddU K (.ref p) (.ref q) H Q :=
  .inr (.inr (.inl ⟨p, q, xs, ys, rfl, rfl, h1, h2, by rw [sizeLine_eq]; exact h, k⟩))
theorem w_mulI (q : Q (.int (i * j)) H) (h : CMul i j) : rMulU (.int i) (.int j) H Q := .inl ⟨i, j, rfl, rfl, h, q⟩
theorem w_mulS (q : Q (.str (tx (List.replicate i.toNat l).flatten)) H) (h : i ≤ 1000000 ∧ -1000000 ≤ i ∧ l.length ≤ 1000000 ∧ l.length * i.toNat ≤ 16777216) : rMulU (.str (tx l)) (.int i) H Q :=
  .inr ⟨l, i, rfl, rfl, h.1, h.2.1, h.2.2.1, h.2.2.2, q⟩
theorem w_subI (q : Q (.int (i - j)) H) : rSubU (.int i) (.int j) H Q := ⟨i, j, rfl, rfl, q⟩
theorem w_modI (q : Q (.int (i % j)) H) (h : 0 < j) : rModU (.int i) (.int j) H Q := ⟨i, j, rfl, rfl, h, q⟩
theorem w_divI (q : Q (.int (i / j)) H) (h : 0 < j ∧ j < 1073741824) : rDivU (.int i) (.int j) H Q := ⟨i, j, rfl, rfl, h, q⟩
theorem w_powI (q : Q (.int (i ^ j.toNat)) H) (h : 0 ≤ j ∧ j ≤ 1000000 ∧ i.natAbs < 2 ^ 64) : rPowU (.int i) (.int j) H Q := ⟨i, j, rfl, rfl, h, q⟩
theorem w_lt (q : Q (.bl (decide (i < j))) H) : rLtU (.int i) (.int j) H Q := ⟨i, j, rfl, rfl, q⟩
theorem w_le (q : Q (.bl (decide (i ≤ j))) H) : rLeU (.int i) (.int j) H Q := ⟨i, j, rfl, rfl, q⟩
theorem w_gt (q : Q (.bl (decide (j < i))) H) : rGtU (.int i) (.int j) H Q := ⟨i, j, rfl, rfl, q⟩
theorem w_ge (q : Q (.bl (decide (j ≤ i))) H) : rGeU (.int i) (.int j) H Q := ⟨i, j, rfl, rfl, q⟩
theorem w_eqI (q : Q (.bl (decide (i = j))) H) : rEqU K (.int i) (.int j) H Q := .inl ⟨rfl, by
  have e : decide (V.int i = V.int j) = decide (i = j) := decide_eq_decide.mpr ⟨fun h => V.int.inj h, fun h => by rw [h]⟩
  rw [e]; exact q⟩
theorem w_neI (q : Q (.bl (!decide (i = j))) H) : rNeU K (.int i) (.int j) H Q := .inl ⟨rfl, by
  have e : decide (V.int i = V.int j) = decide (i = j) := decide_eq_decide.mpr ⟨fun h => V.int.inj h, fun h => by rw [h]⟩
  rw [e]; exact q⟩
theorem str_dec : decide (V.str (tx l) = V.str (tx z)) = decide (l = z) := decide_eq_decide.mpr ⟨fun h => tx_inj (V.str.inj h), fun h => by rw [h]⟩
theorem w_eqS (q : Q (.bl (decide (l = z))) H) : rEqU K (.str (tx l)) (.str (tx z)) H Q := .inl ⟨rfl, by rw [str_dec]; exact q⟩
theorem w_neS (q : Q (.bl (!decide (l = z))) H) : rNeU K (.str (tx l)) (.str (tx z)) H Q := .inl ⟨rfl, by rw [str_dec]; exact q⟩
theorem w_ixL (h : SqL K H p xs) (hi : atI xs i = some v) (q : Q v H) : rIx K (.ref p) (.int i) H Q := .inl ⟨p, xs, i, v, rfl, rfl, h, hi, q⟩
theorem w_ixT (h : SqT K H p xs) (hi : atI xs i = some v) (q : Q v H) : rIx K (.ref p) (.int i) H Q := .inr (.inl ⟨p, xs, i, v, rfl, rfl, h, hi, q⟩)
theorem w_ixS {c : Nat} (hi : atI l i = some c) (q : Q (.str (tx [c])) H) (h : l.length ≤ 16777216) : rIx K (.str (tx l)) (.int i) H Q :=
  .inr (.inr ⟨tx l, i, c, rfl, rfl, by rw [tx_len, sizeLine_eq]; exact h, hi, q⟩)
theorem w_lenS (q : Q (.int (l.length : Int)) H) (h : l.length ≤ 16777216) : (fun xs H Q => ∃ x n, xs = [x] ∧ LenV K x H n ∧ Q (.int (n : Nat)) H : List V → Hp → VK → Prop) [.str (tx l)] H Q :=
  ⟨_, l.length, rfl, ⟨by rw [tx_len, sizeLine_eq]; exact h, (tx_len l).symm⟩, q⟩
theorem w_lenL (h : SqL K H p xs) (q : Q (.int (xs.length : Int)) H) : (fun xs H Q => ∃ x n, xs = [x] ∧ LenV K x H n ∧ Q (.int (n : Nat)) H : List V → Hp → VK → Prop) [.ref p] H Q :=
  ⟨_, xs.length, rfl, .inl ⟨xs, h, rfl⟩, q⟩
theorem w_lenT (h : SqT K H p xs) (q : Q (.int (xs.length : Int)) H) : (fun xs H Q => ∃ x n, xs = [x] ∧ LenV K x H n ∧ Q (.int (n : Nat)) H : List V → Hp → VK → Prop) [.ref p] H Q :=
  ⟨_, xs.length, rfl, .inr ⟨xs, h, rfl⟩, q⟩
end
end SL
set_option Elab.async false
set_option linter.all false
set_option maxRecDepth 100000
set_option maxHeartbeats 4000000
/-! SlE: the defs of a text, the end of a law, built-ins whatever the values are. -/
namespace SL
open PySem PySem.Spec PyProof.Rows L2
/-- a def of the text stands under its name -/
structure DefAt (K : PySem.W.Frag) (mg : Str → Option Value) (x : Str) (st : Stmt) (ps : List Str) : Prop where
  ex : ∃ (f : Addr) (fd : FuncData), Fun K x x st f fd ∧ mg x = some (.ref f) ∧ ∀ (s : Shared) (us : List Value), us.length = ps.length → BindsTo s fd ⟨us, []⟩ (ps.zip us)
theorem DefAt.of {K : PySem.W.Frag} {mg : Str → Option Value} {x : Str} {st : Stmt} {ps : List Str} (f : Addr) (fd : FuncData) (F : Fun K x x st f fd) (hm : mg x = some (.ref f))
    (hb : ∀ (s : Shared) (us : List Value), us.length = ps.length → BindsTo s fd ⟨us, []⟩ (ps.zip us)) : DefAt K mg x st ps := ⟨⟨f, fd, F, hm, hb⟩⟩
abbrev E0s : SSt → XK := fun _ => E0
theorem noX {X : Cx} : ∀ σ, PassesAt (L2.CX X.prog X.w) X σ (E0s σ) := fun σ _ _ _ _ _ _ h => by
  obtain ⟨_, _, _, _, _, _, _, _, _, _, _, _, z⟩ := h
  exact z.elim
section
variable {P : Program} {w : World} {K : PySem.W.Frag} {mg : Str → Option Value} {base : Heap} {x : Str} {st : Stmt} {N ps : List Str} {k : Nat} {sp : Sp}
theorem fn0 {f : Addr} {fd : FuncData} (F : Fun K x x st f fd) (S : FnScope N ps (defScope st)) (len : ∀ vs H Q E, sp vs H Q E → vs.length = ps.length)
    (hbody : ∀ (cdv : Value) (f : Addr) (A : Around) (outer : List Env) (s : Shared) (H : Hp) (vs : List V) (Q : VK) (E : XK),
      Room k (A.deeper (envOfC x (defScope st) s.heap.objs.size f cdv)) → (A.deeper (envOfC x (defScope st) s.heap.objs.size f cdv)).guards = some [] → sp vs H Q E →
      ∃ t, PSs (cxOf (L2.CX P w) P w K mg base N x (defScope st) f cdv A outer s H E).nox (defBody st) t ∧ t { nx := fun _ H' => Q .non H', rt := Q } (start N vs) H) : FnG P w K mg base (k + 1) f fd ps sp :=
  fnG_of F S len fun cdv A outer s H vs Q E hr hg h => by
    obtain ⟨t, h1, h2⟩ := hbody cdv f A outer s H vs Q E hr hg h
    exact ⟨t, h1.nox, h2⟩
/-- a def that lets nothing out -/
theorem cal0 (D : DefAt K mg x st ps) (S : FnScope N ps (defScope st)) (len : ∀ vs H Q E, sp vs H Q E → vs.length = ps.length)
    (hbody : ∀ (cdv : Value) (f : Addr) (A : Around) (outer : List Env) (s : Shared) (H : Hp) (vs : List V) (Q : VK) (E : XK),
      Room k (A.deeper (envOfC x (defScope st) s.heap.objs.size f cdv)) → (A.deeper (envOfC x (defScope st) s.heap.objs.size f cdv)).guards = some [] → sp vs H Q E →
      ∃ t, PSs (cxOf (L2.CX P w) P w K mg base N x (defScope st) f cdv A outer s H E).nox (defBody st) t ∧ t { nx := fun _ H' => Q .non H', rt := Q } (start N vs) H) : Cal P w K mg base (k + 1) x ps sp := by
  obtain ⟨f, fd, F, hm, hb⟩ := D.ex
  exact ⟨f, fd, fn0 F S len hbody, hm, F.kp, hb⟩
/-- a def that may raise -/
theorem calX (D : DefAt K mg x st ps) (S : FnScope N ps (defScope st)) (len : ∀ vs H Q E, sp vs H Q E → vs.length = ps.length)
    (hbody : ∀ (cdv : Value) (f : Addr) (A : Around) (outer : List Env) (s : Shared) (H : Hp) (vs : List V) (Q : VK) (E : XK),
      Room k (A.deeper (envOfC x (defScope st) s.heap.objs.size f cdv)) → (A.deeper (envOfC x (defScope st) s.heap.objs.size f cdv)).guards = some [] → sp vs H Q E →
      ∃ t, PSs (cxOf (L2.CX P w) P w K mg base N x (defScope st) f cdv A outer s H E) (defBody st) t ∧ t { nx := fun _ H' => Q .non H', rt := Q } (start N vs) H) : Cal P w K mg base (k + 1) x ps sp := by
  obtain ⟨f, fd, F, hm, hb⟩ := D.ex
  exact ⟨f, fd, fnG_of F S len fun cdv A outer s H vs Q E hr hg h => hbody cdv f A outer s H vs Q E hr hg h, hm, F.kp, hb⟩
end

/-! ### the end of a law -/
/-- the law's call, from the heap behind the top; H tracks nothing but the script -/
theorem law_enter {P : Program} {w : World} {K : PySem.W.Frag} {mg mb : Str → Option Value} {k : Nat} {fa a : Addr} {fd : FuncData} {x : Str} {sp : Sp} {s₁ : Shared} {vs : List Value} {H : Hp}
    (KX : K.In s₁.heap) (hns : s₁.heap.Ns mainGlobals mg) (hb : s₁.heap.Ns builtinsNs mb) (hbb : ∀ x : Str, x ≠ "__name__" → mb x = bootBuiltins x) (hlim : s₁.heap.NoLimit) (hg : s₁.gens = #[])
    (ha : s₁.heap.get? a = some { cls := .type "list", data := .seq vs.toArray }) (hr : Room k callerA)
    (F : ∀ base : Heap, K.In base → base.Ns mainGlobals mg → FnG P w K mg base k fa fd [x] sp) (hbind : ∀ (s : Shared) (u : Value), BindsTo s fd ⟨[u], []⟩ [(x, u)])
    (hO : Only H) (hok : HOk P w H s₁.heap) (hA : ∀ b, H b ≠ none → b = a) (hK : H a ≠ none → K.lookup a = none)
    (hsp : sp [.ref a] H (fun v _ => v = .bl true) fun _ _ _ => False) :
    codeAny (model P w) callerA (.call (.ref fa) ⟨[.ref a], []⟩) (fun r s' => r = .ok (.ret (.bool true)) ∧ OldK s₁.heap s'.heap ∧ s'.os = s₁.os ∧ AllBare s'.gens) s₁ := by
  have only : ∀ b, H b = none ∨ b = a := fun b => by
    cases q : H b with
    | none => exact Or.inl rfl
    | some _ => exact Or.inr (hA b (by rw [q]; exact Option.some_ne_none _))
  have hid : ∀ {b : Addr} {o : Obj}, s₁.heap.get? b = some o → H b = none → (hidT s₁.heap H).get? b = some o := fun e n => hidT_get e n
  have notDict : ∀ {b : Addr} {o : Obj} {es : Array DictEntry} {ep : Nat}, s₁.heap.get? b = some o → o.data = .dict es ep → H b = none := fun {b o es ep} e d => by
    rcases only b with q | q
    · exact q
    · rw [q, ha] at e
      cases e
      cases (show Data.seq vs.toArray _ = Data.dict es ep from d)
  have keepNs : ∀ {b : Addr} {m : Str → Option Value}, s₁.heap.Ns b m → (hidT s₁.heap H).Ns b m := fun {b m} ⟨o, es, ep, e, d, r⟩ => ⟨o, es, ep, hid e (notDict e d), d, r⟩
  have kb : K.In (hidT s₁.heap H) := fun b o e => hid (KX b o e) (by
    rcases only b with q | q
    · exact q
    · cases z : H b with
      | none => rfl
      | some u =>
        rw [q] at z e
        rw [hK (by rw [z]; exact Option.some_ne_none _)] at e
        cases e)
  have lim : (hidT s₁.heap H).NoLimit := by
    obtain ⟨mc, h1, h2⟩ := hlim
    exact ⟨mc, keepNs h1, h2⟩
  have md : Mod K mg (hidT s₁.heap H) := ⟨kb, keepNs hns, ⟨mb, keepNs hb, hbb⟩, lim⟩
  have e0 : Env0 P w K mg (hidT s₁.heap H) callerA [] s₁ H :=
    ⟨rfl, md, fun b o e => of_hidT e, Nat.le_of_eq (hidT_size _ _), trivial, fun b z => absurd (show b ∈ ([] : List Addr) from z) List.not_mem_nil, hok, AllBare.of_eq hg⟩
  refine codeAny_mono ((F _ kb (keepNs hns)).run callerA [] s₁ H ⟨[.ref a], []⟩ [.ref a] [.ref a] _ _ hr rfl e0 (hbind s₁ (.ref a)) (.cons rfl .nil) hsp) ?_
  intro r s' h
  match r, h with
  | .error e, h =>
    obtain ⟨_, _, _, _, _, _, _, _, _, _, _, _, z⟩ := h
    exact z.elim
  | .ok (.ret u), ⟨v, H', os, bare, un, hok', r', q⟩ =>
    have q' : v = .bl true := q
    subst q'
    obtain rfl : u = Value.bool true := r'
    refine ⟨rfl, OldK.of_keep fun b o e => ?_, os, bare⟩
    cases z : H b with
    | none => exact un.keep b o e z (fun y => absurd (show b ∈ ([] : List Addr) from y) List.not_mem_nil) List.not_mem_nil
    | some u =>
      rcases hO b with y | ⟨ob, xs, y⟩
      · rw [z] at y
        cases y
      · obtain ⟨e1, _⟩ := hok b _ y
        obtain ⟨e2, _⟩ := hok' b _ (un.frzs b ob _ y)
        rw [e] at e1
        cases e1
        exact e2
theorem law_any {P : Program} {w : World} {K : PySem.W.Frag} {mg mb : Str → Option Value} {k : Nat} {fa a : Addr} {fd : FuncData} {x : Str} {sp : Sp} {s₁ : Shared} {vs : List Value} {ns : List Int}
    (KX : K.In s₁.heap) (hns : s₁.heap.Ns mainGlobals mg) (hb : s₁.heap.Ns builtinsNs mb) (hbb : ∀ x : Str, x ≠ "__name__" → mb x = bootBuiltins x) (hlim : s₁.heap.NoLimit) (hg : s₁.gens = #[])
    (ha : s₁.heap.get? a = some { cls := .type "list", data := .seq vs.toArray }) (hi : IntsAre vs ns) (hl : ns.length ≤ sizeLine) (hr : Room k callerA)
    (F : ∀ base : Heap, K.In base → base.Ns mainGlobals mg → FnG P w K mg base k fa fd [x] sp) (hbind : ∀ (s : Shared) (u : Value), BindsTo s fd ⟨[u], []⟩ [(x, u)])
    (hsp : ∀ H : Hp, Only H → SqL K H a (ns.map V.int) → sp [.ref a] H (fun v _ => v = .bl true) fun _ _ _ => False) :
    codeAny (model P w) callerA (.call (.ref fa) ⟨[.ref a], []⟩) (fun r s' => r = .ok (.ret (.bool true)) ∧ OldK s₁.heap s'.heap ∧ s'.os = s₁.os ∧ AllBare s'.gens) s₁ := by
  have rv := vals_ints hi
  have lenV := hi.length
  cases hk : K.lookup a with
  | some o =>
    have e := KX a o hk
    rw [ha] at e
    cases e
    have hO : Only (fun _ => none) := fun _ => Or.inl rfl
    refine law_enter (H := fun _ => none) KX hns hb hbb hlim hg ha hr F hbind hO (fun b u z => nomatch z) (fun b z => absurd rfl z) (fun z => absurd rfl z) (hsp _ hO (Or.inr ⟨_, vs.toArray, _, hk, rfl, rfl, rfl, ?_, by simpa using rv⟩))
    rw [List.size_toArray, lenV]
    exact hl
  | none =>
    have at_a : (fun b => if b = a then some (HO.frz { cls := .type "list", data := .seq vs.toArray } (.lst (ns.map V.int))) else none : Hp) a = some (HO.frz { cls := .type "list", data := .seq vs.toArray } (.lst (ns.map V.int))) := if_pos rfl
    have off_a : ∀ b, b ≠ a → (fun b => if b = a then some (HO.frz { cls := .type "list", data := .seq vs.toArray } (.lst (ns.map V.int))) else none : Hp) b = none := fun b hb => if_neg hb
    have hO : Only (fun b => if b = a then some (HO.frz { cls := .type "list", data := .seq vs.toArray } (.lst (ns.map V.int))) else none) := fun b => by
      by_cases hb : b = a
      · subst hb
        exact Or.inr ⟨_, _, at_a⟩
      · exact Or.inl (off_a b hb)
    refine law_enter KX hns hb hbb hlim hg ha hr F hbind hO (fun b u z => ?_) (fun b z => ?_) (fun _ => hk) (hsp _ hO (Or.inl (Or.inr ⟨_, at_a⟩)))
    · by_cases hb : b = a
      · subst hb
        have z2 := Option.some.inj (at_a.symm.trans z)
        subst z2
        exact ⟨ha, by rw [List.length_map]; exact hl, vs, _, rv, ha⟩
      · cases (off_a b hb).symm.trans z
    · by_cases hb : b = a
      · exact hb
      · exact absurd (off_a b hb) z
theorem walk_g {l : PySem.W.OpenLaw} {n k : Nat} {q : Program} {loose : List Str} {XP : (Str → Option Value) → Heap → Prop} {YP : World → Heap → Prop} {d : DefRec} {K : Params → PySem.W.Frag} {sp : PySem.W.Frag → Sp} {x : Str}
    (hn : l.most = some n) (hn2 : n ≤ sizeLine) (hdf : d.params.defaults = []) (hr : Room k callerA)
    (hY : ∀ (w : World) (h : Heap), YP w h → (K w.params).In h)
    (F : ∀ (w : World) (mg : Str → Option Value) (fa : Addr) (h : Heap), (K w.params).In h → h.Ns mainGlobals mg → mg d.name = some (.ref fa) →
      ∃ fd : FuncData, (∀ (s : Shared) (u : Value), BindsTo s fd ⟨[u], []⟩ [(x, u)]) ∧
        ∀ base : Heap, (K w.params).In base → base.Ns mainGlobals mg → FnG l.prog w (K w.params) mg base k fa fd [x] (sp (K w.params)))
    (hsp : ∀ (K : PySem.W.Frag) (H : Hp) (a : Addr) (ns : List Int), ns.length ≤ n → Only H → SqL K H a (ns.map V.int) → sp K [.ref a] H (fun v _ => v = .bl true) fun _ _ _ => False) :
    PySem.W.WalkO q loose XP YP l.row.toRowW d [] (fun f vs => PySem.call f vs) := by
  refine Att.attach_call hn hdf ?_
  intro w s₀ s₁ mg mb fa o pm cd doc a vs ns G Y ho hd hcd hmg hobj hints hlen hg
  have KX := hY w _ Y
  obtain ⟨fd, hb, hF⟩ := F w mg fa _ KX G.T.g hmg
  exact law_any KX G.T.g G.T.b G.T.builtins G.T.nolimit hg hobj hints (Nat.le_trans hlen hn2) hr hF hb fun H hO hS => hsp _ H a ns hlen hO hS

/-! ### built-ins -/
section
variable {X : Cx}
def rLenU (K : PySem.W.Frag) : List V → Hp → VK → Prop := fun xs H Q => ∃ x n, xs = [x] ∧ LenV K x H n ∧ Q (.int n) H
theorem uLen : CallR X (.builtin "len") (rLenU X.K) := call_len
def rAbsU : List V → Hp → VK → Prop := fun xs H Q => ∃ i, xs = [.int i] ∧ Q (.int (if i < 0 then -i else i)) H
theorem uAbs : CallR X (.builtin "abs") rAbsU := call_abs
def rIntU : List V → Hp → VK → Prop := fun xs H Q => (∃ i, xs = [.int i] ∧ Q (.int i) H) ∨ ∃ k, xs = [.bl k] ∧ Q (.int (if k then 1 else 0)) H
theorem uInt : CallR X (.type "int") rIntU := call_int1
theorem uIsi : CallR X (.builtin "isinstance") (rIsi X.K) := call_isi
theorem uIsiT : CallR X (.builtin "isinstance") (rIsiT X.K) := call_isiT
def rMin2U : List V → Hp → VK → Prop := fun xs H Q => ∃ i j, xs = [.int i, .int j] ∧ Q (.int (if j < i then j else i)) H
theorem uMin2 (hc : X.calm = true) : CallR X (.builtin "min") rMin2U := call_min2 hc
def rMax2U : List V → Hp → VK → Prop := fun xs H Q => ∃ i j, xs = [.int i, .int j] ∧ Q (.int (if j > i then j else i)) H
theorem uMax2 (hc : X.calm = true) : CallR X (.builtin "max") rMax2U := call_max2 hc
def rMin3U : List V → Hp → VK → Prop := fun xs H Q => ∃ i j k, xs = [.int i, .int j, .int k] ∧ Q (.int (min (min i j) k)) H
theorem uMin3 (hc : X.calm = true) : CallR X (.builtin "min") rMin3U := call_min3I hc
def rListU (K : PySem.W.Frag) : List V → Hp → VK → Prop := fun xs H Q => ∃ p ys, xs = [.ref p] ∧ (SqL K H p ys ∨ SqT K H p ys) ∧ ∀ l, H l = none → Q (.ref l) (upd H l (.lst ys))
theorem uList : CallR X (.type "list") (rListU X.K) := call_list_of
def rReprI : List V → Hp → VK → Prop := fun xs H Q => ∃ i, xs = [.int i] ∧ i.natAbs.log2 < 1920 ∧ Q (.str (toString i)) H
theorem uReprI : CallR X (.builtin "repr") rReprI := SkE.call_repr_int
section
variable {K : PySem.W.Frag} {H : Hp} {Q : VK} {i j k : Int} {v : V} {b : Bool} {l : List Nat} {p : Addr} {xs : List V} {ns : List Int} {n : String}
theorem w_lenS' (q : Q (.int (l.length : Int)) H) (h : l.length ≤ 16777216) : rLenU K [.str (tx l)] H Q := ⟨_, l.length, rfl, ⟨by rw [tx_len, sizeLine_eq]; exact h, (tx_len l).symm⟩, q⟩
theorem w_lenL' (h : SqL K H p xs) (q : Q (.int (xs.length : Int)) H) : rLenU K [.ref p] H Q := ⟨_, xs.length, rfl, .inl ⟨xs, h, rfl⟩, q⟩
theorem w_lenT' (h : SqT K H p xs) (q : Q (.int (xs.length : Int)) H) : rLenU K [.ref p] H Q := ⟨_, xs.length, rfl, .inr ⟨xs, h, rfl⟩, q⟩
theorem w_abs (q : Q (.int (if i < 0 then -i else i)) H) : rAbsU [.int i] H Q := ⟨i, rfl, q⟩
theorem w_int (q : Q (.int i) H) : rIntU [.int i] H Q := .inl ⟨i, rfl, q⟩
theorem w_intB (q : Q (.int (if b then 1 else 0)) H) : rIntU [.bl b] H Q := .inr ⟨b, rfl, q⟩
theorem w_min2 (q : Q (.int (if j < i then j else i)) H) : rMin2U [.int i, .int j] H Q := ⟨i, j, rfl, q⟩
theorem w_max2 (q : Q (.int (if j > i then j else i)) H) : rMax2U [.int i, .int j] H Q := ⟨i, j, rfl, q⟩
theorem w_min3 (q : Q (.int (min (min i j) k)) H) : rMin3U [.int i, .int j, .int k] H Q := ⟨i, j, k, rfl, q⟩
theorem w_listL (h : SqL K H p xs) (q : ∀ l, H l = none → Q (.ref l) (upd H l (.lst xs))) : rListU K [.ref p] H Q := ⟨p, xs, rfl, .inl h, q⟩
theorem w_listT (h : SqT K H p xs) (q : ∀ l, H l = none → Q (.ref l) (upd H l (.lst xs))) : rListU K [.ref p] H Q := ⟨p, xs, rfl, .inr h, q⟩
theorem w_reprI (q : Q (.str (toString i)) H) (h : i.natAbs < 2 ^ 1000) : rReprI [.int i] H Q := ⟨i, rfl, by
  by_cases h0 : i.natAbs = 0
  · rw [h0]; decide
  · exact Nat.lt_trans ((Nat.log2_lt h0).mpr h) (by decide), q⟩
theorem w_sum (h : SqL K H p (ns.map V.int)) (q : Q (.int ns.sum) H) : rSum K [.ref p] H Q := ⟨p, ns, rfl, h, q⟩
theorem w_isiS (q : Q (.bl (n == "str")) H) (h : n = "str" ∨ n = "int" ∨ n = "bool" ∨ n = "list" ∨ n = "tuple") : rIsi K [.str (tx l), .ty n] H Q := by
  refine ⟨_, _, .type "str", .type n, n == "str", rfl, .ty n, .base (.str _), kit_ty ?_, q⟩
  rcases h with rfl | rfl | rfl | rfl | rfl <;> decide +kernel
theorem w_isiI (q : Q (.bl (n == "int")) H) (h : n = "str" ∨ n = "int" ∨ n = "bool" ∨ n = "list" ∨ n = "tuple") : rIsi K [.int i, .ty n] H Q := by
  refine ⟨_, _, .type "int", .type n, n == "int", rfl, .ty n, .base (.int _), kit_ty ?_, q⟩
  rcases h with rfl | rfl | rfl | rfl | rfl <;> decide +kernel
theorem w_isiT (h0 : H p = some (.tup xs)) (q : Q (.bl (n == "tuple")) H) (h : n = "str" ∨ n = "int" ∨ n = "bool" ∨ n = "list" ∨ n = "tuple") : rIsi K [.ref p, .ty n] H Q := by
  refine ⟨_, _, .type "tuple", .type n, n == "tuple", rfl, .ty n, .base (.tup h0), kit_ty ?_, q⟩
  rcases h with rfl | rfl | rfl | rfl | rfl <;> decide +kernel
theorem w_isiL (h0 : H p = some (.lst xs)) (q : Q (.bl (n == "list")) H) (h : n = "str" ∨ n = "int" ∨ n = "bool" ∨ n = "list" ∨ n = "tuple") : rIsi K [.ref p, .ty n] H Q := by
  refine ⟨_, _, .type "list", .type n, n == "list", rfl, .ty n, .base (.lst h0), kit_ty ?_, q⟩
  rcases h with rfl | rfl | rfl | rfl | rfl <;> decide +kernel
end
end
end SL
set_option Elab.async false
set_option linter.all false
set_option maxRecDepth 100000
set_option maxHeartbeats 4000000
/-! SlF: slices by their parts, items by their places, ways to say what stands where. -/
namespace SL
open PySem PySem.Spec PyProof.Rows L2
theorem sIx_to (n d : Nat) {i : Int} (h : 0 ≤ i) : HT.sIx n d (some i) = min i.toNat n := by
  obtain ⟨k, rfl⟩ := Int.eq_ofNat_of_zero_le h
  exact HT.sIx_nat n d k
theorem sIx_no (n d : Nat) : HT.sIx n d none = d := HT.sIx_none n d
section
variable {α : Type}
theorem take_min (xs : List α) (k : Nat) : xs.take (min k xs.length) = xs.take k := by
  by_cases h : k ≤ xs.length
  · rw [Nat.min_eq_left h]
  · rw [Nat.min_eq_right (by omega), List.take_length, List.take_of_length_le (by omega)]
theorem drop_min (xs : List α) (k : Nat) : xs.drop (min k xs.length) = xs.drop k := by
  by_cases h : k ≤ xs.length
  · rw [Nat.min_eq_left h]
  · rw [Nat.min_eq_right (by omega), List.drop_length, List.drop_of_length_le (by omega)]
theorem part_to (xs : List α) {i : Int} (h : 0 ≤ i) : (xs.drop (HT.sIx xs.length 0 none)).take (HT.sIx xs.length xs.length (some i) - HT.sIx xs.length 0 none) = xs.take i.toNat := by
  rw [sIx_no, sIx_to _ _ h, List.drop_zero, Nat.sub_zero, take_min]
theorem part_from (xs : List α) {i : Int} (h : 0 ≤ i) : (xs.drop (HT.sIx xs.length 0 (some i))).take (HT.sIx xs.length xs.length none - HT.sIx xs.length 0 (some i)) = xs.drop i.toNat := by
  rw [sIx_no, sIx_to _ _ h, drop_min]
  by_cases hk : i.toNat ≤ xs.length
  · rw [Nat.min_eq_left hk, ← List.length_drop, List.take_length]
  · rw [List.drop_of_length_le (by omega), List.take_nil]
theorem part_all (xs : List α) : (xs.drop (HT.sIx xs.length 0 none)).take (HT.sIx xs.length xs.length none - HT.sIx xs.length 0 none) = xs := by
  rw [sIx_no, sIx_no, List.drop_zero, Nat.sub_zero, List.take_length]
end
theorem cutV_to (xs : List V) {i : Int} (h : 0 ≤ i) : cutV xs none (some i) = xs.take i.toNat := part_to xs h
theorem cutV_from (xs : List V) {i : Int} (h : 0 ≤ i) : cutV xs (some i) none = xs.drop i.toNat := part_from xs h
theorem cutS_to (l : List Nat) {i : Int} (h : 0 ≤ i) : cutS (tx l) none (some i) = tx (l.take i.toNat) := by
  unfold cutS
  rw [tx_len]
  show tx _ = _
  rw [part_to l h]
theorem cutS_from (l : List Nat) {i : Int} (h : 0 ≤ i) : cutS (tx l) (some i) none = tx (l.drop i.toNat) := by
  unfold cutS
  rw [tx_len]
  show tx _ = _
  rw [part_from l h]
section
variable {K : PySem.W.Frag} {H : Hp} {Q : VK} {i j : Int} {l : List Nat} {p : Addr} {xs : List V}
theorem w_sSt (q : Q (.str (tx (l.take i.toNat))) H) (h : 0 ≤ i ∧ l.length ≤ 16777216) : rSlU K (.str (tx l)) none (some i) H Q :=
  .inr (.inl ⟨_, rfl, by rw [tx_len, sizeLine_eq]; exact h.2, by rw [cutS_to l h.1]; exact q⟩)
theorem w_sSf (q : Q (.str (tx (l.drop i.toNat))) H) (h : 0 ≤ i ∧ l.length ≤ 16777216) : rSlU K (.str (tx l)) (some i) none H Q :=
  .inr (.inl ⟨_, rfl, by rw [tx_len, sizeLine_eq]; exact h.2, by rw [cutS_from l h.1]; exact q⟩)
theorem w_sLt (h1 : SqL K H p xs) (h : 0 ≤ i) (q : ∀ a, H a = none → Q (.ref a) (upd H a (.lst (xs.take i.toNat)))) : rSlU K (.ref p) none (some i) H Q :=
  .inl ⟨p, xs, rfl, h1, by rw [cutV_to xs h]; exact q⟩
theorem w_sLf (h1 : SqL K H p xs) (h : 0 ≤ i) (q : ∀ a, H a = none → Q (.ref a) (upd H a (.lst (xs.drop i.toNat)))) : rSlU K (.ref p) (some i) none H Q :=
  .inl ⟨p, xs, rfl, h1, by rw [cutV_from xs h]; exact q⟩
theorem w_revS (q : Q (.str (tx l.reverse)) H) (h : l.length ≤ 16777216) : (∃ m : List Nat, V.str (tx l) = .str (tx m) ∧ m.length ≤ 16777216 ∧ Q (.str (tx m.reverse)) H) ∨
    (∃ a ys, V.str (tx l) = .ref a ∧ SqT K H a ys ∧ ∀ p, H p = none → Q (.ref p) (upd H p (.tup ys.reverse))) := .inl ⟨l, rfl, h, q⟩
theorem w_revU {te : TE} {σ : SSt} (q : te σ H fun x H1 => (∃ l : List Nat, x = .str (tx l) ∧ l.length ≤ 16777216 ∧ Q (.str (tx l.reverse)) H1) ∨
  (∃ a xs, x = .ref a ∧ SqT K H1 a xs ∧ ∀ p, H1 p = none → Q (.ref p) (upd H1 p (.tup xs.reverse)))) : tRevU K te σ H Q := q
theorem fr_get {p b : Addr} {H' : Hp} {o : HO} (f : Fr p H H') (g : H b = some o) (n : b ≠ p) : H' b = some o := f b o g n
theorem same_get {b : Addr} {H' : Hp} {o : HO} (f : Same H H') (g : H b = some o) : H' b = some o := f b o g
theorem none_same {b : Addr} {H' : Hp} (f : Same H H') (g : H' b = none) : H b = none := f.free g
theorem fr_sql {b : Addr} {H' : Hp} (f : Fr b H H') (h : SqL K H p xs) (n : p ≠ b) : SqL K H' p xs := by
  rcases h with (h | ⟨o, h⟩) | h
  · exact .inl (.inl (f _ _ h n))
  · exact .inl (.inr ⟨o, f _ _ h n⟩)
  · exact .inr h
theorem fr_sqt {b : Addr} {H' : Hp} (f : Fr b H H') (h : SqT K H p xs) (n : p ≠ b) : SqT K H' p xs := by
  rcases h with (h | ⟨o, h⟩) | h
  · exact .inl (.inl (f _ _ h n))
  · exact .inl (.inr ⟨o, f _ _ h n⟩)
  · exact .inr h
theorem atI_n {α : Type} {xs : List α} {n : Nat} {v : α} (h : xs[n]? = some v) : atI xs (n : Int) = some v := atI_nat h
theorem atI_i {α : Type} {xs : List α} {i : Int} {v : α} (h0 : 0 ≤ i) (h : xs[i.toNat]? = some v) : atI xs i = some v := by
  obtain ⟨k, rfl⟩ := Int.eq_ofNat_of_zero_le h0
  exact atI_nat h
end
theorem int_at {ns : List Int} {k : Nat} (h : k < ns.length) : (ns.map V.int)[k]? = some (.int ns[k]) := by
  rw [List.getElem?_map, List.getElem?_eq_getElem h]
  rfl
theorem w_modN {i j : Int} {H : Hp} {Q : VK} (h : 0 < j) (q : ∀ r : Int, r = i % j → 0 ≤ r → r < j → Q (.int r) H) : rModU (.int i) (.int j) H Q :=
  ⟨i, j, rfl, rfl, h, q _ rfl (Int.emod_nonneg i (by omega)) (Int.emod_lt_of_pos i h)⟩
theorem w_setL {H : Hp} {p : Addr} {xs : List V} {k : Int} {v : V} {Q : Hp → Prop} {j : Nat} (h : H p = some (.lst xs)) (hj : ixN xs.length k = some j) (q : Q (upd H p (.lst (xs.set j v)))) : rSetL (.ref p) (.int k) v H Q :=
  ⟨p, xs, k, j, rfl, rfl, h, hj, q⟩
theorem w_ip {i j : Int} {f : Int → Int → Int} {H : Hp} {Q : VK} (q : Q (.int (f i j)) H) : ipI f (.int i) (.int j) H Q := ⟨i, j, rfl, rfl, q⟩
/-- the box that draws are taken from -/
def Box (H : Hp) (p : Addr) (c : Nat) : Prop := ∃ (g : Int) (b : Bool) (m : Int) (d : Nat), H p = some (.lst [.int g, .bl b, .int m, .int d]) ∧ 0 ≤ g ∧ 0 ≤ m ∧ m < 2147483648 ∧ d ≤ c
theorem Box.le {H : Hp} {p : Addr} {c d : Nat} (h : Box H p c) (e : c ≤ d) : Box H p d := by
  obtain ⟨g, b, m, n, h1, h2, h3, h4, h5⟩ := h
  exact ⟨g, b, m, n, h1, h2, h3, h4, Nat.le_trans h5 e⟩
theorem Box.has {H : Hp} {p : Addr} {c : Nat} (h : Box H p c) : ∃ o, H p = some o := by
  obtain ⟨g, b, m, n, h1, _⟩ := h
  exact ⟨_, h1⟩
theorem Box.ne {H : Hp} {p q : Addr} {c : Nat} (h : Box H p c) (hq : H q = none) : p ≠ q := by
  obtain ⟨g, b, m, n, h1, _⟩ := h
  exact ne_of_none h1 hq
theorem Box.same {H H' : Hp} {p : Addr} {c : Nat} (h : Box H p c) (s : Same H H') : Box H' p c := by
  obtain ⟨g, b, m, n, h1, h2⟩ := h
  exact ⟨g, b, m, n, s _ _ h1, h2⟩
theorem Box.upd {H : Hp} {p q : Addr} {c : Nat} {o : HO} (h : Box H p c) (n : p ≠ q) : Box (upd H q o) p c := by
  obtain ⟨g, b, m, d, h1, h2⟩ := h
  exact ⟨g, b, m, d, by rw [upd_ne n]; exact h1, h2⟩
/-- both ways of a test -/
theorem w_if {b : Bool} {A B : Prop} (h1 : b = true → A) (h2 : b = false → B) : if b = true then A else B := by
  cases b with
  | true => exact iteT (h1 rfl)
  | false => exact iteF (h2 rfl)
theorem cxK {CX : CXT} {P : Program} {w : World} {K : PySem.W.Frag} {mg : Str → Option Value} {base : Heap} {N : List Str} {q : Str} {sc : Scope} {f : Addr} {cd : Value} {A : Around} {outer : List Env} {s : Shared} {H : Hp} {E : XK} :
    (cxOf CX P w K mg base N q sc f cd A outer s H E).K = K := rfl
theorem ends_rt {a : SSt → Hp → Prop} {b : VK} {c d : SSt → Hp → Prop} : (Ends.mk a b c d).rt = b := rfl
theorem ends_nx {a : SSt → Hp → Prop} {b : VK} {c d : SSt → Hp → Prop} : (Ends.mk a b c d).nx = a := rfl
theorem w_enx {a : SSt → Hp → Prop} {b : VK} {c d : SSt → Hp → Prop} {σ : SSt} {H : Hp} (q : a σ H) : (Ends.mk a b c d).nx σ H := q
theorem w_ert {a : SSt → Hp → Prop} {b : VK} {c d : SSt → Hp → Prop} {v : V} {H : Hp} (q : b v H) : (Ends.mk a b c d).rt v H := q
theorem w_ebk {a : SSt → Hp → Prop} {b : VK} {c d : SSt → Hp → Prop} {σ : SSt} {H : Hp} (q : c σ H) : (Ends.mk a b c d).bk σ H := q
theorem w_ect {a : SSt → Hp → Prop} {b : VK} {c d : SSt → Hp → Prop} {σ : SSt} {H : Hp} (q : d σ H) : (Ends.mk a b c d).ct σ H := q
theorem cut1 (ns : List Int) : (ns.map V.int).take (1 : Int).toNat = (ns.take 1).map V.int := by rw [List.map_take]; rfl
end SL
set_option Elab.async false
set_option linter.all false
set_option maxRecDepth 100000
set_option maxHeartbeats 4000000
/-! SlG: walks: texts, ranges, lists; the steps at a for and at a comprehension. -/
namespace SL
open PySem PySem.Spec PyProof.Rows L2
section
variable {K : PySem.W.Frag} {σ : SSt} {H : Hp} {Q : VK} {D : Ends} {ta te : TE} {t : TA} {tb : TS} {g : TG} {tt : TT} {wi : TI} {vs : List Nat} {R : It → Hp → Prop} {i j : Int} {p : Addr} {xs : List V} {l : List Nat}
theorem w_for (q : wi σ H fun J H1 => ∃ W : Nat → Nat → SSt → Hp → Prop, (∃ m, W 0 m σ H1) ∧ ∀ i m σ H, W i m σ H →
    (J.stop i H ∧ D.nx σ H) ∨ (J.go i H ∧ ∃ N : SSt → Hp → Prop, (∀ σ' H', N σ' H' → ∃ m', m' < m ∧ W (i + 1) m' σ' H') ∧ ∀ x H', J.yld i H x H' → g x σ H' fun σ2 H2 => tb { D with nx := N, ct := N, bk := D.nx } σ2 H2)) : tFor wi g tb D σ H := q
theorem w_lc (q : wi σ H fun J H1 => ∀ D, H1 D = none → ∃ W : Nat → Nat → Hp → Prop, (∃ m, W 0 m (upd H1 D (.lst []))) ∧ ∀ i m H, W i m H →
    (J.stop i H ∧ Q (.ref D) H) ∨ (J.go i H ∧ ∃ Nx : Hp → Prop, (∀ H', Nx H' → ∃ m', m' < m ∧ W (i + 1) m' H') ∧ ∀ x H', J.yld i H x H' → g x (wipe σ vs) H' fun σ2 H2 => wipe σ2 vs = wipe σ vs ∧ tt σ2 H2 fun b H3 =>
      if b = true then te σ2 H3 fun y H4 => ∃ acc, H4 D = some (.lst acc) ∧ acc.length < sizeLine ∧ Nx (upd H4 D (.lst (acc ++ [y]))) else Nx H3)) : tLc wi g tt te vs σ H Q := q
theorem w_yes {Q : Bool → Hp → Prop} (q : Q true H) : tYes σ H Q := q
theorem w_il (q : te σ H fun x H1 => ∃ a, x = .ref a ∧ (∃ xs, SqL K H1 a xs) ∧ R (Itl K a) H1) : iList K te σ H R := q
theorem w_it (q : te σ H fun x H1 => ∃ a, x = .ref a ∧ (∃ xs, SqT K H1 a xs) ∧ R (Itt K a) H1) : iTup K te σ H R := q
theorem w_isx (q : te σ H fun v H1 => ∃ x, v = .str x ∧ R (Its x) H1) : iStr te σ H R := q
theorem w_ir1 (q : t σ H fun vs H1 => ∃ j : Int, vs = [.int j] ∧ -(2 ^ 62) ≤ j ∧ j < 2 ^ 62 ∧ R (Itr 0 j.toNat) H1) : iRng1 t σ H R := q
theorem w_ir2 (q : t σ H fun vs H1 => ∃ i j : Int, vs = [.int i, .int j] ∧ (-(2 ^ 62) ≤ i ∧ i < 2 ^ 62 ∧ -(2 ^ 62) ≤ j ∧ j < 2 ^ 62) ∧ R (Itr i (j - i).toNat) H1) : iRng2 t σ H R := q
theorem w_ies (q : t σ H fun vs H1 => ∃ z, vs = [.str z] ∧ R (Ites z) H1) : iEnumS t σ H R := q
theorem w_r1 {R : Int → Prop} (q : R j) (h : -4611686018427387904 ≤ j ∧ j < 4611686018427387904) : ∃ k : Int, [V.int j] = [.int k] ∧ -2 ^ 62 ≤ k ∧ k < 2 ^ 62 ∧ R k := ⟨j, rfl, by omega, by omega, q⟩
theorem w_r2 {R : Int → Int → Prop} (q : R i j) (h : (-4611686018427387904 ≤ i ∧ i < 4611686018427387904) ∧ -4611686018427387904 ≤ j ∧ j < 4611686018427387904) :
    ∃ a b : Int, [V.int i, V.int j] = [.int a, .int b] ∧ (-2 ^ 62 ≤ a ∧ a < 2 ^ 62 ∧ -2 ^ 62 ≤ b ∧ b < 2 ^ 62) ∧ R a b := ⟨i, j, rfl, ⟨by omega, by omega, by omega, by omega⟩, q⟩
theorem w_s1 {R : Str → Prop} {z : Str} (q : R z) : ∃ x, V.str z = .str x ∧ R x := ⟨z, rfl, q⟩
theorem w_s1l {R : Str → Prop} {z : Str} (q : R z) : ∃ x, [V.str z] = [.str x] ∧ R x := ⟨z, rfl, q⟩
theorem w_l1 {R : Addr → Prop} (h : SqL K H p xs) (q : R p) : ∃ a, V.ref p = .ref a ∧ (∃ xs, SqL K H a xs) ∧ R a := ⟨p, rfl, ⟨xs, h⟩, q⟩
theorem w_t1 {R : Addr → Prop} (h : SqT K H p xs) (q : R p) : ∃ a, V.ref p = .ref a ∧ (∃ xs, SqT K H a xs) ∧ R a := ⟨p, rfl, ⟨xs, h⟩, q⟩
theorem w_app (h : H p = some (.lst xs)) {v : V} (q : Q .non (upd H p (.lst (xs ++ [v])))) (hz : xs.length < 16777216) : rAppend (.ref p) [v] H Q := ⟨p, xs, v, rfl, rfl, h, by rw [sizeLine_eq]; exact hz, q⟩
theorem w_isL (h : SqL K H p xs) {B : Prop} (q : B) : tyV K "list" (.ref p) H ∧ B := ⟨.inl ⟨rfl, xs, h⟩, q⟩
theorem w_minL {ns : List Int} (h : SqL K H p (ns.map V.int)) (hz : 0 < ns.length) (q : ∀ m, m ∈ ns → (∀ y, y ∈ ns → m ≤ y) → Q (.int m) H) : rMin K [.ref p] H Q := ⟨p, ns, rfl, h, hz, q⟩
theorem w_allL {bs : List Bool} (h : SqL K H p (bs.map V.bl)) (q : Q (.bl (bs.all id)) H) : rAll K [.ref p] H Q := ⟨p, bs, rfl, h, q⟩
theorem w_anyL {bs : List Bool} (h : SqL K H p (bs.map V.bl)) (q : Q (.bl (bs.any id)) H) : rAny K [.ref p] H Q := ⟨p, bs, rfl, h, q⟩
theorem w_inC {c : Nat} (q : Q (.bl (decide (c ∈ l))) H) : rInU K (.str (tx [c])) (.str (tx l)) H Q := .inl ⟨c, tx l, rfl, rfl, by
  have e : (tx l).cps.toList = l := rfl
  rw [e]
  exact q⟩
end
/-- a comprehension over the signs of a text -/
theorem lc_tx {l : List Nat} {g : TG} {tt : TT} {te : TE} {vs : List Nat} {σ : SSt} {H1 : Hp} {D : Addr} {Qd : Hp → Prop} (Pv : Nat → Hp → Prop) (h0 : Pv 0 (upd H1 D (.lst [])))
    (hs : ∀ i c H, l[i]? = some c → Pv i H → g (.str (tx [c])) (wipe σ vs) H fun σ2 H2 => wipe σ2 vs = wipe σ vs ∧ tt σ2 H2 fun b H3 =>
      if b = true then te σ2 H3 fun y H4 => ∃ acc, H4 D = some (.lst acc) ∧ acc.length < sizeLine ∧ Pv (i + 1) (upd H4 D (.lst (acc ++ [y]))) else Pv (i + 1) H3) (hd : ∀ H, Pv l.length H → Qd H) :
    ∃ W : Nat → Nat → Hp → Prop, (∃ m, W 0 m (upd H1 D (.lst []))) ∧ ∀ i m H, W i m H →
      ((Its (tx l)).stop i H ∧ Qd H) ∨ ((Its (tx l)).go i H ∧ ∃ Nx : Hp → Prop, (∀ H', Nx H' → ∃ m', m' < m ∧ W (i + 1) m' H') ∧ ∀ x H', (Its (tx l)).yld i H x H' → g x (wipe σ vs) H' fun σ2 H2 => wipe σ2 vs = wipe σ vs ∧ tt σ2 H2 fun b H3 =>
        if b = true then te σ2 H3 fun y H4 => ∃ acc, H4 D = some (.lst acc) ∧ acc.length < sizeLine ∧ Nx (upd H4 D (.lst (acc ++ [y]))) else Nx H3) := by
  refine lc_it walk_str Pv h0 (fun _ _ _ _ => True.intro) ?_ (fun H h => hd H (by simpa using h))
  rintro i x H H' hi p ⟨rfl, c, hc, rfl⟩
  exact hs i c _ (by simpa using hc) p
/-- a for over the signs of a text -/
theorem for_tx {l : List Nat} {g : TG} {tb : TS} {D : Ends} {σ : SSt} {H : Hp} (Pv : Nat → SSt → Hp → Prop) (h0 : Pv 0 σ H)
    (hs : ∀ i c σ H, l[i]? = some c → Pv i σ H → g (.str (tx [c])) σ H fun σ2 H2 => tb { D with nx := Pv (i + 1), ct := Pv (i + 1), bk := D.nx } σ2 H2) (hd : ∀ σ H, Pv l.length σ H → D.nx σ H) :
    ∃ W : Nat → Nat → SSt → Hp → Prop, (∃ m, W 0 m σ H) ∧ ∀ i m σ H, W i m σ H →
      ((Its (tx l)).stop i H ∧ D.nx σ H) ∨ ((Its (tx l)).go i H ∧ ∃ N : SSt → Hp → Prop, (∀ σ' H', N σ' H' → ∃ m', m' < m ∧ W (i + 1) m' σ' H') ∧ ∀ x H', (Its (tx l)).yld i H x H' → g x σ H' fun σ2 H2 => tb { D with nx := N, ct := N, bk := D.nx } σ2 H2) := by
  refine for_it walk_str Pv h0 (fun _ _ _ _ _ => True.intro) ?_ (fun σ H h => hd σ H (by simpa using h))
  rintro i x σ H H' hi p ⟨rfl, c, hc, rfl⟩
  exact hs i c σ _ (by simpa using hc) p
/-- a for over enumerate of a text: each turn has a new pair at T -/
theorem for_etx {l : List Nat} {g : TG} {tb : TS} {D : Ends} {σ : SSt} {H : Hp} (Pv : Nat → SSt → Hp → Prop) (h0 : Pv 0 σ H)
    (hs : ∀ i c T σ H, l[i]? = some c → Pv i σ H → H T = none → g (.ref T) σ (upd H T (.tup [.int (i : Nat), .str (tx [c])])) fun σ2 H2 => tb { D with nx := Pv (i + 1), ct := Pv (i + 1), bk := D.nx } σ2 H2) (hd : ∀ σ H, Pv l.length σ H → D.nx σ H) :
    ∃ W : Nat → Nat → SSt → Hp → Prop, (∃ m, W 0 m σ H) ∧ ∀ i m σ H, W i m σ H →
      ((Ites (tx l)).stop i H ∧ D.nx σ H) ∨ ((Ites (tx l)).go i H ∧ ∃ N : SSt → Hp → Prop, (∀ σ' H', N σ' H' → ∃ m', m' < m ∧ W (i + 1) m' σ' H') ∧ ∀ x H', (Ites (tx l)).yld i H x H' → g x σ H' fun σ2 H2 => tb { D with nx := N, ct := N, bk := D.nx } σ2 H2) := by
  have w : Walk (Ites (tx l)) l.length (fun _ => True) (fun i H v H' => ∃ T c, v = .ref T ∧ H T = none ∧ H' = upd H T (.tup [.int (i : Nat), .str ⟨#[c]⟩]) ∧ (tx l).cps[i]? = some c) :=
    ⟨fun i H hi _ => by show i < (tx l).cps.size; simpa using hi, fun H _ => by show l.length = (tx l).cps.size; simp, fun i H x H' _ _ y => y⟩
  refine for_it w Pv h0 (fun _ _ _ _ _ => True.intro) ?_ hd
  rintro i x σ H H' hi p ⟨T, c, rfl, hT, rfl, hc⟩
  exact hs i c T σ H (by simpa using hc) p hT
/-! letters -/
def abc : List Nat := [97, 98, 99, 100, 101, 102, 103, 104, 105, 106, 107, 108, 109, 110, 111, 112, 113, 114, 115, 116, 117, 118, 119, 120, 121, 122]
theorem mem_abc {c : Nat} : c ∈ abc ↔ 97 ≤ c ∧ c ≤ 122 := by
  unfold abc
  simp only [List.mem_cons, List.not_mem_nil, or_false]
  omega
/-- all of them letters -/
def Let (l : List Nat) : Prop := ∀ c ∈ l, c ∈ abc
instance (l : List Nat) : Decidable (Let l) := inferInstanceAs (Decidable (∀ c ∈ l, c ∈ abc))
theorem all_let (l : List Nat) : (l.map fun c => decide (c ∈ abc)).all id = decide (Let l) := by
  by_cases h : Let l
  · rw [decide_eq_true h, List.all_eq_true]
    intro b hb
    obtain ⟨c, hc, rfl⟩ := List.mem_map.mp hb
    exact decide_eq_true (h c hc)
  · rw [decide_eq_false h, List.all_eq_false]
    have : ∃ c, c ∈ l ∧ ¬ c ∈ abc := by
      refine Classical.byContradiction fun n => h fun c hc => ?_
      exact Classical.byContradiction fun m => n ⟨c, hc, m⟩
    obtain ⟨c, hc, hn⟩ := this
    exact ⟨_, List.mem_map.mpr ⟨c, hc, rfl⟩, by simpa using hn⟩
theorem Let.nil : Let [] := fun _ h => absurd h List.not_mem_nil
theorem Let.app {l m : List Nat} (a : Let l) (b : Let m) : Let (l ++ m) := fun c h => (List.mem_append.mp h).elim (a c) (b c)
theorem Let.take {l : List Nat} (a : Let l) (n : Nat) : Let (l.take n) := fun c h => a c (List.mem_of_mem_take h)
theorem Let.drop {l : List Nat} (a : Let l) (n : Nat) : Let (l.drop n) := fun c h => a c (List.mem_of_mem_drop h)
theorem w_inT {K : PySem.W.Frag} {H : Hp} {Q : VK} {v : V} {p : Addr} {xs : List V} (h : SqT K H p xs) (hv : flatV v = true) (hx : xs.all flatV = true) (q : Q (.bl (inV v xs)) H) : rInU K v (.ref p) H Q :=
  .inr ⟨p, xs, rfl, .inr h, hv, hx, q⟩
theorem take_more {α : Type} {l : List α} {i : Nat} {x : α} (h : l[i]? = some x) : l.take (i + 1) = l.take i ++ [x] := by
  rw [List.take_add_one, h]
  rfl
theorem get_of {α : Type} {l : List α} {i : Nat} (h : i < l.length) : l[i]? = some l[i] := List.getElem?_eq_getElem h
/-! ''.join of texts -/
theorem join_nil' : ∀ ls : List (List Nat), Str.join (tx []) (ls.map tx) = tx ls.flatten
  | [] => rfl
  | [x] => by
    show tx x = tx [x].flatten
    simp
  | x :: y :: r => by
    have ih := join_nil' (y :: r)
    show tx x ++ tx [] ++ Str.join (tx []) ((y :: r).map tx) = _
    rw [ih, tx_app, tx_app, List.append_nil]
    rfl
theorem join_nil (ls : List (List Nat)) : Txt.join (tx []) (ls.map tx) = tx ls.flatten := by
  unfold Txt.join
  rw [StrLaws.glued_eq_join, join_nil']
theorem join_sum (ls : List (List Nat)) : ((ls.map tx).map (·.length)).sum = ls.flatten.length := by
  induction ls with
  | nil => rfl
  | cons x r ih => rw [List.map_cons, List.map_cons, List.sum_cons, ih, tx_len, List.flatten_cons, List.length_append]
def rJoinU (K : PySem.W.Frag) : V → List V → Hp → VK → Prop := fun x xs H Q => ∃ a p, ∃ ys : List Str, x = .str a ∧ xs = [.ref p] ∧ (SqL K H p (ys.map V.str) ∨ SqT K H p (ys.map V.str)) ∧ (ys.map (·.length)).sum + ys.length * a.length ≤ 16777216 ∧ Q (.str (Txt.join a ys)) H
theorem uJoin {X : Cx} : MtR X "str.join" (rJoinU X.K) := mt_join
theorem w_join {K : PySem.W.Frag} {H : Hp} {Q : VK} {p : Addr} {ls : List (List Nat)} (h : SqL K H p (ls.map fun l => V.str (tx l))) (q : Q (.str (tx ls.flatten)) H) (hz : ls.flatten.length ≤ 16777216) : rJoinU K (.str (tx [])) [.ref p] H Q := by
  refine ⟨tx [], p, ls.map tx, rfl, rfl, .inl ?_, ?_, by rw [join_nil]; exact q⟩
  · rw [List.map_map]
    exact h
  · rw [join_sum, tx_len]
    simpa using hz
theorem w_isS {l : List Nat} {B : Prop} (q : B) : (∃ a, V.str (tx l) = .str a) ∧ B := ⟨⟨_, rfl⟩, q⟩
theorem w_lrg {H : Hp} {Q : VK} {σ : SSt} {te : TE} (q : te σ H fun x H1 => ∃ n, x = .int n ∧ (RgOk 0 n ∧ ∀ q, H1 q = none → Q (.ref q) (upd H1 q (.lst (rgV 0 n))))) : tLstRg (tRg1 te) σ H Q := q
theorem rgV_n (n : Nat) : rgV 0 (n : Int) = (List.range n).map fun i => V.int (i : Nat) := by
  unfold rgV
  rw [show ((n : Int) - 0).toNat = n by omega]
  apply List.map_congr_left
  intro i _
  rw [show (0 : Int) + (i : Int) = (i : Int) by omega]
end SL
set_option Elab.async false
set_option linter.all false
set_option maxRecDepth 100000
set_option maxHeartbeats 4000000
/-! SlH: the rules with K said aloud (a comprehension's element must not mention the block's context), constants, keyword calls. -/
namespace SL
open PySem PySem.Spec PyProof.Rows L2
section
variable (K : PySem.W.Frag) {X : Cx} {k : Nat}
theorem kAdd (h : X.K = K) : OpR X (binaryOp .Add) (rAddU K) := h ▸ uAdd
theorem kEq (h : X.K = K) (hr : Room k X.A) : OpR X (compareOp .Eq) (rEqU K) := h ▸ uEq hr
theorem kNe (h : X.K = K) (hr : Room k X.A) : OpR X (compareOp .NotEq) (rNeU K) := h ▸ uNe hr
theorem kIn (h : X.K = K) : OpR X (compareOp .In) (rInU K) := h ▸ uIn
theorem kSl (h : X.K = K) : SlR X (rSlU K) := h ▸ uSl
theorem kIx (h : X.K = K) : IxR X (rIx K) := h ▸ ix_seq
theorem kLen (h : X.K = K) : CallR X (.builtin "len") (rLenU K) := h ▸ uLen
theorem kIsi (h : X.K = K) : CallR X (.builtin "isinstance") (rIsi K) := h ▸ uIsi
theorem kIsiT (h : X.K = K) : CallR X (.builtin "isinstance") (rIsiT K) := h ▸ uIsiT
theorem kList (h : X.K = K) : CallR X (.type "list") (rListU K) := h ▸ uList
theorem kSum (h : X.K = K) (hc : X.calm = true) : CallR X (.builtin "sum") (rSum K) := h ▸ cr_sum hc
theorem kAny (h : X.K = K) (hc : X.calm = true) : CallR X (.builtin "any") (rAny K) := h ▸ cr_any hc
theorem kAll (h : X.K = K) (hc : X.calm = true) : CallR X (.builtin "all") (rAll K) := h ▸ cr_all hc
theorem kMin (h : X.K = K) (hc : X.calm = true) : CallR X (.builtin "min") (rMin K) := h ▸ cr_min hc
theorem kMax (h : X.K = K) (hc : X.calm = true) : CallR X (.builtin "max") (rMax K) := h ▸ cr_max hc
theorem kSorted (h : X.K = K) : CallR X (.builtin "sorted") (rSorted K) := h ▸ cr_sorted
theorem kJoin (h : X.K = K) : MtR X "str.join" (rJoinU K) := h ▸ uJoin
theorem kIndex (h : X.K = K) : MtR X "list.index" (rIndex K) := h ▸ mt_index
theorem kiList (h : X.K = K) {tg l : Expr} {tl : TE} (p : PE X l tl) : PI X tg l (iList K tl) := h ▸ pi_list p
theorem kiTup (h : X.K = K) {tg l : Expr} {tl : TE} (p : PE X l tl) : PI X tg l (iTup K tl) := h ▸ pi_tup p
theorem kRev (h : X.K = K) {e : Expr} {te : TE} {k : Nat} {p1 p2 p3 pos : Pos} (p : PE X e te) :
    PE X (e.Subscript (.Slice none none (some (.UnaryOp .USub (.Constant (.int 1) k p1) p2)) p3) pos) (tRevU K te) := h ▸ pe_revU p
theorem kTup (h : X.K = K) {pos : Pos} {es : List Expr} {k : Nat} {t : TGs} {n : Nat} (hc : X.calm = true) (p : PGs X es t) (h1 : (assignEach es X.env).length = n := by rfl)
    (h2 : List.findIdx? (fun x => x.fst) (assignEach es X.env) = none := by rfl) : PG X (.Tuple es k pos) (gTup K n t) := h ▸ pg_tup hc p h1 h2
theorem kBm (h : X.K = K) {o e : Expr} {es : List Expr} {to : TE} {t : TA} {name : Str} {apos cpos : Pos} {T id : String} {r : V → List V → Hp → VK → Prop}
    (h1 : PlainAttrs T) (h2 : Slot T name id) (h3 : typeOf (Value.builtin id) = pure (Value.type "method_descriptor")) (h4 : MtR X id r) (h5 : PE X o to) (h6 : PA X (e :: es) t)
    (h7 : attributeBase o name X.env (eval o X.env) = eval o X.env := by rfl)
    (h8 : ((((backTo cpos (starEach (e :: es) X.env)).all fun x => !x.fst) && (backToKw cpos (keywordEach [] X.env)).all fun x => x.fst.isSome) && decide (((e :: es).length + ([] : List Keyword).length + if ([] : List Keyword).isEmpty = true then 0 else 1) < 30)) = true := by rfl)
    (h9 : (apos.endLine == cpos.line) = true := by rfl) (h10 : starEach (e :: es) X.env = (false, eval e X.env) :: starEach es X.env := by rfl)
    (h11 : ((backTo cpos (starEach es X.env)).any fun x => x.fst) = false := by rfl) : PE X ((o.Attribute name apos).Call (e :: es) [] cpos) (tBM K T r to t) :=
  h ▸ pe_bm h1 h2 h3 h4 h5 h6 h7 h8 h9 h10 h11
end
/-- a text of the module, by its signs -/
theorem pe_gs {X : Cx} {x : Str} {l : List Nat} {pos : Pos} (hg : Gl X x) (h : ∃ t, X.mg x = some (.str (tx l) t)) (hdb : (x == ("__debug__" : Str)) = false := by decide) : PE X (.Name x pos) (tC (.str (tx l))) := by
  obtain ⟨t, h⟩ := h
  exact pe_glob hg h (by first | exact ⟨_, rfl⟩ | constructor) hdb
theorem pe_gi {X : Cx} {x : Str} {i : Int} {pos : Pos} (hg : Gl X x) (h : ∃ t, X.mg x = some (.int i t)) (hdb : (x == ("__debug__" : Str)) = false := by decide) : PE X (.Name x pos) (tC (.int i)) := by
  obtain ⟨t, h⟩ := h
  exact pe_glob hg h (by first | exact ⟨_, rfl⟩ | constructor) hdb
/-! keyword calls -/
/-- a def called by keywords alone: ks the names in the call's order, g how the values come to the parameters -/
structure CalW (P : Program) (w : World) (K : PySem.W.Frag) (mg : Str → Option Value) (base : Heap) (k : Nat) (x : Str) (ps ks : List Str) (g : {α : Type} → List α → List α) (sp : Sp) : Prop where
  ex : ∃ (f : Addr) (fd : FuncData), FnG P w K mg base k f fd ps sp ∧ mg x = some (.ref f) ∧ PySem.W.keepIn K (.ref f) = true ∧
    ∀ (s : Shared) (ws : List Value), ws.length = ks.length → BindsTo s fd ⟨[], ks.zip ws⟩ (ps.zip (g ws))
def tCallW (sp : Sp) (g : {α : Type} → List α → List α) (n : Nat) (E : SSt → XK) (t : TA) : TE := fun σ H Q => t σ H fun vs H1 => vs.length = n ∧ sp (g vs) H1 Q (E σ)
section
variable {X : Cx} {k j : Nat} {x : Str} {ps ks : List Str} {sp : Sp} {E : L2.St → XK} {p pos : Pos} {kws : List Keyword} {t : TA} {g : {α : Type} → List α → List α}
theorem pe_gw (c : CalW X.prog X.w X.K X.mg X.base k x ps ks g sp) (hr : Room j X.A) (hk : k ≤ j) (hgd : X.A.guards = some []) (hg : Gl X x) (hx : ∀ σ, PassesAt (L2.CX X.prog X.w) X σ (E σ)) (ha : PK X kws t)
    (hl : ∀ {vs : List V} {us : List Value}, vs.length = ks.length → Vals vs us → Vals (g vs) (g us))
    (hall : (backToKw pos (keywordEach kws X.env)).all (·.1.isSome) = true := by rfl) (hks : (backToKw pos (keywordEach kws X.env)).filterMap (·.1) = ks := by rfl)
    (hdb : (x == ("__debug__" : Str)) = false := by decide)
    (hpl : ((backTo pos (starEach [] X.env)).any (·.1) || (backToKw pos (keywordEach kws X.env)).any (·.1.isNone)) = false := by rfl) :
    PE X (.Call (.Name x p) [] kws pos) (tCallW sp g ks.length E t) := by
  obtain ⟨f, fd, F, hm, kp, hb⟩ := c.ex
  constructor
  intro pins s σ H Q I h
  refine wpAny_Call_Name_kw (ld_glob I hg hm ?_ hdb)
  refine PySem.W.callWith_KW0 (h₀ := X.base) I.ok.mod.kin kp hall ?_ hpl
  refine thn (ha.run pos pins s σ H _ I h) ?_
  rintro ws s1 ⟨vs, H1, I1, r, hn, q⟩
  refine ⟨I1.kIn, ?_⟩
  rw [hks]
  refine wpAny_call (codeAny_mono (F.run X.A X.stack s1 H1 ⟨[], ks.zip ws⟩ (g ws) (g vs) Q (E σ) (hr.mono hk) hgd (Inv.env0 I1) (hb s1 ws (by rw [← Paired.length r]; exact hn)) (hl hn r) q) ?_)
  intro rr s' hq
  match rr, hq with
  | .error ex, hq => exact hx σ pins H1 s1 ex s' I1 hq
  | .ok (.ret u), hq => exact Inv.after I1 hq
end
theorem w_callW {g : {α : Type} → List α → List α} {n : Nat} {sp : Sp} {E : SSt → XK} {t : TA} {σ : SSt} {H : Hp} {Q : VK} (q : t σ H fun vs H1 => vs.length = n ∧ sp (g vs) H1 Q (E σ)) : tCallW sp g n E t σ H Q := q
theorem w_same {s : String} {A B : Prop} (q : A) : if (s == s) = true then A else B := by
  rw [if_pos (by simp)]
  exact q
theorem w_diff {s t : String} {A B : Prop} (q : B) (h : (s == t) = false) : if (s == t) = true then A else B := by
  rw [if_neg (by rw [h]; decide)]
  exact q
theorem w_wp {σ τ : SSt} {vs : List Nat} {B : Prop} (h : wipe σ vs = wipe τ vs) (q : B) : wipe σ vs = wipe τ vs ∧ B := ⟨h, q⟩
theorem w_acc {H : Hp} {D : Addr} {acc : List V} {R : List V → Prop} (h : H D = some (.lst acc)) (q : R acc) (hz : acc.length < 16777216) : ∃ acc, H D = some (.lst acc) ∧ acc.length < sizeLine ∧ R acc :=
  ⟨acc, h, by rw [sizeLine_eq]; exact hz, q⟩
theorem lt_of_get {α : Type} {l : List α} {i : Nat} {c : α} (h : l[i]? = some c) : i < l.length := (List.getElem?_eq_some_iff.mp h).1
theorem w_ifT {b : Bool} {A B : Prop} (h : b = true) (q : A) : if b = true then A else B := by rw [if_pos h]; exact q
theorem w_ifF {b : Bool} {A B : Prop} (h : b = false) (q : B) : if b = true then A else B := by rw [if_neg (by rw [h]; decide)]; exact q
def rRev1 (K : PySem.W.Frag) (x : V) (H : Hp) (Q : VK) : Prop := (∃ l : List Nat, x = .str (tx l) ∧ l.length ≤ 16777216 ∧ Q (.str (tx l.reverse)) H) ∨
  (∃ a xs, x = .ref a ∧ SqT K H a xs ∧ ∀ p, H p = none → Q (.ref p) (upd H p (.tup xs.reverse)))
section
variable {K : PySem.W.Frag} {te : TE} {σ : SSt} {H : Hp} {Q : VK} {l : List Nat} {p : Addr} {xs : List V} {k : Nat}
theorem w_rev (q : te σ H fun x H1 => rRev1 K x H1 Q) : tRevU K te σ H Q := q
theorem w_rev1S (q : Q (.str (tx l.reverse)) H) (h : l.length ≤ 16777216) : rRev1 K (.str (tx l)) H Q := .inl ⟨l, rfl, h, q⟩
theorem w_rev1T (h : SqT K H p xs) (q : ∀ a, H a = none → Q (.ref a) (upd H a (.tup xs.reverse))) : rRev1 K (.ref p) H Q := .inr ⟨p, xs, rfl, h, q⟩
theorem w_sSfN (q : Q (.str (tx (l.drop k))) H) (h : l.length ≤ 16777216) : rSlU K (.str (tx l)) (some (k : Int)) none H Q := w_sSf q ⟨by omega, h⟩
theorem w_sStN (q : Q (.str (tx (l.take k))) H) (h : l.length ≤ 16777216) : rSlU K (.str (tx l)) none (some (k : Int)) H Q := w_sSt q ⟨by omega, h⟩
end
theorem in_pair {x y : List Nat} (h : x = [] ∨ y = []) : inV (V.str (tx [])) [V.str (tx x), V.str (tx y)] = true := by
  have e : eqV (V.str (tx [])) (V.str (tx [])) = true := by first | rfl | decide | decide +kernel
  rcases h with rfl | rfl
  · simp [inV, e]
  · simp [inV, e]
/-- a for over a range from 0 -/
theorem for_rg {j : Int} {n : Nat} {g : TG} {tb : TS} {D : Ends} {σ : SSt} {H : Hp} (hn : j.toNat = n) (Pv : Nat → SSt → Hp → Prop) (h0 : Pv 0 σ H)
    (hs : ∀ (i : Nat) σ H, i < n → Pv i σ H → g (.int (i : Int)) σ H fun σ2 H2 => tb { D with nx := Pv (i + 1), ct := Pv (i + 1), bk := D.nx } σ2 H2) (hd : ∀ σ H, Pv n σ H → D.nx σ H) :
    ∃ W : Nat → Nat → SSt → Hp → Prop, (∃ m, W 0 m σ H) ∧ ∀ i m σ H, W i m σ H →
      ((Itr 0 j.toNat).stop i H ∧ D.nx σ H) ∨ ((Itr 0 j.toNat).go i H ∧ ∃ N : SSt → Hp → Prop, (∀ σ' H', N σ' H' → ∃ m', m' < m ∧ W (i + 1) m' σ' H') ∧ ∀ x H', (Itr 0 j.toNat).yld i H x H' → g x σ H' fun σ2 H2 => tb { D with nx := N, ct := N, bk := D.nx } σ2 H2) := by
  subst hn
  refine for_it walk_range Pv h0 (fun _ _ _ _ _ => True.intro) ?_ hd
  rintro i x σ H H' hi p ⟨rfl, rfl⟩
  have e : (0 : Int) + (i : Int) = i := by omega
  show g (.int ((0 : Int) + (i : Int))) _ _ _
  rw [e]
  exact hs i σ _ hi p
/-- a for over a range -/
theorem for_rg2 {lo hi : Int} {n : Nat} {g : TG} {tb : TS} {D : Ends} {σ : SSt} {H : Hp} (hn : (hi - lo).toNat = n) (Pv : Nat → SSt → Hp → Prop) (h0 : Pv 0 σ H)
    (hs : ∀ (i : Nat) σ H, i < n → Pv i σ H → g (.int (lo + i)) σ H fun σ2 H2 => tb { D with nx := Pv (i + 1), ct := Pv (i + 1), bk := D.nx } σ2 H2) (hd : ∀ σ H, Pv n σ H → D.nx σ H) :
    ∃ W : Nat → Nat → SSt → Hp → Prop, (∃ m, W 0 m σ H) ∧ ∀ i m σ H, W i m σ H →
      ((Itr lo (hi - lo).toNat).stop i H ∧ D.nx σ H) ∨ ((Itr lo (hi - lo).toNat).go i H ∧ ∃ N : SSt → Hp → Prop, (∀ σ' H', N σ' H' → ∃ m', m' < m ∧ W (i + 1) m' σ' H') ∧ ∀ x H', (Itr lo (hi - lo).toNat).yld i H x H' → g x σ H' fun σ2 H2 => tb { D with nx := N, ct := N, bk := D.nx } σ2 H2) := by
  subst hn
  refine for_it walk_range Pv h0 (fun _ _ _ _ _ => True.intro) ?_ hd
  rintro i x σ H H' hi p ⟨rfl, rfl⟩
  exact hs i σ _ hi p
/-- a comprehension over a range from 0 -/
theorem lc_rg {j : Int} {n : Nat} {g : TG} {tt : TT} {te : TE} {vs : List Nat} {σ : SSt} {H1 : Hp} {D : Addr} {Qd : Hp → Prop} (hn : j.toNat = n) (Pv : Nat → Hp → Prop) (h0 : Pv 0 (upd H1 D (.lst [])))
    (hs : ∀ (i : Nat) H, i < n → Pv i H → g (.int (i : Int)) (wipe σ vs) H fun σ2 H2 => wipe σ2 vs = wipe σ vs ∧ tt σ2 H2 fun b H3 =>
      if b = true then te σ2 H3 fun y H4 => ∃ acc, H4 D = some (.lst acc) ∧ acc.length < sizeLine ∧ Pv (i + 1) (upd H4 D (.lst (acc ++ [y]))) else Pv (i + 1) H3) (hd : ∀ H, Pv n H → Qd H) :
    ∃ W : Nat → Nat → Hp → Prop, (∃ m, W 0 m (upd H1 D (.lst []))) ∧ ∀ i m H, W i m H →
      ((Itr 0 j.toNat).stop i H ∧ Qd H) ∨ ((Itr 0 j.toNat).go i H ∧ ∃ Nx : Hp → Prop, (∀ H', Nx H' → ∃ m', m' < m ∧ W (i + 1) m' H') ∧ ∀ x H', (Itr 0 j.toNat).yld i H x H' → g x (wipe σ vs) H' fun σ2 H2 => wipe σ2 vs = wipe σ vs ∧ tt σ2 H2 fun b H3 =>
        if b = true then te σ2 H3 fun y H4 => ∃ acc, H4 D = some (.lst acc) ∧ acc.length < sizeLine ∧ Nx (upd H4 D (.lst (acc ++ [y]))) else Nx H3) := by
  subst hn
  refine lc_it walk_range Pv h0 (fun _ _ _ _ => True.intro) ?_ hd
  rintro i x H H' hi p ⟨rfl, rfl⟩
  have e : (0 : Int) + (i : Int) = i := by omega
  show g (.int ((0 : Int) + (i : Int))) _ _ _
  rw [e]
  exact hs i _ hi p
/-- a cut: what stands after the first statement -/
theorem w_seqI {t1 t2 : TS} {D : Ends} {σ : SSt} {H : Hp} (I : SSt → Hp → Prop) (k : ∀ σ H, I σ H → t2 D σ H) (q : ∀ N : SSt → Hp → Prop, (∀ σ H, I σ H → N σ H) → t1 { D with nx := N } σ H) : tSeq t1 t2 D σ H := q _ k
section
variable {t2 : TS} {D : Ends} {σ : SSt} {H : Hp} {te : TE} {g : TG} {n m : Nat} {t : TA} {ti : TIp} {wi : TI} {tb : TS}
theorem w_seqA (q : tAsg te g { D with nx := t2 D } σ H) : tSeq (tAsg te g) t2 D σ H := q
theorem w_seqD (q : tDrop te { D with nx := t2 D } σ H) : tSeq (tDrop te) t2 D σ H := q
theorem w_seqP (q : tPar n m t { D with nx := t2 D } σ H) : tSeq (tPar n m t) t2 D σ H := q
theorem w_seqG (q : tAug n te ti { D with nx := t2 D } σ H) : tSeq (tAug n te ti) t2 D σ H := q
end
theorem w_gT {K : PySem.W.Frag} {n : Nat} {tg : TGs} {p : Addr} {σ : SSt} {H : Hp} {Q : SSt → Hp → Prop} {xs : List V} (h : SqT K H p xs) (q : tg xs σ H Q) (hn : xs.length = n) : gTup K n tg (.ref p) σ H Q := ⟨p, xs, rfl, h, hn, q⟩
def rIsU : R2 := fun x y H Q => y = .non ∧ Q (.bl (decide (x = .non))) H
def rIsNotU : R2 := fun x y H Q => y = .non ∧ Q (.bl (!decide (x = .non))) H
theorem uIs {X : Cx} : OpR X (compareOp .Is) rIsU := op_isN
theorem uIsNot {X : Cx} : OpR X (compareOp .IsNot) rIsNotU := op_notN
section
variable {H : Hp} {Q : VK} {i : Int} {z : Str} {p : Addr} {b : Bool}
theorem w_isnN (q : Q (.bl true) H) : rIsU .non .non H Q := ⟨rfl, by rw [decide_eq_true rfl]; exact q⟩
theorem w_isnI (q : Q (.bl false) H) : rIsU (.int i) .non H Q := ⟨rfl, by rw [decide_eq_false (by simp)]; exact q⟩
theorem w_isnS (q : Q (.bl false) H) : rIsU (.str z) .non H Q := ⟨rfl, by rw [decide_eq_false (by simp)]; exact q⟩
theorem w_isnR (q : Q (.bl false) H) : rIsU (.ref p) .non H Q := ⟨rfl, by rw [decide_eq_false (by simp)]; exact q⟩
theorem w_isnB (q : Q (.bl false) H) : rIsU (.bl b) .non H Q := ⟨rfl, by rw [decide_eq_false (by simp)]; exact q⟩
theorem w_isoN (q : Q (.bl false) H) : rIsNotU .non .non H Q := ⟨rfl, by rw [decide_eq_true rfl]; exact q⟩
theorem w_isoI (q : Q (.bl true) H) : rIsNotU (.int i) .non H Q := ⟨rfl, by rw [decide_eq_false (by simp)]; exact q⟩
theorem w_isoS (q : Q (.bl true) H) : rIsNotU (.str z) .non H Q := ⟨rfl, by rw [decide_eq_false (by simp)]; exact q⟩
theorem w_isoR (q : Q (.bl true) H) : rIsNotU (.ref p) .non H Q := ⟨rfl, by rw [decide_eq_false (by simp)]; exact q⟩
theorem w_isoB (q : Q (.bl true) H) : rIsNotU (.bl b) .non H Q := ⟨rfl, by rw [decide_eq_false (by simp)]; exact q⟩
end
theorem kLst (K : PySem.W.Frag) {X : Cx} (h : X.K = K) {pos : Pos} {es : List Expr} {k : Nat} {t : TGs} {n : Nat} (hc : X.calm = true) (p : PGs X es t) (h1 : (assignEach es X.env).length = n := by rfl)
    (h2 : List.findIdx? (fun x => x.fst) (assignEach es X.env) = none := by rfl) : PG X (.Tuple es k pos) (gLst K n t) := h ▸ pg_lst hc p h1 h2
theorem w_gL {K : PySem.W.Frag} {n : Nat} {tg : TGs} {p : Addr} {σ : SSt} {H : Hp} {Q : SSt → Hp → Prop} {xs : List V} (h : SqL K H p xs) (q : tg xs σ H Q) (hn : xs.length = n) : gLst K n tg (.ref p) σ H Q := ⟨p, xs, rfl, h, hn, q⟩
theorem atI_last {α : Type} {xs : List α} {v : α} (h : xs[xs.length - 1]? = some v) : atI xs (-1) = some v := by
  have hl := (List.getElem?_eq_some_iff.mp h).1
  unfold atI ixN
  rw [if_neg (by omega)]
  rw [if_pos (by omega)]
  rw [Option.bind_some, show ((-1 : Int) + xs.length).toNat = xs.length - 1 by omega]
  exact h
theorem box_le {H : Hp} {p : Addr} {c d : Nat} (h : Box H p c) (e : c ≤ d := by omega) : Box H p d := h.le e
theorem all_take {α : Type} {l : List α} : l.take l.length = l := List.take_length
end SL
set_option Elab.async false
set_option linter.all false
set_option maxRecDepth 100000
set_option maxHeartbeats 4000000
/-! SlI: more about heaps and texts. -/
namespace SL
open PySem PySem.Spec PyProof.Rows L2
theorem Fr.nil {p D : Addr} {H H1 : Hp} (f : Fr p H H1) (hD : H1 D = none) (n : p ≠ D) : H D = none := by
  cases h : H D with
  | none => rfl
  | some o => rw [f D o h (Ne.symm n)] at hD; cases hD
theorem Fr.grow {p D : Addr} {H H1 H' : Hp} {o : HO} (f0 : Fr p H H1) (hD : H1 D = none) (n : p ≠ D) (f : Fr p H H') : Fr p H (upd H' D o) := fun b u h nb => by
  rw [upd_ne (ne_of_none h (Fr.nil f0 hD n))]
  exact f b u h nb
theorem rep_len (n : Nat) (l : List Nat) : (List.replicate n l).flatten.length = n * l.length := by
  induction n with
  | zero => simp
  | succ n ih => rw [List.replicate_succ, List.flatten_cons, List.length_append, ih, Nat.succ_mul]; omega
theorem rep_let {n : Nat} {l : List Nat} (h : Let l) : Let (List.replicate n l).flatten := by
  induction n with
  | zero => exact fun _ h => absurd h (by simp)
  | succ n ih => rw [List.replicate_succ, List.flatten_cons]; exact h.app ih
theorem Let.one {l : List Nat} {k : Nat} {c : Nat} (h : Let l) (hk : l[k]? = some c) : Let [c] := fun d hd => by
  rw [List.mem_singleton.mp hd]
  exact h c (List.mem_of_getElem? hk)
theorem bit_is (b : Bool) : ∃ u : Nat, (if b = true then (1 : Int) else 0) = u ∧ u ≤ 1 := by
  cases b
  · exact ⟨0, rfl, by omega⟩
  · exact ⟨1, rfl, by omega⟩
theorem two_at {α : Type} {a b : α} {k : Nat} (h : k < 2) : [a, b][k]? = some (if k = 0 then a else b) := by
  match k, h with
  | 0, _ => rfl
  | 1, _ => rfl
theorem w_mulSN {l : List Nat} {u : Nat} {H : Hp} {Q : VK} (q : Q (.str (tx (List.replicate u l).flatten)) H) (h : u ≤ 1000000 ∧ l.length ≤ 1000000 ∧ l.length * u ≤ 16777216) : rMulU (.str (tx l)) (.int (u : Int)) H Q :=
  w_mulS (by rw [Int.toNat_natCast]; exact q) ⟨by omega, by omega, h.2.1, by rw [Int.toNat_natCast]; exact h.2.2⟩
theorem ex_get {α : Type} {l : List α} {k : Nat} (h : k < l.length) : ∃ c, l[k]? = some c := ⟨_, get_of h⟩
theorem take_rest {α : Type} (l : List α) (i : Nat) : l.take i ++ l.drop (l.take i).length = l := by
  rw [List.length_take]
  by_cases h : i ≤ l.length
  · rw [Nat.min_eq_left h, List.take_append_drop]
  · rw [Nat.min_eq_right (by omega), List.drop_length, List.append_nil, List.take_of_length_le (by omega)]
theorem Let.left {l m : List Nat} (h : Let (l ++ m)) : Let l := fun c hc => h c (List.mem_append_left m hc)
theorem Let.right {l m : List Nat} (h : Let (l ++ m)) : Let m := fun c hc => h c (List.mem_append_right l hc)
theorem w_eqStr {K : PySem.W.Frag} {H : Hp} {Q : VK} {x y : Str} (q : Q (.bl (decide (x = y))) H) : rEqU K (.str x) (.str y) H Q := .inl ⟨rfl, by
  have e : decide (V.str x = V.str y) = decide (x = y) := decide_eq_decide.mpr ⟨fun h => V.str.inj h, fun h => by rw [h]⟩
  rw [e]; exact q⟩
theorem same_box {p : Addr} {H H1 H2 : Hp} (a : Same H H1) (hp : H p = Option.none) (f : Fr p H1 H2) : Same H H2 := fun b o h => f b o (a b o h) (ne_of_none h hp)
theorem calW_of {P : Program} {w : World} {K : PySem.W.Frag} {mg : Str → Option Value} {base : Heap} {x : Str} {st : Stmt} {ps ks : List Str} {k : Nat} {sp : Sp} {g : {α : Type} → List α → List α} (D : DefAt K mg x st ps)
    (F : ∀ f fd, Fun K x x st f fd → FnG P w K mg base k f fd ps sp) (hb : ∀ f fd, Fun K x x st f fd → ∀ (s : Shared) (ws : List Value), ws.length = ks.length → BindsTo s fd ⟨[], ks.zip ws⟩ (ps.zip (g ws))) :
    CalW P w K mg base k x ps ks g sp := by
  obtain ⟨f, fd, Fn, hm, _⟩ := D.ex
  exact ⟨f, fd, F f fd Fn, hm, Fn.kp, hb f fd Fn⟩
theorem cal_of {P : Program} {w : World} {K : PySem.W.Frag} {mg : Str → Option Value} {base : Heap} {x : Str} {st : Stmt} {ps : List Str} {k : Nat} {sp : Sp} (D : DefAt K mg x st ps)
    (F : ∀ f fd, Fun K x x st f fd → FnG P w K mg base k f fd ps sp) : Cal P w K mg base k x ps sp := by
  obtain ⟨f, fd, Fn, hm, hb⟩ := D.ex
  exact ⟨f, fd, F f fd Fn, hm, Fn.kp, hb⟩
theorem rev4 {vs : List V} {us : List Value} (hn : vs.length = 4) (r : Vals vs us) : Vals vs.reverse us.reverse := by
  match vs, us, r with
  | [a, b, c, d], [a', b', c', d'], .cons r1 (.cons r2 (.cons r3 (.cons r4 .nil))) => exact .cons r4 (.cons r3 (.cons r2 (.cons r1 .nil)))
end SL
set_option Elab.async false
set_option linter.all false
set_option maxRecDepth 100000
set_option maxHeartbeats 4000000
/-! SlJ: startswith; equality of nested data. -/
namespace SL
open PySem PySem.Spec PyProof.Rows L2
theorem starts_is (l m : List Nat) : Txt.startswith (tx l) (tx m) = decide (l.take m.length = m) := by
  unfold Txt.startswith
  rw [StrLaws.subAt_eq, tx_len, tx_len]
  show (decide (0 + m.length ≤ l.length) && ((l.drop 0).take m.length == m)) = _
  rw [List.drop_zero]
  by_cases h : l.take m.length = m
  · have hl : m.length ≤ l.length := by
      have := congrArg List.length h
      rw [List.length_take] at this
      omega
    rw [decide_eq_true h, h]
    simp
    exact hl
  · rw [decide_eq_false h]
    have : (l.take m.length == m) = false := by simpa using h
    rw [this, Bool.and_false]
def rStartsU : V → List V → Hp → VK → Prop := fun x xs H Q => ∃ a b, x = .str a ∧ xs = [.str b] ∧ Q (.bl (Txt.startswith a b)) H
theorem uStarts {X : Cx} : MtR X "str.startswith" rStartsU := mt_startswith
theorem w_starts {l m : List Nat} {H : Hp} {Q : VK} (q : Q (.bl (decide (l.take m.length = m))) H) : rStartsU (.str (tx l)) [.str (tx m)] H Q := ⟨tx l, tx m, rfl, rfl, by rw [starts_is]; exact q⟩
/-- signs -/
def Sgn (l : List Nat) : Prop := ∀ c ∈ l, c < 1114112
theorem Let.sgn {l : List Nat} (h : Let l) : Sgn l := fun c hc => by
  have := mem_abc.mp (h c hc)
  omega
theorem Sgn.ok {l : List Nat} (h : Sgn l) : PyData.strOk (tx l) = true := by
  show l.toArray.all (fun c => decide (c < 0x110000)) = true
  unfold Sgn at h
  simpa using h
/-- pairs of texts -/
theorem dp_pair {K : PySem.W.Frag} {H : Hp} {p : Addr} {x y : Str} (h : SqT K H p [.str x, .str y]) : Dp K H (.ref p) (.tuple [.str x, .str y]) :=
  .tup h (.cons (.str _) (.cons (.str _) .nil))
theorem shaped_pair {x y : List Nat} (hx : Sgn x) (hy : Sgn y) : SeqAt.shaped (.tuple [.str (tx x), .str (tx y)]) = true := by
  simp [SeqAt.shaped, PyData.canLay0, PyData.canLayAll0, PyData.depth, PyData.depthAll, hx.ok, hy.ok]
theorem w_neP {K : PySem.W.Frag} {H : Hp} {Q : VK} {p q : Addr} {x y : List Nat} (h1 : SqT K H p [.str (tx x), .str (tx y)]) (h2 : SqT K H q [.str (tx x), .str (tx y)]) (hx : Sgn x) (hy : Sgn y) (k : Q (.bl false) H) : rNeU K (.ref p) (.ref q) H Q :=
  .inr ⟨_, _, dp_pair h1, dp_pair h2, shaped_pair hx hy, shaped_pair hx hy, by
    have e : PyData.eqv (.tuple [.str (tx x), .str (tx y)]) (.tuple [.str (tx x), .str (tx y)]) = true := by simp [PyData.eqv, PyData.eqvAll]
    rw [e]
    exact k⟩
theorem min_max (b : Int) (l : Nat) (hb : 2 ≤ b ∧ b ≤ 100) : ∃ n : Nat, (if (if (l : Int) < b then (l : Int) else b) > 2 then (if (l : Int) < b then (l : Int) else b) else 2) = n ∧ n ≤ 100 := by
  obtain ⟨c, rfl⟩ := Int.eq_ofNat_of_zero_le (show (0 : Int) ≤ b by omega)
  have : ∃ x : Nat, (if (l : Int) < c then (l : Int) else c) = x ∧ x ≤ 100 := by
    split
    · exact ⟨l, rfl, by omega⟩
    · exact ⟨c, rfl, by omega⟩
  obtain ⟨x, hx, hx2⟩ := this
  rw [hx]
  split
  · exact ⟨x, rfl, hx2⟩
  · exact ⟨2, rfl, by omega⟩
end SL
set_option Elab.async false
set_option linter.all false
set_option maxRecDepth 100000
set_option maxHeartbeats 4000000
/-! SlX: an own error with one field, whose class stands over an own class over Exception, and whose __init__ calls that class's own. (Turned from the worked proof of an own error.) -/
namespace PySem
namespace XIn
open PySem.W PySem.Calls PyProof.Rows PySem.HandSPX
def aI (p1 p2 : Pos) : Arguments := { posonlyargs := [], args := [{ arg := "self", annotation := none, pos := p1 }, { arg := "given", annotation := none, pos := p2 }], vararg := none, kwonlyargs := [], kw_defaults := [], kwarg := none, defaults := [] }
def bI (m : Str) (j : Nat) (q1 q2 q3 q4 q5 q6 q7 q8 q9 q10 : Pos) : List Stmt :=
  [.Expr (.Call (.Attribute (.Name "CodecError" q1) "__init__" q2) [.Name "self" q3, .Constant (.str m) j q4] [] q5) q6, .Assign [.Attribute (.Name "self" q7) "given" q8] (.Name "given" q9) q10]
def sI : Scope := { kind := .function, names := [(PySem.Str.ofString "self", .local), (PySem.Str.ofString "given", .local), (PySem.Str.ofString "CodecError", .globalImplicit)], isGenerator := false, isCoroutine := false, more := [] }
/-- what the written part says of the class at C, of the one under it at B, and of its __init__ at fI -/
structure ErrTxt (K : Frag) (mg : Str → Option Value) (x : Str) (C B fI : Addr) : Prop where
  gC : mg x = some (.ref C)
  gB : mg "CodecError" = some (.ref B)
  cls : ∃ nm q N bs sn sub ab col dd k0 k1 k2 k3 k5, K.lookup C = some (excClassObj nm q C N bs (.ref B :: ESX.exTail) true sn sub ab col dd k0 k1 k2 k3 k5 "Exception.__new__")
  sa : findIn K (.ref C) "__setattr__" = some (some (.builtin "object.__setattr__"))
  ga : findIn K (.ref C) "__getattribute__" = some (some (.builtin "BaseException.__getattribute__"))
  gg : findIn K (.ref C) "__getattr__" = some none
  noN : findIn K (.ref C) "given" = some none
  iC : findIn K (.ref C) "__init__" = some (some (.ref fI))
  tC : typeIn K (.ref fI) = some (.type "function")
  kC : keepIn K (.ref C) = true
  exC : subIn K (.ref C) (.type "BaseException") = some true
  tyC : typeIn K (.ref C) = some (.type "type")
  hdC : hasDictIn K C = true
  te : exmOne K (.ref C) (.ref C) = some true
  sp : specialIn K (.ref B) "__getattribute__" = some (some (.builtin "type.__getattribute__"))
  rd : readsIn K B (.type "type") = true
  fc : findCls K (.ref B) (.type "type") "__init__" = some (.val (.builtin "Exception.__init__"))
  fn : ∃ (oc : Value) (od : Option Addr) (doc pm : Value) (an : Option Addr) (cdv ct : Value) (osl : Array (Option Value)) (p1 p2 q1 q2 q3 q4 q5 q6 q7 q8 q9 q10 : Pos) (q m : Str) (j : Nat),
    K.lookup fI = some ⟨oc, od, .func (fnOf "__init__" q (aI p1 p2) (bI m j q1 q2 q3 q4 q5 q6 q7 q8 q9 q10) sI .none .none doc pm an cdv ct), osl⟩ ∧ codeIn K cdv q = true ∧
    ∀ env : Env, ∃ pl : Sem Bool, eval (.Call (.Attribute (.Name "CodecError" q1) "__init__" q2) [.Name "self" q3, .Constant (.str m) j q4] [] q5) env = (do
      let ov ← eval (.Name "CodecError" q1) env
      standAt q2.atName
      let (f, first) ← holding [ov] (getMethod ov "__init__" pl)
      callWith q5 f first (backTo q5 (starEach [.Name "self" q3, .Constant (.str m) j q4] env)) (backToKw q5 (keywordEach [] env)))
theorem one_fits (v : Value) : [v].length ≤ sizeLine := by
  rw [sizeLine_eq]
  exact (by decide : 1 ≤ 16777216)
theorem tail_is (B : Addr) (X : String) : (Value.ref B :: ESX.exTail).contains (.type X) = ESX.exTail.contains (.type X) := by
  rw [List.contains_cons]
  rfl
theorem in_but {K : Frag} {h h' : Heap} {x : Addr} (X : K.In h) (hx : K.lookup x = none) (k : ∀ b o, b ≠ x → h.get? b = some o → h'.get? b = some o) : K.In h' := fun a o e =>
  k a o (fun z => by rw [z, hx] at e; cases e) (X a o e)
theorem ldC {M : Model} {s : Shared} {name : Str} {scope : Scope} {L a : Addr} {cd : Value} {m : Str → Option Value} {x : Str} {pos : Pos} {v : Value} {Q : Value → Shared → Prop} {A : Around} {E : Value → Shared → Prop} (hn : s.heap.Ns L m) (hv : m x = some v) (h : Q v s)
    (hk : scope.kind = .function := by rfl) (hl : (envOfC name scope L a cd).kindOf x = some .local := by rfl) (hd : (x == ("__debug__" : Str)) = false := by decide) :
    wpAny M A (eval (.Name x pos) (envOfC name scope L a cd)) Q E s := wpAny_Name (wpAny_loadName_local hk hl hn hv h) hd
/-! self.name = v on such an exception that has no dict yet -/
section
open Builtin Builtin.ObjectAttr
theorem osa_two {prog : Program} {w : World} {A : Around} {R : Result → Shared → Prop} {hp : Heap} {g : Array GenState} {d : Drawn} {t : Nat} {os : OsState} {K : W.Frag} {name : Str} {tk : Tok} {v : Value} {x C B : Addr} {fv : Array Value} {cd : ClassData}
    (X : K.In hp) (hx : hp.get? x = some { cls := .ref C, data := .fields fv }) (hcd : W.clsIn K C = some cd) (hm : cd.mro = .ref C :: .ref B :: ESX.exTail) (hh : cd.hasDict = true) (ha : W.findIn K (.ref C) name = some none)
    (hq : ∀ h' tk' dx, (∀ b o, b ≠ x → hp.get? b = some o → h'.get? b = some o) → hp.objs.size ≤ dx → dx ≠ x → h'.get? x = some { cls := .ref C, dict := some dx, data := .fields fv } →
      h'.Ns1 dx (fun y => if y = name then some v else none) → R (.ok (.ret .none)) ⟨h', g, d, tk', os⟩) :
    codeAny (model prog w) A (.call (.builtin "object.__setattr__") ⟨[.ref x, .str name tk, v], []⟩) R ⟨hp, g, d, t, os⟩ := by
  have I : W.InstAt hp x { cls := .ref C, data := .fields fv } C none := ⟨hx, rfl, rfl, trivial⟩
  have far : x ≠ hp.objs.size := Nat.ne_of_lt (Heap.lt_size hx)
  have hob : cd.mro.contains (.type "object") = true := by
    have e : ESX.exTail.contains (.type "object") = true := by decide +kernel
    rw [hm, List.contains_cons, List.contains_cons, e]
    simp
  have ofObj : W.Looks (model prog w) hp (isInstance (.ref x) (.type "object")) true :=
    I.type.andThen (W.looks_mroIn X (by unfold W.mroIn; rw [hcd, Option.bind_some, hm, if_neg (by simp), ← hm, hob]))
  have SO := F.store_object
  refine codeAny_call_builtin SO.slot.plain SO.entry (@W.check_slot (model prog w) _ _ ⟨hp, g, d, t, os⟩ "object.__setattr__" "object" "__setattr__" (.ref x) [.str name tk, v] [] _ SO.kind SO.split ofObj (SO.args (.ref x) (.str name tk) v) ?_)
  have chain : W.Looks (model prog w) hp (mroOf (.ref C)) cd.mro := (W.looks_clsIn X hcd).andThen .now
  have noTaker : W.Looks (model prog w) hp (storeTaker? none) none := .now
  have ofC : W.Looks (model prog w) hp (classData C) cd := W.looks_clsIn X hcd
  have goes : refuseLoop (.ref x) "__setattr__" cd.mro = pure () := by
    rw [hm, refuseLoop_ref, refuseLoop_ref]
    exact F.store_Exception.passes _
  rw [W.osa_eq, refuse_eq]
  refine wpAny_bind (wpAny_bind (I.type.at (wpAny_bind (chain.at ?_))))
  rw [goes]
  refine wpAny_pure (wpAny_bind (I.type.at (wpAny_bind ((W.looks_findIn X ha).at (wpAny_bind (noTaker.at ?_))))))
  show wpAny _ _ (storeInOwnDict (.ref x) (.ref C) (.str name tk) name v false) _ _ _
  obtain ⟨nm, bs, mro, ns, qn, hd, sn, sb, ab, col, del⟩ := cd
  dsimp only at hh
  subst hh
  unfold storeInOwnDict ownDictForStores
  repeat (first | with_reducible refine HandSPX.store_in_new ?_ ?_ | with_reducible refine wpAny_loadPart_at hx ?_ | with_reducible refine ofC.at ?_ | wp_step)
  · exact ⟨_, #[], _, (Heap.get?_update_ne _ _ _ _ far.symm).trans (Heap.get?_push_at rfl rfl), rfl, fun e he => absurd he (by simp), fun _ => rfl⟩
  · intro h' tk' hn' hs
    have hx₁ : (hp.push { cls := .type "dict", data := .dict #[] }).get? x = some { cls := .ref C, data := .fields fv } := Heap.get?_push_of_some _ hx
    refine hq h' tk' hp.objs.size (fun b o hb ho => ?_) (Nat.le_refl _) far.symm ?_ hn'
    · exact (hs.2 b (Nat.ne_of_lt (Heap.lt_size ho))).trans ((Heap.get?_update_ne _ _ _ _ hb).trans (Heap.get?_push_of_some _ ho))
    · exact (hs.2 x far).trans (Heap.get?_update_self _ hx₁ rfl)
end
/-- what __init__ leaves of a fresh exception at x -/
structure InitEnd (h h' : Heap) (x C dx : Addr) (v : Value) : Prop where
  keep : ∀ b o, b ≠ x → h.get? b = some o → h'.get? b = some o
  obj : ∃ t1 : Addr, h'.get? x = some ({ cls := .ref C, dict := some dx, data := .fields #[.ref t1, .none, .none, .none, .bool false, .none] } : Obj)
  dbig : h.objs.size ≤ dx
  dne : dx ≠ x
  ns : h'.Ns1 dx (fun y => if y = "given" then some v else none)
/-- a made one -/
structure OwnMade (h h' : Heap) (e C d : Addr) (v : Value) : Prop where
  keep : ∀ b o, h.get? b = some o → h'.get? b = some o
  new : h.objs.size ≤ e
  obj : ∃ oe vs, h'.get? e = some oe ∧ oe.cls = .ref C ∧ oe.dict = some d ∧ oe.data = .fields vs ∧ vs[1]? = some .none
  dbig : h.objs.size ≤ d
  dne : d ≠ e
  ns : h'.Ns1 d (fun y => if y = "given" then some v else none)
section
variable {prog : Program} {w : World} {A : Around} {E : Value → Shared → Prop} {R : Result → Shared → Prop} {s : Shared} {K : Frag} {mg : Str → Option Value} {n : Str} {C B fI : Addr}
theorem err_init (T : ErrTxt K mg n C B fI) {x t0 : Addr} {v : Value} (X : K.In s.heap) (hG : s.heap.Ns mainGlobals mg) (hlim : s.heap.NoLimit) (hx : s.heap.get? x = some (excO C t0)) (hnx : K.lookup x = none) (hroom : A.depth < recursionLimit)
    (hq : ∀ h' tk dx, InitEnd s.heap h' x C dx v → R (.ok (.ret .none)) { s with heap := h', toks := tk }) :
    codeAny (model prog w) A (.call (.ref fI) ⟨[.ref x, v], []⟩) R s := by
  obtain ⟨oc, od, doc, pm, an, cdv, ct, osl, p1, p2, q1, q2, q3, q4, q5, q6, q7, q8, q9, q10, qn, m, j, ho, hcd, hev⟩ := T.fn
  obtain ⟨nm, q, N, bs, sn, sub, ab, col, dd, k0, k1, k2, k3, k5, hC⟩ := T.cls
  have hcl : clsIn K C = some { name := nm, bases := bs, mro := .ref C :: .ref B :: ESX.exTail, ns := N, qualname := q, hasDict := true, slotNames := sn, subclasses := sub, abstract := ab, collection := col, hasDel := false } := by unfold clsIn; rw [hC] <;> rfl
  refine Att.call_fn (binds := [("self", .ref x), ("given", v)]) X hlim ho hcd hroom (BindsTo.of_eq (by first | rfl | with_unfolding_all rfl)) (by first | rfl | decide | with_unfolding_all rfl) (fun s₁ IC => ?_) rfl rfl rfl
  obtain ⟨h₁, tk₁, rfl⟩ := IC.toInCall.same
  have k : ∀ b o, s.heap.get? b = some o → h₁.get? b = some o := IC.toInCall.keep
  have hn := IC.toInCall.ns
  have hxL : s.heap.objs.size ≠ x := Nat.ne_of_gt (Heap.lt_size hx)
  have X₁ : K.In h₁ := X.keeps k
  have hx₁ := k _ _ hx
  have z : s.heap.objs.size < h₁.objs.size := hn.lt
  show wpAny _ _ (execs _ _) _ _ _
  obtain ⟨pl, hev⟩ := hev (envOfC qn sI s.heap.objs.size fI cdv)
  refine wpAny_execs_cons (wpAny_Expr_any (methodCall_KW ?_ hev) (by first | rfl | simp [interactive]) (by first | rfl | with_unfolding_all rfl))
  refine Name_function_global rfl (by first | rfl | with_unfolding_all rfl | kernel_rfl) (loadGlobal_global (mg := mg) (hG.keeps k) T.gB ?_)
  refine method_cls X₁ T.sp (cls_value X₁ T.rd T.fc (by decide +kernel) ?_)
  refine callWith_method1 (args_cons (ldC (v := .ref x) hn (by first | rfl | with_unfolding_all rfl | kernel_rfl) (args_cons (Constant_str (args_nil ?_)))))
  refine wpAny_call (init_base F.excBase_Exception (tail_is B) (X₁ _ _ hC) hx₁ (one_fits _) fun h₂ t₂ k₂ hx₂ => ?_)
  have X₂ : K.In h₂ := in_but X₁ hnx k₂
  have hn₂ := hn.at fun o q => k₂ _ o hxL q
  refine wpAny_execs_cons (plainObj_wpAny_Assign_Attribute ?_)
  refine ldC (v := v) hn₂ (by first | rfl | with_unfolding_all rfl | kernel_rfl) (ldC (v := .ref x) hn₂ (by first | rfl | with_unfolding_all rfl | kernel_rfl) ?_)
  refine set_plain X₂ (ox := excO C t₂) (od := none) ⟨hx₂, rfl, rfl, trivial⟩ T.sa ?_
  refine osa_two X₂ hx₂ hcl rfl rfl T.noN (fun h₃ tk₃ dx k₃ dn dne hx₃ hn₃ => ?_)
  show wpAny _ _ (execs _ _) _ _ _
  have z2 : s.heap.objs.size < h₂.objs.size := hn₂.lt
  exact wpAny_execs_nil (hq h₃ tk₃ dx ⟨fun b o hb e => k₃ b o hb (k₂ b o hb (k b o e)), ⟨_, hx₃⟩, Nat.le_of_lt (Nat.lt_of_lt_of_le z2 dn), dne, hn₃⟩)
theorem err_made (T : ErrTxt K mg n C B fI) {v : Value} (X : K.In s.heap) (hG : s.heap.Ns mainGlobals mg) (hlim : s.heap.NoLimit) (hroom : A.depth + 1 < recursionLimit)
    (hq : ∀ h' tk e d, OwnMade s.heap h' e C d v → R (.ok (.ret (.ref e))) { s with heap := h', toks := tk }) :
    codeAny (model prog w) A (.call (.ref C) ⟨[v], []⟩) R s := by
  obtain ⟨nm, q, N, bs, sn, sub, ab, col, dd, k0, k1, k2, k3, k5, hC⟩ := T.cls
  obtain ⟨hp, g, dr, tk, os⟩ := s
  have k : ∀ b o, hp.get? b = some o → ((hp.push (kdv_tup [v])).push (excO C hp.objs.size)).get? b = some o := fun b o e => Heap.get?_push_of_some _ (Heap.get?_push_of_some _ e)
  have hget : ((hp.push (kdv_tup [v])).push (excO C hp.objs.size)).get? (hp.objs.size + 1) = some (excO C hp.objs.size) := by heap_get
  have hnx : K.lookup (hp.objs.size + 1) = none := by
    cases e : K.lookup (hp.objs.size + 1) with
    | none => rfl
    | some o =>
      have z : hp.get? (hp.objs.size + 1) = some o := X _ _ e
      exact absurd (Nat.lt_of_succ_lt (Heap.lt_size z)) (Nat.lt_irrefl _)
  refine call_own F.excBase_Exception (tail_is B) (X _ _ hC) (looks_findIn X T.iC) (fun self => bind_fn X self T.tC) (one_fits v) ?_
  refine err_init (s := ⟨(hp.push (kdv_tup [v])).push (excO C hp.objs.size), g, dr, tk, os⟩) T (X.keeps k) (hG.keeps k) (hlim.keeps k) hget hnx ?_ fun h' tk' dx ⟨k', ⟨t1, hx⟩, dn, dne, hns⟩ => ?_
  · show A.depth + 1 < recursionLimit
    exact hroom
  · have old : ∀ b o, hp.get? b = some o → h'.get? b = some o := fun b o e => k' b o (Nat.ne_of_lt (Nat.lt_succ_of_lt (Heap.lt_size e))) (k b o e)
    have z : hp.objs.size + 1 + 1 ≤ dx := by
      first
        | (simpa only [Heap.size_push] using dn)
        | exact dn
        | (have q := dn; rw [Heap.size_push, Heap.size_push] at q; exact q)
    exact ⟨rfl, hq h' tk' (hp.objs.size + 1) dx ⟨old, Nat.le_succ _, ⟨_, _, hx, rfl, rfl, rfl, rfl⟩, Nat.le_trans (Nat.le_trans (Nat.le_succ _) (Nat.le_succ _)) z, dne, hns⟩⟩
end
end XIn
end PySem

namespace SL
open PySem PySem.Spec PyProof.Rows L2
/-- the exception's own dict -/
abbrev xdG (v : V) : HO := .xd [(("given" : Str), v)]
theorem relO_given {v : V} {u : Value} (r : RelV v u) (f : Str) : RelO (List.lookup f [(("given" : Str), v)]) (if f = "given" then some u else none) := by
  by_cases hw : f = "given"
  · subst hw
    rw [if_pos rfl]
    have q : List.lookup ("given" : Str) [(("given" : Str), v)] = some v := by simp [List.lookup]
    rw [q]
    exact r
  · rw [if_neg hw]
    have qw : (f == ("given" : Str)) = false := by simpa using hw
    have q2 : List.lookup f [(("given" : Str), v)] = none := by simp [List.lookup, qw]
    rw [q2]
    trivial
/-- X(e): the made error -/
def tMkE (C : Addr) (ta : TA) : SSt → Hp → XK → Prop := fun σ H Q => ta σ H fun vs H1 => ∃ v, vs = [v] ∧ ∀ d, H1 d = none → Q (.ref C) (some d) (upd H1 d (xdG v))
theorem pmk_err {X : Cx} {C B fI : Addr} {x : Str} {a : Expr} {ta : TA} {p pos : Pos} {k : Nat} (T : PySem.XIn.ErrTxt X.K X.mg x C B fI) (hr : Room (k + 1) X.A) (ha : PA X [a] ta) (hg : Gl X x) (hdb : (x == ("__debug__" : Str)) = false := by decide)
    (he : starEach (a :: []) X.env = (false, eval a X.env) :: starEach [] X.env := by rfl) (hpl : (backTo pos (starEach [] X.env)).any (·.1) = false := by rfl) :
    PMk X (.Call (.Name x p) [a] [] pos) (tMkE C ta) := by
  intro pins s σ H Q I h
  refine wpAny_Call_Name_kw (ld_glob I hg T.gC ?_ hdb)
  refine PySem.W.callWith_K (h₀ := X.base) I.ok.mod.kin T.kC (thn (ha.run pos pins s σ H _ I h) fun us s1 hh => ?_) he hpl
  obtain ⟨vs, H1, I1, r1, v, ev, q1⟩ := hh
  subst ev
  refine ⟨I1.kIn, ?_⟩
  cases r1 with
  | cons rv rn =>
    rename_i v' us'
    cases rn
    show wpAny _ _ (call (.ref C) [v']) _ _ _
    have hlim := I1.nolimit
    have hG := I1.ok.mod.glob.keeps I1.bk
    obtain ⟨hp, g, dr, tk, os⟩ := s1
    refine wpAny_call (PySem.XIn.err_made T I1.kIn hG hlim (by have := hr.dp; omega) fun h' tk' e d M => ?_)
    show MkP X pins σ Q (.ref e) ⟨h', g, dr, tk', os⟩
    obtain ⟨oe, fv, hoe, hc, hd, hdat, h1⟩ := M.obj
    have hns := M.ns
    obtain ⟨G', g1, g2⟩ := restrict h' fun b => decide (b ≠ e)
    have gk : ∀ b, b ≠ e → G'.get? b = h'.get? b := fun b hb => g1 b (decide_eq_true hb)
    have ge : G'.get? e = none := g2 e (by simp)
    have old : ∀ b o, hp.get? b = some o → G'.get? b = some o := fun b o q => (gk b (Nat.ne_of_lt (Nat.lt_of_lt_of_le (Heap.lt_size q) M.new))).trans (M.keep b o q)
    have ob : ObjOk X.prog X.w (upd H1 d (xdG v)) G' d (xdG v) := ⟨_, hns.at (fun o q => (gk d M.dne).trans q), fun f => relO_given rv f⟩
    have J : Inv X pins σ (upd H1 d (xdG v)) ⟨G', g, dr, tk', os⟩ := I1.laid (t' := tk') old M.dbig ob
    refine ⟨e, oe, fv, ⟨G', g, dr, tk', os⟩, _, .ref C, some d, rfl, J, fun b o q => ?_, ge, hoe, ⟨hc, hd⟩, hdat, h1, ?_, rfl, I1.bare, raises_own T.exC T.tyC, q1 d (I1.hok.fresh M.dbig)⟩
    · by_cases hb : b = e
      · have q' : G'.get? b = some o := q
        rw [hb, ge] at q'; cases q'
      · exact (gk b hb).symm.trans q
    · rw [upd_ne (Ne.symm M.dne)]
      exact I1.hok.fresh M.new
/-- raise X(e) -/
def tRz (C : Addr) (W : WX) (ta : TA) : TS := fun _ σ H => ta σ H fun vs H1 => ∃ v, vs = [v] ∧ ∀ d, H1 d = none → W (.ref C) (some d) σ (upd H1 d (xdG v))
theorem ps_rz {X : Cx} {C B fI : Addr} {x : Str} {a : Expr} {ta : TA} {W : WX} {p pos pos2 : Pos} {k : Nat} (hc : X.calm = true) (tk : Takes X W) (T : PySem.XIn.ErrTxt X.K X.mg x C B fI) (hr : Room (k + 1) X.A) (hg : Gl X x) (ha : PA X [a] ta) (hdb : (x == ("__debug__" : Str)) = false := by decide)
    (he : starEach (a :: []) X.env = (false, eval a X.env) :: starEach [] X.env := by rfl) (hpl : (backTo pos (starEach [] X.env)).any (·.1) = false := by rfl) :
    PS X (.Raise (some (.Call (.Name x p) [a] [] pos)) none pos2) (tRz C W ta) := ps_raise hc tk (pmk_err T hr ha hg hdb he hpl)
theorem w_rz {C : Addr} {W : WX} {ta : TA} {D : Ends} {σ : SSt} {H : Hp} (q : ta σ H fun vs H1 => ∃ v, vs = [v] ∧ ∀ d, H1 d = none → W (.ref C) (some d) σ (upd H1 d (xdG v))) : tRz C W ta D σ H := q
theorem w_one {Q : V → Prop} {v : V} (q : Q v) : ∃ x, [v] = [x] ∧ Q x := ⟨v, rfl, q⟩
theorem xf_of {K : PySem.W.Frag} {mg : Str → Option Value} {x : Str} {C B fI : Addr} (T : PySem.XIn.ErrTxt K mg x C B fI) : XfC K C := ⟨T.ga, T.gg, T.exC, T.hdC⟩
/-- try: body, except X as n: suite -/
def tTryA (K : PySem.W.Frag) (c : Value) (i : Nat) (ts : Addr → Value → Option Addr → TS) (Wout : WX) (tb : WX → TS) : TS := fun D σ H => tb (wAs K c i ts Wout D) D σ H
theorem ps_tryA (K : PySem.W.Frag) {X : Cx} {x n : Str} {c : Value} {i : Nat} {body suite : List Stmt} {b₀ : Stmt} {np pos pos' : Pos} {tb : WX → TS} {ts : Addr → Value → Option Addr → TS} {Wout : WX} (hK : X.K = K)
    (hs : X.stack = X.env :: X.outer) (hf : X.env.frame = some X.env.locals) (hN : X.N.Nodup) (hi : X.N[i]? = some n) (hln : X.env.kindOf n = some .local) (hc : Names X x c) (tk : Takes X Wout)
    (hb : ∀ (W : WX) (pn : List (Addr × Obj)) (xe : Value → Shared → Prop), Takes (X.tr pn xe) W → PassesOwn (model X.prog X.w) X.A X.env xe → PSs (X.tr pn xe) body (tb W))
    (hsu : ∀ (a : Addr) (oe : Obj) (cls : Value) (d : Option Addr) (pn : List (Addr × Obj)), Zc cls d oe → (∃ vs, oe.data = .fields vs) → PSs (X.suite a ((a, oe) :: pn)) (b₀ :: suite) (ts a cls d)) :
    PS X (.Try body [.ExceptHandler (some (.Name x np)) (some n) (b₀ :: suite) pos'] [] [] pos) (tTryA K c i ts Wout tb) := hK ▸ ps_try_as hs hf hN hi hln hc tk hb hsu
theorem w_tryA {K : PySem.W.Frag} {c : Value} {i : Nat} {ts : Addr → Value → Option Addr → TS} {Wout : WX} {tb : WX → TS} {D : Ends} {σ : SSt} {H : Hp} (q : tb (wAs K c i ts Wout D) D σ H) : tTryA K c i ts Wout tb D σ H := q
/-- the clause takes it -/
theorem wAs_of {K : PySem.W.Frag} {c cls : Value} {i : Nat} {ts : Addr → Value → Option Addr → TS} {Wout : WX} {D : Ends} {d : Option Addr} {σ : SSt} {H : Hp} (h : PySem.W.exmOne K cls c = some true)
    (q : ∀ a, H a = none → ts a cls d { nx := fun σ' H' => D.nx (σ'.set i none) H', rt := D.rt, bk := fun σ' H' => D.bk (σ'.set i none) H', ct := fun σ' H' => D.ct (σ'.set i none) H' } (σ.set i (some (.ref a))) H) : wAs K c i ts Wout D cls d σ H :=
  ⟨true, h, fun _ => q, fun h => nomatch h⟩
/-- e.given in the suite, e the caught error at a -/
def tGiv (C a : Addr) (cls : Value) (d : Option Addr) (i : Nat) : TE := fun σ H Q => σ[i]? = some (some (.ref a)) ∧ cls = .ref C ∧ ∃ (b : Addr) (v : V), d = some b ∧ H b = some (xdG v) ∧ Q v H
theorem pe_giv {X : Cx} {x : Str} {a C B fI : Addr} {oe : Obj} {cls : Value} {d : Option Addr} {pn : List (Addr × Obj)} {e : Expr} {i : Nat} {pos : Pos} (T : PySem.XIn.ErrTxt X.K X.mg x C B fI)
    (hz : Zc cls d oe) (hf : ∃ vs, oe.data = .fields vs) (he : PE (X.suite a ((a, oe) :: pn)) e (tVar i)) (hb : attributeBase e "given" X.env (eval e X.env) = eval e X.env := by rfl) :
    PE (X.suite a ((a, oe) :: pn)) (.Attribute e "given" pos) (tGiv C a cls d i) := by
  refine ⟨fun pins s σ H Q I h => (pe_xf (xf_of T) T.noN hz hf he hb).run pins s σ H Q I ?_⟩
  obtain ⟨h1, h2, b, v, h3, h4, q⟩ := h
  exact ⟨.ref a, h1, rfl, h2, b, _, v, h3, h4, by simp [List.lookup], q⟩
theorem w_giv {C a d : Addr} {i : Nat} {σ : SSt} {H : Hp} {Q : VK} {v : V} (h : σ[i]? = some (some (.ref a))) (hd : H d = some (xdG v)) (q : Q v H) : tGiv C a (.ref C) (some d) i σ H Q := ⟨h, rfl, d, v, rfl, hd, q⟩
theorem noXt {X : Cx} : ∀ σ, PassesAt (L2.CX X.prog X.w) X σ (E0s σ) := noX
/-- what a def lets out is its own wish -/
theorem tk_def {P : Program} {w : World} {K : PySem.W.Frag} {mg : Str → Option Value} {base : Heap} {N : List Str} {q : Str} {sc : Scope} {f : Addr} {cd : Value} {A : Around} {outer : List Env} {s : Shared} {H : Hp} {E : XK} :
    Takes (cxOf (L2.CX P w) P w K mg base N q sc f cd A outer s H E) (fun cls d _ H => E cls d H) := takes_of rfl rfl rfl rfl
theorem po_def {P : Program} {w : World} {K : PySem.W.Frag} {mg : Str → Option Value} {base : Heap} {N : List Str} {q : Str} {sc : Scope} {f : Addr} {cd : Value} {A : Around} {outer : List Env} {s : Shared} {H : Hp} {E : XK} :
    PassesOwn (model P w) (cxOf (L2.CX P w) P w K mg base N q sc f cd A outer s H E).A (cxOf (L2.CX P w) P w K mg base N q sc f cd A outer s H E).env (cxOf (L2.CX P w) P w K mg base N q sc f cd A outer s H E).xe := passes_of rfl
/-- how a class of errors is named -/
theorem names_err {X : Cx} {x : Str} {C B fI : Addr} (T : PySem.XIn.ErrTxt X.K X.mg x C B fI) (hg : Gl X x) (hdb : (x == ("__debug__" : Str)) = false := by decide) : Names X x (.ref C) := ⟨hg, hdb, .inl T.gC⟩
end SL
set_option Elab.async false
set_option linter.all false
set_option maxRecDepth 100000
set_option maxHeartbeats 4000000
/-! SlR: repr of data: nested lists and tuples of None, bools, ints and texts; an empty dict. -/
namespace SL
open PySem PySem.Spec PyProof.Rows L2
/-- may be written out -/
def ShowOk (d : PyData) : Prop := d.showable = true ∧ d.hasDict = false ∧ d.depth ≤ 60 ∧ d.shown.length ≤ 16777216
def rReprD (K : PySem.W.Frag) : List V → Hp → VK → Prop := fun xs H Q => ∃ x, xs = [x] ∧ ((∃ d, Dp K H x d ∧ ShowOk d ∧ Q (.str d.shown) H) ∨ (∃ a, x = .ref a ∧ H a = some (.dK []) ∧ Q (.str (PyData.dict []).shown) H))
theorem uReprD {X : Cx} {k : Nat} (hr : Room k X.A) (hg : X.A.guards = some []) : CallR X (.builtin "repr") (rReprD X.K) := by
  intro pins s σ H xs us Q I r h
  obtain ⟨x, rfl, h⟩ := h
  obtain ⟨u, rfl, ru⟩ := vals1 r
  have hu := hr.units
  have fin : ∀ {d : PyData} {as : List Addr} {a : Addr}, u = .ref a → Reads s.heap u d as → d.showable = true → (d.hasDict = true → sysModules ∉ as) → d.depth ≤ 60 → d.shown.length ≤ 16777216 → Q (.str d.shown) H →
      wpAny (model X.prog X.w) X.A (call (.builtin "repr") [u]) (EP X pins σ Q) X.xe s := by
    intro d as a e rd sh hs hd hz q
    subst e
    refine repr_of_reads' rd sh hs hg (by omega) (fun _ _ e => e) (fun h' t tk k => ⟨.str d.shown, H, I.kept k, ⟨_, rfl⟩, q⟩) (by rw [sizeLine_eq]; exact hz)
  rcases h with ⟨d, hd, ⟨s1, s2, s3, s4⟩, q⟩ | ⟨a, rfl, ha, q⟩
  · cases hd with
    | non =>
      cases (show u = Value.none from ru)
      exact PySem.P.repr_of_none ⟨.str _, H, I.tok _, ⟨_, rfl⟩, q⟩
    | bl b =>
      cases (show u = Value.bool b from ru)
      refine PySem.P.repr_of_bool ⟨.str _, H, I.tok _, ⟨_, rfl⟩, ?_⟩
      first | exact q | (cases b <;> exact q)
    | int i =>
      obtain ⟨t, rfl⟩ := ru
      refine PySem.P.repr_of_int (by simpa [PyData.showable] using s1) ⟨.str _, H, I.tok _, ⟨_, rfl⟩, q⟩
    | str y =>
      obtain ⟨t, rfl⟩ := ru
      exact PySem.P.repr_of_str ⟨.str _, H, I.tok _, ⟨_, rfl⟩, q⟩ (by rw [sizeLine_eq]; exact s4)
    | lst h1 h2 =>
      obtain ⟨as, rd⟩ := Dp.reads I _ _ u (.lst h1 h2) ru
      exact fin (show u = Value.ref _ from ru) rd s1 (fun z => by rw [s2] at z; cases z) s3 s4 q
    | tup h1 h2 =>
      obtain ⟨as, rd⟩ := Dp.reads I _ _ u (.tup h1 h2) ru
      exact fin (show u = Value.ref _ from ru) rd s1 (fun z => by rw [s2] at z; cases z) s3 s4 q
  · obtain ⟨_, ns, vs, kv, o, es, ep, e1, ⟨e2, e3, _, e4, _⟩⟩ := (show ObjOk X.prog X.w H s.heap a (.dK []) from I.hok a _ ha)
    have hvs : vs = [] := by
      cases kv
      rfl
    subst hvs
    have hes : es.toList = [] := by
      have := e4
      unfold Pairs at this
      cases h : es.toList with
      | nil => rfl
      | cons x r => rw [h] at this; cases this
    have rd : Reads s.heap u (.dict []) ([a] ++ []) := by
      rw [show u = Value.ref a from ru]
      have hd : Reads s.heap (.ref a) (.dict []) (a :: [] ++ []) := Reads.dict e1 (by first | exact e2.1 | exact e2.cls | exact e2) e3 (by rw [hes]; exact .nil) (by rw [hes]; exact .nil)
      exact hd
    refine fin (d := .dict []) (show u = Value.ref a from ru) rd (by rfl) (fun _ hm => ?_) (by decide) (by decide) q
    rw [List.append_nil, List.mem_singleton] at hm
    rw [← hm] at ns
    simp at ns
theorem kReprD (K : PySem.W.Frag) {X : Cx} {k : Nat} (h : X.K = K) (hr : Room k X.A) (hg : X.A.guards = some []) : CallR X (.builtin "repr") (rReprD K) := h ▸ uReprD hr hg
/-- a value that can be written out, and what is written -/
def Shown (K : PySem.W.Frag) (H : Hp) (v : V) (t : Str) : Prop := (∃ d, Dp K H v d ∧ ShowOk d ∧ t = d.shown) ∨ (∃ a, v = .ref a ∧ H a = some (.dK []) ∧ t = (PyData.dict []).shown)
theorem w_reprD {K : PySem.W.Frag} {H : Hp} {Q : VK} {v : V} {t : Str} (h : Shown K H v t) (q : Q (.str t) H) : rReprD K [v] H Q := by
  rcases h with ⟨d, h1, h2, rfl⟩ | ⟨a, h1, h2, rfl⟩
  · exact ⟨v, rfl, .inl ⟨d, h1, h2, q⟩⟩
  · exact ⟨v, rfl, .inr ⟨a, h1, h2, q⟩⟩
/-! errors by their names -/
def errAt (mg : Str → Option Value) (x : Str) : Addr := match mg x with | some (.ref C) => C | _ => 0
def ErrAt (K : PySem.W.Frag) (mg : Str → Option Value) (x : Str) : Prop := ∃ B fI, PySem.XIn.ErrTxt K mg x (errAt mg x) B fI
theorem ErrAt.of {K : PySem.W.Frag} {mg : Str → Option Value} {x : Str} {C B fI : Addr} (T : PySem.XIn.ErrTxt K mg x C B fI) : ErrAt K mg x := by
  have e : errAt mg x = C := by unfold errAt; rw [T.gC]
  exact ⟨B, fI, e.symm ▸ T⟩
theorem ErrAt.te {K : PySem.W.Frag} {mg : Str → Option Value} {x : Str} (T : ErrAt K mg x) : PySem.W.exmOne K (.ref (errAt mg x)) (.ref (errAt mg x)) = some true := by
  obtain ⟨B, fI, T⟩ := T
  exact T.te
theorem ps_rzA (mg : Str → Option Value) {X : Cx} {x : Str} {a : Expr} {ta : TA} {W : WX} {p pos pos2 : Pos} {k : Nat} (T : ErrAt X.K X.mg x) (hm : X.mg = mg) (hc : X.calm = true) (tk : Takes X W) (hr : Room (k + 1) X.A) (hg : Gl X x) (ha : PA X [a] ta) (hdb : (x == ("__debug__" : Str)) = false := by decide)
    (he : starEach (a :: []) X.env = (false, eval a X.env) :: starEach [] X.env := by rfl) (hpl : (backTo pos (starEach [] X.env)).any (·.1) = false := by rfl) :
    PS X (.Raise (some (.Call (.Name x p) [a] [] pos)) none pos2) (tRz (errAt mg x) W ta) := by
  subst hm
  obtain ⟨B, fI, T⟩ := T
  exact ps_rz hc tk T hr hg ha hdb he hpl
theorem pe_givA (mg : Str → Option Value) {X : Cx} {x : Str} {a : Addr} {oe : Obj} {cls : Value} {d : Option Addr} {pn : List (Addr × Obj)} {e : Expr} {i : Nat} {pos : Pos} (T : ErrAt X.K X.mg x) (hm : X.mg = mg)
    (hz : Zc cls d oe) (hf : ∃ vs, oe.data = .fields vs) (he : PE (X.suite a ((a, oe) :: pn)) e (tVar i)) (hb : attributeBase e "given" X.env (eval e X.env) = eval e X.env := by rfl) :
    PE (X.suite a ((a, oe) :: pn)) (.Attribute e "given" pos) (tGiv (errAt mg x) a cls d i) := by
  subst hm
  obtain ⟨B, fI, T⟩ := T
  exact pe_giv T hz hf he hb
theorem names_errA (mg : Str → Option Value) {X : Cx} {x : Str} (T : ErrAt X.K X.mg x) (hm : X.mg = mg) (hg : Gl X x) (hdb : (x == ("__debug__" : Str)) = false := by decide) : Names X x (.ref (errAt mg x)) := by
  subst hm
  obtain ⟨B, fI, T⟩ := T
  exact names_err T hg hdb
end SL
namespace SL
/-- an error of a class is what the clause of this class takes (the worked proof's row) -/
theorem exm_self {K : PySem.W.Frag} {S : PySem.Addr} (h1 : PySem.W.subIn K (.ref S) (.type "BaseException") = some true) (h2 : PySem.W.isClsIn K S = true) (h3 : PySem.W.typeIn K (.ref S) = some (.type "type")) (h4 : PySem.W.subIn K (.ref S) (.ref S) = some true) :
    PySem.W.exmOne K (.ref S) (.ref S) = some true := by
  have e1 : (PySem.W.subIn K (.ref S) (.type "BaseException") == some true) = true := by rw [h1] <;> rfl
  have e2 : ((PySem.W.clsIn K S).isSome && PySem.W.typeIn K (.ref S) == some (.type "type")) = true := by
    have h2' : (PySem.W.clsIn K S).isSome = true := h2
    rw [h2', h3] <;> rfl
  show (if (PySem.W.subIn K (.ref S) (.type "BaseException") == some true) = true then (if ((PySem.W.clsIn K S).isSome && PySem.W.typeIn K (.ref S) == some (.type "type")) = true then PySem.W.subIn K (.ref S) (.ref S) else none) else none) = some true
  rw [if_pos e1, if_pos e2]
  exact h4
end SL
set_option Elab.async false
set_option linter.all false
set_option maxRecDepth 100000
set_option maxHeartbeats 4000000
/-! SlS: values of any kind, as texts and lags are asked of them. -/
namespace SL
open PySem PySem.Spec PyProof.Rows L2
/-- the names of the kinds of values -/
def Kind (t : String) : Prop := t = "int" ∨ t = "bool" ∨ t = "NoneType" ∨ t = "list" ∨ t = "tuple" ∨ t = "dict" ∨ t = "str"
def KindX (t : String) : Prop := t = "int" ∨ t = "bool" ∨ t = "str" ∨ t = "list" ∨ t = "tuple"
theorem kit_kind {K : PySem.W.Frag} {t n : String} (ht : Kind t) (hn : KindX n) : PySem.W.kitOne K (.type t) (.type n) = some (t == n || (t == "bool" && n == "int")) := by
  rcases ht with rfl | rfl | rfl | rfl | rfl | rfl | rfl <;> rcases hn with rfl | rfl | rfl | rfl | rfl <;> exact kit_ty (by decide +kernel)
theorem w_isiK {K : PySem.W.Frag} {H : Hp} {Q : VK} {v : V} {t n : String} (h : TyX K H v (.type t)) (ht : Kind t) (hn : KindX n) (q : Q (.bl (t == n || (t == "bool" && n == "int"))) H) : rIsi K [v, .ty n] H Q :=
  ⟨v, _, .type t, .type n, _, rfl, .ty n, h, kit_kind ht hn, q⟩
/-- how the kind stays -/
theorem tyx_mono {K : PySem.W.Frag} {H H' : Hp} {v : V} {t : Value} (s : Same H H') (h : TyX K H v t) : TyX K H' v t := by
  cases h with
  | base b => cases b with
    | non => exact .base .non
    | bl b => exact .base (.bl b)
    | int i => exact .base (.int i)
    | str x => exact .base (.str x)
    | flt x => exact .base (.flt x)
    | lst e => exact .base (.lst (s _ _ e))
    | tup e => exact .base (.tup (s _ _ e))
    | frz e => exact .base (.frz (s _ _ e))
    | dK e => exact .base (.dK (s _ _ e))
    | dT e => exact .base (.dT (s _ _ e))
    | ins e cl ha hn htk hm => exact .base (.ins (s _ _ e) cl ha hn htk hm)
  | byt b => exact .byt b
  | set e => exact .set (s _ _ e)
  | kList e c => exact .kList e c
  | kTuple e c => exact .kTuple e c
  | kDict e c => exact .kDict e c
  | fTuple e => exact .fTuple (s _ _ e)
  | fDict e => exact .fDict (s _ _ e)
/-- what is_text answers of v -/
def IsTx (K : PySem.W.Frag) (H : Hp) (v : V) (b : Bool) : Prop := (∃ l, v = .str (tx l) ∧ l.length ≤ 100000 ∧ b = decide (Let l)) ∨ (b = false ∧ ∃ t, TyX K H v (.type t) ∧ Kind t ∧ t ≠ "str")
theorem IsTx.mono {K : PySem.W.Frag} {H H' : Hp} {v : V} {b : Bool} (s : Same H H') (h : IsTx K H v b) : IsTx K H' v b := by
  rcases h with h | ⟨h1, t, h2, h3⟩
  · exact .inl h
  · exact .inr ⟨h1, t, tyx_mono s h2, h3⟩
/-- what is_lag answers of v -/
def IsLg (K : PySem.W.Frag) (H : Hp) (v : V) (b : Bool) : Prop := (b = false ∧ ∃ t, TyX K H v (.type t) ∧ Kind t ∧ t ≠ "tuple") ∨
  (∃ p xs, v = .ref p ∧ H p = some (.tup xs) ∧ ((b = false ∧ xs.length ≠ 2) ∨ (∃ x y, xs = [x, y] ∧ b = false ∧ IsTx K H x false) ∨ (∃ l y, xs = [.str (tx l), y] ∧ b = false ∧ l.length ≤ 100000 ∧ Let l ∧ IsTx K H y false) ∨
    (∃ l m, xs = [.str (tx l), .str (tx m)] ∧ l.length ≤ 100000 ∧ m.length ≤ 100000 ∧ Let l ∧ Let m ∧ b = decide (l = [] ∨ m = []))))
theorem IsLg.mono {K : PySem.W.Frag} {H H' : Hp} {v : V} {b : Bool} (s : Same H H') (h : IsLg K H v b) : IsLg K H' v b := by
  rcases h with ⟨h1, t, h2, h3⟩ | ⟨p, xs, h1, h2, h3⟩
  · exact .inl ⟨h1, t, tyx_mono s h2, h3⟩
  · refine .inr ⟨p, xs, h1, s _ _ h2, ?_⟩
    rcases h3 with h3 | ⟨x, y, e, hb, hx⟩ | ⟨l, y, e, hb, z, hl, hy⟩ | h3
    · exact .inl h3
    · exact .inr (.inl ⟨x, y, e, hb, hx.mono s⟩)
    · exact .inr (.inr (.inl ⟨l, y, e, hb, z, hl, hy.mono s⟩))
    · exact .inr (.inr (.inr h3))
/-- a small lag -/
def IsSmall (K : PySem.W.Frag) (H : Hp) (v : V) (x y : List Nat) : Prop := ∃ p, v = .ref p ∧ H p = some (.tup [.str (tx x), .str (tx y)]) ∧ x.length ≤ 10000 ∧ y.length ≤ 10000 ∧ Let x ∧ Let y
theorem in_pair2 {x y : List Nat} : inV (V.str (tx [])) [V.str (tx x), V.str (tx y)] = decide (x = [] ∨ y = []) := by
  by_cases h : x = [] ∨ y = []
  · rw [in_pair h, decide_eq_true h]
  · rw [decide_eq_false h]
    have e : ∀ z : List Nat, z ≠ [] → eqV (V.str (tx z)) (V.str (tx [])) = false := fun z hz => by
      cases z with
      | nil => exact absurd rfl hz
      | cons a r => first | rfl | simp [eqV] | (simp [eqV, tx])
    have h1 : x ≠ [] := fun z => h (.inl z)
    have h2 : y ≠ [] := fun z => h (.inr z)
    simp [inV, e x h1, e y h2]
end SL
set_option Elab.async false
set_option linter.all false
set_option maxRecDepth 100000
set_option maxHeartbeats 4000000
/-! SlV: data that a heap holds, read as plain data. -/
namespace SL
open PySem PySem.Spec PyProof.Rows L2
mutual
inductive Dv (H : Hp) : V → PyData → Prop
  | non : Dv H .non .none
  | bl (b : Bool) : Dv H (.bl b) (.bool b)
  | int (i : Int) : Dv H (.int i) (.int i)
  | str (l : List Nat) : Dv H (.str (tx l)) (.str (tx l))
  | lst {a : Addr} {xs : List V} {ds : List PyData} : H a = some (.lst xs) → DvAll H xs ds → Dv H (.ref a) (.list ds)
  | tup {a : Addr} {xs : List V} {ds : List PyData} : H a = some (.tup xs) → DvAll H xs ds → Dv H (.ref a) (.tuple ds)
  | emp {a : Addr} : H a = some (.dK []) → Dv H (.ref a) (.dict [])
inductive DvAll (H : Hp) : List V → List PyData → Prop
  | nil : DvAll H [] []
  | cons {v : V} {vs : List V} {d : PyData} {ds : List PyData} : Dv H v d → DvAll H vs ds → DvAll H (v :: vs) (d :: ds)
end
mutual
theorem Dv.mono {H H' : Hp} (s : Same H H') : ∀ (d : PyData) (v : V), Dv H v d → Dv H' v d
  | .none, _, h => by cases h; exact .non
  | .bool b, _, h => by cases h; exact .bl b
  | .int i, _, h => by cases h; exact .int i
  | .str x, _, h => by
    cases h
    exact .str _
  | .list ds, _, h => by
    cases h with
    | lst h1 h2 => exact .lst (s _ _ h1) (DvAll.mono s ds _ h2)
  | .tuple ds, _, h => by
    cases h with
    | tup h1 h2 => exact .tup (s _ _ h1) (DvAll.mono s ds _ h2)
  | .dict ks, _, h => by
    cases h with
    | emp h1 => exact .emp (s _ _ h1)
theorem DvAll.mono {H H' : Hp} (s : Same H H') : ∀ (ds : List PyData) (vs : List V), DvAll H vs ds → DvAll H' vs ds
  | [], _, h => by cases h; exact .nil
  | d :: ds, _, h => by
    cases h with
    | cons h1 h2 => exact .cons (Dv.mono s d _ h1) (DvAll.mono s ds _ h2)
end
mutual
theorem Dv.dp {K : PySem.W.Frag} {H : Hp} : ∀ (d : PyData) (v : V), Dv H v d → d.hasDict = false → Dp K H v d
  | .none, _, h, _ => by cases h; exact .non
  | .bool b, _, h, _ => by cases h; exact .bl b
  | .int i, _, h, _ => by cases h; exact .int i
  | .str x, _, h, _ => by
    cases h
    exact .str _
  | .list ds, _, h, z => by
    cases h with
    | lst h1 h2 => exact .lst (SqL.of h1) (DvAll.dp ds _ h2 (by simpa [PyData.hasDict] using z))
  | .tuple ds, _, h, z => by
    cases h with
    | tup h1 h2 => exact .tup (SqT.of h1) (DvAll.dp ds _ h2 (by simpa [PyData.hasDict] using z))
  | .dict ks, _, _, z => by simp [PyData.hasDict] at z
theorem DvAll.dp {K : PySem.W.Frag} {H : Hp} : ∀ (ds : List PyData) (vs : List V), DvAll H vs ds → PyData.hasDictAll ds = false → DpAll K H vs ds
  | [], _, h, _ => by cases h; exact .nil
  | d :: ds, _, h, z => by
    cases h with
    | cons h1 h2 =>
      simp [PyData.hasDictAll] at z
      exact .cons (Dv.dp d _ h1 z.1) (DvAll.dp ds _ h2 z.2)
end
/-- can be written out -/
def okD (d : PyData) : Bool := (match d with | .dict [] => true | d => d.showable && !d.hasDict) && decide (d.depth ≤ 60) && decide (d.shown.length ≤ 16777216)
theorem Dv.shown {K : PySem.W.Frag} {H : Hp} {v : V} {d : PyData} (h : Dv H v d) (ok : okD d = true) : Shown K H v d.shown := by
  unfold okD at ok
  rw [Bool.and_eq_true, Bool.and_eq_true, decide_eq_true_eq, decide_eq_true_eq] at ok
  obtain ⟨⟨o1, o2⟩, o3⟩ := ok
  by_cases hd : d = .dict []
  · subst hd
    cases h with
    | emp h1 => exact .inr ⟨_, rfl, h1, rfl⟩
  · have o1' : d.showable = true ∧ d.hasDict = false := by
      cases d with
      | dict ks =>
        cases ks with
        | nil => exact absurd rfl hd
        | cons a r => simpa using o1
      | _ => simpa using o1
    exact .inl ⟨d, Dv.dp d v h o1'.2, ⟨o1'.1, o1'.2, o2, o3⟩, rfl⟩
/-- the kind -/
def kindD : PyData → String
  | .none => "NoneType" | .bool _ => "bool" | .int _ => "int" | .str _ => "str" | .list _ => "list" | .tuple _ => "tuple" | .dict _ => "dict"
theorem kind_ok (d : PyData) : Kind (kindD d) := by
  unfold Kind kindD
  cases d <;> simp
theorem Dv.ty {K : PySem.W.Frag} {H : Hp} {v : V} {d : PyData} (h : Dv H v d) : TyX K H v (.type (kindD d)) := by
  cases h with
  | non => exact .base .non
  | bl b => exact .base (.bl b)
  | int i => exact .base (.int i)
  | str l => exact .base (.str _)
  | lst h1 _ => exact .base (.lst h1)
  | tup h1 _ => exact .base (.tup h1)
  | emp h1 => exact .base (.dK h1)
/-- what is_text says of data, of lengths that are small -/
def txB : PyData → Bool
  | .str x => decide (Let x.cps.toList)
  | _ => false
def smS : PyData → Bool
  | .str x => decide (x.cps.toList.length ≤ 1000)
  | _ => true
theorem Dv.tx {K : PySem.W.Frag} {H : Hp} {v : V} {d : PyData} (h : Dv H v d) (s : smS d = true) : IsTx K H v (txB d) := by
  by_cases hk : kindD d = "str"
  · cases h with
    | str l => exact .inl ⟨l, rfl, by have := of_decide_eq_true s; have e : (SL.tx l).cps.toList = l := rfl; rw [e] at this; omega, rfl⟩
    | _ => exact absurd hk (by simp [kindD])
  · refine .inr ⟨?_, kindD d, h.ty, kind_ok d, hk⟩
    cases d <;> first | rfl | exact absurd rfl hk
/-- what is_lag says of data -/
def lgB : PyData → Bool
  | .tuple [a, b] => txB a && txB b && (a.shown == (PyData.str (SL.tx [])).shown || b.shown == (PyData.str (SL.tx [])).shown)
  | _ => false
def smL : PyData → Bool
  | .tuple [a, b] => smS a && smS b
  | _ => true
/-- what is no lag: by its parts -/
def noLg : PyData → Bool
  | .tuple [a, b] => !txB a || !txB b || (match a, b with | .str x, .str y => !x.cps.toList.isEmpty && !y.cps.toList.isEmpty | _, _ => true)
  | _ => true
theorem Dv.lg {K : PySem.W.Frag} {H : Hp} {v : V} {d : PyData} (h : Dv H v d) (s : smL d = true) (n : noLg d = true) : IsLg K H v false := by
  by_cases hk : kindD d = "tuple"
  · cases h with
    | @tup a xs ds h1 h2 =>
      refine .inr ⟨a, xs, rfl, h1, ?_⟩
      match xs, ds, h2 with
      | [], [], _ => exact .inl ⟨rfl, by simp⟩
      | [x], [d], _ => exact .inl ⟨rfl, by simp⟩
      | [x, y], [d, e], .cons hx (.cons hy .nil) =>
        have s' : smS d = true ∧ smS e = true := by simpa [smL] using s
        have tx1 := hx.tx (K := K) s'.1
        have ty1 := hy.tx (K := K) s'.2
        cases hd : txB d with
        | false =>
          rw [hd] at tx1
          exact .inr (.inl ⟨x, y, rfl, rfl, tx1⟩)
        | true =>
          cases hx with
          | str l =>
            have hl : Let l := of_decide_eq_true hd
            have zl : l.length ≤ 1000 := of_decide_eq_true s'.1
            cases he : txB e with
            | false =>
              rw [he] at ty1
              exact .inr (.inr (.inl ⟨l, y, rfl, rfl, by omega, hl, ty1⟩))
            | true =>
              cases hy with
              | str m =>
                have hm : Let m := of_decide_eq_true he
                have zm : m.length ≤ 1000 := of_decide_eq_true s'.2
                refine .inr (.inr (.inr ⟨l, m, rfl, by omega, by omega, hl, hm, ?_⟩))
                have n' : (l.isEmpty = false ∧ m.isEmpty = false) := by
                  have : (!txB (.str (SL.tx l)) || !txB (.str (SL.tx m)) || (!l.isEmpty && !m.isEmpty)) = true := n
                  rw [hd, he] at this
                  simpa using this
                symm
                rw [decide_eq_false_iff_not]
                rintro (rfl | rfl)
                · simp at n'
                · simp at n'
              | _ => simp [txB] at he
          | _ => simp [txB] at hd
      | x :: y :: z :: r, d :: e :: g :: q, _ => exact .inl ⟨rfl, by simp⟩
    | _ => exact absurd hk (by simp [kindD])
  · exact .inl ⟨rfl, kindD d, h.ty, kind_ok d, hk⟩
/-- all but those of l -/
def hide (l : List Addr) (H : Hp) : Hp := fun b => if b ∈ l then none else H b
theorem hide_get {l : List Addr} {e : Addr} {H : Hp} {o : HO} (h : H e = some o) (n : e ∉ l) : hide l H e = some o := by unfold hide; rw [if_neg n]; exact h
theorem hide_to {l : List Addr} {H H' : Hp} (f : ∀ b o, H b = some o → b ∉ l → H' b = some o) : Same (hide l H) H' := fun b o h => by
  unfold hide at h
  by_cases e : b ∈ l
  · rw [if_pos e] at h; cases h
  · rw [if_neg e] at h; exact f b o h e
theorem not_in {l : List Addr} {H H' : Hp} {e : Addr} (h : ∀ c ∈ l, H c ≠ none) (s : Same H H') (n : H' e = none) : e ∉ l := fun m => by
  have z := h e m
  cases q : H e with
  | none => exact z q
  | some o => rw [s _ _ q] at n; cases n
theorem dv_in {l : List Addr} {H : Hp} {c : Addr} {d : PyData} (h : Dv (hide l H) (.ref c) d) : c ∉ l := fun m => by
  have e : hide l H c = none := by unfold hide; rw [if_pos m]
  cases h with
  | lst h1 _ => rw [e] at h1; cases h1
  | tup h1 _ => rw [e] at h1; cases h1
  | emp h1 => rw [e] at h1; cases h1
theorem DvAll.len {H : Hp} : ∀ {vs : List V} {ds : List PyData}, DvAll H vs ds → vs.length = ds.length
  | [], [], _ => rfl
  | _ :: _, _ :: _, .cons _ r => by rw [List.length_cons, List.length_cons, r.len]
theorem same_upd {q : Addr} {H H' : Hp} {o : HO} (s : Same H H') : Same (upd H q o) (upd H' q o) := fun b u h => by
  by_cases e : b = q
  · subst e; rw [upd_same] at h ⊢; exact h
  · rw [upd_ne e] at h ⊢; exact s b u h
end SL
namespace SL
open PySem PySem.Spec PyProof.Rows L2
theorem fin_new {H : Hp} {e : Addr} {o : HO} {R : Hp → Prop} (k : ∀ F, Same (upd H e o) F → F e = some o → R F) : R (upd H e o) := k _ (Same.refl _) upd_same
end SL
namespace SL
open PySem PySem.Spec PyProof.Rows L2
def natL (ks : List Nat) : List V := ks.map fun k : Nat => V.int (k : Int)
theorem dp_nats {K : PySem.W.Frag} {H : Hp} : ∀ ks : List Nat, DpAll K H (natL ks) (ks.map fun k : Nat => PyData.int (k : Int))
  | [] => .nil
  | k :: r => .cons (.int _) (dp_nats r)
theorem lay_nats : ∀ ks : List Nat, PyData.canLayAll0 (ks.map fun k : Nat => PyData.int (k : Int)) = true
  | [] => by simp [PyData.canLayAll0]
  | k :: r => by
    have := lay_nats r
    simp [PyData.canLayAll0, PyData.canLay0, this]
theorem deep_nats : ∀ ks : List Nat, PyData.depthAll (ks.map fun k : Nat => PyData.int (k : Int)) = 0
  | [] => by simp [PyData.depthAll]
  | k :: r => by
    have := deep_nats r
    simp [PyData.depthAll, PyData.depth, this]
theorem w_eqNil {K : PySem.W.Frag} {H : Hp} {Q : VK} {r p : Addr} {ks : List Nat} (h1 : H r = some (.lst (natL ks))) (h2 : H p = some (.lst [])) (q : Q (.bl (decide (ks = []))) H) : rEqU K (.ref r) (.ref p) H Q := by
  refine .inr ⟨.list (ks.map fun k : Nat => PyData.int (k : Int)), .list [], .lst (SqL.of h1) (dp_nats ks), .lst (SqL.of h2) .nil, ?_, by simp [SeqAt.shaped, PyData.canLay0, PyData.canLayAll0, PyData.depth, PyData.depthAll], ?_⟩
  · simp [SeqAt.shaped, PyData.canLay0, PyData.depth, lay_nats, deep_nats]
  · have e : PyData.eqv (.list (ks.map fun k : Nat => PyData.int (k : Int))) (.list []) = decide (ks = []) := by
      cases ks with
      | nil => simp [PyData.eqv, PyData.eqvAll]
      | cons k r => simp [PyData.eqv, PyData.eqvAll]
    rw [e]
    exact q
end SL
set_option Elab.async false
set_option linter.all false
set_option maxRecDepth 100000
set_option maxHeartbeats 4000000
/-! SlY: try with several except clauses that name their error. -/
namespace SL
open PySem PySem.Spec PyProof.Rows L2
/-- behind a clause its name is gone -/
def unD (i : Nat) (D : Ends) : Ends := { nx := fun σ' H' => D.nx (σ'.set i none) H', rt := D.rt, bk := fun σ' H' => D.bk (σ'.set i none) H', ct := fun σ' H' => D.ct (σ'.set i none) H' }
abbrev Clause := Value × Nat × (Addr → Value → Option Addr → TS)
/-- what the clauses together wish of an error of the body -/
def wNamed (K : PySem.W.Frag) (Wout : WX) (D : Ends) : List Clause → WX
  | [] => Wout
  | (c, i, ts) :: r => fun cls d σ H => ∃ b, PySem.W.exmOne K cls c = some b ∧ (b = true → ∀ a, H a = none → ts a cls d (unD i D) (σ.set i (some (.ref a))) H) ∧ (b = false → wNamed K Wout D r cls d σ H)
inductive NamedOk (X : Cx) : List ExceptHandler → List Clause → Prop
  | nil : NamedOk X [] []
  | cons {x n : Str} {c : Value} {i : Nat} {ts : Addr → Value → Option Addr → TS} {b₀ : Stmt} {suite : List Stmt} {np p : Pos} {hds : List ExceptHandler} {l : List Clause} (hc : Names X x c) (hi : X.N[i]? = some n) (hln : X.env.kindOf n = some .local)
      (hsu : ∀ (a : Addr) (oe : Obj) (cls : Value) (d : Option Addr) (pn : List (Addr × Obj)), Zc cls d oe → (∃ vs, oe.data = .fields vs) → PSs (X.suite a ((a, oe) :: pn)) (b₀ :: suite) (ts a cls d)) (r : NamedOk X hds l) :
      NamedOk X (.ExceptHandler (some (.Name x np)) (some n) (b₀ :: suite) p :: hds) ((c, i, ts) :: l)
def tNamed (K : PySem.W.Frag) (l : List Clause) (Wout : WX) (tb : WX → TS) : TS := fun D σ H => tb (wNamed K Wout D l) D σ H
section
variable {X : Cx} {Wout : WX}
/-- the clauses, one after the other, over an error that has landed -/
theorem clauses_run {pins : List (Addr × Obj)} {σ : L2.St} {H : Hp} {D : Ends} {cls : Value} {d : Option Addr} {a : Addr} {B : Heap} {sI s' : Shared} {h3 : Heap} (hN : X.N.Nodup) (tk : Takes X Wout) (hs : X.stack = X.env :: X.outer) (hf : X.env.frame = some X.env.locals)
    (J : Inv X pins σ H sI) (nb : ∀ b o, sI.heap.get? b = some o → b ∉ frs X.stack → B.get? b = some o) (up : sI.heap.UpToSlots h3) (fl : HandSPX.FlyingZ B (X.env :: X.outer) a (Zc cls d) h3) (na : H a = none) (os : s'.os = sI.os) (ag : AllBare s'.gens) :
    ∀ {hds : List ExceptHandler} {l : List Clause}, NamedOk X hds l → wNamed X.K Wout D l cls d σ H → wpAny (model X.prog X.w) X.A (handleBy (.ref a) X.env hds) (SP X pins D) X.xe { s' with heap := h3 } := by
  have ok := J.ok
  have J3 : Inv X pins σ H { s' with heap := h3 } := J.landed nb fl.1 up os ag
  obtain ⟨oe, vs, he, hz, hd⟩ := fl.there
  have offFrames : ∀ {h : Heap} {o : Obj} {vs : Array Value}, h.FunFrames B (X.env :: X.outer) → h.get? a = some o → o.data = .fields vs → a ∉ frs (X.env :: X.outer) := fun {h o vs} ff e dd m => by
    obtain ⟨_, o', e', no⟩ := ff.mem m
    rw [e] at e'
    cases e'
    exact no _ dd
  have off := offFrames fl.2.2.1 he hd
  have nL : a ≠ X.env.locals := fun z => off (List.mem_filterMap.mpr ⟨X.env, List.mem_cons_self, by rw [hf, z]⟩)
  have nF : a ∉ X.fs := fun m => by
    obtain ⟨e, me, q⟩ := List.mem_filterMap.mp m
    exact off (List.mem_filterMap.mpr ⟨e, List.mem_cons_of_mem _ me, q⟩)
  have S3 := J3.suite he hd na nL nF
  intro hds l ok2
  induction ok2 with
  | nil =>
    intro w
    refine wpAny_handleBy_nil ?_
    obtain ⟨_, _, _, oe', vs', T, _, _, he', _, hd', h1, _⟩ := id fl
    unfold PySem.passOn
    refine wpAny_bind (wpAny_field he' hd' h1 ?_)
    rw [if_neg (show ¬ ((Value.ref T == Value.none) = true) from by simp)]
    have on : wpAny (model X.prog X.w) X.A (setFlight (.ref a) X.env.frame) (fun _ s4 => wpAny (model X.prog X.w) X.A (throw (.ref a) : Sem Flow) (SP X pins D) X.xe s4) X.xe { s' with heap := h3 } := by
      rw [hf]
      refine HandSPX.setFlight_upZ fl fun h4 hh4 up4 => wpAny_throw (tk _ _ ?_)
      exact ⟨a, B, sI, pins, σ, H, cls, d, rfl, J, nb, up.trans up4, .inr (.inr (by rw [hs]; exact hh4)), na, os, ag, w⟩
    first
      | exact wpAny_bind (wpAny_pure (wpAny_bind on))
      | exact wpAny_bind on
  | @cons x n c i ts b₀ suite np p hds2 l2 hc hi hln hsu r ih =>
    intro w
    obtain ⟨b, hb1, yes, no⟩ := w
    refine wpAny_handleBy_cons (codeAny_handlers_test ?_) (by intro q; cases q)
    have ofCls : PySem.W.Looks (model X.prog X.w) h3 (typeOf (.ref a)) cls := fun A Q E s k q => wpAny_typeOf_ref (k _ _ he) (by rw [hz.1]; exact q)
    have test := PySem.W.exm_one (M := model X.prog X.w) (J3.kIn) ofCls hb1
    have named : ∀ {Q : Value → Shared → Prop} {E : Value → Shared → Prop}, Q c { s' with heap := h3 } → wpAny (model X.prog X.w) (X.A.mark (some (.ref a))) (eval (.Name x np) X.env) Q E { s' with heap := h3 } := fun {Q E} q => by
      obtain ⟨hg, hdbg, hm | ⟨hm, hv, hnn⟩⟩ := hc
      · exact ld_glob (X := X.suite a ((a, oe) :: (X.pn ++ pins))) S3 hg hm q hdbg
      · exact ld_blt (X := X.suite a ((a, oe) :: (X.pn ++ pins))) S3 hg hm hv q hnn hdbg
    refine named (test.here ?_)
    cases b with
    | false =>
      show wpAny _ X.A (handleBy (.ref a) X.env hds2) _ _ _
      exact ih (no rfl)
    | true =>
      refine codeAny_handlers_suite_as ?_
      refine HandSPX.lands_againZ fl fun h4 fl4 up4 => ?_
      have J4 : Inv X pins σ H { s' with heap := h4 } := J.landed nb fl4.1 (up.trans up4) os ag
      obtain ⟨oe4, vs4, he4, hz4, hd4⟩ := fl4.there
      have S4 := J4.suite he4 hd4 na nL nF
      refine store_ok (X := X.suite a ((a, oe4) :: (X.pn ++ pins))) (v := .ref a) S4 hN hi (.inl hln) rfl (fun s5 S5 => ?_) (.inr hln)
      refine wpAny_mono ((hsu a oe4 cls d (X.pn ++ pins) hz4 ⟨_, hd4⟩).run [] s5 _ H _ S5 (yes rfl a na)) (fun f s6 hsp => ?_) (fun _ _ z => False.elim z)
      have gone : ∀ {σ6 : L2.St} {H6 : Hp} {Q : Shared → Prop}, Inv (X.suite a ((a, oe4) :: (X.pn ++ pins))) [] σ6 H6 s6 → (∀ s7, Inv X pins (σ6.set i none) H6 s7 → Q s7) →
          wpAny (model X.prog X.w) X.A (do bindName X.env n .none; unbindBehindTheSuite X.env n p) (fun _ s7 => Q s7) X.xe s6 := fun {σ6 H6 Q} S6 hq => gone_ok (S6.unsuite ok) hN hi hln hq
      match f, hsp with
      | .next, ⟨σ6, H6, S6, q6⟩ => exact gone S6 fun s7 J7 => ⟨_, _, J7, q6⟩
      | .brk, ⟨σ6, H6, S6, q6⟩ => exact gone S6 fun s7 J7 => ⟨_, _, J7, q6⟩
      | .cont, ⟨σ6, H6, S6, q6⟩ => exact gone S6 fun s7 J7 => ⟨_, _, J7, q6⟩
      | .ret u, ⟨v6, σ6, H6, S6, r6, q6⟩ => exact gone S6 fun s7 J7 => ⟨_, _, _, J7, r6, q6⟩
theorem ps_named (K : PySem.W.Frag) {body : List Stmt} {h₀ : ExceptHandler} {hds : List ExceptHandler} {l : List Clause} {pos : Pos} {tb : WX → TS} (hK : X.K = K) (hs : X.stack = X.env :: X.outer) (hf : X.env.frame = some X.env.locals) (hN : X.N.Nodup) (tk : Takes X Wout)
    (hb : ∀ (W : WX) (pn : List (Addr × Obj)) (xe : Value → Shared → Prop), Takes (X.tr pn xe) W → PassesOwn (model X.prog X.w) X.A X.env xe → PSs (X.tr pn xe) body (tb W)) (hh : NamedOk X (h₀ :: hds) l) :
    PS X (.Try body (h₀ :: hds) [] [] pos) (tNamed K l Wout tb) := by
  subst hK
  refine ⟨fun pins s σ H D I h => ?_⟩
  have ok := I.ok
  have hfr : X.A.frames = some (X.env :: X.outer) := by rw [ok.frames, hs]
  refine wpAny_Try_except ?_
  refine wpAny_mono ((hb (wNamed X.K Wout D l) (X.pn ++ pins) (fun e s₁ => wpAny (model X.prog X.w) X.A (noteFrame e X.env) (fun _ s₂ => wpAny (model X.prog X.w) X.A (setFlight e none) (fun _ s₃ =>
    wpAny (model X.prog X.w) X.A (handleBy e X.env (h₀ :: hds)) (SP X pins D) X.xe s₃) X.xe s₂) X.xe s₁) (fun u s' xx => ?_) PassesOwn.looking).run [] s σ H D (I.toTry _) h) (fun f s1 hsp => ?_) (fun e s1 he => he)
  · obtain ⟨a, B, sI, pins', σ', H', cls, d, rfl, J', nb, up, sky, na, os, ag, w⟩ := xx
    have J : Inv X pins σ' H' sI := J'.ofTry ok
    have sky' : Sky B (X.env :: X.outer) a (Zc cls d) X.env.locals s'.heap := by rw [← hs]; exact sky
    show wpAny (model X.prog X.w) X.A (noteFrame (.ref a) X.env) _ _ _
    exact Sky.land Zc.steady hfr hf sky' fun h3 fl3 up3 => clauses_run hN tk hs hf J nb (up.trans up3) fl3 na os ag hh w
  · match f, hsp with
    | .next, ⟨σ', H', J', q⟩ => exact wpAny_execs_nil ⟨σ', H', J'.ofTry ok, q⟩
    | .brk, ⟨σ', H', J', q⟩ => exact ⟨σ', H', J'.ofTry ok, q⟩
    | .cont, ⟨σ', H', J', q⟩ => exact ⟨σ', H', J'.ofTry ok, q⟩
    | .ret u, ⟨v, σ', H', J', r, q⟩ => exact ⟨v, σ', H', J'.ofTry ok, r, q⟩
end
theorem w_named {K : PySem.W.Frag} {l : List Clause} {Wout : WX} {tb : WX → TS} {D : Ends} {σ : SSt} {H : Hp} (q : tb (wNamed K Wout D l) D σ H) : tNamed K l Wout tb D σ H := q
theorem wNamed_of {K : PySem.W.Frag} {c cls : Value} {i : Nat} {ts : Addr → Value → Option Addr → TS} {r : List Clause} {Wout : WX} {D : Ends} {d : Option Addr} {σ : SSt} {H : Hp} (h : PySem.W.exmOne K cls c = some true)
    (q : ∀ a, H a = none → ts a cls d (unD i D) (σ.set i (some (.ref a))) H) : wNamed K Wout D ((c, i, ts) :: r) cls d σ H := ⟨true, h, fun _ => q, fun h => nomatch h⟩
theorem wNamed_on {K : PySem.W.Frag} {c cls : Value} {i : Nat} {ts : Addr → Value → Option Addr → TS} {r : List Clause} {Wout : WX} {D : Ends} {d : Option Addr} {σ : SSt} {H : Hp} (h : PySem.W.exmOne K cls c = some false)
    (q : wNamed K Wout D r cls d σ H) : wNamed K Wout D ((c, i, ts) :: r) cls d σ H := ⟨false, h, fun z => absurd z (by decide), fun _ => q⟩
/-- an error of one class is not what the clause of another takes -/
theorem exm_other {K : PySem.W.Frag} {S R : Addr} (h1 : PySem.W.subIn K (.ref S) (.type "BaseException") = some true) (h1' : PySem.W.subIn K (.ref R) (.type "BaseException") = some true) (h2 : PySem.W.isClsIn K R = true) (h3 : PySem.W.typeIn K (.ref R) = some (.type "type")) (h4 : PySem.W.subIn K (.ref S) (.ref R) = some false) :
    PySem.W.exmOne K (.ref S) (.ref R) = some false := by
  have e1 : (PySem.W.subIn K (.ref R) (.type "BaseException") == some true) = true := by rw [h1'] <;> rfl
  have e2 : ((PySem.W.clsIn K R).isSome && PySem.W.typeIn K (.ref R) == some (.type "type")) = true := by
    have h2' : (PySem.W.clsIn K R).isSome = true := h2
    rw [h2', h3] <;> rfl
  show (if (PySem.W.subIn K (.ref R) (.type "BaseException") == some true) = true then (if ((PySem.W.clsIn K R).isSome && PySem.W.typeIn K (.ref R) == some (.type "type")) = true then PySem.W.subIn K (.ref S) (.ref R) else none) else none) = some false
  rw [if_pos e1, if_pos e2]
  exact h4
/-- no error of the one is an error of the other -/
def NotErr (K : PySem.W.Frag) (mg : Str → Option Value) (x y : Str) : Prop := PySem.W.exmOne K (.ref (errAt mg x)) (.ref (errAt mg y)) = some false
theorem NotErr.of {K : PySem.W.Frag} {mg : Str → Option Value} {x y : Str} {S R : Addr} (hx : mg x = some (.ref S)) (hy : mg y = some (.ref R)) (h : PySem.W.exmOne K (.ref S) (.ref R) = some false) : NotErr K mg x y := by
  have e1 : errAt mg x = S := by unfold errAt; rw [hx]
  have e2 : errAt mg y = R := by unfold errAt; rw [hy]
  unfold NotErr
  rw [e1, e2]
  exact h
end SL
set_option Elab.async false
set_option linter.all false
set_option maxRecDepth 100000
set_option maxHeartbeats 4000000
/-! SlU: unpacking a text. -/
namespace SL
open PySem PySem.Spec PyProof.Rows L2
def sgL (l : List Nat) : List V := l.map fun c => V.str (tx [c])
section
variable {prog : Program} {w : World} {A : Around} {E : Value → Shared → Prop} {l : List Nat} {I : Addr} {St : Nat → Heap → Prop}
theorem draw_tx (W : Walks prog w A I [I] [I] l.toArray.size (SignAt (tx l)) St) : ∀ (k i : Nat) (s : Shared) (Q : List Value → Shared → Prop), St i s.heap → i + k ≤ l.length →
    (∀ vs h' t', St (i + k) h' → (∀ b o, b ≠ I → s.heap.get? b = some o → h'.get? b = some o) → Vals (sgL ((l.drop i).take k)) vs → Q vs { s with heap := h', toks := t' }) → wpAny (model prog w) A (draw (.ref I) k) Q E s
  | 0, i, s, Q, st, _, hQ => by
    show wpAny _ _ (pure []) Q E s
    exact wpAny_pure (hQ [] s.heap s.toks st (fun _ _ _ h => h) .nil)
  | k + 1, i, s, Q, st, hle, hQ => by
    show wpAny _ _ (pyNext (.ref I) >>= _) Q E s
    refine wpAny_bind (W.item i s _ _ (by simp; omega) st fun v h1 t1 hv st1 k1 => ?_)
    obtain ⟨c, u, hc, rfl⟩ := hv
    refine wpAny_bind (wpAny_holding (draw_tx W k (i + 1) _ _ st1 (by omega) fun vs h2 t2 st2 k2 r => wpAny_pure ?_))
    have hc' : l[i]? = some c := by simpa using hc
    have hd : l.drop i = c :: l.drop (i + 1) := by
      obtain ⟨hi, e⟩ := List.getElem?_eq_some_iff.mp hc'
      rw [List.drop_eq_getElem_cons hi, e]
    refine hQ _ h2 t2 (by rw [show i + (k + 1) = i + 1 + k by omega]; exact st2) (fun b o n h => k2 b o n (k1 b o (by simpa using n) h)) ?_
    rw [hd, List.take_succ_cons]
    exact .cons ⟨u, rfl⟩ r
end
/-- (a, b, ..) = a text of that length -/
def gTxt (n : Nat) (t : TGs) : TG := fun v σ H Q => ∃ l : List Nat, v = .str (tx l) ∧ l.length = n ∧ t (sgL l) σ H Q
section
variable {X : Cx} {pos : Pos}
theorem pg_txt {es : List Expr} {k : Nat} {t : TGs} {n : Nat} (hc : X.calm = true) (h : PGs X es t)
    (hn : (assignEach es X.env).length = n := by rfl) (hst : (assignEach es X.env).findIdx? (·.1) = none := by rfl) : PG X (.Tuple es k pos) (gTxt n t) := by
  refine ⟨fun pins s σ H v u Q I r hw => ?_⟩
  obtain ⟨l, e1, hl, hw⟩ := hw
  subst e1
  obtain ⟨tk, rfl⟩ := r
  rw [PyProof.Rows.assign_Tuple]
  refine wpAny_bind (wpAny_standAt ?_)
  unfold unpack
  rw [hn, hst]
  have hh := I.ok.hd hc
  refine wpAny_bind (wpAny_holding ?_)
  unfold unpackItems
  refine wpAny_bind ?_
  unfold notIterableAtAll
  refine wpAny_bind (wpAny_specialOf (typeIs_str s (tx l) tk) F.slot_str_iter.lookup ?_)
  refine wpAny_pure ?_
  simp only [Bool.false_eq_true, if_false]
  refine wpAny_bind (wpAny_holding (wpAny_pyIter_str fun o St W st => ?_))
  have sz : ∀ b o', b ≠ s.heap.objs.size → (s.heap.push o).get? b = some o' → True := fun _ _ _ _ => trivial
  refine wpAny_bind (wpAny_holding (draw_tx (W _ hh) n 0 _ _ st (by omega) fun vs h1 t1 st1 k1 rv => ?_))
  have hv : vs.length = n := by
    have := Paired.length rv
    rw [← this]
    unfold sgL
    simp [hl]
  rw [if_neg (by omega)]
  have e0 : (0 : Nat) + n = (tx l).cps.size := by
    show 0 + n = l.toArray.size
    simp [hl]
  rw [e0] at st1
  refine wpAny_bind (wpAny_holding ((W _ hh).done _ _ _ st1 fun h2 t2 k2 => ?_))
  simp only [Option.isSome_none, Bool.false_eq_true, if_false]
  refine wpAny_pure ?_
  have I1 : Inv X pins σ H { s with heap := h2, toks := t2 } := I.kept fun b o' e => by
    have nb : b ≠ s.heap.objs.size := Nat.ne_of_lt (Heap.lt_size e)
    exact k2 b o' (by simpa using nb) (k1 b o' nb (Heap.get?_push_of_some _ e))
  have rv' : Vals (sgL l) vs := by
    have : (l.drop 0).take n = l := by rw [List.drop_zero, ← hl, List.take_length]
    rw [this] at rv
    exact rv
  exact h.run pins _ σ H (sgL l) _ Q I1 rv' hw
end
theorem w_gX {n : Nat} {tg : TGs} {l : List Nat} {σ : SSt} {H : Hp} {Q : SSt → Hp → Prop} (q : tg (sgL l) σ H Q) (hn : l.length = n) : gTxt n tg (.str (tx l)) σ H Q := ⟨l, rfl, hn, q⟩
theorem w_gX2 {tg : TGs} {a b : Nat} {σ : SSt} {H : Hp} {Q : SSt → Hp → Prop} (q : tg [V.str (tx [a]), V.str (tx [b])] σ H Q) : gTxt 2 tg (.str (tx [a, b])) σ H Q := ⟨[a, b], rfl, rfl, q⟩
theorem rep_one (n c : Nat) : (List.replicate n [c]).flatten = List.replicate n c := List.flatten_replicate_singleton
theorem let_rep {n c : Nat} (h : Let [c]) : Let (List.replicate n c) := fun d hd => by
  rw [(List.mem_replicate.mp hd).2]
  exact h c (List.mem_singleton.mpr rfl)
/-- the scope of a comprehension within a comprehension, from the def's scope -/
def relabelBy (sc0 scope : Scope) : Scope := { scope with names := scope.names.map fun (n, k) => if (k == .free && sc0.kind == .function && sc0.names.lookup n == some .cell) then (n, .cell) else (n, k) }
theorem relabel_eq (scope : Scope) (env : Env) (sc0 : Scope) (h : env.scope = sc0) : relabel scope env = relabelBy sc0 scope := by
  subst h
  rfl
theorem w_par3 {n m k : Nat} {t : TA} {D : Ends} {σ : SSt} {H : Hp} (q : t σ H fun vs H1 => ∃ u v w, vs = [u, v, w] ∧ D.nx (((σ.set n (some u)).set m (some v)).set k (some w)) H1) : tPar3 n m k t D σ H := q
theorem w_three {u v w : V} {Q : V → V → V → Prop} (q : Q u v w) : ∃ x y z, [u, v, w] = [x, y, z] ∧ Q x y z := ⟨u, v, w, rfl, q⟩
theorem w_seqP3 {n m k : Nat} {t : TA} {t2 : TS} {D : Ends} {σ : SSt} {H : Hp} (q : tPar3 n m k t { D with nx := t2 D } σ H) : tSeq (tPar3 n m k t) t2 D σ H := q
theorem part_two {α : Type} (xs : List α) {i j : Nat} (h1 : i ≤ xs.length) (h2 : j ≤ xs.length) : (xs.drop (HT.sIx xs.length 0 (some (i : Int)))).take (HT.sIx xs.length xs.length (some (j : Int)) - HT.sIx xs.length 0 (some (i : Int))) = (xs.drop i).take (j - i) := by
  rw [sIx_to _ _ (by omega), sIx_to _ _ (by omega), Int.toNat_natCast, Int.toNat_natCast, Nat.min_eq_left h1, Nat.min_eq_left h2]
theorem w_sLB {K : PySem.W.Frag} {H : Hp} {Q : VK} {p : Addr} {xs : List V} {i j : Nat} (h : SqL K H p xs) (h1 : i ≤ xs.length) (h2 : j ≤ xs.length) (q : ∀ a, H a = none → Q (.ref a) (upd H a (.lst ((xs.drop i).take (j - i))))) : rSlU K (.ref p) (some (i : Int)) (some (j : Int)) H Q :=
  .inl ⟨p, xs, rfl, h, by
    rw [show cutV xs (some (i : Int)) (some (j : Int)) = (xs.drop i).take (j - i) from part_two xs h1 h2]
    exact q⟩
theorem w_sSB {K : PySem.W.Frag} {H : Hp} {Q : VK} {l : List Nat} {i j : Nat} (h1 : i ≤ l.length) (h2 : j ≤ l.length) (z : l.length ≤ 16777216) (q : Q (.str (tx ((l.drop i).take (j - i)))) H) : rSlU K (.str (tx l)) (some (i : Int)) (some (j : Int)) H Q :=
  .inr (.inl ⟨_, rfl, by rw [tx_len, sizeLine_eq]; exact z, by
    have e : cutS (tx l) (some (i : Int)) (some (j : Int)) = tx ((l.drop i).take (j - i)) := by
      unfold cutS
      rw [tx_len]
      show tx _ = _
      rw [part_two l h1 h2]
    rw [e]
    exact q⟩)
theorem ixn {n j : Nat} (h : j < n) : ixN n (j : Int) = some j := by
  unfold ixN
  rw [if_pos (by omega), if_pos (by omega)]
  simp
theorem natL_at {ks : List Nat} {i k : Nat} (h : ks[i]? = some k) : (natL ks)[i]? = some (.int (k : Int)) := by
  unfold natL
  rw [List.getElem?_map, h]
  rfl
theorem natL_set (ks : List Nat) (i m : Nat) : (natL ks).set i (.int (m : Int)) = natL (ks.set i m) := by
  unfold natL
  rw [List.map_set]
theorem natL_len (ks : List Nat) : (natL ks).length = ks.length := by unfold natL; rw [List.length_map]
theorem w_neStr {K : PySem.W.Frag} {H : Hp} {Q : VK} {x : Str} (q : Q (.bl false) H) : rNeU K (.str x) (.str x) H Q := .inl ⟨rfl, by rw [decide_eq_true rfl]; exact q⟩
end SL
set_option Elab.async false
set_option linter.all false
set_option maxRecDepth 100000
set_option maxHeartbeats 4000000
/-! SlO: odd values: plain data that may be written out, lists of one thing that may grow; their copies. -/
namespace SL
open PySem PySem.Spec PyProof.Rows L2
theorem repr_short {l : List Nat} (h : Sgn l) : (PyData.shown (.str (tx l))).length ≤ 10 * l.length + 2 := by
  show (reprText (tx l)).length ≤ _
  have := StrLaws.reprText_len (tx l) (fun c hc => by have := h c hc; omega)
  rw [tx_len] at this
  exact this
theorem ok_str {l : List Nat} (h : Sgn l) (z : l.length ≤ 1000) : okD (.str (tx l)) = true := by
  have := repr_short h
  have e : (PyData.shown (.str (tx l))).length ≤ 16777216 := by omega
  simp [okD, PyData.showable, PyData.hasDict, PyData.depth, e]
theorem ok_listS {l m : List Nat} (h : Sgn l) (z : l.length ≤ 1000) (h2 : Sgn m) (z2 : m.length ≤ 1000) : okD (.list [.str (tx l), .str (tx m)]) = true := by
  have e1 := repr_short h
  have e2 := repr_short h2
  have e : (PyData.shown (.list [.str (tx l), .str (tx m)])).length ≤ 16777216 := by
    refine Nat.le_trans (listText_len_le _) ?_
    simp only [PyData.shownAll, List.map_cons, List.map_nil, List.sum_cons, List.sum_nil, List.length_cons, List.length_nil]
    omega
  simp [okD, PyData.showable, PyData.showableAll, PyData.hasDict, PyData.hasDictAll, PyData.depth, PyData.depthAll, e]
theorem ok_tupS {l m : List Nat} (h : Sgn l) (z : l.length ≤ 1000) (h2 : Sgn m) (z2 : m.length ≤ 1000) : okD (.tuple [.str (tx l), .str (tx m)]) = true := by
  have e1 := repr_short h
  have e2 := repr_short h2
  have e : (PyData.shown (.tuple [.str (tx l), .str (tx m)])).length ≤ 16777216 := by
    refine Nat.le_trans (tupleText_len_le _) ?_
    simp only [PyData.shownAll, List.map_cons, List.map_nil, List.sum_cons, List.sum_nil, List.length_cons, List.length_nil]
    omega
  simp [okD, PyData.showable, PyData.showableAll, PyData.hasDict, PyData.hasDictAll, PyData.depth, PyData.depthAll, e]
/-- something that holds no objects -/
inductive Atom : V → PyData → Prop
  | str (l : List Nat) : Atom (.str (tx l)) (.str (tx l))
  | int (i : Int) : Atom (.int i) (.int i)
  | non : Atom .non .none
  | bl (b : Bool) : Atom (.bl b) (.bool b)
theorem Atom.dv {H : Hp} {v : V} {d : PyData} (h : Atom v d) : Dv H v d := by
  cases h with
  | str l => exact .str l
  | int i => exact .int i
  | non => exact .non
  | bl b => exact .bl b
/-- an odd value; a list of it is of one thing, and z may be put behind it -/
def OddV (z : List Nat) (H : Hp) (v : V) : Prop := (∃ d, Dv H v d ∧ okD d = true ∧ (kindD d == "list") = false) ∨ (∃ a x d, v = .ref a ∧ H a = some (.lst [x]) ∧ Atom x d ∧ okD (.list [d, .str (tx z)]) = true)
theorem OddV.mono {z : List Nat} {H H' : Hp} {v : V} (s : Same H H') (h : OddV z H v) : OddV z H' v := by
  rcases h with ⟨d, h1, h2⟩ | ⟨a, x, d, e, h1, h2⟩
  · exact .inl ⟨d, Dv.mono s d v h1, h2⟩
  · exact .inr ⟨a, x, d, e, s _ _ h1, h2⟩
/-- v' is v or a copy of it, made behind H0 -/
def Cp (z : List Nat) (H0 H : Hp) (v v' : V) : Prop := (∃ d, Dv H0 v d ∧ okD d = true ∧ (kindD d == "list") = false ∧ v' = v) ∨ (∃ a x d r, v = .ref a ∧ H0 a = some (.lst [x]) ∧ Atom x d ∧ okD (.list [d, .str (tx z)]) = true ∧ v' = .ref r ∧ H0 r = none ∧ H r = some (.lst [x]))
theorem Cp.keep {z : List Nat} {H0 H H' : Hp} {v v' : V} (h : Cp z H0 H v v') (k : ∀ r o, v' = .ref r → H0 r = none → H r = some o → H' r = some o) : Cp z H0 H' v v' := by
  rcases h with h | ⟨a, x, d, r, h1, h2, h3, h4, h5, h6, h7⟩
  · exact .inl h
  · exact .inr ⟨a, x, d, r, h1, h2, h3, h4, h5, h6, k r _ h5 h6 h7⟩
theorem Cp.same {z : List Nat} {H0 H H' : Hp} {v v' : V} (h : Cp z H0 H v v') (s : Same H H') : Cp z H0 H' v v' := h.keep fun r o _ _ h => s r o h
/-- list(value) if isinstance(value, list) else value -/
def spCopy (K : PySem.W.Frag) : Sp := fun vs H Q _ => ∃ v, vs = [v] ∧ ((∃ t, TyX K H v (.type t) ∧ Kind t ∧ t ≠ "list" ∧ Q v H) ∨ (∃ a xs, v = .ref a ∧ H a = some (.lst xs) ∧ ∀ r H', Same H H' → H r = none → H' r = some (.lst xs) → Q (.ref r) H'))
theorem copy_w {K : PySem.W.Frag} {z : List Nat} {H0 H : Hp} {v : V} {Q : VK} {E : XK} (h : OddV z H0 v) (s : Same H0 H) (q : ∀ v' H', Same H H' → Cp z H0 H' v v' → (∀ r, v' = .ref r → H0 r = none → H r = none) → Q v' H') : spCopy K [v] H Q E := by
  rcases h with ⟨d, h1, h2, h3⟩ | ⟨a, x, d, e, h1, h2, h3⟩
  · refine ⟨v, rfl, .inl ⟨kindD d, (Dv.mono s d v h1).ty, kind_ok d, by simpa using h3, ?_⟩⟩
    refine q v H (Same.refl _) (.inl ⟨d, h1, h2, h3, rfl⟩) fun r e n => ?_
    subst e
    cases h1 with
    | lst g _ => rw [g] at n; cases n
    | tup g _ => rw [g] at n; cases n
    | emp g => rw [g] at n; cases n
  · subst e
    refine ⟨_, rfl, .inr ⟨a, [x], rfl, s _ _ h1, fun r H' s' n g => ?_⟩⟩
    refine q (.ref r) H' s' (.inr ⟨a, x, d, r, rfl, h1, h2, h3, rfl, ?_, g⟩) fun r' e _ => ?_
    · exact Same.none s n
    · cases e; exact n
theorem cp_tx {K : PySem.W.Frag} {z : List Nat} {H0 H : Hp} {v v' : V} (h : Cp z H0 H v v') (s : Same H0 H) (t : IsTx K H0 v false) : IsTx K H v' false := by
  rcases h with ⟨d, h1, h2, h3, rfl⟩ | ⟨a, x, d, r, h1, h2, h3, h4, rfl, h6, h7⟩
  · exact t.mono s
  · exact .inr ⟨rfl, "list", .base (.lst h7), by unfold Kind; simp, by decide⟩
/-- what a refusal needs of the value: it may be written out, when z is behind it too -/
theorem Cp.show {z : List Nat} {H0 H : Hp} {v v' : V} (h : Cp z H0 H v v') (s : Same H0 H) : (∃ d, Dv H v' d ∧ okD d = true ∧ (kindD d == "list") = false) ∨ (∃ r x d, v' = .ref r ∧ H0 r = none ∧ H r = some (.lst [x]) ∧ Dv (upd H r (.lst ([x] ++ [.str (tx z)]))) (.ref r) (.list [d, .str (tx z)]) ∧ okD (.list [d, .str (tx z)]) = true) := by
  rcases h with ⟨d, h1, h2, h3, rfl⟩ | ⟨a, x, d, r, h1, h2, h3, h4, rfl, h6, h7⟩
  · exact .inl ⟨d, Dv.mono s d _ h1, h2, h3⟩
  · exact .inr ⟨r, x, d, rfl, h6, h7, .lst upd_same (.cons h3.dv (.cons (.str _) .nil)), h4⟩
end SL
set_option Elab.async false
set_option linter.all false
set_option maxHeartbeats 1000000
/-! Lev: the distance of two lists by the table of all beginnings, and its band. Plain Lean. -/
namespace Lv
/-- one letter beside another -/
def un (x y : List Nat) (i j : Nat) : Nat := if x.getD i 0 = y.getD j 0 then 0 else 1
theorem un_le (x y : List Nat) (i j : Nat) : un x y i j ≤ 1 := by unfold un; split <;> omega
/-- the table: beginnings of i and of j letters -/
def dl (x y : List Nat) : Nat → Nat → Nat
  | 0, j => j
  | i + 1, 0 => i + 1
  | i + 1, j + 1 => min (min (dl x y i j + un x y i j) (dl x y (i + 1) j + 1)) (dl x y i (j + 1) + 1)
termination_by i j => i + j
theorem un_eq {x y : List Nat} {i j c d : Nat} (h1 : x[i]? = some c) (h2 : y[j]? = some d) : (if (!decide ([c] = [d])) = true then (1 : Int) else 0) = (un x y i j : Nat) := by
  unfold un
  rw [List.getD_eq_getElem?_getD, List.getD_eq_getElem?_getD, h1, h2]
  by_cases h : c = d
  · simp [h]
  · simp [h]
theorem dl_0 (x y : List Nat) (j : Nat) : dl x y 0 j = j := by rw [dl]
theorem dl_r0 (x y : List Nat) (i : Nat) : dl x y i 0 = i := by cases i <;> rw [dl]
theorem dl_s (x y : List Nat) (i j : Nat) : dl x y (i + 1) (j + 1) = min (min (dl x y i j + un x y i j) (dl x y (i + 1) j + 1)) (dl x y i (j + 1) + 1) := by rw [dl]
theorem dl_low (x y : List Nat) : ∀ i j, i ≤ dl x y i j + j ∧ j ≤ dl x y i j + i
  | 0, j => by rw [dl_0]; omega
  | i + 1, 0 => by rw [dl_r0]; omega
  | i + 1, j + 1 => by
    have h1 := dl_low x y i j
    have h2 := dl_low x y (i + 1) j
    have h3 := dl_low x y i (j + 1)
    rw [dl_s]
    omega
termination_by i j => i + j
theorem dl_up (x y : List Nat) : ∀ i j, dl x y i j ≤ max i j
  | 0, j => by rw [dl_0]; omega
  | i + 1, 0 => by rw [dl_r0]; omega
  | i + 1, j + 1 => by
    have h1 := dl_up x y i j
    have h := un_le x y i j
    rw [dl_s]
    omega
termination_by i j => i + j
theorem dl_col (x y : List Nat) (i j : Nat) : dl x y i (j + 1) ≤ dl x y i j + 1 := by
  cases i with
  | zero => rw [dl_0, dl_0]; omega
  | succ i => rw [dl_s]; omega
theorem dl_row (x y : List Nat) (i j : Nat) : dl x y (i + 1) j ≤ dl x y i j + 1 := by
  cases j with
  | zero => rw [dl_r0, dl_r0]; omega
  | succ j => rw [dl_s]; omega
theorem dl_rowB (x y : List Nat) (i : Nat) : ∀ j, dl x y i j ≤ dl x y (i + 1) j + 1
  | 0 => by rw [dl_r0, dl_r0]; omega
  | j + 1 => by
    have h1 := dl_rowB x y i j
    have h2 := dl_col x y i j
    rw [dl_s]
    omega
theorem dl_colB (x y : List Nat) (j : Nat) : ∀ i, dl x y i j ≤ dl x y i (j + 1) + 1
  | 0 => by rw [dl_0, dl_0]; omega
  | i + 1 => by
    have h1 := dl_colB x y j i
    have h2 := dl_row x y i j
    rw [dl_s]
    omega
theorem dl_same {x y : List Nat} {i j : Nat} (h : x.getD i 0 = y.getD j 0) : dl x y (i + 1) (j + 1) = dl x y i j := by
  have h1 := dl_rowB x y i j
  have h2 := dl_colB x y j i
  have e : un x y i j = 0 := by unfold un; rw [if_pos h]
  rw [dl_s, e]
  omega
theorem dl_sym (x y : List Nat) : ∀ i j, dl x y i j = dl y x j i
  | 0, j => by rw [dl_0, dl_r0]
  | i + 1, 0 => by rw [dl_r0, dl_0]
  | i + 1, j + 1 => by
    have e : un x y i j = un y x j i := by
      unfold un
      by_cases h : x.getD i 0 = y.getD j 0
      · rw [if_pos h, if_pos h.symm]
      · rw [if_neg h, if_neg fun z => h z.symm]
    rw [dl_s, dl_s, dl_sym x y i j, dl_sym x y (i + 1) j, dl_sym x y i (j + 1), e]
    omega
termination_by i j => i + j
theorem dl_part {x y u v : List Nat} : ∀ i j, (∀ k, k < i → x.getD k 0 = u.getD k 0) → (∀ k, k < j → y.getD k 0 = v.getD k 0) → dl x y i j = dl u v i j
  | 0, j, _, _ => by rw [dl_0, dl_0]
  | i + 1, 0, _, _ => by rw [dl_r0, dl_r0]
  | i + 1, j + 1, hx, hy => by
    have e : un x y i j = un u v i j := by
      unfold un
      rw [hx i (by omega), hy j (by omega)]
    rw [dl_s, dl_s, dl_part i j (fun k h => hx k (by omega)) (fun k h => hy k (by omega)), dl_part (i + 1) j hx (fun k h => hy k (by omega)), dl_part i (j + 1) (fun k h => hx k (by omega)) hy, e]
termination_by i j => i + j
theorem un_cons (c d : Nat) (x y : List Nat) (i j : Nat) : un (c :: x) (d :: y) (i + 1) (j + 1) = un x y i j := by unfold un; rw [List.getD_cons_succ, List.getD_cons_succ]
theorem dl_head (c : Nat) (x y : List Nat) : ∀ i j, dl (c :: x) (c :: y) (i + 1) (j + 1) = dl x y i j
  | 0, 0 => by rw [dl_0, dl_same (x := c :: x) (y := c :: y) (i := 0) (j := 0) rfl, dl_0]
  | 0, j + 1 => by
    have h1 := dl_head c x y 0 j
    rw [dl_0] at h1
    rw [dl_0, dl_s (c :: x) (c :: y) 0 (j + 1), h1, dl_0, dl_0]
    have := un_le (c :: x) (c :: y) 0 (j + 1)
    omega
  | i + 1, 0 => by
    have h1 := dl_head c x y i 0
    rw [dl_r0] at h1
    have u := un_le (c :: x) (c :: y) (i + 1) 0
    rw [dl_r0, dl_s (c :: x) (c :: y) (i + 1) 0, h1, dl_r0, dl_r0]
    omega
  | i + 1, j + 1 => by
    rw [dl_s (c :: x) (c :: y) (i + 1) (j + 1), dl_s x y i j, dl_head c x y i j, dl_head c x y (i + 1) j, dl_head c x y i (j + 1), un_cons]
termination_by i j => i + j
theorem dl_put (c : Nat) (x y : List Nat) : ∀ i j, dl x (c :: y) i (j + 1) ≤ dl x y i j + 1
  | 0, j => by rw [dl_0, dl_0]; omega
  | i + 1, 0 => by
    have h1 := dl_row x (c :: y) i (0 + 1)
    have h2 := dl_put c x y i 0
    rw [dl_r0] at h2
    rw [dl_r0]
    omega
  | i + 1, j + 1 => by
    have h1 := dl_put c x y i j
    have h2 := dl_put c x y (i + 1) j
    have h3 := dl_put c x y i (j + 1)
    have e : un x (c :: y) i (j + 1) = un x y i j := by unfold un; rw [List.getD_cons_succ]
    rw [dl_s x (c :: y) i (j + 1), dl_s x y i j, e]
    omega
termination_by i j => i + j

/-- the distance -/
def lev (x y : List Nat) : Nat := dl x y x.length y.length
theorem lev_sym (x y : List Nat) : lev x y = lev y x := dl_sym x y _ _
theorem lev_low (x y : List Nat) : x.length ≤ lev x y + y.length ∧ y.length ≤ lev x y + x.length := dl_low x y _ _
theorem lev_up (x y : List Nat) : lev x y ≤ max x.length y.length := dl_up x y _ _
theorem lev_head (c : Nat) (x y : List Nat) : lev (c :: x) (c :: y) = lev x y := dl_head c x y _ _
theorem lev_heads (z x y : List Nat) : lev (z ++ x) (z ++ y) = lev x y := by
  induction z with
  | nil => rfl
  | cons c z ih => rw [List.cons_append, List.cons_append, lev_head, ih]
theorem lev_tail (c : Nat) (x y : List Nat) : lev (x ++ [c]) (y ++ [c]) = lev x y := by
  unfold lev
  rw [List.length_append, List.length_append]
  show dl _ _ (x.length + 1) (y.length + 1) = _
  rw [dl_same (by simp [List.getD_eq_getElem?_getD])]
  refine dl_part _ _ (fun k h => ?_) (fun k h => ?_)
  · simp [List.getD_eq_getElem?_getD, List.getElem?_append_left h]
  · simp [List.getD_eq_getElem?_getD, List.getElem?_append_left h]
theorem lev_tails (z x y : List Nat) : lev (x ++ z) (y ++ z) = lev x y := by
  induction z generalizing x y with
  | nil => rw [List.append_nil, List.append_nil]
  | cons c z ih =>
    have e1 : x ++ c :: z = (x ++ [c]) ++ z := by simp
    have e2 : y ++ c :: z = (y ++ [c]) ++ z := by simp
    rw [e1, e2, ih, lev_tail]
theorem lev_put (c : Nat) (x y : List Nat) : lev x (c :: y) ≤ lev x y + 1 := dl_put c x y _ _
theorem lev_sub {x y : List Nat} (h : List.Sublist x y) : lev x y ≤ y.length - x.length := by
  induction h with
  | slnil => unfold lev; rw [List.length_nil, dl_0]; omega
  | @cons l1 l2 a s ih =>
    have h1 := lev_put a l1 l2
    have h2 := s.length_le
    rw [List.length_cons]
    omega
  | @cons_cons l1 l2 a s ih =>
    rw [lev_head, List.length_cons, List.length_cons]
    omega
theorem lev_sub_eq {x y : List Nat} (h : List.Sublist x y) : lev x y = y.length - x.length := by
  have h1 := lev_sub h
  have h2 := lev_low x y
  omega
theorem lev_self (x : List Nat) : lev x x = 0 := by
  have := lev_sub (List.Sublist.refl x)
  omega

/-! the band: k is the place in it -/
def bval (x y : List Nat) (most i k : Nat) : Int := if most ≤ i + k ∧ i + k ≤ most + y.length then ((min (dl x y i (i + k - most)) (most + 1) : Nat) : Int) else (most : Int) + 1
def bandL (x y : List Nat) (most i : Nat) : List Int := (List.range (2 * most + 1)).map (bval x y most i)
theorem bandL_len (x y : List Nat) (most i : Nat) : (bandL x y most i).length = 2 * most + 1 := by unfold bandL; rw [List.length_map, List.length_range]
theorem bandL_at (x y : List Nat) {most i k : Nat} (h : k < 2 * most + 1) : (bandL x y most i)[k]? = some (bval x y most i k) := by
  unfold bandL
  rw [List.getElem?_map, List.getElem?_range h]
  rfl
theorem bval_0 (x y : List Nat) (most k : Nat) (hk : k ≤ 2 * most) : bval x y most 0 k = if most ≤ k ∧ k ≤ most + y.length then (k : Int) - most else (most : Int) + 1 := by
  unfold bval
  rw [Nat.zero_add, dl_0]
  split <;> omega
theorem bstep {x y : List Nat} {most i k : Nat} {m : Int} (h0 : m ≤ most + 1)
    (h1 : most < i + 1 + k → i + 1 + k ≤ most + y.length → m ≤ bval x y most i k + un x y i (i + k - most))
    (h2 : most < i + 1 + k → i + 1 + k ≤ most + y.length → 0 < k → m ≤ bval x y most (i + 1) (k - 1) + 1)
    (h3 : most ≤ i + 1 + k → i + 1 + k ≤ most + y.length → k < 2 * most → m ≤ bval x y most i (k + 1) + 1)
    (hm : m = most + 1 ∨ (most < i + 1 + k ∧ i + 1 + k ≤ most + y.length ∧ m = bval x y most i k + un x y i (i + k - most)) ∨
      (most < i + 1 + k ∧ i + 1 + k ≤ most + y.length ∧ 0 < k ∧ m = bval x y most (i + 1) (k - 1) + 1) ∨ (most ≤ i + 1 + k ∧ i + 1 + k ≤ most + y.length ∧ k < 2 * most ∧ m = bval x y most i (k + 1) + 1))
    (hk : k ≤ 2 * most) : m = bval x y most (i + 1) k := by
  by_cases ho : most ≤ i + 1 + k ∧ i + 1 + k ≤ most + y.length
  · obtain ⟨ha, hb⟩ := ho
    have e0 : bval x y most (i + 1) k = ((min (dl x y (i + 1) (i + 1 + k - most)) (most + 1) : Nat) : Int) := by
      unfold bval
      rw [if_pos ⟨ha, hb⟩]
    have e3 : bval x y most i (k + 1) = ((min (dl x y i (i + 1 + k - most)) (most + 1) : Nat) : Int) := by
      unfold bval
      rw [if_pos (by omega), show i + (k + 1) - most = i + 1 + k - most by omega]
    by_cases hz : i + 1 + k = most
    · rw [show i + 1 + k - most = 0 by omega, dl_r0] at e0 e3
      have g3 := h3 (by omega) hb
      rw [e3] at g3 hm
      rw [e0]
      omega
    · obtain ⟨j, hj⟩ : ∃ j, i + 1 + k - most = j + 1 := ⟨i + k - most, by omega⟩
      rw [hj, dl_s] at e0
      rw [hj] at e3
      have e1 : bval x y most i k = ((min (dl x y i j) (most + 1) : Nat) : Int) := by
        unfold bval
        rw [if_pos (by omega), show i + k - most = j by omega]
      have ej : i + k - most = j := by omega
      have g1 := h1 (by omega) hb
      have g2 := h2 (by omega) hb
      have g3 := h3 (by omega) hb
      have l2 := dl_low x y (i + 1) j
      have l3 := dl_low x y i (j + 1)
      have u := un_le x y i j
      rw [e1, ej] at g1 hm
      rw [e3] at g3 hm
      by_cases hk0 : 0 < k
      · have e2 : bval x y most (i + 1) (k - 1) = ((min (dl x y (i + 1) j) (most + 1) : Nat) : Int) := by
          unfold bval
          rw [if_pos (by omega), show i + 1 + (k - 1) - most = j by omega]
        rw [e2] at g2 hm
        rw [e0]
        omega
      · rw [e0]
        omega
  · have e0 : bval x y most (i + 1) k = (most : Int) + 1 := by
      unfold bval
      rw [if_neg ho]
    rw [e0]
    omega
/-- what the last row tells -/
theorem band_end (x y : List Nat) {most : Nat} (h : x.length ≤ y.length) (hm : y.length ≤ most + x.length) : bval x y most x.length (y.length - x.length + most) = ((min (lev x y) (most + 1) : Nat) : Int) := by
  unfold bval lev
  rw [if_pos (by omega), show x.length + (y.length - x.length + most) - most = y.length by omega]
/-- both ends cut away -/
theorem lev_cutT {x y : List Nat} {j : Nat} (h : x.reverse.take j = y.reverse.take j) : lev (x.take (x.length - j)) (y.take (y.length - j)) = lev x y := by
  have e : x.drop (x.length - j) = y.drop (y.length - j) := by
    rw [List.take_reverse, List.take_reverse] at h
    exact List.reverse_inj.mp h
  have h1 : lev (x.take (x.length - j) ++ x.drop (x.length - j)) (y.take (y.length - j) ++ y.drop (y.length - j)) = lev (x.take (x.length - j)) (y.take (y.length - j)) := by
    rw [← e]
    exact lev_tails _ _ _
  rw [List.take_append_drop, List.take_append_drop] at h1
  exact h1.symm
theorem lev_cutH {x y : List Nat} {k : Nat} (h : x.take k = y.take k) : lev (x.drop k) (y.drop k) = lev x y := by
  have h1 : lev (x.take k ++ x.drop k) (y.take k ++ y.drop k) = lev (x.drop k) (y.drop k) := by
    rw [← h]
    exact lev_heads _ _ _
  rw [List.take_append_drop, List.take_append_drop] at h1
  exact h1.symm
end Lv
set_option Elab.async false
set_option linter.all false
set_option maxHeartbeats 1000000
/-! Lev2: the distance's triangle and what it says of joined rows. Plain Lean. -/
namespace Lv
theorem un_tri (x y z : List Nat) (i j k : Nat) : un x z i k ≤ un x y i j + un y z j k := by
  unfold un
  by_cases h1 : x.getD i 0 = y.getD j 0
  · by_cases h2 : y.getD j 0 = z.getD k 0
    · rw [if_pos (h1.trans h2)]; omega
    · rw [if_neg h2]; split <;> omega
  · rw [if_neg h1]; split <;> omega
theorem dl_tri (x y z : List Nat) : ∀ i j k, dl x z i k ≤ dl x y i j + dl y z j k
  | 0, j, k => by
    have h := dl_low y z j k
    rw [dl_0, dl_0]
    omega
  | i + 1, j, 0 => by
    have h := dl_low x y (i + 1) j
    rw [dl_r0, dl_r0]
    omega
  | i + 1, 0, k + 1 => by
    have h := dl_up x z (i + 1) (k + 1)
    rw [dl_r0, dl_0]
    omega
  | i + 1, j + 1, k + 1 => by
    have t1 := dl_tri x y z i j k
    have t2 := dl_tri x y z i (j + 1) (k + 1)
    have t3 := dl_tri x y z (i + 1) (j + 1) k
    have t4 := dl_tri x y z (i + 1) j (k + 1)
    have t5 := dl_tri x y z (i + 1) j k
    have t6 := dl_tri x y z i j (k + 1)
    have u := un_tri x y z i j k
    have e1 := dl_s x y i j
    have e2 := dl_s y z j k
    have e3 := dl_s x z i k
    omega
termination_by i j k => i + j + k
theorem lev_tri (x y z : List Nat) : lev x z ≤ lev x y + lev y z := dl_tri x y z _ _ _
/-- one gap more -/
theorem gap_add {A B b0 b1 u v : List Nat} {t : Nat} (hb : b0 = [] ∨ b1 = []) (h : lev (A ++ b1) (B ++ b0) ≤ t) : lev (A ++ u) (B ++ v) ≤ t + lev (b0 ++ u) (b1 ++ v) := by
  rcases hb with rfl | rfl
  · have h1 := lev_tri (A ++ u) (A ++ (b1 ++ v)) (B ++ v)
    have h2 := lev_heads A u (b1 ++ v)
    have h3 := lev_tails v (A ++ b1) B
    rw [List.append_assoc] at h3
    rw [List.append_nil] at h
    rw [List.nil_append]
    omega
  · have h1 := lev_tri (A ++ u) (B ++ (b0 ++ u)) (B ++ v)
    have h2 := lev_heads B (b0 ++ u) v
    have h3 := lev_tails u A (B ++ b0)
    rw [List.append_assoc] at h3
    rw [List.append_nil] at h
    rw [List.nil_append]
    omega
end Lv
set_option Elab.async false
set_option linter.all false
set_option maxHeartbeats 1000000
/-! Wd: lags behind words. Plain Lean. -/
namespace Wd
/-- the lag behind two texts -/
def bh (x y : List Nat) : Option (List Nat × List Nat) := if x.take y.length = y then some (x.drop y.length, []) else if y.take x.length = x then some ([], y.drop x.length) else none
theorem take_app (c x : List Nat) (n : Nat) : (c ++ x).take (c.length + n) = c ++ x.take n := by
  induction c with
  | nil => simp
  | cons a c ih => rw [List.cons_append, List.length_cons, show c.length + 1 + n = (c.length + n) + 1 by omega, List.take_succ_cons, ih, List.cons_append]
theorem drop_app (c x : List Nat) (n : Nat) : (c ++ x).drop (c.length + n) = x.drop n := by
  induction c with
  | nil => simp
  | cons a c ih => rw [List.cons_append, List.length_cons, show c.length + 1 + n = (c.length + n) + 1 by omega, List.drop_succ_cons, ih]
theorem bh_app (c x y : List Nat) : bh (c ++ x) (c ++ y) = bh x y := by
  unfold bh
  rw [List.length_append, List.length_append, take_app, take_app, drop_app, drop_app]
  simp only [List.append_cancel_left_eq]
theorem bh_some {x y u v : List Nat} (h : bh x y = some (u, v)) : ∃ c, x = c ++ u ∧ y = c ++ v ∧ (u = [] ∨ v = []) := by
  unfold bh at h
  by_cases h1 : x.take y.length = y
  · rw [if_pos h1] at h
    cases h
    exact ⟨y, by have := List.take_append_drop y.length x; rw [h1] at this; exact this.symm, by simp, .inr rfl⟩
  · rw [if_neg h1] at h
    by_cases h2 : y.take x.length = x
    · rw [if_pos h2] at h
      cases h
      exact ⟨x, by simp, by have := List.take_append_drop x.length y; rw [h2] at this; exact this.symm, .inl rfl⟩
    · rw [if_neg h2] at h
      cases h
theorem bh_more {x y u v : List Nat} (a b : List Nat) (h : bh x y = some (u, v)) : bh (x ++ a) (y ++ b) = bh (u ++ a) (v ++ b) := by
  obtain ⟨c, rfl, rfl, _⟩ := bh_some h
  rw [List.append_assoc, List.append_assoc, bh_app]
theorem bh_turn (x y : List Nat) : bh y x = (bh x y).map fun p => (p.2, p.1) := by
  unfold bh
  by_cases h1 : x.take y.length = y
  · by_cases h2 : y.take x.length = x
    · have l1 := congrArg List.length h1
      have l2 := congrArg List.length h2
      rw [List.length_take] at l1 l2
      have e : x.length = y.length := by omega
      rw [if_pos h2, if_pos h1]
      have d1 : y.drop x.length = [] := List.drop_of_length_le (by omega)
      have d2 : x.drop y.length = [] := List.drop_of_length_le (by omega)
      simp [d1, d2]
    · rw [if_neg h2, if_pos h1, if_pos h1]
      rfl
  · by_cases h2 : y.take x.length = x
    · rw [if_pos h2, if_neg h1, if_pos h2]
      rfl
    · rw [if_neg h2, if_neg h1, if_neg h1, if_neg h2]
      rfl
theorem bh_len {x y u v : List Nat} (h : bh x y = some (u, v)) : u.length ≤ x.length ∧ v.length ≤ y.length := by
  obtain ⟨c, rfl, rfl, _⟩ := bh_some h
  simp
end Wd
set_option Elab.async false
set_option linter.all false
set_option maxHeartbeats 1000000
/-! Rot: texts written round and round, their periods and roots. Plain Lean. -/
namespace Rt
/-- the letter at i of the text written again and again -/
def cy (w : List Nat) (i : Nat) : Nat := w.getD (i % w.length) 0
theorem cy_lt {w : List Nat} {i : Nat} (h : i < w.length) : cy w i = w.getD i 0 := by unfold cy; rw [Nat.mod_eq_of_lt h]
theorem eq_of_cy {u v : List Nat} (h : u.length = v.length) (e : ∀ i, i < u.length → cy u i = cy v i) : u = v := by
  apply List.ext_getElem h
  intro i h1 h2
  have := e i h1
  rw [cy_lt h1, cy_lt h2] at this
  simpa [List.getD_eq_getElem?_getD, h1, h2] using this
theorem cy_add (w : List Nat) (i k : Nat) : cy w (i + w.length * k) = cy w i := by unfold cy; rw [Nat.add_mul_mod_self_left]
theorem cy_len (w : List Nat) (i : Nat) : cy w (i + w.length) = cy w i := by unfold cy; rw [Nat.add_mod_right]
def rot (k : Nat) (w : List Nat) : List Nat := w.drop k ++ w.take k
theorem rot_len {w : List Nat} {k : Nat} (hk : k ≤ w.length) : (rot k w).length = w.length := by
  unfold rot
  rw [List.length_append, List.length_drop, List.length_take]
  omega
theorem rot_cy {w : List Nat} {k : Nat} (hn : 0 < w.length) (hk : k ≤ w.length) (i : Nat) : cy (rot k w) i = cy w (i + k) := by
  unfold cy
  rw [rot_len hk]
  have hj : i % w.length < w.length := Nat.mod_lt _ hn
  have e : (i + k) % w.length = (i % w.length + k) % w.length := by rw [Nat.mod_add_mod]
  rw [e]
  generalize i % w.length = j at hj
  unfold rot
  rw [List.getD_eq_getElem?_getD, List.getD_eq_getElem?_getD, List.getElem?_append]
  by_cases h : j < w.length - k
  · rw [if_pos (by rw [List.length_drop]; exact h), List.getElem?_drop, Nat.mod_eq_of_lt (by omega), Nat.add_comm k j]
  · rw [if_neg (by rw [List.length_drop]; exact h), List.length_drop, List.getElem?_take, if_pos (by omega)]
    have e2 : (j + k) % w.length = j - (w.length - k) := by
      rw [Nat.mod_eq_sub_mod (by omega), Nat.mod_eq_of_lt (by omega)]
      omega
    rw [e2]
/-- after k letters it goes on as from the start -/
def Per (w : List Nat) (k : Nat) : Prop := ∀ i, cy w (i + k) = cy w i
theorem per_len (w : List Nat) : Per w w.length := cy_len w
theorem per_0 (w : List Nat) : Per w 0 := fun _ => rfl
theorem Per.add {w : List Nat} {a b : Nat} (h : Per w a) (k : Per w b) : Per w (a + b) := fun i => by rw [← Nat.add_assoc, k, h]
theorem Per.mul {w : List Nat} {a : Nat} (h : Per w a) : ∀ q, Per w (a * q)
  | 0 => per_0 w
  | q + 1 => by rw [Nat.mul_succ]; exact (h.mul q).add h
theorem Per.sub {w : List Nat} {a b : Nat} (h : Per w a) (k : Per w b) (l : b ≤ a) : Per w (a - b) := fun i => by
  rw [← k (i + (a - b)), show i + (a - b) + b = i + a by omega, h]
theorem Per.mod {w : List Nat} {a b : Nat} (h : Per w a) (k : Per w b) : Per w (a % b) := by
  have e : a % b = a - b * (a / b) := by have := Nat.div_add_mod a b; omega
  rw [e]
  exact h.sub (k.mul _) (Nat.mul_div_le a b)
theorem rot_fix {w : List Nat} {k : Nat} (hn : 0 < w.length) (hk : k ≤ w.length) : rot k w = w ↔ Per w k := by
  constructor
  · intro h i
    rw [← rot_cy hn hk, h]
  · intro h
    exact eq_of_cy (rot_len hk) fun i _ => by rw [rot_cy hn hk, h]
theorem least {P : Nat → Prop} {n : Nat} (h : P n) : ∃ m, m ≤ n ∧ P m ∧ ∀ k, k < m → ¬ P k := by
  induction n using Nat.strongRecOn with
  | ind n ih =>
    by_cases e : ∃ k, k < n ∧ P k
    · obtain ⟨k, h1, h2⟩ := e
      obtain ⟨m, m1, m2, m3⟩ := ih k h1 h2
      exact ⟨m, by omega, m2, m3⟩
    · exact ⟨n, Nat.le_refl _, h, fun k hk hp => e ⟨k, hk, hp⟩⟩
/-- r is the length of w's root -/
structure IsR (w : List Nat) (r : Nat) : Prop where
  pos : 0 < r
  le : r ≤ w.length
  per : Per w r
  dvd : ∀ k, Per w k → r ∣ k
theorem IsR.uniq {w : List Nat} {r s : Nat} (h : IsR w r) (k : IsR w s) : r = s := Nat.dvd_antisymm (h.dvd _ k.per) (k.dvd _ h.per)
theorem isR_of {w : List Nat} {r : Nat} (h0 : 0 < r) (h1 : r ≤ w.length) (h2 : Per w r) (h3 : ∀ k, 0 < k → k < r → ¬ Per w k) : IsR w r :=
  ⟨h0, h1, h2, fun k hk => by
    have h4 := hk.mod h2
    by_cases e : k % r = 0
    · exact Nat.dvd_of_mod_eq_zero e
    · exact absurd h4 (h3 _ (by omega) (Nat.mod_lt _ h0))⟩
theorem exR (w : List Nat) (hn : 0 < w.length) : ∃ r, IsR w r := by
  obtain ⟨m, h1, h2, h3⟩ := least (P := fun k => 0 < k ∧ Per w k) (n := w.length) ⟨hn, per_len w⟩
  exact ⟨m, isR_of h2.1 h1 h2.2 fun k k0 km hp => h3 k km ⟨k0, hp⟩⟩
theorem IsR.min {w : List Nat} {r : Nat} (h : IsR w r) {k : Nat} (k0 : 0 < k) (hk : Per w k) : r ≤ k := Nat.le_of_dvd k0 (h.dvd k hk)
/-! rounds of a piece -/
def rds (q : Nat) (p : List Nat) : List Nat := (List.replicate q p).flatten
theorem rds_len (q : Nat) (p : List Nat) : (rds q p).length = q * p.length := SL.rep_len q p
theorem rds_succ (q : Nat) (p : List Nat) : rds (q + 1) p = p ++ rds q p := by unfold rds; rw [List.replicate_succ, List.flatten_cons]
theorem rds_at (p : List Nat) : ∀ (q i : Nat), i < q * p.length → (rds q p).getD i 0 = p.getD (i % p.length) 0
  | 0, i, h => by omega
  | q + 1, i, h => by
    rw [rds_succ]
    rw [List.getD_eq_getElem?_getD, List.getElem?_append]
    by_cases e : i < p.length
    · rw [if_pos e, ← List.getD_eq_getElem?_getD, Nat.mod_eq_of_lt e]
    · rw [if_neg e, ← List.getD_eq_getElem?_getD, rds_at p q (i - p.length) (by rw [Nat.succ_mul] at h; omega), Nat.mod_eq_sub_mod (a := i) (by omega)]
theorem rds_cy {p : List Nat} {q : Nat} (hq : 0 < q) (hp : 0 < p.length) (i : Nat) : cy (rds q p) i = cy p i := by
  have hz : 0 < q * p.length := Nat.mul_pos hq hp
  show (rds q p).getD (i % (rds q p).length) 0 = _
  rw [rds_len, rds_at p q _ (Nat.mod_lt _ hz)]
  unfold cy
  rw [Nat.mod_mul_left_mod]
theorem take_cy {w : List Nat} {r : Nat} (h0 : 0 < r) (hr : r ≤ w.length) (h : Per w r) (i : Nat) : cy (w.take r) i = cy w i := by
  have e : (w.take r).length = r := by rw [List.length_take]; omega
  have hj : i % r < r := Nat.mod_lt _ h0
  have h1 : cy w i = cy w (i % r) := by
    have := (h.mul (i / r)) (i % r)
    rw [← this, Nat.mod_add_div]
  have h2 : cy w (i % r) = w.getD (i % r) 0 := cy_lt (Nat.lt_of_lt_of_le hj hr)
  rw [h1, h2]
  unfold cy
  rw [e, List.getD_eq_getElem?_getD, List.getD_eq_getElem?_getD, List.getElem?_take, if_pos hj]
/-- a part of the text is its rounds, just where this part is a period that divides the length -/
theorem rounds_iff {w : List Nat} {s : Nat} (hs : 0 < s) (hn : 0 < w.length) (hd : s ∣ w.length) : rds (w.length / s) (w.take s) = w ↔ Per w s := by
  have hle : s ≤ w.length := Nat.le_of_dvd hn hd
  have ht : (w.take s).length = s := by rw [List.length_take]; omega
  have hq : 0 < w.length / s := Nat.div_pos hle hs
  constructor
  · intro h i
    rw [← h, rds_cy hq (by omega), rds_cy hq (by omega)]
    have := cy_len (w.take s) i
    rw [ht] at this
    exact this
  · intro h
    refine eq_of_cy ?_ fun i _ => ?_
    · rw [rds_len, ht]
      exact Nat.div_mul_cancel hd
    · rw [rds_cy hq (by omega), take_cy hs hle h]
theorem IsR.rounds {w : List Nat} {r : Nat} (h : IsR w r) : rds (w.length / r) (w.take r) = w :=
  (rounds_iff h.pos (Nat.lt_of_lt_of_le h.pos h.le) (h.dvd _ (per_len w))).mpr h.per
/-- the law's root: the least size that divides the length and of which the text is rounds -/
theorem root_first {w : List Nat} {r : Nat} (h : IsR w r) : w.length % r = 0 ∧ rds (w.length / r) (w.take r) = w ∧ ∀ s, 0 < s → s < r → ¬ (w.length % s = 0 ∧ rds (w.length / s) (w.take s) = w) := by
  have hn : 0 < w.length := Nat.lt_of_lt_of_le h.pos h.le
  refine ⟨Nat.mod_eq_zero_of_dvd (h.dvd _ (per_len w)), h.rounds, fun s s0 sr ⟨h1, h2⟩ => ?_⟩
  have hp := (rounds_iff s0 hn (Nat.dvd_of_mod_eq_zero h1)).mp h2
  have := h.min s0 hp
  omega
/-! turns -/
/-- one, turned by k, is other -/
def Trn (u v : List Nat) (k : Nat) : Prop := ∀ i, cy u (i + k) = cy v i
theorem trn_iff {u v : List Nat} {k : Nat} (hn : 0 < u.length) (hk : k ≤ u.length) (e : u.length = v.length) : rot k u = v ↔ Trn u v k := by
  constructor
  · intro h i
    rw [← h, rot_cy hn hk]
  · intro h
    exact eq_of_cy (by rw [rot_len hk, e]) fun i _ => by rw [rot_cy hn hk, h]
theorem Trn.sub {u v : List Nat} {k s : Nat} (h : Trn u v k) (p : Per u s) (l : s ≤ k) : Trn u v (k - s) := fun i => by
  rw [← h i, ← p (i + (k - s)), show i + (k - s) + s = i + k by omega]
theorem Trn.add {u v : List Nat} {k s : Nat} (h : Trn u v k) (p : Per u s) : Trn u v (k + s) := fun i => by
  rw [← h i, ← p (i + k), Nat.add_assoc]
theorem Trn.mod {u v : List Nat} {k s : Nat} (h : Trn u v k) (p : Per u s) : Trn u v (k % s) := by
  have e : k % s = k - s * (k / s) := by have := Nat.div_add_mod k s; omega
  rw [e]
  exact h.sub (p.mul _) (Nat.mul_div_le k s)
theorem Trn.diff {u v : List Nat} {k j : Nat} (h : Trn u v k) (g : Trn u v j) (l : j ≤ k) (n : ∃ q, k ≤ u.length * q) : Per u (k - j) := fun i => by
  -- from i on: i stands j behind some place
  obtain ⟨q, hq⟩ := n
  have e1 : cy u i = cy u (i + u.length * q) := (cy_add u i q).symm
  have e2 : cy u (i + (k - j)) = cy u (i + (k - j) + u.length * q) := (cy_add u _ q).symm
  rw [e1, e2]
  have a1 : i + u.length * q = (i + u.length * q - j) + j := by omega
  have a2 : i + (k - j) + u.length * q = (i + u.length * q - j) + k := by omega
  rw [a1, a2, h, g]
theorem trn_same {u v : List Nat} {r k j : Nat} (hr : IsR u r) (h : Trn u v k) (g : Trn u v j) (hk : k < r) (hj : j < r) : k = j := by
  have hn : 0 < u.length := Nat.lt_of_lt_of_le hr.pos hr.le
  rcases Nat.le_total j k with l | l
  · have p := h.diff g l ⟨1, by have := hr.le; omega⟩
    have d := hr.dvd _ p
    have := Nat.eq_zero_of_dvd_of_lt d (by omega)
    omega
  · have p := g.diff h l ⟨1, by have := hr.le; omega⟩
    have d := hr.dvd _ p
    have := Nat.eq_zero_of_dvd_of_lt d (by omega)
    omega
end Rt
set_option Elab.async false
set_option linter.all false
namespace Lv
open Rt
/-- a step of a way from one text to another -/
inductive Op where
  | m (a b : Nat)
  | d (a : Nat)
  | i (b : Nat)
def Op.l : Op → List Nat | .m a _ => [a] | .d a => [a] | .i _ => []
def Op.r : Op → List Nat | .m _ b => [b] | .d _ => [] | .i b => [b]
def Op.c : Op → Nat | .m a b => if a = b then 0 else 1 | .d _ => 1 | .i _ => 1
def lf : List Op → List Nat | [] => [] | o :: t => o.l ++ lf t
def rt : List Op → List Nat | [] => [] | o :: t => o.r ++ rt t
def co : List Op → Nat | [] => 0 | o :: t => o.c + co t
theorem lf_app : ∀ a b : List Op, lf (a ++ b) = lf a ++ lf b
  | [], _ => rfl
  | o :: t, b => by rw [List.cons_append, lf, lf, lf_app t b, List.append_assoc]
theorem rt_app : ∀ a b : List Op, rt (a ++ b) = rt a ++ rt b
  | [], _ => rfl
  | o :: t, b => by rw [List.cons_append, rt, rt, rt_app t b, List.append_assoc]
theorem co_app : ∀ a b : List Op, co (a ++ b) = co a + co b
  | [], b => by rw [List.nil_append, co, Nat.zero_add]
  | o :: t, b => by rw [List.cons_append, co, co, co_app t b, Nat.add_assoc]
theorem lev_cons (a b : Nat) (x y : List Nat) : lev (a :: x) (b :: y) ≤ lev x y + if a = b then 0 else 1 := by
  by_cases e : a = b
  · subst e
    rw [lev_head, if_pos rfl]
    omega
  · rw [if_neg e]
    have h1 := lev_tri (a :: x) (b :: x) (b :: y)
    rw [lev_head] at h1
    have h2 := lev_tails x [a] [b]
    have h3 := lev_up [a] [b]
    simp only [List.cons_append, List.nil_append, List.length_singleton] at h2 h3
    omega
theorem lev_co : ∀ o : List Op, lev (lf o) (rt o) ≤ co o
  | [] => by rw [lf, rt, lev_self]; omega
  | .m a b :: t => by
    have h := lev_cons a b (lf t) (rt t)
    have g := lev_co t
    show lev (a :: lf t) (b :: rt t) ≤ (if a = b then 0 else 1) + co t
    omega
  | .d a :: t => by
    have h := lev_put a (rt t) (lf t)
    have g := lev_co t
    rw [lev_sym, lev_sym (rt t)] at h
    show lev (a :: lf t) (rt t) ≤ 1 + co t
    omega
  | .i b :: t => by
    have h := lev_put b (lf t) (rt t)
    have g := lev_co t
    show lev (lf t) (b :: rt t) ≤ 1 + co t
    omega
theorem lev_nil (y : List Nat) : lev [] y = y.length := by
  have h := lev_low [] y
  have g := lev_up [] y
  simp only [List.length_nil] at h g
  omega
theorem ins_all (y : List Nat) : lf (y.map Op.i) = [] ∧ rt (y.map Op.i) = y ∧ co (y.map Op.i) = y.length := by
  induction y with
  | nil => exact ⟨rfl, rfl, rfl⟩
  | cons a t ih =>
    refine ⟨ih.1, ?_, ?_⟩
    · show a :: rt (t.map Op.i) = a :: t
      rw [ih.2.1]
    · show 1 + co (t.map Op.i) = t.length + 1
      rw [ih.2.2]; omega
theorem del_all (y : List Nat) : lf (y.map Op.d) = y ∧ rt (y.map Op.d) = [] ∧ co (y.map Op.d) = y.length := by
  induction y with
  | nil => exact ⟨rfl, rfl, rfl⟩
  | cons a t ih =>
    refine ⟨?_, ih.2.1, ?_⟩
    · show a :: lf (t.map Op.d) = a :: t
      rw [ih.1]
    · show 1 + co (t.map Op.d) = t.length + 1
      rw [ih.2.2]; omega
theorem take_snoc (x : List Nat) {i : Nat} (h : i < x.length) : x.take (i + 1) = x.take i ++ [x.getD i 0] := by
  rw [List.take_add_one, List.getD_eq_getElem?_getD, List.getElem?_eq_getElem h]
  rfl
/-- a cheapest way -/
theorem ex_ops (x y : List Nat) : ∀ i j, i ≤ x.length → j ≤ y.length → ∃ o, lf o = x.take i ∧ rt o = y.take j ∧ co o = dl x y i j
  | 0, j, _, hj => ⟨(y.take j).map Op.i, (ins_all _).1.trans (by simp), (ins_all _).2.1, by rw [(ins_all _).2.2, dl_0, List.length_take]; omega⟩
  | i + 1, 0, hi, _ => ⟨(x.take (i + 1)).map Op.d, (del_all _).1, (del_all _).2.1.trans (by simp), by rw [(del_all _).2.2, dl_r0, List.length_take]; omega⟩
  | i + 1, j + 1, hi, hj => by
    have hx := take_snoc x (i := i) (by omega)
    have hy := take_snoc y (i := j) (by omega)
    have e := dl_s x y i j
    have h3 : dl x y (i + 1) (j + 1) = dl x y i j + un x y i j ∨ dl x y (i + 1) (j + 1) = dl x y (i + 1) j + 1 ∨ dl x y (i + 1) (j + 1) = dl x y i (j + 1) + 1 := by omega
    rcases h3 with h | h | h
    · obtain ⟨o, h1, h2, h3⟩ := ex_ops x y i j (by omega) (by omega)
      refine ⟨o ++ [.m (x.getD i 0) (y.getD j 0)], ?_, ?_, ?_⟩
      · rw [lf_app, h1, hx]; rfl
      · rw [rt_app, h2, hy]; rfl
      · rw [co_app, h3, h]; rfl
    · obtain ⟨o, h1, h2, h3⟩ := ex_ops x y (i + 1) j (by omega) (by omega)
      refine ⟨o ++ [.i (y.getD j 0)], ?_, ?_, ?_⟩
      · rw [lf_app, h1]; exact List.append_nil _
      · rw [rt_app, h2, hy]; rfl
      · rw [co_app, h3, h]; rfl
    · obtain ⟨o, h1, h2, h3⟩ := ex_ops x y i (j + 1) (by omega) (by omega)
      refine ⟨o ++ [.d (x.getD i 0)], ?_, ?_, ?_⟩
      · rw [lf_app, h1, hx]; rfl
      · rw [rt_app, h2]; exact List.append_nil _
      · rw [co_app, h3, h]; rfl
theorem ex_lev (x y : List Nat) : ∃ o, lf o = x ∧ rt o = y ∧ co o = lev x y := by
  obtain ⟨o, h1, h2, h3⟩ := ex_ops x y x.length y.length (Nat.le_refl _) (Nat.le_refl _)
  rw [List.take_length] at h1 h2
  exact ⟨o, h1, h2, h3⟩
theorem lev_app (x1 x2 y1 y2 : List Nat) : lev (x1 ++ x2) (y1 ++ y2) ≤ lev x1 y1 + lev x2 y2 := by
  obtain ⟨o, h1, h2, h3⟩ := ex_lev x1 y1
  obtain ⟨q, k1, k2, k3⟩ := ex_lev x2 y2
  have h := lev_co (o ++ q)
  rw [lf_app, rt_app, co_app, h1, h2, h3, k1, k2, k3] at h
  exact h
theorem ops_cut : ∀ (o : List Op) (x1 x2 : List Nat), lf o = x1 ++ x2 → ∃ a b, o = a ++ b ∧ lf a = x1 ∧ lf b = x2
  | o, [], x2, h => ⟨[], o, rfl, rfl, h⟩
  | [], c :: x1, x2, h => by cases h
  | .m a b :: t, c :: x1, x2, h => by
    have h : a :: lf t = c :: (x1 ++ x2) := h
    injection h with e1 e2
    obtain ⟨p, q, h1, h2, h3⟩ := ops_cut t x1 x2 e2
    exact ⟨.m a b :: p, q, by rw [h1]; rfl, by show a :: lf p = _; rw [h2, e1], h3⟩
  | .d a :: t, c :: x1, x2, h => by
    have h : a :: lf t = c :: (x1 ++ x2) := h
    injection h with e1 e2
    obtain ⟨p, q, h1, h2, h3⟩ := ops_cut t x1 x2 e2
    exact ⟨.d a :: p, q, by rw [h1]; rfl, by show a :: lf p = _; rw [h2, e1], h3⟩
  | .i b :: t, c :: x1, x2, h => by
    have h : lf t = (c :: x1) ++ x2 := h
    obtain ⟨p, q, h1, h2, h3⟩ := ops_cut t (c :: x1) x2 h
    exact ⟨.i b :: p, q, by rw [h1]; rfl, h2, h3⟩
theorem lev_split (x1 x2 y : List Nat) : ∃ y1 y2, y = y1 ++ y2 ∧ lev x1 y1 + lev x2 y2 ≤ lev (x1 ++ x2) y := by
  obtain ⟨o, h1, h2, h3⟩ := ex_lev (x1 ++ x2) y
  obtain ⟨a, b, rfl, k1, k2⟩ := ops_cut o x1 x2 h1
  refine ⟨rt a, rt b, by rw [← h2, rt_app], ?_⟩
  rw [← h3, co_app, ← k1, ← k2]
  have := lev_co a
  have := lev_co b
  omega
/-- turns of a text -/
def Cj (v w : List Nat) : Prop := ∃ x y, v = x ++ y ∧ w = y ++ x
theorem Cj.refl (v : List Nat) : Cj v v := ⟨[], v, rfl, (List.append_nil v).symm⟩
theorem Cj.symm {v w : List Nat} (h : Cj v w) : Cj w v := by
  obtain ⟨x, y, h1, h2⟩ := h
  exact ⟨y, x, h2, h1⟩
theorem Cj.trans {u v w : List Nat} (h : Cj u v) (k : Cj v w) : Cj u w := by
  obtain ⟨x, y, rfl, rfl⟩ := h
  obtain ⟨a, b, e, rfl⟩ := k
  rcases List.append_eq_append_iff.mp e with ⟨t, rfl, rfl⟩ | ⟨t, rfl, rfl⟩
  · exact ⟨t, b ++ y, by simp, by simp⟩
  · exact ⟨x ++ a, t, by simp, by simp⟩
theorem Cj.len {v w : List Nat} (h : Cj v w) : v.length = w.length := by
  obtain ⟨x, y, rfl, rfl⟩ := h
  simp [Nat.add_comm]
theorem cj_rot (v : List Nat) (i : Nat) : Cj v (v.drop i ++ v.take i) := ⟨v.take i, v.drop i, (List.take_append_drop i v).symm, rfl⟩
theorem cj_ex {v w : List Nat} (h : Cj v w) : ∃ i, i < max 1 v.length ∧ w = v.drop i ++ v.take i := by
  obtain ⟨x, y, rfl, rfl⟩ := h
  by_cases hy : y = []
  · subst hy
    exact ⟨0, by omega, by simp⟩
  · have : 0 < y.length := List.length_pos_iff.mpr hy
    exact ⟨x.length, by rw [List.length_append]; omega, by simp⟩
/-- the price of rounds -/
def IsC (u v : List Nat) (p : Nat) : Prop := (∃ w, Cj v w ∧ lev u w = p) ∧ ∀ w, Cj v w → p ≤ lev u w
theorem IsC.uniq {u v : List Nat} {p q : Nat} (h : IsC u v p) (k : IsC u v q) : p = q := by
  obtain ⟨⟨w, h1, h2⟩, h3⟩ := h
  obtain ⟨⟨z, k1, k2⟩, k3⟩ := k
  have := h3 z k1
  have := k3 w h1
  omega
theorem isC_of {u v : List Nat} {p n : Nat} (hn : n = max 1 v.length) (h : ∃ i, i < n ∧ p = lev u (v.drop i ++ v.take i)) (k : ∀ i, i < n → p ≤ lev u (v.drop i ++ v.take i)) : IsC u v p := by
  subst hn
  obtain ⟨i, h1, h2⟩ := h
  refine ⟨⟨_, cj_rot v i, h2.symm⟩, fun w hw => ?_⟩
  obtain ⟨j, h3, rfl⟩ := cj_ex hw
  exact k j h3
theorem cyc_move {u v u' : List Nat} (h : Cj u u') (w : List Nat) : ∃ w', Cj w w' ∧ lev u' w' ≤ lev u w := by
  obtain ⟨x, y, rfl, rfl⟩ := h
  obtain ⟨w1, w2, rfl, h1⟩ := lev_split x y w
  refine ⟨w2 ++ w1, ⟨w1, w2, rfl, rfl⟩, ?_⟩
  have := lev_app y x w2 w1
  omega
theorem IsC.symm {u v : List Nat} {p : Nat} (h : IsC u v p) : IsC v u p := by
  obtain ⟨⟨w, h1, h2⟩, h3⟩ := h
  have low : ∀ z, Cj u z → p ≤ lev v z := fun z hz => by
    obtain ⟨w', k1, k2⟩ := cyc_move (v := v) hz.symm v
    have := h3 w' k1
    rw [lev_sym v z]
    omega
  refine ⟨?_, low⟩
  obtain ⟨z, k1, k2⟩ := cyc_move (v := v) h1.symm u
  rw [lev_sym w u] at k2
  have := low z k1
  exact ⟨z, k1, by omega⟩
theorem IsC.right {u v v' : List Nat} {p : Nat} (h : IsC u v p) (c : Cj v v') : IsC u v' p := by
  obtain ⟨⟨w, h1, h2⟩, h3⟩ := h
  exact ⟨⟨w, c.symm.trans h1, h2⟩, fun z hz => h3 z (c.trans hz)⟩
theorem IsC.turn {u v u' v' : List Nat} {p : Nat} (h : IsC u v p) (a : Cj u u') (b : Cj v v') : IsC u' v' p := ((h.right b).symm.right a).symm
theorem isC_self {u v : List Nat} (h : Cj u v) : IsC u v 0 := ⟨⟨u, h.symm, lev_self u⟩, fun _ _ => Nat.zero_le _⟩
theorem IsC.up {u v : List Nat} {p : Nat} (h : IsC u v p) : p ≤ u.length + v.length := by
  have h1 := h.2 v (Cj.refl v)
  have h2 := lev_up u v
  omega
end Lv
set_option Elab.async false
set_option linter.all false
namespace Lv
open Rt
/-! two ways side by side: a way that goes m and n on in k rounds has a piece of m and n -/
section
variable {X Y : Nat → Nat} {T : Nat} (x0 : ∀ t, t < T → X t ≤ X (t + 1)) (x1 : ∀ t, t < T → X (t + 1) ≤ X t + 1) (y0 : ∀ t, t < T → Y t ≤ Y (t + 1)) (y1 : ∀ t, t < T → Y (t + 1) ≤ Y t + 1)
include x0 x1 in
theorem wk_hit : ∀ (d t a : Nat), t + d ≤ T → X t ≤ a → a ≤ X (t + d) → ∃ s, t ≤ s ∧ s ≤ t + d ∧ X s = a
  | 0, t, a, h, h1, h2 => ⟨t, Nat.le_refl _, Nat.le_refl _, by rw [Nat.add_zero] at h2; omega⟩
  | d + 1, t, a, h, h1, h2 => by
    by_cases e : X t = a
    · exact ⟨t, Nat.le_refl _, by omega, e⟩
    · have := x1 t (by omega)
      obtain ⟨s, k1, k2, k3⟩ := wk_hit d (t + 1) a (by omega) (by omega) (by rw [Nat.add_assoc, Nat.add_comm 1 d]; exact h2)
      exact ⟨s, by omega, by omega, k3⟩
include x0 in
theorem wk_mono : ∀ (d t : Nat), t + d ≤ T → X t ≤ X (t + d)
  | 0, t, _ => Nat.le_refl _
  | d + 1, t, h => Nat.le_trans (wk_mono d t (by omega)) (x0 (t + d) (by omega))
include x0 x1 y0 y1 in
/-- no common place: all of the column on one side -/
theorem wk_side {t m n : Nat} (no : ∀ t s, t ≤ T → s ≤ T → X s = X t + m → Y s ≠ Y t + n) (ht : t ≤ T) :
    (∀ s, s ≤ T → X s = X t + m → Y s < Y t + n) ∨ (∀ s, s ≤ T → X s = X t + m → Y t + n < Y s) := by
  by_cases h : ∃ s, s ≤ T ∧ X s = X t + m ∧ Y s < Y t + n
  · obtain ⟨s, h1, h2, h3⟩ := h
    refine .inl fun r k1 k2 => Classical.byContradiction fun k3 => ?_
    have k4 := no t r ht k1 k2
    have k3 : Y t + n < Y r := by omega
    by_cases o : s ≤ r
    · obtain ⟨d, rfl⟩ : ∃ d, r = s + d := ⟨r - s, by omega⟩
      obtain ⟨z, z1, z2, z3⟩ := wk_hit y0 y1 d s (Y t + n) k1 (by omega) (by omega)
      refine no t z ht (by omega) ?_ z3
      obtain ⟨e, rfl⟩ : ∃ e, z = s + e := ⟨z - s, by omega⟩
      have m1 := wk_mono x0 e s (by omega)
      have m2 := wk_mono x0 (d - e) (s + e) (by omega)
      rw [show s + e + (d - e) = s + d by omega] at m2
      omega
    · obtain ⟨d, hd⟩ : ∃ d, s = r + d := ⟨s - r, by omega⟩
      have m1 := wk_mono y0 d r (by omega)
      rw [← hd] at m1
      omega
  · exact .inr fun r k1 k2 => by
      have := no t r ht k1 k2
      have : ¬ Y r < Y t + n := fun e => h ⟨r, k1, k2, e⟩
      omega
include x0 x1 in
/-- the last place of a column -/
theorem wk_last {a s : Nat} (hs : s ≤ T) (h : X s = a) (hT : a < X T) : ∃ r, r < T ∧ X r = a ∧ X (r + 1) = a + 1 := by
  obtain ⟨d, hd⟩ : ∃ d, T = s + d := ⟨T - s, by omega⟩
  obtain ⟨z, z1, z2, z3⟩ := wk_hit x0 x1 d s (a + 1) (by omega) (by omega) (by rw [← hd]; omega)
  have : ∃ r, r ≤ z ∧ X r = a + 1 ∧ ∀ k, k < r → X k ≠ a + 1 := by
    obtain ⟨r, h1, h2, h3⟩ := least (P := fun r => X r = a + 1) z3
    exact ⟨r, h1, h2, h3⟩
  obtain ⟨r, h1, h2, h3⟩ := this
  cases r with
  | zero =>
    have := wk_mono x0 s 0 (by omega)
    rw [Nat.zero_add] at this
    omega
  | succ r =>
    have k1 := x1 r (by omega)
    have k2 := x0 r (by omega)
    have k3 := h3 r (by omega)
    exact ⟨r, by omega, by omega, h2⟩
include x0 x1 y0 y1 in
theorem wk_chord {m n k : Nat} (hX0 : X 0 = 0) (hY0 : Y 0 = 0) (hX : X T = (k + 1) * m) (hY : Y T = (k + 1) * n) : ∃ t s, t ≤ s ∧ s ≤ T ∧ X s = X t + m ∧ Y s = Y t + n := by
  refine Classical.byContradiction fun nn => ?_
  have no : ∀ t s, t ≤ T → s ≤ T → X s = X t + m → Y s ≠ Y t + n := by
    intro t s ht hs h1 h2
    by_cases o : t ≤ s
    · exact nn ⟨t, s, o, hs, h1, h2⟩
    · obtain ⟨d, hd⟩ : ∃ d, t = s + d := ⟨t - s, by omega⟩
      have m1 := wk_mono x0 d s (by omega)
      have m2 := wk_mono y0 d s (by omega)
      rw [← hd] at m1 m2
      exact nn ⟨t, t, Nat.le_refl _, ht, by omega, by omega⟩
  have col : ∀ a, a ≤ X T → ∃ s, s ≤ T ∧ X s = a := fun a ha => by
    obtain ⟨s, h1, h2, h3⟩ := wk_hit x0 x1 T 0 a (by omega) (by omega) (by rw [Nat.zero_add]; exact ha)
    exact ⟨s, by omega, h3⟩
  have step : ∀ t, t < T → X (t + 1) + m ≤ X T → ((∀ s, s ≤ T → X s = X t + m → Y s < Y t + n) → (∀ s, s ≤ T → X s = X (t + 1) + m → Y s < Y (t + 1) + n)) ∧
      ((∀ s, s ≤ T → X s = X t + m → Y t + n < Y s) → (∀ s, s ≤ T → X s = X (t + 1) + m → Y (t + 1) + n < Y s)) := by
    intro t ht hc
    have a0 := x0 t ht
    have a1 := x1 t ht
    have b0 := y0 t ht
    have b1 := y1 t ht
    obtain ⟨s, hs, hsx⟩ := col (X t + m) (by omega)
    refine ⟨fun h => (wk_side x0 x1 y0 y1 no (t := t + 1) (by omega)).resolve_right fun g => ?_, fun h => (wk_side x0 x1 y0 y1 no (t := t + 1) (by omega)).resolve_left fun g => ?_⟩
    · by_cases e : X (t + 1) = X t
      · have := h s hs hsx
        have := g s hs (by omega)
        omega
      · obtain ⟨r, r1, r2, r3⟩ := wk_last x0 x1 hs hsx (by omega)
        have := h r (by omega) r2
        have := g (r + 1) (by omega) (by omega)
        have := y1 r r1
        omega
    · by_cases e : X (t + 1) = X t
      · have := h s hs hsx
        have := g s hs (by omega)
        omega
      · obtain ⟨r, r1, r2, r3⟩ := wk_last x0 x1 hs hsx (by omega)
        have := h r (by omega) r2
        have := g (r + 1) (by omega) (by omega)
        have := y0 r r1
        omega
  have le : ∀ j, j ≤ k → j * m + m ≤ (k + 1) * m := fun j hj => by
    rw [← Nat.succ_mul]
    exact Nat.mul_le_mul_right m (by omega)
  rcases wk_side x0 x1 y0 y1 no (t := 0) (Nat.zero_le _) with h | h
  · have all : ∀ t, t ≤ T → X t + m ≤ X T → ∀ s, s ≤ T → X s = X t + m → Y s < Y t + n := by
      intro t
      induction t with
      | zero => exact fun _ _ => h
      | succ t ih =>
        intro ht hc
        have := x0 t (by omega)
        exact (step t (by omega) hc).1 (ih (by omega) (by omega))
    have go : ∀ j, j ≤ k → ∃ s, s ≤ T ∧ X s = j * m ∧ Y s ≤ j * n := by
      intro j
      induction j with
      | zero => exact fun _ => ⟨0, Nat.zero_le _, by omega, by omega⟩
      | succ j ih =>
        intro hj
        obtain ⟨t, t1, t2, t3⟩ := ih (by omega)
        have l1 := le j (by omega)
        obtain ⟨s, s1, s2⟩ := col (X t + m) (by omega)
        have := all t t1 (by omega) s s1 s2
        exact ⟨s, s1, by rw [s2, t2, Nat.succ_mul], by rw [Nat.succ_mul]; omega⟩
    obtain ⟨t, t1, t2, t3⟩ := go k (Nat.le_refl _)
    have l1 := le k (Nat.le_refl _)
    have := all t t1 (by omega) T (Nat.le_refl _) (by rw [hX, t2, Nat.succ_mul])
    rw [hY, Nat.succ_mul] at this
    omega
  · have all : ∀ t, t ≤ T → X t + m ≤ X T → ∀ s, s ≤ T → X s = X t + m → Y t + n < Y s := by
      intro t
      induction t with
      | zero => exact fun _ _ => h
      | succ t ih =>
        intro ht hc
        have := x0 t (by omega)
        exact (step t (by omega) hc).2 (ih (by omega) (by omega))
    have go : ∀ j, j ≤ k → ∃ s, s ≤ T ∧ X s = j * m ∧ j * n ≤ Y s := by
      intro j
      induction j with
      | zero => exact fun _ => ⟨0, Nat.zero_le _, by omega, by omega⟩
      | succ j ih =>
        intro hj
        obtain ⟨t, t1, t2, t3⟩ := ih (by omega)
        have l1 := le j (by omega)
        obtain ⟨s, s1, s2⟩ := col (X t + m) (by omega)
        have := all t t1 (by omega) s s1 s2
        exact ⟨s, s1, by rw [s2, t2, Nat.succ_mul], by rw [Nat.succ_mul]; omega⟩
    obtain ⟨t, t1, t2, t3⟩ := go k (Nat.le_refl _)
    have l1 := le k (Nat.le_refl _)
    have := all t t1 (by omega) T (Nat.le_refl _) (by rw [hX, t2, Nat.succ_mul])
    rw [hY, Nat.succ_mul] at this
    omega
end
def win (U : Nat → Nat) (i l : Nat) : List Nat := (List.range l).map fun t => U (i + t)
theorem win_len (U : Nat → Nat) (i l : Nat) : (win U i l).length = l := by unfold win; rw [List.length_map, List.length_range]
theorem win_app (U : Nat → Nat) (i a b : Nat) : win U i (a + b) = win U i a ++ win U (i + a) b := by
  unfold win
  rw [List.range_add, List.map_append, List.map_map]
  congr 1
  exact List.map_congr_left fun t _ => by show U (i + (a + t)) = U (i + a + t); rw [Nat.add_assoc]
theorem win_per {U : Nat → Nat} {m : Nat} (h : ∀ i, U (i + m) = U i) (i l : Nat) : win U (i + m) l = win U i l := by
  unfold win
  exact List.map_congr_left fun t _ => by
    show U (i + m + t) = U (i + t)
    rw [Nat.add_right_comm, h]
theorem win_pers {U : Nat → Nat} {m : Nat} (h : ∀ i, U (i + m) = U i) (i l : Nat) : ∀ k, win U (i + k * m) l = win U i l
  | 0 => by rw [Nat.zero_mul, Nat.add_zero]
  | k + 1 => by rw [Nat.succ_mul, ← Nat.add_assoc, win_per h, win_pers h i l k]
theorem win_cut {U : Nat → Nat} {i l : Nat} {a b c : List Nat} (h : a ++ b ++ c = win U i l) : a = win U i a.length ∧ b = win U (i + a.length) b.length ∧ c = win U (i + a.length + b.length) c.length := by
  have hl : l = a.length + b.length + c.length := by
    have := congrArg List.length h
    rw [win_len, List.length_append, List.length_append] at this
    exact this.symm
  rw [hl, win_app, win_app] at h
  have h1 := List.append_inj h (by rw [List.length_append, List.length_append, win_len, win_len])
  have h2 := List.append_inj h1.1 (by rw [win_len])
  exact ⟨h2.1, h2.2, by rw [Nat.add_assoc]; exact h1.2⟩
theorem take_step {α : Type} (o : List Op) (f : List Op → List α) (g : Op → List α) (hn : f [] = []) (hc : ∀ a t, f (a :: t) = g a ++ f t) (g1 : ∀ a, (g a).length ≤ 1) : ∀ (o : List Op) (t : Nat), (f (o.take t)).length ≤ (f (o.take (t + 1))).length ∧ (f (o.take (t + 1))).length ≤ (f (o.take t)).length + 1
  | [], t => by rw [List.take_nil, List.take_nil]; omega
  | a :: q, 0 => by
    have := g1 a
    simp only [List.take_zero, List.take_succ_cons, hc, hn, List.append_nil, List.length_nil]
    omega
  | a :: q, t + 1 => by
    have := take_step o f g hn hc g1 q t
    simp only [List.take_succ_cons, hc, List.length_append]
    omega
theorem pow_low {U V : Nat → Nat} {m n p : Nat} (hU : ∀ i, U (i + m) = U i) (hV : ∀ i, V (i + n) = V i) (h : ∀ i j, p ≤ lev (win U i m) (win V j n)) : ∀ (k i j : Nat) (o : List Op), lf o = win U i (k * m) → rt o = win V j (k * n) → k * p ≤ co o
  | 0, i, j, o, _, _ => by rw [Nat.zero_mul]; exact Nat.zero_le _
  | k + 1, i, j, o, h1, h2 => by
    have sl := take_step o lf Op.l rfl (fun _ _ => rfl) (fun a => by cases a <;> simp [Op.l]) o
    have sr := take_step o rt Op.r rfl (fun _ _ => rfl) (fun a => by cases a <;> simp [Op.r]) o
    obtain ⟨t, s, l1, l2, e1, e2⟩ := wk_chord (X := fun t => (lf (o.take t)).length) (Y := fun t => (rt (o.take t)).length) (T := o.length) (m := m) (n := n) (k := k)
      (fun t _ => (sl t).1) (fun t _ => (sl t).2) (fun t _ => (sr t).1) (fun t _ => (sr t).2) rfl rfl
      (by show (lf (o.take o.length)).length = _; rw [List.take_length, h1, win_len]) (by show (rt (o.take o.length)).length = _; rw [List.take_length, h2, win_len])
    have eo : o = o.take t ++ (o.drop t).take (s - t) ++ o.drop s := by
      have a1 : o.take s = o.take t ++ (o.drop t).take (s - t) := by
        rw [show s = t + (s - t) by omega, List.take_add]
        simp
      rw [← a1, List.take_append_drop]
    have es : o.take s = o.take t ++ (o.drop t).take (s - t) := by
      rw [show s = t + (s - t) by omega, List.take_add]
      simp
    generalize o.take t = A at *
    generalize (o.drop t).take (s - t) = B at *
    generalize o.drop s = C at *
    have e1 : (lf (o.take s)).length = (lf A).length + m := e1
    have e2 : (rt (o.take s)).length = (rt A).length + n := e2
    rw [es, lf_app, List.length_append] at e1
    rw [es, rt_app, List.length_append] at e2
    subst eo
    rw [lf_app, lf_app] at h1
    rw [rt_app, rt_app] at h2
    obtain ⟨a1, b1, c1⟩ := win_cut h1
    obtain ⟨a2, b2, c2⟩ := win_cut h2
    have zl := congrArg List.length h1
    have zr := congrArg List.length h2
    rw [win_len, List.length_append, List.length_append] at zl zr
    rw [Nat.succ_mul] at zl zr
    have eb1 : (lf B).length = m := by omega
    have eb2 : (rt B).length = n := by omega
    rw [eb1] at b1 c1
    rw [eb2] at b2 c2
    have hB : p ≤ co B := by
      have h4 := h (i + (lf A).length) (j + (rt A).length)
      rw [← b1, ← b2] at h4
      exact Nat.le_trans h4 (lev_co B)
    have g1 : lf (C ++ A) = win U (i + (lf A).length + m) (k * m) := by
      rw [lf_app, show k * m = (lf C).length + (lf A).length by omega, win_app]
      rw [← c1]
      congr 1
      refine a1.trans ?_
      rw [show i + (lf A).length + m + (lf C).length = i + (k + 1) * m by rw [Nat.succ_mul]; omega, win_pers hU]
    have g2 : rt (C ++ A) = win V (j + (rt A).length + n) (k * n) := by
      rw [rt_app, show k * n = (rt C).length + (rt A).length by omega, win_app]
      rw [← c2]
      congr 1
      refine a2.trans ?_
      rw [show j + (rt A).length + n + (rt C).length = j + (k + 1) * n by rw [Nat.succ_mul]; omega, win_pers hV]
    have := pow_low hU hV h k _ _ (C ++ A) g1 g2
    rw [co_app] at this
    rw [co_app, co_app, Nat.succ_mul]
    omega
theorem cy_win (w : List Nat) : w = win (cy w) 0 w.length := by
  apply List.ext_getElem?
  intro i
  unfold win
  by_cases h : i < w.length
  · rw [List.getElem?_map, List.getElem?_range h]
    show w[i]? = some (cy w (0 + i))
    rw [Nat.zero_add, cy_lt h, List.getD_eq_getElem?_getD, List.getElem?_eq_getElem h]
    rfl
  · rw [List.getElem?_eq_none (by omega), List.getElem?_eq_none (by rw [List.length_map, List.length_range]; omega)]
theorem rds_win (w : List Nat) : ∀ k, rds k w = win (cy w) 0 (k * w.length)
  | 0 => by simp [rds, win]
  | k + 1 => by
    rw [rds_succ, Nat.succ_mul, Nat.add_comm, win_app, Nat.zero_add, rds_win w k, ← cy_win w]
    congr 1
    have := win_per (cy_len w) 0 (k * w.length)
    rw [Nat.zero_add] at this
    exact this.symm
theorem win_cj (w : List Nat) : ∀ i, Cj w (win (cy w) i w.length)
  | 0 => by rw [← cy_win w]; exact Cj.refl w
  | i + 1 => by
    refine (win_cj w i).trans ?_
    by_cases hn : w.length = 0
    · rw [hn]; exact Cj.refl _
    · refine ⟨win (cy w) i 1, win (cy w) (i + 1) (w.length - 1), ?_, ?_⟩
      · rw [← win_app]
        congr 1
        omega
      · have := win_per (cy_len w) i 1
        rw [← this, show i + w.length = i + 1 + (w.length - 1) by omega, ← win_app]
        congr 1
        omega
theorem IsC.low {u v : List Nat} {p : Nat} (h : IsC u v p) (k : Nat) : k * p ≤ lev (rds k u) (rds k v) := by
  obtain ⟨o, h1, h2, h3⟩ := ex_lev (rds k u) (rds k v)
  rw [← h3]
  refine pow_low (cy_len u) (cy_len v) (fun i j => ?_) k 0 0 o (by rw [h1, rds_win]) (by rw [h2, rds_win])
  exact (h.turn (win_cj u i) (Cj.refl v)).2 _ (win_cj v j)
theorem lev_rds (u w : List Nat) : ∀ k, lev (rds k u) (rds k w) ≤ k * lev u w
  | 0 => by rw [Nat.zero_mul]; exact Nat.le_of_eq (lev_self _)
  | k + 1 => by
    rw [rds_succ, rds_succ, Nat.succ_mul]
    have := lev_app u (rds k u) w (rds k w)
    have := lev_rds u w k
    omega
theorem rds_turn (x y : List Nat) : ∀ k, rds (k + 1) (x ++ y) = x ++ (rds k (y ++ x) ++ y)
  | 0 => by rw [rds_succ]; simp [rds]
  | k + 1 => by rw [rds_succ, rds_turn x y k, rds_succ]; simp
theorem rds_last (x : List Nat) : ∀ k, rds (k + 1) x = rds k x ++ x
  | 0 => by rw [rds_succ]; simp [rds]
  | k + 1 => by
    have h := rds_last x k
    rw [rds_succ (k + 1) x, h, ← List.append_assoc, ← rds_succ, h]
theorem IsC.high {u v : List Nat} {p : Nat} (h : IsC u v p) (k : Nat) : lev (rds (k + 1) u) (rds (k + 1) v) ≤ k * p + u.length + v.length := by
  obtain ⟨⟨w, ⟨x, y, rfl, rfl⟩, rfl⟩, _⟩ := h
  rw [rds_turn, rds_last]
  have a1 := lev_app [] (rds k u ++ u) x (rds k (y ++ x) ++ y)
  have a2 := lev_app (rds k u) u (rds k (y ++ x)) y
  have a3 := lev_rds u (y ++ x) k
  have a4 := lev_up u y
  rw [lev_nil, List.nil_append] at a1
  rw [List.length_append]
  omega
end Lv
set_option Elab.async false
set_option linter.all false
set_option maxRecDepth 100000
set_option maxHeartbeats 4000000
namespace K09
open PySem PySem.Spec PyProof.Rows L2 SL

def top (i : Nat) : Stmt := PySem.Challenge.pw_spoiltline_k09_prices_of_rounds.main.body.getD i (.Pass ⟨0, 0, 0, 0⟩)
abbrev s_InvalidText___init__ : Stmt := inClass (top 2) 0
abbrev N_InvalidText___init__ : List Str := ["self", "given"]
theorem sc_InvalidText___init__ : FnScope N_InvalidText___init__ ["self", "given"] (defScope s_InvalidText___init__) := ⟨rfl, rfl, rfl, by decide +kernel, rfl, by decide +kernel, by decide +kernel⟩
abbrev s_is_text : Stmt := top 5
abbrev N_is_text : List Str := ["value", "letter"]
theorem sc_is_text : FnScope N_is_text ["value"] (defScope s_is_text) := ⟨rfl, rfl, rfl, by decide +kernel, rfl, by decide +kernel, by decide +kernel⟩
abbrev s_check_text : Stmt := top 6
abbrev N_check_text : List Str := ["text"]
theorem sc_check_text : FnScope N_check_text ["text"] (defScope s_check_text) := ⟨rfl, rfl, rfl, by decide +kernel, rfl, by decide +kernel, by decide +kernel⟩
abbrev s_common_beginning : Stmt := top 8
abbrev N_common_beginning : List Str := ["one", "other", "many"]
theorem sc_common_beginning : FnScope N_common_beginning ["one", "other"] (defScope s_common_beginning) := ⟨rfl, rfl, rfl, by decide +kernel, rfl, by decide +kernel, by decide +kernel⟩
abbrev s_without_common_ends : Stmt := top 9
abbrev N_without_common_ends : List Str := ["one", "other", "many", "left", "right"]
theorem sc_without_common_ends : FnScope N_without_common_ends ["one", "other"] (defScope s_without_common_ends) := ⟨rfl, rfl, rfl, by decide +kernel, rfl, by decide +kernel, by decide +kernel⟩
abbrev s_next_band : Stmt := top 10
abbrev N_next_band : List Str := ["band", "letter", "at", "other", "k", "most", "found", "place", "ways"]
theorem sc_next_band : FnScope N_next_band ["band", "letter", "at", "other"] (defScope s_next_band) := ⟨rfl, rfl, rfl, by decide +kernel, rfl, by decide +kernel, by decide +kernel⟩
abbrev s_distance_within : Stmt := top 11
abbrev N_distance_within : List Str := ["one", "other", "most", "band", "found", "left", "right", "at", "letter", "k"]
theorem sc_distance_within : FnScope N_distance_within ["one", "other", "most"] (defScope s_distance_within) := ⟨rfl, rfl, rfl, by decide +kernel, rfl, by decide +kernel, by decide +kernel⟩
abbrev s_levenshtein : Stmt := top 12
abbrev N_levenshtein : List Str := ["one", "other", "most", "found"]
theorem sc_levenshtein : FnScope N_levenshtein ["one", "other"] (defScope s_levenshtein) := ⟨rfl, rfl, rfl, by decide +kernel, rfl, by decide +kernel, by decide +kernel⟩
abbrev s_round_price : Stmt := top 13
abbrev N_round_price : List Str := ["one", "other", "least", "at", "found"]
theorem sc_round_price : FnScope N_round_price ["one", "other"] (defScope s_round_price) := ⟨rfl, rfl, rfl, by decide +kernel, rfl, by decide +kernel, by decide +kernel⟩
abbrev s__law_cell : Stmt := top 15
abbrev N__law_cell : List Str := ["script", "k"]
theorem sc__law_cell : FnScope N__law_cell ["script", "k"] (defScope s__law_cell) := ⟨rfl, rfl, rfl, by decide +kernel, rfl, by decide +kernel, by decide +kernel⟩
abbrev s__law_box : Stmt := top 16
abbrev N__law_box : List Str := ["great"]
theorem sc__law_box : FnScope N__law_box ["great"] (defScope s__law_box) := ⟨rfl, rfl, rfl, by decide +kernel, rfl, by decide +kernel, by decide +kernel⟩
abbrev s__law_take : Stmt := top 17
abbrev N__law_take : List Str := ["box", "many", "mixed", "digit"]
theorem sc__law_take : FnScope N__law_take ["box", "many"] (defScope s__law_take) := ⟨rfl, rfl, rfl, by decide +kernel, rfl, by decide +kernel, by decide +kernel⟩
abbrev s__law_turned : Stmt := top 18
abbrev N__law_turned : List Str := ["box", "text", "at"]
theorem sc__law_turned : FnScope N__law_turned ["box", "text"] (defScope s__law_turned) := ⟨rfl, rfl, rfl, by decide +kernel, rfl, by decide +kernel, by decide +kernel⟩
abbrev s__law_changed : Stmt := top 19
abbrev N__law_changed : List Str := ["box", "letters", "text", "found", "turn", "letter", "at", "way"]
theorem sc__law_changed : FnScope N__law_changed ["box", "letters", "text"] (defScope s__law_changed) := ⟨rfl, rfl, rfl, by decide +kernel, rfl, by decide +kernel, by decide +kernel⟩
abbrev s__law_texts : Stmt := top 20
abbrev N__law_texts : List Str := ["box", "way", "letters", "size", "text", "k"]
theorem sc__law_texts : FnScope N__law_texts ["box"] (defScope s__law_texts) := ⟨rfl, rfl, rfl, by decide +kernel, rfl, by decide +kernel, by decide +kernel⟩
abbrev s__law_table : Stmt := top 21
abbrev N__law_table : List Str := ["first", "second", "row", "i", "j", "ahead", "here"]
theorem sc__law_table : FnScope N__law_table ["first", "second"] (defScope s__law_table) := ⟨rfl, rfl, rfl, by decide +kernel, rfl, by decide +kernel, by decide +kernel⟩
abbrev s__law_least : Stmt := top 22
abbrev N__law_least : List Str := ["first", "second", "at"]
theorem sc__law_least : FnScope N__law_least ["first", "second"] (defScope s__law_least) := ⟨rfl, rfl, rfl, by decide +kernel, rfl, by decide +kernel, by decide +kernel⟩
abbrev s__law_met : Stmt := top 23
abbrev N__law_met : List Str := ["which", "first", "second", "e"]
theorem sc__law_met : FnScope N__law_met ["which", "first", "second"] (defScope s__law_met) := ⟨rfl, rfl, rfl, by decide +kernel, rfl, by decide +kernel, by decide +kernel⟩
abbrev s__law_right : Stmt := top 24
abbrev N__law_right : List Str := ["box", "first", "second", "due", "told", "many", "right", "which", "far"]
theorem sc__law_right : FnScope N__law_right ["box", "first", "second"] (defScope s__law_right) := ⟨rfl, rfl, rfl, by decide +kernel, rfl, by decide +kernel, by decide +kernel⟩
abbrev s__law_odd : Stmt := top 25
abbrev N__law_odd : List Str := ["box", "text", "way", "at"]
theorem sc__law_odd : FnScope N__law_odd ["box", "text"] (defScope s__law_odd) := ⟨rfl, rfl, rfl, by decide +kernel, rfl, by decide +kernel, by decide +kernel⟩
abbrev s__law_refused_right : Stmt := top 26
abbrev N__law_refused_right : List Str := ["box", "first", "second", "which", "one_odd", "other_odd", "row", "pair", "told", "odd", "value"]
theorem sc__law_refused_right : FnScope N__law_refused_right ["box", "first", "second"] (defScope s__law_refused_right) := ⟨rfl, rfl, rfl, by decide +kernel, rfl, by decide +kernel, by decide +kernel⟩
abbrev s_law : Stmt := top 27
abbrev N_law : List Str := ["script", "k", "box", "first", "second"]
theorem sc_law : FnScope N_law ["script"] (defScope s_law) := ⟨rfl, rfl, rfl, by decide +kernel, rfl, by decide +kernel, by decide +kernel⟩
structure Txt (K : PySem.W.Frag) (mg : Str → Option Value) : Prop where
  d_is_text : DefAt K mg "is_text" s_is_text ["value"]
  d_check_text : DefAt K mg "check_text" s_check_text ["text"]
  d_common_beginning : DefAt K mg "common_beginning" s_common_beginning ["one", "other"]
  d_without_common_ends : DefAt K mg "without_common_ends" s_without_common_ends ["one", "other"]
  d_next_band : DefAt K mg "next_band" s_next_band ["band", "letter", "at", "other"]
  d_distance_within : DefAt K mg "distance_within" s_distance_within ["one", "other", "most"]
  d_levenshtein : DefAt K mg "levenshtein" s_levenshtein ["one", "other"]
  d_round_price : DefAt K mg "round_price" s_round_price ["one", "other"]
  d__law_cell : DefAt K mg "_law_cell" s__law_cell ["script", "k"]
  d__law_box : DefAt K mg "_law_box" s__law_box ["great"]
  d__law_take : DefAt K mg "_law_take" s__law_take ["box", "many"]
  d__law_turned : DefAt K mg "_law_turned" s__law_turned ["box", "text"]
  d__law_changed : DefAt K mg "_law_changed" s__law_changed ["box", "letters", "text"]
  d__law_texts : DefAt K mg "_law_texts" s__law_texts ["box"]
  d__law_table : DefAt K mg "_law_table" s__law_table ["first", "second"]
  d__law_least : DefAt K mg "_law_least" s__law_least ["first", "second"]
  d__law_met : DefAt K mg "_law_met" s__law_met ["which", "first", "second"]
  d__law_right : DefAt K mg "_law_right" s__law_right ["box", "first", "second"]
  d__law_odd : DefAt K mg "_law_odd" s__law_odd ["box", "text"]
  d__law_refused_right : DefAt K mg "_law_refused_right" s__law_refused_right ["box", "first", "second"]
  d_law : DefAt K mg "law" s_law ["script"]
  x_InvalidText : ErrAt K mg "InvalidText"
  n_abs : mg "abs" = none
  n_all : mg "all" = none
  n_enumerate : mg "enumerate" = none
  n_int : mg "int" = none
  n_isinstance : mg "isinstance" = none
  n_len : mg "len" = none
  n_list : mg "list" = none
  n_max : mg "max" = none
  n_min : mg "min" = none
  n_range : mg "range" = none
  n_repr : mg "repr" = none
  n_str : mg "str" = none
  n_sum : mg "sum" = none
  g_LETTERS : ∃ t, mg "LETTERS" = some (.str (tx abc) t)
end K09
set_option Elab.async false
set_option linter.all false
set_option maxRecDepth 100000
set_option maxHeartbeats 4000000
namespace K09
open PySem PySem.Spec PyProof.Rows L2 SL Lv
local macro_rules | `(tactic| walk_at "sz") => `(tactic| first
  | assumption
  | omega
  | (simp only [List.length_cons, List.length_nil, List.length_append, List.length_map, List.length_take, List.length_drop, List.length_reverse, List.length_replicate, List.length_range, tx_len, sizeLine_eq, CMul, CDiv, Nat.reduceAdd, Nat.reduceLeDiff]; first | done | omega)
  | decide)
local macro_rules | `(tactic| walk_at "ne") => `(tactic| first
  | assumption
  | exact Ne.symm (by assumption)
  | (refine ne_of_none (H := ?H0) (o := ?oo) ?hh ?hn; (case hn => assumption); (case hh => walk_at "hget"))
  | (refine Ne.symm (ne_of_none (H := ?H0) (o := ?oo) ?hh ?hn); (case hn => assumption); (case hh => walk_at "hget")))
local macro_rules | `(tactic| walk_at "hget") => `(tactic| first
  | assumption
  | exact upd_same
  | (refine (upd_ne ?n).trans ?g; (case n => walk_at "ne"); (case g => walk_at "hget"))
  | (refine fr_get (p := ?pp) (H := ?H0) ?f ?g ?n; (case f => assumption); (case g => walk_at "hget"); (case n => walk_at "ne"))
  | (refine same_get (H := ?H0) ?f ?g; (case f => assumption); (case g => walk_at "hget")))
local macro_rules | `(tactic| walk_at "vget") => `(tactic| first
  | assumption
  | (refine SqL.of ?g; (case g => walk_at "hget"))
  | (refine SqT.of ?g; (case g => walk_at "hget"))
  | (refine sql_new ?n ?g; (case n => assumption); (case g => walk_at "vget"))
  | (refine sqt_new ?n ?g; (case n => assumption); (case g => walk_at "vget"))
  | (refine sql_upd ?n ?g; (case n => walk_at "ne"); (case g => walk_at "vget"))
  | (refine sqt_upd ?n ?g; (case n => walk_at "ne"); (case g => walk_at "vget"))
  | (refine Same.seq (H := ?H0) ?f ?g; (case f => assumption); (case g => walk_at "vget"))
  | (refine Same.seqT (H := ?H0) ?f ?g; (case f => assumption); (case g => walk_at "vget"))
  | (refine fr_sql (b := ?pp) (H := ?H0) ?f ?g ?n; (case f => assumption); (case g => walk_at "vget"); (case n => walk_at "ne"))
  | (refine fr_sqt (b := ?pp) (H := ?H0) ?f ?g ?n; (case f => assumption); (case g => walk_at "vget"); (case n => walk_at "ne")))
local macro_rules | `(tactic| walk_at "at") => `(tactic| first
  | assumption
  | rfl
  | (refine atI_n ?h; (case h => first | assumption | rfl))
  | (refine atI_i ?h0 ?h; (case h0 => omega); (case h => first | assumption | rfl)))
local macro_rules | `(tactic| walk_at "v1") => `(tactic| first
  | with_reducible refine w_seq ?_
  | with_reducible refine w_enx ?_
  | with_reducible refine w_ert ?_
  | with_reducible refine w_asg ?_
  | ((with_reducible refine w_var (v := ?vv) ?h ?_); (case h => exact rfl))
  | with_reducible refine w_op ?_
  | with_reducible refine w_c ?_
  | with_reducible refine w_cons ?_
  | with_reducible refine w_nil ?_
  | with_reducible refine w_cb ?_
  | with_reducible refine w_call ?_
  | with_reducible refine w_k ?_
  | with_reducible refine w_i ?_
  | with_reducible refine w_two ?_
  | ((with_reducible refine w_name ?_); (try simp only [List.set_cons_zero, List.set_cons_succ]))
  | with_reducible refine w_ifS ?_
  | with_reducible refine w_ret ?_
  | with_reducible refine w_drop ?_
  | with_reducible refine w_test ?_
  | with_reducible refine w_B ?_
  | with_reducible refine iteT ?_
  | with_reducible refine iteF ?_
  | with_reducible refine w_same ?_
  | ((with_reducible refine w_ifT ?h ?_); (case h => first | rfl | assumption))
  | ((with_reducible refine w_ifF ?h ?_); (case h => first | rfl | assumption))
  | ((with_reducible refine w_diff ?_ ?h); (case h => decide +kernel))
  | ((with_reducible refine w_wp ?h ?_); (case h => rfl); (try simp only [wipe, List.set_cons_zero, List.set_cons_succ, List.foldl_cons, List.foldl_nil]))
  | ((with_reducible refine w_acc (acc := ?aa) ?h ?_ ?z); (case h => walk_at "hget"); (case z => walk_at "sz"))
  | with_reducible refine w_addI ?_
  | with_reducible refine w_subI ?_
  | with_reducible refine w_lt ?_
  | with_reducible refine w_le ?_
  | with_reducible refine w_gt ?_
  | with_reducible refine w_ge ?_
  | with_reducible refine w_eqI ?_
  | with_reducible refine w_neI ?_
  | with_reducible refine w_eqS ?_
  | with_reducible refine w_neS ?_
  | with_reducible refine w_neB ?_
  | ((with_reducible refine w_mulI ?_ ?h); (case h => walk_at "sz"))
  | ((with_reducible refine w_divI ?_ ?h); (case h => walk_at "sz"))
  | ((with_reducible refine w_addS ?_ ?h); (case h => walk_at "sz"))
  | ((with_reducible refine w_mulS ?_ ?h); (case h => walk_at "sz"))
  | ((with_reducible refine w_ixL (xs := ?xx) (v := ?vv) ?h ?i ?_); (case h => walk_at "vget"); (case i => walk_at "at"))
  | ((with_reducible refine w_ixT (xs := ?xx) (v := ?vv) ?h ?i ?_); (case h => walk_at "vget"); (case i => walk_at "at"))
  | ((with_reducible refine w_ixS (c := ?cc) ?i ?_ ?h); (case i => walk_at "at"); (case h => walk_at "sz"))
  | ((with_reducible refine w_lenS' ?_ ?h); (case h => walk_at "sz"))
  | ((with_reducible refine w_lenL' (xs := ?xx) ?h ?_); (case h => walk_at "vget"))
  | ((with_reducible refine w_lenT' (xs := ?xx) ?h ?_); (case h => walk_at "vget"))
  | with_reducible refine w_isnN ?_
  | with_reducible refine w_isnI ?_
  | with_reducible refine w_isnS ?_
  | with_reducible refine w_isnR ?_
  | with_reducible refine w_isnB ?_
  | with_reducible refine w_isoN ?_
  | with_reducible refine w_isoI ?_
  | with_reducible refine w_isoS ?_
  | with_reducible refine w_isoR ?_
  | with_reducible refine w_isoB ?_
  | with_reducible refine w_abs ?_
  | with_reducible refine w_int ?_
  | with_reducible refine w_intB ?_
  | with_reducible refine w_min2 ?_
  | with_reducible refine w_max2 ?_
  | with_reducible refine w_min3 ?_
  | with_reducible refine w_sl ?_
  | with_reducible refine w_np ?_
  | with_reducible refine w_part ?_
  | ((with_reducible refine w_sStN ?_ ?h); (case h => walk_at "sz"))
  | ((with_reducible refine w_sSfN ?_ ?h); (case h => walk_at "sz"))
  | ((with_reducible refine w_sSt ?_ ?h); (case h => walk_at "sz"))
  | ((with_reducible refine w_sSf ?_ ?h); (case h => walk_at "sz"))
  | with_reducible refine w_and ?_
  | with_reducible refine w_or ?_
  | with_reducible refine w_not ?_
  | with_reducible refine w_andV ?_
  | with_reducible refine w_orV ?_
  | with_reducible refine w_notV ?_
  | with_reducible refine w_ifE ?_
  | with_reducible refine w_tup ?_
  | with_reducible refine w_lst ?_
  | with_reducible refine w_chain ?_
  | ((with_reducible refine w_par ?_); (try simp only [List.set_cons_zero, List.set_cons_succ]))
  | ((with_reducible refine w_par3 ?_); (try simp only [List.set_cons_zero, List.set_cons_succ]))
  | with_reducible refine w_three ?_
  | with_reducible refine w_un ?_
  | with_reducible refine w_neg ?_
  | with_reducible refine w_next ?_
  | with_reducible refine w_ebk ?_
  | with_reducible refine w_ect ?_
  | with_reducible refine w_for ?_
  | with_reducible refine w_lc ?_
  | with_reducible refine w_yes ?_
  | with_reducible refine w_il ?_
  | with_reducible refine w_it ?_
  | with_reducible refine w_isx ?_
  | with_reducible refine w_ir1 ?_
  | with_reducible refine w_ir2 ?_
  | with_reducible refine w_ies ?_
  | with_reducible refine w_ir3 ?_
  | with_reducible refine w_s1 ?_
  | with_reducible refine w_s1l ?_
  | ((with_reducible refine w_r1 ?_ ?h); (case h => walk_at "sz"))
  | ((with_reducible refine w_r2 ?_ ?h); (case h => walk_at "sz"))
  | ((with_reducible refine w_l1 (xs := ?xx) ?h ?_); (case h => walk_at "vget"))
  | ((with_reducible refine w_t1 (xs := ?xx) ?h ?_); (case h => walk_at "vget"))
  | ((with_reducible refine w_isL (xs := ?xx) ?h ?_); (case h => walk_at "vget"))
  | with_reducible refine w_isS ?_
  | ((with_reducible refine w_app (xs := ?xx) ?h ?_ ?z); (case h => walk_at "hget"); (case z => walk_at "sz"))
  | with_reducible refine w_inC ?_
  | with_reducible refine w_rev ?_
  | ((with_reducible refine w_rev1S ?_ ?h); (case h => walk_at "sz"))
  | with_reducible refine w_lrg ?_
  | with_reducible refine w_brk ?_
  | with_reducible refine w_cont ?_
  | with_reducible refine w_retN ?_
  | with_reducible refine w_bm ?_
  | with_reducible refine w_bm0 ?_
  | with_reducible refine w_m1 ?_
  | with_reducible refine w_sub ?_
  | ((with_reducible refine w_setL (xs := ?xx) (j := ?jj) ?h ?i ?_); (case h => walk_at "hget"); (case i => first | rfl | assumption); (try simp only [Int.reduceToNat, List.set_cons_zero, List.set_cons_succ]))
  | with_reducible refine w_ip ?_
  | with_reducible refine w_gnil ?_
  | with_reducible refine w_gcons ?_
  | ((with_reducible refine w_gL (xs := ?xx) ?h ?_ ?n); (case h => walk_at "vget"); (case n => rfl))
  | ((with_reducible refine w_gT (xs := ?xx) ?h ?_ ?n); (case h => walk_at "vget"); (case n => rfl))
  | ((with_reducible refine w_aug (v := ?vv) ?h ?_); (case h => exact rfl)))
local macro_rules | `(tactic| walk_at "v") => `(tactic| repeat walk_at "v1")
local macro_rules | `(tactic| walk_at "v0") => `(tactic| (simp only [L2.start, cxK, ends_rt, List.map_cons, List.map_nil, List.length_cons, List.length_nil, Nat.reduceAdd, Nat.reduceSub, List.replicate_succ, List.replicate_zero, List.append_nil, List.cons_append, List.nil_append]; walk_at "v"))
local macro_rules | `(tactic| walk_at "u1") => `(tactic| first
  | with_reducible refine w_seqA ?_
  | with_reducible refine w_seqD ?_
  | with_reducible refine w_seqP ?_
  | with_reducible refine w_seqP3 ?_
  | with_reducible refine w_seqG ?_
  | ((fail_if_success (with_reducible refine w_seq ?_)); walk_at "v1"))
local macro_rules | `(tactic| walk_at "u") => `(tactic| repeat walk_at "u1")
local macro_rules | `(tactic| walk_at "u0") => `(tactic| (simp only [L2.start, cxK, ends_rt, List.map_cons, List.map_nil, List.length_cons, List.length_nil, Nat.reduceAdd, Nat.reduceSub, List.replicate_succ, List.replicate_zero, List.append_nil, List.cons_append, List.nil_append]; walk_at "u"))
local macro_rules | `(tactic| walk_at "t1") => `(tactic| ((fail_if_success (with_reducible refine w_seq ?_)); walk_at "v1"))
local macro_rules | `(tactic| walk_at "t") => `(tactic| repeat walk_at "t1")

section
variable {P : Program} {w : World} {K : PySem.W.Frag} {mg : Str → Option Value} {base : Heap}
def spCellG (K : PySem.W.Frag) : Sp := fun vs H Q _ => ∃ (a : Addr) (ns : List Int) (k : Nat), vs = [.ref a, .int k] ∧ SqL K H a (ns.map V.int) ∧ k ≤ 1000 ∧ ∀ i H', Same H H' → Q (.int i) H'
theorem ok_cell (T : Txt K mg) : Cal P w K mg base 1 "_law_cell" ["script", "k"] (spCellG K) := by
  refine cal0 T.d__law_cell sc__law_cell (by rintro vs H Q E ⟨a, ns, k, rfl, _⟩; rfl) (fun cdv f A outer s H vs Q E hr hgd h => ?_)
  obtain ⟨a, ns, k, rfl, hS, hk, q⟩ := h
  refine ⟨_, (pss_one (ps_ret (pe_ifExp (pt_cmpR uLt (pv 1) (pe_callB (kLen K rfl) (by rfl) T.n_len (by decide +kernel) (pa_cons (pv 0) pa_nil)) (nomark _)) (pe_ix (kIx K rfl) (pv 0) (pv 1) (fun _ _ => rfl)) (pe_op (kAdd K rfl) (pe_op uMul pe_int (pv 1)) (pe_op uMod (pe_callTy uInt (by rfl) T.n_int (by decide +kernel) (pa_cons (pe_callB (kSum K rfl rfl) (by rfl) T.n_sum (by decide +kernel) (pa_cons (pe_slice (kSl K rfl) (pv 0) po_none (po_some pe_int)) pa_nil)) pa_nil)) pe_int))))), ?_⟩
  walk_at "v0"
  refine w_if (fun h => ?_) (fun h => ?_)
  · simp only [decide_eq_true_eq, List.length_map] at h
    have hk2 : k < ns.length := by omega
    have g1 := int_at hk2
    walk_at "v"
    exact q _ _ (Same.refl _)
  · walk_at "v"
    refine w_sLt (by walk_at "vget") (by omega) fun p hp => ?_
    rw [cut1]
    walk_at "v"
    refine w_sum (SqL.of upd_same) ?_
    walk_at "v"
    refine w_modN (by omega) fun r _ h1 h2 => ?_
    walk_at "v"
    exact q _ _ (same_new hp)
def spBox : Sp := fun vs H Q _ => ∃ (i : Int), vs = [.int i] ∧ ∀ p H', Same H H' → H p = none → Box H' p 0 → Q (.ref p) H'
theorem ok_box (T : Txt K mg) : Cal P w K mg base 1 "_law_box" ["great"] spBox := by
  refine cal0 T.d__law_box sc__law_box (by rintro vs H Q E ⟨i, rfl, _⟩; rfl) (fun cdv f A outer s H vs Q E hr hgd h => ?_)
  obtain ⟨i, rfl, q⟩ := h
  refine ⟨_, (pss_one (ps_ret (pe_lst (pa_cons (pe_callB uAbs (by rfl) T.n_abs (by decide +kernel) (pa_cons (pv 0) pa_nil)) (pa_cons (pe_cmpR uGe (pe_callB uAbs (by rfl) T.n_abs (by decide +kernel) (pa_cons (pv 0) pa_nil)) (pe_op uPow pe_int pe_int) (nomark _)) (pa_cons (pe_op uMod (pe_callTy uInt (by rfl) T.n_int (by decide +kernel) (pa_cons (pe_callB uAbs (by rfl) T.n_abs (by decide +kernel) (pa_cons (pv 0) pa_nil)) pa_nil)) pe_int) (pa_cons pe_int pa_nil))))))), ?_⟩
  walk_at "v0"
  refine w_powI ?_ (by omega)
  walk_at "v"
  refine w_modN (by omega) fun r _ h1 h2 => ?_
  walk_at "v"
  refine ⟨by walk_at "sz", fun p hp => ?_⟩
  exact q p _ (same_new hp) hp ⟨_, _, r, 0, upd_same, by split <;> omega, h1, by omega, Nat.le_refl _⟩
def spTake : Sp := fun vs H Q _ => ∃ (p : Addr) (n : Int) (c : Nat), vs = [.ref p, .int n] ∧ Box H p c ∧ c ≤ 100000000 ∧ 0 < n ∧ n < 1073741824 ∧
  ∀ r H', 0 ≤ r → r < n → Box H' p (c + 1) → Fr p H H' → Q (.int r) H'
theorem ok_take (T : Txt K mg) : Cal P w K mg base 1 "_law_take" ["box", "many"] spTake := by
  refine cal0 T.d__law_take sc__law_take (by rintro vs H Q E ⟨p, n, c, rfl, _⟩; rfl) (fun cdv f A outer s H vs Q E hr hgd h => ?_)
  obtain ⟨p, n, c, rfl, ⟨g, b, m, d, hb, hg, hm, hm2, hd⟩, hc, hn, hn2, q⟩ := h
  refine ⟨_, (pss_cons (ps_if (PW.pt (pw_and (pt_val (pe_ix (kIx K rfl) (pv 0) pe_int (fun _ _ => rfl))) (pw_and1 (pt_cmpR uGt (pe_ix (kIx K rfl) (pv 0) pe_int (fun _ _ => rfl)) pe_int (nomark _))))) (pss_cons (ps_set (i := 3) sc__law_take.nd rfl (by first | exact Or.inl rfl | exact Or.inr rfl) (pe_op uMod (pe_callTy uInt (by rfl) T.n_int (by decide +kernel) (pa_cons (pe_ix (kIx K rfl) (pv 0) pe_int (fun _ _ => rfl)) pa_nil)) (pv 1)))
  (pss_cons (ps_asg (pe_op uDiv (pe_ix (kIx K rfl) (pv 0) pe_int (fun _ _ => rfl)) (pv 1)) (pg_sub (pv 0) pe_int set_list))
  (pss_one (ps_ret (pv 3))))) pss_nil)
  (pss_cons (ps_asg (pe_op (kAdd K rfl) (pe_ix (kIx K rfl) (pv 0) pe_int (fun _ _ => rfl)) pe_int) (pg_sub (pv 0) pe_int set_list))
  (pss_cons (ps_set (i := 2) sc__law_take.nd rfl (by first | exact Or.inl rfl | exact Or.inr rfl) (pe_op uMod (pe_callTy uInt (by rfl) T.n_int (by decide +kernel) (pa_cons (pe_op uPow (pe_op (kAdd K rfl) (pe_op (kAdd K rfl) (pe_ix (kIx K rfl) (pv 0) pe_int (fun _ _ => rfl)) (pe_op uMul pe_int (pe_ix (kIx K rfl) (pv 0) pe_int (fun _ _ => rfl)))) pe_int) pe_int) pa_nil)) pe_int))
  (pss_one (ps_ret (pe_op uMod (pe_op uDiv (pe_op uMod (pe_callTy uInt (by rfl) T.n_int (by decide +kernel) (pa_cons (pe_op uPow (pe_op (kAdd K rfl) (pe_op uMul (pv 2) pe_int) (pe_op uMul pe_int (pe_ix (kIx K rfl) (pv 0) pe_int (fun _ _ => rfl)))) pe_int) pa_nil)) pe_int) pe_int) (pv 1))))))), ?_⟩
  walk_at "v0"
  have e1 : ((d + 1 : Nat) : Int) = (d : Int) + 1 := by omega
  refine w_if (fun hb1 => ?_) (fun hb1 => ?_)
  · walk_at "v"
    refine w_if (fun hb2 => ?_) (fun hb2 => ?_)
    · walk_at "v"
      refine w_modN (by omega) fun r _ h1 h2 => ?_
      walk_at "v"
      exact q _ _ h1 h2 ⟨g / n, b, m, d, upd_same, Int.ediv_nonneg hg (by omega), hm, hm2, by omega⟩ (Fr.put (Fr.refl _ _))
    walk_at "v"
    refine w_powI ?_ (by omega)
    walk_at "v"
    refine w_modN (by omega) fun r1 _ h1 h2 => ?_
    walk_at "v"
    refine w_powI ?_ (by omega)
    walk_at "v"
    refine w_modN (by omega) fun r2 _ h3 h4 => ?_
    walk_at "v"
    refine w_modN (by omega) fun r3 _ h5 h6 => ?_
    walk_at "v"
    exact q _ _ h5 h6 ⟨g, b, m, d + 1, (by rw [e1]; exact upd_same), hg, hm, hm2, by omega⟩ (Fr.put (Fr.refl _ _))
  · walk_at "v"
    refine w_powI ?_ (by omega)
    walk_at "v"
    refine w_modN (by omega) fun r1 _ h1 h2 => ?_
    walk_at "v"
    refine w_powI ?_ (by omega)
    walk_at "v"
    refine w_modN (by omega) fun r2 _ h3 h4 => ?_
    walk_at "v"
    refine w_modN (by omega) fun r3 _ h5 h6 => ?_
    walk_at "v"
    exact q _ _ h5 h6 ⟨g, b, m, d + 1, (by rw [e1]; exact upd_same), hg, hm, hm2, by omega⟩ (Fr.put (Fr.refl _ _))
theorem take_w {p : Addr} {n : Int} {N c : Nat} {H : Hp} {Q : VK} {E : XK} (e : n = (N : Int)) (hb : Box H p c) (hc : c ≤ 100000000 ∧ 0 < N ∧ N < 1073741824) (q : ∀ (k : Nat) H', k < N → Box H' p (c + 1) → SL.Fr p H H' → Q (.int k) H') : spTake [.ref p, .int n] H Q E := by
  refine ⟨p, n, c, rfl, hb, hc.1, by omega, by omega, fun r H' r0 r1 b f => ?_⟩
  obtain ⟨k, rfl⟩ := Int.eq_ofNat_of_zero_le r0
  exact q k H' (by omega) b f
def spIsTx (K : PySem.W.Frag) : Sp := fun vs H Q _ => ∃ v b, vs = [v] ∧ IsTx K H v b ∧ ∀ H', Same H H' → Q (.bl b) H'
theorem ok_is_text (T : Txt K mg) : Cal P w K mg base 1 "is_text" ["value"] (spIsTx K) := by
  refine cal0 T.d_is_text sc_is_text (by rintro vs H Q E ⟨v, b, rfl, _⟩; rfl) (fun cdv f A outer s H vs Q E hr hgd h => ?_)
  obtain ⟨v, b, rfl, hv, q⟩ := h
  refine ⟨_, (pss_one (ps_ret (pe_and (pe_callB (kIsi K rfl) (by rfl) T.n_isinstance (by decide +kernel) (pa_cons (pv 0) (pa_cons (pe_bltn (v := .ty "str") (by rfl) T.n_str (by decide +kernel) rfl) pa_nil))) (pe_one (pe_callB (kAll K rfl rfl) (by rfl) T.n_all (by decide +kernel) (pa_cons (pe_lc (own := [("letter", 1)]) rfl sc_is_text.nd (pi_str (pv 0)) (blkOk_by (own := [("letter", 1)]) (N := N_is_text) (sc := defScope s_is_text) (by decide +kernel)) (fun _ _ _ _ _ => (pg_name (i := 1) sc_is_text.nd rfl (by first | exact Or.inl rfl | exact Or.inr rfl))) (fun _ _ _ _ _ => pts_nil) (fun _ _ _ _ _ => (pe_cmpR (kIn K rfl) (pv 1) (pe_gs (by rfl) T.g_LETTERS) (by rfl)))) pa_nil)))))), ?_⟩
  walk_at "v0"
  rcases hv with ⟨l, rfl, hz, rfl⟩ | ⟨rfl, t, ht, hk, hn⟩
  · refine w_isiS ?_ (by decide)
    walk_at "v"
    intro D hD
    refine lc_tx (fun i H' => Same H H' ∧ H' D = some (.lst ((l.take i).map fun c => V.bl (decide (c ∈ abc))))) ⟨same_new hD, upd_same⟩ ?_ ?_
    · rintro i c H1 hi ⟨s1, h1⟩
      have hb := lt_of_get hi
      walk_at "v"
      exact ⟨Same.grow s1 hD, by rw [upd_same, take_more hi, List.map_append]; rfl⟩
    · rintro H1 ⟨s1, h1⟩
      walk_at "v"
      rw [List.take_length] at h1
      refine w_allL (bs := l.map fun c => decide (c ∈ abc)) (SqL.of (by rw [List.map_map]; exact h1)) ?_
      walk_at "v"
      rw [all_let]
      exact q _ s1
  · refine w_isiK ht hk (.inr (.inr (.inl rfl))) ?_
    have e : (t == "str" || (t == "bool" && "str" == "int")) = false := by simp [hn]
    rw [e]
    walk_at "v"
    exact q _ (Same.refl _)
/-- check_text: nothing, or the error with the value -/
def spCheckD (K : PySem.W.Frag) (C : Addr) : Sp := fun vs H Q E => ∃ v b, vs = [v] ∧ IsTx K H v b ∧ (b = true → ∀ H', Same H H' → Q .non H') ∧ (b = false → ∀ H' d, Same H H' → H' d = some (xdG v) → E (.ref C) (some d) H')
theorem ok_check_text (T : Txt K mg) (c_is_text : Cal P w K mg base 1 "is_text" ["value"] (spIsTx K)) : Cal P w K mg base 2 "check_text" ["text"] (spCheckD K (errAt mg "InvalidText")) := by
  refine calX T.d_check_text sc_check_text (by rintro vs H Q E ⟨v, b, rfl, _⟩; rfl) (fun cdv f A outer s H vs Q E hr hgd h => ?_)
  obtain ⟨v, b, rfl, hv, q1, q2⟩ := h
  refine ⟨_, (pss_one (ps_if (pt_not (pt_val (pe_g c_is_text hr (by decide) hgd (by rfl) (passAt tk_def) (pa_cons (pv 0) pa_nil)))) (pss_one (ps_rzA mg T.x_InvalidText rfl (by rfl) tk_def hr (by rfl) (pa_cons (pv 0) pa_nil))) pss_nil)), ?_⟩
  walk_at "v0"
  refine ⟨v, b, rfl, hv, fun H1 s1 => ?_⟩
  walk_at "v"
  cases b with
  | true =>
    walk_at "v"
    exact q1 rfl _ s1
  | false =>
    walk_at "v"
    refine w_rz ?_
    walk_at "v"
    refine w_one fun d hd => ?_
    exact q2 rfl _ d (Same.new s1 hd) upd_same
def spBegin : Sp := fun vs H Q _ => ∃ l m : List Nat, vs = [.str (tx l), .str (tx m)] ∧ l.length ≤ 16000000 ∧ m.length ≤ 16000000 ∧ ∀ k : Nat, k ≤ l.length → k ≤ m.length → l.take k = m.take k → Q (.int k) H
theorem ok_common_beginning (T : Txt K mg) : Cal P w K mg base 1 "common_beginning" ["one", "other"] spBegin := by
  refine cal0 T.d_common_beginning sc_common_beginning (by rintro vs H Q E ⟨l, m, rfl, _⟩; rfl) (fun cdv f A outer s H vs Q E hr hgd h => ?_)
  obtain ⟨l, m, rfl, hl, hm, q⟩ := h
  refine ⟨_, (pss_cons (ps_set (i := 2) sc_common_beginning.nd rfl (by first | exact Or.inl rfl | exact Or.inr rfl) pe_int)
  (pss_cons (ps_while PassesOwn.never (PW.pt (pw_and (pt_cmpR uLt (pv 2) (pe_callB (uMin2 rfl) (by rfl) T.n_min (by decide +kernel) (pa_cons (pe_callB (kLen K rfl) (by rfl) T.n_len (by decide +kernel) (pa_cons (pv 0) pa_nil)) (pa_cons (pe_callB (kLen K rfl) (by rfl) T.n_len (by decide +kernel) (pa_cons (pv 1) pa_nil)) pa_nil))) (nomark _)) (pw_and1 (pt_cmpR (kEq K rfl hr) (pe_ix (kIx K rfl) (pv 0) (pv 2) (fun _ _ => rfl)) (pe_ix (kIx K rfl) (pv 1) (pv 2) (fun _ _ => rfl)) (nomark _)))))
  (pss_one (ps_aug (i := 2) sc_common_beginning.nd rfl (by first | exact Or.inl rfl | exact Or.inr rfl) pe_int ip_add)))
  (pss_one (ps_ret (pv 2))))), ?_⟩
  walk_at "v0"
  refine ⟨fun n σ H1 => H1 = H ∧ ∃ k : Nat, n + k = l.length ∧ k ≤ m.length ∧ l.take k = m.take k ∧ σ = [some (.str (tx l)), some (.str (tx m)), some (.int k)], ⟨l.length, rfl, 0, rfl, by omega, rfl, rfl⟩, ?_⟩
  rintro n σ H1 ⟨rfl, k, hk, hkm, ht, rfl⟩
  walk_at "v"
  refine w_if (fun h => ?_) (fun h => ?_)
  · have hh := of_decide_eq_true h
    have h1 : k < l.length := by split at hh <;> omega
    have h2 : k < m.length := by split at hh <;> omega
    have g1 := get_of h1
    have g2 := get_of h2
    walk_at "v"
    refine w_if (fun h => ?_) (fun h => ?_)
    · refine ⟨_, fun σ' H' z => ⟨n - 1, by omega, z⟩, ?_⟩
      walk_at "v"
      have e := of_decide_eq_true h
      refine ⟨rfl, k + 1, by omega, by omega, ?_, rfl⟩
      rw [take_more g1, take_more g2, ht]
      exact congrArg _ e
    · walk_at "v"
      exact q k (by omega) (by omega) ht
  · walk_at "v"
    exact q k (by omega) (by omega) ht
def spEnds : Sp := fun vs H Q _ => ∃ l m : List Nat, vs = [.str (tx l), .str (tx m)] ∧ l.length ≤ 16000000 ∧ m.length ≤ 16000000 ∧
  ∀ (u v : List Nat) p H', Same H H' → H' p = some (.tup [.str (tx u), .str (tx v)]) → lev u v = lev l m → u.length ≤ l.length → v.length ≤ m.length → u.length + m.length = v.length + l.length → Q (.ref p) H'
theorem ok_without_common_ends (T : Txt K mg) (c_common_beginning : Cal P w K mg base 1 "common_beginning" ["one", "other"] spBegin) : Cal P w K mg base 2 "without_common_ends" ["one", "other"] spEnds := by
  refine cal0 T.d_without_common_ends sc_without_common_ends (by rintro vs H Q E ⟨l, m, rfl, _⟩; rfl) (fun cdv f A outer s H vs Q E hr hgd h => ?_)
  obtain ⟨l, m, rfl, hl, hm, q⟩ := h
  refine ⟨_, (pss_cons (ps_set (i := 2) sc_without_common_ends.nd rfl (by first | exact Or.inl rfl | exact Or.inr rfl) (pe_g c_common_beginning hr (by decide) hgd (by rfl) noX (pa_cons (pv 0) (pa_cons (pv 1) pa_nil))))
  (pss_cons (ps_par (i := 3) (j := 4) (by rfl) sc_without_common_ends.nd rfl rfl (by decide) rfl rfl (pa_cons (pe_slice (kSl K rfl) (pv 0) (po_some (pv 2)) po_none) (pa_cons (pe_slice (kSl K rfl) (pv 1) (po_some (pv 2)) po_none) pa_nil)) (by rfl))
  (pss_cons (ps_set (i := 2) sc_without_common_ends.nd rfl (by first | exact Or.inl rfl | exact Or.inr rfl) (pe_g c_common_beginning hr (by decide) hgd (by rfl) noX (pa_cons (kRev K rfl (pv 3)) (pa_cons (kRev K rfl (pv 4)) pa_nil))))
  (pss_one (ps_ret (pe_tup (pa_cons (pe_slice (kSl K rfl) (pv 3) po_none (po_some (pe_op uSub (pe_callB (kLen K rfl) (by rfl) T.n_len (by decide +kernel) (pa_cons (pv 3) pa_nil)) (pv 2)))) (pa_cons (pe_slice (kSl K rfl) (pv 4) po_none (po_some (pe_op uSub (pe_callB (kLen K rfl) (by rfl) T.n_len (by decide +kernel) (pa_cons (pv 4) pa_nil)) (pv 2)))) pa_nil)))))))), ?_⟩
  walk_at "v0"
  refine ⟨l, m, rfl, hl, hm, fun k k1 k2 kt => ?_⟩
  walk_at "v"
  refine ⟨_, _, rfl, by walk_at "sz", by walk_at "sz", fun j j1 j2 jt => ?_⟩
  rw [List.length_reverse, List.length_drop] at j1 j2
  walk_at "v"
  refine ⟨by walk_at "sz", fun p hp => ?_⟩
  walk_at "v"
  have e1 : ((List.drop k l).length - (j : Int)).toNat = (List.drop k l).length - j := by omega
  have e2 : ((List.drop k m).length - (j : Int)).toNat = (List.drop k m).length - j := by omega
  rw [e1, e2]
  refine q _ _ p _ (same_new hp) upd_same ((lev_cutT jt).trans (lev_cutH kt)) ?_ ?_ ?_
  · simp only [List.length_take, List.length_drop]; omega
  · simp only [List.length_take, List.length_drop]; omega
  · simp only [List.length_take, List.length_drop]; omega
def spNext (K : PySem.W.Frag) : Sp := fun vs H Q _ => ∃ (p : Addr) (x y : List Nat) (most at' c : Nat), vs = [.ref p, .str (tx [c]), .int at', .str (tx y)] ∧ SqL K H p ((bandL x y most at').map V.int) ∧ x[at']? = some c ∧ x.length ≤ 1000000 ∧ y.length ≤ 1000000 ∧ most ≤ 1000000 ∧
  ∀ q H', Same H H' → H' q = some (.lst ((bandL x y most (at' + 1)).map V.int)) → Q (.ref q) H'
theorem ok_next_band (T : Txt K mg) : Cal P w K mg base 1 "next_band" ["band", "letter", "at", "other"] (spNext K) := by
  refine cal0 T.d_next_band sc_next_band (by rintro vs H Q E ⟨p, x, y, most, at', c, rfl, _⟩; rfl) (fun cdv f A outer s H vs Q E hr hgd h => ?_)
  obtain ⟨p, x, y, most, at', c, rfl, hp, hc, zx, zy, zm, q⟩ := h
  refine ⟨_, (pss_cons (ps_par (i := 5) (j := 6) (by rfl) sc_next_band.nd rfl rfl (by decide) rfl rfl (pa_cons (pe_op uDiv (pe_callB (kLen K rfl) (by rfl) T.n_len (by decide +kernel) (pa_cons (pv 0) pa_nil)) pe_int) (pa_cons (pe_lst pa_nil) pa_nil)) (by rfl))
  (pss_cons (ps_for PassesOwn.never rfl (pi_range1 (by rfl) T.n_range (pa_cons (pe_callB (kLen K rfl) (by rfl) T.n_len (by decide +kernel) (pa_cons (pv 0) pa_nil)) pa_nil)) (pg_name (i := 4) sc_next_band.nd rfl (by first | exact Or.inl rfl | exact Or.inr rfl))
  (pss_cons (ps_set (i := 7) sc_next_band.nd rfl (by first | exact Or.inl rfl | exact Or.inr rfl) (pe_op uSub (pe_op (kAdd K rfl) (pe_op (kAdd K rfl) (pv 2) pe_int) (pv 4)) (pv 5)))
  (pss_cons (ps_set (i := 8) sc_next_band.nd rfl (by first | exact Or.inl rfl | exact Or.inr rfl) (pe_lst (pa_cons (pe_op (kAdd K rfl) (pv 5) pe_int) pa_nil)))
  (pss_cons (ps_if (pt_chain uLt uLe pe_int (pv 7) (pe_callB (kLen K rfl) (by rfl) T.n_len (by decide +kernel) (pa_cons (pv 3) pa_nil))) (pss_one (ps_expr (kBm K rfl PySem.F.plainAttrs_list PySem.F.slot_list_append PySem.F.type_list_append mt_append (pv 8) (pa_cons (pe_op (kAdd K rfl) (pe_ix (kIx K rfl) (pv 0) (pv 4) (fun _ _ => rfl)) (pe_callTy uInt (by rfl) T.n_int (by decide +kernel) (pa_cons (pe_cmpR (kNe K rfl hr) (pv 1) (pe_ix (kIx K rfl) (pv 3) (pe_op uSub (pv 7) pe_int) (fun _ _ => rfl)) (nomark _)) pa_nil))) pa_nil)))) pss_nil)
  (pss_cons (ps_if (PW.pt (pw_and (pt_chain uLt uLe pe_int (pv 7) (pe_callB (kLen K rfl) (by rfl) T.n_len (by decide +kernel) (pa_cons (pv 3) pa_nil))) (pw_and1 (pt_cmpR uGt (pv 4) pe_int (nomark _))))) (pss_one (ps_expr (kBm K rfl PySem.F.plainAttrs_list PySem.F.slot_list_append PySem.F.type_list_append mt_append (pv 8) (pa_cons (pe_op (kAdd K rfl) (pe_ix (kIx K rfl) (pv 6) (pe_op uSub (pv 4) pe_int) (fun _ _ => rfl)) pe_int) pa_nil)))) pss_nil)
  (pss_cons (ps_if (PW.pt (pw_and (pt_chain uLe uLe pe_int (pv 7) (pe_callB (kLen K rfl) (by rfl) T.n_len (by decide +kernel) (pa_cons (pv 3) pa_nil))) (pw_and1 (pt_cmpR uLt (pv 4) (pe_op uMul pe_int (pv 5)) (nomark _))))) (pss_one (ps_expr (kBm K rfl PySem.F.plainAttrs_list PySem.F.slot_list_append PySem.F.type_list_append mt_append (pv 8) (pa_cons (pe_op (kAdd K rfl) (pe_ix (kIx K rfl) (pv 0) (pe_op (kAdd K rfl) (pv 4) pe_int) (fun _ _ => rfl)) pe_int) pa_nil)))) pss_nil)
  (pss_one (ps_expr (kBm K rfl PySem.F.plainAttrs_list PySem.F.slot_list_append PySem.F.type_list_append mt_append (pv 6) (pa_cons (pe_callB (kMin K rfl rfl) (by rfl) T.n_min (by decide +kernel) (pa_cons (pv 8) pa_nil)) pa_nil))))))))))
  (pss_one (ps_ret (pv 6))))), ?_⟩
  have hbl : ((bandL x y most at').map V.int).length = 2 * most + 1 := by rw [List.length_map, bandL_len]
  have hlt := lt_of_get hc
  walk_at "v0"
  refine ⟨by walk_at "sz", fun f hf => ?_⟩
  walk_at "v"
  have hm2 : ((List.map V.int (bandL x y most at')).length : Int) / 2 = most := by omega
  rw [hm2]
  refine for_rg (n := 2 * most + 1) (by omega) (fun i σ H' => ∃ u v z, σ = [some (V.ref p), some (V.str (tx [c])), some (V.int at'), some (V.str (tx y)), u, some (V.int most), some (V.ref f), v, z] ∧
    Same H H' ∧ H' f = some (.lst (((bandL x y most (at' + 1)).take i).map V.int))) ⟨_, _, _, rfl, same_new hf, upd_same⟩ ?_ ?_
  · rintro i σ H1 hi ⟨u, v, z, rfl, s1, h1⟩
    have fl : ((List.map V.int ((bandL x y most (at' + 1)).take i))).length = i := by rw [List.length_map, List.length_take, bandL_len]; omega
    have hb1 : ((bandL x y most at').map V.int)[i]? = some (.int (bval x y most at' i)) := by rw [List.getElem?_map, bandL_at x y (by omega)]; rfl
    have hb2 : i < 2 * most → ((bandL x y most at').map V.int)[i + 1]? = some (.int (bval x y most at' (i + 1))) := fun h => by rw [List.getElem?_map, bandL_at x y (by omega)]; rfl
    have hb3 : 0 < i → (((bandL x y most (at' + 1)).take i).map V.int)[i - 1]? = some (.int (bval x y most (at' + 1) (i - 1))) := fun h => by
      rw [List.getElem?_map, List.getElem?_take_of_lt (by omega), bandL_at x y (by omega)]; rfl
    have hp1 := fr_sql (Fr.of (p := f) s1) hp
    obtain ⟨va, hva⟩ : ∃ va : Int, va = bval x y most at' i + un x y at' (at' + i - most) := ⟨_, rfl⟩
    obtain ⟨vb, hvb⟩ : ∃ vb : Int, vb = bval x y most (at' + 1) (i - 1) + 1 := ⟨_, rfl⟩
    obtain ⟨vc, hvc⟩ : ∃ vc : Int, vc = bval x y most at' (i + 1) + 1 := ⟨_, rfl⟩
    obtain ⟨ca, hca⟩ : ∃ ca : Bool, ca = decide (most < at' + 1 + i ∧ at' + 1 + i ≤ most + y.length) := ⟨_, rfl⟩
    obtain ⟨cb, hcb⟩ : ∃ cb : Bool, cb = decide ((most < at' + 1 + i ∧ at' + 1 + i ≤ most + y.length) ∧ 0 < i) := ⟨_, rfl⟩
    obtain ⟨cc, hcc⟩ : ∃ cc : Bool, cc = decide ((most ≤ at' + 1 + i ∧ at' + 1 + i ≤ most + y.length) ∧ i < 2 * most) := ⟨_, rfl⟩
    obtain ⟨w1, hw1⟩ : ∃ w1 : List Int, w1 = [(most : Int) + 1] ++ (if ca then [va] else []) := ⟨_, rfl⟩
    obtain ⟨w2, hw2⟩ : ∃ w2 : List Int, w2 = w1 ++ (if cb then [vb] else []) := ⟨_, rfl⟩
    obtain ⟨w3, hw3⟩ : ∃ w3 : List Int, w3 = w2 ++ (if cc then [vc] else []) := ⟨_, rfl⟩
    have l1 : w1.length ≤ 2 := by rw [hw1]; cases ca <;> simp
    have l2 : w2.length ≤ 3 := by rw [hw2, List.length_append]; cases cb <;> simp <;> omega
    walk_at "u"
    refine ⟨by walk_at "sz", fun g hg => ?_⟩
    have hgf : g ≠ f := Ne.symm (ne_of_none h1 hg)
    walk_at "u"
    refine w_seqI (fun σ H' => σ = [some (V.ref p), some (V.str (tx [c])), some (V.int at'), some (V.str (tx y)), some (V.int i), some (V.int most), some (V.ref f), some (V.int (at' + 1 + i - most)), some (V.ref g)] ∧
      Same H1 H' ∧ H' g = some (.lst (w1.map V.int))) ?_ ?_
    · rintro σ H2 ⟨rfl, s2, h2⟩
      refine w_seqI (fun σ H' => σ = [some (V.ref p), some (V.str (tx [c])), some (V.int at'), some (V.str (tx y)), some (V.int i), some (V.int most), some (V.ref f), some (V.int (at' + 1 + i - most)), some (V.ref g)] ∧
        Same H1 H' ∧ H' g = some (.lst (w2.map V.int))) ?_ ?_
      · rintro σ H3 ⟨rfl, s3, h3⟩
        refine w_seqI (fun σ H' => σ = [some (V.ref p), some (V.str (tx [c])), some (V.int at'), some (V.str (tx y)), some (V.int i), some (V.int most), some (V.ref f), some (V.int (at' + 1 + i - most)), some (V.ref g)] ∧
          Same H1 H' ∧ H' g = some (.lst (w3.map V.int))) ?_ ?_
        · rintro σ H4 ⟨rfl, s4, h4⟩
          walk_at "v"
          refine w_minL (SqL.of h4) (by rw [hw3, hw2, hw1]; simp) fun m hm hall => ?_
          have e : m = bval x y most (at' + 1) i := by
            rw [hw3, hw2, hw1] at hm hall
            have l0 := hall (most + 1) (by simp)
            have l1 : ca = true → m ≤ va := fun h => hall va (by rw [h]; simp)
            have l2 : cb = true → m ≤ vb := fun h => hall vb (by rw [h]; simp)
            have l3 : cc = true → m ≤ vc := fun h => hall vc (by rw [h]; simp)
            rw [hca, decide_eq_true_eq] at l1
            rw [hcb, decide_eq_true_eq] at l2
            rw [hcc, decide_eq_true_eq] at l3
            have hm' : m = most + 1 ∨ (ca = true ∧ m = va) ∨ (cb = true ∧ m = vb) ∨ (cc = true ∧ m = vc) := by
              rcases List.mem_append.mp hm with hm | hm
              · rcases List.mem_append.mp hm with hm | hm
                · rcases List.mem_append.mp hm with hm | hm
                  · exact .inl (by simpa using hm)
                  · cases ca with
                    | true => exact .inr (.inl ⟨rfl, by simpa using hm⟩)
                    | false => simp at hm
                · cases cb with
                  | true => exact .inr (.inr (.inl ⟨rfl, by simpa using hm⟩))
                  | false => simp at hm
              · cases cc with
                | true => exact .inr (.inr (.inr ⟨rfl, by simpa using hm⟩))
                | false => simp at hm
            rw [hca, hcb, hcc, decide_eq_true_eq, decide_eq_true_eq, decide_eq_true_eq] at hm'
            refine bstep (x := x) l0 (fun h1 h2 => by rw [← hva]; exact l1 ⟨h1, h2⟩) (fun h1 h2 h3 => by rw [← hvb]; exact l2 ⟨⟨h1, h2⟩, h3⟩) (fun h1 h2 h3 => by rw [← hvc]; exact l3 ⟨⟨h1, h2⟩, h3⟩) ?_ (by omega)
            rw [← hva, ← hvb, ← hvc]
            rcases hm' with h | ⟨h, h'⟩ | ⟨h, h'⟩ | ⟨h, h'⟩
            · exact .inl h
            · exact .inr (.inl ⟨h.1, h.2, h'⟩)
            · exact .inr (.inr (.inl ⟨h.1.1, h.1.2, h.2, h'⟩))
            · exact .inr (.inr (.inr ⟨h.1.1, h.1.2, h.2, h'⟩))
          subst e
          walk_at "v"
          refine ⟨_, _, _, rfl, Same.grow (s1.trans s4) hf, ?_⟩
          rw [upd_same, take_more (bandL_at x y (by omega)), List.map_append]
          rfl
        · intro N hN
          have no : cc = false → N [some (V.ref p), some (V.str (tx [c])), some (V.int at'), some (V.str (tx y)), some (V.int i), some (V.int most), some (V.ref f), some (V.int (at' + 1 + i - most)), some (V.ref g)] H3 := fun h =>
            hN _ _ ⟨rfl, s3, by rw [h3, hw3, h]; simp⟩
          walk_at "v"
          refine w_if (fun ha => ?_) (fun ha => ?_)
          · have ha := of_decide_eq_true ha
            walk_at "v"
            refine w_if (fun hb => ?_) (fun hb => ?_)
            · have hb := of_decide_eq_true hb
              walk_at "v"
              refine w_if (fun hc => ?_) (fun hc => ?_)
              · have hc := of_decide_eq_true hc
                have hcc2 : cc = true := by rw [hcc, decide_eq_true_eq]; omega
                have g2 : atI ((bandL x y most at').map V.int) ((i : Int) + 1) = some (.int (bval x y most at' (i + 1))) := by
                  rw [show (i : Int) + 1 = ((i + 1 : Nat) : Int) by omega]
                  exact atI_n (hb2 (by omega))
                walk_at "v"
                refine hN _ _ ⟨rfl, Same.grow s3 hg, ?_⟩
                rw [upd_same, hw3, hcc2, hvc, List.map_append]
                rfl
              · walk_at "v"
                exact no (by rw [hcc, decide_eq_false_iff_not]; have hc := of_decide_eq_false hc; omega)
            · walk_at "v"
              exact no (by rw [hcc, decide_eq_false_iff_not]; have hb := of_decide_eq_false hb; omega)
          · walk_at "v"
            exact no (by rw [hcc, decide_eq_false_iff_not]; have ha := of_decide_eq_false ha; omega)
      · intro N hN
        have no : cb = false → N [some (V.ref p), some (V.str (tx [c])), some (V.int at'), some (V.str (tx y)), some (V.int i), some (V.int most), some (V.ref f), some (V.int (at' + 1 + i - most)), some (V.ref g)] H2 := fun h =>
          hN _ _ ⟨rfl, s2, by rw [h2, hw2, h]; simp⟩
        walk_at "v"
        refine w_if (fun ha => ?_) (fun ha => ?_)
        · have ha := of_decide_eq_true ha
          walk_at "v"
          refine w_if (fun hb => ?_) (fun hb => ?_)
          · have hb := of_decide_eq_true hb
            walk_at "v"
            refine w_if (fun hc => ?_) (fun hc => ?_)
            · have hc := of_decide_eq_true hc
              have hcb2 : cb = true := by rw [hcb, decide_eq_true_eq]; omega
              have h1f := s2 _ _ h1
              have g2 : atI (((bandL x y most (at' + 1)).take i).map V.int) ((i : Int) - 1) = some (.int (bval x y most (at' + 1) (i - 1))) := by
                rw [show (i : Int) - 1 = ((i - 1 : Nat) : Int) by omega]
                exact atI_n (hb3 (by omega))
              walk_at "v"
              refine hN _ _ ⟨rfl, Same.grow s2 hg, ?_⟩
              rw [upd_same, hw2, hcb2, hvb, List.map_append]
              rfl
            · walk_at "v"
              exact no (by rw [hcb, decide_eq_false_iff_not]; have hc := of_decide_eq_false hc; omega)
          · walk_at "v"
            exact no (by rw [hcb, decide_eq_false_iff_not]; have hb := of_decide_eq_false hb; omega)
        · walk_at "v"
          exact no (by rw [hcb, decide_eq_false_iff_not]; have ha := of_decide_eq_false ha; omega)
    · intro N hN
      have no : ca = false → N [some (V.ref p), some (V.str (tx [c])), some (V.int at'), some (V.str (tx y)), some (V.int i), some (V.int most), some (V.ref f), some (V.int (at' + 1 + i - most)), some (V.ref g)] (upd H1 g (.lst [.int ((most : Int) + 1)])) := fun h =>
        hN _ _ ⟨rfl, same_new hg, by rw [upd_same, hw1, h]; simp⟩
      walk_at "v"
      refine w_if (fun ha => ?_) (fun ha => ?_)
      · walk_at "v"
        refine w_if (fun hb => ?_) (fun hb => ?_)
        · have ha := of_decide_eq_true ha
          have hb := of_decide_eq_true hb
          have g1 : atI y ((at' : Int) + 1 + i - most - 1) = some (y[at' + i - most]'(by omega)) := by
            rw [show (at' : Int) + 1 + i - most - 1 = ((at' + i - most : Nat) : Int) by omega]
            exact atI_n (get_of (by omega))
          walk_at "v"
          rw [un_eq hc (get_of (by omega))]
          walk_at "v"
          have hca2 : ca = true := by rw [hca, decide_eq_true_eq]; omega
          refine hN _ _ ⟨rfl, Same.grow (same_new hg) hg, ?_⟩
          rw [upd_same, hw1, hca2, hva]
          rfl
        · walk_at "v"
          exact no (by rw [hca, decide_eq_false_iff_not]; have hb := of_decide_eq_false hb; omega)
      · walk_at "v"
        exact no (by rw [hca, decide_eq_false_iff_not]; have ha := of_decide_eq_false ha; omega)
  · rintro σ H1 ⟨u, v, z, rfl, s1, h1⟩
    walk_at "v"
    refine q _ _ s1 ?_
    rw [h1, List.take_of_length_le (by rw [bandL_len]; omega)]
end
end K09
set_option Elab.async false
set_option linter.all false
set_option maxRecDepth 100000
set_option maxHeartbeats 4000000
namespace K09
open PySem PySem.Spec PyProof.Rows L2 SL Lv
local macro_rules | `(tactic| walk_at "sz") => `(tactic| first
  | assumption
  | omega
  | (simp only [List.length_cons, List.length_nil, List.length_append, List.length_map, List.length_take, List.length_drop, List.length_reverse, List.length_replicate, List.length_range, tx_len, sizeLine_eq, CMul, CDiv, Nat.reduceAdd, Nat.reduceLeDiff]; first | done | omega)
  | decide)
local macro_rules | `(tactic| walk_at "ne") => `(tactic| first
  | assumption
  | exact Ne.symm (by assumption)
  | (refine ne_of_none (H := ?H0) (o := ?oo) ?hh ?hn; (case hn => assumption); (case hh => walk_at "hget"))
  | (refine Ne.symm (ne_of_none (H := ?H0) (o := ?oo) ?hh ?hn); (case hn => assumption); (case hh => walk_at "hget")))
local macro_rules | `(tactic| walk_at "hget") => `(tactic| first
  | assumption
  | exact upd_same
  | (refine (upd_ne ?n).trans ?g; (case n => walk_at "ne"); (case g => walk_at "hget"))
  | (refine fr_get (p := ?pp) (H := ?H0) ?f ?g ?n; (case f => assumption); (case g => walk_at "hget"); (case n => walk_at "ne"))
  | (refine same_get (H := ?H0) ?f ?g; (case f => assumption); (case g => walk_at "hget")))
local macro_rules | `(tactic| walk_at "vget") => `(tactic| first
  | assumption
  | (refine SqL.of ?g; (case g => walk_at "hget"))
  | (refine SqT.of ?g; (case g => walk_at "hget"))
  | (refine sql_new ?n ?g; (case n => assumption); (case g => walk_at "vget"))
  | (refine sqt_new ?n ?g; (case n => assumption); (case g => walk_at "vget"))
  | (refine sql_upd ?n ?g; (case n => walk_at "ne"); (case g => walk_at "vget"))
  | (refine sqt_upd ?n ?g; (case n => walk_at "ne"); (case g => walk_at "vget"))
  | (refine Same.seq (H := ?H0) ?f ?g; (case f => assumption); (case g => walk_at "vget"))
  | (refine Same.seqT (H := ?H0) ?f ?g; (case f => assumption); (case g => walk_at "vget"))
  | (refine fr_sql (b := ?pp) (H := ?H0) ?f ?g ?n; (case f => assumption); (case g => walk_at "vget"); (case n => walk_at "ne"))
  | (refine fr_sqt (b := ?pp) (H := ?H0) ?f ?g ?n; (case f => assumption); (case g => walk_at "vget"); (case n => walk_at "ne")))
local macro_rules | `(tactic| walk_at "at") => `(tactic| first
  | assumption
  | rfl
  | (refine atI_n ?h; (case h => first | assumption | rfl))
  | (refine atI_i ?h0 ?h; (case h0 => omega); (case h => first | assumption | rfl)))
local macro_rules | `(tactic| walk_at "v1") => `(tactic| first
  | with_reducible refine w_seq ?_
  | with_reducible refine w_enx ?_
  | with_reducible refine w_ert ?_
  | with_reducible refine w_asg ?_
  | ((with_reducible refine w_var (v := ?vv) ?h ?_); (case h => exact rfl))
  | with_reducible refine w_op ?_
  | with_reducible refine w_c ?_
  | with_reducible refine w_cons ?_
  | with_reducible refine w_nil ?_
  | with_reducible refine w_cb ?_
  | with_reducible refine w_call ?_
  | with_reducible refine w_k ?_
  | with_reducible refine w_i ?_
  | with_reducible refine w_two ?_
  | ((with_reducible refine w_name ?_); (try simp only [List.set_cons_zero, List.set_cons_succ]))
  | with_reducible refine w_ifS ?_
  | with_reducible refine w_ret ?_
  | with_reducible refine w_drop ?_
  | with_reducible refine w_test ?_
  | with_reducible refine w_B ?_
  | with_reducible refine iteT ?_
  | with_reducible refine iteF ?_
  | with_reducible refine w_same ?_
  | ((with_reducible refine w_ifT ?h ?_); (case h => first | rfl | assumption))
  | ((with_reducible refine w_ifF ?h ?_); (case h => first | rfl | assumption))
  | ((with_reducible refine w_diff ?_ ?h); (case h => decide +kernel))
  | ((with_reducible refine w_wp ?h ?_); (case h => rfl); (try simp only [wipe, List.set_cons_zero, List.set_cons_succ, List.foldl_cons, List.foldl_nil]))
  | ((with_reducible refine w_acc (acc := ?aa) ?h ?_ ?z); (case h => walk_at "hget"); (case z => walk_at "sz"))
  | with_reducible refine w_addI ?_
  | with_reducible refine w_subI ?_
  | with_reducible refine w_lt ?_
  | with_reducible refine w_le ?_
  | with_reducible refine w_gt ?_
  | with_reducible refine w_ge ?_
  | with_reducible refine w_eqI ?_
  | with_reducible refine w_neI ?_
  | with_reducible refine w_eqS ?_
  | with_reducible refine w_neS ?_
  | with_reducible refine w_neB ?_
  | ((with_reducible refine w_mulI ?_ ?h); (case h => walk_at "sz"))
  | ((with_reducible refine w_divI ?_ ?h); (case h => walk_at "sz"))
  | ((with_reducible refine w_addS ?_ ?h); (case h => walk_at "sz"))
  | ((with_reducible refine w_mulS ?_ ?h); (case h => walk_at "sz"))
  | ((with_reducible refine w_ixL (xs := ?xx) (v := ?vv) ?h ?i ?_); (case h => walk_at "vget"); (case i => walk_at "at"))
  | ((with_reducible refine w_ixT (xs := ?xx) (v := ?vv) ?h ?i ?_); (case h => walk_at "vget"); (case i => walk_at "at"))
  | ((with_reducible refine w_ixS (c := ?cc) ?i ?_ ?h); (case i => walk_at "at"); (case h => walk_at "sz"))
  | ((with_reducible refine w_lenS' ?_ ?h); (case h => walk_at "sz"))
  | ((with_reducible refine w_lenL' (xs := ?xx) ?h ?_); (case h => walk_at "vget"))
  | ((with_reducible refine w_lenT' (xs := ?xx) ?h ?_); (case h => walk_at "vget"))
  | with_reducible refine w_isnN ?_
  | with_reducible refine w_isnI ?_
  | with_reducible refine w_isnS ?_
  | with_reducible refine w_isnR ?_
  | with_reducible refine w_isnB ?_
  | with_reducible refine w_isoN ?_
  | with_reducible refine w_isoI ?_
  | with_reducible refine w_isoS ?_
  | with_reducible refine w_isoR ?_
  | with_reducible refine w_isoB ?_
  | with_reducible refine w_abs ?_
  | with_reducible refine w_int ?_
  | with_reducible refine w_intB ?_
  | with_reducible refine w_min2 ?_
  | with_reducible refine w_max2 ?_
  | with_reducible refine w_min3 ?_
  | with_reducible refine w_sl ?_
  | with_reducible refine w_np ?_
  | with_reducible refine w_part ?_
  | ((with_reducible refine w_sStN ?_ ?h); (case h => walk_at "sz"))
  | ((with_reducible refine w_sSfN ?_ ?h); (case h => walk_at "sz"))
  | ((with_reducible refine w_sSt ?_ ?h); (case h => walk_at "sz"))
  | ((with_reducible refine w_sSf ?_ ?h); (case h => walk_at "sz"))
  | with_reducible refine w_and ?_
  | with_reducible refine w_or ?_
  | with_reducible refine w_not ?_
  | with_reducible refine w_andV ?_
  | with_reducible refine w_orV ?_
  | with_reducible refine w_notV ?_
  | with_reducible refine w_ifE ?_
  | with_reducible refine w_tup ?_
  | with_reducible refine w_lst ?_
  | with_reducible refine w_chain ?_
  | ((with_reducible refine w_par ?_); (try simp only [List.set_cons_zero, List.set_cons_succ]))
  | ((with_reducible refine w_par3 ?_); (try simp only [List.set_cons_zero, List.set_cons_succ]))
  | with_reducible refine w_three ?_
  | with_reducible refine w_un ?_
  | with_reducible refine w_neg ?_
  | with_reducible refine w_next ?_
  | with_reducible refine w_ebk ?_
  | with_reducible refine w_ect ?_
  | with_reducible refine w_for ?_
  | with_reducible refine w_lc ?_
  | with_reducible refine w_yes ?_
  | with_reducible refine w_il ?_
  | with_reducible refine w_it ?_
  | with_reducible refine w_isx ?_
  | with_reducible refine w_ir1 ?_
  | with_reducible refine w_ir2 ?_
  | with_reducible refine w_ies ?_
  | with_reducible refine w_ir3 ?_
  | with_reducible refine w_s1 ?_
  | with_reducible refine w_s1l ?_
  | ((with_reducible refine w_r1 ?_ ?h); (case h => walk_at "sz"))
  | ((with_reducible refine w_r2 ?_ ?h); (case h => walk_at "sz"))
  | ((with_reducible refine w_l1 (xs := ?xx) ?h ?_); (case h => walk_at "vget"))
  | ((with_reducible refine w_t1 (xs := ?xx) ?h ?_); (case h => walk_at "vget"))
  | ((with_reducible refine w_isL (xs := ?xx) ?h ?_); (case h => walk_at "vget"))
  | with_reducible refine w_isS ?_
  | ((with_reducible refine w_app (xs := ?xx) ?h ?_ ?z); (case h => walk_at "hget"); (case z => walk_at "sz"))
  | with_reducible refine w_inC ?_
  | with_reducible refine w_rev ?_
  | ((with_reducible refine w_rev1S ?_ ?h); (case h => walk_at "sz"))
  | with_reducible refine w_lrg ?_
  | with_reducible refine w_brk ?_
  | with_reducible refine w_cont ?_
  | with_reducible refine w_retN ?_
  | with_reducible refine w_bm ?_
  | with_reducible refine w_bm0 ?_
  | with_reducible refine w_m1 ?_
  | with_reducible refine w_sub ?_
  | ((with_reducible refine w_setL (xs := ?xx) (j := ?jj) ?h ?i ?_); (case h => walk_at "hget"); (case i => first | rfl | assumption); (try simp only [Int.reduceToNat, List.set_cons_zero, List.set_cons_succ]))
  | with_reducible refine w_ip ?_
  | with_reducible refine w_gnil ?_
  | with_reducible refine w_gcons ?_
  | ((with_reducible refine w_gL (xs := ?xx) ?h ?_ ?n); (case h => walk_at "vget"); (case n => rfl))
  | ((with_reducible refine w_gT (xs := ?xx) ?h ?_ ?n); (case h => walk_at "vget"); (case n => rfl))
  | ((with_reducible refine w_aug (v := ?vv) ?h ?_); (case h => exact rfl)))
local macro_rules | `(tactic| walk_at "v") => `(tactic| repeat walk_at "v1")
local macro_rules | `(tactic| walk_at "v0") => `(tactic| (simp only [L2.start, cxK, ends_rt, List.map_cons, List.map_nil, List.length_cons, List.length_nil, Nat.reduceAdd, Nat.reduceSub, List.replicate_succ, List.replicate_zero, List.append_nil, List.cons_append, List.nil_append]; walk_at "v"))
local macro_rules | `(tactic| walk_at "u1") => `(tactic| first
  | with_reducible refine w_seqA ?_
  | with_reducible refine w_seqD ?_
  | with_reducible refine w_seqP ?_
  | with_reducible refine w_seqP3 ?_
  | with_reducible refine w_seqG ?_
  | ((fail_if_success (with_reducible refine w_seq ?_)); walk_at "v1"))
local macro_rules | `(tactic| walk_at "u") => `(tactic| repeat walk_at "u1")
local macro_rules | `(tactic| walk_at "u0") => `(tactic| (simp only [L2.start, cxK, ends_rt, List.map_cons, List.map_nil, List.length_cons, List.length_nil, Nat.reduceAdd, Nat.reduceSub, List.replicate_succ, List.replicate_zero, List.append_nil, List.cons_append, List.nil_append]; walk_at "u"))
local macro_rules | `(tactic| walk_at "t1") => `(tactic| ((fail_if_success (with_reducible refine w_seq ?_)); walk_at "v1"))
local macro_rules | `(tactic| walk_at "t") => `(tactic| repeat walk_at "t1")

section
variable {P : Program} {w : World} {K : PySem.W.Frag} {mg : Str → Option Value} {base : Heap}
def lv (l m : List Nat) (most : Nat) : V := if lev l m ≤ most then .int (lev l m : Nat) else .non
def spWithin : Sp := fun vs H Q _ => ∃ (l m : List Nat) (most : Nat), vs = [.str (tx l), .str (tx m), .int most] ∧ l.length ≤ 1000000 ∧ m.length ≤ 1000000 ∧ ∀ H', Same H H' → Q (lv l m most) H'
theorem ok_distance_within (T : Txt K mg) (c_without_common_ends : Cal P w K mg base 2 "without_common_ends" ["one", "other"] spEnds)
    (c_next_band : Cal P w K mg base 1 "next_band" ["band", "letter", "at", "other"] (spNext K)) : Cal P w K mg base 3 "distance_within" ["one", "other", "most"] spWithin := by
  refine cal0 T.d_distance_within sc_distance_within (by rintro vs H Q E ⟨l, m, most, rfl, _⟩; rfl) (fun cdv f A outer s H vs Q E hr hgd h => ?_)
  obtain ⟨l, m, most, rfl, zl, zm, q⟩ := h
  refine ⟨_, (pss_cons (ps_if (pt_cmpR uGt (pe_callB uAbs (by rfl) T.n_abs (by decide +kernel) (pa_cons (pe_op uSub (pe_callB (kLen K rfl) (by rfl) T.n_len (by decide +kernel) (pa_cons (pv 0) pa_nil)) (pe_callB (kLen K rfl) (by rfl) T.n_len (by decide +kernel) (pa_cons (pv 1) pa_nil))) pa_nil)) (pv 2) (nomark _)) (pss_one (ps_ret pe_non)) pss_nil)
  (pss_cons (ps_asg (pe_g c_without_common_ends hr (by decide) hgd (by rfl) noX (pa_cons (pv 0) (pa_cons (pv 1) pa_nil))) (kTup K rfl (n := 2) (by rfl) (pgs_cons (pg_name (i := 5) sc_distance_within.nd rfl (by first | exact Or.inl rfl | exact Or.inr rfl)) (pgs_cons (pg_name (i := 6) sc_distance_within.nd rfl (by first | exact Or.inl rfl | exact Or.inr rfl)) pgs_nil))))
  (pss_cons (ps_if (pt_cmpR uGt (pe_callB (kLen K rfl) (by rfl) T.n_len (by decide +kernel) (pa_cons (pv 5) pa_nil)) (pe_callB (kLen K rfl) (by rfl) T.n_len (by decide +kernel) (pa_cons (pv 6) pa_nil)) (nomark _)) (pss_one (ps_asg (pe_tup (pa_cons (pv 6) (pa_cons (pv 5) pa_nil))) (kTup K rfl (n := 2) (by rfl) (pgs_cons (pg_name (i := 5) sc_distance_within.nd rfl (by first | exact Or.inl rfl | exact Or.inr rfl)) (pgs_cons (pg_name (i := 6) sc_distance_within.nd rfl (by first | exact Or.inl rfl | exact Or.inr rfl)) pgs_nil))))) pss_nil)
  (pss_cons (ps_set (i := 2) sc_distance_within.nd rfl (by first | exact Or.inl rfl | exact Or.inr rfl) (pe_callB (uMin2 rfl) (by rfl) T.n_min (by decide +kernel) (pa_cons (pv 2) (pa_cons (pe_callB (kLen K rfl) (by rfl) T.n_len (by decide +kernel) (pa_cons (pv 6) pa_nil)) pa_nil))))
  (pss_cons (ps_setLc (i := 3) (own := [("k", 9)]) rfl sc_distance_within.nd rfl rfl (sw_true rfl rfl rfl (by decide +kernel)) (pi_range1 (by rfl) T.n_range (pa_cons (pe_op (kAdd K rfl) (pe_op uMul pe_int (pv 2)) pe_int) pa_nil)) (blkOk_by (own := [("k", 9)]) (N := N_distance_within) (sc := defScope s_distance_within) (by decide +kernel)) (fun _ _ _ _ _ => (pg_name (i := 9) sc_distance_within.nd rfl (by first | exact Or.inl rfl | exact Or.inr rfl))) (fun _ _ _ _ _ => pts_nil) (fun _ _ _ _ _ => (pe_ifExp (pt_chain uLe uLe (pv 2) (pv 9) (pe_op (kAdd K rfl) (pv 2) (pe_callB (kLen K rfl) (by rfl) T.n_len (by decide +kernel) (pa_cons (pv 6) pa_nil)))) (pe_op uSub (pv 9) (pv 2)) (pe_op (kAdd K rfl) (pv 2) pe_int))))
  (pss_cons (ps_for PassesOwn.never rfl (pi_enumS (by rfl) T.n_enumerate (pa_cons (pv 5) pa_nil)) (kTup K rfl (n := 2) (by rfl) (pgs_cons (pg_name (i := 7) sc_distance_within.nd rfl (by first | exact Or.inl rfl | exact Or.inr rfl)) (pgs_cons (pg_name (i := 8) sc_distance_within.nd rfl (by first | exact Or.inl rfl | exact Or.inr rfl)) pgs_nil)))
  (pss_one (ps_set (i := 3) sc_distance_within.nd rfl (by first | exact Or.inl rfl | exact Or.inr rfl) (pe_g c_next_band hr (by decide) hgd (by rfl) noX (pa_cons (pv 3) (pa_cons (pv 8) (pa_cons (pv 7) (pa_cons (pv 6) pa_nil))))))))
  (pss_cons (ps_set (i := 4) sc_distance_within.nd rfl (by first | exact Or.inl rfl | exact Or.inr rfl) (pe_ix (kIx K rfl) (pv 3) (pe_op (kAdd K rfl) (pe_op uSub (pe_callB (kLen K rfl) (by rfl) T.n_len (by decide +kernel) (pa_cons (pv 6) pa_nil)) (pe_callB (kLen K rfl) (by rfl) T.n_len (by decide +kernel) (pa_cons (pv 5) pa_nil))) (pv 2)) (fun _ _ => rfl)))
  (pss_one (ps_ret (pe_ifExp (pt_cmpR uLe (pv 4) (pv 2) (nomark _)) (pv 4) pe_non)))))))))), ?_⟩
  have low := lev_low l m
  walk_at "u0"
  refine w_seq ?_
  walk_at "v"
  refine w_if (fun ha => ?_) (fun ha => ?_)
  · have ha := of_decide_eq_true ha
    walk_at "v"
    have e : lv l m most = .non := by
      unfold lv
      rw [if_neg (by split at ha <;> omega)]
    rw [← e]
    exact q _ (Same.refl _)
  · have ha := of_decide_eq_false ha
    have hd : l.length ≤ most + m.length ∧ m.length ≤ most + l.length := by constructor <;> split at ha <;> omega
    walk_at "u"
    refine ⟨l, m, rfl, by omega, by omega, fun u v p H1 s1 hp huv lu lv' ld => ?_⟩
    walk_at "u"
    refine w_seqI (fun σ H' => ∃ u v : List Nat, σ = [some (V.str (tx l)), some (V.str (tx m)), some (V.int most), none, none, some (V.str (tx u)), some (V.str (tx v)), none, none, none] ∧ Same H H' ∧
      lev u v = lev l m ∧ u.length ≤ v.length ∧ v.length ≤ 1000000 ∧ v.length ≤ most + u.length) ?_ ?_
    · rintro σ H2 ⟨u, v, rfl, s2, huv, luv, zv, hm⟩
      walk_at "u"
      obtain ⟨b, hb⟩ : ∃ b : Nat, b = min most v.length := ⟨_, rfl⟩
      have eb : (if (v.length : Int) < most then (v.length : Int) else (most : Int)) = (b : Int) := by split <;> omega
      rw [eb]
      walk_at "u"
      intro D hD
      refine lc_rg (n := 2 * b + 1) (by omega) (fun i H' => Same H2 H' ∧ H' D = some (.lst (((bandL u v b 0).take i).map V.int))) ⟨same_new hD, upd_same⟩ ?_ ?_
      · rintro i H3 hi ⟨s3, h3⟩
        have fl : ((List.map V.int ((bandL u v b 0).take i))).length = i := by rw [List.length_map, List.length_take, bandL_len]; omega
        have nx : ∀ z : Int, z = bval u v b 0 i → Same H2 (upd H3 D (.lst (List.map V.int ((bandL u v b 0).take i) ++ [.int z]))) ∧
            upd H3 D (.lst (List.map V.int ((bandL u v b 0).take i) ++ [.int z])) D = some (.lst (((bandL u v b 0).take (i + 1)).map V.int)) := fun z hz => by
          refine ⟨Same.grow s3 hD, ?_⟩
          rw [upd_same, take_more (bandL_at u v (by omega)), List.map_append, hz]
          rfl
        walk_at "v"
        refine w_if (fun ha => ?_) (fun ha => ?_)
        · walk_at "v"
          refine w_if (fun hb => ?_) (fun hb => ?_)
          · walk_at "v"
            refine nx _ ?_
            rw [bval_0 _ _ _ _ (by omega), if_pos (by have := of_decide_eq_true ha; have := of_decide_eq_true hb; omega)]
          · walk_at "v"
            refine nx _ ?_
            rw [bval_0 _ _ _ _ (by omega), if_neg (by have := of_decide_eq_false hb; omega)]
        · walk_at "v"
          refine nx _ ?_
          rw [bval_0 _ _ _ _ (by omega), if_neg (by have := of_decide_eq_false ha; omega)]
      · rintro H3 ⟨s3, h3⟩
        rw [List.take_of_length_le (by rw [bandL_len]; omega)] at h3
        walk_at "u"
        refine w_seq ?_
        walk_at "v"
        refine for_etx (fun i σ H' => ∃ x y z r, σ = [some (V.str (tx l)), some (V.str (tx m)), some (V.int b), some (V.ref r), x, some (V.str (tx u)), some (V.str (tx v)), y, z, none] ∧ Same H3 H' ∧
          H' r = some (.lst ((bandL u v b i).map V.int))) ⟨_, _, _, _, rfl, Same.refl _, h3⟩ ?_ ?_
        · rintro i c T σ H4 hi ⟨x, y, z, r, rfl, s4, h4⟩ hT
          walk_at "v"
          refine ⟨r, u, v, b, i, c, rfl, by walk_at "vget", hi, by omega, by omega, by omega, fun g H5 s5 h5 => ?_⟩
          walk_at "v"
          exact ⟨_, _, _, _, rfl, s4.trans ((same_new hT).trans s5), h5⟩
        · rintro σ H4 ⟨x, y, z, r, rfl, s4, h4⟩
          have be := band_end u v luv (by omega : v.length ≤ b + u.length)
          have g1 : atI ((bandL u v b u.length).map V.int) ((v.length : Int) - u.length + b) = some (.int ((min (lev u v) (b + 1) : Nat) : Int)) := by
            rw [show (v.length : Int) - u.length + b = ((v.length - u.length + b : Nat) : Int) by omega]
            refine atI_n ?_
            rw [List.getElem?_map, bandL_at u v (by omega), be]
            rfl
          have up := lev_up u v
          walk_at "v"
          have fin : ∀ H', Same H4 H' → Q (lv l m most) H' := fun H' s5 => q H' (s2.trans (s3.trans (s4.trans s5)))
          unfold lv at fin
          refine w_if (fun ha => ?_) (fun ha => ?_)
          · have ha := of_decide_eq_true ha
            walk_at "v"
            rw [if_pos (by omega), ← huv, show lev u v = min (lev u v) (b + 1) by omega] at fin
            exact fin _ (Same.refl _)
          · have ha := of_decide_eq_false ha
            walk_at "v"
            rw [if_neg (by omega)] at fin
            exact fin _ (Same.refl _)
    · intro N hN
      walk_at "v"
      refine w_if (fun hb => ?_) (fun hb => ?_)
      · have hb := of_decide_eq_true hb
        walk_at "v"
        refine ⟨by walk_at "sz", fun g hg => ?_⟩
        walk_at "v"
        exact hN _ _ ⟨v, u, rfl, Same.new s1 hg, by rw [lev_sym]; exact huv, by omega, by omega, by omega⟩
      · have hb := of_decide_eq_false hb
        walk_at "v"
        exact hN _ _ ⟨u, v, rfl, s1, huv, by omega, by omega, by omega⟩
def spLev : Sp := fun vs H Q _ => ∃ l m : List Nat, vs = [.str (tx l), .str (tx m)] ∧ l.length ≤ 1000000 ∧ m.length ≤ 1000000 ∧ ∀ H', Same H H' → Q (.int (lev l m : Nat)) H'
theorem ok_levenshtein (T : Txt K mg) (c_distance_within : Cal P w K mg base 3 "distance_within" ["one", "other", "most"] spWithin) : Cal P w K mg base 4 "levenshtein" ["one", "other"] spLev := by
  refine cal0 T.d_levenshtein sc_levenshtein (by rintro vs H Q E ⟨l, m, rfl, _⟩; rfl) (fun cdv f A outer s H vs Q E hr hgd h => ?_)
  obtain ⟨l, m, rfl, zl, zm, q⟩ := h
  refine ⟨_, (pss_cons (ps_set (i := 2) sc_levenshtein.nd rfl (by first | exact Or.inl rfl | exact Or.inr rfl) (pe_op (kAdd K rfl) (pe_callB uAbs (by rfl) T.n_abs (by decide +kernel) (pa_cons (pe_op uSub (pe_callB (kLen K rfl) (by rfl) T.n_len (by decide +kernel) (pa_cons (pv 0) pa_nil)) (pe_callB (kLen K rfl) (by rfl) T.n_len (by decide +kernel) (pa_cons (pv 1) pa_nil))) pa_nil)) pe_int))
  (pss_cons (ps_set (i := 3) sc_levenshtein.nd rfl (by first | exact Or.inl rfl | exact Or.inr rfl) (pe_g c_distance_within hr (by decide) hgd (by rfl) noX (pa_cons (pv 0) (pa_cons (pv 1) (pa_cons (pv 2) pa_nil)))))
  (pss_cons (ps_while PassesOwn.never (pt_cmpR uIs (pv 3) pe_non (nomark _))
  (pss_cons (ps_set (i := 2) sc_levenshtein.nd rfl (by first | exact Or.inl rfl | exact Or.inr rfl) (pe_op uMul pe_int (pv 2)))
  (pss_one (ps_set (i := 3) sc_levenshtein.nd rfl (by first | exact Or.inl rfl | exact Or.inr rfl) (pe_g c_distance_within hr (by decide) hgd (by rfl) noX (pa_cons (pv 0) (pa_cons (pv 1) (pa_cons (pv 2) pa_nil))))))))
  (pss_one (ps_ret (pv 3)))))), ?_⟩
  have up := lev_up l m
  walk_at "v0"
  obtain ⟨b, hb, hb2⟩ : ∃ b : Nat, (if (l.length : Int) - m.length < 0 then -((l.length : Int) - m.length) else (l.length : Int) - m.length) + 1 = b ∧ (1 ≤ b ∧ b ≤ 1000001) := by
    split
    · exact ⟨m.length - l.length + 1, by omega, by omega⟩
    · exact ⟨l.length - m.length + 1, by omega, by omega⟩
  rw [hb]
  refine ⟨l, m, b, rfl, zl, zm, fun H1 s1 => ?_⟩
  walk_at "v"
  refine ⟨fun n σ H' => ∃ b : Nat, n = lev l m - b ∧ 1 ≤ b ∧ b ≤ 4000000 ∧ Same H H' ∧ σ = [some (V.str (tx l)), some (V.str (tx m)), some (V.int b), some (lv l m b)], ⟨_, b, rfl, by omega, by omega, s1, rfl⟩, ?_⟩
  rintro n σ H2 ⟨b, rfl, b1, b2, s2, rfl⟩
  unfold lv
  by_cases h : lev l m ≤ b
  · rw [if_pos h]
    walk_at "v"
    exact q _ s2
  · rw [if_neg h]
    walk_at "v"
    refine ⟨_, fun σ' H' z => ⟨lev l m - 2 * b, by omega, z⟩, ?_⟩
    walk_at "v"
    refine ⟨l, m, 2 * b, rfl, zl, zm, fun H3 s3 => ?_⟩
    walk_at "v"
    exact ⟨2 * b, rfl, by omega, by omega, s2.trans s3, rfl⟩
end
section
variable {P : Program} {w : World} {K : PySem.W.Frag} {mg : Str → Option Value} {base : Heap}
/-- refused with v -/
def Ref (C : Addr) (E : XK) (H : Hp) (v : V) : Prop := ∀ H' d, Same H H' → H' d = some (xdG v) → E (.ref C) (some d) H'
def spPriceX (K : PySem.W.Frag) (C : Addr) : Sp := fun vs H Q E => ∃ x y bx by', vs = [x, y] ∧ IsTx K H x bx ∧ IsTx K H y by' ∧ (bx = false → Ref C E H x) ∧ (bx = true → by' = false → Ref C E H y) ∧
  (bx = true → by' = true → ∃ l m, x = .str (tx l) ∧ l.length ≤ 100000 ∧ y = .str (tx m) ∧ m.length ≤ 100000 ∧ ∀ (p : Nat) H', IsC l m p → Same H H' → Q (.int (p : Int)) H')
theorem fn_round_price (T : Txt K mg) (c_check_text : Cal P w K mg base 2 "check_text" ["text"] (spCheckD K (errAt mg "InvalidText"))) (c_levenshtein : Cal P w K mg base 4 "levenshtein" ["one", "other"] spLev) (c_distance_within : Cal P w K mg base 3 "distance_within" ["one", "other", "most"] spWithin)
    (f : Addr) (fd : FuncData) (F : Fun K "round_price" "round_price" s_round_price f fd) : FnG P w K mg base 5 f fd ["one", "other"] (spPriceX K (errAt mg "InvalidText")) := by
  refine fnG_of F sc_round_price (by rintro vs H Q E ⟨x, y, bx, by', rfl, _⟩; rfl) (fun cdv A outer s H vs Q E hr hgd h => ?_)
  obtain ⟨x, y, bx, by', rfl, hx, hy, q1, q2, q3⟩ := h
  refine ⟨_, (pss_cons (ps_expr (pe_g c_check_text hr (by decide) hgd (by rfl) (passAt tk_def) (pa_cons (pv 0) pa_nil)))
  (pss_cons (ps_expr (pe_g c_check_text hr (by decide) hgd (by rfl) (passAt tk_def) (pa_cons (pv 1) pa_nil)))
  (pss_cons (ps_set (i := 2) sc_round_price.nd rfl (by first | exact Or.inl rfl | exact Or.inr rfl) (pe_g c_levenshtein hr (by decide) hgd (by rfl) (passAt tk_def) (pa_cons (pv 0) (pa_cons (pv 1) pa_nil))))
  (pss_cons (ps_for po_def rfl (pi_range2 (by rfl) T.n_range (pa_cons pe_int (pa_cons (pe_callB (kLen K rfl) (by rfl) T.n_len (by decide +kernel) (pa_cons (pv 1) pa_nil)) pa_nil))) (pg_name (i := 3) sc_round_price.nd rfl (by first | exact Or.inl rfl | exact Or.inr rfl))
  (pss_one (ps_if (pt_cmpR uGt (pv 2) (pe_callB uAbs (by rfl) T.n_abs (by decide +kernel) (pa_cons (pe_op uSub (pe_callB (kLen K rfl) (by rfl) T.n_len (by decide +kernel) (pa_cons (pv 0) pa_nil)) (pe_callB (kLen K rfl) (by rfl) T.n_len (by decide +kernel) (pa_cons (pv 1) pa_nil))) pa_nil)) (nomark _)) (pss_cons (ps_set (i := 4) sc_round_price.nd rfl (by first | exact Or.inl rfl | exact Or.inr rfl) (pe_g c_distance_within hr (by decide) hgd (by rfl) (passAt tk_def) (pa_cons (pv 0) (pa_cons (pe_op (kAdd K rfl) (pe_slice (kSl K rfl) (pv 1) (po_some (pv 3)) po_none) (pe_slice (kSl K rfl) (pv 1) po_none (po_some (pv 3)))) (pa_cons (pe_op uSub (pv 2) pe_int) pa_nil)))))
  (pss_one (ps_set (i := 2) sc_round_price.nd rfl (by first | exact Or.inl rfl | exact Or.inr rfl) (pe_ifExp (pt_cmpR uIs (pv 4) pe_non (nomark _)) (pv 2) (pv 4))))) pss_nil)))
  (pss_one (ps_ret (pv 2))))))), ?_⟩
  walk_at "v0"
  refine ⟨x, bx, rfl, hx, fun hbx H1 s1 => ?_, fun hbx H1 d s1 h1 => q1 hbx H1 d s1 h1⟩
  subst hbx
  walk_at "v"
  refine ⟨y, by', rfl, hy.mono s1, fun hby H2 s2 => ?_, fun hby H2 d s2 h2 => q2 rfl hby H2 d (s1.trans s2) h2⟩
  subst hby
  obtain ⟨l, m, rfl, zl, rfl, zm, q⟩ := q3 rfl rfl
  walk_at "v"
  refine ⟨l, m, rfl, by omega, by omega, fun H3 s3 => ?_⟩
  have S3 := s1.trans (s2.trans s3)
  walk_at "v"
  refine for_rg2 (n := m.length - 1) (by omega) (fun i σ H' => ∃ (b : Nat) (x3 x4 : Option V), σ = [some (.str (tx l)), some (.str (tx m)), some (.int (b : Int)), x3, x4] ∧ Same H H' ∧ (∃ k, k < i + 1 ∧ b = lev l (m.drop k ++ m.take k)) ∧ ∀ k, k < i + 1 → b ≤ lev l (m.drop k ++ m.take k)) ⟨lev l m, _, _, rfl, S3, ⟨0, by omega, by simp⟩, fun k hk => by rw [show k = 0 by omega]; simp⟩ ?_ ?_
  · rintro i σ H4 hi ⟨b, x3, x4, rfl, s4, hb1, hb2⟩
    walk_at "v"
    obtain ⟨r, hr'⟩ : ∃ r, r = m.drop (i + 1) ++ m.take (i + 1) := ⟨_, rfl⟩
    have hrl : r.length = m.length := by rw [hr', List.length_append, List.length_drop, List.length_take]; omega
    have low := lev_low l r
    refine w_if (fun h => ?_) (fun h => ?_)
    · have h := of_decide_eq_true h
      have hb0 : 1 ≤ b := by split at h <;> omega
      walk_at "v"
      refine ⟨l, r, b - 1, ?_, by omega, by omega, fun H5 s5 => ?_⟩
      · rw [hr', show ((b - 1 : Nat) : Int) = (b : Int) - 1 by omega, show (1 + (i : Int)).toNat = i + 1 by omega]
      unfold lv
      by_cases hd : lev l r ≤ b - 1
      · rw [if_pos hd]
        walk_at "v"
        refine ⟨lev l r, _, _, rfl, s4.trans s5, ⟨i + 1, by omega, by rw [hr']⟩, fun k hk => ?_⟩
        by_cases e : k = i + 1
        · subst e
          rw [hr']
          omega
        · have := hb2 k (by omega)
          omega
      · rw [if_neg hd]
        walk_at "v"
        obtain ⟨k0, hk0, e0⟩ := hb1
        refine ⟨b, _, _, rfl, s4.trans s5, ⟨k0, by omega, e0⟩, fun k hk => ?_⟩
        by_cases e : k = i + 1
        · subst e
          rw [← hr']
          omega
        · exact hb2 k (by omega)
    · have h := of_decide_eq_false h
      have hle : b ≤ lev l r := by split at h <;> omega
      walk_at "v"
      obtain ⟨k0, hk0, e0⟩ := hb1
      refine ⟨b, _, _, rfl, s4, ⟨k0, by omega, e0⟩, fun k hk => ?_⟩
      by_cases e : k = i + 1
      · subst e
        rw [← hr']
        omega
      · exact hb2 k (by omega)
  · rintro σ H4 ⟨b, x3, x4, rfl, s4, hb1, hb2⟩
    walk_at "v"
    exact q b _ (isC_of (n := m.length - 1 + 1) (by omega) hb1 hb2) s4
theorem ok_round_price (T : Txt K mg) (c_check_text : Cal P w K mg base 2 "check_text" ["text"] (spCheckD K (errAt mg "InvalidText"))) (c_levenshtein : Cal P w K mg base 4 "levenshtein" ["one", "other"] spLev) (c_distance_within : Cal P w K mg base 3 "distance_within" ["one", "other", "most"] spWithin) :
    Cal P w K mg base 5 "round_price" ["one", "other"] (spPriceX K (errAt mg "InvalidText")) := cal_of T.d_round_price (fn_round_price T c_check_text c_levenshtein c_distance_within)
theorem ok_round_price_w (T : Txt K mg) (c_check_text : Cal P w K mg base 2 "check_text" ["text"] (spCheckD K (errAt mg "InvalidText"))) (c_levenshtein : Cal P w K mg base 4 "levenshtein" ["one", "other"] spLev) (c_distance_within : Cal P w K mg base 3 "distance_within" ["one", "other", "most"] spWithin) :
    CalW P w K mg base 5 "round_price" ["one", "other"] ["other", "one"] (fun {α} (l : List α) => l.reverse) (spPriceX K (errAt mg "InvalidText")) :=
  calW_of T.d_round_price (fn_round_price T c_check_text c_levenshtein c_distance_within) (by
    intro f fd F s ws hl
    obtain ⟨oc, od, kV, doc, pm, an, cdv, ct, osl, rfl, lk, hcd⟩ := F.ex
    match ws, hl with
    | [a, b], _ => exact .of_eq rfl)
theorem hl_round_price_w {vs : List V} {us : List Value} (hn : vs.length = 2) (r : Vals vs us) : Vals vs.reverse us.reverse := by
  match vs, us, r with
  | [a, b], [a', b'], .cons r1 (.cons r2 .nil) => exact .cons r2 (.cons r1 .nil)
end
end K09
set_option Elab.async false
set_option linter.all false
set_option maxRecDepth 100000
set_option maxHeartbeats 4000000
namespace K09
open PySem PySem.Spec PyProof.Rows L2 SL Lv
local macro_rules | `(tactic| walk_at "sz") => `(tactic| first
  | assumption
  | omega
  | (simp only [List.length_cons, List.length_nil, List.length_append, List.length_map, List.length_take, List.length_drop, List.length_reverse, List.length_replicate, List.length_range, tx_len, sizeLine_eq, CMul, CDiv, Nat.reduceAdd, Nat.reduceLeDiff]; first | done | omega)
  | decide)
local macro_rules | `(tactic| walk_at "ne") => `(tactic| first
  | assumption
  | exact Ne.symm (by assumption)
  | (refine ne_of_none (H := ?H0) (o := ?oo) ?hh ?hn; (case hn => assumption); (case hh => walk_at "hget"))
  | (refine Ne.symm (ne_of_none (H := ?H0) (o := ?oo) ?hh ?hn); (case hn => assumption); (case hh => walk_at "hget")))
local macro_rules | `(tactic| walk_at "hget") => `(tactic| first
  | assumption
  | exact upd_same
  | (refine (upd_ne ?n).trans ?g; (case n => walk_at "ne"); (case g => walk_at "hget"))
  | (refine fr_get (p := ?pp) (H := ?H0) ?f ?g ?n; (case f => assumption); (case g => walk_at "hget"); (case n => walk_at "ne"))
  | (refine same_get (H := ?H0) ?f ?g; (case f => assumption); (case g => walk_at "hget")))
local macro_rules | `(tactic| walk_at "vget") => `(tactic| first
  | assumption
  | (refine SqL.of ?g; (case g => walk_at "hget"))
  | (refine SqT.of ?g; (case g => walk_at "hget"))
  | (refine sql_new ?n ?g; (case n => assumption); (case g => walk_at "vget"))
  | (refine sqt_new ?n ?g; (case n => assumption); (case g => walk_at "vget"))
  | (refine sql_upd ?n ?g; (case n => walk_at "ne"); (case g => walk_at "vget"))
  | (refine sqt_upd ?n ?g; (case n => walk_at "ne"); (case g => walk_at "vget"))
  | (refine Same.seq (H := ?H0) ?f ?g; (case f => assumption); (case g => walk_at "vget"))
  | (refine Same.seqT (H := ?H0) ?f ?g; (case f => assumption); (case g => walk_at "vget"))
  | (refine fr_sql (b := ?pp) (H := ?H0) ?f ?g ?n; (case f => assumption); (case g => walk_at "vget"); (case n => walk_at "ne"))
  | (refine fr_sqt (b := ?pp) (H := ?H0) ?f ?g ?n; (case f => assumption); (case g => walk_at "vget"); (case n => walk_at "ne")))
local macro_rules | `(tactic| walk_at "at") => `(tactic| first
  | assumption
  | rfl
  | (refine atI_n ?h; (case h => first | assumption | rfl))
  | (refine atI_i ?h0 ?h; (case h0 => omega); (case h => first | assumption | rfl)))
local macro_rules | `(tactic| walk_at "v1") => `(tactic| first
  | with_reducible refine w_seq ?_
  | with_reducible refine w_enx ?_
  | with_reducible refine w_ert ?_
  | with_reducible refine w_asg ?_
  | ((with_reducible refine w_var (v := ?vv) ?h ?_); (case h => exact rfl))
  | with_reducible refine w_op ?_
  | with_reducible refine w_c ?_
  | with_reducible refine w_cons ?_
  | with_reducible refine w_nil ?_
  | with_reducible refine w_cb ?_
  | with_reducible refine w_call ?_
  | with_reducible refine w_k ?_
  | with_reducible refine w_i ?_
  | with_reducible refine w_two ?_
  | ((with_reducible refine w_name ?_); (try simp only [List.set_cons_zero, List.set_cons_succ]))
  | with_reducible refine w_ifS ?_
  | with_reducible refine w_ret ?_
  | with_reducible refine w_drop ?_
  | with_reducible refine w_test ?_
  | with_reducible refine w_B ?_
  | with_reducible refine iteT ?_
  | with_reducible refine iteF ?_
  | with_reducible refine w_same ?_
  | ((with_reducible refine w_ifT ?h ?_); (case h => first | rfl | assumption))
  | ((with_reducible refine w_ifF ?h ?_); (case h => first | rfl | assumption))
  | ((with_reducible refine w_diff ?_ ?h); (case h => decide +kernel))
  | ((with_reducible refine w_wp ?h ?_); (case h => rfl); (try simp only [wipe, List.set_cons_zero, List.set_cons_succ, List.foldl_cons, List.foldl_nil]))
  | ((with_reducible refine w_acc (acc := ?aa) ?h ?_ ?z); (case h => walk_at "hget"); (case z => walk_at "sz"))
  | with_reducible refine w_addI ?_
  | with_reducible refine w_subI ?_
  | with_reducible refine w_lt ?_
  | with_reducible refine w_le ?_
  | with_reducible refine w_gt ?_
  | with_reducible refine w_ge ?_
  | with_reducible refine w_eqI ?_
  | with_reducible refine w_neI ?_
  | with_reducible refine w_eqS ?_
  | with_reducible refine w_neS ?_
  | with_reducible refine w_neB ?_
  | ((with_reducible refine w_mulI ?_ ?h); (case h => walk_at "sz"))
  | ((with_reducible refine w_divI ?_ ?h); (case h => walk_at "sz"))
  | ((with_reducible refine w_addS ?_ ?h); (case h => walk_at "sz"))
  | ((with_reducible refine w_mulS ?_ ?h); (case h => walk_at "sz"))
  | ((with_reducible refine w_ixL (xs := ?xx) (v := ?vv) ?h ?i ?_); (case h => walk_at "vget"); (case i => walk_at "at"))
  | ((with_reducible refine w_ixT (xs := ?xx) (v := ?vv) ?h ?i ?_); (case h => walk_at "vget"); (case i => walk_at "at"))
  | ((with_reducible refine w_ixS (c := ?cc) ?i ?_ ?h); (case i => walk_at "at"); (case h => walk_at "sz"))
  | ((with_reducible refine w_lenS' ?_ ?h); (case h => walk_at "sz"))
  | ((with_reducible refine w_lenL' (xs := ?xx) ?h ?_); (case h => walk_at "vget"))
  | ((with_reducible refine w_lenT' (xs := ?xx) ?h ?_); (case h => walk_at "vget"))
  | with_reducible refine w_isnN ?_
  | with_reducible refine w_isnI ?_
  | with_reducible refine w_isnS ?_
  | with_reducible refine w_isnR ?_
  | with_reducible refine w_isnB ?_
  | with_reducible refine w_isoN ?_
  | with_reducible refine w_isoI ?_
  | with_reducible refine w_isoS ?_
  | with_reducible refine w_isoR ?_
  | with_reducible refine w_isoB ?_
  | with_reducible refine w_abs ?_
  | with_reducible refine w_int ?_
  | with_reducible refine w_intB ?_
  | with_reducible refine w_min2 ?_
  | with_reducible refine w_max2 ?_
  | with_reducible refine w_min3 ?_
  | with_reducible refine w_sl ?_
  | with_reducible refine w_np ?_
  | with_reducible refine w_part ?_
  | ((with_reducible refine w_sStN ?_ ?h); (case h => walk_at "sz"))
  | ((with_reducible refine w_sSfN ?_ ?h); (case h => walk_at "sz"))
  | ((with_reducible refine w_sSt ?_ ?h); (case h => walk_at "sz"))
  | ((with_reducible refine w_sSf ?_ ?h); (case h => walk_at "sz"))
  | with_reducible refine w_and ?_
  | with_reducible refine w_or ?_
  | with_reducible refine w_not ?_
  | with_reducible refine w_andV ?_
  | with_reducible refine w_orV ?_
  | with_reducible refine w_notV ?_
  | with_reducible refine w_ifE ?_
  | with_reducible refine w_tup ?_
  | with_reducible refine w_lst ?_
  | with_reducible refine w_chain ?_
  | ((with_reducible refine w_par ?_); (try simp only [List.set_cons_zero, List.set_cons_succ]))
  | ((with_reducible refine w_par3 ?_); (try simp only [List.set_cons_zero, List.set_cons_succ]))
  | with_reducible refine w_three ?_
  | with_reducible refine w_un ?_
  | with_reducible refine w_neg ?_
  | with_reducible refine w_next ?_
  | with_reducible refine w_ebk ?_
  | with_reducible refine w_ect ?_
  | with_reducible refine w_for ?_
  | with_reducible refine w_lc ?_
  | with_reducible refine w_yes ?_
  | with_reducible refine w_il ?_
  | with_reducible refine w_it ?_
  | with_reducible refine w_isx ?_
  | with_reducible refine w_ir1 ?_
  | with_reducible refine w_ir2 ?_
  | with_reducible refine w_ies ?_
  | with_reducible refine w_ir3 ?_
  | with_reducible refine w_s1 ?_
  | with_reducible refine w_s1l ?_
  | ((with_reducible refine w_r1 ?_ ?h); (case h => walk_at "sz"))
  | ((with_reducible refine w_r2 ?_ ?h); (case h => walk_at "sz"))
  | ((with_reducible refine w_l1 (xs := ?xx) ?h ?_); (case h => walk_at "vget"))
  | ((with_reducible refine w_t1 (xs := ?xx) ?h ?_); (case h => walk_at "vget"))
  | ((with_reducible refine w_isL (xs := ?xx) ?h ?_); (case h => walk_at "vget"))
  | with_reducible refine w_isS ?_
  | ((with_reducible refine w_app (xs := ?xx) ?h ?_ ?z); (case h => walk_at "hget"); (case z => walk_at "sz"))
  | with_reducible refine w_inC ?_
  | with_reducible refine w_rev ?_
  | ((with_reducible refine w_rev1S ?_ ?h); (case h => walk_at "sz"))
  | with_reducible refine w_lrg ?_
  | with_reducible refine w_brk ?_
  | with_reducible refine w_cont ?_
  | with_reducible refine w_retN ?_
  | with_reducible refine w_bm ?_
  | with_reducible refine w_bm0 ?_
  | with_reducible refine w_m1 ?_
  | with_reducible refine w_sub ?_
  | ((with_reducible refine w_setL (xs := ?xx) (j := ?jj) ?h ?i ?_); (case h => walk_at "hget"); (case i => first | rfl | assumption); (try simp only [Int.reduceToNat, List.set_cons_zero, List.set_cons_succ]))
  | with_reducible refine w_ip ?_
  | with_reducible refine w_gnil ?_
  | with_reducible refine w_gcons ?_
  | ((with_reducible refine w_gL (xs := ?xx) ?h ?_ ?n); (case h => walk_at "vget"); (case n => rfl))
  | ((with_reducible refine w_gT (xs := ?xx) ?h ?_ ?n); (case h => walk_at "vget"); (case n => rfl))
  | ((with_reducible refine w_aug (v := ?vv) ?h ?_); (case h => exact rfl)))
local macro_rules | `(tactic| walk_at "v") => `(tactic| repeat walk_at "v1")
local macro_rules | `(tactic| walk_at "v0") => `(tactic| (simp only [L2.start, cxK, ends_rt, List.map_cons, List.map_nil, List.length_cons, List.length_nil, Nat.reduceAdd, Nat.reduceSub, List.replicate_succ, List.replicate_zero, List.append_nil, List.cons_append, List.nil_append]; walk_at "v"))
local macro_rules | `(tactic| walk_at "u1") => `(tactic| first
  | with_reducible refine w_seqA ?_
  | with_reducible refine w_seqD ?_
  | with_reducible refine w_seqP ?_
  | with_reducible refine w_seqP3 ?_
  | with_reducible refine w_seqG ?_
  | ((fail_if_success (with_reducible refine w_seq ?_)); walk_at "v1"))
local macro_rules | `(tactic| walk_at "u") => `(tactic| repeat walk_at "u1")
local macro_rules | `(tactic| walk_at "u0") => `(tactic| (simp only [L2.start, cxK, ends_rt, List.map_cons, List.map_nil, List.length_cons, List.length_nil, Nat.reduceAdd, Nat.reduceSub, List.replicate_succ, List.replicate_zero, List.append_nil, List.cons_append, List.nil_append]; walk_at "u"))
local macro_rules | `(tactic| walk_at "t1") => `(tactic| ((fail_if_success (with_reducible refine w_seq ?_)); walk_at "v1"))
local macro_rules | `(tactic| walk_at "t") => `(tactic| repeat walk_at "t1")

section
variable {P : Program} {w : World} {K : PySem.W.Frag} {mg : Str → Option Value} {base : Heap}
def wTold : List Nat := [116, 111, 108, 100]
def wText : List Nat := [116, 101, 120, 116]
/-- a new list of a word and a value is told -/
def Say (Q : VK) (H : Hp) (wd : List Nat) (v : V) : Prop := ∀ r H', Same H H' → H r = none → H' r = some (.lst [.str (tx wd), v]) → Q (.ref r) H'
def spMet (K : PySem.W.Frag) : Sp := fun vs H Q _ => ∃ (wh : Nat) (x y : V) (bx by' : Bool), vs = [.int (wh : Nat), x, y] ∧ IsTx K H x bx ∧ IsTx K H y by' ∧
  (bx = false → Say Q H wText x) ∧ (bx = true → by' = false → Say Q H wText y) ∧
  (bx = true → by' = true → ∃ l m, x = .str (tx l) ∧ l.length ≤ 100000 ∧ y = .str (tx m) ∧ m.length ≤ 100000 ∧ ∀ p, IsC l m p → Say Q H wTold (.int (p : Nat)))
theorem ok__law_met (T : Txt K mg) (c_round_price : Cal P w K mg base 5 "round_price" ["one", "other"] (spPriceX K (errAt mg "InvalidText")))
    (c_round_price_w : CalW P w K mg base 5 "round_price" ["one", "other"] ["other", "one"] (fun {α} (l : List α) => l.reverse) (spPriceX K (errAt mg "InvalidText"))) :
    Cal P w K mg base 6 "_law_met" ["which", "first", "second"] (spMet K) := by
  refine cal0 T.d__law_met sc__law_met (by rintro vs H Q E ⟨wh, x, y, bx, by', rfl, _⟩; rfl) (fun cdv f A outer s H vs Q E hr hgd h => ?_)
  obtain ⟨wh, x, y, bx, by', rfl, hx, hy, q1, q2, q4⟩ := h
  refine ⟨_, (pss_one (ps_tryA K (i := 3) rfl rfl rfl sc__law_met.nd rfl rfl (names_errA mg T.x_InvalidText rfl (by rfl)) takes0 (fun W pn xe tk po => (pss_one (ps_ret (pe_lst (pa_cons (pe_tx [116, 111, 108, 100] (by decide +kernel)) (pa_cons (pe_ifExp (pt_cmpR (kEq K rfl hr) (pv 0) pe_int (nomark _)) (pe_g c_round_price hr (by decide) hgd (by rfl) (passAt tk) (pa_cons (pv 1) (pa_cons (pv 2) pa_nil))) (pe_gw c_round_price_w hr (by decide) hgd (by rfl) (passAt tk) (pk_cons (pv 2) (pk_cons (pv 1) pk_nil)) hl_round_price_w)) pa_nil)))))) (fun a oe cls d pn hz hf => (pss_one (ps_ret (pe_lst (pa_cons (pe_tx [116, 101, 120, 116] (by decide +kernel)) (pa_cons (pe_givA mg T.x_InvalidText rfl hz hf (pv 3)) pa_nil)))))))), ?_⟩
  walk_at "v0"
  refine w_tryA ?_
  try dsimp only []
  walk_at "v"
  refine w_if (fun h => ?_) (fun h => ?_)
  · walk_at "v"
    refine ⟨x, y, bx, by', rfl, hx, hy, fun e => ?_, fun e1 e2 => ?_, fun e1 e2 => ?_⟩
    · intro H1 d s1 h1
      refine wAs_of T.x_InvalidText.te (fun a ha => ?_)
      simp only [List.set_cons_zero, List.set_cons_succ]
      walk_at "v"
      refine w_giv rfl h1 ?_
      walk_at "v"
      refine ⟨by walk_at "sz", fun r hr => ?_⟩
      walk_at "v"
      exact q1 e r _ (Same.new s1 hr) (none_same s1 hr) upd_same
    · intro H1 d s1 h1
      refine wAs_of T.x_InvalidText.te (fun a ha => ?_)
      simp only [List.set_cons_zero, List.set_cons_succ]
      walk_at "v"
      refine w_giv rfl h1 ?_
      walk_at "v"
      refine ⟨by walk_at "sz", fun r hr => ?_⟩
      walk_at "v"
      exact q2 e1 e2 r _ (Same.new s1 hr) (none_same s1 hr) upd_same
    · obtain ⟨l, m, t1, t2, t3, t4, q⟩ := q4 e1 e2
      refine ⟨l, m, t1, t2, t3, t4, fun p H1 hp s1 => ?_⟩
      walk_at "v"
      refine ⟨by walk_at "sz", fun r hr => ?_⟩
      walk_at "v"
      exact q p hp r _ (Same.new s1 hr) (none_same s1 hr) upd_same
  · walk_at "v"
    refine w_callW ?_
    walk_at "v"
    refine ⟨rfl, ?_⟩
    refine ⟨x, y, bx, by', rfl, hx, hy, fun e => ?_, fun e1 e2 => ?_, fun e1 e2 => ?_⟩
    · intro H1 d s1 h1
      refine wAs_of T.x_InvalidText.te (fun a ha => ?_)
      simp only [List.set_cons_zero, List.set_cons_succ]
      walk_at "v"
      refine w_giv rfl h1 ?_
      walk_at "v"
      refine ⟨by walk_at "sz", fun r hr => ?_⟩
      walk_at "v"
      exact q1 e r _ (Same.new s1 hr) (none_same s1 hr) upd_same
    · intro H1 d s1 h1
      refine wAs_of T.x_InvalidText.te (fun a ha => ?_)
      simp only [List.set_cons_zero, List.set_cons_succ]
      walk_at "v"
      refine w_giv rfl h1 ?_
      walk_at "v"
      refine ⟨by walk_at "sz", fun r hr => ?_⟩
      walk_at "v"
      exact q2 e1 e2 r _ (Same.new s1 hr) (none_same s1 hr) upd_same
    · obtain ⟨l, m, t1, t2, t3, t4, q⟩ := q4 e1 e2
      refine ⟨l, m, t1, t2, t3, t4, fun p H1 hp s1 => ?_⟩
      walk_at "v"
      refine ⟨by walk_at "sz", fun r hr => ?_⟩
      walk_at "v"
      exact q p hp r _ (Same.new s1 hr) (none_same s1 hr) upd_same
end
end K09
set_option Elab.async false
set_option linter.all false
set_option maxRecDepth 100000
set_option maxHeartbeats 4000000
namespace K09
open PySem PySem.Spec PyProof.Rows L2 SL Lv
local macro_rules | `(tactic| walk_at "sz") => `(tactic| first
  | assumption
  | omega
  | (simp only [List.length_cons, List.length_nil, List.length_append, List.length_map, List.length_take, List.length_drop, List.length_reverse, List.length_replicate, List.length_range, tx_len, sizeLine_eq, CMul, CDiv, Nat.reduceAdd, Nat.reduceLeDiff]; first | done | omega)
  | decide)
local macro_rules | `(tactic| walk_at "ne") => `(tactic| first
  | assumption
  | exact Ne.symm (by assumption)
  | (refine ne_of_none (H := ?H0) (o := ?oo) ?hh ?hn; (case hn => assumption); (case hh => walk_at "hget"))
  | (refine Ne.symm (ne_of_none (H := ?H0) (o := ?oo) ?hh ?hn); (case hn => assumption); (case hh => walk_at "hget")))
local macro_rules | `(tactic| walk_at "hget") => `(tactic| first
  | assumption
  | exact upd_same
  | (refine (upd_ne ?n).trans ?g; (case n => walk_at "ne"); (case g => walk_at "hget"))
  | (refine fr_get (p := ?pp) (H := ?H0) ?f ?g ?n; (case f => assumption); (case g => walk_at "hget"); (case n => walk_at "ne"))
  | (refine same_get (H := ?H0) ?f ?g; (case f => assumption); (case g => walk_at "hget")))
local macro_rules | `(tactic| walk_at "vget") => `(tactic| first
  | assumption
  | (refine SqL.of ?g; (case g => walk_at "hget"))
  | (refine SqT.of ?g; (case g => walk_at "hget"))
  | (refine sql_new ?n ?g; (case n => assumption); (case g => walk_at "vget"))
  | (refine sqt_new ?n ?g; (case n => assumption); (case g => walk_at "vget"))
  | (refine sql_upd ?n ?g; (case n => walk_at "ne"); (case g => walk_at "vget"))
  | (refine sqt_upd ?n ?g; (case n => walk_at "ne"); (case g => walk_at "vget"))
  | (refine Same.seq (H := ?H0) ?f ?g; (case f => assumption); (case g => walk_at "vget"))
  | (refine Same.seqT (H := ?H0) ?f ?g; (case f => assumption); (case g => walk_at "vget"))
  | (refine fr_sql (b := ?pp) (H := ?H0) ?f ?g ?n; (case f => assumption); (case g => walk_at "vget"); (case n => walk_at "ne"))
  | (refine fr_sqt (b := ?pp) (H := ?H0) ?f ?g ?n; (case f => assumption); (case g => walk_at "vget"); (case n => walk_at "ne")))
local macro_rules | `(tactic| walk_at "at") => `(tactic| first
  | assumption
  | rfl
  | (refine atI_n ?h; (case h => first | assumption | rfl))
  | (refine atI_i ?h0 ?h; (case h0 => omega); (case h => first | assumption | rfl)))
local macro_rules | `(tactic| walk_at "v1") => `(tactic| first
  | with_reducible refine w_seq ?_
  | with_reducible refine w_enx ?_
  | with_reducible refine w_ert ?_
  | with_reducible refine w_asg ?_
  | ((with_reducible refine w_var (v := ?vv) ?h ?_); (case h => exact rfl))
  | with_reducible refine w_op ?_
  | with_reducible refine w_c ?_
  | with_reducible refine w_cons ?_
  | with_reducible refine w_nil ?_
  | with_reducible refine w_cb ?_
  | with_reducible refine w_call ?_
  | with_reducible refine w_k ?_
  | with_reducible refine w_i ?_
  | with_reducible refine w_two ?_
  | ((with_reducible refine w_name ?_); (try simp only [List.set_cons_zero, List.set_cons_succ]))
  | with_reducible refine w_ifS ?_
  | with_reducible refine w_ret ?_
  | with_reducible refine w_drop ?_
  | with_reducible refine w_test ?_
  | with_reducible refine w_B ?_
  | with_reducible refine iteT ?_
  | with_reducible refine iteF ?_
  | with_reducible refine w_same ?_
  | ((with_reducible refine w_ifT ?h ?_); (case h => first | rfl | assumption))
  | ((with_reducible refine w_ifF ?h ?_); (case h => first | rfl | assumption))
  | ((with_reducible refine w_diff ?_ ?h); (case h => decide +kernel))
  | ((with_reducible refine w_wp ?h ?_); (case h => rfl); (try simp only [wipe, List.set_cons_zero, List.set_cons_succ, List.foldl_cons, List.foldl_nil]))
  | ((with_reducible refine w_acc (acc := ?aa) ?h ?_ ?z); (case h => walk_at "hget"); (case z => walk_at "sz"))
  | with_reducible refine w_addI ?_
  | with_reducible refine w_subI ?_
  | with_reducible refine w_lt ?_
  | with_reducible refine w_le ?_
  | with_reducible refine w_gt ?_
  | with_reducible refine w_ge ?_
  | with_reducible refine w_eqI ?_
  | with_reducible refine w_neI ?_
  | with_reducible refine w_eqS ?_
  | with_reducible refine w_neS ?_
  | with_reducible refine w_neB ?_
  | ((with_reducible refine w_mulI ?_ ?h); (case h => walk_at "sz"))
  | ((with_reducible refine w_divI ?_ ?h); (case h => walk_at "sz"))
  | ((with_reducible refine w_addS ?_ ?h); (case h => walk_at "sz"))
  | ((with_reducible refine w_mulS ?_ ?h); (case h => walk_at "sz"))
  | ((with_reducible refine w_ixL (xs := ?xx) (v := ?vv) ?h ?i ?_); (case h => walk_at "vget"); (case i => walk_at "at"))
  | ((with_reducible refine w_ixT (xs := ?xx) (v := ?vv) ?h ?i ?_); (case h => walk_at "vget"); (case i => walk_at "at"))
  | ((with_reducible refine w_ixS (c := ?cc) ?i ?_ ?h); (case i => walk_at "at"); (case h => walk_at "sz"))
  | ((with_reducible refine w_lenS' ?_ ?h); (case h => walk_at "sz"))
  | ((with_reducible refine w_lenL' (xs := ?xx) ?h ?_); (case h => walk_at "vget"))
  | ((with_reducible refine w_lenT' (xs := ?xx) ?h ?_); (case h => walk_at "vget"))
  | with_reducible refine w_isnN ?_
  | with_reducible refine w_isnI ?_
  | with_reducible refine w_isnS ?_
  | with_reducible refine w_isnR ?_
  | with_reducible refine w_isnB ?_
  | with_reducible refine w_isoN ?_
  | with_reducible refine w_isoI ?_
  | with_reducible refine w_isoS ?_
  | with_reducible refine w_isoR ?_
  | with_reducible refine w_isoB ?_
  | with_reducible refine w_abs ?_
  | with_reducible refine w_int ?_
  | with_reducible refine w_intB ?_
  | with_reducible refine w_min2 ?_
  | with_reducible refine w_max2 ?_
  | with_reducible refine w_min3 ?_
  | with_reducible refine w_sl ?_
  | with_reducible refine w_np ?_
  | with_reducible refine w_part ?_
  | ((with_reducible refine w_sStN ?_ ?h); (case h => walk_at "sz"))
  | ((with_reducible refine w_sSfN ?_ ?h); (case h => walk_at "sz"))
  | ((with_reducible refine w_sSt ?_ ?h); (case h => walk_at "sz"))
  | ((with_reducible refine w_sSf ?_ ?h); (case h => walk_at "sz"))
  | with_reducible refine w_and ?_
  | with_reducible refine w_or ?_
  | with_reducible refine w_not ?_
  | with_reducible refine w_andV ?_
  | with_reducible refine w_orV ?_
  | with_reducible refine w_notV ?_
  | with_reducible refine w_ifE ?_
  | with_reducible refine w_tup ?_
  | with_reducible refine w_lst ?_
  | with_reducible refine w_chain ?_
  | ((with_reducible refine w_par ?_); (try simp only [List.set_cons_zero, List.set_cons_succ]))
  | ((with_reducible refine w_par3 ?_); (try simp only [List.set_cons_zero, List.set_cons_succ]))
  | with_reducible refine w_three ?_
  | with_reducible refine w_un ?_
  | with_reducible refine w_neg ?_
  | with_reducible refine w_next ?_
  | with_reducible refine w_ebk ?_
  | with_reducible refine w_ect ?_
  | with_reducible refine w_for ?_
  | with_reducible refine w_lc ?_
  | with_reducible refine w_yes ?_
  | with_reducible refine w_il ?_
  | with_reducible refine w_it ?_
  | with_reducible refine w_isx ?_
  | with_reducible refine w_ir1 ?_
  | with_reducible refine w_ir2 ?_
  | with_reducible refine w_ies ?_
  | with_reducible refine w_ir3 ?_
  | with_reducible refine w_s1 ?_
  | with_reducible refine w_s1l ?_
  | ((with_reducible refine w_r1 ?_ ?h); (case h => walk_at "sz"))
  | ((with_reducible refine w_r2 ?_ ?h); (case h => walk_at "sz"))
  | ((with_reducible refine w_l1 (xs := ?xx) ?h ?_); (case h => walk_at "vget"))
  | ((with_reducible refine w_t1 (xs := ?xx) ?h ?_); (case h => walk_at "vget"))
  | ((with_reducible refine w_isL (xs := ?xx) ?h ?_); (case h => walk_at "vget"))
  | with_reducible refine w_isS ?_
  | ((with_reducible refine w_app (xs := ?xx) ?h ?_ ?z); (case h => walk_at "hget"); (case z => walk_at "sz"))
  | with_reducible refine w_inC ?_
  | with_reducible refine w_rev ?_
  | ((with_reducible refine w_rev1S ?_ ?h); (case h => walk_at "sz"))
  | with_reducible refine w_lrg ?_
  | with_reducible refine w_brk ?_
  | with_reducible refine w_cont ?_
  | with_reducible refine w_retN ?_
  | with_reducible refine w_bm ?_
  | with_reducible refine w_bm0 ?_
  | with_reducible refine w_m1 ?_
  | with_reducible refine w_sub ?_
  | ((with_reducible refine w_setL (xs := ?xx) (j := ?jj) ?h ?i ?_); (case h => walk_at "hget"); (case i => first | rfl | assumption); (try simp only [Int.reduceToNat, List.set_cons_zero, List.set_cons_succ]))
  | with_reducible refine w_ip ?_
  | with_reducible refine w_gnil ?_
  | with_reducible refine w_gcons ?_
  | ((with_reducible refine w_gL (xs := ?xx) ?h ?_ ?n); (case h => walk_at "vget"); (case n => rfl))
  | ((with_reducible refine w_gT (xs := ?xx) ?h ?_ ?n); (case h => walk_at "vget"); (case n => rfl))
  | ((with_reducible refine w_aug (v := ?vv) ?h ?_); (case h => exact rfl)))
local macro_rules | `(tactic| walk_at "v") => `(tactic| repeat walk_at "v1")
local macro_rules | `(tactic| walk_at "v0") => `(tactic| (simp only [L2.start, cxK, ends_rt, List.map_cons, List.map_nil, List.length_cons, List.length_nil, Nat.reduceAdd, Nat.reduceSub, List.replicate_succ, List.replicate_zero, List.append_nil, List.cons_append, List.nil_append]; walk_at "v"))
local macro_rules | `(tactic| walk_at "u1") => `(tactic| first
  | with_reducible refine w_seqA ?_
  | with_reducible refine w_seqD ?_
  | with_reducible refine w_seqP ?_
  | with_reducible refine w_seqP3 ?_
  | with_reducible refine w_seqG ?_
  | ((fail_if_success (with_reducible refine w_seq ?_)); walk_at "v1"))
local macro_rules | `(tactic| walk_at "u") => `(tactic| repeat walk_at "u1")
local macro_rules | `(tactic| walk_at "u0") => `(tactic| (simp only [L2.start, cxK, ends_rt, List.map_cons, List.map_nil, List.length_cons, List.length_nil, Nat.reduceAdd, Nat.reduceSub, List.replicate_succ, List.replicate_zero, List.append_nil, List.cons_append, List.nil_append]; walk_at "u"))
local macro_rules | `(tactic| walk_at "t1") => `(tactic| ((fail_if_success (with_reducible refine w_seq ?_)); walk_at "v1"))
local macro_rules | `(tactic| walk_at "t") => `(tactic| repeat walk_at "t1")

section
variable {P : Program} {w : World} {K : PySem.W.Frag} {mg : Str → Option Value} {base : Heap}
/-- letters, each a text of one sign -/
def ltL (l : List Nat) : List V := l.map fun c => V.str (tx [c])
theorem ltL_at {l : List Nat} {k c : Nat} (h : l[k]? = some c) : (ltL l)[k]? = some (.str (tx [c])) := by
  unfold ltL
  rw [List.getElem?_map, h]
  rfl
theorem ltL_len (l : List Nat) : (ltL l).length = l.length := by unfold ltL; rw [List.length_map]
theorem ltL_set (l : List Nat) (k c : Nat) : (ltL l).set k (.str (tx [c])) = ltL (l.set k c) := by
  unfold ltL
  rw [List.map_set]
theorem let_set {l : List Nat} (h : Let l) {c : Nat} (hc : Let [c]) (k : Nat) : Let (l.set k c) := fun x hx => by
  rcases List.mem_or_eq_of_mem_set hx with hx | rfl
  · exact h x hx
  · exact hc x (by simp)
def spTurned : Sp := fun vs H Q _ => ∃ (p : Addr) (l : List Nat) (c : Nat), vs = [.ref p, .str (tx l)] ∧ Box H p c ∧ c ≤ 10000000 ∧ l.length ≤ 1000 ∧ Let l ∧
  ∀ (t : List Nat) H', Cj l t → Let t → Box H' p (c + 1) → SL.Fr p H H' → Q (.str (tx t)) H'
theorem ok__law_turned (T : Txt K mg) (c__law_take : Cal P w K mg base 1 "_law_take" ["box", "many"] spTake) : Cal P w K mg base 2 "_law_turned" ["box", "text"] spTurned := by
  refine cal0 T.d__law_turned sc__law_turned (by rintro vs H Q E ⟨p, l, c, rfl, _⟩; rfl) (fun cdv f A outer s H vs Q E hr hgd h => ?_)
  obtain ⟨p, l, c, rfl, hb, hc, zl, ll, q⟩ := h
  refine ⟨_, (pss_cons (ps_set (i := 2) sc__law_turned.nd rfl (by first | exact Or.inl rfl | exact Or.inr rfl) (pe_g c__law_take hr (by decide) hgd (by rfl) noX (pa_cons (pv 0) (pa_cons (pe_op (kAdd K rfl) (pe_callB (kLen K rfl) (by rfl) T.n_len (by decide +kernel) (pa_cons (pv 1) pa_nil)) pe_int) pa_nil))))
  (pss_one (ps_ret (pe_op (kAdd K rfl) (pe_slice (kSl K rfl) (pv 1) (po_some (pv 2)) po_none) (pe_slice (kSl K rfl) (pv 1) po_none (po_some (pv 2))))))), ?_⟩
  walk_at "v0"
  refine take_w (N := l.length + 1) (by omega) hb (by omega) fun k H1 hk b1 f1 => ?_
  walk_at "v"
  exact q _ _ (cj_rot l k) ((ll.drop _).app (ll.take _)) b1 f1
def spChanged : Sp := fun vs H Q _ => ∃ (p r : Addr) (l t : List Nat) (c : Nat), vs = [.ref p, .ref r, .str (tx t)] ∧ Box H p c ∧ c ≤ 10000000 ∧ H r = some (.lst (ltL l)) ∧ l.length = 3 ∧ Let l ∧ r ≠ p ∧ Let t ∧ t.length ≤ 1000 ∧
  ∀ (u : List Nat) H', Let u → u.length ≤ t.length + 4 → Box H' p (c + 20) → SL.Fr p H H' → Q (.str (tx u)) H'
theorem ok__law_changed (T : Txt K mg) (c__law_take : Cal P w K mg base 1 "_law_take" ["box", "many"] spTake) : Cal P w K mg base 2 "_law_changed" ["box", "letters", "text"] spChanged := by
  refine cal0 T.d__law_changed sc__law_changed (by rintro vs H Q E ⟨p, r, l, t, c, rfl, _⟩; rfl) (fun cdv f A outer s H vs Q E hr hgd h => ?_)
  obtain ⟨p, r, l, t, c, rfl, hb, hc, hl, z3, ll, nrp, lt, zt, q⟩ := h
  refine ⟨_, (pss_cons (ps_set (i := 3) sc__law_changed.nd rfl (by first | exact Or.inl rfl | exact Or.inr rfl) (pv 2))
  (pss_cons (ps_for PassesOwn.never rfl (pi_range1 (by rfl) T.n_range (pa_cons (pe_g c__law_take hr (by decide) hgd (by rfl) noX (pa_cons (pv 0) (pa_cons pe_int pa_nil))) pa_nil)) (pg_name (i := 4) sc__law_changed.nd rfl (by first | exact Or.inl rfl | exact Or.inr rfl))
  (pss_cons (ps_par (i := 6) (j := 7) (by rfl) sc__law_changed.nd rfl rfl (by decide) rfl rfl (pa_cons (pe_g c__law_take hr (by decide) hgd (by rfl) noX (pa_cons (pv 0) (pa_cons (pe_op (kAdd K rfl) (pe_callB (kLen K rfl) (by rfl) T.n_len (by decide +kernel) (pa_cons (pv 3) pa_nil)) pe_int) pa_nil))) (pa_cons (pe_g c__law_take hr (by decide) hgd (by rfl) noX (pa_cons (pv 0) (pa_cons pe_int pa_nil))) pa_nil)) (by rfl))
  (pss_cons (ps_set (i := 5) sc__law_changed.nd rfl (by first | exact Or.inl rfl | exact Or.inr rfl) (pe_ix (kIx K rfl) (pv 1) (pe_g c__law_take hr (by decide) hgd (by rfl) noX (pa_cons (pv 0) (pa_cons pe_int pa_nil))) (fun _ _ => rfl)))
  (pss_one (ps_set (i := 3) sc__law_changed.nd rfl (by first | exact Or.inl rfl | exact Or.inr rfl) (pe_op (kAdd K rfl) (pe_op (kAdd K rfl) (pe_slice (kSl K rfl) (pv 3) po_none (po_some (pv 6))) (pe_ix (kIx K rfl) (pe_lst (pa_cons (pe_tx [] (by decide +kernel)) (pa_cons (pv 5) (pa_cons (pv 5) pa_nil)))) (pv 7) (fun _ _ => rfl))) (pe_slice (kSl K rfl) (pv 3) (po_some (pe_op (kAdd K rfl) (pv 6) (pe_ix (kIx K rfl) (pe_lst (pa_cons pe_int (pa_cons pe_int (pa_cons pe_int pa_nil)))) (pv 7) (fun _ _ => rfl)))) po_none)))))))
  (pss_one (ps_ret (pv 3))))), ?_⟩
  walk_at "v0"
  refine take_w (N := 4) rfl hb (by omega) fun n H1 hn b1 f1 => ?_
  walk_at "v"
  refine for_rg (n := n) (by omega) (fun i σ H' => ∃ u x1 x2 x3 x4, σ = [some (.ref p), some (.ref r), some (.str (tx t)), some (.str (tx u)), x1, x2, x3, x4] ∧ Let u ∧ u.length ≤ t.length + i ∧ Box H' p (c + 1 + 3 * i) ∧ SL.Fr p H H') ⟨_, _, _, _, _, rfl, lt, by omega, b1, f1⟩ ?_ ?_
  · rintro i σ H2 hi ⟨u, x1, x2, x3, x4, rfl, lu, zu, b2, f2⟩
    walk_at "v"
    refine take_w (N := u.length + 1) (by omega) b2 (by omega) fun k1 H3 hk1 b3 f3 => ?_
    walk_at "v"
    refine take_w (N := 3) rfl b3 (by omega) fun k2 H4 hk2 b4 f4 => ?_
    walk_at "v"
    refine take_w (N := 3) rfl b4 (by omega) fun k3 H5 hk3 b5 f5 => ?_
    have F5 := f2.trans (f3.trans (f4.trans f5))
    obtain ⟨c1, g1⟩ := ex_get (l := l) (k := k3) (by omega)
    have g2 := ltL_at g1
    have hl5 := F5 _ _ hl nrp
    have l1 := ll.one g1
    obtain ⟨a, b, ha, hb', la, hab⟩ : ∃ (a : List Nat) (b : Nat), ([.str (tx []), .str (tx [c1]), .str (tx [c1])] : List V)[k2]? = some (.str (tx a)) ∧ ([.int 1, .int 0, .int 1] : List V)[k2]? = some (.int b) ∧ Let a ∧ a.length ≤ 1 ∧ b ≤ 1 := by
      match k2, hk2 with
      | 0, _ => exact ⟨[], 1, rfl, rfl, Let.nil, by simp, by omega⟩
      | 1, _ => exact ⟨[c1], 0, rfl, rfl, l1, by simp, by omega⟩
      | 2, _ => exact ⟨[c1], 1, rfl, rfl, l1, by simp, by omega⟩
    walk_at "v"
    refine ⟨by walk_at "sz", fun e1 n1 => ?_⟩
    walk_at "v"
    refine ⟨by walk_at "sz", fun e2 n2 => ?_⟩
    have B1 := b5.upd (o := .lst [.str (tx []), .str (tx [c1]), .str (tx [c1])]) (b5.ne n1)
    have B2 := B1.upd (o := .lst [.int 1, .int 0, .int 1]) (B1.ne n2)
    have FF := (F5.new n1 hb.has (o := .lst [.str (tx []), .str (tx [c1]), .str (tx [c1])])).new n2 hb.has (o := .lst [.int 1, .int 0, .int 1])
    walk_at "v"
    refine ⟨_, _, _, _, _, rfl, ((lu.take _).app la).app (lu.drop _), ?_, B2.le (by omega), FF⟩
    simp only [List.length_append, List.length_take, List.length_drop]
    omega
  · rintro σ H2 ⟨u, x1, x2, x3, x4, rfl, lu, zu, b2, f2⟩
    walk_at "v"
    exact q _ _ lu (by omega) (b2.le (by omega)) f2
def spTexts : Sp := fun vs H Q _ => ∃ (p : Addr) (c : Nat), vs = [.ref p] ∧ Box H p c ∧ c ≤ 1000000 ∧
  ∀ (x y : List Nat) r H', Let x → Let y → x.length ≤ 40 → y.length ≤ 40 → Box H' p (c + 100) → SL.Fr p H H' → r ≠ p → H' r = some (.lst [.str (tx x), .str (tx y)]) → Q (.ref r) H'
/-- a text of letters, drawn -/
def Drawn (H0 : Hp) (p D : Addr) (n i : Nat) (H' : Hp) : Prop := ∃ ts : List (List Nat), ts.length = i ∧ ts.flatten.length = i ∧ Let ts.flatten ∧ Box H' p (n + i) ∧ SL.Fr p H0 H' ∧ H' D = some (.lst (ts.map fun t => V.str (tx t)))
theorem Drawn.start {H0 : Hp} {p D : Addr} {n : Nat} (hb : Box H0 p n) (hD : H0 D = none) : Drawn H0 p D n 0 (upd H0 D (.lst [])) :=
  ⟨[], rfl, rfl, Let.nil, hb.upd (hb.ne hD), Fr.new (SL.Fr.refl _ _) hD hb.has, upd_same⟩
theorem ok__law_texts (T : Txt K mg) (c__law_take : Cal P w K mg base 1 "_law_take" ["box", "many"] spTake) (c__law_turned : Cal P w K mg base 2 "_law_turned" ["box", "text"] spTurned)
    (c__law_changed : Cal P w K mg base 2 "_law_changed" ["box", "letters", "text"] spChanged) : Cal P w K mg base 3 "_law_texts" ["box"] spTexts := by
  refine cal0 T.d__law_texts sc__law_texts (by rintro vs H Q E ⟨p, c, rfl, _⟩; rfl) (fun cdv f A outer s H vs Q E hr hgd h => ?_)
  obtain ⟨p, c, rfl, hb, hc, q⟩ := h
  refine ⟨_, (pss_cons (ps_set (i := 1) sc__law_texts.nd rfl (by first | exact Or.inl rfl | exact Or.inr rfl) (pe_g c__law_take hr (by decide) hgd (by rfl) noX (pa_cons (pv 0) (pa_cons pe_int pa_nil))))
  (pss_cons (ps_set (i := 2) sc__law_texts.nd rfl (by first | exact Or.inl rfl | exact Or.inr rfl) (pe_lc (own := [("k", 5)]) rfl sc__law_texts.nd (pi_range1 (by rfl) T.n_range (pa_cons pe_int pa_nil)) (blkOk_by (own := [("k", 5)]) (N := N__law_texts) (sc := defScope s__law_texts) (by decide +kernel)) (fun _ _ _ _ _ => (pg_name (i := 5) sc__law_texts.nd rfl (by first | exact Or.inl rfl | exact Or.inr rfl))) (fun _ _ _ _ _ => pts_nil) (fun _ _ _ _ _ => (pe_ix (kIx K rfl) (pe_tx abc (by decide +kernel)) (pe_g c__law_take hr (by decide) hgd (by rfl) noX (pa_cons (pv 0) (pa_cons pe_int pa_nil))) (fun _ _ => rfl)))))
  (pss_cons (ps_asg (pe_ix (kIx K rfl) (pv 2) (pe_g c__law_take hr (by decide) hgd (by rfl) noX (pa_cons (pv 0) (pa_cons pe_int pa_nil))) (fun _ _ => rfl)) (pg_sub (pv 2) pe_int set_list))
  (pss_cons (ps_set (i := 3) sc__law_texts.nd rfl (by first | exact Or.inl rfl | exact Or.inr rfl) (pe_ix (kIx K rfl) (pe_lst (pa_cons pe_int (pa_cons pe_int (pa_cons pe_int (pa_cons pe_int (pa_cons pe_int (pa_cons pe_int (pa_cons pe_int (pa_cons pe_int pa_nil))))))))) (pe_g c__law_take hr (by decide) hgd (by rfl) noX (pa_cons (pv 0) (pa_cons pe_int pa_nil))) (fun _ _ => rfl)))
  (pss_cons (ps_set (i := 4) sc__law_texts.nd rfl (by first | exact Or.inl rfl | exact Or.inr rfl) (pe_m1 PySem.F.slot_str_join PySem.F.type_str_join (kJoin K rfl) (pe_tx [] (by decide +kernel)) (pe_lc (own := [("k", 5)]) rfl sc__law_texts.nd (pi_range1 (by rfl) T.n_range (pa_cons (pv 3) pa_nil)) (blkOk_by (own := [("k", 5)]) (N := N__law_texts) (sc := defScope s__law_texts) (by decide +kernel)) (fun _ _ _ _ _ => (pg_name (i := 5) sc__law_texts.nd rfl (by first | exact Or.inl rfl | exact Or.inr rfl))) (fun _ _ _ _ _ => pts_nil) (fun _ _ _ _ _ => (pe_ix (kIx K rfl) (pv 2) (pe_g c__law_take hr (by decide) hgd (by rfl) noX (pa_cons (pv 0) (pa_cons pe_int pa_nil))) (fun _ _ => rfl))))))
  (pss_cons (ps_if (pt_cmpR uLt (pv 1) pe_int (nomark _)) (pss_one (ps_ret (pe_lst (pa_cons (pv 4) (pa_cons (pe_g c__law_turned hr (by decide) hgd (by rfl) noX (pa_cons (pv 0) (pa_cons (pe_g c__law_changed hr (by decide) hgd (by rfl) noX (pa_cons (pv 0) (pa_cons (pv 2) (pa_cons (pv 4) pa_nil)))) pa_nil))) pa_nil))))) pss_nil)
  (pss_cons (ps_if (pt_cmpR (kEq K rfl hr) (pv 1) pe_int (nomark _)) (pss_one (ps_ret (pe_lst (pa_cons (pv 4) (pa_cons (pe_g c__law_turned hr (by decide) hgd (by rfl) noX (pa_cons (pv 0) (pa_cons (pe_op uMul (pe_slice (kSl K rfl) (pv 4) po_none (po_some (pe_op (kAdd K rfl) pe_int (pe_g c__law_take hr (by decide) hgd (by rfl) noX (pa_cons (pv 0) (pa_cons pe_int pa_nil)))))) pe_int) pa_nil))) pa_nil))))) pss_nil)
  (pss_cons (ps_if (pt_cmpR (kEq K rfl hr) (pv 1) pe_int (nomark _)) (pss_one (ps_ret (pe_lst (pa_cons (pv 4) (pa_cons (pe_ix (kIx K rfl) (pe_lst (pa_cons (pv 4) (pa_cons (pe_tx [] (by decide +kernel)) pa_nil))) (pe_g c__law_take hr (by decide) hgd (by rfl) noX (pa_cons (pv 0) (pa_cons pe_int pa_nil))) (fun _ _ => rfl)) pa_nil))))) pss_nil)
  (pss_one (ps_ret (pe_lst (pa_cons (pv 4) (pa_cons (pe_m1 PySem.F.slot_str_join PySem.F.type_str_join (kJoin K rfl) (pe_tx [] (by decide +kernel)) (pe_lc (own := [("k", 5)]) rfl sc__law_texts.nd (pi_range1 (by rfl) T.n_range (pa_cons (pe_g c__law_take hr (by decide) hgd (by rfl) noX (pa_cons (pv 0) (pa_cons pe_int pa_nil))) pa_nil)) (blkOk_by (own := [("k", 5)]) (N := N__law_texts) (sc := defScope s__law_texts) (by decide +kernel)) (fun _ _ _ _ _ => (pg_name (i := 5) sc__law_texts.nd rfl (by first | exact Or.inl rfl | exact Or.inr rfl))) (fun _ _ _ _ _ => pts_nil) (fun _ _ _ _ _ => (pe_ix (kIx K rfl) (pv 2) (pe_g c__law_take hr (by decide) hgd (by rfl) noX (pa_cons (pv 0) (pa_cons pe_int pa_nil))) (fun _ _ => rfl))))) pa_nil))))))))))))), ?_⟩
  have labc : Let abc := fun c h => h
  walk_at "v0"
  refine take_w (N := 8) rfl hb (by omega) fun way H1 hw b1 f1 => ?_
  walk_at "v"
  intro D hD
  have nD := b1.ne hD
  refine lc_rg (n := 3) rfl (fun i H' => ∃ l : List Nat, l.length = i ∧ Let l ∧ Box H' p (c + 1 + i) ∧ SL.Fr p H H' ∧ H' D = some (.lst (ltL l))) ⟨[], rfl, Let.nil, b1.upd nD, Fr.new f1 hD hb.has, upd_same⟩ ?_ ?_
  · rintro i H2 hi ⟨l, e1, ll, b2, f2, h2⟩
    walk_at "v"
    refine take_w (N := 26) rfl b2 (by omega) fun k H3 hk b3 f3 => ?_
    obtain ⟨c1, g1⟩ := ex_get (l := abc) hk
    have h3 := f3 _ _ h2 (Ne.symm nD)
    have zl : (ltL l).length = i := by unfold ltL; rw [List.length_map]; exact e1
    walk_at "v"
    refine ⟨l ++ [c1], by rw [List.length_append, e1]; rfl, ll.app (labc.one g1), (b3.le (by omega)).upd nD, SL.Fr.grow f1 hD nD (f2.trans f3), ?_⟩
    rw [upd_same]
    unfold ltL
    rw [List.map_append]
    rfl
  · rintro H2 ⟨l0, e1, ll0, b2, f2, h2⟩
    walk_at "v"
    refine take_w (N := 3) rfl b2 (by omega) fun k3 H3 hk3 b3 f3 => ?_
    obtain ⟨c3, g3⟩ := ex_get (l := l0) (k := k3) (by omega)
    have g3' := ltL_at g3
    have h3 := f3 _ _ h2 (Ne.symm nD)
    have e2 : ixN (ltL l0).length 2 = some 2 := ixn (j := 2) (by rw [ltL_len]; omega)
    walk_at "v"
    rw [ltL_set]
    obtain ⟨l, hl⟩ : ∃ l, l = l0.set 2 c3 := ⟨_, rfl⟩
    have z3 : l.length = 3 := by rw [hl, List.length_set]; exact e1
    have ll : Let l := by rw [hl]; exact let_set ll0 (ll0.one g3) 2
    rw [← hl]
    have B4 := b3.upd (o := .lst (ltL l)) nD
    have F4 : SL.Fr p H (upd H3 D (.lst (ltL l))) := SL.Fr.grow f1 hD nD (f2.trans f3)
    have h4 : (upd H3 D (.lst (ltL l))) D = some (.lst (ltL l)) := upd_same
    obtain ⟨H4, hH4⟩ : ∃ H4, H4 = upd H3 D (.lst (ltL l)) := ⟨_, rfl⟩
    rw [← hH4] at B4 F4 h4
    rw [← hH4]
    clear hH4 h3 g3 g3' h2 e2
    refine ⟨by walk_at "sz", fun es ns => ?_⟩
    have psn := B4.ne ns
    have nsD : D ≠ es := ne_of_none h4 ns
    walk_at "v"
    refine take_w (N := 8) rfl (B4.upd psn) (by omega) fun k5 H5 hk5 b5 f5 => ?_
    have ges := f5 _ _ upd_same (Ne.symm psn)
    have F5 := (F4.new ns hb.has (o := .lst [.int 5, .int 3, .int 7, .int 6, .int 4, .int 11, .int 1, .int 0])).trans f5
    have g5 := f5 _ _ ((upd_ne nsD).trans h4) (Ne.symm nD)
    have hs : ∃ s : Nat, ([.int 5, .int 3, .int 7, .int 6, .int 4, .int 11, .int 1, .int 0] : List V)[k5]? = some (.int s) ∧ s ≤ 11 := by
      match k5, hk5 with
      | 0, _ => exact ⟨5, rfl, by omega⟩
      | 1, _ => exact ⟨3, rfl, by omega⟩
      | 2, _ => exact ⟨7, rfl, by omega⟩
      | 3, _ => exact ⟨6, rfl, by omega⟩
      | 4, _ => exact ⟨4, rfl, by omega⟩
      | 5, _ => exact ⟨11, rfl, by omega⟩
      | 6, _ => exact ⟨1, rfl, by omega⟩
      | 7, _ => exact ⟨0, rfl, by omega⟩
    obtain ⟨s, hs, zs⟩ := hs
    walk_at "v"
    intro D2 hD2
    have nD2 := b5.ne hD2
    have nDD : D ≠ D2 := ne_of_none g5 hD2
    refine lc_rg (n := s) (by omega) (Drawn H5 p D2 (c + 6) ) (Drawn.start (b5.le (by omega)) hD2) ?_ ?_
    · rintro i H6 hi ⟨ts, e1, e2, e3, b6, f6, h6⟩
      have g6 := f6 _ _ g5 (Ne.symm nD)
      walk_at "v"
      refine take_w (N := 3) rfl b6 (by omega) fun k7 H7 hk7 b7 f7 => ?_
      obtain ⟨c7, q7⟩ := ex_get (l := l) (k := k7) (by omega)
      have q7' := ltL_at q7
      have g7 := f7 _ _ g6 (Ne.symm nD)
      have h7 := f7 _ _ h6 (Ne.symm nD2)
      walk_at "v"
      refine ⟨ts ++ [[c7]], ?_, ?_, ?_, (b7.le (by omega)).upd nD2, SL.Fr.grow (SL.Fr.refl _ _) hD2 nD2 (f6.trans f7), ?_⟩
      · rw [List.length_append, e1]; rfl
      · rw [List.flatten_append, List.length_append, e2]; rfl
      · rw [List.flatten_append]; exact e3.app (by simpa using ll.one q7)
      · rw [upd_same, List.map_append]; rfl
    · rintro H6 ⟨ts, e1, e2, e3, b6, f6, h6⟩
      have g6 := f6 _ _ g5 (Ne.symm nD)
      have F6 := F5.trans f6
      refine w_join (SqL.of h6) ?_ (by omega)
      obtain ⟨t, ht⟩ : ∃ t, t = ts.flatten := ⟨_, rfl⟩
      rw [← ht] at e2 e3
      rw [← ht]
      have lt := e3
      have zt : t.length ≤ 11 := by omega
      clear ht h6 ges hs
      walk_at "v"
      refine w_if (fun h => ?_) (fun h => ?_)
      · walk_at "v"
        refine ⟨p, D, l, t, _, rfl, b6, by omega, g6, z3, ll, Ne.symm nD, lt, by omega, fun u H7 lu zu b7 f7 => ?_⟩
        walk_at "v"
        refine ⟨p, u, _, rfl, b7, by omega, by omega, lu, fun v H8 cv lv' b8 f8 => ?_⟩
        have zv := cv.len
        walk_at "v"
        refine ⟨by walk_at "sz", fun e he => ?_⟩
        have F := (F6.trans (f7.trans f8)).new he hb.has (o := .lst [.str (tx t), .str (tx v)])
        exact q t v e _ lt lv' (by omega) (by omega) ((b8.upd (b8.ne he)).le (by omega)) F (Ne.symm (b8.ne he)) upd_same
      · walk_at "v"
        refine w_if (fun h => ?_) (fun h => ?_)
        · walk_at "v"
          refine take_w (N := 3) rfl b6 (by omega) fun k7 H7 hk7 b7 f7 => ?_
          walk_at "v"
          obtain ⟨x, hx⟩ : ∃ x, x = t.take (1 + (k7 : Int)).toNat := ⟨_, rfl⟩
          have lx : Let x := by rw [hx]; exact lt.take _
          have zx : x.length ≤ 11 := by rw [hx, List.length_take]; omega
          rw [← hx]
          refine w_mulSN (u := 2) ?_ ⟨by omega, by omega, by omega⟩
          have ly : Let (List.replicate 2 x).flatten := by
            simp only [List.replicate_succ, List.replicate_zero, List.flatten_cons, List.flatten_nil, List.append_nil]
            exact lx.app lx
          have zy : (List.replicate 2 x).flatten.length ≤ 22 := by
            simp only [List.replicate_succ, List.replicate_zero, List.flatten_cons, List.flatten_nil, List.append_nil, List.length_append]
            omega
          obtain ⟨y, hy⟩ : ∃ y, y = (List.replicate 2 x).flatten := ⟨_, rfl⟩
          rw [← hy] at ly zy
          rw [← hy]
          walk_at "v"
          refine ⟨p, y, _, rfl, b7, by omega, by omega, ly, fun v H8 cv lv' b8 f8 => ?_⟩
          have zv := cv.len
          walk_at "v"
          refine ⟨by walk_at "sz", fun e he => ?_⟩
          have F := (F6.trans (f7.trans f8)).new he hb.has (o := .lst [.str (tx t), .str (tx v)])
          exact q t v e _ lt lv' (by omega) (by omega) ((b8.upd (b8.ne he)).le (by omega)) F (Ne.symm (b8.ne he)) upd_same
        · walk_at "v"
          refine w_if (fun h => ?_) (fun h => ?_)
          · walk_at "v"
            refine ⟨by walk_at "sz", fun e2 n2 => ?_⟩
            have n2p : e2 ≠ p := Ne.symm (b6.ne n2)
            walk_at "v"
            refine take_w (N := 2) rfl (b6.upd (b6.ne n2)) (by omega) fun k2 H7 hk2 b7 f7 => ?_
            have ge2 := f7 _ _ upd_same n2p
            have F7 := (F6.new n2 hb.has).trans f7
            have hu : ∃ u : List Nat, ([.str (tx t), .str (tx [])] : List V)[k2]? = some (.str (tx u)) ∧ Let u ∧ u.length ≤ 20 := by
              match k2, hk2 with
              | 0, _ => exact ⟨t, rfl, lt, by omega⟩
              | 1, _ => exact ⟨[], rfl, Let.nil, by simp⟩
            obtain ⟨u, hu, lu, zu⟩ := hu
            walk_at "v"
            refine ⟨by walk_at "sz", fun e he => ?_⟩
            have F := F7.new he hb.has (o := .lst [.str (tx t), .str (tx u)])
            exact q t u e _ lt lu (by omega) (by omega) ((b7.upd (b7.ne he)).le (by omega)) F (Ne.symm (b7.ne he)) upd_same
          · walk_at "v"
            refine take_w (N := 7) rfl b6 (by omega) fun n8 H7 hn8 b7 f7 => ?_
            have g7 := f7 _ _ g6 (Ne.symm nD)
            have F7 := F6.trans f7
            walk_at "v"
            intro D3 hD3
            have nD3 := b7.ne hD3
            have nDD3 : D ≠ D3 := ne_of_none g7 hD3
            refine lc_rg (n := n8) (by omega) (Drawn H7 p D3 (c + 30)) (Drawn.start (b7.le (by omega)) hD3) ?_ ?_
            · rintro i H8 hi ⟨ts, e1, e2, e3, b8, f8, h8⟩
              have g8 := f8 _ _ g7 (Ne.symm nD)
              walk_at "v"
              refine take_w (N := 3) rfl b8 (by omega) fun k7 H9 hk7 b9 f9 => ?_
              obtain ⟨c7, q7⟩ := ex_get (l := l) (k := k7) (by omega)
              have q7' := ltL_at q7
              have g9 := f9 _ _ g8 (Ne.symm nD)
              have h9 := f9 _ _ h8 (Ne.symm nD3)
              walk_at "v"
              refine ⟨ts ++ [[c7]], ?_, ?_, ?_, (b9.le (by omega)).upd nD3, SL.Fr.grow (SL.Fr.refl _ _) hD3 nD3 (f8.trans f9), ?_⟩
              · rw [List.length_append, e1]; rfl
              · rw [List.flatten_append, List.length_append, e2]; rfl
              · rw [List.flatten_append]; exact e3.app (by simpa using ll.one q7)
              · rw [upd_same, List.map_append]; rfl
            · rintro H8 ⟨ts, e1, e2, e3, b8, f8, h8⟩
              refine w_join (SqL.of h8) ?_ (by omega)
              walk_at "v"
              refine ⟨by walk_at "sz", fun e he => ?_⟩
              have F := (F7.trans f8).new he hb.has (o := .lst [.str (tx t), .str (tx ts.flatten)])
              exact q t ts.flatten e _ lt e3 (by omega) (by omega) ((b8.upd (b8.ne he)).le (by omega)) F (Ne.symm (b8.ne he)) upd_same
end
end K09
set_option Elab.async false
set_option linter.all false
set_option maxRecDepth 100000
set_option maxHeartbeats 4000000
namespace K09
open PySem PySem.Spec PyProof.Rows L2 SL Lv
local macro_rules | `(tactic| walk_at "sz") => `(tactic| first
  | assumption
  | omega
  | (simp only [List.length_cons, List.length_nil, List.length_append, List.length_map, List.length_take, List.length_drop, List.length_reverse, List.length_replicate, List.length_range, tx_len, sizeLine_eq, CMul, CDiv, Nat.reduceAdd, Nat.reduceLeDiff]; first | done | omega)
  | decide)
local macro_rules | `(tactic| walk_at "ne") => `(tactic| first
  | assumption
  | exact Ne.symm (by assumption)
  | (refine ne_of_none (H := ?H0) (o := ?oo) ?hh ?hn; (case hn => assumption); (case hh => walk_at "hget"))
  | (refine Ne.symm (ne_of_none (H := ?H0) (o := ?oo) ?hh ?hn); (case hn => assumption); (case hh => walk_at "hget")))
local macro_rules | `(tactic| walk_at "hget") => `(tactic| first
  | assumption
  | exact upd_same
  | (refine (upd_ne ?n).trans ?g; (case n => walk_at "ne"); (case g => walk_at "hget"))
  | (refine fr_get (p := ?pp) (H := ?H0) ?f ?g ?n; (case f => assumption); (case g => walk_at "hget"); (case n => walk_at "ne"))
  | (refine same_get (H := ?H0) ?f ?g; (case f => assumption); (case g => walk_at "hget")))
local macro_rules | `(tactic| walk_at "vget") => `(tactic| first
  | assumption
  | (refine SqL.of ?g; (case g => walk_at "hget"))
  | (refine SqT.of ?g; (case g => walk_at "hget"))
  | (refine sql_new ?n ?g; (case n => assumption); (case g => walk_at "vget"))
  | (refine sqt_new ?n ?g; (case n => assumption); (case g => walk_at "vget"))
  | (refine sql_upd ?n ?g; (case n => walk_at "ne"); (case g => walk_at "vget"))
  | (refine sqt_upd ?n ?g; (case n => walk_at "ne"); (case g => walk_at "vget"))
  | (refine Same.seq (H := ?H0) ?f ?g; (case f => assumption); (case g => walk_at "vget"))
  | (refine Same.seqT (H := ?H0) ?f ?g; (case f => assumption); (case g => walk_at "vget"))
  | (refine fr_sql (b := ?pp) (H := ?H0) ?f ?g ?n; (case f => assumption); (case g => walk_at "vget"); (case n => walk_at "ne"))
  | (refine fr_sqt (b := ?pp) (H := ?H0) ?f ?g ?n; (case f => assumption); (case g => walk_at "vget"); (case n => walk_at "ne")))
local macro_rules | `(tactic| walk_at "at") => `(tactic| first
  | assumption
  | rfl
  | (refine atI_n ?h; (case h => first | assumption | rfl))
  | (refine atI_i ?h0 ?h; (case h0 => omega); (case h => first | assumption | rfl)))
local macro_rules | `(tactic| walk_at "v1") => `(tactic| first
  | with_reducible refine w_seq ?_
  | with_reducible refine w_enx ?_
  | with_reducible refine w_ert ?_
  | with_reducible refine w_asg ?_
  | ((with_reducible refine w_var (v := ?vv) ?h ?_); (case h => exact rfl))
  | with_reducible refine w_op ?_
  | with_reducible refine w_c ?_
  | with_reducible refine w_cons ?_
  | with_reducible refine w_nil ?_
  | with_reducible refine w_cb ?_
  | with_reducible refine w_call ?_
  | with_reducible refine w_k ?_
  | with_reducible refine w_i ?_
  | with_reducible refine w_two ?_
  | ((with_reducible refine w_name ?_); (try simp only [List.set_cons_zero, List.set_cons_succ]))
  | with_reducible refine w_ifS ?_
  | with_reducible refine w_ret ?_
  | with_reducible refine w_drop ?_
  | with_reducible refine w_test ?_
  | with_reducible refine w_B ?_
  | with_reducible refine iteT ?_
  | with_reducible refine iteF ?_
  | with_reducible refine w_same ?_
  | ((with_reducible refine w_ifT ?h ?_); (case h => first | rfl | assumption))
  | ((with_reducible refine w_ifF ?h ?_); (case h => first | rfl | assumption))
  | ((with_reducible refine w_diff ?_ ?h); (case h => decide +kernel))
  | ((with_reducible refine w_wp ?h ?_); (case h => rfl); (try simp only [wipe, List.set_cons_zero, List.set_cons_succ, List.foldl_cons, List.foldl_nil]))
  | ((with_reducible refine w_acc (acc := ?aa) ?h ?_ ?z); (case h => walk_at "hget"); (case z => walk_at "sz"))
  | with_reducible refine w_addI ?_
  | with_reducible refine w_subI ?_
  | with_reducible refine w_lt ?_
  | with_reducible refine w_le ?_
  | with_reducible refine w_gt ?_
  | with_reducible refine w_ge ?_
  | with_reducible refine w_eqI ?_
  | with_reducible refine w_neI ?_
  | with_reducible refine w_eqS ?_
  | with_reducible refine w_neS ?_
  | with_reducible refine w_neB ?_
  | ((with_reducible refine w_mulI ?_ ?h); (case h => walk_at "sz"))
  | ((with_reducible refine w_divI ?_ ?h); (case h => walk_at "sz"))
  | ((with_reducible refine w_addS ?_ ?h); (case h => walk_at "sz"))
  | ((with_reducible refine w_mulS ?_ ?h); (case h => walk_at "sz"))
  | ((with_reducible refine w_ixL (xs := ?xx) (v := ?vv) ?h ?i ?_); (case h => walk_at "vget"); (case i => walk_at "at"))
  | ((with_reducible refine w_ixT (xs := ?xx) (v := ?vv) ?h ?i ?_); (case h => walk_at "vget"); (case i => walk_at "at"))
  | ((with_reducible refine w_ixS (c := ?cc) ?i ?_ ?h); (case i => walk_at "at"); (case h => walk_at "sz"))
  | ((with_reducible refine w_lenS' ?_ ?h); (case h => walk_at "sz"))
  | ((with_reducible refine w_lenL' (xs := ?xx) ?h ?_); (case h => walk_at "vget"))
  | ((with_reducible refine w_lenT' (xs := ?xx) ?h ?_); (case h => walk_at "vget"))
  | with_reducible refine w_isnN ?_
  | with_reducible refine w_isnI ?_
  | with_reducible refine w_isnS ?_
  | with_reducible refine w_isnR ?_
  | with_reducible refine w_isnB ?_
  | with_reducible refine w_isoN ?_
  | with_reducible refine w_isoI ?_
  | with_reducible refine w_isoS ?_
  | with_reducible refine w_isoR ?_
  | with_reducible refine w_isoB ?_
  | with_reducible refine w_abs ?_
  | with_reducible refine w_int ?_
  | with_reducible refine w_intB ?_
  | with_reducible refine w_min2 ?_
  | with_reducible refine w_max2 ?_
  | with_reducible refine w_min3 ?_
  | with_reducible refine w_sl ?_
  | with_reducible refine w_np ?_
  | with_reducible refine w_part ?_
  | ((with_reducible refine w_sStN ?_ ?h); (case h => walk_at "sz"))
  | ((with_reducible refine w_sSfN ?_ ?h); (case h => walk_at "sz"))
  | ((with_reducible refine w_sSt ?_ ?h); (case h => walk_at "sz"))
  | ((with_reducible refine w_sSf ?_ ?h); (case h => walk_at "sz"))
  | with_reducible refine w_and ?_
  | with_reducible refine w_or ?_
  | with_reducible refine w_not ?_
  | with_reducible refine w_andV ?_
  | with_reducible refine w_orV ?_
  | with_reducible refine w_notV ?_
  | with_reducible refine w_ifE ?_
  | with_reducible refine w_tup ?_
  | with_reducible refine w_lst ?_
  | with_reducible refine w_chain ?_
  | ((with_reducible refine w_par ?_); (try simp only [List.set_cons_zero, List.set_cons_succ]))
  | ((with_reducible refine w_par3 ?_); (try simp only [List.set_cons_zero, List.set_cons_succ]))
  | with_reducible refine w_three ?_
  | with_reducible refine w_un ?_
  | with_reducible refine w_neg ?_
  | with_reducible refine w_next ?_
  | with_reducible refine w_ebk ?_
  | with_reducible refine w_ect ?_
  | with_reducible refine w_for ?_
  | with_reducible refine w_lc ?_
  | with_reducible refine w_yes ?_
  | with_reducible refine w_il ?_
  | with_reducible refine w_it ?_
  | with_reducible refine w_isx ?_
  | with_reducible refine w_ir1 ?_
  | with_reducible refine w_ir2 ?_
  | with_reducible refine w_ies ?_
  | with_reducible refine w_ir3 ?_
  | with_reducible refine w_s1 ?_
  | with_reducible refine w_s1l ?_
  | ((with_reducible refine w_r1 ?_ ?h); (case h => walk_at "sz"))
  | ((with_reducible refine w_r2 ?_ ?h); (case h => walk_at "sz"))
  | ((with_reducible refine w_l1 (xs := ?xx) ?h ?_); (case h => walk_at "vget"))
  | ((with_reducible refine w_t1 (xs := ?xx) ?h ?_); (case h => walk_at "vget"))
  | ((with_reducible refine w_isL (xs := ?xx) ?h ?_); (case h => walk_at "vget"))
  | with_reducible refine w_isS ?_
  | ((with_reducible refine w_app (xs := ?xx) ?h ?_ ?z); (case h => walk_at "hget"); (case z => walk_at "sz"))
  | with_reducible refine w_inC ?_
  | with_reducible refine w_rev ?_
  | ((with_reducible refine w_rev1S ?_ ?h); (case h => walk_at "sz"))
  | with_reducible refine w_lrg ?_
  | with_reducible refine w_brk ?_
  | with_reducible refine w_cont ?_
  | with_reducible refine w_retN ?_
  | with_reducible refine w_bm ?_
  | with_reducible refine w_bm0 ?_
  | with_reducible refine w_m1 ?_
  | with_reducible refine w_sub ?_
  | ((with_reducible refine w_setL (xs := ?xx) (j := ?jj) ?h ?i ?_); (case h => walk_at "hget"); (case i => first | rfl | assumption); (try simp only [Int.reduceToNat, List.set_cons_zero, List.set_cons_succ]))
  | with_reducible refine w_ip ?_
  | with_reducible refine w_gnil ?_
  | with_reducible refine w_gcons ?_
  | ((with_reducible refine w_gL (xs := ?xx) ?h ?_ ?n); (case h => walk_at "vget"); (case n => rfl))
  | ((with_reducible refine w_gT (xs := ?xx) ?h ?_ ?n); (case h => walk_at "vget"); (case n => rfl))
  | ((with_reducible refine w_aug (v := ?vv) ?h ?_); (case h => exact rfl)))
local macro_rules | `(tactic| walk_at "v") => `(tactic| repeat walk_at "v1")
local macro_rules | `(tactic| walk_at "v0") => `(tactic| (simp only [L2.start, cxK, ends_rt, List.map_cons, List.map_nil, List.length_cons, List.length_nil, Nat.reduceAdd, Nat.reduceSub, List.replicate_succ, List.replicate_zero, List.append_nil, List.cons_append, List.nil_append]; walk_at "v"))
local macro_rules | `(tactic| walk_at "u1") => `(tactic| first
  | with_reducible refine w_seqA ?_
  | with_reducible refine w_seqD ?_
  | with_reducible refine w_seqP ?_
  | with_reducible refine w_seqP3 ?_
  | with_reducible refine w_seqG ?_
  | ((fail_if_success (with_reducible refine w_seq ?_)); walk_at "v1"))
local macro_rules | `(tactic| walk_at "u") => `(tactic| repeat walk_at "u1")
local macro_rules | `(tactic| walk_at "u0") => `(tactic| (simp only [L2.start, cxK, ends_rt, List.map_cons, List.map_nil, List.length_cons, List.length_nil, Nat.reduceAdd, Nat.reduceSub, List.replicate_succ, List.replicate_zero, List.append_nil, List.cons_append, List.nil_append]; walk_at "u"))
local macro_rules | `(tactic| walk_at "t1") => `(tactic| ((fail_if_success (with_reducible refine w_seq ?_)); walk_at "v1"))
local macro_rules | `(tactic| walk_at "t") => `(tactic| repeat walk_at "t1")

section
variable {P : Program} {w : World} {K : PySem.W.Frag} {mg : Str → Option Value} {base : Heap}
def rowL (x y : List Nat) (i n : Nat) : List V := (List.range n).map fun j => V.int (dl x y i j : Nat)
theorem rowL_len (x y : List Nat) (i n : Nat) : (rowL x y i n).length = n := by unfold rowL; rw [List.length_map, List.length_range]
theorem rowL_at (x y : List Nat) {i n j : Nat} (h : j < n) : (rowL x y i n)[j]? = some (.int (dl x y i j : Nat)) := by
  unfold rowL
  rw [List.getElem?_map, List.getElem?_range h]
  rfl
/-- the first j of the new row, the others of the old one -/
def mixL (x y : List Nat) (i j n : Nat) : List V := (List.range n).map fun k => V.int ((if k < j then dl x y (i + 1) k else dl x y i k : Nat) : Int)
theorem mixL_len (x y : List Nat) (i j n : Nat) : (mixL x y i j n).length = n := by unfold mixL; rw [List.length_map, List.length_range]
theorem mixL_new (x y : List Nat) {i j n k : Nat} (h : k < n) (hj : k < j) : (mixL x y i j n)[k]? = some (.int (dl x y (i + 1) k : Nat)) := by
  unfold mixL
  rw [List.getElem?_map, List.getElem?_range h]
  show some (V.int ((if k < j then dl x y (i + 1) k else dl x y i k : Nat) : Int)) = _
  rw [if_pos hj]
theorem mixL_old (x y : List Nat) {i j n k : Nat} (h : k < n) (hj : ¬ k < j) : (mixL x y i j n)[k]? = some (.int (dl x y i k : Nat)) := by
  unfold mixL
  rw [List.getElem?_map, List.getElem?_range h]
  show some (V.int ((if k < j then dl x y (i + 1) k else dl x y i k : Nat) : Int)) = _
  rw [if_neg hj]
theorem mixL_0 (x y : List Nat) (i n : Nat) : mixL x y i 0 n = rowL x y i n := by
  unfold mixL rowL
  exact List.map_congr_left fun k _ => by rw [if_neg (by omega)]
theorem mixL_n (x y : List Nat) (i n : Nat) : mixL x y i n n = rowL x y (i + 1) n := by
  unfold mixL rowL
  exact List.map_congr_left fun k hk => by rw [if_pos (List.mem_range.mp hk)]
theorem mixL_set (x y : List Nat) {i j n : Nat} (h : j < n) : (mixL x y i j n).set j (.int (dl x y (i + 1) j : Nat)) = mixL x y i (j + 1) n := by
  apply List.ext_getElem?
  intro k
  rw [List.getElem?_set]
  by_cases hk : k < n
  · by_cases e : j = k
    · subst e
      rw [if_pos rfl, if_pos (by rw [mixL_len]; exact h), mixL_new x y h (by omega)]
    · rw [if_neg e]
      by_cases hj : k < j
      · rw [mixL_new x y hk hj, mixL_new x y hk (by omega)]
      · rw [mixL_old x y hk hj, mixL_old x y hk (by omega)]
  · rw [if_neg (by omega), List.getElem?_eq_none (by rw [mixL_len]; omega), List.getElem?_eq_none (by rw [mixL_len]; omega)]
def spTable : Sp := fun vs H Q _ => ∃ l m : List Nat, vs = [.str (tx l), .str (tx m)] ∧ l.length ≤ 100000 ∧ m.length ≤ 100000 ∧ ∀ H', Same H H' → Q (.int (lev l m : Nat)) H'
theorem ok__law_table (T : Txt K mg) : Cal P w K mg base 1 "_law_table" ["first", "second"] spTable := by
  refine cal0 T.d__law_table sc__law_table (by rintro vs H Q E ⟨l, m, rfl, _⟩; rfl) (fun cdv f A outer s H vs Q E hr hgd h => ?_)
  obtain ⟨l, m, rfl, zl, zm, q⟩ := h
  refine ⟨_, (pss_cons (ps_set (i := 2) sc__law_table.nd rfl (by first | exact Or.inl rfl | exact Or.inr rfl) (pe_listRg rfl (by rfl) T.n_list (prg_1 (by rfl) T.n_range (pe_op (kAdd K rfl) (pe_callB (kLen K rfl) (by rfl) T.n_len (by decide +kernel) (pa_cons (pv 1) pa_nil)) pe_int))))
  (pss_cons (ps_for PassesOwn.never rfl (pi_range1 (by rfl) T.n_range (pa_cons (pe_callB (kLen K rfl) (by rfl) T.n_len (by decide +kernel) (pa_cons (pv 0) pa_nil)) pa_nil)) (pg_name (i := 3) sc__law_table.nd rfl (by first | exact Or.inl rfl | exact Or.inr rfl))
  (pss_cons (ps_asg (pe_tup (pa_cons (pe_ix (kIx K rfl) (pv 2) pe_int (fun _ _ => rfl)) (pa_cons (pe_op (kAdd K rfl) (pv 3) pe_int) pa_nil))) (kTup K rfl (n := 2) (by rfl) (pgs_cons (pg_name (i := 5) sc__law_table.nd rfl (by first | exact Or.inl rfl | exact Or.inr rfl)) (pgs_cons (pg_sub (pv 2) pe_int set_list) pgs_nil))))
  (pss_one (ps_for PassesOwn.never rfl (pi_range1 (by rfl) T.n_range (pa_cons (pe_callB (kLen K rfl) (by rfl) T.n_len (by decide +kernel) (pa_cons (pv 1) pa_nil)) pa_nil)) (pg_name (i := 4) sc__law_table.nd rfl (by first | exact Or.inl rfl | exact Or.inr rfl))
  (pss_cons (ps_set (i := 6) sc__law_table.nd rfl (by first | exact Or.inl rfl | exact Or.inr rfl) (pe_op (kAdd K rfl) (pv 5) (pe_callTy uInt (by rfl) T.n_int (by decide +kernel) (pa_cons (pe_cmpR (kNe K rfl hr) (pe_ix (kIx K rfl) (pv 0) (pv 3) (fun _ _ => rfl)) (pe_ix (kIx K rfl) (pv 1) (pv 4) (fun _ _ => rfl)) (nomark _)) pa_nil))))
  (pss_cons (ps_set (i := 5) sc__law_table.nd rfl (by first | exact Or.inl rfl | exact Or.inr rfl) (pe_ix (kIx K rfl) (pv 2) (pe_op (kAdd K rfl) (pv 4) pe_int) (fun _ _ => rfl)))
  (pss_one (ps_asg (pe_callB (uMin3 rfl) (by rfl) T.n_min (by decide +kernel) (pa_cons (pv 6) (pa_cons (pe_op (kAdd K rfl) (pe_ix (kIx K rfl) (pv 2) (pv 4) (fun _ _ => rfl)) pe_int) (pa_cons (pe_op (kAdd K rfl) (pv 5) pe_int) pa_nil)))) (pg_sub (pv 2) (pe_op (kAdd K rfl) (pv 4) pe_int) set_list)))))))))
  (pss_one (ps_ret (pe_ix (kIx K rfl) (pv 2) (pe_un un_neg pe_int) (fun _ _ => rfl)))))), ?_⟩
  walk_at "v0"
  refine ⟨by refine ⟨?_, ?_, ?_, ?_⟩ <;> omega, fun r hr => ?_⟩
  rw [show rgV 0 ((m.length : Int) + 1) = rowL l m 0 (m.length + 1) by
    rw [show (m.length : Int) + 1 = ((m.length + 1 : Nat) : Int) by omega, rgV_n]
    unfold rowL
    exact List.map_congr_left fun i _ => by rw [dl_0]]
  walk_at "v"
  refine for_rg (n := l.length) (by omega) (fun i σ H' => ∃ a b c d, σ = [some (.str (tx l)), some (.str (tx m)), some (.ref r), a, b, c, d] ∧ Same H H' ∧ H' r = some (.lst (rowL l m i (m.length + 1)))) ⟨_, _, _, _, rfl, same_new hr, upd_same⟩ ?_ ?_
  · rintro i σ H1 hi ⟨a, b, c, d, rfl, s1, h1⟩
    have g0 := rowL_at l m (i := i) (j := 0) (n := m.length + 1) (by omega)
    have e0 : atI (rowL l m i (m.length + 1)) 0 = some (.int (dl l m i 0 : Nat)) := atI_n (n := 0) g0
    have e1 : ixN (rowL l m i (m.length + 1)).length 0 = some 0 := ixn (j := 0) (by rw [rowL_len]; omega)
    walk_at "v"
    refine ⟨by walk_at "sz", fun f hf => ?_⟩
    have nf : r ≠ f := ne_of_none h1 hf
    walk_at "v"
    have e2 : (rowL l m i (m.length + 1)).set 0 (.int ((i : Int) + 1)) = mixL l m i 1 (m.length + 1) := by
      rw [← mixL_0, ← mixL_set l m (i := i) (j := 0) (n := m.length + 1) (by omega), dl_r0]
      rfl
    rw [e2]
    refine for_rg (n := m.length) (by omega) (fun j σ H' => ∃ b d, σ = [some (.str (tx l)), some (.str (tx m)), some (.ref r), some (.int i), b, some (.int (dl l m i j : Nat)), d] ∧ Same H H' ∧ H' r = some (.lst (mixL l m i (j + 1) (m.length + 1)))) ⟨_, _, rfl, ?_, upd_same⟩ ?_ ?_
    · exact Same.grow (s1.trans (same_new hf)) hr
    · rintro j σ H2 hj ⟨b, d, rfl, s2, h2⟩
      have g1 : atI (mixL l m i (j + 1) (m.length + 1)) ((j : Int) + 1) = some (.int (dl l m i (j + 1) : Nat)) := by
        rw [show (j : Int) + 1 = ((j + 1 : Nat) : Int) by omega]
        exact atI_n (mixL_old l m (by omega) (by omega))
      have g2 := mixL_new l m (i := i) (j := j + 1) (k := j) (n := m.length + 1) (by omega) (by omega)
      have g3 : ixN (mixL l m i (j + 1) (m.length + 1)).length ((j : Int) + 1) = some (j + 1) := by
        rw [show (j : Int) + 1 = ((j + 1 : Nat) : Int) by omega]
        exact ixn (by rw [mixL_len]; omega)
      have g4 := get_of hi
      have g5 := get_of hj
      walk_at "v"
      rw [un_eq g4 g5]
      refine ⟨_, _, rfl, Same.grow s2 hr, ?_⟩
      rw [upd_same, ← mixL_set l m (i := i) (j := j + 1) (n := m.length + 1) (by omega), dl_s]
      exact congrArg (fun z => some (HO.lst ((mixL l m i (j + 1) (m.length + 1)).set (j + 1) (V.int z)))) (by omega)
    · rintro σ H2 ⟨b, d, rfl, s2, h2⟩
      walk_at "v"
      exact ⟨_, _, _, _, rfl, s2, by rw [← mixL_n]; exact h2⟩
  · rintro σ H1 ⟨a, b, c, d, rfl, s1, h1⟩
    have z1 := rowL_len l m l.length (m.length + 1)
    have g : atI (rowL l m l.length (m.length + 1)) (-1) = some (.int (lev l m : Nat)) := atI_last (by rw [z1]; exact rowL_at l m (by omega))
    walk_at "v"
    exact q _ s1
/-- whole numbers from 0 on -/
def spLeast : Sp := fun vs H Q _ => ∃ l m : List Nat, vs = [.str (tx l), .str (tx m)] ∧ l.length ≤ 1000 ∧ m.length ≤ 1000 ∧ ∀ (p : Nat) H', IsC l m p → Same H H' → Q (.int (p : Int)) H'
theorem ok__law_least (T : Txt K mg) (c__law_table : Cal P w K mg base 1 "_law_table" ["first", "second"] spTable) : Cal P w K mg base 2 "_law_least" ["first", "second"] spLeast := by
  refine cal0 T.d__law_least sc__law_least (by rintro vs H Q E ⟨l, m, rfl, _⟩; rfl) (fun cdv f A outer s H vs Q E hr hgd h => ?_)
  obtain ⟨l, m, rfl, zl, zm, q⟩ := h
  refine ⟨_, (pss_one (ps_ret (pe_callB (kMin K rfl rfl) (by rfl) T.n_min (by decide +kernel) (pa_cons (pe_lc (own := [("at", 2)]) rfl sc__law_least.nd (pi_range1 (by rfl) T.n_range (pa_cons (pe_callB (uMax2 rfl) (by rfl) T.n_max (by decide +kernel) (pa_cons pe_int (pa_cons (pe_callB (kLen K rfl) (by rfl) T.n_len (by decide +kernel) (pa_cons (pv 1) pa_nil)) pa_nil))) pa_nil)) (blkOk_by (own := [("at", 2)]) (N := N__law_least) (sc := defScope s__law_least) (by decide +kernel)) (fun _ _ _ _ _ => (pg_name (i := 2) sc__law_least.nd rfl (by first | exact Or.inl rfl | exact Or.inr rfl))) (fun _ _ _ _ _ => pts_nil) (fun _ _ _ _ _ => (pe_g c__law_table hr (by decide) hgd (by rfl) noX (pa_cons (pv 0) (pa_cons (pe_op (kAdd K rfl) (pe_slice (kSl K rfl) (pv 1) (po_some (pv 2)) po_none) (pe_slice (kSl K rfl) (pv 1) po_none (po_some (pv 2)))) pa_nil))))) pa_nil)))), ?_⟩
  walk_at "v0"
  obtain ⟨n, hn, hn2⟩ : ∃ n : Nat, (if (m.length : Int) > 1 then (m.length : Int) else 1) = (n : Int) ∧ n = max 1 m.length := ⟨max 1 m.length, by split <;> omega, rfl⟩
  rw [hn]
  intro D hD
  refine lc_rg (n := n) (by omega) (fun i H' => Same H H' ∧ H' D = some (.lst (((List.range i).map fun k => ((lev l (m.drop k ++ m.take k) : Nat) : Int)).map V.int))) ⟨same_new hD, upd_same⟩ ?_ ?_
  · rintro i H1 hi ⟨s1, h1⟩
    walk_at "v"
    refine ⟨l, m.drop i ++ m.take i, ?_, by omega, ?_, fun H2 s2 => ?_⟩
    · first | rfl | (rw [Int.toNat_natCast])
    · rw [List.length_append, List.length_drop, List.length_take]; omega
    have h2 := s2 _ _ h1
    walk_at "v"
    refine ⟨Same.grow (s1.trans s2) hD, ?_⟩
    rw [upd_same, List.range_succ, List.map_append, List.map_append]
    rfl
  · rintro H1 ⟨s1, h1⟩
    refine w_minL (SqL.of h1) (by rw [List.length_map, List.length_range]; omega) fun b hb hb2 => ?_
    obtain ⟨k, hk, rfl⟩ := List.mem_map.mp hb
    have hk := List.mem_range.mp hk
    walk_at "v"
    refine q (lev l (m.drop k ++ m.take k)) _ (isC_of hn2 ⟨k, hk, rfl⟩ fun j hj => ?_) s1
    have := hb2 _ (List.mem_map.mpr ⟨j, List.mem_range.mpr hj, rfl⟩)
    omega
end
end K09
set_option Elab.async false
set_option linter.all false
set_option maxRecDepth 100000
set_option maxHeartbeats 4000000
namespace K09
open PySem PySem.Spec PyProof.Rows L2 SL Lv
local macro_rules | `(tactic| walk_at "sz") => `(tactic| first
  | assumption
  | omega
  | (simp only [List.length_cons, List.length_nil, List.length_append, List.length_map, List.length_take, List.length_drop, List.length_reverse, List.length_replicate, List.length_range, tx_len, sizeLine_eq, CMul, CDiv, Nat.reduceAdd, Nat.reduceLeDiff]; first | done | omega)
  | decide)
local macro_rules | `(tactic| walk_at "ne") => `(tactic| first
  | assumption
  | exact Ne.symm (by assumption)
  | (refine ne_of_none (H := ?H0) (o := ?oo) ?hh ?hn; (case hn => assumption); (case hh => walk_at "hget"))
  | (refine Ne.symm (ne_of_none (H := ?H0) (o := ?oo) ?hh ?hn); (case hn => assumption); (case hh => walk_at "hget")))
local macro_rules | `(tactic| walk_at "hget") => `(tactic| first
  | assumption
  | exact upd_same
  | (refine (upd_ne ?n).trans ?g; (case n => walk_at "ne"); (case g => walk_at "hget"))
  | (refine fr_get (p := ?pp) (H := ?H0) ?f ?g ?n; (case f => assumption); (case g => walk_at "hget"); (case n => walk_at "ne"))
  | (refine same_get (H := ?H0) ?f ?g; (case f => assumption); (case g => walk_at "hget")))
local macro_rules | `(tactic| walk_at "vget") => `(tactic| first
  | assumption
  | (refine SqL.of ?g; (case g => walk_at "hget"))
  | (refine SqT.of ?g; (case g => walk_at "hget"))
  | (refine sql_new ?n ?g; (case n => assumption); (case g => walk_at "vget"))
  | (refine sqt_new ?n ?g; (case n => assumption); (case g => walk_at "vget"))
  | (refine sql_upd ?n ?g; (case n => walk_at "ne"); (case g => walk_at "vget"))
  | (refine sqt_upd ?n ?g; (case n => walk_at "ne"); (case g => walk_at "vget"))
  | (refine Same.seq (H := ?H0) ?f ?g; (case f => assumption); (case g => walk_at "vget"))
  | (refine Same.seqT (H := ?H0) ?f ?g; (case f => assumption); (case g => walk_at "vget"))
  | (refine fr_sql (b := ?pp) (H := ?H0) ?f ?g ?n; (case f => assumption); (case g => walk_at "vget"); (case n => walk_at "ne"))
  | (refine fr_sqt (b := ?pp) (H := ?H0) ?f ?g ?n; (case f => assumption); (case g => walk_at "vget"); (case n => walk_at "ne")))
local macro_rules | `(tactic| walk_at "at") => `(tactic| first
  | assumption
  | rfl
  | (refine atI_n ?h; (case h => first | assumption | rfl))
  | (refine atI_i ?h0 ?h; (case h0 => omega); (case h => first | assumption | rfl)))
local macro_rules | `(tactic| walk_at "v1") => `(tactic| first
  | with_reducible refine w_seq ?_
  | with_reducible refine w_enx ?_
  | with_reducible refine w_ert ?_
  | with_reducible refine w_asg ?_
  | ((with_reducible refine w_var (v := ?vv) ?h ?_); (case h => exact rfl))
  | with_reducible refine w_op ?_
  | with_reducible refine w_c ?_
  | with_reducible refine w_cons ?_
  | with_reducible refine w_nil ?_
  | with_reducible refine w_cb ?_
  | with_reducible refine w_call ?_
  | with_reducible refine w_k ?_
  | with_reducible refine w_i ?_
  | with_reducible refine w_two ?_
  | ((with_reducible refine w_name ?_); (try simp only [List.set_cons_zero, List.set_cons_succ]))
  | with_reducible refine w_ifS ?_
  | with_reducible refine w_ret ?_
  | with_reducible refine w_drop ?_
  | with_reducible refine w_test ?_
  | with_reducible refine w_B ?_
  | with_reducible refine iteT ?_
  | with_reducible refine iteF ?_
  | with_reducible refine w_same ?_
  | ((with_reducible refine w_ifT ?h ?_); (case h => first | rfl | assumption))
  | ((with_reducible refine w_ifF ?h ?_); (case h => first | rfl | assumption))
  | ((with_reducible refine w_diff ?_ ?h); (case h => decide +kernel))
  | ((with_reducible refine w_wp ?h ?_); (case h => rfl); (try simp only [wipe, List.set_cons_zero, List.set_cons_succ, List.foldl_cons, List.foldl_nil]))
  | ((with_reducible refine w_acc (acc := ?aa) ?h ?_ ?z); (case h => walk_at "hget"); (case z => walk_at "sz"))
  | with_reducible refine w_addI ?_
  | with_reducible refine w_subI ?_
  | with_reducible refine w_lt ?_
  | with_reducible refine w_le ?_
  | with_reducible refine w_gt ?_
  | with_reducible refine w_ge ?_
  | with_reducible refine w_eqI ?_
  | with_reducible refine w_neI ?_
  | with_reducible refine w_eqS ?_
  | with_reducible refine w_neS ?_
  | with_reducible refine w_neB ?_
  | ((with_reducible refine w_mulI ?_ ?h); (case h => walk_at "sz"))
  | ((with_reducible refine w_divI ?_ ?h); (case h => walk_at "sz"))
  | ((with_reducible refine w_addS ?_ ?h); (case h => walk_at "sz"))
  | ((with_reducible refine w_mulS ?_ ?h); (case h => walk_at "sz"))
  | ((with_reducible refine w_ixL (xs := ?xx) (v := ?vv) ?h ?i ?_); (case h => walk_at "vget"); (case i => walk_at "at"))
  | ((with_reducible refine w_ixT (xs := ?xx) (v := ?vv) ?h ?i ?_); (case h => walk_at "vget"); (case i => walk_at "at"))
  | ((with_reducible refine w_ixS (c := ?cc) ?i ?_ ?h); (case i => walk_at "at"); (case h => walk_at "sz"))
  | ((with_reducible refine w_lenS' ?_ ?h); (case h => walk_at "sz"))
  | ((with_reducible refine w_lenL' (xs := ?xx) ?h ?_); (case h => walk_at "vget"))
  | ((with_reducible refine w_lenT' (xs := ?xx) ?h ?_); (case h => walk_at "vget"))
  | with_reducible refine w_isnN ?_
  | with_reducible refine w_isnI ?_
  | with_reducible refine w_isnS ?_
  | with_reducible refine w_isnR ?_
  | with_reducible refine w_isnB ?_
  | with_reducible refine w_isoN ?_
  | with_reducible refine w_isoI ?_
  | with_reducible refine w_isoS ?_
  | with_reducible refine w_isoR ?_
  | with_reducible refine w_isoB ?_
  | with_reducible refine w_abs ?_
  | with_reducible refine w_int ?_
  | with_reducible refine w_intB ?_
  | with_reducible refine w_min2 ?_
  | with_reducible refine w_max2 ?_
  | with_reducible refine w_min3 ?_
  | with_reducible refine w_sl ?_
  | with_reducible refine w_np ?_
  | with_reducible refine w_part ?_
  | ((with_reducible refine w_sStN ?_ ?h); (case h => walk_at "sz"))
  | ((with_reducible refine w_sSfN ?_ ?h); (case h => walk_at "sz"))
  | ((with_reducible refine w_sSt ?_ ?h); (case h => walk_at "sz"))
  | ((with_reducible refine w_sSf ?_ ?h); (case h => walk_at "sz"))
  | with_reducible refine w_and ?_
  | with_reducible refine w_or ?_
  | with_reducible refine w_not ?_
  | with_reducible refine w_andV ?_
  | with_reducible refine w_orV ?_
  | with_reducible refine w_notV ?_
  | with_reducible refine w_ifE ?_
  | with_reducible refine w_tup ?_
  | with_reducible refine w_lst ?_
  | with_reducible refine w_chain ?_
  | ((with_reducible refine w_par ?_); (try simp only [List.set_cons_zero, List.set_cons_succ]))
  | ((with_reducible refine w_par3 ?_); (try simp only [List.set_cons_zero, List.set_cons_succ]))
  | with_reducible refine w_three ?_
  | with_reducible refine w_un ?_
  | with_reducible refine w_neg ?_
  | with_reducible refine w_next ?_
  | with_reducible refine w_ebk ?_
  | with_reducible refine w_ect ?_
  | with_reducible refine w_for ?_
  | with_reducible refine w_lc ?_
  | with_reducible refine w_yes ?_
  | with_reducible refine w_il ?_
  | with_reducible refine w_it ?_
  | with_reducible refine w_isx ?_
  | with_reducible refine w_ir1 ?_
  | with_reducible refine w_ir2 ?_
  | with_reducible refine w_ies ?_
  | with_reducible refine w_ir3 ?_
  | with_reducible refine w_s1 ?_
  | with_reducible refine w_s1l ?_
  | ((with_reducible refine w_r1 ?_ ?h); (case h => walk_at "sz"))
  | ((with_reducible refine w_r2 ?_ ?h); (case h => walk_at "sz"))
  | ((with_reducible refine w_l1 (xs := ?xx) ?h ?_); (case h => walk_at "vget"))
  | ((with_reducible refine w_t1 (xs := ?xx) ?h ?_); (case h => walk_at "vget"))
  | ((with_reducible refine w_isL (xs := ?xx) ?h ?_); (case h => walk_at "vget"))
  | with_reducible refine w_isS ?_
  | ((with_reducible refine w_app (xs := ?xx) ?h ?_ ?z); (case h => walk_at "hget"); (case z => walk_at "sz"))
  | with_reducible refine w_inC ?_
  | with_reducible refine w_rev ?_
  | ((with_reducible refine w_rev1S ?_ ?h); (case h => walk_at "sz"))
  | with_reducible refine w_lrg ?_
  | with_reducible refine w_brk ?_
  | with_reducible refine w_cont ?_
  | with_reducible refine w_retN ?_
  | with_reducible refine w_bm ?_
  | with_reducible refine w_bm0 ?_
  | with_reducible refine w_m1 ?_
  | with_reducible refine w_sub ?_
  | ((with_reducible refine w_setL (xs := ?xx) (j := ?jj) ?h ?i ?_); (case h => walk_at "hget"); (case i => first | rfl | assumption); (try simp only [Int.reduceToNat, List.set_cons_zero, List.set_cons_succ]))
  | with_reducible refine w_ip ?_
  | with_reducible refine w_gnil ?_
  | with_reducible refine w_gcons ?_
  | ((with_reducible refine w_gL (xs := ?xx) ?h ?_ ?n); (case h => walk_at "vget"); (case n => rfl))
  | ((with_reducible refine w_gT (xs := ?xx) ?h ?_ ?n); (case h => walk_at "vget"); (case n => rfl))
  | ((with_reducible refine w_aug (v := ?vv) ?h ?_); (case h => exact rfl)))
local macro_rules | `(tactic| walk_at "v") => `(tactic| repeat walk_at "v1")
local macro_rules | `(tactic| walk_at "v0") => `(tactic| (simp only [L2.start, cxK, ends_rt, List.map_cons, List.map_nil, List.length_cons, List.length_nil, Nat.reduceAdd, Nat.reduceSub, List.replicate_succ, List.replicate_zero, List.append_nil, List.cons_append, List.nil_append]; walk_at "v"))
local macro_rules | `(tactic| walk_at "u1") => `(tactic| first
  | with_reducible refine w_seqA ?_
  | with_reducible refine w_seqD ?_
  | with_reducible refine w_seqP ?_
  | with_reducible refine w_seqP3 ?_
  | with_reducible refine w_seqG ?_
  | ((fail_if_success (with_reducible refine w_seq ?_)); walk_at "v1"))
local macro_rules | `(tactic| walk_at "u") => `(tactic| repeat walk_at "u1")
local macro_rules | `(tactic| walk_at "u0") => `(tactic| (simp only [L2.start, cxK, ends_rt, List.map_cons, List.map_nil, List.length_cons, List.length_nil, Nat.reduceAdd, Nat.reduceSub, List.replicate_succ, List.replicate_zero, List.append_nil, List.cons_append, List.nil_append]; walk_at "u"))
local macro_rules | `(tactic| walk_at "t1") => `(tactic| ((fail_if_success (with_reducible refine w_seq ?_)); walk_at "v1"))
local macro_rules | `(tactic| walk_at "t") => `(tactic| repeat walk_at "t1")

section
variable {P : Program} {w : World} {K : PySem.W.Frag} {mg : Str → Option Value} {base : Heap}
def shD (d : Nat) : Str := (PyData.list [.str (tx wTold), .int (d : Int)]).shown
theorem told_ok : ∀ k : Fin 1001, okD (.list [.str (tx wTold), .int (k.val : Int)]) = true := by decide +kernel
theorem sh_d {H : Hp} {r : Addr} {d : Nat} (h : H r = some (.lst [.str (tx wTold), .int (d : Int)])) (z : d ≤ 1000) : Shown K H (.ref r) (shD d) :=
  (Dv.lst h (.cons (.str _) (.cons (.int _) .nil))).shown (told_ok ⟨d, by omega⟩)
theorem met_p {H : Hp} {Q : VK} {E : XK} {i : Int} {wh : Nat} {l m : List Nat} {d : Nat} (e : i = (wh : Nat)) (zl : l.length ≤ 1000) (zm : m.length ≤ 1000) (ll : Let l) (lm : Let m) (hd : IsC l m d) (q : Say Q H wTold (.int (d : Int))) : spMet K [.int i, .str (tx l), .str (tx m)] H Q E := by
  subst e
  exact ⟨wh, _, _, true, true, rfl, .inl ⟨l, rfl, by omega, (decide_eq_true ll).symm⟩, .inl ⟨m, rfl, by omega, (decide_eq_true lm).symm⟩, (fun h => nomatch h), (fun _ h => nomatch h), fun _ _ => ⟨l, m, rfl, by omega, rfl, by omega, fun p hp => by rw [hp.uniq hd]; exact q⟩⟩
def spRight : Sp := fun vs H Q _ => ∃ (p : Addr) (l m : List Nat) (c : Nat), vs = [.ref p, .str (tx l), .str (tx m)] ∧ Box H p c ∧ c ≤ 1000000 ∧ Let l ∧ Let m ∧ l.length ≤ 40 ∧ m.length ≤ 40 ∧
  ∀ H', Box H' p (c + 100) → SL.Fr p H H' → Q (.bl true) H'
theorem ok__law_right (T : Txt K mg) (c__law_take : Cal P w K mg base 1 "_law_take" ["box", "many"] spTake) (c__law_table : Cal P w K mg base 1 "_law_table" ["first", "second"] spTable) (c__law_least : Cal P w K mg base 2 "_law_least" ["first", "second"] spLeast) (c__law_turned : Cal P w K mg base 2 "_law_turned" ["box", "text"] spTurned)
    (c_round_price : Cal P w K mg base 5 "round_price" ["one", "other"] (spPriceX K (errAt mg "InvalidText")))
    (c__law_met : Cal P w K mg base 6 "_law_met" ["which", "first", "second"] (spMet K)) : Cal P w K mg base 7 "_law_right" ["box", "first", "second"] spRight := by
  refine cal0 T.d__law_right sc__law_right (by rintro vs H Q E ⟨p, l, m, c, rfl, _⟩; rfl) (fun cdv f A outer s H vs Q E hr hgd h => ?_)
  obtain ⟨p, l, m, c, rfl, hb, hc, ll, lm, zl, zm, q⟩ := h
  refine ⟨_, (pss_cons (ps_set (i := 3) sc__law_right.nd rfl (by first | exact Or.inl rfl | exact Or.inr rfl) (pe_g c__law_least hr (by decide) hgd (by rfl) noX (pa_cons (pv 1) (pa_cons (pv 2) pa_nil))))
  (pss_cons (ps_par (i := 6) (j := 7) (by rfl) sc__law_right.nd rfl rfl (by decide) rfl rfl (pa_cons (pe_callB (kReprD K rfl hr hgd) (by rfl) T.n_repr (by decide +kernel) (pa_cons (pe_lst (pa_cons (pe_tx [116, 111, 108, 100] (by decide +kernel)) (pa_cons (pv 3) pa_nil))) pa_nil)) (pa_cons (pe_g c__law_take hr (by decide) hgd (by rfl) noX (pa_cons (pv 0) (pa_cons pe_int pa_nil))) pa_nil)) (by rfl))
  (pss_cons (ps_if (PW.pt (pw_or (pt_cmpR (kNe K rfl hr) (pe_callB (kReprD K rfl hr hgd) (by rfl) T.n_repr (by decide +kernel) (pa_cons (pe_g c__law_met hr (by decide) hgd (by rfl) noX (pa_cons (pv 7) (pa_cons (pv 1) (pa_cons (pv 2) pa_nil)))) pa_nil)) (pv 6) (nomark _)) (pw_or1 (pt_cmpR (kNe K rfl hr) (pe_callB (kReprD K rfl hr hgd) (by rfl) T.n_repr (by decide +kernel) (pa_cons (pe_g c__law_met hr (by decide) hgd (by rfl) noX (pa_cons (pe_op uSub pe_int (pv 7)) (pa_cons (pv 2) (pa_cons (pv 1) pa_nil)))) pa_nil)) (pv 6) (nomark _))))) (pss_one (ps_ret pe_bl)) pss_nil)
  (pss_cons (ps_if (pt_cmpR (kNe K rfl hr) (pe_callB (kReprD K rfl hr hgd) (by rfl) T.n_repr (by decide +kernel) (pa_cons (pe_g c__law_met hr (by decide) hgd (by rfl) noX (pa_cons (pv 7) (pa_cons (pe_g c__law_turned hr (by decide) hgd (by rfl) noX (pa_cons (pv 0) (pa_cons (pv 1) pa_nil))) (pa_cons (pe_g c__law_turned hr (by decide) hgd (by rfl) noX (pa_cons (pv 0) (pa_cons (pv 2) pa_nil))) pa_nil)))) pa_nil)) (pv 6) (nomark _)) (pss_one (ps_ret pe_bl)) pss_nil)
  (pss_cons (ps_set (i := 4) sc__law_right.nd rfl (by first | exact Or.inl rfl | exact Or.inr rfl) (pe_g c_round_price hr (by decide) hgd (by rfl) noX (pa_cons (pv 1) (pa_cons (pv 2) pa_nil))))
  (pss_cons (ps_for PassesOwn.never rfl (pi_range2 (by rfl) T.n_range (pa_cons pe_int (pa_cons (pe_ifExp (pt_cmpR uLt (pe_callB (kLen K rfl) (by rfl) T.n_len (by decide +kernel) (pa_cons (pv 1) pa_nil)) pe_int (nomark _)) pe_int pe_int) pa_nil))) (pg_name (i := 5) sc__law_right.nd rfl (by first | exact Or.inl rfl | exact Or.inr rfl))
  (pss_cons (ps_set (i := 8) sc__law_right.nd rfl (by first | exact Or.inl rfl | exact Or.inr rfl) (pe_g c__law_table hr (by decide) hgd (by rfl) noX (pa_cons (pe_op uMul (pv 1) (pv 5)) (pa_cons (pe_op uMul (pv 2) (pv 5)) pa_nil))))
  (pss_one (ps_if (PW.pt (pw_or (pt_cmpR uLt (pv 8) (pe_op uMul (pv 5) (pv 4)) (nomark _)) (pw_or1 (pt_cmpR uGt (pv 8) (pe_op (kAdd K rfl) (pe_op (kAdd K rfl) (pe_op uMul (pe_op uSub (pv 5) pe_int) (pv 4)) (pe_callB (kLen K rfl) (by rfl) T.n_len (by decide +kernel) (pa_cons (pv 1) pa_nil))) (pe_callB (kLen K rfl) (by rfl) T.n_len (by decide +kernel) (pa_cons (pv 2) pa_nil))) (nomark _))))) (pss_one (ps_ret pe_bl)) pss_nil))))
  (pss_one (ps_ret (pe_cmpR (kEq K rfl hr) (pe_callB (kReprD K rfl hr hgd) (by rfl) T.n_repr (by decide +kernel) (pa_cons (pe_g c__law_met hr (by decide) hgd (by rfl) noX (pa_cons pe_int (pa_cons (pv 1) (pa_cons (pe_g c__law_turned hr (by decide) hgd (by rfl) noX (pa_cons (pv 0) (pa_cons (pv 1) pa_nil))) pa_nil)))) pa_nil)) (pe_callB (kReprD K rfl hr hgd) (by rfl) T.n_repr (by decide +kernel) (pa_cons (pe_lst (pa_cons (pe_tx [116, 111, 108, 100] (by decide +kernel)) (pa_cons pe_int pa_nil))) pa_nil)) (nomark _)))))))))), ?_⟩
  walk_at "v0"
  refine ⟨l, m, rfl, by omega, by omega, fun d H1 hd s1 => ?_⟩
  have zd : d ≤ 80 := by have := hd.up; omega
  walk_at "v"
  refine ⟨by walk_at "sz", fun e2 n2 => ?_⟩
  walk_at "v"
  refine w_reprD (sh_d upd_same (by omega)) ?_
  have b2 := (hb.same s1).upd (o := .lst [.str (tx wTold), .int (d : Int)]) ((hb.same s1).ne n2)
  have F2 := (Fr.of s1).new n2 hb.has (o := .lst [.str (tx wTold), .int (d : Int)])
  walk_at "v"
  refine take_w (N := 2) rfl b2 (by omega) fun t H3 ht b3 f3 => ?_
  walk_at "v"
  refine met_p (wh := t) rfl (by omega) (by omega) ll lm hd fun r4 H4 s4 n4 h4 => ?_
  walk_at "v"
  refine w_reprD (sh_d h4 (by omega)) ?_
  walk_at "v"
  refine w_ifF (by simp) ?_
  walk_at "v"
  refine met_p (wh := 1 - t) (by omega) (by omega) (by omega) lm ll hd.symm fun r5 H5 s5 n5 h5 => ?_
  walk_at "v"
  refine w_reprD (sh_d h5 (by omega)) ?_
  walk_at "v"
  refine w_ifF (by simp) ?_
  have b5 := (b3.same s4).same s5
  walk_at "v"
  refine ⟨p, l, _, rfl, b5, by omega, by omega, ll, fun l1 H6 c6 ll1 b6 f6 => ?_⟩
  walk_at "v"
  refine ⟨p, m, _, rfl, b6, by omega, by omega, lm, fun m1 H7 c7 lm1 b7 f7 => ?_⟩
  walk_at "v"
  refine met_p (wh := t) rfl (by have := c6.len; omega) (by have := c7.len; omega) ll1 lm1 (hd.turn c6 c7) fun r8 H8 s8 n8 h8 => ?_
  walk_at "v"
  refine w_reprD (sh_d h8 (by omega)) ?_
  walk_at "v"
  refine w_ifF (by simp) ?_
  have b8 := b7.same s8
  have F8 := F2.trans (f3.trans ((Fr.of (s4.trans s5)).trans (f6.trans (f7.trans (Fr.of s8)))))
  walk_at "v"
  refine ⟨_, _, true, true, rfl, .inl ⟨l, rfl, by omega, (decide_eq_true ll).symm⟩, .inl ⟨m, rfl, by omega, (decide_eq_true lm).symm⟩, (fun h => nomatch h), (fun _ h => nomatch h), fun _ _ => ⟨l, m, rfl, by omega, rfl, by omega, fun d' H9 hd' s9 => ?_⟩⟩
  rw [hd'.uniq hd]
  have b9 := b8.same s9
  have F9 := F8.trans (Fr.of s9)
  walk_at "v"
  refine w_if (fun h => ?_) (fun h => ?_)
  · walk_at "v"
    refine for_rg2 (n := 3) (by omega) (fun i σ H' => ∃ x5 x8, σ = [some (.ref p), some (.str (tx l)), some (.str (tx m)), some (.int (d : Int)), some (.int (d : Int)), x5, some (.str (shD d)), some (.int (t : Int)), x8] ∧ Same H9 H') ⟨_, _, rfl, Same.refl _⟩ ?_ ?_
    · rintro i σ Z hi ⟨x5, x8, rfl, sZ⟩
      have low := hd.low (i + 1)
      have high := hd.high i
      have ei : (1 + (i : Int)).toNat = i + 1 := by omega
      walk_at "v"
      refine w_mulS ?_ ⟨by omega, by omega, by omega, ?_⟩
      rotate_left
      · rw [ei]
        have := Nat.mul_le_mul zl (show i + 1 ≤ 3 by omega)
        omega
      walk_at "v"
      refine w_mulS ?_ ⟨by omega, by omega, by omega, ?_⟩
      rotate_left
      · rw [ei]
        have := Nat.mul_le_mul zm (show i + 1 ≤ 3 by omega)
        omega
      rw [ei]
      have z1 := Rt.rds_len (i + 1) l
      have z2 := Rt.rds_len (i + 1) m
      have k1 := Nat.mul_le_mul (show i + 1 ≤ 3 by omega) zl
      have k2 := Nat.mul_le_mul (show i + 1 ≤ 3 by omega) zm
      walk_at "v"
      refine ⟨Rt.rds (i + 1) l, Rt.rds (i + 1) m, rfl, by omega, by omega, fun Z1 sZ1 => ?_⟩
      obtain ⟨far, hf⟩ : ∃ far, far = lev (Rt.rds (i + 1) l) (Rt.rds (i + 1) m) := ⟨_, rfl⟩
      rw [← hf] at low high
      rw [← hf]
      have e1 : (1 + (i : Int)) * (d : Int) = ((((i + 1) * d : Nat)) : Int) := by rw [Int.natCast_mul]; congr 1; omega
      have e2 : (1 + (i : Int) - 1) * (d : Int) = (((i * d : Nat)) : Int) := by rw [Int.natCast_mul]; congr 1; omega
      walk_at "v"
      rw [e1]
      walk_at "v"
      refine w_ifF (decide_eq_false (by omega)) ?_
      walk_at "v"
      rw [e2]
      walk_at "v"
      refine w_ifF (decide_eq_false (by omega)) ?_
      walk_at "v"
      exact ⟨_, _, rfl, sZ.trans sZ1⟩
    · rintro σ Z ⟨x5, x8, rfl, sZ⟩
      walk_at "v"
      refine ⟨p, l, _, rfl, b9.same sZ, by omega, by omega, ll, fun l2 Z1 c9 ll2 b10 f10 => ?_⟩
      walk_at "v"
      refine met_p (wh := 0) rfl (by omega) (by have := c9.len; omega) ll ll2 (isC_self c9) fun r11 Z2 s11 n11 h11 => ?_
      walk_at "v"
      refine w_reprD (sh_d h11 (by omega)) ?_
      walk_at "v"
      refine ⟨by walk_at "sz", fun e12 n12 => ?_⟩
      walk_at "v"
      refine w_reprD (sh_d (d := 0) upd_same (by omega)) ?_
      walk_at "v"
      rw [decide_eq_true rfl]
      exact q _ (((b10.same s11).upd ((b10.same s11).ne n12)).le (by omega)) (((F9.trans ((Fr.of sZ).trans (f10.trans (Fr.of s11)))).new n12 hb.has))
  · walk_at "v"
    refine for_rg2 (n := 1) (by omega) (fun i σ H' => ∃ x5 x8, σ = [some (.ref p), some (.str (tx l)), some (.str (tx m)), some (.int (d : Int)), some (.int (d : Int)), x5, some (.str (shD d)), some (.int (t : Int)), x8] ∧ Same H9 H') ⟨_, _, rfl, Same.refl _⟩ ?_ ?_
    · rintro i σ Z hi ⟨x5, x8, rfl, sZ⟩
      have low := hd.low (i + 1)
      have high := hd.high i
      have ei : (1 + (i : Int)).toNat = i + 1 := by omega
      walk_at "v"
      refine w_mulS ?_ ⟨by omega, by omega, by omega, ?_⟩
      rotate_left
      · rw [ei]
        have := Nat.mul_le_mul zl (show i + 1 ≤ 3 by omega)
        omega
      walk_at "v"
      refine w_mulS ?_ ⟨by omega, by omega, by omega, ?_⟩
      rotate_left
      · rw [ei]
        have := Nat.mul_le_mul zm (show i + 1 ≤ 3 by omega)
        omega
      rw [ei]
      have z1 := Rt.rds_len (i + 1) l
      have z2 := Rt.rds_len (i + 1) m
      have k1 := Nat.mul_le_mul (show i + 1 ≤ 3 by omega) zl
      have k2 := Nat.mul_le_mul (show i + 1 ≤ 3 by omega) zm
      walk_at "v"
      refine ⟨Rt.rds (i + 1) l, Rt.rds (i + 1) m, rfl, by omega, by omega, fun Z1 sZ1 => ?_⟩
      obtain ⟨far, hf⟩ : ∃ far, far = lev (Rt.rds (i + 1) l) (Rt.rds (i + 1) m) := ⟨_, rfl⟩
      rw [← hf] at low high
      rw [← hf]
      have e1 : (1 + (i : Int)) * (d : Int) = ((((i + 1) * d : Nat)) : Int) := by rw [Int.natCast_mul]; congr 1; omega
      have e2 : (1 + (i : Int) - 1) * (d : Int) = (((i * d : Nat)) : Int) := by rw [Int.natCast_mul]; congr 1; omega
      walk_at "v"
      rw [e1]
      walk_at "v"
      refine w_ifF (decide_eq_false (by omega)) ?_
      walk_at "v"
      rw [e2]
      walk_at "v"
      refine w_ifF (decide_eq_false (by omega)) ?_
      walk_at "v"
      exact ⟨_, _, rfl, sZ.trans sZ1⟩
    · rintro σ Z ⟨x5, x8, rfl, sZ⟩
      walk_at "v"
      refine ⟨p, l, _, rfl, b9.same sZ, by omega, by omega, ll, fun l2 Z1 c9 ll2 b10 f10 => ?_⟩
      walk_at "v"
      refine met_p (wh := 0) rfl (by omega) (by have := c9.len; omega) ll ll2 (isC_self c9) fun r11 Z2 s11 n11 h11 => ?_
      walk_at "v"
      refine w_reprD (sh_d h11 (by omega)) ?_
      walk_at "v"
      refine ⟨by walk_at "sz", fun e12 n12 => ?_⟩
      walk_at "v"
      refine w_reprD (sh_d (d := 0) upd_same (by omega)) ?_
      walk_at "v"
      rw [decide_eq_true rfl]
      exact q _ (((b10.same s11).upd ((b10.same s11).ne n12)).le (by omega)) (((F9.trans ((Fr.of sZ).trans (f10.trans (Fr.of s11)))).new n12 hb.has))
end
end K09
set_option Elab.async false
set_option linter.all false
set_option maxRecDepth 100000
set_option maxHeartbeats 4000000
namespace K09
open PySem PySem.Spec PyProof.Rows L2 SL Lv
local macro_rules | `(tactic| walk_at "sz") => `(tactic| first
  | assumption
  | omega
  | (simp only [List.length_cons, List.length_nil, List.length_append, List.length_map, List.length_take, List.length_drop, List.length_reverse, List.length_replicate, List.length_range, tx_len, sizeLine_eq, CMul, CDiv, Nat.reduceAdd, Nat.reduceLeDiff]; first | done | omega)
  | decide)
local macro_rules | `(tactic| walk_at "ne") => `(tactic| first
  | assumption
  | exact Ne.symm (by assumption)
  | (refine ne_of_none (H := ?H0) (o := ?oo) ?hh ?hn; (case hn => assumption); (case hh => walk_at "hget"))
  | (refine Ne.symm (ne_of_none (H := ?H0) (o := ?oo) ?hh ?hn); (case hn => assumption); (case hh => walk_at "hget")))
local macro_rules | `(tactic| walk_at "hget") => `(tactic| first
  | assumption
  | exact upd_same
  | (refine (upd_ne ?n).trans ?g; (case n => walk_at "ne"); (case g => walk_at "hget"))
  | (refine fr_get (p := ?pp) (H := ?H0) ?f ?g ?n; (case f => assumption); (case g => walk_at "hget"); (case n => walk_at "ne"))
  | (refine same_get (H := ?H0) ?f ?g; (case f => assumption); (case g => walk_at "hget")))
local macro_rules | `(tactic| walk_at "vget") => `(tactic| first
  | assumption
  | (refine SqL.of ?g; (case g => walk_at "hget"))
  | (refine SqT.of ?g; (case g => walk_at "hget"))
  | (refine sql_new ?n ?g; (case n => assumption); (case g => walk_at "vget"))
  | (refine sqt_new ?n ?g; (case n => assumption); (case g => walk_at "vget"))
  | (refine sql_upd ?n ?g; (case n => walk_at "ne"); (case g => walk_at "vget"))
  | (refine sqt_upd ?n ?g; (case n => walk_at "ne"); (case g => walk_at "vget"))
  | (refine Same.seq (H := ?H0) ?f ?g; (case f => assumption); (case g => walk_at "vget"))
  | (refine Same.seqT (H := ?H0) ?f ?g; (case f => assumption); (case g => walk_at "vget"))
  | (refine fr_sql (b := ?pp) (H := ?H0) ?f ?g ?n; (case f => assumption); (case g => walk_at "vget"); (case n => walk_at "ne"))
  | (refine fr_sqt (b := ?pp) (H := ?H0) ?f ?g ?n; (case f => assumption); (case g => walk_at "vget"); (case n => walk_at "ne")))
local macro_rules | `(tactic| walk_at "at") => `(tactic| first
  | assumption
  | rfl
  | (refine atI_n ?h; (case h => first | assumption | rfl))
  | (refine atI_i ?h0 ?h; (case h0 => omega); (case h => first | assumption | rfl)))
local macro_rules | `(tactic| walk_at "v1") => `(tactic| first
  | with_reducible refine w_seq ?_
  | with_reducible refine w_enx ?_
  | with_reducible refine w_ert ?_
  | with_reducible refine w_asg ?_
  | ((with_reducible refine w_var (v := ?vv) ?h ?_); (case h => exact rfl))
  | with_reducible refine w_op ?_
  | with_reducible refine w_c ?_
  | with_reducible refine w_cons ?_
  | with_reducible refine w_nil ?_
  | with_reducible refine w_cb ?_
  | with_reducible refine w_call ?_
  | with_reducible refine w_k ?_
  | with_reducible refine w_i ?_
  | with_reducible refine w_two ?_
  | ((with_reducible refine w_name ?_); (try simp only [List.set_cons_zero, List.set_cons_succ]))
  | with_reducible refine w_ifS ?_
  | with_reducible refine w_ret ?_
  | with_reducible refine w_drop ?_
  | with_reducible refine w_test ?_
  | with_reducible refine w_B ?_
  | with_reducible refine iteT ?_
  | with_reducible refine iteF ?_
  | with_reducible refine w_same ?_
  | ((with_reducible refine w_ifT ?h ?_); (case h => first | rfl | assumption))
  | ((with_reducible refine w_ifF ?h ?_); (case h => first | rfl | assumption))
  | ((with_reducible refine w_diff ?_ ?h); (case h => decide +kernel))
  | ((with_reducible refine w_wp ?h ?_); (case h => rfl); (try simp only [wipe, List.set_cons_zero, List.set_cons_succ, List.foldl_cons, List.foldl_nil]))
  | ((with_reducible refine w_acc (acc := ?aa) ?h ?_ ?z); (case h => walk_at "hget"); (case z => walk_at "sz"))
  | with_reducible refine w_addI ?_
  | with_reducible refine w_subI ?_
  | with_reducible refine w_lt ?_
  | with_reducible refine w_le ?_
  | with_reducible refine w_gt ?_
  | with_reducible refine w_ge ?_
  | with_reducible refine w_eqI ?_
  | with_reducible refine w_neI ?_
  | with_reducible refine w_eqS ?_
  | with_reducible refine w_neS ?_
  | with_reducible refine w_neB ?_
  | ((with_reducible refine w_mulI ?_ ?h); (case h => walk_at "sz"))
  | ((with_reducible refine w_divI ?_ ?h); (case h => walk_at "sz"))
  | ((with_reducible refine w_addS ?_ ?h); (case h => walk_at "sz"))
  | ((with_reducible refine w_mulS ?_ ?h); (case h => walk_at "sz"))
  | ((with_reducible refine w_ixL (xs := ?xx) (v := ?vv) ?h ?i ?_); (case h => walk_at "vget"); (case i => walk_at "at"))
  | ((with_reducible refine w_ixT (xs := ?xx) (v := ?vv) ?h ?i ?_); (case h => walk_at "vget"); (case i => walk_at "at"))
  | ((with_reducible refine w_ixS (c := ?cc) ?i ?_ ?h); (case i => walk_at "at"); (case h => walk_at "sz"))
  | ((with_reducible refine w_lenS' ?_ ?h); (case h => walk_at "sz"))
  | ((with_reducible refine w_lenL' (xs := ?xx) ?h ?_); (case h => walk_at "vget"))
  | ((with_reducible refine w_lenT' (xs := ?xx) ?h ?_); (case h => walk_at "vget"))
  | with_reducible refine w_isnN ?_
  | with_reducible refine w_isnI ?_
  | with_reducible refine w_isnS ?_
  | with_reducible refine w_isnR ?_
  | with_reducible refine w_isnB ?_
  | with_reducible refine w_isoN ?_
  | with_reducible refine w_isoI ?_
  | with_reducible refine w_isoS ?_
  | with_reducible refine w_isoR ?_
  | with_reducible refine w_isoB ?_
  | with_reducible refine w_abs ?_
  | with_reducible refine w_int ?_
  | with_reducible refine w_intB ?_
  | with_reducible refine w_min2 ?_
  | with_reducible refine w_max2 ?_
  | with_reducible refine w_min3 ?_
  | with_reducible refine w_sl ?_
  | with_reducible refine w_np ?_
  | with_reducible refine w_part ?_
  | ((with_reducible refine w_sStN ?_ ?h); (case h => walk_at "sz"))
  | ((with_reducible refine w_sSfN ?_ ?h); (case h => walk_at "sz"))
  | ((with_reducible refine w_sSt ?_ ?h); (case h => walk_at "sz"))
  | ((with_reducible refine w_sSf ?_ ?h); (case h => walk_at "sz"))
  | with_reducible refine w_and ?_
  | with_reducible refine w_or ?_
  | with_reducible refine w_not ?_
  | with_reducible refine w_andV ?_
  | with_reducible refine w_orV ?_
  | with_reducible refine w_notV ?_
  | with_reducible refine w_ifE ?_
  | with_reducible refine w_tup ?_
  | with_reducible refine w_lst ?_
  | with_reducible refine w_chain ?_
  | ((with_reducible refine w_par ?_); (try simp only [List.set_cons_zero, List.set_cons_succ]))
  | ((with_reducible refine w_par3 ?_); (try simp only [List.set_cons_zero, List.set_cons_succ]))
  | with_reducible refine w_three ?_
  | with_reducible refine w_un ?_
  | with_reducible refine w_neg ?_
  | with_reducible refine w_next ?_
  | with_reducible refine w_ebk ?_
  | with_reducible refine w_ect ?_
  | with_reducible refine w_for ?_
  | with_reducible refine w_lc ?_
  | with_reducible refine w_yes ?_
  | with_reducible refine w_il ?_
  | with_reducible refine w_it ?_
  | with_reducible refine w_isx ?_
  | with_reducible refine w_ir1 ?_
  | with_reducible refine w_ir2 ?_
  | with_reducible refine w_ies ?_
  | with_reducible refine w_ir3 ?_
  | with_reducible refine w_s1 ?_
  | with_reducible refine w_s1l ?_
  | ((with_reducible refine w_r1 ?_ ?h); (case h => walk_at "sz"))
  | ((with_reducible refine w_r2 ?_ ?h); (case h => walk_at "sz"))
  | ((with_reducible refine w_l1 (xs := ?xx) ?h ?_); (case h => walk_at "vget"))
  | ((with_reducible refine w_t1 (xs := ?xx) ?h ?_); (case h => walk_at "vget"))
  | ((with_reducible refine w_isL (xs := ?xx) ?h ?_); (case h => walk_at "vget"))
  | with_reducible refine w_isS ?_
  | ((with_reducible refine w_app (xs := ?xx) ?h ?_ ?z); (case h => walk_at "hget"); (case z => walk_at "sz"))
  | with_reducible refine w_inC ?_
  | with_reducible refine w_rev ?_
  | ((with_reducible refine w_rev1S ?_ ?h); (case h => walk_at "sz"))
  | with_reducible refine w_lrg ?_
  | with_reducible refine w_brk ?_
  | with_reducible refine w_cont ?_
  | with_reducible refine w_retN ?_
  | with_reducible refine w_bm ?_
  | with_reducible refine w_bm0 ?_
  | with_reducible refine w_m1 ?_
  | with_reducible refine w_sub ?_
  | ((with_reducible refine w_setL (xs := ?xx) (j := ?jj) ?h ?i ?_); (case h => walk_at "hget"); (case i => first | rfl | assumption); (try simp only [Int.reduceToNat, List.set_cons_zero, List.set_cons_succ]))
  | with_reducible refine w_ip ?_
  | with_reducible refine w_gnil ?_
  | with_reducible refine w_gcons ?_
  | ((with_reducible refine w_gL (xs := ?xx) ?h ?_ ?n); (case h => walk_at "vget"); (case n => rfl))
  | ((with_reducible refine w_gT (xs := ?xx) ?h ?_ ?n); (case h => walk_at "vget"); (case n => rfl))
  | ((with_reducible refine w_aug (v := ?vv) ?h ?_); (case h => exact rfl)))
local macro_rules | `(tactic| walk_at "v") => `(tactic| repeat walk_at "v1")
local macro_rules | `(tactic| walk_at "v0") => `(tactic| (simp only [L2.start, cxK, ends_rt, List.map_cons, List.map_nil, List.length_cons, List.length_nil, Nat.reduceAdd, Nat.reduceSub, List.replicate_succ, List.replicate_zero, List.append_nil, List.cons_append, List.nil_append]; walk_at "v"))
local macro_rules | `(tactic| walk_at "u1") => `(tactic| first
  | with_reducible refine w_seqA ?_
  | with_reducible refine w_seqD ?_
  | with_reducible refine w_seqP ?_
  | with_reducible refine w_seqP3 ?_
  | with_reducible refine w_seqG ?_
  | ((fail_if_success (with_reducible refine w_seq ?_)); walk_at "v1"))
local macro_rules | `(tactic| walk_at "u") => `(tactic| repeat walk_at "u1")
local macro_rules | `(tactic| walk_at "u0") => `(tactic| (simp only [L2.start, cxK, ends_rt, List.map_cons, List.map_nil, List.length_cons, List.length_nil, Nat.reduceAdd, Nat.reduceSub, List.replicate_succ, List.replicate_zero, List.append_nil, List.cons_append, List.nil_append]; walk_at "u"))
local macro_rules | `(tactic| walk_at "t1") => `(tactic| ((fail_if_success (with_reducible refine w_seq ?_)); walk_at "v1"))
local macro_rules | `(tactic| walk_at "t") => `(tactic| repeat walk_at "t1")

section
variable {P : Program} {w : World} {K : PySem.W.Frag} {mg : Str → Option Value} {base : Heap}
def zz : List Nat := [122]
def spOdd (K : PySem.W.Frag) : Sp := fun vs H Q _ => ∃ (p : Addr) (l : List Nat) (c : Nat), vs = [.ref p, .str (tx l)] ∧ Box H p c ∧ c ≤ 1000000 ∧ Let l ∧ l.length ≤ 40 ∧
  ∀ v H', Box H' p (c + 2) → SL.Fr p H H' → IsTx K (hide [p] H') v false → OddV zz (hide [p] H') v → Q v H'
theorem ok__law_odd (T : Txt K mg) (c__law_take : Cal P w K mg base 1 "_law_take" ["box", "many"] spTake) : Cal P w K mg base 2 "_law_odd" ["box", "text"] (spOdd K) := by
  refine cal0 T.d__law_odd sc__law_odd (by rintro vs H Q E ⟨p, l, c, rfl, _⟩; rfl) (fun cdv f A outer s H vs Q E hr hgd h => ?_)
  obtain ⟨p, l, c, rfl, hb, hc, ll, zl, q⟩ := h
  refine ⟨_, (pss_cons (ps_par (i := 2) (j := 3) (by rfl) sc__law_odd.nd rfl rfl (by decide) rfl rfl (pa_cons (pe_g c__law_take hr (by decide) hgd (by rfl) noX (pa_cons (pv 0) (pa_cons pe_int pa_nil))) (pa_cons (pe_g c__law_take hr (by decide) hgd (by rfl) noX (pa_cons (pv 0) (pa_cons (pe_op (kAdd K rfl) (pe_callB (kLen K rfl) (by rfl) T.n_len (by decide +kernel) (pa_cons (pv 1) pa_nil)) pe_int) pa_nil))) pa_nil)) (by rfl))
  (pss_cons (ps_if (pt_cmpR uLt (pv 2) pe_int (nomark _)) (pss_one (ps_ret (pe_op (kAdd K rfl) (pe_op (kAdd K rfl) (pe_slice (kSl K rfl) (pv 1) po_none (po_some (pv 3))) (pe_ix (kIx K rfl) (pe_lst (pa_cons (pe_tx [65] (by decide +kernel)) (pa_cons (pe_tx [123] (by decide +kernel)) (pa_cons (pe_tx [32] (by decide +kernel)) (pa_cons (pe_tx [48] (by decide +kernel)) (pa_cons (pe_tx [45] (by decide +kernel)) (pa_cons (pe_tx [90] (by decide +kernel)) (pa_cons (pe_tx [10] (by decide +kernel)) pa_nil)))))))) (pv 2) (fun _ _ => rfl))) (pe_slice (kSl K rfl) (pv 1) (po_some (pv 3)) po_none)))) pss_nil)
  (pss_one (ps_ret (pe_ix (kIx K rfl) (pe_lst (pa_cons pe_non (pa_cons pe_int (pa_cons pe_bl (pa_cons (pe_lst (pa_cons (pv 1) pa_nil)) (pa_cons (pe_tup (pa_cons (pv 1) (pa_cons (pe_tx [97] (by decide +kernel)) pa_nil))) (pa_cons pe_dnewK pa_nil))))))) (pe_op uSub (pv 2) pe_int) (fun _ _ => rfl)))))), ?_⟩
  walk_at "v0"
  refine take_w (N := 13) rfl hb (by omega) fun way H1 hw b1 f1 => ?_
  walk_at "v"
  refine take_w (N := l.length + 1) (by omega) b1 (by omega) fun at' H2 hat b2 f2 => ?_
  have F2 := f1.trans f2
  walk_at "v"
  refine w_if (fun h => ?_) (fun h => ?_)
  · have h := of_decide_eq_true h
    have hw7 : way < 7 := by omega
    walk_at "v"
    refine ⟨by walk_at "sz", fun e1 n1 => ?_⟩
    have hs : ∃ o : Nat, ([.str (tx [65]), .str (tx [123]), .str (tx [32]), .str (tx [48]), .str (tx [45]), .str (tx [90]), .str (tx [10])] : List V)[way]? = some (.str (tx [o])) ∧ ¬ Let [o] ∧ o < 128 := by
      match way, hw7 with
      | 0, _ => exact ⟨65, rfl, by decide, by decide⟩
      | 1, _ => exact ⟨123, rfl, by decide, by decide⟩
      | 2, _ => exact ⟨32, rfl, by decide, by decide⟩
      | 3, _ => exact ⟨48, rfl, by decide, by decide⟩
      | 4, _ => exact ⟨45, rfl, by decide, by decide⟩
      | 5, _ => exact ⟨90, rfl, by decide, by decide⟩
      | 6, _ => exact ⟨10, rfl, by decide, by decide⟩
    obtain ⟨o, hs, no, zo⟩ := hs
    walk_at "v"
    have zt : (l.take at' ++ [o] ++ l.drop at').length ≤ 1000 := by
      simp only [List.length_append, List.length_take, List.length_drop, List.length_singleton]
      omega
    have nt : ¬ Let (l.take at' ++ [o] ++ l.drop at') := fun h => no h.left.right
    have st : Sgn (l.take at' ++ [o] ++ l.drop at') := fun x hx => by
      rcases List.mem_append.mp hx with hx | hx
      · rcases List.mem_append.mp hx with hx | hx
        · exact (ll.take _).sgn x hx
        · rw [List.mem_singleton.mp hx]; omega
      · exact (ll.drop _).sgn x hx
    refine q _ _ (b2.upd (b2.ne n1)) (F2.new n1 hb.has) (.inl ⟨_, rfl, by omega, (decide_eq_false nt).symm⟩) (.inl ⟨_, .str _, ok_str st zt, by simp [kindD]⟩)
  · have h := of_decide_eq_false h
    obtain ⟨j, rfl⟩ : ∃ j, way = 7 + j := ⟨way - 7, by omega⟩
    have hj : j < 6 := by omega
    walk_at "v"
    refine ⟨by walk_at "sz", fun e1 n1 => ?_⟩
    walk_at "v"
    refine ⟨by walk_at "sz", fun e2 n2 => ?_⟩
    walk_at "v"
    refine fun e3 n3 => ?_
    walk_at "v"
    refine ⟨by walk_at "sz", fun e4 n4 => ?_⟩
    have p1 := b2.ne n1
    have B1 := b2.upd (o := .lst [.str (tx l)]) p1
    have p2 := B1.ne n2
    have B2 := B1.upd (o := .tup [.str (tx l), .str (tx [97])]) p2
    have p3 := B2.ne n3
    have B3 := B2.upd (o := .dK []) p3
    have p4 := B3.ne n4
    have FF := (((F2.new n1 hb.has (o := .lst [.str (tx l)])).new n2 hb.has (o := .tup [.str (tx l), .str (tx [97])])).new n3 hb.has (o := .dK [])).new n4 hb.has (o := .lst [.non, .int 5, .bl true, .ref e1, .ref e2, .ref e3])
    have BB := B3.upd (o := .lst [.non, .int 5, .bl true, .ref e1, .ref e2, .ref e3]) p4
    obtain ⟨M, hM⟩ : ∃ M, M = upd (upd (upd (upd H2 e1 (.lst [.str (tx l)])) e2 (.tup [.str (tx l), .str (tx [97])])) e3 (.dK [])) e4 (.lst [.non, .int 5, .bl true, .ref e1, .ref e2, .ref e3]) := ⟨_, rfl⟩
    rw [← hM] at FF BB
    have g4 : M e4 = some (.lst [.non, .int 5, .bl true, .ref e1, .ref e2, .ref e3]) := by rw [hM]; exact upd_same
    have g3 : M e3 = some (.dK []) := by rw [hM]; exact (same_new n4) _ _ upd_same
    have g2 : M e2 = some (.tup [.str (tx l), .str (tx [97])]) := by rw [hM]; exact (same_new n4) _ _ ((same_new n3) _ _ upd_same)
    have g1 : M e1 = some (.lst [.str (tx l)]) := by rw [hM]; exact (same_new n4) _ _ ((same_new n3) _ _ ((same_new n2) _ _ upd_same))
    rw [← hM]
    have i1 : e1 ∉ [p] := by simpa using Ne.symm p1
    have i2 : e2 ∉ [p] := by simpa using Ne.symm p2
    have i3 : e3 ∉ [p] := by simpa using Ne.symm p3
    have hz : Sgn zz := Let.sgn (l := zz) (by decide)
    have hv : ∃ v, ([.non, .int 5, .bl true, .ref e1, .ref e2, .ref e3] : List V)[j]? = some v ∧ IsTx K (hide [p] M) v false ∧ OddV zz (hide [p] M) v := by
      match j, hj with
      | 0, _ => exact ⟨_, rfl, .inr ⟨rfl, _, .base .non, by unfold SL.Kind; simp, by decide⟩, .inl ⟨_, .non, by decide +kernel, by decide⟩⟩
      | 1, _ => exact ⟨_, rfl, .inr ⟨rfl, _, .base (.int _), by unfold SL.Kind; simp, by decide⟩, .inl ⟨_, .int _, by decide +kernel, by decide⟩⟩
      | 2, _ => exact ⟨_, rfl, .inr ⟨rfl, _, .base (.bl _), by unfold SL.Kind; simp, by decide⟩, .inl ⟨_, .bl _, by decide +kernel, by decide⟩⟩
      | 3, _ => exact ⟨_, rfl, .inr ⟨rfl, _, .base (.lst (hide_get g1 i1)), by unfold SL.Kind; simp, by decide⟩, .inr ⟨e1, _, _, rfl, hide_get g1 i1, .str _, ok_listS ll.sgn (by omega) hz (by simp [zz])⟩⟩
      | 4, _ => exact ⟨_, rfl, .inr ⟨rfl, _, .base (.tup (hide_get g2 i2)), by unfold SL.Kind; simp, by decide⟩, .inl ⟨_, .tup (hide_get g2 i2) (.cons (.str _) (.cons (.str _) .nil)), ok_tupS ll.sgn (by omega) (Let.sgn (l := [97]) (by decide)) (by decide), by simp [kindD]⟩⟩
      | 5, _ => exact ⟨_, rfl, .inr ⟨rfl, _, .base (.dK (hide_get g3 i3)), by unfold SL.Kind; simp, by decide⟩, .inl ⟨_, .emp (hide_get g3 i3), by decide +kernel, by decide⟩⟩
    obtain ⟨v, hv, tv, ov⟩ := hv
    have hix : atI ([.non, .int 5, .bl true, .ref e1, .ref e2, .ref e3] : List V) (((7 + j : Nat) : Int) - 7) = some v := by
      rw [show ((7 + j : Nat) : Int) - 7 = ((j : Nat) : Int) by omega]
      exact atI_n hv
    walk_at "v"
    exact q _ _ BB FF tv ov
theorem hideF {p : Addr} {A B : Hp} (f : SL.Fr p A B) : Same (hide [p] A) B := hide_to fun b o h n => f b o h (by simpa using n)
theorem cp_txb {K : PySem.W.Frag} {z : List Nat} {H0 H : Hp} {v v' : V} {b : Bool} (h : Cp z H0 H v v') (s : Same H0 H) (t : IsTx K H0 v b) : IsTx K H v' b := by
  cases b with
  | false => exact cp_tx h s t
  | true =>
    rcases h with ⟨d, h1, h2, h3, rfl⟩ | ⟨a, x, d, r, rfl, h2, h3, h4, rfl, h6, h7⟩
    · exact t.mono s
    · rcases t with ⟨l, e, _⟩ | ⟨e, _⟩
      · cases e
      · cases e
def spRefR : Sp := fun vs H Q _ => ∃ (p : Addr) (l m : List Nat) (c : Nat), vs = [.ref p, .str (tx l), .str (tx m)] ∧ Box H p c ∧ c ≤ 900000 ∧ Let l ∧ Let m ∧ l.length ≤ 40 ∧ m.length ≤ 40 ∧
  ∀ H', Box H' p (c + 100) → SL.Fr p H H' → Q (.bl true) H'
theorem ok__law_refused_right (T : Txt K mg) (c__law_odd : Cal P w K mg base 2 "_law_odd" ["box", "text"] (spOdd K)) (c__law_met : Cal P w K mg base 6 "_law_met" ["which", "first", "second"] (spMet K)) :
    Cal P w K mg base 7 "_law_refused_right" ["box", "first", "second"] spRefR := by
  refine cal0 T.d__law_refused_right sc__law_refused_right (by rintro vs H Q E ⟨p, l, m, c, rfl, _⟩; rfl) (fun cdv f A outer s H vs Q E hr hgd h => ?_)
  obtain ⟨p, l, m, c, rfl, hb, hc, ll, lm, zl, zm, q⟩ := h
  refine ⟨_, (pss_cons (ps_par (i := 4) (j := 5) (by rfl) sc__law_refused_right.nd rfl rfl (by decide) rfl rfl (pa_cons (pe_g c__law_odd hr (by decide) hgd (by rfl) noX (pa_cons (pv 0) (pa_cons (pv 1) pa_nil))) (pa_cons (pe_g c__law_odd hr (by decide) hgd (by rfl) noX (pa_cons (pv 0) (pa_cons (pv 2) pa_nil))) pa_nil)) (by rfl))
  (pss_cons (ps_for PassesOwn.never rfl (pi_range1 (by rfl) T.n_range (pa_cons pe_int pa_nil)) (pg_name (i := 3) sc__law_refused_right.nd rfl (by first | exact Or.inl rfl | exact Or.inr rfl))
  (pss_one (ps_for PassesOwn.never rfl (kiList K rfl (pe_lst (pa_cons (pe_lst (pa_cons (pv 4) (pa_cons (pv 2) (pa_cons pe_int pa_nil)))) (pa_cons (pe_lst (pa_cons (pv 1) (pa_cons (pv 5) (pa_cons pe_int pa_nil)))) (pa_cons (pe_lst (pa_cons (pv 4) (pa_cons (pv 5) (pa_cons pe_int pa_nil)))) pa_nil))))) (pg_name (i := 6) sc__law_refused_right.nd rfl (by first | exact Or.inl rfl | exact Or.inr rfl))
  (pss_cons (ps_setLc (i := 7) (own := [("value", 10)]) rfl sc__law_refused_right.nd rfl rfl (sw_true rfl rfl rfl (by decide +kernel)) (kiList K rfl (pe_slice (kSl K rfl) (pv 6) po_none (po_some pe_int))) (blkOk_by (own := [("value", 10)]) (N := N__law_refused_right) (sc := defScope s__law_refused_right) (by decide +kernel)) (fun _ _ _ _ _ => (pg_name (i := 10) sc__law_refused_right.nd rfl (by first | exact Or.inl rfl | exact Or.inr rfl))) (fun _ _ _ _ _ => pts_nil) (fun _ _ _ _ _ => (pe_ifExp (pt_val (pe_callB (kIsi K rfl) (by rfl) T.n_isinstance (by decide +kernel) (pa_cons (pv 10) (pa_cons (pe_bltn (v := .ty "list") (by rfl) T.n_list (by decide +kernel) rfl) pa_nil)))) (pe_callTy (kList K rfl) (by rfl) T.n_list (by decide +kernel) (pa_cons (pv 10) pa_nil)) (pv 10))))
  (pss_cons (ps_set (i := 8) sc__law_refused_right.nd rfl (by first | exact Or.inl rfl | exact Or.inr rfl) (pe_g c__law_met hr (by decide) hgd (by rfl) noX (pa_cons (pv 3) (pa_cons (pe_ix (kIx K rfl) (pv 7) pe_int (fun _ _ => rfl)) (pa_cons (pe_ix (kIx K rfl) (pv 7) pe_int (fun _ _ => rfl)) pa_nil)))))
  (pss_cons (ps_set (i := 9) sc__law_refused_right.nd rfl (by first | exact Or.inl rfl | exact Or.inr rfl) (pe_ix (kIx K rfl) (pv 7) (pe_ix (kIx K rfl) (pv 6) pe_int (fun _ _ => rfl)) (fun _ _ => rfl)))
  (pss_cons (ps_if (pt_val (pe_callB (kIsi K rfl) (by rfl) T.n_isinstance (by decide +kernel) (pa_cons (pv 9) (pa_cons (pe_bltn (v := .ty "list") (by rfl) T.n_list (by decide +kernel) rfl) pa_nil)))) (pss_one (ps_expr (kBm K rfl PySem.F.plainAttrs_list PySem.F.slot_list_append PySem.F.type_list_append mt_append (pv 9) (pa_cons (pe_tx [122] (by decide +kernel)) pa_nil)))) pss_nil)
  (pss_one (ps_if (PW.pt (pw_or (pt_cmpR (kNe K rfl hr) (pe_ix (kIx K rfl) (pv 8) pe_int (fun _ _ => rfl)) (pe_tx [116, 101, 120, 116] (by decide +kernel)) (nomark _)) (pw_or1 (pt_cmpR (kNe K rfl hr) (pe_callB (kReprD K rfl hr hgd) (by rfl) T.n_repr (by decide +kernel) (pa_cons (pe_ix (kIx K rfl) (pv 8) pe_int (fun _ _ => rfl)) pa_nil)) (pe_callB (kReprD K rfl hr hgd) (by rfl) T.n_repr (by decide +kernel) (pa_cons (pv 9) pa_nil)) (nomark _))))) (pss_one (ps_ret pe_bl)) pss_nil)))))))))
  (pss_one (ps_ret pe_bl)))), ?_⟩
  walk_at "v0"
  refine ⟨p, l, _, rfl, hb, by omega, ll, zl, fun v1 H1 b1 f1 t1 o1 => ?_⟩
  walk_at "v"
  refine ⟨p, m, _, rfl, b1, by omega, lm, zm, fun v2 H0 b0 f0 t2 o2 => ?_⟩
  have F0 := f1.trans f0
  have t1 := t1.mono (hideF f0)
  have o1 := o1.mono (hideF f0)
  have t2 := t2.mono (hideF (SL.Fr.refl p H0))
  have o2 := o2.mono (hideF (SL.Fr.refl p H0))
  have ol : ∀ {Z : Hp}, OddV zz Z (.str (tx l)) := fun {Z} => .inl ⟨_, .str l, ok_str ll.sgn (by omega), by simp [kindD]⟩
  have om : ∀ {Z : Hp}, OddV zz Z (.str (tx m)) := fun {Z} => .inl ⟨_, .str m, ok_str lm.sgn (by omega), by simp [kindD]⟩
  have tl : ∀ {Z : Hp}, IsTx K Z (.str (tx l)) true := fun {Z} => .inl ⟨l, rfl, by omega, (decide_eq_true ll).symm⟩
  have tm : ∀ {Z : Hp}, IsTx K Z (.str (tx m)) true := fun {Z} => .inl ⟨m, rfl, by omega, (decide_eq_true lm).symm⟩
  walk_at "v"
  refine for_rg (n := 2) rfl (fun i σ H' => ∃ x3 x6 x7 x8 x9 x10, σ = [some (.ref p), some (.str (tx l)), some (.str (tx m)), x3, some v1, some v2, x6, x7, x8, x9, x10] ∧ Same H0 H') ⟨_, _, _, _, _, _, rfl, Same.refl _⟩ ?_ ?_
  · rintro i σ Y hi ⟨x3, x6, x7, x8, x9, x10, rfl, sY⟩
    walk_at "v"
    refine ⟨by walk_at "sz", fun e1 n1 => ?_⟩
    walk_at "v"
    refine ⟨by walk_at "sz", fun e2 n2 => ?_⟩
    walk_at "v"
    refine ⟨by walk_at "sz", fun e3 n3 => ?_⟩
    walk_at "v"
    refine ⟨by walk_at "sz", fun e4 n4 => ?_⟩
    obtain ⟨Yi, hYi⟩ : ∃ Yi, Yi = upd (upd (upd (upd Y e1 (.lst [v1, .str (tx m), .int 0])) e2 (.lst [.str (tx l), v2, .int 1])) e3 (.lst [v1, v2, .int 0])) e4 (.lst [.ref e1, .ref e2, .ref e3]) := ⟨_, rfl⟩
    have g4 : Yi e4 = some (.lst [.ref e1, .ref e2, .ref e3]) := by rw [hYi]; exact upd_same
    have g3 : Yi e3 = some (.lst [v1, v2, .int 0]) := by rw [hYi]; exact (same_new n4) _ _ upd_same
    have g2 : Yi e2 = some (.lst [.str (tx l), v2, .int 1]) := by rw [hYi]; exact (same_new n4) _ _ ((same_new n3) _ _ upd_same)
    have g1 : Yi e1 = some (.lst [v1, .str (tx m), .int 0]) := by rw [hYi]; exact (same_new n4) _ _ ((same_new n3) _ _ ((same_new n2) _ _ upd_same))
    have sYi : Same H0 Yi := by rw [hYi]; exact Same.new (Same.new (Same.new (Same.new sY n1) n2) n3) n4
    rw [← hYi]
    have o1 := o1.mono sYi
    have o2 := o2.mono sYi
    have t1 := t1.mono sYi
    have t2 := t2.mono sYi
    walk_at "v"
    refine for_it (walk_list (K := K) (a := e4) (xs := [.ref e1, .ref e2, .ref e3])) (fun n σ H' => ∃ x6 x7 x8 x9 x10, σ = [some (.ref p), some (.str (tx l)), some (.str (tx m)), some (.int (i : Int)), some v1, some v2, x6, x7, x8, x9, x10] ∧ Same Yi H') ⟨_, _, _, _, _, rfl, Same.refl _⟩ ?_ ?_ ?_
    · rintro n σ Z hn ⟨x6, x7, x8, x9, x10, rfl, sZ⟩
      exact SqL.of (sZ _ _ g4)
    · rintro n x σ Z Z' hn ⟨x6, x7, x8, x9, x10, rfl, sZ⟩ ⟨rfl, hx⟩
      obtain ⟨r, a, b, k, ba, bb, rfl, gr, oa, ob, ta, tb, hk⟩ : ∃ (r : Addr) (a b : V) (k : Nat) (ba bb : Bool), x = .ref r ∧ Yi r = some (.lst [a, b, .int (k : Int)]) ∧ OddV zz Yi a ∧ OddV zz Yi b ∧ IsTx K Yi a ba ∧ IsTx K Yi b bb ∧ ((k = 0 ∧ ba = false) ∨ (k = 1 ∧ ba = true ∧ bb = false)) := by
        match n, hx with
        | 0, hx => exact ⟨e1, v1, _, 0, false, true, (Option.some.inj hx).symm, g1, o1, om, t1, tm, .inl ⟨rfl, rfl⟩⟩
        | 1, hx => exact ⟨e2, _, v2, 1, true, false, (Option.some.inj hx).symm, g2, ol, o2, tl, t2, .inr ⟨rfl, rfl, rfl⟩⟩
        | 2, hx => exact ⟨e3, v1, v2, 0, false, false, (Option.some.inj hx).symm, g3, o1, o2, t1, t2, .inl ⟨rfl, rfl⟩⟩
        | n + 3, hx => simp at hx
      have grZ := sZ _ _ gr
      walk_at "v"
      refine w_sLt (SqL.of grZ) (by omega) fun e5 n5 => ?_
      have e2 : (List.take (Int.toNat 2) [a, b, V.int (k : Int)]) = [a, b] := rfl
      rw [e2]
      walk_at "v"
      intro D hD
      have g5 : (upd Z' e5 (.lst [a, b])) e5 = some (.lst [a, b]) := upd_same
      have n5D : e5 ≠ D := ne_of_none g5 hD
      have s5 : Same Yi (upd Z' e5 (.lst [a, b])) := Same.new sZ n5
      have nY : Yi D = none := Same.none s5 hD
      have hab : ∀ (j : Nat) (v : V), ([a, b] : List V)[j]? = some v → OddV zz Yi v := by
        intro j v hv
        match j, hv with
        | 0, hv => rw [← Option.some.inj hv]; exact oa
        | 1, hv => rw [← Option.some.inj hv]; exact ob
        | j + 2, hv => simp at hv
      refine lc_it (walk_list (K := K) (a := e5) (xs := [a, b])) (fun i H' => Same Yi H' ∧ H' e5 = some (.lst [a, b]) ∧ ∃ vs, H' D = some (.lst vs) ∧ vs.length = i ∧ ∀ (j : Nat) (v : V), j < i → ([a, b] : List V)[j]? = some v → ∃ v', vs[j]? = some v' ∧ Cp zz Yi H' v v' ∧ ∀ r, v' = .ref r → Yi r = none → r ≠ D)
        ⟨Same.new s5 hD, (upd_ne n5D).trans g5, [], upd_same, rfl, fun j v h => by omega⟩ ?_ ?_ ?_
      · rintro j Z1 hj ⟨s6, g6, vs, h6, zv, hc⟩
        exact SqL.of g6
      · rintro j v Z1 Z2 hj ⟨s6, g6, vs, h6, zv, hc⟩ ⟨rfl, hv⟩
        have hj2 : j < 2 := by simpa using hj
        have ov := hab j v hv
        walk_at "v"
        rcases ov with ⟨d, k1, k2, k3⟩ | ⟨r0, x0, d, rfl, k1, k2, k3⟩
        · refine w_isiK (Dv.mono s6 d v k1).ty (kind_ok d) (.inr (.inr (.inr (.inl rfl)))) ?_
          have en : (kindD d == "list" || (kindD d == "bool" && "list" == "int")) = false := by rw [k3]; simp
          rw [en]
          walk_at "v"
          refine ⟨Same.grow s6 nY, (upd_ne n5D).trans g6, vs ++ [v], upd_same, by rw [List.length_append, zv]; rfl, fun j' v0 hj' hv0 => ?_⟩
          by_cases e : j' = j
          · subst e
            cases hv.symm.trans hv0
            refine ⟨v, by rw [List.getElem?_append_right (by omega), zv, Nat.sub_self]; rfl, .inl ⟨d, k1, k2, k3, rfl⟩, fun r e n => ?_⟩
            subst e
            cases k1 with
            | lst g _ => rw [g] at n; cases n
            | tup g _ => rw [g] at n; cases n
            | emp g => rw [g] at n; cases n
          · obtain ⟨v', q1, q2, q3⟩ := hc j' v0 (by omega) hv0
            refine ⟨v', ?_, q2.keep fun r o e n h => (upd_ne (q3 r e n)).trans h, q3⟩
            rw [List.getElem?_append_left (by omega)]
            exact q1
        · refine w_isiL (s6 _ _ k1) ?_ (by decide)
          walk_at "v"
          refine w_listL (SqL.of (s6 _ _ k1)) fun r hr => ?_
          have nrD : r ≠ D := Ne.symm (ne_of_none h6 hr)
          have h6' := (upd_ne (o := .lst [x0]) (Ne.symm nrD)).trans h6
          walk_at "v"
          have s7 : Same Yi (upd Z2 r (.lst [x0])) := Same.new s6 hr
          refine ⟨Same.grow s7 nY, (upd_ne n5D).trans ((same_new hr) _ _ g6), vs ++ [.ref r], upd_same, by rw [List.length_append, zv]; rfl, fun j' v0 hj' hv0 => ?_⟩
          by_cases e : j' = j
          · subst e
            cases hv.symm.trans hv0
            exact ⟨.ref r, by rw [List.getElem?_append_right (by omega), zv, Nat.sub_self]; rfl, .inr ⟨r0, x0, d, r, rfl, k1, k2, k3, rfl, Same.none s6 hr, (upd_ne nrD).trans upd_same⟩, fun r' e _ => by cases e; exact nrD⟩
          · obtain ⟨v', q1, q2, q3⟩ := hc j' v0 (by omega) hv0
            refine ⟨v', ?_, q2.keep fun r' o e n h => (upd_ne (q3 r' e n)).trans ((same_new hr) _ _ h), q3⟩
            rw [List.getElem?_append_left (by omega)]
            exact q1
      · rintro Z7 ⟨s7, g7, vs, gD, zv, hc⟩
        obtain ⟨a', qa, ca, na⟩ := hc 0 a (by simp) rfl
        obtain ⟨b', qb, cb, nb⟩ := hc 1 b (by simp) rfl
        have gr7 := s7 _ _ gr
        obtain rfl : vs = [a', b'] := by
          match vs, zv, qa, qb with
          | [x, y], _, qa, qb => rw [Option.some.inj qa, Option.some.inj qb]
        walk_at "v"
        rcases hk with ⟨rfl, rfl⟩ | ⟨rfl, rfl, rfl⟩
        · refine ⟨i, a', b', false, bb, rfl, cp_txb ca s7 ta, cp_txb cb s7 tb, fun _ t Z8 s8 n8 h8 => ?_, (fun h => nomatch h), (fun h => nomatch h)⟩
          walk_at "v"
          have gt : _ = some (HO.lst [V.str (tx wText), a']) := h8
          have gD8 := s8 _ _ gD
          have gr8 := s8 _ _ gr7
          walk_at "v"
          rcases ca.show s7 with ⟨d, k1, k2, k3⟩ | ⟨r1, x, d, hv, n0, k1, k2, k3⟩
          · have k1 := Dv.mono s8 _ _ k1
            refine w_isiK k1.ty (kind_ok d) (.inr (.inr (.inr (.inl rfl)))) ?_
            have en : (kindD d == "list" || (kindD d == "bool" && "list" == "int")) = false := by rw [k3]; simp
            rw [en]
            have sh := k1.shown (K := K) k2
            walk_at "v"
            refine w_reprD sh ?_
            walk_at "v"
            refine w_reprD sh ?_
            walk_at "v"
            refine w_ifF (by simp) ?_
            walk_at "v"
            exact ⟨_, _, _, _, _, rfl, s7.trans s8⟩
          · rw [hv] at gt
            rw [hv]
            have nt : t ≠ r1 := Ne.symm (ne_of_none k1 n8)
            have sh := (Dv.mono (same_upd s8) _ _ k2).shown (K := K) k3
            have k1 := s8 _ _ k1
            refine w_isiL k1 ?_ (by decide)
            walk_at "v"
            refine w_reprD sh ?_
            walk_at "v"
            refine w_reprD sh ?_
            walk_at "v"
            refine w_ifF (by simp) ?_
            walk_at "v"
            exact ⟨_, _, _, _, _, rfl, Same.grow (s7.trans s8) n0⟩
        · refine ⟨i, a', b', true, false, rfl, cp_txb ca s7 ta, cp_txb cb s7 tb, (fun h => nomatch h), fun _ _ t Z8 s8 n8 h8 => ?_, (fun _ h => nomatch h)⟩
          walk_at "v"
          have gt : _ = some (HO.lst [V.str (tx wText), b']) := h8
          have gD8 := s8 _ _ gD
          have gr8 := s8 _ _ gr7
          walk_at "v"
          rcases cb.show s7 with ⟨d, k1, k2, k3⟩ | ⟨r1, x, d, hv, n0, k1, k2, k3⟩
          · have k1 := Dv.mono s8 _ _ k1
            refine w_isiK k1.ty (kind_ok d) (.inr (.inr (.inr (.inl rfl)))) ?_
            have en : (kindD d == "list" || (kindD d == "bool" && "list" == "int")) = false := by rw [k3]; simp
            rw [en]
            have sh := k1.shown (K := K) k2
            walk_at "v"
            refine w_reprD sh ?_
            walk_at "v"
            refine w_reprD sh ?_
            walk_at "v"
            refine w_ifF (by simp) ?_
            walk_at "v"
            exact ⟨_, _, _, _, _, rfl, s7.trans s8⟩
          · rw [hv] at gt
            rw [hv]
            have nt : t ≠ r1 := Ne.symm (ne_of_none k1 n8)
            have sh := (Dv.mono (same_upd s8) _ _ k2).shown (K := K) k3
            have k1 := s8 _ _ k1
            refine w_isiL k1 ?_ (by decide)
            walk_at "v"
            refine w_reprD sh ?_
            walk_at "v"
            refine w_reprD sh ?_
            walk_at "v"
            refine w_ifF (by simp) ?_
            walk_at "v"
            exact ⟨_, _, _, _, _, rfl, Same.grow (s7.trans s8) n0⟩
    · rintro σ Z ⟨x6, x7, x8, x9, x10, rfl, sZ⟩
      walk_at "v"
      exact ⟨_, _, _, _, _, _, rfl, sYi.trans sZ⟩
  · rintro σ Y ⟨x3, x6, x7, x8, x9, x10, rfl, sY⟩
    walk_at "v"
    exact q _ ((b0.same sY).le (by omega)) (F0.trans (Fr.of sY))
end
end K09
set_option Elab.async false
set_option linter.all false
set_option maxRecDepth 100000
set_option maxHeartbeats 4000000
namespace K09
open PySem PySem.Spec PyProof.Rows L2 SL Lv
local macro_rules | `(tactic| walk_at "sz") => `(tactic| first
  | assumption
  | omega
  | (simp only [List.length_cons, List.length_nil, List.length_append, List.length_map, List.length_take, List.length_drop, List.length_reverse, List.length_replicate, List.length_range, tx_len, sizeLine_eq, CMul, CDiv, Nat.reduceAdd, Nat.reduceLeDiff]; first | done | omega)
  | decide)
local macro_rules | `(tactic| walk_at "ne") => `(tactic| first
  | assumption
  | exact Ne.symm (by assumption)
  | (refine ne_of_none (H := ?H0) (o := ?oo) ?hh ?hn; (case hn => assumption); (case hh => walk_at "hget"))
  | (refine Ne.symm (ne_of_none (H := ?H0) (o := ?oo) ?hh ?hn); (case hn => assumption); (case hh => walk_at "hget")))
local macro_rules | `(tactic| walk_at "hget") => `(tactic| first
  | assumption
  | exact upd_same
  | (refine (upd_ne ?n).trans ?g; (case n => walk_at "ne"); (case g => walk_at "hget"))
  | (refine fr_get (p := ?pp) (H := ?H0) ?f ?g ?n; (case f => assumption); (case g => walk_at "hget"); (case n => walk_at "ne"))
  | (refine same_get (H := ?H0) ?f ?g; (case f => assumption); (case g => walk_at "hget")))
local macro_rules | `(tactic| walk_at "vget") => `(tactic| first
  | assumption
  | (refine SqL.of ?g; (case g => walk_at "hget"))
  | (refine SqT.of ?g; (case g => walk_at "hget"))
  | (refine sql_new ?n ?g; (case n => assumption); (case g => walk_at "vget"))
  | (refine sqt_new ?n ?g; (case n => assumption); (case g => walk_at "vget"))
  | (refine sql_upd ?n ?g; (case n => walk_at "ne"); (case g => walk_at "vget"))
  | (refine sqt_upd ?n ?g; (case n => walk_at "ne"); (case g => walk_at "vget"))
  | (refine Same.seq (H := ?H0) ?f ?g; (case f => assumption); (case g => walk_at "vget"))
  | (refine Same.seqT (H := ?H0) ?f ?g; (case f => assumption); (case g => walk_at "vget"))
  | (refine fr_sql (b := ?pp) (H := ?H0) ?f ?g ?n; (case f => assumption); (case g => walk_at "vget"); (case n => walk_at "ne"))
  | (refine fr_sqt (b := ?pp) (H := ?H0) ?f ?g ?n; (case f => assumption); (case g => walk_at "vget"); (case n => walk_at "ne")))
local macro_rules | `(tactic| walk_at "at") => `(tactic| first
  | assumption
  | rfl
  | (refine atI_n ?h; (case h => first | assumption | rfl))
  | (refine atI_i ?h0 ?h; (case h0 => omega); (case h => first | assumption | rfl)))
local macro_rules | `(tactic| walk_at "v1") => `(tactic| first
  | with_reducible refine w_seq ?_
  | with_reducible refine w_enx ?_
  | with_reducible refine w_ert ?_
  | with_reducible refine w_asg ?_
  | ((with_reducible refine w_var (v := ?vv) ?h ?_); (case h => exact rfl))
  | with_reducible refine w_op ?_
  | with_reducible refine w_c ?_
  | with_reducible refine w_cons ?_
  | with_reducible refine w_nil ?_
  | with_reducible refine w_cb ?_
  | with_reducible refine w_call ?_
  | with_reducible refine w_k ?_
  | with_reducible refine w_i ?_
  | with_reducible refine w_two ?_
  | ((with_reducible refine w_name ?_); (try simp only [List.set_cons_zero, List.set_cons_succ]))
  | with_reducible refine w_ifS ?_
  | with_reducible refine w_ret ?_
  | with_reducible refine w_drop ?_
  | with_reducible refine w_test ?_
  | with_reducible refine w_B ?_
  | with_reducible refine iteT ?_
  | with_reducible refine iteF ?_
  | with_reducible refine w_same ?_
  | ((with_reducible refine w_ifT ?h ?_); (case h => first | rfl | assumption))
  | ((with_reducible refine w_ifF ?h ?_); (case h => first | rfl | assumption))
  | ((with_reducible refine w_diff ?_ ?h); (case h => decide +kernel))
  | ((with_reducible refine w_wp ?h ?_); (case h => rfl); (try simp only [wipe, List.set_cons_zero, List.set_cons_succ, List.foldl_cons, List.foldl_nil]))
  | ((with_reducible refine w_acc (acc := ?aa) ?h ?_ ?z); (case h => walk_at "hget"); (case z => walk_at "sz"))
  | with_reducible refine w_addI ?_
  | with_reducible refine w_subI ?_
  | with_reducible refine w_lt ?_
  | with_reducible refine w_le ?_
  | with_reducible refine w_gt ?_
  | with_reducible refine w_ge ?_
  | with_reducible refine w_eqI ?_
  | with_reducible refine w_neI ?_
  | with_reducible refine w_eqS ?_
  | with_reducible refine w_neS ?_
  | with_reducible refine w_neB ?_
  | ((with_reducible refine w_mulI ?_ ?h); (case h => walk_at "sz"))
  | ((with_reducible refine w_divI ?_ ?h); (case h => walk_at "sz"))
  | ((with_reducible refine w_addS ?_ ?h); (case h => walk_at "sz"))
  | ((with_reducible refine w_mulS ?_ ?h); (case h => walk_at "sz"))
  | ((with_reducible refine w_ixL (xs := ?xx) (v := ?vv) ?h ?i ?_); (case h => walk_at "vget"); (case i => walk_at "at"))
  | ((with_reducible refine w_ixT (xs := ?xx) (v := ?vv) ?h ?i ?_); (case h => walk_at "vget"); (case i => walk_at "at"))
  | ((with_reducible refine w_ixS (c := ?cc) ?i ?_ ?h); (case i => walk_at "at"); (case h => walk_at "sz"))
  | ((with_reducible refine w_lenS' ?_ ?h); (case h => walk_at "sz"))
  | ((with_reducible refine w_lenL' (xs := ?xx) ?h ?_); (case h => walk_at "vget"))
  | ((with_reducible refine w_lenT' (xs := ?xx) ?h ?_); (case h => walk_at "vget"))
  | with_reducible refine w_isnN ?_
  | with_reducible refine w_isnI ?_
  | with_reducible refine w_isnS ?_
  | with_reducible refine w_isnR ?_
  | with_reducible refine w_isnB ?_
  | with_reducible refine w_isoN ?_
  | with_reducible refine w_isoI ?_
  | with_reducible refine w_isoS ?_
  | with_reducible refine w_isoR ?_
  | with_reducible refine w_isoB ?_
  | with_reducible refine w_abs ?_
  | with_reducible refine w_int ?_
  | with_reducible refine w_intB ?_
  | with_reducible refine w_min2 ?_
  | with_reducible refine w_max2 ?_
  | with_reducible refine w_min3 ?_
  | with_reducible refine w_sl ?_
  | with_reducible refine w_np ?_
  | with_reducible refine w_part ?_
  | ((with_reducible refine w_sStN ?_ ?h); (case h => walk_at "sz"))
  | ((with_reducible refine w_sSfN ?_ ?h); (case h => walk_at "sz"))
  | ((with_reducible refine w_sSt ?_ ?h); (case h => walk_at "sz"))
  | ((with_reducible refine w_sSf ?_ ?h); (case h => walk_at "sz"))
  | with_reducible refine w_and ?_
  | with_reducible refine w_or ?_
  | with_reducible refine w_not ?_
  | with_reducible refine w_andV ?_
  | with_reducible refine w_orV ?_
  | with_reducible refine w_notV ?_
  | with_reducible refine w_ifE ?_
  | with_reducible refine w_tup ?_
  | with_reducible refine w_lst ?_
  | with_reducible refine w_chain ?_
  | ((with_reducible refine w_par ?_); (try simp only [List.set_cons_zero, List.set_cons_succ]))
  | ((with_reducible refine w_par3 ?_); (try simp only [List.set_cons_zero, List.set_cons_succ]))
  | with_reducible refine w_three ?_
  | with_reducible refine w_un ?_
  | with_reducible refine w_neg ?_
  | with_reducible refine w_next ?_
  | with_reducible refine w_ebk ?_
  | with_reducible refine w_ect ?_
  | with_reducible refine w_for ?_
  | with_reducible refine w_lc ?_
  | with_reducible refine w_yes ?_
  | with_reducible refine w_il ?_
  | with_reducible refine w_it ?_
  | with_reducible refine w_isx ?_
  | with_reducible refine w_ir1 ?_
  | with_reducible refine w_ir2 ?_
  | with_reducible refine w_ies ?_
  | with_reducible refine w_ir3 ?_
  | with_reducible refine w_s1 ?_
  | with_reducible refine w_s1l ?_
  | ((with_reducible refine w_r1 ?_ ?h); (case h => walk_at "sz"))
  | ((with_reducible refine w_r2 ?_ ?h); (case h => walk_at "sz"))
  | ((with_reducible refine w_l1 (xs := ?xx) ?h ?_); (case h => walk_at "vget"))
  | ((with_reducible refine w_t1 (xs := ?xx) ?h ?_); (case h => walk_at "vget"))
  | ((with_reducible refine w_isL (xs := ?xx) ?h ?_); (case h => walk_at "vget"))
  | with_reducible refine w_isS ?_
  | ((with_reducible refine w_app (xs := ?xx) ?h ?_ ?z); (case h => walk_at "hget"); (case z => walk_at "sz"))
  | with_reducible refine w_inC ?_
  | with_reducible refine w_rev ?_
  | ((with_reducible refine w_rev1S ?_ ?h); (case h => walk_at "sz"))
  | with_reducible refine w_lrg ?_
  | with_reducible refine w_brk ?_
  | with_reducible refine w_cont ?_
  | with_reducible refine w_retN ?_
  | with_reducible refine w_bm ?_
  | with_reducible refine w_bm0 ?_
  | with_reducible refine w_m1 ?_
  | with_reducible refine w_sub ?_
  | ((with_reducible refine w_setL (xs := ?xx) (j := ?jj) ?h ?i ?_); (case h => walk_at "hget"); (case i => first | rfl | assumption); (try simp only [Int.reduceToNat, List.set_cons_zero, List.set_cons_succ]))
  | with_reducible refine w_ip ?_
  | with_reducible refine w_gnil ?_
  | with_reducible refine w_gcons ?_
  | ((with_reducible refine w_gL (xs := ?xx) ?h ?_ ?n); (case h => walk_at "vget"); (case n => rfl))
  | ((with_reducible refine w_gT (xs := ?xx) ?h ?_ ?n); (case h => walk_at "vget"); (case n => rfl))
  | ((with_reducible refine w_aug (v := ?vv) ?h ?_); (case h => exact rfl)))
local macro_rules | `(tactic| walk_at "v") => `(tactic| repeat walk_at "v1")
local macro_rules | `(tactic| walk_at "v0") => `(tactic| (simp only [L2.start, cxK, ends_rt, List.map_cons, List.map_nil, List.length_cons, List.length_nil, Nat.reduceAdd, Nat.reduceSub, List.replicate_succ, List.replicate_zero, List.append_nil, List.cons_append, List.nil_append]; walk_at "v"))
local macro_rules | `(tactic| walk_at "u1") => `(tactic| first
  | with_reducible refine w_seqA ?_
  | with_reducible refine w_seqD ?_
  | with_reducible refine w_seqP ?_
  | with_reducible refine w_seqP3 ?_
  | with_reducible refine w_seqG ?_
  | ((fail_if_success (with_reducible refine w_seq ?_)); walk_at "v1"))
local macro_rules | `(tactic| walk_at "u") => `(tactic| repeat walk_at "u1")
local macro_rules | `(tactic| walk_at "u0") => `(tactic| (simp only [L2.start, cxK, ends_rt, List.map_cons, List.map_nil, List.length_cons, List.length_nil, Nat.reduceAdd, Nat.reduceSub, List.replicate_succ, List.replicate_zero, List.append_nil, List.cons_append, List.nil_append]; walk_at "u"))
local macro_rules | `(tactic| walk_at "t1") => `(tactic| ((fail_if_success (with_reducible refine w_seq ?_)); walk_at "v1"))
local macro_rules | `(tactic| walk_at "t") => `(tactic| repeat walk_at "t1")

section
variable {P : Program} {w : World} {K : PySem.W.Frag} {mg : Str → Option Value} {base : Heap}
def spLaw (K : PySem.W.Frag) : Sp := fun vs H Q _ => ∃ (a : Addr) (ns : List Int), vs = [.ref a] ∧ SqL K H a (ns.map V.int) ∧ ns.length ≤ 1000000 ∧ ∀ H', Same H H' → Q (.bl true) H'
theorem fn_law (T : Txt K mg) (c__law_cell : Cal P w K mg base 1 "_law_cell" ["script", "k"] (spCellG K)) (c__law_box : Cal P w K mg base 1 "_law_box" ["great"] spBox) (c__law_texts : Cal P w K mg base 3 "_law_texts" ["box"] spTexts)
    (c__law_right : Cal P w K mg base 7 "_law_right" ["box", "first", "second"] spRight) (c__law_refused_right : Cal P w K mg base 7 "_law_refused_right" ["box", "first", "second"] spRefR)
    (f : Addr) (fd : FuncData) (F : Fun K "law" "law" s_law f fd) : FnG P w K mg base 8 f fd ["script"] (spLaw K) := by
  refine fn0 F sc_law (by rintro vs H Q E ⟨a, ns, rfl, _⟩; rfl) (fun cdv f A outer s' H vs Q E hr hgd h => ?_)
  obtain ⟨a, ns, rfl, hS, hz, q⟩ := h
  refine ⟨_, (pss_cons (ps_for PassesOwn.never rfl (pi_range1 (by rfl) T.n_range (pa_cons (pe_callB (uMax2 rfl) (by rfl) T.n_max (by decide +kernel) (pa_cons pe_int (pa_cons (pe_callB (uMin2 rfl) (by rfl) T.n_min (by decide +kernel) (pa_cons pe_int (pa_cons (pe_callB (kLen K rfl) (by rfl) T.n_len (by decide +kernel) (pa_cons (pv 0) pa_nil)) pa_nil))) pa_nil))) pa_nil)) (pg_name (i := 1) sc_law.nd rfl (by first | exact Or.inl rfl | exact Or.inr rfl))
  (pss_cons (ps_set (i := 2) sc_law.nd rfl (by first | exact Or.inl rfl | exact Or.inr rfl) (pe_g c__law_box hr (by decide) hgd (by rfl) noX (pa_cons (pe_g c__law_cell hr (by decide) hgd (by rfl) noX (pa_cons (pv 0) (pa_cons (pv 1) pa_nil))) pa_nil)))
  (pss_cons (ps_asg (pe_g c__law_texts hr (by decide) hgd (by rfl) noX (pa_cons (pv 2) pa_nil)) (kLst K rfl (n := 2) (by rfl) (pgs_cons (pg_name (i := 3) sc_law.nd rfl (by first | exact Or.inl rfl | exact Or.inr rfl)) (pgs_cons (pg_name (i := 4) sc_law.nd rfl (by first | exact Or.inl rfl | exact Or.inr rfl)) pgs_nil))))
  (pss_one (ps_if (PW.pt (pw_or (pt_not (pt_val (pe_g c__law_right hr (by decide) hgd (by rfl) noX (pa_cons (pv 2) (pa_cons (pv 3) (pa_cons (pv 4) pa_nil)))))) (pw_or1 (pt_not (pt_val (pe_g c__law_refused_right hr (by decide) hgd (by rfl) noX (pa_cons (pv 2) (pa_cons (pv 3) (pa_cons (pv 4) pa_nil))))))))) (pss_one (ps_ret pe_bl)) pss_nil)))))
  (pss_one (ps_ret pe_bl))), ?_⟩
  walk_at "v0"
  obtain ⟨n, hn, hn2⟩ := min_max 3 (List.map V.int ns).length (by omega)
  rw [hn]
  refine for_rg (n := n) (by omega) (fun i σ H' => ∃ x1 x2 x3 x4, σ = [some (.ref a), x1, x2, x3, x4] ∧ Same H H') ⟨_, _, _, _, rfl, Same.refl _⟩ ?_ ?_
  · rintro i σ H1 hi ⟨x1, x2, x3, x4, rfl, s1⟩
    walk_at "v"
    refine ⟨a, ns, i, rfl, by walk_at "vget", by omega, fun g H2 s2 => ?_⟩
    walk_at "v"
    refine ⟨g, rfl, fun p H3 s3 n3 b3 => ?_⟩
    have S3 := s1.trans (s2.trans s3)
    have N3 := none_same (s1.trans s2) n3
    walk_at "v"
    refine ⟨p, _, rfl, b3, by omega, fun x y r H4 lx ly zx zy b4 f4 nrp g4 => ?_⟩
    walk_at "v"
    refine ⟨p, x, y, _, rfl, b4, by omega, lx, ly, zx, zy, fun H5 b5 f5 => ?_⟩
    walk_at "v"
    refine ⟨p, x, y, _, rfl, b5, by omega, lx, ly, zx, zy, fun H6 b6 f6 => ?_⟩
    have f46 := f4.trans (f5.trans f6)
    walk_at "v"
    exact ⟨_, _, _, _, rfl, same_box S3 N3 f46⟩
  · rintro σ H1 ⟨x1, x2, x3, x4, rfl, s1⟩
    walk_at "v"
    exact q _ s1
end
theorem law_cal {P : Program} {w : World} {K : PySem.W.Frag} {mg : Str → Option Value} {fa : Addr} (hmg : mg "law" = some (.ref fa)) (T : Txt K mg) :
    ∃ fd : FuncData, (∀ (s : Shared) (u : Value), BindsTo s fd ⟨[u], []⟩ [("script", u)]) ∧ ∀ base : Heap, K.In base → base.Ns mainGlobals mg → FnG P w K mg base 8 fa fd ["script"] (spLaw K) := by
  obtain ⟨f, fd, F, hm, hb⟩ := T.d_law.ex
  rw [hmg] at hm
  cases hm
  refine ⟨fd, fun s u => hb s [u] rfl, fun base _ _ => ?_⟩
  have c1 := ok_is_text (P := P) (w := w) (base := base) T
  have c3 := ok_check_text T c1
  have c4 := ok_common_beginning (P := P) (w := w) (base := base) T
  have c5 := ok_without_common_ends T c4
  have c6 := ok_next_band (P := P) (w := w) (base := base) T
  have c7 := ok_distance_within T c5 c6
  have c8 := ok_levenshtein T c7
  have c9 := ok_round_price T c3 c8 c7
  have c10 := ok_round_price_w T c3 c8 c7
  have d1 := ok_cell (P := P) (w := w) (base := base) T
  have d2 := ok_box (P := P) (w := w) (base := base) T
  have d3 := ok_take (P := P) (w := w) (base := base) T
  have e1 := ok__law_met T c9 c10
  have e2 := ok__law_turned T d3
  have e4 := ok__law_changed T d3
  have e5 := ok__law_texts T d3 e2 e4
  have e6 := ok__law_table (P := P) (w := w) (base := base) T
  have e7 := ok__law_least T e6
  have e8 := ok__law_right T d3 e6 e7 e2 c9 e1
  have e9 := ok__law_odd T d3
  have e10 := ok__law_refused_right T e9 e1
  exact fn_law T d1 d2 e5 e8 e10 _ fd F
theorem law_sp {K : PySem.W.Frag} {H : Hp} {a : Addr} {ns : List Int} {n : Nat} (hl : ns.length ≤ n) (hO : Only H) (hS : SqL K H a (ns.map V.int)) (hn : n ≤ 1000000 := by decide) : spLaw K [.ref a] H (fun v _ => v = .bl true) fun _ _ _ => False :=
  ⟨a, ns, rfl, hS, Nat.le_trans hl hn, fun _ _ => rfl⟩

theorem all_mk {K : PySem.W.Frag} {h : Heap} {mg : Str → Option Value} (X : K.In h) (G : h.Ns mainGlobals mg)
    {f0 : Addr} {od0 an0 : Option Addr} {sl0 : Array (Option Value)} {oc0 kV0 dc0 pm0 cd0 ct0 : Value}
    {f1 : Addr} {od1 an1 : Option Addr} {sl1 : Array (Option Value)} {oc1 kV1 dc1 pm1 cd1 ct1 : Value}
    {f2 : Addr} {od2 an2 : Option Addr} {sl2 : Array (Option Value)} {oc2 kV2 dc2 pm2 cd2 ct2 : Value}
    {f3 : Addr} {od3 an3 : Option Addr} {sl3 : Array (Option Value)} {oc3 kV3 dc3 pm3 cd3 ct3 : Value}
    {f4 : Addr} {od4 an4 : Option Addr} {sl4 : Array (Option Value)} {oc4 kV4 dc4 pm4 cd4 ct4 : Value}
    {f5 : Addr} {od5 an5 : Option Addr} {sl5 : Array (Option Value)} {oc5 kV5 dc5 pm5 cd5 ct5 : Value}
    {f6 : Addr} {od6 an6 : Option Addr} {sl6 : Array (Option Value)} {oc6 kV6 dc6 pm6 cd6 ct6 : Value}
    {f7 : Addr} {od7 an7 : Option Addr} {sl7 : Array (Option Value)} {oc7 kV7 dc7 pm7 cd7 ct7 : Value}
    {f8 : Addr} {od8 an8 : Option Addr} {sl8 : Array (Option Value)} {oc8 kV8 dc8 pm8 cd8 ct8 : Value}
    {f9 : Addr} {od9 an9 : Option Addr} {sl9 : Array (Option Value)} {oc9 kV9 dc9 pm9 cd9 ct9 : Value}
    {f10 : Addr} {od10 an10 : Option Addr} {sl10 : Array (Option Value)} {oc10 kV10 dc10 pm10 cd10 ct10 : Value}
    {f11 : Addr} {od11 an11 : Option Addr} {sl11 : Array (Option Value)} {oc11 kV11 dc11 pm11 cd11 ct11 : Value}
    {f12 : Addr} {od12 an12 : Option Addr} {sl12 : Array (Option Value)} {oc12 kV12 dc12 pm12 cd12 ct12 : Value}
    {f13 : Addr} {od13 an13 : Option Addr} {sl13 : Array (Option Value)} {oc13 kV13 dc13 pm13 cd13 ct13 : Value}
    {f14 : Addr} {od14 an14 : Option Addr} {sl14 : Array (Option Value)} {oc14 kV14 dc14 pm14 cd14 ct14 : Value}
    {f15 : Addr} {od15 an15 : Option Addr} {sl15 : Array (Option Value)} {oc15 kV15 dc15 pm15 cd15 ct15 : Value}
    {f16 : Addr} {od16 an16 : Option Addr} {sl16 : Array (Option Value)} {oc16 kV16 dc16 pm16 cd16 ct16 : Value}
    {f17 : Addr} {od17 an17 : Option Addr} {sl17 : Array (Option Value)} {oc17 kV17 dc17 pm17 cd17 ct17 : Value}
    {f18 : Addr} {od18 an18 : Option Addr} {sl18 : Array (Option Value)} {oc18 kV18 dc18 pm18 cd18 ct18 : Value}
    {f19 : Addr} {od19 an19 : Option Addr} {sl19 : Array (Option Value)} {oc19 kV19 dc19 pm19 cd19 ct19 : Value}
    {f20 : Addr} {od20 an20 : Option Addr} {sl20 : Array (Option Value)} {oc20 kV20 dc20 pm20 cd20 ct20 : Value}
    {B : Addr}
    {C_InvalidText I_InvalidText N_InvalidText : Addr} {nm_InvalidText q_InvalidText : Str} {bs_InvalidText sub_InvalidText : List Value} {sn_InvalidText : List Str} {ab_InvalidText : Bool} {col_InvalidText : Option Bool} {dd_InvalidText od_InvalidText an_InvalidText : Option Addr} {m0_InvalidText m1_InvalidText m2_InvalidText m3_InvalidText m5_InvalidText : Option Value} {sl_InvalidText : Array (Option Value)} {oc_InvalidText dc_InvalidText pm_InvalidText cd_InvalidText ct_InvalidText : Value}
    {t_LETTERS : Tok}
    (a0 : PySem.W.nsIn K mainGlobals "is_text" = some (some (.ref f0))) (l0 : K.lookup f0 = some ⟨oc0, od0, .func (PySem.W.fnOf "is_text" "is_text" (defArgs s_is_text) (defBody s_is_text) (defScope s_is_text) .none kV0 dc0 pm0 an0 cd0 ct0), sl0⟩) (c0 : PySem.W.codeIn K cd0 "is_text" = true) (k0 : PySem.W.keepIn K (.ref f0) = true)
    (a1 : PySem.W.nsIn K mainGlobals "check_text" = some (some (.ref f1))) (l1 : K.lookup f1 = some ⟨oc1, od1, .func (PySem.W.fnOf "check_text" "check_text" (defArgs s_check_text) (defBody s_check_text) (defScope s_check_text) .none kV1 dc1 pm1 an1 cd1 ct1), sl1⟩) (c1 : PySem.W.codeIn K cd1 "check_text" = true) (k1 : PySem.W.keepIn K (.ref f1) = true)
    (a2 : PySem.W.nsIn K mainGlobals "common_beginning" = some (some (.ref f2))) (l2 : K.lookup f2 = some ⟨oc2, od2, .func (PySem.W.fnOf "common_beginning" "common_beginning" (defArgs s_common_beginning) (defBody s_common_beginning) (defScope s_common_beginning) .none kV2 dc2 pm2 an2 cd2 ct2), sl2⟩) (c2 : PySem.W.codeIn K cd2 "common_beginning" = true) (k2 : PySem.W.keepIn K (.ref f2) = true)
    (a3 : PySem.W.nsIn K mainGlobals "without_common_ends" = some (some (.ref f3))) (l3 : K.lookup f3 = some ⟨oc3, od3, .func (PySem.W.fnOf "without_common_ends" "without_common_ends" (defArgs s_without_common_ends) (defBody s_without_common_ends) (defScope s_without_common_ends) .none kV3 dc3 pm3 an3 cd3 ct3), sl3⟩) (c3 : PySem.W.codeIn K cd3 "without_common_ends" = true) (k3 : PySem.W.keepIn K (.ref f3) = true)
    (a4 : PySem.W.nsIn K mainGlobals "next_band" = some (some (.ref f4))) (l4 : K.lookup f4 = some ⟨oc4, od4, .func (PySem.W.fnOf "next_band" "next_band" (defArgs s_next_band) (defBody s_next_band) (defScope s_next_band) .none kV4 dc4 pm4 an4 cd4 ct4), sl4⟩) (c4 : PySem.W.codeIn K cd4 "next_band" = true) (k4 : PySem.W.keepIn K (.ref f4) = true)
    (a5 : PySem.W.nsIn K mainGlobals "distance_within" = some (some (.ref f5))) (l5 : K.lookup f5 = some ⟨oc5, od5, .func (PySem.W.fnOf "distance_within" "distance_within" (defArgs s_distance_within) (defBody s_distance_within) (defScope s_distance_within) .none kV5 dc5 pm5 an5 cd5 ct5), sl5⟩) (c5 : PySem.W.codeIn K cd5 "distance_within" = true) (k5 : PySem.W.keepIn K (.ref f5) = true)
    (a6 : PySem.W.nsIn K mainGlobals "levenshtein" = some (some (.ref f6))) (l6 : K.lookup f6 = some ⟨oc6, od6, .func (PySem.W.fnOf "levenshtein" "levenshtein" (defArgs s_levenshtein) (defBody s_levenshtein) (defScope s_levenshtein) .none kV6 dc6 pm6 an6 cd6 ct6), sl6⟩) (c6 : PySem.W.codeIn K cd6 "levenshtein" = true) (k6 : PySem.W.keepIn K (.ref f6) = true)
    (a7 : PySem.W.nsIn K mainGlobals "round_price" = some (some (.ref f7))) (l7 : K.lookup f7 = some ⟨oc7, od7, .func (PySem.W.fnOf "round_price" "round_price" (defArgs s_round_price) (defBody s_round_price) (defScope s_round_price) .none kV7 dc7 pm7 an7 cd7 ct7), sl7⟩) (c7 : PySem.W.codeIn K cd7 "round_price" = true) (k7 : PySem.W.keepIn K (.ref f7) = true)
    (a8 : PySem.W.nsIn K mainGlobals "_law_cell" = some (some (.ref f8))) (l8 : K.lookup f8 = some ⟨oc8, od8, .func (PySem.W.fnOf "_law_cell" "_law_cell" (defArgs s__law_cell) (defBody s__law_cell) (defScope s__law_cell) .none kV8 dc8 pm8 an8 cd8 ct8), sl8⟩) (c8 : PySem.W.codeIn K cd8 "_law_cell" = true) (k8 : PySem.W.keepIn K (.ref f8) = true)
    (a9 : PySem.W.nsIn K mainGlobals "_law_box" = some (some (.ref f9))) (l9 : K.lookup f9 = some ⟨oc9, od9, .func (PySem.W.fnOf "_law_box" "_law_box" (defArgs s__law_box) (defBody s__law_box) (defScope s__law_box) .none kV9 dc9 pm9 an9 cd9 ct9), sl9⟩) (c9 : PySem.W.codeIn K cd9 "_law_box" = true) (k9 : PySem.W.keepIn K (.ref f9) = true)
    (a10 : PySem.W.nsIn K mainGlobals "_law_take" = some (some (.ref f10))) (l10 : K.lookup f10 = some ⟨oc10, od10, .func (PySem.W.fnOf "_law_take" "_law_take" (defArgs s__law_take) (defBody s__law_take) (defScope s__law_take) .none kV10 dc10 pm10 an10 cd10 ct10), sl10⟩) (c10 : PySem.W.codeIn K cd10 "_law_take" = true) (k10 : PySem.W.keepIn K (.ref f10) = true)
    (a11 : PySem.W.nsIn K mainGlobals "_law_turned" = some (some (.ref f11))) (l11 : K.lookup f11 = some ⟨oc11, od11, .func (PySem.W.fnOf "_law_turned" "_law_turned" (defArgs s__law_turned) (defBody s__law_turned) (defScope s__law_turned) .none kV11 dc11 pm11 an11 cd11 ct11), sl11⟩) (c11 : PySem.W.codeIn K cd11 "_law_turned" = true) (k11 : PySem.W.keepIn K (.ref f11) = true)
    (a12 : PySem.W.nsIn K mainGlobals "_law_changed" = some (some (.ref f12))) (l12 : K.lookup f12 = some ⟨oc12, od12, .func (PySem.W.fnOf "_law_changed" "_law_changed" (defArgs s__law_changed) (defBody s__law_changed) (defScope s__law_changed) .none kV12 dc12 pm12 an12 cd12 ct12), sl12⟩) (c12 : PySem.W.codeIn K cd12 "_law_changed" = true) (k12 : PySem.W.keepIn K (.ref f12) = true)
    (a13 : PySem.W.nsIn K mainGlobals "_law_texts" = some (some (.ref f13))) (l13 : K.lookup f13 = some ⟨oc13, od13, .func (PySem.W.fnOf "_law_texts" "_law_texts" (defArgs s__law_texts) (defBody s__law_texts) (defScope s__law_texts) .none kV13 dc13 pm13 an13 cd13 ct13), sl13⟩) (c13 : PySem.W.codeIn K cd13 "_law_texts" = true) (k13 : PySem.W.keepIn K (.ref f13) = true)
    (a14 : PySem.W.nsIn K mainGlobals "_law_table" = some (some (.ref f14))) (l14 : K.lookup f14 = some ⟨oc14, od14, .func (PySem.W.fnOf "_law_table" "_law_table" (defArgs s__law_table) (defBody s__law_table) (defScope s__law_table) .none kV14 dc14 pm14 an14 cd14 ct14), sl14⟩) (c14 : PySem.W.codeIn K cd14 "_law_table" = true) (k14 : PySem.W.keepIn K (.ref f14) = true)
    (a15 : PySem.W.nsIn K mainGlobals "_law_least" = some (some (.ref f15))) (l15 : K.lookup f15 = some ⟨oc15, od15, .func (PySem.W.fnOf "_law_least" "_law_least" (defArgs s__law_least) (defBody s__law_least) (defScope s__law_least) .none kV15 dc15 pm15 an15 cd15 ct15), sl15⟩) (c15 : PySem.W.codeIn K cd15 "_law_least" = true) (k15 : PySem.W.keepIn K (.ref f15) = true)
    (a16 : PySem.W.nsIn K mainGlobals "_law_met" = some (some (.ref f16))) (l16 : K.lookup f16 = some ⟨oc16, od16, .func (PySem.W.fnOf "_law_met" "_law_met" (defArgs s__law_met) (defBody s__law_met) (defScope s__law_met) .none kV16 dc16 pm16 an16 cd16 ct16), sl16⟩) (c16 : PySem.W.codeIn K cd16 "_law_met" = true) (k16 : PySem.W.keepIn K (.ref f16) = true)
    (a17 : PySem.W.nsIn K mainGlobals "_law_right" = some (some (.ref f17))) (l17 : K.lookup f17 = some ⟨oc17, od17, .func (PySem.W.fnOf "_law_right" "_law_right" (defArgs s__law_right) (defBody s__law_right) (defScope s__law_right) .none kV17 dc17 pm17 an17 cd17 ct17), sl17⟩) (c17 : PySem.W.codeIn K cd17 "_law_right" = true) (k17 : PySem.W.keepIn K (.ref f17) = true)
    (a18 : PySem.W.nsIn K mainGlobals "_law_odd" = some (some (.ref f18))) (l18 : K.lookup f18 = some ⟨oc18, od18, .func (PySem.W.fnOf "_law_odd" "_law_odd" (defArgs s__law_odd) (defBody s__law_odd) (defScope s__law_odd) .none kV18 dc18 pm18 an18 cd18 ct18), sl18⟩) (c18 : PySem.W.codeIn K cd18 "_law_odd" = true) (k18 : PySem.W.keepIn K (.ref f18) = true)
    (a19 : PySem.W.nsIn K mainGlobals "_law_refused_right" = some (some (.ref f19))) (l19 : K.lookup f19 = some ⟨oc19, od19, .func (PySem.W.fnOf "_law_refused_right" "_law_refused_right" (defArgs s__law_refused_right) (defBody s__law_refused_right) (defScope s__law_refused_right) .none kV19 dc19 pm19 an19 cd19 ct19), sl19⟩) (c19 : PySem.W.codeIn K cd19 "_law_refused_right" = true) (k19 : PySem.W.keepIn K (.ref f19) = true)
    (a20 : PySem.W.nsIn K mainGlobals "law" = some (some (.ref f20))) (l20 : K.lookup f20 = some ⟨oc20, od20, .func (PySem.W.fnOf "law" "law" (defArgs s_law) (defBody s_law) (defScope s_law) .none kV20 dc20 pm20 an20 cd20 ct20), sl20⟩) (c20 : PySem.W.codeIn K cd20 "law" = true) (k20 : PySem.W.keepIn K (.ref f20) = true)
    (bB : PySem.W.nsIn K mainGlobals "CodecError" = some (some (.ref B))) (bsp : PySem.W.specialIn K (.ref B) "__getattribute__" = some (some (.builtin "type.__getattribute__"))) (brd : PySem.W.readsIn K B (.type "type") = true) (bfc : PySem.W.findCls K (.ref B) (.type "type") "__init__" = some (.val (.builtin "Exception.__init__")))
    (aC_InvalidText : PySem.W.nsIn K mainGlobals "InvalidText" = some (some (.ref C_InvalidText))) (xL_InvalidText : K.lookup C_InvalidText = some (excClassObj nm_InvalidText q_InvalidText C_InvalidText N_InvalidText bs_InvalidText [.ref B, .type "Exception", .type "BaseException", .type "object"] true sn_InvalidText sub_InvalidText ab_InvalidText col_InvalidText dd_InvalidText m0_InvalidText m1_InvalidText m2_InvalidText m3_InvalidText m5_InvalidText "Exception.__new__")) (sa_InvalidText : PySem.W.findIn K (.ref C_InvalidText) "__setattr__" = some (some (.builtin "object.__setattr__"))) (ga_InvalidText : PySem.W.findIn K (.ref C_InvalidText) "__getattribute__" = some (some (.builtin "BaseException.__getattribute__"))) (gg_InvalidText : PySem.W.findIn K (.ref C_InvalidText) "__getattr__" = some none) (nb_InvalidText : PySem.W.findIn K (.ref C_InvalidText) "given" = some none) (a1_InvalidText : PySem.W.findIn K (.ref C_InvalidText) "__init__" = some (some (.ref I_InvalidText))) (t1_InvalidText : PySem.W.typeIn K (.ref I_InvalidText) = some (.type "function")) (l1_InvalidText : K.lookup I_InvalidText = some ⟨oc_InvalidText, od_InvalidText, .func (PySem.W.fnOf "__init__" "InvalidText.__init__" (defArgs s_InvalidText___init__) (defBody s_InvalidText___init__) (defScope s_InvalidText___init__) .none .none dc_InvalidText pm_InvalidText an_InvalidText cd_InvalidText ct_InvalidText), sl_InvalidText⟩) (c1_InvalidText : PySem.W.codeIn K cd_InvalidText "InvalidText.__init__" = true) (kC_InvalidText : PySem.W.keepIn K (.ref C_InvalidText) = true) (eC_InvalidText : PySem.W.subIn K (.ref C_InvalidText) (.type "BaseException") = some true) (tC_InvalidText : PySem.W.typeIn K (.ref C_InvalidText) = some (.type "type")) (hC_InvalidText : PySem.W.hasDictIn K C_InvalidText = true) (iC_InvalidText : PySem.W.isClsIn K C_InvalidText = true) (sC_InvalidText : PySem.W.subIn K (.ref C_InvalidText) (.ref C_InvalidText) = some true)
    (z_abs : PySem.W.nsIn K mainGlobals "abs" = some none)
    (z_all : PySem.W.nsIn K mainGlobals "all" = some none)
    (z_enumerate : PySem.W.nsIn K mainGlobals "enumerate" = some none)
    (z_int : PySem.W.nsIn K mainGlobals "int" = some none)
    (z_isinstance : PySem.W.nsIn K mainGlobals "isinstance" = some none)
    (z_len : PySem.W.nsIn K mainGlobals "len" = some none)
    (z_list : PySem.W.nsIn K mainGlobals "list" = some none)
    (z_max : PySem.W.nsIn K mainGlobals "max" = some none)
    (z_min : PySem.W.nsIn K mainGlobals "min" = some none)
    (z_range : PySem.W.nsIn K mainGlobals "range" = some none)
    (z_repr : PySem.W.nsIn K mainGlobals "repr" = some none)
    (z_str : PySem.W.nsIn K mainGlobals "str" = some none)
    (z_sum : PySem.W.nsIn K mainGlobals "sum" = some none)
    (q_LETTERS : PySem.W.nsIn K mainGlobals "LETTERS" = some (some (.str (PySem.Str.ofString "abcdefghijklmnopqrstuvwxyz") t_LETTERS)))
    : Txt K mg where
  d_is_text := .of f0 _ (fun_mk (st := s_is_text) l0 c0 k0) (PySem.W.mg_of X G a0) fun s us hl => match us, hl with | [_], _ => .of_eq rfl
  d_check_text := .of f1 _ (fun_mk (st := s_check_text) l1 c1 k1) (PySem.W.mg_of X G a1) fun s us hl => match us, hl with | [_], _ => .of_eq rfl
  d_common_beginning := .of f2 _ (fun_mk (st := s_common_beginning) l2 c2 k2) (PySem.W.mg_of X G a2) fun s us hl => match us, hl with | [_, _], _ => .of_eq rfl
  d_without_common_ends := .of f3 _ (fun_mk (st := s_without_common_ends) l3 c3 k3) (PySem.W.mg_of X G a3) fun s us hl => match us, hl with | [_, _], _ => .of_eq rfl
  d_next_band := .of f4 _ (fun_mk (st := s_next_band) l4 c4 k4) (PySem.W.mg_of X G a4) fun s us hl => match us, hl with | [_, _, _, _], _ => .of_eq rfl
  d_distance_within := .of f5 _ (fun_mk (st := s_distance_within) l5 c5 k5) (PySem.W.mg_of X G a5) fun s us hl => match us, hl with | [_, _, _], _ => .of_eq rfl
  d_levenshtein := .of f6 _ (fun_mk (st := s_levenshtein) l6 c6 k6) (PySem.W.mg_of X G a6) fun s us hl => match us, hl with | [_, _], _ => .of_eq rfl
  d_round_price := .of f7 _ (fun_mk (st := s_round_price) l7 c7 k7) (PySem.W.mg_of X G a7) fun s us hl => match us, hl with | [_, _], _ => .of_eq rfl
  d__law_cell := .of f8 _ (fun_mk (st := s__law_cell) l8 c8 k8) (PySem.W.mg_of X G a8) fun s us hl => match us, hl with | [_, _], _ => .of_eq rfl
  d__law_box := .of f9 _ (fun_mk (st := s__law_box) l9 c9 k9) (PySem.W.mg_of X G a9) fun s us hl => match us, hl with | [_], _ => .of_eq rfl
  d__law_take := .of f10 _ (fun_mk (st := s__law_take) l10 c10 k10) (PySem.W.mg_of X G a10) fun s us hl => match us, hl with | [_, _], _ => .of_eq rfl
  d__law_turned := .of f11 _ (fun_mk (st := s__law_turned) l11 c11 k11) (PySem.W.mg_of X G a11) fun s us hl => match us, hl with | [_, _], _ => .of_eq rfl
  d__law_changed := .of f12 _ (fun_mk (st := s__law_changed) l12 c12 k12) (PySem.W.mg_of X G a12) fun s us hl => match us, hl with | [_, _, _], _ => .of_eq rfl
  d__law_texts := .of f13 _ (fun_mk (st := s__law_texts) l13 c13 k13) (PySem.W.mg_of X G a13) fun s us hl => match us, hl with | [_], _ => .of_eq rfl
  d__law_table := .of f14 _ (fun_mk (st := s__law_table) l14 c14 k14) (PySem.W.mg_of X G a14) fun s us hl => match us, hl with | [_, _], _ => .of_eq rfl
  d__law_least := .of f15 _ (fun_mk (st := s__law_least) l15 c15 k15) (PySem.W.mg_of X G a15) fun s us hl => match us, hl with | [_, _], _ => .of_eq rfl
  d__law_met := .of f16 _ (fun_mk (st := s__law_met) l16 c16 k16) (PySem.W.mg_of X G a16) fun s us hl => match us, hl with | [_, _, _], _ => .of_eq rfl
  d__law_right := .of f17 _ (fun_mk (st := s__law_right) l17 c17 k17) (PySem.W.mg_of X G a17) fun s us hl => match us, hl with | [_, _, _], _ => .of_eq rfl
  d__law_odd := .of f18 _ (fun_mk (st := s__law_odd) l18 c18 k18) (PySem.W.mg_of X G a18) fun s us hl => match us, hl with | [_, _], _ => .of_eq rfl
  d__law_refused_right := .of f19 _ (fun_mk (st := s__law_refused_right) l19 c19 k19) (PySem.W.mg_of X G a19) fun s us hl => match us, hl with | [_, _, _], _ => .of_eq rfl
  d_law := .of f20 _ (fun_mk (st := s_law) l20 c20 k20) (PySem.W.mg_of X G a20) fun s us hl => match us, hl with | [_], _ => .of_eq rfl
  x_InvalidText := ErrAt.of { gC := PySem.W.mg_of X G aC_InvalidText, gB := PySem.W.mg_of X G bB, cls := ⟨nm_InvalidText, q_InvalidText, N_InvalidText, bs_InvalidText, sn_InvalidText, sub_InvalidText, ab_InvalidText, col_InvalidText, dd_InvalidText, m0_InvalidText, m1_InvalidText, m2_InvalidText, m3_InvalidText, m5_InvalidText, xL_InvalidText⟩, sa := sa_InvalidText, ga := ga_InvalidText, gg := gg_InvalidText, noN := nb_InvalidText, iC := a1_InvalidText, tC := t1_InvalidText, kC := kC_InvalidText, exC := eC_InvalidText, tyC := tC_InvalidText, hdC := hC_InvalidText, te := exm_self eC_InvalidText iC_InvalidText tC_InvalidText sC_InvalidText, sp := bsp, rd := brd, fc := bfc, fn := ⟨_, _, _, _, _, _, _, _, _, _, _, _, _, _, _, _, _, _, _, _, _, _, _, l1_InvalidText, c1_InvalidText, fun env => ⟨_, rfl⟩⟩ }
  n_abs := PySem.W.mg_none_of X G z_abs
  n_all := PySem.W.mg_none_of X G z_all
  n_enumerate := PySem.W.mg_none_of X G z_enumerate
  n_int := PySem.W.mg_none_of X G z_int
  n_isinstance := PySem.W.mg_none_of X G z_isinstance
  n_len := PySem.W.mg_none_of X G z_len
  n_list := PySem.W.mg_none_of X G z_list
  n_max := PySem.W.mg_none_of X G z_max
  n_min := PySem.W.mg_none_of X G z_min
  n_range := PySem.W.mg_none_of X G z_range
  n_repr := PySem.W.mg_none_of X G z_repr
  n_str := PySem.W.mg_none_of X G z_str
  n_sum := PySem.W.mg_none_of X G z_sum
  g_LETTERS := ⟨_, (PySem.W.mg_of X G q_LETTERS).trans (congrArg (fun z => some (Value.str z _)) (by decide +kernel))⟩
end K09
open PySem PySem.W PyProof.Rows in
set_option maxRecDepth 100000 in
set_option maxHeartbeats 0 in
theorem PySem.Challenge.cw_spoiltline_k09_prices_of_rounds_holds : PySem.Challenge.rw_spoiltline_k09_prices_of_rounds.Holds := by
  w_on; o_law; k_head; (case hw => w_witness2)
  k_fill
  refine SL.walk_g (l := PySem.Challenge.rw_spoiltline_k09_prices_of_rounds) (k := 8) (x := "script") rfl (by decide) rfl ⟨rfl, by decide, by decide⟩ (fun w h Y => PySem.W.kIn_of Y) ?F (fun K H a ns hl hO hS => K09.law_sp hl hO hS)
  case F =>
    intro w mg fa h KX G hmg
    refine' K09.law_cal hmg (K09.all_mk KX G ?a0 ?l0 ?c0 ?k0 ?a1 ?l1 ?c1 ?k1 ?a2 ?l2 ?c2 ?k2 ?a3 ?l3 ?c3 ?k3 ?a4 ?l4 ?c4 ?k4 ?a5 ?l5 ?c5 ?k5 ?a6 ?l6 ?c6 ?k6 ?a7 ?l7 ?c7 ?k7 ?a8 ?l8 ?c8 ?k8 ?a9 ?l9 ?c9 ?k9 ?a10 ?l10 ?c10 ?k10 ?a11 ?l11 ?c11 ?k11 ?a12 ?l12 ?c12 ?k12 ?a13 ?l13 ?c13 ?k13 ?a14 ?l14 ?c14 ?k14 ?a15 ?l15 ?c15 ?k15 ?a16 ?l16 ?c16 ?k16 ?a17 ?l17 ?c17 ?k17 ?a18 ?l18 ?c18 ?k18 ?a19 ?l19 ?c19 ?k19 ?a20 ?l20 ?c20 ?k20 ?bB ?bsp ?brd ?bfc ?aC_InvalidText ?xL_InvalidText ?sa_InvalidText ?ga_InvalidText ?gg_InvalidText ?nb_InvalidText ?a1_InvalidText ?t1_InvalidText ?l1_InvalidText ?c1_InvalidText ?kC_InvalidText ?eC_InvalidText ?tC_InvalidText ?hC_InvalidText ?iC_InvalidText ?sC_InvalidText ?z_abs ?z_all ?z_enumerate ?z_int ?z_isinstance ?z_len ?z_list ?z_max ?z_min ?z_range ?z_repr ?z_str ?z_sum ?q_LETTERS)
    (case a0 => k_is)
    (case l0 => k_is)
    (case c0 => k_is)
    (case k0 => k_is)
    (case a1 => k_is)
    (case l1 => k_is)
    (case c1 => k_is)
    (case k1 => k_is)
    (case a2 => k_is)
    (case l2 => k_is)
    (case c2 => k_is)
    (case k2 => k_is)
    (case a3 => k_is)
    (case l3 => k_is)
    (case c3 => k_is)
    (case k3 => k_is)
    (case a4 => k_is)
    (case l4 => k_is)
    (case c4 => k_is)
    (case k4 => k_is)
    (case a5 => k_is)
    (case l5 => k_is)
    (case c5 => k_is)
    (case k5 => k_is)
    (case a6 => k_is)
    (case l6 => k_is)
    (case c6 => k_is)
    (case k6 => k_is)
    (case a7 => k_is)
    (case l7 => k_is)
    (case c7 => k_is)
    (case k7 => k_is)
    (case a8 => k_is)
    (case l8 => k_is)
    (case c8 => k_is)
    (case k8 => k_is)
    (case a9 => k_is)
    (case l9 => k_is)
    (case c9 => k_is)
    (case k9 => k_is)
    (case a10 => k_is)
    (case l10 => k_is)
    (case c10 => k_is)
    (case k10 => k_is)
    (case a11 => k_is)
    (case l11 => k_is)
    (case c11 => k_is)
    (case k11 => k_is)
    (case a12 => k_is)
    (case l12 => k_is)
    (case c12 => k_is)
    (case k12 => k_is)
    (case a13 => k_is)
    (case l13 => k_is)
    (case c13 => k_is)
    (case k13 => k_is)
    (case a14 => k_is)
    (case l14 => k_is)
    (case c14 => k_is)
    (case k14 => k_is)
    (case a15 => k_is)
    (case l15 => k_is)
    (case c15 => k_is)
    (case k15 => k_is)
    (case a16 => k_is)
    (case l16 => k_is)
    (case c16 => k_is)
    (case k16 => k_is)
    (case a17 => k_is)
    (case l17 => k_is)
    (case c17 => k_is)
    (case k17 => k_is)
    (case a18 => k_is)
    (case l18 => k_is)
    (case c18 => k_is)
    (case k18 => k_is)
    (case a19 => k_is)
    (case l19 => k_is)
    (case c19 => k_is)
    (case k19 => k_is)
    (case a20 => k_is)
    (case l20 => k_is)
    (case c20 => k_is)
    (case k20 => k_is)
    (case bB => k_is)
    (case bsp => k_is)
    (case brd => k_is)
    (case bfc => k_is)
    (case aC_InvalidText => k_is)
    (case xL_InvalidText => k_is)
    (case sa_InvalidText => k_is)
    (case ga_InvalidText => k_is)
    (case gg_InvalidText => k_is)
    (case nb_InvalidText => k_is)
    (case a1_InvalidText => k_is)
    (case t1_InvalidText => k_is)
    (case l1_InvalidText => k_is)
    (case c1_InvalidText => k_is)
    (case kC_InvalidText => k_is)
    (case eC_InvalidText => k_is)
    (case tC_InvalidText => k_is)
    (case hC_InvalidText => k_is)
    (case iC_InvalidText => k_is)
    (case sC_InvalidText => k_is)
    (case z_abs => k_is)
    (case z_all => k_is)
    (case z_enumerate => k_is)
    (case z_int => k_is)
    (case z_isinstance => k_is)
    (case z_len => k_is)
    (case z_list => k_is)
    (case z_max => k_is)
    (case z_min => k_is)
    (case z_range => k_is)
    (case z_repr => k_is)
    (case z_str => k_is)
    (case z_sum => k_is)
    (case q_LETTERS => k_is)
