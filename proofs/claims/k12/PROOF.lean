import PyProof.Rows.All
import Wide.All
import OpenK.AllK
import Wide.FinOn
import HandS.ForMost
import HandS.Exc
import HandS.ExcOwn
import HandS.ExcInit
import HandS.WordsExc
import HandS.TryMany
import HandS.IsInst
import HandS.StrMore
import HandS.Conv
import HandS.Wide
import HandS.Flow
import HandS.Style
import HandS.Flt
import HandS.RaiseMore
import HandS.TupAny
import HandS.Deep
import KE.KRevSl
import PyProof.Draws
import PyProof.StrBlock2
import PyProof.Rows.StrRev
import HandS.Walk
import HandS.TryOnly
import HandS.ExcSuper
import HandS.ExcField
import PyProof.StrWalks
import KE.KUnpack
import PyProof.ReprLen
import PyProof.ListStr
import PyProof.StrLawsFrom
import HandS.Iter
import PySem.Challenge.RW_spoiltline_k12_lags_that_stay
set_option Elab.async false
set_option linter.all false
set_option maxRecDepth 100000
set_option maxHeartbeats 4000000
/-! SlA: defs that know that no container is being written out (guards), and their calls. -/
namespace SL
open PySem PySem.Spec PyProof.Rows L2

/-- a def's promise, kept wherever no container is being written out -/
structure FnG (P : Program) (w : World) (K : PySem.W.Frag) (mg : Str → Option Value) (base : Heap) (k : Nat) (f : Addr) (fd : FuncData) (ps : List Str) (sp : Sp) : Prop where
  len : ∀ vs H Q E, sp vs H Q E → vs.length = ps.length
  run : ∀ (A : Around) (outer : List Env) (s : Shared) (H : Hp) (args : Args) (us : List Value) (vs : List V) (Q : VK) (E : XK),
    Room k A → A.guards = some [] → Env0 P w K mg base A outer s H → BindsTo s fd args (ps.zip us) → Vals vs us → sp vs H Q E →
    codeAny (model P w) A (.call (.ref f) args) (CR (L2.CX P w) outer P w H s Q E) s

theorem gd_deeper {A : Around} {env : Env} (h : A.guards = some []) : (A.deeper env).guards = some [] := by
  first | exact h | (unfold Around.deeper; exact h) | simpa [Around.deeper] using h

section
variable {P : Program} {w : World} {K : PySem.W.Frag} {mg : Str → Option Value} {base : Heap}
/-- by the body, read at each entry -/
theorem fnG_of {x qual : Str} {st : Stmt} {f : Addr} {fd : FuncData} {N ps : List Str} {k : Nat} {sp : Sp} (F : Fun K x qual st f fd) (S : FnScope N ps (defScope st))
    (len : ∀ vs H Q E, sp vs H Q E → vs.length = ps.length)
    (hbody : ∀ (cdv : Value) (A : Around) (outer : List Env) (s : Shared) (H : Hp) (vs : List V) (Q : VK) (E : XK),
      Room k (A.deeper (envOfC qual (defScope st) s.heap.objs.size f cdv)) → (A.deeper (envOfC qual (defScope st) s.heap.objs.size f cdv)).guards = some [] → sp vs H Q E →
      ∃ t, PSs (cxOf (L2.CX P w) P w K mg base N qual (defScope st) f cdv A outer s H E) (defBody st) t ∧ t { nx := fun _ H' => Q .non H', rt := Q } (start N vs) H) :
    FnG P w K mg base (k + 1) f fd ps sp := by
  obtain ⟨oc, od, kV, doc, pm, an, cdv, ct, osl, rfl, lk, hcd⟩ := F.ex
  refine ⟨len, ?_⟩
  intro A outer s H args us vs Q E hr hg e0 hb r hsp
  have nps := len _ _ _ _ hsp
  have kin : K.In s.heap := e0.mod.kin.keeps fun b o e => (e0.bs b o e).1
  have nol : s.heap.NoLimit := e0.mod.nolimit.keeps fun b o e => (e0.bs b o e).1
  have kinds : ∀ y ∈ ps.zip us, (defScope st).names.lookup y.1 = some .local ∨ ((defScope st).names.lookup y.1 = some .cell ∧ ((cellsFrom (s.heap.objs.size + 1) (defScope st).names []).lookup y.1).isSome = true) := by
    rintro ⟨n, v⟩ hy
    have hn := (List.of_mem_zip hy).1
    cases S.par n hn with
    | inl q => exact Or.inl q
    | inr q => exact Or.inr ⟨q, PySem.W.cellsFrom_some _ _ _ (Or.inl q)⟩
  refine codeAny_call_function (Room.depth hr) (kin _ _ lk) rfl S.co S.gen rfl (PySem.W.codeRec_of kin hcd) (hb _ _ _ _ ?_)
  refine wpAny_newFunctionEnv_cells S.kind kinds ?_
  intro env henv s1 ic
  subst henv
  refine ⟨nol.keeps ic.toInCall.keep, codeAny_func ?_⟩
  obtain ⟨t, ht, hq⟩ := hbody cdv A outer s H vs Q E (Room.deeper hr _) (gd_deeper hg) hsp
  have I0 := inv_start (CX := L2.CX P w) (P := P) (w := w) (K := K) (mg := mg) (base := base) (E := E) S hr.hd e0 nps r ic
  refine wpAny_mono (ht.run [] s1 (start N vs) H _ I0 hq) ?_ fun _ _ z => z
  intro fl s' hs
  match fl, hs with
  | .ret u, ⟨v, σ', H', J, rv, q⟩ => exact ⟨v, H', J.os, J.bare, J.base, J.hok, rv, q⟩
  | .next, ⟨σ', H', J, q⟩ => exact ⟨V.non, H', J.os, J.bare, J.base, J.hok, rfl, q⟩
  | .brk, ⟨_, _, _, q⟩ => exact q.elim
  | .cont, ⟨_, _, _, q⟩ => exact q.elim

theorem FnG.mono {j k : Nat} {f : Addr} {fd : FuncData} {ps : List Str} {sp : Sp} (F : FnG P w K mg base j f fd ps sp) (h : j ≤ k) : FnG P w K mg base k f fd ps sp :=
  ⟨F.len, fun A outer s H args us vs Q E hr => F.run A outer s H args us vs Q E (hr.mono h)⟩
theorem FnG.imp {k : Nat} {f : Addr} {fd : FuncData} {ps : List Str} {sp sp' : Sp} (F : FnG P w K mg base k f fd ps sp) (h : ∀ vs H Q E, sp' vs H Q E → sp vs H Q E) : FnG P w K mg base k f fd ps sp' :=
  ⟨fun vs H Q E q => F.len vs H Q E (h _ _ _ _ q), fun A outer s H args us vs Q E hr hg e0 hb hv hs => F.run A outer s H args us vs Q E hr hg e0 hb hv (h _ _ _ _ hs)⟩
end

/-- a def of the module, callable by its name with all arguments given -/
structure Cal (P : Program) (w : World) (K : PySem.W.Frag) (mg : Str → Option Value) (base : Heap) (k : Nat) (x : Str) (ps : List Str) (sp : Sp) : Prop where
  ex : ∃ (f : Addr) (fd : FuncData), FnG P w K mg base k f fd ps sp ∧ mg x = some (.ref f) ∧ PySem.W.keepIn K (.ref f) = true ∧
    ∀ (s : Shared) (us : List Value), us.length = ps.length → BindsTo s fd ⟨us, []⟩ (ps.zip us)

section
variable {X : Cx} {k j : Nat} {x : Str} {ps : List Str} {sp : Sp} {E : L2.St → XK} {p pos : Pos} {e : Expr} {es : List Expr} {t : TA}
theorem run_g {f : Addr} {fd : FuncData} {pins : List (Addr × Obj)} {σ : L2.St} {H : Hp} {s : Shared} {Q : VK} {us : List Value} {vs : List V} (F : FnG X.prog X.w X.K X.mg X.base k f fd ps sp) (hr : Room k X.A) (hg : X.A.guards = some [])
    (hb : ∀ (s : Shared) (us : List Value), us.length = ps.length → BindsTo s fd ⟨us, []⟩ (ps.zip us)) (hx : PassesAt (L2.CX X.prog X.w) X σ (E σ))
    (I : Inv X pins σ H s) (r : Vals vs us) (h : sp vs H Q (E σ)) : wpAny (model X.prog X.w) X.A (call (.ref f) us) (EP X pins σ Q) X.xe s := by
  have hl : us.length = ps.length := by rw [← Paired.length r]; exact F.len _ _ _ _ h
  refine wpAny_call (codeAny_mono (F.run X.A X.stack s H ⟨us, []⟩ us vs Q (E σ) hr hg (Inv.env0 I) (hb s us hl) r h) ?_)
  intro rr s' hq
  match rr, hq with
  | .error ex, hq => exact hx pins H s ex s' I hq
  | .ok (.ret u), hq => exact Inv.after I hq
/-- f(e, ..) -/
theorem pe_g (c : Cal X.prog X.w X.K X.mg X.base k x ps sp) (hr : Room j X.A) (hk : k ≤ j) (hgd : X.A.guards = some []) (hg : Gl X x) (hx : ∀ σ, PassesAt (L2.CX X.prog X.w) X σ (E σ)) (ha : PA X (e :: es) t)
    (hdb : (x == ("__debug__" : Str)) = false := by decide) (he : starEach (e :: es) X.env = (false, eval e X.env) :: starEach es X.env := by rfl) (hpl : (backTo pos (starEach es X.env)).any (·.1) = false := by rfl) :
    PE X (.Call (.Name x p) (e :: es) [] pos) (tCallS sp E t) := by
  obtain ⟨f, fd, F, hm, kp, hb⟩ := c.ex
  constructor
  intro pins s σ H Q I h
  refine wpAny_Call_Name_kw (ld_glob I hg hm ?_ hdb)
  refine PySem.W.callWith_K (h₀ := X.base) I.ok.mod.kin kp (thn (ha.run pos pins s σ H _ I h) ?_) he hpl
  rintro us s1 ⟨vs, H1, I1, r, q⟩
  exact ⟨I1.kIn, run_g F (hr.mono hk) hgd hb (hx σ) I1 r q⟩
/-- f() -/
theorem pe_g0 (c : Cal X.prog X.w X.K X.mg X.base k x ps sp) (hr : Room j X.A) (hk : k ≤ j) (hgd : X.A.guards = some []) (hg : Gl X x) (hx : ∀ σ, PassesAt (L2.CX X.prog X.w) X σ (E σ))
    (hdb : (x == ("__debug__" : Str)) = false := by decide) : PE X (.Call (.Name x p) [] [] pos) (tCallS sp E tNil) := by
  obtain ⟨f, fd, F, hm, kp, hb⟩ := c.ex
  constructor
  intro pins s σ H Q I h
  refine wpAny_Call_Name_kw (ld_glob I hg hm ?_ hdb)
  exact PySem.W.callWith_K0 I.kIn kp (run_g (us := []) F (hr.mono hk) hgd hb (hx σ) I .nil h)
end

end SL
set_option Elab.async false
set_option linter.all false
set_option maxRecDepth 100000
set_option maxHeartbeats 4000000
/-! SlB: text * int, [::-1] of texts and tuples, enumerate(text), least of three; operators whatever the values are. -/
namespace SL
open PySem PySem.Spec PyProof.Rows L2

/-- a text of these signs -/
abbrev tx (l : List Nat) : Str := ⟨l.toArray⟩
theorem tx_list (z : Str) : tx z.cps.toList = z := by
  obtain ⟨⟨l⟩⟩ := z
  rfl
theorem tx_len (l : List Nat) : (tx l).length = l.length := by simp [Str.length]
theorem tx_app (l m : List Nat) : tx l ++ tx m = tx (l ++ m) := by
  show Str.mk (l.toArray ++ m.toArray) = _
  simp
theorem tx_inj {l m : List Nat} (h : tx l = tx m) : l = m := by
  have := congrArg (fun z : Str => z.cps.toList) h
  simpa using this

/-! ### text * int -/
theorem fold_app : ∀ (ls : List (Array Nat)) (acc : Array Nat), (ls.foldl (· ++ ·) acc).toList = acc.toList ++ (ls.map Array.toList).flatten
  | [], acc => by simp
  | a :: r, acc => by
    rw [List.foldl_cons, fold_app r (acc ++ a)]
    simp
theorem mul_txt (l : List Nat) (n : Int) : Txt.mul (tx l) n = tx (List.replicate n.toNat l).flatten := by
  unfold Txt.mul
  by_cases h1 : n < 1
  · rw [if_pos h1]
    have : n.toNat = 0 := by omega
    rw [this]
    rfl
  · rw [if_neg h1]
    by_cases h2 : (n == 1 || (tx l).length == 0) = true
    · rw [if_pos h2]
      rcases Bool.or_eq_true_iff.mp h2 with h | h
      · have e : n = 1 := by simpa using h
        subst e
        simp [tx]
      · have e : l = [] := by
          have h' : (tx l).length = 0 := by simpa using h
          rw [tx_len] at h'
          exact List.length_eq_zero_iff.mp h'
        subst e
        simp [tx]
    · rw [if_neg h2]
      have e := fold_app (List.replicate n.toNat (tx l).cps) #[]
      have e2 : ((List.replicate n.toNat (tx l).cps).foldl (· ++ ·) #[]) = (List.replicate n.toNat l).flatten.toArray := by
        apply Array.ext'
        rw [e]
        simp [List.map_replicate]
      rw [e2]
def rMulS : R2 := fun x y H Q => ∃ (l : List Nat) (n : Int), x = .str (tx l) ∧ y = .int n ∧ n ≤ 1000000 ∧ -1000000 ≤ n ∧ l.length ≤ 1000000 ∧ l.length * n.toNat ≤ 16777216 ∧ Q (.str (tx (List.replicate n.toNat l).flatten)) H
theorem op_mulS {X : Cx} : OpR X (binaryOp .Mult) rMulS := by
  intro pins s σ H x y v u Q I rx ry h
  obtain ⟨l, n, rfl, rfl, h1, h2, hl, hz, q⟩ := h
  obtain ⟨t, rfl⟩ := rx
  obtain ⟨t', rfl⟩ := ry
  refine SB.mul ⟨?_, fun h3 h4 => ?_, fun h3 h4 => ?_⟩ fun t2 k => ⟨.str _, H, I.tok k, ⟨t2, rfl⟩, by rw [mul_txt]; exact q⟩
  · rw [decide_eq_false (by omega), decide_eq_false (by omega)]
    rfl
  · rw [tx_len]
    have hn : 1 ≤ n := by omega
    have : (l.length : Int) ≤ (2 ^ 63 - 1) / n := by
      rw [Int.le_ediv_iff_mul_le (by omega)]
      have h5 : (l.length : Int) * n ≤ 1000000 * 1000000 := Int.mul_le_mul (by omega) h1 (by omega) (by omega)
      omega
    omega
  · rw [tx_len]
    unfold Builtin.Str.tooLong
    have hs := sizeLine_eq
    first
      | (apply decide_eq_false; omega)
      | (simp; omega)

/-! ### least of three -/
theorem call_min3I {X : Cx} (hc : X.calm = true) : CallR X (.builtin "min") (fun xs H Q => ∃ i j k, xs = [.int i, .int j, .int k] ∧ Q (.int (min (min i j) k)) H) := by
  intro pins s σ H xs us Q I r h
  obtain ⟨i, j, k, rfl, q⟩ := h
  refine call_min3Nu hc pins s σ H _ us Q I r ⟨.int i, .int j, .int k, .int (min (min i j) k), rfl, ?_, q⟩
  have two : ∀ a b : Int, nuMin2 (.int a) (.int b) = some (.int (min a b)) := by
    intro a b
    unfold nuMin2
    have e : nuLt (.int b) (.int a) = some (decide (b < a)) := by first | rfl | (unfold nuLt; rfl) | (simp [nuLt, nuCB])
    rw [e]
    show some (if decide (b < a) = true then V.int b else V.int a) = _
    by_cases h : b < a
    · rw [if_pos (decide_eq_true h)]
      congr 2
      omega
    · rw [if_neg (by simpa using h)]
      congr 2
      omega
  unfold nuMin3
  rw [two i j]
  exact two _ k

/-! ### [::-1] of texts and tuples -/
def tRevU (K : PySem.W.Frag) (te : TE) : TE := fun σ H Q => te σ H fun x H1 =>
  (∃ l : List Nat, x = .str (tx l) ∧ l.length ≤ 16777216 ∧ Q (.str (tx l.reverse)) H1) ∨
  (∃ a xs, x = .ref a ∧ SqT K H1 a xs ∧ ∀ p, H1 p = none → Q (.ref p) (upd H1 p (.tup xs.reverse)))
theorem getD_rev (l : List Nat) : ((List.range l.length).map fun k => l.toArray.getD (l.length - 1 - k) 0) = l.reverse := by
  apply List.ext_getElem
  · simp
  · intro i h1 h2
    have hi : i < l.length := by simpa using h1
    simp [Array.getD, show l.length - 1 - i < l.length by omega]
section
variable {prog : Program} {w : World} {A : Around} {E : Value → Shared → Prop} {s : Shared}
open HT in
theorem applied_rev {sl : Addr} {vl vu vs : Value} {n : Nat} {Q : Int × Int × Nat → Shared → Prop} (hs : s.heap.IsSliceOf sl vl vu vs) (pl : IsPart vl none) (pu : IsPart vu none) (ps : IsPart vs (some (-1)))
    (h : Q ((n : Int) - 1, -1, n) s) : wpAny (model prog w) A (Builtin.Slice.sliceApplied (.ref sl) (pure (n : Int))) Q E s := by
  obtain ⟨os, hos, hcs, hds⟩ := id hs
  unfold Builtin.Slice.sliceApplied Builtin.Slice.sliceFields
  refine wpAny_bind (wpAny_bind (wpAny_field hos hds (x := vl) rfl (wpAny_bind (wpAny_field hos hds (x := vu) rfl (wpAny_bind (wpAny_field hos hds (x := vs) rfl (wpAny_pure ?_)))))))
  refine wpAny_bind (slicePart_ ps ?_)
  show wpAny _ _ (if ((-1 : Int) == 0) = true then _ else _) _ _ s
  rw [if_neg (by decide)]
  refine wpAny_bind (slicePart_ pl (wpAny_bind (slicePart_ pu (wpAny_bind (wpAny_pure ?_)))))
  have e1 : Builtin.Slice.sliceAdjust none none (-1) (n : Int) = ((n : Int) - 1, -1) := rfl
  show wpAny _ _ (match Builtin.Slice.sliceAdjust none none (-1) (n : Int) with | (lo, hi) => pure (lo, (-1 : Int), Builtin.Slice.slicePlaces lo hi (-1))) _ _ s
  rw [e1]
  have e2 : Builtin.Slice.slicePlaces ((n : Int) - 1) (-1) (-1) = n := by
    unfold Builtin.Slice.slicePlaces
    rw [if_neg (by decide)]
    by_cases h0 : (n : Int) - 1 > -1
    · rw [if_pos h0]
      have : ((n : Int) - 1 - -1 - 1) / (- -1) = (n : Int) - 1 := by
        rw [show (- -1 : Int) = 1 from by decide, Int.ediv_one]
        omega
      rw [this]
      omega
    · rw [if_neg h0]
      omega
  show wpAny _ _ (pure ((n : Int) - 1, (-1 : Int), Builtin.Slice.slicePlaces ((n : Int) - 1) (-1) (-1))) _ _ s
  rw [e2]
  exact wpAny_pure h
theorem fmap_congr {α β : Type} {f g : α → Option β} : ∀ {l : List α}, (∀ a ∈ l, f a = g a) → l.filterMap f = l.filterMap g
  | [], _ => rfl
  | a :: r, h => by
    rw [List.filterMap_cons, List.filterMap_cons, h a List.mem_cons_self, fmap_congr fun b hb => h b (List.mem_cons_of_mem _ hb)]
theorem pick_rev (xs : Array Value) : ((List.range xs.size).filterMap fun (m : Nat) => xs[((xs.size : Int) - 1 + (m : Int) * -1).toNat]?).toArray = xs.toList.reverse.toArray := by
  have e : ∀ m ∈ List.range xs.size, xs[((xs.size : Int) - 1 + (m : Int) * -1).toNat]? = ((fun k => xs[k]?) ∘ fun k => xs.size - 1 - k) m := by
    intro m hm
    have : m < xs.size := List.mem_range.mp hm
    show _ = xs[xs.size - 1 - m]?
    congr 1
    omega
  rw [fmap_congr e, ← List.filterMap_map, PySem.W.krv_range, List.filterMap_reverse, PySem.W.krv_all]
open HT in
theorem getItem_tuple_rev {t sl : Addr} {items : Array Value} {vl vu vs : Value} {Q : Value → Shared → Prop} (ht : IsTup s.heap t items) (hs : s.heap.IsSliceOf sl vl vu vs) (pl : IsPart vl none) (pu : IsPart vu none) (ps : IsPart vs (some (-1)))
    (h : Q (.ref s.heap.objs.size) { s with heap := s.heap.push { cls := .type "tuple", data := .seq items.toList.reverse.toArray } })
    (hsz : items.size ≤ sizeLine) : wpAny (model prog w) A (getItem (.ref t) (.ref sl)) Q E s := by
  have fits : sizeOk (.seq items.toList.reverse.toArray) := by
    show items.toList.reverse.toArray.size ≤ sizeLine
    rw [List.size_toArray, List.length_reverse, Array.length_toList]
    exact hsz
  obtain ⟨os, hos, hcs, hds⟩ := id hs
  have isS : s.TypeIs (.ref sl) "slice" := ⟨os, hos, hcs⟩
  unfold getItem
  try with_reducible refine wpAny_holding ?_
  first | refine wpAny_bind (wpAny_pure ?_) | skip
  refine wpAny_bind (wpAny_sequenceKey ht.typeIs (by decide) ?_)
  refine wpAny_bind (wpAny_callSpecial?_slot (name := Str.ofString "__getitem__") ht.typeIs PyProof.Rows.slot_tuple_getitem
    (wpAny_call_entry PyProof.Rows.slot_tuple_getitem ht.typeIs entry_tuple_getitem ?_ (args_tuple_getitem _ _)))
  show wpAny _ _ (Builtin.Tuple.tupleItemsOf (.ref t) >>= _) _ _ s
  refine wpAny_bind (tupleItemsOf_ ht ?_)
  refine wpAny_bind (wpAny_typeOf isS ?_)
  rw [if_pos (by decide)]
  refine wpAny_bind (applied_rev hs pl pu ps ?_)
  have no : ¬ ((((items.size : Int) - 1 == 0) && (-1 : Int) == 1 && items.size == items.size) = true) := by simp
  show wpAny _ _ (if (((items.size : Int) - 1 == 0) && (-1 : Int) == 1 && items.size == items.size) = true then _ else _) _ _ s
  rw [if_neg no, pick_rev]
  first
    | exact wpAny_bind (m := Builtin.Tuple.tupleExact _) (wpAny_newObj_type (wpAny_pure ⟨_, rfl, wpAny_pure h⟩) fits)
    | exact wpAny_bind (m := Builtin.Tuple.tupleExact _) (wpAny_newObj_type (wpAny_bind (wpAny_pure (wpAny_pure ⟨_, rfl, wpAny_pure h⟩))) fits)
    | exact wpAny_bind (wpAny_bind (m := Builtin.Tuple.tupleExact _) (wpAny_newObj_type (wpAny_pure (wpAny_pure ⟨_, rfl, wpAny_pure h⟩)) fits))
    | exact wpAny_bind (wpAny_bind (m := Builtin.Tuple.tupleExact _) (wpAny_newObj_type (wpAny_pure ⟨_, rfl, wpAny_pure h⟩) fits))
end
theorem pe_revU {X : Cx} {e : Expr} {te : TE} {k : Nat} {p1 p2 p3 pos : Pos} (he : PE X e te) :
    PE X (.Subscript e (.Slice none none (some (.UnaryOp .USub (.Constant (.int 1) k p1) p2)) p3) pos) (tRevU X.K te) := by
  constructor
  intro pins s σ H Q I h
  refine Subscript_ (thn (he.run pins s σ H _ I h) ?_)
  rintro v s1 ⟨x, H1, I1, r1, q1⟩
  have st : PO X (some (.UnaryOp .USub (.Constant (.int 1) k p1) p2)) (tPart (tUn (rU fun i => .int (-i)) (tC (.int 1)))) := po_some (pe_un un_neg pe_int)
  refine wpAny_Slice (thn (po_none.run pins s1 σ H1 (fun o H2 => o = none ∧ H2 = H1) I1 ⟨rfl, rfl⟩) ?_)
  rintro vl s2 ⟨o2, H2, I2, pl, rfl, rfl⟩
  refine thn (po_none.run pins s2 σ H2 (fun o H3 => o = none ∧ H3 = H2) I2 ⟨rfl, rfl⟩) ?_
  rintro vu s3 ⟨o3, H3, I3, pu, rfl, rfl⟩
  refine thn (st.run pins s3 σ H3 (fun o H4 => o = some (-1) ∧ H4 = H3) I3 ⟨1, rfl, -1, rfl, rfl, rfl⟩) ?_
  rintro vs s4 ⟨o4, H4, I4, ps, rfl, rfl⟩
  have I5 : Inv X pins σ H4 { s4 with heap := s4.heap.push { cls := .type "slice", data := .fields #[vl, vu, vs] } } := I4.kept (t' := s4.toks) fun b ob q => Heap.get?_push_of_some _ q
  rcases q1 with ⟨l, rfl, hz, q⟩ | ⟨a, xs, rfl, hx, q⟩
  · obtain ⟨t, rfl⟩ := r1
    refine tail_any (ops := [.str (tx l) t, .ref s4.heap.objs.size]) (typeIs_str _ _ _) F.slot_str_getitem.lookup ?_ (by with_unfolding_all rfl)
    obtain ⟨l1, rfl, e1⟩ := IsPart.raw pl
    obtain ⟨u1, rfl, e2⟩ := IsPart.raw pu
    obtain ⟨w1, rfl, e3⟩ := IsPart.raw ps
    obtain rfl : l1 = none := by cases l1 with | none => rfl | some _ => cases e1
    obtain rfl : u1 = none := by cases u1 with | none => rfl | some _ => cases e2
    obtain ⟨i, tk, rfl⟩ : ∃ i tk, w1 = some (i, tk) := by cases w1 with | none => cases e3 | some p => exact ⟨p.1, p.2, rfl⟩
    obtain rfl : i = -1 := Option.some.inj e3
    refine wpAny_getItem_str_slice (l := none) (u := none) (st := some (-1, tk)) ⟨_, Heap.get?_push_size _ rfl, rfl, rfl⟩ rfl ?_
    have ee : (tx l.reverse) = ⟨((Builtin.Str.strSliceIndices none none (-1) (tx l).length).filterMap ((tx l).cps[·]?)).toArray⟩ := by
      rw [PyProof.Rows.picked_rev, PyProof.Rows.filterMap_get, List.map_map]
      · rw [tx_len, ← getD_rev l]
        rfl
      · intro i hi
        obtain ⟨k, hk, rfl⟩ := List.mem_map.mp hi
        have hk' : k < (tx l).length := List.mem_range.mp hk
        show (tx l).length - 1 - k < (tx l).length
        omega
    have hl : (tx l.reverse).length ≤ sizeLine := by
      rw [tx_len, List.length_reverse, sizeLine_eq]
      exact hz
    unfold sliceMade
    have no : ¬ ((((some ((-1 : Int), tk)).map (·.1)).getD 1 == 1 && (slicePicked (tx l) none none (some (-1, tk))).length == (tx l).length) = true) := by
      have : (((some ((-1 : Int), tk)).map (·.1)).getD 1 == 1) = false := rfl
      rw [this]
      simp
    rw [if_neg no]
    have em : slicePicked (tx l) none none (some (-1, tk)) = Builtin.Str.strSliceIndices none none (-1) (tx l).length := rfl
    rw [em, ← ee]
    exact ⟨hl, .str _, H4, I5.tok _, ⟨_, rfl⟩, q⟩
  · cases r1
    obtain ⟨its, r, ht, hz⟩ := I5.tuple hx
    refine tail_any (ops := [.ref a, .ref s4.heap.objs.size]) ht.typeIs (PyProof.Rows.slot_tuple_getitem.lookup) ?_ (by with_unfolding_all rfl)
    have hl := r.length
    refine getItem_tuple_rev ht (Heap.IsSliceOf.new _ vl vu vs) pl pu ps ?_ (by rw [List.size_toArray]; omega)
    refine ⟨.ref _, _, I5.laid (t' := s4.toks) (o := .tup xs.reverse) (fun b ob q => Heap.get?_push_of_some _ q) (Nat.le_refl _) ?_, rfl, q _ (I5.hok.fresh (Nat.le_refl _))⟩
    exact ⟨by rw [List.length_reverse]; exact hz, _, r.reverse, IsTup.new _ _⟩
end SL
set_option Elab.async false
set_option linter.all false
set_option maxRecDepth 100000
set_option maxHeartbeats 4000000
/-! SlC: for i, c in enumerate(text). -/
namespace SL
open PySem PySem.Spec PyProof.Rows L2
/-- the signs of a text, each in a new pair with its place -/
def Ites (z : Str) : It :=
  ⟨fun i _ => i < z.cps.size, fun i H v H' => ∃ T c, v = .ref T ∧ H T = none ∧ H' = upd H T (.tup [.int (i : Nat), .str ⟨#[c]⟩]) ∧ z.cps[i]? = some c, fun i _ => i = z.cps.size⟩
theorem drawn {X : Cx} (hh : X.A.in1.handled = none) (it : Addr) (z : Str) (t : Tok) (ty : String) (hty : ty = "str_ascii_iterator" ∨ ty = "str_iterator") :
    Draws X.prog X.w X.A.in1 it [it] z.cps.size (SignAt z) (fun i h => h.IsStrIter it ty z t i) := by
  rcases hty with e | e
  · rw [e]
    exact Draws.strAscii hh it z t
  · rw [e]
    exact Draws.strWide hh it z t
theorem turn_enumS {P : Program} {w : World} {K : PySem.W.Frag} {elts : List Expr} {kk : Nat} {tpos : Pos} (z : Str) (t : Tok) (ty : String) (hty : ty = "str_ascii_iterator" ∨ ty = "str_iterator") (e it : Addr) :
    Turn P w K (.Tuple elts kk tpos) (Ites z) [e, it] e (fun i h => (∃ old, IsEnum h e it ((i : Nat) : Int) old) ∧ h.IsStrIter it ty z t i ∧ e ≠ it) where
  mem := by simp
  obj := fun i h st b hb => by
    obtain ⟨⟨old, he⟩, ⟨o, ho, hc, hd⟩, _⟩ := st
    have two : b = e ∨ b = it := by simpa using hb
    cases two with
    | inl q => rw [q]; exact ⟨_, he, fun v y => nomatch y⟩
    | inr q => rw [q]; exact ⟨o, ho, fun v y => by rw [hd] at y; cases y⟩
  keep := fun i h h' st k => by
    obtain ⟨⟨old, he⟩, ⟨o, ho, hc, hd⟩, hne⟩ := st
    exact ⟨⟨old, k e (by simp) _ he⟩, ⟨o, k it (by simp) o ho, hc, hd⟩, hne⟩
  item := by
    intro X hP hw hK hc i pins s σ H E I hf st hg
    subst hP hw hK
    obtain ⟨⟨old, he⟩, hit, hne⟩ := st
    have hel : e < s.heap.objs.size := Heap.lt_size he
    have hil : it < s.heap.objs.size := by obtain ⟨_, q, _⟩ := hit; exact Heap.lt_size q
    have dr := drawn (X := X) (I.ok.hd hc) it z t ty hty
    refine wpAny_pyNext_enum_itemD dr he hit hg hne (by simpa using hne) ?_
    intro x h' tk hx ho hit' hT hsz hk
    obtain ⟨c, u, hcx, rfl⟩ := hx
    refine ⟨_, rfl, wpAny_letOwnedTupleGo_enum (s := { s with heap := h', toks := tk + 1 }) ho ?_⟩
    intro h'' he' sb
    have hT2 : h''.get? s.heap.objs.size = some { cls := .type "tuple", data := .seq #[.int i tk, .str ⟨#[c]⟩ u] } := (sb.2 _ (Nat.ne_of_gt hel)).trans hT
    have new : ObjOk X.prog X.w (upd H s.heap.objs.size (.tup [.int (i : Nat), .str ⟨#[c]⟩])) h'' s.heap.objs.size (.tup [.int (i : Nat), .str ⟨#[c]⟩]) :=
      ⟨by show 2 ≤ sizeLine; decide, [.int i tk, .str ⟨#[c]⟩ u], .cons ⟨_, rfl⟩ (.cons ⟨_, rfl⟩ .nil), ⟨_, hT2, rfl, _, rfl⟩⟩
    have I1 : Inv X pins σ (upd H s.heap.objs.size (.tup [.int (i : Nat), .str ⟨#[c]⟩])) { s with heap := h'', toks := tk + 1 } :=
      I.turnedNew (ch := [e, it]) (fun b ob hb q => (sb.2 b (fun y => hb (by simp [y]))).trans (hk b ob (fun y => hb (by simp [y])) (fun y => hb (by simp [y])) q)) hf (Nat.le_refl _) new
    refine ⟨.ref s.heap.objs.size, _, I1, rfl, ⟨_, c, rfl, I.hok.fresh (Nat.le_refl _), rfl, hcx⟩, ⟨⟨.str ⟨#[c]⟩ u, ?_⟩, ?_, hne⟩, fun b hb => ?_⟩
    · have e1 : ((i + 1 : Nat) : Int) = (i : Int) + 1 := by omega
      rw [e1]
      exact he'
    · obtain ⟨o, ho2, hc2, hd2⟩ := hit'
      exact ⟨o, (sb.2 it (Ne.symm hne)).trans ho2, hc2, hd2⟩
    · have lt : b < s.heap.objs.size := by
        have two : b = e ∨ b = it := by simpa using hb
        cases two with
        | inl q => rw [q]; exact hel
        | inr q => rw [q]; exact hil
      rw [upd_ne (Nat.ne_of_lt lt)]
      exact (hf b hb).1
  done := by
    intro X hP hw hK hc i pins s σ H E I hf st hg
    subst hP hw hK
    obtain ⟨⟨old, he⟩, hit, hne⟩ := st
    obtain ⟨f0, f1, f2, f3, f4, f5⟩ := hf it (by simp)
    have dr := drawn (X := X) (I.ok.hd hc) it z t ty hty
    have hi : i = z.cps.size := hg
    subst hi
    refine wpAny_pyNext_enum_endD dr he hit ?_
    intro h' eb
    exact ⟨rfl, I.turned (t' := s.toks) (fun b o hb q => eb b o hb q) f0 f1 f3 f4 f5⟩
  self := fun A i s Q E st h => by
    obtain ⟨⟨_, he⟩, _⟩ := st
    exact wpAny_pyIter_enum he h
def iEnumS (ta : TA) : TI := fun σ H R => ta σ H fun vs H1 => ∃ z, vs = [.str z] ∧ R (Ites z) H1
theorem pi_enumS {X : Cx} {e : Expr} {ta : TA} {p pos tpos : Pos} {elts : List Expr} {kk : Nat} (hg : Gl X "enumerate") (hm : X.mg "enumerate" = none) (ha : PA X [e] ta) (hs : starEach [e] X.env = [(false, eval e X.env)] := by rfl) :
    PI X (.Tuple elts kk tpos) (.Call (.Name "enumerate" p) [e] [] pos) (iEnumS ta) := by
  constructor
  intro pins s σ H R I h
  refine Call_ (ld_blt I hg hm boot_enumerate (PyProof.Rows.callWith_type1 (thn (ha.run pos pins s σ H _ I h) ?_) hs rfl))
  rintro us s1 ⟨vs, H1, I1, r1, z, rfl, q⟩
  obtain ⟨u, rfl, ru⟩ : ∃ u, us = [u] ∧ RelV (.str z) u := by
    cases r1 with
    | cons r rr =>
      cases rr
      exact ⟨_, rfl, r⟩
  obtain ⟨t, rfl⟩ := ru
  refine call_enumerate_str ?_
  intro h' he hit hsz hk
  refine wpAny_pyIter_enum he ?_
  have I2 : Inv X pins σ H1 { s1 with heap := h' } := I1.kept (t' := s1.toks) hk
  have hty : strIterType z = "str_ascii_iterator" ∨ strIterType z = "str_iterator" := by
    unfold strIterType
    split <;> simp
  refine ⟨s1.heap.objs.size + 1, [s1.heap.objs.size + 1, s1.heap.objs.size], _, _, H1, rfl, I2, turn_enumS z t _ hty (s1.heap.objs.size + 1) s1.heap.objs.size, ⟨⟨.none, he⟩, hit, Nat.succ_ne_self _⟩, fun b hb => ?_, q⟩
  have two : b = s1.heap.objs.size + 1 ∨ b = s1.heap.objs.size := by simpa using hb
  have hle : s1.heap.objs.size ≤ b := by
    cases two with
    | inl y => rw [y]; exact Nat.le_add_right _ _
    | inr y => rw [y]; exact Nat.le_refl _
  exact I1.fpOk hle (I1.hok.fresh hle)
end SL
set_option Elab.async false
set_option linter.all false
set_option maxRecDepth 100000
set_option maxHeartbeats 4000000
/-! SlD: operators whatever the values are, and each reading's step (w_..), to be taken from the left. -/
namespace SL
open PySem PySem.Spec PyProof.Rows L2
abbrev SSt := L2.St

/-! ### heaps -/
/-- all but p stands -/
def Fr (p : Addr) (H H' : Hp) : Prop := ∀ b o, H b = some o → b ≠ p → H' b = some o
theorem Fr.refl (p : Addr) (H : Hp) : Fr p H H := fun _ _ h _ => h
theorem Fr.trans {p : Addr} {H H1 H2 : Hp} (a : Fr p H H1) (b : Fr p H1 H2) : Fr p H H2 := fun c o h n => b c o (a c o h n) n
theorem Fr.of {p : Addr} {H H' : Hp} (a : Same H H') : Fr p H H' := fun c o h _ => a c o h
theorem Fr.put {p : Addr} {H H' : Hp} {o : HO} (a : Fr p H H') : Fr p H (upd H' p o) := fun c u h n => by rw [upd_ne n]; exact a c u h n
theorem Fr.new {p q : Addr} {H H' : Hp} {o : HO} (a : Fr p H H') (hq : H' q = none) (hp : ∃ u, H p = some u) : Fr p H (upd H' q o) := fun c u h n => by
  have n2 : c ≠ q := ne_of_none (a c u h n) hq
  rw [upd_ne n2]
  exact a c u h n
theorem Same.new {q : Addr} {H H' : Hp} {o : HO} (a : Same H H') (hq : H' q = none) : Same H (upd H' q o) := fun c u h => by
  rw [upd_ne (ne_of_none (a c u h) hq)]
  exact a c u h
theorem same_new {q : Addr} {H : Hp} {o : HO} (hq : H q = none) : Same H (upd H q o) := Same.new (Same.refl H) hq
/-- a new list that grows -/
theorem Same.grow {q : Addr} {H H' : Hp} {o : HO} (a : Same H H') (hq : H q = none) : Same H (upd H' q o) := fun c u h => by
  rw [upd_ne (ne_of_none h hq)]
  exact a c u h
theorem Same.none {H H' : Hp} {q : Addr} (a : Same H H') (hq : H' q = none) : H q = none := a.free hq
theorem rd_new {H : Hp} {a p : Addr} {o u : HO} (hp : H p = none) (h : Rd H a u) : Rd (upd H p o) a u := by
  rcases h with h | ⟨x, h⟩
  · exact .inl (by rw [upd_ne (ne_of_none h hp)]; exact h)
  · exact .inr ⟨x, by rw [upd_ne (ne_of_none h hp)]; exact h⟩
theorem sql_new {K : PySem.W.Frag} {H : Hp} {a p : Addr} {o : HO} {xs : List V} (hp : H p = none) (h : SqL K H a xs) : SqL K (upd H p o) a xs := by
  rcases h with h | h
  · exact .inl (rd_new hp h)
  · exact .inr h
theorem sqt_new {K : PySem.W.Frag} {H : Hp} {a p : Addr} {o : HO} {xs : List V} (hp : H p = none) (h : SqT K H a xs) : SqT K (upd H p o) a xs := by
  rcases h with h | h
  · exact .inl (rd_new hp h)
  · exact .inr h
theorem sql_upd {K : PySem.W.Frag} {H : Hp} {a p : Addr} {o : HO} {xs : List V} (n : a ≠ p) (h : SqL K H a xs) : SqL K (upd H p o) a xs := by
  rcases h with (h | ⟨x, h⟩) | h
  · exact .inl (.inl (by rw [upd_ne n]; exact h))
  · exact .inl (.inr ⟨x, by rw [upd_ne n]; exact h⟩)
  · exact .inr h
theorem sqt_upd {K : PySem.W.Frag} {H : Hp} {a p : Addr} {o : HO} {xs : List V} (n : a ≠ p) (h : SqT K H a xs) : SqT K (upd H p o) a xs := by
  rcases h with (h | ⟨x, h⟩) | h
  · exact .inl (.inl (by rw [upd_ne n]; exact h))
  · exact .inl (.inr ⟨x, by rw [upd_ne n]; exact h⟩)
  · exact .inr h
theorem Same.seqT {K : PySem.W.Frag} {H H' : Hp} {a : Addr} {xs : List V} (e : Same H H') (h : SqT K H a xs) : SqT K H' a xs := by
  rcases h with (h | ⟨o, h⟩) | h
  · exact .inl (.inl (e _ _ h))
  · exact .inl (.inr ⟨o, e _ _ h⟩)
  · exact .inr h

/-! ### operators -/
def rAddU (K : PySem.W.Frag) : R2 := fun x y H Q => (∃ i j, x = .int i ∧ y = .int j ∧ Q (.int (i + j)) H) ∨ (∃ i j, x = .str i ∧ y = .str j ∧ i.length + j.length ≤ sizeLine ∧ Q (.str (i ++ j)) H) ∨ rCat x y H Q ∨ rCatA K x y H Q
theorem uAdd {X : Cx} : OpR X (binaryOp .Add) (rAddU X.K) := op_add.or (op_add_str.or (op_cat.or op_catA))
def rMulU : R2 := fun x y H Q => (∃ i j, x = .int i ∧ y = .int j ∧ CMul i j ∧ Q (.int (i * j)) H) ∨ rMulS x y H Q
theorem uMul {X : Cx} : OpR X (binaryOp .Mult) rMulU := op_mul.or op_mulS
def rSubU : R2 := fun x y H Q => ∃ i j, x = .int i ∧ y = .int j ∧ Q (.int (i - j)) H
theorem uSub {X : Cx} : OpR X (binaryOp .Sub) rSubU := op_sub
def rModU : R2 := fun x y H Q => ∃ i j, x = .int i ∧ y = .int j ∧ 0 < j ∧ Q (.int (i % j)) H
theorem uMod {X : Cx} : OpR X (binaryOp .Mod) rModU := op_mod
def rDivU : R2 := fun x y H Q => ∃ i j, x = .int i ∧ y = .int j ∧ CDiv i j ∧ Q (.int (i / j)) H
theorem uDiv {X : Cx} : OpR X (binaryOp .FloorDiv) rDivU := op_fdiv
def rPowU : R2 := fun x y H Q => ∃ i j, x = .int i ∧ y = .int j ∧ CPow i j ∧ Q (.int (i ^ j.toNat)) H
theorem uPow {X : Cx} : OpR X (binaryOp .Pow) rPowU := op_pow
def rLtU : R2 := fun x y H Q => ∃ i j, x = .int i ∧ y = .int j ∧ Q (.bl (decide (i < j))) H
theorem uLt {X : Cx} : OpR X (compareOp .Lt) rLtU := op_lt
def rLeU : R2 := fun x y H Q => ∃ i j, x = .int i ∧ y = .int j ∧ Q (.bl (decide (i ≤ j))) H
theorem uLe {X : Cx} : OpR X (compareOp .LtE) rLeU := op_le
def rGtU : R2 := fun x y H Q => ∃ i j, x = .int i ∧ y = .int j ∧ Q (.bl (decide (j < i))) H
theorem uGt {X : Cx} : OpR X (compareOp .Gt) rGtU := op_gt
def rGeU : R2 := fun x y H Q => ∃ i j, x = .int i ∧ y = .int j ∧ Q (.bl (decide (j ≤ i))) H
theorem uGe {X : Cx} : OpR X (compareOp .GtE) rGeU := op_ge
def rEqU (K : PySem.W.Frag) : R2 := fun x y H Q => rEq x y H Q ∨ rEqD K x y H Q
theorem uEq {X : Cx} {k : Nat} (hr : Room k X.A) : OpR X (compareOp .Eq) (rEqU X.K) := op_eq.or (op_eqD hr.units)
def rNeU (K : PySem.W.Frag) : R2 := fun x y H Q => rNe x y H Q ∨ rNeD K x y H Q
theorem uNe {X : Cx} {k : Nat} (hr : Room k X.A) : OpR X (compareOp .NotEq) (rNeU X.K) := op_ne.or (op_neD hr.units)
def rInU (K : PySem.W.Frag) : R2 := fun x y H Q => (∃ (c : Nat) (z : Str), x = .str ⟨#[c]⟩ ∧ y = .str z ∧ Q (.bl (decide (c ∈ z.cps.toList))) H) ∨ rIn K false x y H Q
theorem uIn {X : Cx} : OpR X (compareOp .In) (rInU X.K) := op_in_sign.or op_in_seq
def rSlU (K : PySem.W.Frag) : V → Option Int → Option Int → Hp → VK → Prop := fun x lo hi H Q => rSlL K x lo hi H Q ∨ rSlS x lo hi H Q ∨ rSlA K x lo hi H Q
theorem uSl {X : Cx} : SlR X (rSlU X.K) := sl_list.or (sl_str.or sl_tupA)
/-- a written text, by its signs -/
theorem pe_tx {X : Cx} {x : Str} {j : Nat} {pos : Pos} (l : List Nat) (h : x = tx l) : PE X (.Constant (.str x) j pos) (tC (.str (tx l))) := by
  rw [h]
  exact pe_str

/-! ### the steps -/
section
variable {K : PySem.W.Frag} {σ : SSt} {H : Hp} {Q : VK} {D : Ends} {ta tb tc te to : TE} {t tr tk : TA} {tt tu : TT} {t1 t2 : TS} {r : R2} {i j k : Int} {n m : Nat} {b c : Bool} {v w : V} {l z : List Nat} {p q a : Addr} {xs ys zs : List V} {sp : Sp} {E : SSt → XK}
theorem w_var (h : σ[n]? = some (some v)) (q : Q v H) : tVar n σ H Q := ⟨v, h, q⟩
theorem w_c (q : Q v H) : tC v σ H Q := q
theorem w_op (q : ta σ H fun x H1 => tb σ H1 fun y H2 => r x y H2 Q) : tOp r ta tb σ H Q := q
theorem w_un {u : V → Hp → VK → Prop} (q : ta σ H fun x H1 => u x H1 Q) : tUn u ta σ H Q := q
theorem w_neg (q : Q (.int (-i)) H) : rU (fun i => .int (-i)) (.int i) H Q := ⟨i, rfl, q⟩
theorem w_nil {Q : List V → Hp → Prop} (q : Q [] H) : tNil σ H Q := q
theorem w_cons {Q : List V → Hp → Prop} (q : ta σ H fun x H1 => tr σ H1 fun xs H2 => Q (x :: xs) H2) : tCons ta tr σ H Q := q
theorem w_call (q : t σ H fun vs H1 => sp vs H1 Q (E σ)) : tCallS sp E t σ H Q := q
theorem w_cb {u : List V → Hp → VK → Prop} (q : t σ H fun vs H1 => u vs H1 Q) : tCB u t σ H Q := q
theorem w_bm {T : String} {u : V → List V → Hp → VK → Prop} (q : to σ H fun x H1 => tyV K T x H1 ∧ t σ H1 fun xs H2 => u x xs H2 Q) : tBM K T u to t σ H Q := q
theorem w_bm0 {T : String} {u : V → List V → Hp → VK → Prop} (q : to σ H fun x H1 => tyV K T x H1 ∧ u x [] H1 Q) : tBM0 K T u to σ H Q := q
theorem w_m1 {u : V → List V → Hp → VK → Prop} (q : to σ H fun x H1 => (∃ a, x = .str a) ∧ te σ H1 fun y H2 => u x [y] H2 Q) : tM1 u to te σ H Q := q
theorem w_test {Q : Bool → Hp → Prop} (q : te σ H fun x H' => ∃ k, x = .bl k ∧ Q k H') : tTest te σ H Q := q
theorem w_B {Q : Bool → Hp → Prop} (q : te σ H fun x H' => ∃ k, x = .bl k ∧ Q k H') : tB te σ H Q := q
theorem w_k {Q : Bool → Prop} (q : Q b) : ∃ k, V.bl b = .bl k ∧ Q k := ⟨b, rfl, q⟩
theorem w_and {Q : Bool → Hp → Prop} (q : tt σ H fun c H1 => if c = true then tu σ H1 Q else Q false H1) : tAnd tt tu σ H Q := q
theorem w_or {Q : Bool → Hp → Prop} (q : tt σ H fun c H1 => if c = true then Q true H1 else tu σ H1 Q) : tOr tt tu σ H Q := q
theorem w_not {Q : Bool → Hp → Prop} (q : tt σ H fun c H1 => Q (!c) H1) : tNot tt σ H Q := q
theorem w_andV (q : ta σ H fun x H1 => ∃ c, x = .bl c ∧ if c = true then tb σ H1 Q else Q (.bl false) H1) : tAndV ta tb σ H Q := q
theorem w_orV (q : ta σ H fun x H1 => ∃ c, x = .bl c ∧ if c = true then Q (.bl true) H1 else tb σ H1 Q) : tOrV ta tb σ H Q := q
theorem w_notV (q : ta σ H fun x H1 => ∃ c, x = .bl c ∧ Q (.bl (!c)) H1) : tNotV ta σ H Q := q
theorem w_ifE (q : tt σ H fun c H1 => if c = true then ta σ H1 Q else tb σ H1 Q) : tIf tt ta tb σ H Q := q
theorem w_tup (q : t σ H fun xs H1 => xs.length ≤ sizeLine ∧ ∀ p, H1 p = none → Q (.ref p) (upd H1 p (.tup xs))) : tTup t σ H Q := q
theorem w_lst (q : t σ H fun xs H1 => xs.length ≤ sizeLine ∧ ∀ p, H1 p = none → Q (.ref p) (upd H1 p (.lst xs))) : tLst t σ H Q := q
theorem w_chain {r' : R2} (q : ta σ H fun x H1 => tb σ H1 fun y H2 => r x y H2 fun z H3 => ∃ k, z = .bl k ∧ (if k = true then tc σ H3 fun w' H4 => r' y w' H4 Q else Q (.bl false) H3)) : tChain r r' ta tb tc σ H Q := q
theorem w_sl {u : V → Option Int → Option Int → Hp → VK → Prop} {tl th : TO} (q : te σ H fun x H1 => tl σ H1 fun lo H2 => th σ H2 fun hi H3 => u x lo hi H3 Q) : tSl u te tl th σ H Q := q
theorem w_np {Q : Option Int → Hp → Prop} (q : Q none H) : tNoPart σ H Q := q
theorem w_part {Q : Option Int → Hp → Prop} (q : te σ H fun x H1 => ∃ i, x = .int i ∧ Q (some i) H1) : tPart te σ H Q := q
theorem w_i {Q : Int → Prop} (q : Q i) : ∃ k, V.int i = .int k ∧ Q k := ⟨i, rfl, q⟩
/-! statements -/
theorem w_seq (q : t1 { D with nx := t2 D } σ H) : tSeq t1 t2 D σ H := q
theorem w_next (q : D.nx σ H) : tNext D σ H := q
theorem w_brk (q : D.bk σ H) : tBreak D σ H := q
theorem w_cont (q : D.ct σ H) : tCont D σ H := q
theorem w_asg {g : TG} (q : te σ H fun x H1 => g x σ H1 D.nx) : tAsg te g D σ H := q
theorem w_name {Q : SSt → Hp → Prop} (q : Q (σ.set n (some v)) H) : gName n v σ H Q := q
theorem w_par {t : TA} (q : t σ H fun vs H1 => ∃ v w, vs = [v, w] ∧ D.nx ((σ.set n (some v)).set m (some w)) H1) : tPar n m t D σ H := q
theorem w_two {Q : V → V → Prop} (q : Q v w) : ∃ x y, [v, w] = [x, y] ∧ Q x y := ⟨v, w, rfl, q⟩
theorem w_ret (q : te σ H D.rt) : tRet te D σ H := q
theorem w_retN (q : D.rt .non H) : tRetN D σ H := q
theorem w_drop (q : te σ H fun _ H1 => D.nx σ H1) : tDrop te D σ H := q
theorem w_ifS (q : tt σ H fun b H1 => if b = true then t1 D σ H1 else t2 D σ H1) : tIfS tt t1 t2 D σ H := q
theorem w_gtup {tg : TGs} {Q : SSt → Hp → Prop} (q : ∃ a xs, v = .ref a ∧ SqT K H a xs ∧ xs.length = n ∧ tg xs σ H Q) : gTup K n tg v σ H Q := q
theorem w_gnil {Q : SSt → Hp → Prop} (q : Q σ H) : gNil [] σ H Q := ⟨rfl, q⟩
theorem w_gcons {g : TG} {gs : TGs} {Q : SSt → Hp → Prop} (q : g v σ H fun σ' H' => gs xs σ' H' Q) : gCons g gs (v :: xs) σ H Q := ⟨v, xs, rfl, q⟩
theorem w_sub {ti : TE} {s : TSet} {Q : SSt → Hp → Prop} (q : to σ H fun o H1 => ti σ H1 fun i H2 => s o i v H2 fun H3 => Q σ H3) : gSub to ti s v σ H Q := q
theorem w_aug {ti : TIp} (h : σ[n]? = some (some v)) (q : te σ H fun y H1 => ti v y H1 fun z H2 => D.nx (σ.set n (some z)) H2) : tAug n te ti D σ H := ⟨v, h, q⟩
/-! values -/
theorem w_addI (q : Q (.int (i + j)) H) : rAddU K (.int i) (.int j) H Q := .inl ⟨i, j, rfl, rfl, q⟩
theorem w_addS (q : Q (.str (tx (l ++ z))) H) (h : l.length + z.length ≤ 16777216) : rAddU K (.str (tx l)) (.str (tx z)) H Q :=
  .inr (.inl ⟨tx l, tx z, rfl, rfl, by rw [tx_len, tx_len, sizeLine_eq]; exact h, by rw [tx_app]; exact q⟩)
theorem w_addL (h1 : H p = some (.lst xs)) (h2 : H q = some (.lst ys)) (h : xs.length + ys.length ≤ 16777216) (k : ∀ a, H a = none → Q (.ref a) (upd H a (.lst (xs ++ ys)))) : rAddU K (.ref p) (.ref q) H Q :=
  .inr (.inr (.inl ⟨p, q, xs, ys, rfl, rfl, h1, h2, by rw [sizeLine_eq]; exact h, k⟩))
theorem w_mulI (q : Q (.int (i * j)) H) (h : CMul i j) : rMulU (.int i) (.int j) H Q := .inl ⟨i, j, rfl, rfl, h, q⟩
theorem w_mulS (q : Q (.str (tx (List.replicate i.toNat l).flatten)) H) (h : i ≤ 1000000 ∧ -1000000 ≤ i ∧ l.length ≤ 1000000 ∧ l.length * i.toNat ≤ 16777216) : rMulU (.str (tx l)) (.int i) H Q :=
  .inr ⟨l, i, rfl, rfl, h.1, h.2.1, h.2.2.1, h.2.2.2, q⟩
theorem w_subI (q : Q (.int (i - j)) H) : rSubU (.int i) (.int j) H Q := ⟨i, j, rfl, rfl, q⟩
theorem w_modI (q : Q (.int (i % j)) H) (h : 0 < j) : rModU (.int i) (.int j) H Q := ⟨i, j, rfl, rfl, h, q⟩
theorem w_divI (q : Q (.int (i / j)) H) (h : 0 < j ∧ j < 1073741824) : rDivU (.int i) (.int j) H Q := ⟨i, j, rfl, rfl, h, q⟩
theorem w_powI (q : Q (.int (i ^ j.toNat)) H) (h : 0 ≤ j ∧ j ≤ 1000000 ∧ i.natAbs < 2 ^ 64) : rPowU (.int i) (.int j) H Q := ⟨i, j, rfl, rfl, h, q⟩
theorem w_lt (q : Q (.bl (decide (i < j))) H) : rLtU (.int i) (.int j) H Q := ⟨i, j, rfl, rfl, q⟩
theorem w_le (q : Q (.bl (decide (i ≤ j))) H) : rLeU (.int i) (.int j) H Q := ⟨i, j, rfl, rfl, q⟩
theorem w_gt (q : Q (.bl (decide (j < i))) H) : rGtU (.int i) (.int j) H Q := ⟨i, j, rfl, rfl, q⟩
theorem w_ge (q : Q (.bl (decide (j ≤ i))) H) : rGeU (.int i) (.int j) H Q := ⟨i, j, rfl, rfl, q⟩
theorem w_eqI (q : Q (.bl (decide (i = j))) H) : rEqU K (.int i) (.int j) H Q := .inl ⟨rfl, by
  have e : decide (V.int i = V.int j) = decide (i = j) := decide_eq_decide.mpr ⟨fun h => V.int.inj h, fun h => by rw [h]⟩
  rw [e]; exact q⟩
theorem w_neI (q : Q (.bl (!decide (i = j))) H) : rNeU K (.int i) (.int j) H Q := .inl ⟨rfl, by
  have e : decide (V.int i = V.int j) = decide (i = j) := decide_eq_decide.mpr ⟨fun h => V.int.inj h, fun h => by rw [h]⟩
  rw [e]; exact q⟩
theorem str_dec : decide (V.str (tx l) = V.str (tx z)) = decide (l = z) := decide_eq_decide.mpr ⟨fun h => tx_inj (V.str.inj h), fun h => by rw [h]⟩
theorem w_eqS (q : Q (.bl (decide (l = z))) H) : rEqU K (.str (tx l)) (.str (tx z)) H Q := .inl ⟨rfl, by rw [str_dec]; exact q⟩
theorem w_neS (q : Q (.bl (!decide (l = z))) H) : rNeU K (.str (tx l)) (.str (tx z)) H Q := .inl ⟨rfl, by rw [str_dec]; exact q⟩
theorem w_ixL (h : SqL K H p xs) (hi : atI xs i = some v) (q : Q v H) : rIx K (.ref p) (.int i) H Q := .inl ⟨p, xs, i, v, rfl, rfl, h, hi, q⟩
theorem w_ixT (h : SqT K H p xs) (hi : atI xs i = some v) (q : Q v H) : rIx K (.ref p) (.int i) H Q := .inr (.inl ⟨p, xs, i, v, rfl, rfl, h, hi, q⟩)
theorem w_ixS {c : Nat} (hi : atI l i = some c) (q : Q (.str (tx [c])) H) (h : l.length ≤ 16777216) : rIx K (.str (tx l)) (.int i) H Q :=
  .inr (.inr ⟨tx l, i, c, rfl, rfl, by rw [tx_len, sizeLine_eq]; exact h, hi, q⟩)
theorem w_lenS (q : Q (.int (l.length : Int)) H) (h : l.length ≤ 16777216) : (fun xs H Q => ∃ x n, xs = [x] ∧ LenV K x H n ∧ Q (.int (n : Nat)) H : List V → Hp → VK → Prop) [.str (tx l)] H Q :=
  ⟨_, l.length, rfl, ⟨by rw [tx_len, sizeLine_eq]; exact h, (tx_len l).symm⟩, q⟩
theorem w_lenL (h : SqL K H p xs) (q : Q (.int (xs.length : Int)) H) : (fun xs H Q => ∃ x n, xs = [x] ∧ LenV K x H n ∧ Q (.int (n : Nat)) H : List V → Hp → VK → Prop) [.ref p] H Q :=
  ⟨_, xs.length, rfl, .inl ⟨xs, h, rfl⟩, q⟩
theorem w_lenT (h : SqT K H p xs) (q : Q (.int (xs.length : Int)) H) : (fun xs H Q => ∃ x n, xs = [x] ∧ LenV K x H n ∧ Q (.int (n : Nat)) H : List V → Hp → VK → Prop) [.ref p] H Q :=
  ⟨_, xs.length, rfl, .inr ⟨xs, h, rfl⟩, q⟩
end
end SL
set_option Elab.async false
set_option linter.all false
set_option maxRecDepth 100000
set_option maxHeartbeats 4000000
/-! SlE: the defs of a text, the end of a law, built-ins whatever the values are. -/
namespace SL
open PySem PySem.Spec PyProof.Rows L2
/-- a def of the text stands under its name -/
structure DefAt (K : PySem.W.Frag) (mg : Str → Option Value) (x : Str) (st : Stmt) (ps : List Str) : Prop where
  ex : ∃ (f : Addr) (fd : FuncData), Fun K x x st f fd ∧ mg x = some (.ref f) ∧ ∀ (s : Shared) (us : List Value), us.length = ps.length → BindsTo s fd ⟨us, []⟩ (ps.zip us)
theorem DefAt.of {K : PySem.W.Frag} {mg : Str → Option Value} {x : Str} {st : Stmt} {ps : List Str} (f : Addr) (fd : FuncData) (F : Fun K x x st f fd) (hm : mg x = some (.ref f))
    (hb : ∀ (s : Shared) (us : List Value), us.length = ps.length → BindsTo s fd ⟨us, []⟩ (ps.zip us)) : DefAt K mg x st ps := ⟨⟨f, fd, F, hm, hb⟩⟩
abbrev E0s : SSt → XK := fun _ => E0
theorem noX {X : Cx} : ∀ σ, PassesAt (L2.CX X.prog X.w) X σ (E0s σ) := fun σ _ _ _ _ _ _ h => by
  obtain ⟨_, _, _, _, _, _, _, _, _, _, _, _, z⟩ := h
  exact z.elim
section
variable {P : Program} {w : World} {K : PySem.W.Frag} {mg : Str → Option Value} {base : Heap} {x : Str} {st : Stmt} {N ps : List Str} {k : Nat} {sp : Sp}
theorem fn0 {f : Addr} {fd : FuncData} (F : Fun K x x st f fd) (S : FnScope N ps (defScope st)) (len : ∀ vs H Q E, sp vs H Q E → vs.length = ps.length)
    (hbody : ∀ (cdv : Value) (f : Addr) (A : Around) (outer : List Env) (s : Shared) (H : Hp) (vs : List V) (Q : VK) (E : XK),
      Room k (A.deeper (envOfC x (defScope st) s.heap.objs.size f cdv)) → (A.deeper (envOfC x (defScope st) s.heap.objs.size f cdv)).guards = some [] → sp vs H Q E →
      ∃ t, PSs (cxOf (L2.CX P w) P w K mg base N x (defScope st) f cdv A outer s H E).nox (defBody st) t ∧ t { nx := fun _ H' => Q .non H', rt := Q } (start N vs) H) : FnG P w K mg base (k + 1) f fd ps sp :=
  fnG_of F S len fun cdv A outer s H vs Q E hr hg h => by
    obtain ⟨t, h1, h2⟩ := hbody cdv f A outer s H vs Q E hr hg h
    exact ⟨t, h1.nox, h2⟩
/-- a def that lets nothing out -/
theorem cal0 (D : DefAt K mg x st ps) (S : FnScope N ps (defScope st)) (len : ∀ vs H Q E, sp vs H Q E → vs.length = ps.length)
    (hbody : ∀ (cdv : Value) (f : Addr) (A : Around) (outer : List Env) (s : Shared) (H : Hp) (vs : List V) (Q : VK) (E : XK),
      Room k (A.deeper (envOfC x (defScope st) s.heap.objs.size f cdv)) → (A.deeper (envOfC x (defScope st) s.heap.objs.size f cdv)).guards = some [] → sp vs H Q E →
      ∃ t, PSs (cxOf (L2.CX P w) P w K mg base N x (defScope st) f cdv A outer s H E).nox (defBody st) t ∧ t { nx := fun _ H' => Q .non H', rt := Q } (start N vs) H) : Cal P w K mg base (k + 1) x ps sp := by
  obtain ⟨f, fd, F, hm, hb⟩ := D.ex
  exact ⟨f, fd, fn0 F S len hbody, hm, F.kp, hb⟩
/-- a def that may raise -/
theorem calX (D : DefAt K mg x st ps) (S : FnScope N ps (defScope st)) (len : ∀ vs H Q E, sp vs H Q E → vs.length = ps.length)
    (hbody : ∀ (cdv : Value) (f : Addr) (A : Around) (outer : List Env) (s : Shared) (H : Hp) (vs : List V) (Q : VK) (E : XK),
      Room k (A.deeper (envOfC x (defScope st) s.heap.objs.size f cdv)) → (A.deeper (envOfC x (defScope st) s.heap.objs.size f cdv)).guards = some [] → sp vs H Q E →
      ∃ t, PSs (cxOf (L2.CX P w) P w K mg base N x (defScope st) f cdv A outer s H E) (defBody st) t ∧ t { nx := fun _ H' => Q .non H', rt := Q } (start N vs) H) : Cal P w K mg base (k + 1) x ps sp := by
  obtain ⟨f, fd, F, hm, hb⟩ := D.ex
  exact ⟨f, fd, fnG_of F S len fun cdv A outer s H vs Q E hr hg h => hbody cdv f A outer s H vs Q E hr hg h, hm, F.kp, hb⟩
end

/-! ### the end of a law -/
/-- the law's call, from the heap behind the top; H tracks nothing but the script -/
theorem law_enter {P : Program} {w : World} {K : PySem.W.Frag} {mg mb : Str → Option Value} {k : Nat} {fa a : Addr} {fd : FuncData} {x : Str} {sp : Sp} {s₁ : Shared} {vs : List Value} {H : Hp}
    (KX : K.In s₁.heap) (hns : s₁.heap.Ns mainGlobals mg) (hb : s₁.heap.Ns builtinsNs mb) (hbb : ∀ x : Str, x ≠ "__name__" → mb x = bootBuiltins x) (hlim : s₁.heap.NoLimit) (hg : s₁.gens = #[])
    (ha : s₁.heap.get? a = some { cls := .type "list", data := .seq vs.toArray }) (hr : Room k callerA)
    (F : ∀ base : Heap, K.In base → base.Ns mainGlobals mg → FnG P w K mg base k fa fd [x] sp) (hbind : ∀ (s : Shared) (u : Value), BindsTo s fd ⟨[u], []⟩ [(x, u)])
    (hO : Only H) (hok : HOk P w H s₁.heap) (hA : ∀ b, H b ≠ none → b = a) (hK : H a ≠ none → K.lookup a = none)
    (hsp : sp [.ref a] H (fun v _ => v = .bl true) fun _ _ _ => False) :
    codeAny (model P w) callerA (.call (.ref fa) ⟨[.ref a], []⟩) (fun r s' => r = .ok (.ret (.bool true)) ∧ OldK s₁.heap s'.heap ∧ s'.os = s₁.os ∧ AllBare s'.gens) s₁ := by
  have only : ∀ b, H b = none ∨ b = a := fun b => by
    cases q : H b with
    | none => exact Or.inl rfl
    | some _ => exact Or.inr (hA b (by rw [q]; exact Option.some_ne_none _))
  have hid : ∀ {b : Addr} {o : Obj}, s₁.heap.get? b = some o → H b = none → (hidT s₁.heap H).get? b = some o := fun e n => hidT_get e n
  have notDict : ∀ {b : Addr} {o : Obj} {es : Array DictEntry} {ep : Nat}, s₁.heap.get? b = some o → o.data = .dict es ep → H b = none := fun {b o es ep} e d => by
    rcases only b with q | q
    · exact q
    · rw [q, ha] at e
      cases e
      cases (show Data.seq vs.toArray _ = Data.dict es ep from d)
  have keepNs : ∀ {b : Addr} {m : Str → Option Value}, s₁.heap.Ns b m → (hidT s₁.heap H).Ns b m := fun {b m} ⟨o, es, ep, e, d, r⟩ => ⟨o, es, ep, hid e (notDict e d), d, r⟩
  have kb : K.In (hidT s₁.heap H) := fun b o e => hid (KX b o e) (by
    rcases only b with q | q
    · exact q
    · cases z : H b with
      | none => rfl
      | some u =>
        rw [q] at z e
        rw [hK (by rw [z]; exact Option.some_ne_none _)] at e
        cases e)
  have lim : (hidT s₁.heap H).NoLimit := by
    obtain ⟨mc, h1, h2⟩ := hlim
    exact ⟨mc, keepNs h1, h2⟩
  have md : Mod K mg (hidT s₁.heap H) := ⟨kb, keepNs hns, ⟨mb, keepNs hb, hbb⟩, lim⟩
  have e0 : Env0 P w K mg (hidT s₁.heap H) callerA [] s₁ H :=
    ⟨rfl, md, fun b o e => of_hidT e, Nat.le_of_eq (hidT_size _ _), trivial, fun b z => absurd (show b ∈ ([] : List Addr) from z) List.not_mem_nil, hok, AllBare.of_eq hg⟩
  refine codeAny_mono ((F _ kb (keepNs hns)).run callerA [] s₁ H ⟨[.ref a], []⟩ [.ref a] [.ref a] _ _ hr rfl e0 (hbind s₁ (.ref a)) (.cons rfl .nil) hsp) ?_
  intro r s' h
  match r, h with
  | .error e, h =>
    obtain ⟨_, _, _, _, _, _, _, _, _, _, _, _, z⟩ := h
    exact z.elim
  | .ok (.ret u), ⟨v, H', os, bare, un, hok', r', q⟩ =>
    have q' : v = .bl true := q
    subst q'
    obtain rfl : u = Value.bool true := r'
    refine ⟨rfl, OldK.of_keep fun b o e => ?_, os, bare⟩
    cases z : H b with
    | none => exact un.keep b o e z (fun y => absurd (show b ∈ ([] : List Addr) from y) List.not_mem_nil) List.not_mem_nil
    | some u =>
      rcases hO b with y | ⟨ob, xs, y⟩
      · rw [z] at y
        cases y
      · obtain ⟨e1, _⟩ := hok b _ y
        obtain ⟨e2, _⟩ := hok' b _ (un.frzs b ob _ y)
        rw [e] at e1
        cases e1
        exact e2
theorem law_any {P : Program} {w : World} {K : PySem.W.Frag} {mg mb : Str → Option Value} {k : Nat} {fa a : Addr} {fd : FuncData} {x : Str} {sp : Sp} {s₁ : Shared} {vs : List Value} {ns : List Int}
    (KX : K.In s₁.heap) (hns : s₁.heap.Ns mainGlobals mg) (hb : s₁.heap.Ns builtinsNs mb) (hbb : ∀ x : Str, x ≠ "__name__" → mb x = bootBuiltins x) (hlim : s₁.heap.NoLimit) (hg : s₁.gens = #[])
    (ha : s₁.heap.get? a = some { cls := .type "list", data := .seq vs.toArray }) (hi : IntsAre vs ns) (hl : ns.length ≤ sizeLine) (hr : Room k callerA)
    (F : ∀ base : Heap, K.In base → base.Ns mainGlobals mg → FnG P w K mg base k fa fd [x] sp) (hbind : ∀ (s : Shared) (u : Value), BindsTo s fd ⟨[u], []⟩ [(x, u)])
    (hsp : ∀ H : Hp, Only H → SqL K H a (ns.map V.int) → sp [.ref a] H (fun v _ => v = .bl true) fun _ _ _ => False) :
    codeAny (model P w) callerA (.call (.ref fa) ⟨[.ref a], []⟩) (fun r s' => r = .ok (.ret (.bool true)) ∧ OldK s₁.heap s'.heap ∧ s'.os = s₁.os ∧ AllBare s'.gens) s₁ := by
  have rv := vals_ints hi
  have lenV := hi.length
  cases hk : K.lookup a with
  | some o =>
    have e := KX a o hk
    rw [ha] at e
    cases e
    have hO : Only (fun _ => none) := fun _ => Or.inl rfl
    refine law_enter (H := fun _ => none) KX hns hb hbb hlim hg ha hr F hbind hO (fun b u z => nomatch z) (fun b z => absurd rfl z) (fun z => absurd rfl z) (hsp _ hO (Or.inr ⟨_, vs.toArray, _, hk, rfl, rfl, rfl, ?_, by simpa using rv⟩))
    rw [List.size_toArray, lenV]
    exact hl
  | none =>
    have at_a : (fun b => if b = a then some (HO.frz { cls := .type "list", data := .seq vs.toArray } (.lst (ns.map V.int))) else none : Hp) a = some (HO.frz { cls := .type "list", data := .seq vs.toArray } (.lst (ns.map V.int))) := if_pos rfl
    have off_a : ∀ b, b ≠ a → (fun b => if b = a then some (HO.frz { cls := .type "list", data := .seq vs.toArray } (.lst (ns.map V.int))) else none : Hp) b = none := fun b hb => if_neg hb
    have hO : Only (fun b => if b = a then some (HO.frz { cls := .type "list", data := .seq vs.toArray } (.lst (ns.map V.int))) else none) := fun b => by
      by_cases hb : b = a
      · subst hb
        exact Or.inr ⟨_, _, at_a⟩
      · exact Or.inl (off_a b hb)
    refine law_enter KX hns hb hbb hlim hg ha hr F hbind hO (fun b u z => ?_) (fun b z => ?_) (fun _ => hk) (hsp _ hO (Or.inl (Or.inr ⟨_, at_a⟩)))
    · by_cases hb : b = a
      · subst hb
        have z2 := Option.some.inj (at_a.symm.trans z)
        subst z2
        exact ⟨ha, by rw [List.length_map]; exact hl, vs, _, rv, ha⟩
      · cases (off_a b hb).symm.trans z
    · by_cases hb : b = a
      · exact hb
      · exact absurd (off_a b hb) z
theorem walk_g {l : PySem.W.OpenLaw} {n k : Nat} {q : Program} {loose : List Str} {XP : (Str → Option Value) → Heap → Prop} {YP : World → Heap → Prop} {d : DefRec} {K : Params → PySem.W.Frag} {sp : PySem.W.Frag → Sp} {x : Str}
    (hn : l.most = some n) (hn2 : n ≤ sizeLine) (hdf : d.params.defaults = []) (hr : Room k callerA)
    (hY : ∀ (w : World) (h : Heap), YP w h → (K w.params).In h)
    (F : ∀ (w : World) (mg : Str → Option Value) (fa : Addr) (h : Heap), (K w.params).In h → h.Ns mainGlobals mg → mg d.name = some (.ref fa) →
      ∃ fd : FuncData, (∀ (s : Shared) (u : Value), BindsTo s fd ⟨[u], []⟩ [(x, u)]) ∧
        ∀ base : Heap, (K w.params).In base → base.Ns mainGlobals mg → FnG l.prog w (K w.params) mg base k fa fd [x] (sp (K w.params)))
    (hsp : ∀ (K : PySem.W.Frag) (H : Hp) (a : Addr) (ns : List Int), ns.length ≤ n → Only H → SqL K H a (ns.map V.int) → sp K [.ref a] H (fun v _ => v = .bl true) fun _ _ _ => False) :
    PySem.W.WalkO q loose XP YP l.row.toRowW d [] (fun f vs => PySem.call f vs) := by
  refine Att.attach_call hn hdf ?_
  intro w s₀ s₁ mg mb fa o pm cd doc a vs ns G Y ho hd hcd hmg hobj hints hlen hg
  have KX := hY w _ Y
  obtain ⟨fd, hb, hF⟩ := F w mg fa _ KX G.T.g hmg
  exact law_any KX G.T.g G.T.b G.T.builtins G.T.nolimit hg hobj hints (Nat.le_trans hlen hn2) hr hF hb fun H hO hS => hsp _ H a ns hlen hO hS

/-! ### built-ins -/
section
variable {X : Cx}
def rLenU (K : PySem.W.Frag) : List V → Hp → VK → Prop := fun xs H Q => ∃ x n, xs = [x] ∧ LenV K x H n ∧ Q (.int n) H
theorem uLen : CallR X (.builtin "len") (rLenU X.K) := call_len
def rAbsU : List V → Hp → VK → Prop := fun xs H Q => ∃ i, xs = [.int i] ∧ Q (.int (if i < 0 then -i else i)) H
theorem uAbs : CallR X (.builtin "abs") rAbsU := call_abs
def rIntU : List V → Hp → VK → Prop := fun xs H Q => (∃ i, xs = [.int i] ∧ Q (.int i) H) ∨ ∃ k, xs = [.bl k] ∧ Q (.int (if k then 1 else 0)) H
theorem uInt : CallR X (.type "int") rIntU := call_int1
theorem uIsi : CallR X (.builtin "isinstance") (rIsi X.K) := call_isi
theorem uIsiT : CallR X (.builtin "isinstance") (rIsiT X.K) := call_isiT
def rMin2U : List V → Hp → VK → Prop := fun xs H Q => ∃ i j, xs = [.int i, .int j] ∧ Q (.int (if j < i then j else i)) H
theorem uMin2 (hc : X.calm = true) : CallR X (.builtin "min") rMin2U := call_min2 hc
def rMax2U : List V → Hp → VK → Prop := fun xs H Q => ∃ i j, xs = [.int i, .int j] ∧ Q (.int (if j > i then j else i)) H
theorem uMax2 (hc : X.calm = true) : CallR X (.builtin "max") rMax2U := call_max2 hc
def rMin3U : List V → Hp → VK → Prop := fun xs H Q => ∃ i j k, xs = [.int i, .int j, .int k] ∧ Q (.int (min (min i j) k)) H
theorem uMin3 (hc : X.calm = true) : CallR X (.builtin "min") rMin3U := call_min3I hc
def rListU (K : PySem.W.Frag) : List V → Hp → VK → Prop := fun xs H Q => ∃ p ys, xs = [.ref p] ∧ (SqL K H p ys ∨ SqT K H p ys) ∧ ∀ l, H l = none → Q (.ref l) (upd H l (.lst ys))
theorem uList : CallR X (.type "list") (rListU X.K) := call_list_of
def rReprI : List V → Hp → VK → Prop := fun xs H Q => ∃ i, xs = [.int i] ∧ i.natAbs.log2 < 1920 ∧ Q (.str (toString i)) H
theorem uReprI : CallR X (.builtin "repr") rReprI := SkE.call_repr_int
section
variable {K : PySem.W.Frag} {H : Hp} {Q : VK} {i j k : Int} {v : V} {b : Bool} {l : List Nat} {p : Addr} {xs : List V} {ns : List Int} {n : String}
theorem w_lenS' (q : Q (.int (l.length : Int)) H) (h : l.length ≤ 16777216) : rLenU K [.str (tx l)] H Q := ⟨_, l.length, rfl, ⟨by rw [tx_len, sizeLine_eq]; exact h, (tx_len l).symm⟩, q⟩
theorem w_lenL' (h : SqL K H p xs) (q : Q (.int (xs.length : Int)) H) : rLenU K [.ref p] H Q := ⟨_, xs.length, rfl, .inl ⟨xs, h, rfl⟩, q⟩
theorem w_lenT' (h : SqT K H p xs) (q : Q (.int (xs.length : Int)) H) : rLenU K [.ref p] H Q := ⟨_, xs.length, rfl, .inr ⟨xs, h, rfl⟩, q⟩
theorem w_abs (q : Q (.int (if i < 0 then -i else i)) H) : rAbsU [.int i] H Q := ⟨i, rfl, q⟩
theorem w_int (q : Q (.int i) H) : rIntU [.int i] H Q := .inl ⟨i, rfl, q⟩
theorem w_intB (q : Q (.int (if b then 1 else 0)) H) : rIntU [.bl b] H Q := .inr ⟨b, rfl, q⟩
theorem w_min2 (q : Q (.int (if j < i then j else i)) H) : rMin2U [.int i, .int j] H Q := ⟨i, j, rfl, q⟩
theorem w_max2 (q : Q (.int (if j > i then j else i)) H) : rMax2U [.int i, .int j] H Q := ⟨i, j, rfl, q⟩
theorem w_min3 (q : Q (.int (min (min i j) k)) H) : rMin3U [.int i, .int j, .int k] H Q := ⟨i, j, k, rfl, q⟩
theorem w_listL (h : SqL K H p xs) (q : ∀ l, H l = none → Q (.ref l) (upd H l (.lst xs))) : rListU K [.ref p] H Q := ⟨p, xs, rfl, .inl h, q⟩
theorem w_listT (h : SqT K H p xs) (q : ∀ l, H l = none → Q (.ref l) (upd H l (.lst xs))) : rListU K [.ref p] H Q := ⟨p, xs, rfl, .inr h, q⟩
theorem w_reprI (q : Q (.str (toString i)) H) (h : i.natAbs < 2 ^ 1000) : rReprI [.int i] H Q := ⟨i, rfl, by
  by_cases h0 : i.natAbs = 0
  · rw [h0]; decide
  · exact Nat.lt_trans ((Nat.log2_lt h0).mpr h) (by decide), q⟩
theorem w_sum (h : SqL K H p (ns.map V.int)) (q : Q (.int ns.sum) H) : rSum K [.ref p] H Q := ⟨p, ns, rfl, h, q⟩
theorem w_isiS (q : Q (.bl (n == "str")) H) (h : n = "str" ∨ n = "int" ∨ n = "bool" ∨ n = "list" ∨ n = "tuple") : rIsi K [.str (tx l), .ty n] H Q := by
  refine ⟨_, _, .type "str", .type n, n == "str", rfl, .ty n, .base (.str _), kit_ty ?_, q⟩
  rcases h with rfl | rfl | rfl | rfl | rfl <;> decide +kernel
theorem w_isiI (q : Q (.bl (n == "int")) H) (h : n = "str" ∨ n = "int" ∨ n = "bool" ∨ n = "list" ∨ n = "tuple") : rIsi K [.int i, .ty n] H Q := by
  refine ⟨_, _, .type "int", .type n, n == "int", rfl, .ty n, .base (.int _), kit_ty ?_, q⟩
  rcases h with rfl | rfl | rfl | rfl | rfl <;> decide +kernel
theorem w_isiT (h0 : H p = some (.tup xs)) (q : Q (.bl (n == "tuple")) H) (h : n = "str" ∨ n = "int" ∨ n = "bool" ∨ n = "list" ∨ n = "tuple") : rIsi K [.ref p, .ty n] H Q := by
  refine ⟨_, _, .type "tuple", .type n, n == "tuple", rfl, .ty n, .base (.tup h0), kit_ty ?_, q⟩
  rcases h with rfl | rfl | rfl | rfl | rfl <;> decide +kernel
theorem w_isiL (h0 : H p = some (.lst xs)) (q : Q (.bl (n == "list")) H) (h : n = "str" ∨ n = "int" ∨ n = "bool" ∨ n = "list" ∨ n = "tuple") : rIsi K [.ref p, .ty n] H Q := by
  refine ⟨_, _, .type "list", .type n, n == "list", rfl, .ty n, .base (.lst h0), kit_ty ?_, q⟩
  rcases h with rfl | rfl | rfl | rfl | rfl <;> decide +kernel
end
end
end SL
set_option Elab.async false
set_option linter.all false
set_option maxRecDepth 100000
set_option maxHeartbeats 4000000
/-! SlF: slices by their parts, items by their places, ways to say what stands where. -/
namespace SL
open PySem PySem.Spec PyProof.Rows L2
theorem sIx_to (n d : Nat) {i : Int} (h : 0 ≤ i) : HT.sIx n d (some i) = min i.toNat n := by
  obtain ⟨k, rfl⟩ := Int.eq_ofNat_of_zero_le h
  exact HT.sIx_nat n d k
theorem sIx_no (n d : Nat) : HT.sIx n d none = d := HT.sIx_none n d
section
variable {α : Type}
theorem take_min (xs : List α) (k : Nat) : xs.take (min k xs.length) = xs.take k := by
  by_cases h : k ≤ xs.length
  · rw [Nat.min_eq_left h]
  · rw [Nat.min_eq_right (by omega), List.take_length, List.take_of_length_le (by omega)]
theorem drop_min (xs : List α) (k : Nat) : xs.drop (min k xs.length) = xs.drop k := by
  by_cases h : k ≤ xs.length
  · rw [Nat.min_eq_left h]
  · rw [Nat.min_eq_right (by omega), List.drop_length, List.drop_of_length_le (by omega)]
theorem part_to (xs : List α) {i : Int} (h : 0 ≤ i) : (xs.drop (HT.sIx xs.length 0 none)).take (HT.sIx xs.length xs.length (some i) - HT.sIx xs.length 0 none) = xs.take i.toNat := by
  rw [sIx_no, sIx_to _ _ h, List.drop_zero, Nat.sub_zero, take_min]
theorem part_from (xs : List α) {i : Int} (h : 0 ≤ i) : (xs.drop (HT.sIx xs.length 0 (some i))).take (HT.sIx xs.length xs.length none - HT.sIx xs.length 0 (some i)) = xs.drop i.toNat := by
  rw [sIx_no, sIx_to _ _ h, drop_min]
  by_cases hk : i.toNat ≤ xs.length
  · rw [Nat.min_eq_left hk, ← List.length_drop, List.take_length]
  · rw [List.drop_of_length_le (by omega), List.take_nil]
theorem part_all (xs : List α) : (xs.drop (HT.sIx xs.length 0 none)).take (HT.sIx xs.length xs.length none - HT.sIx xs.length 0 none) = xs := by
  rw [sIx_no, sIx_no, List.drop_zero, Nat.sub_zero, List.take_length]
end
theorem cutV_to (xs : List V) {i : Int} (h : 0 ≤ i) : cutV xs none (some i) = xs.take i.toNat := part_to xs h
theorem cutV_from (xs : List V) {i : Int} (h : 0 ≤ i) : cutV xs (some i) none = xs.drop i.toNat := part_from xs h
theorem cutS_to (l : List Nat) {i : Int} (h : 0 ≤ i) : cutS (tx l) none (some i) = tx (l.take i.toNat) := by
  unfold cutS
  rw [tx_len]
  show tx _ = _
  rw [part_to l h]
theorem cutS_from (l : List Nat) {i : Int} (h : 0 ≤ i) : cutS (tx l) (some i) none = tx (l.drop i.toNat) := by
  unfold cutS
  rw [tx_len]
  show tx _ = _
  rw [part_from l h]
section
variable {K : PySem.W.Frag} {H : Hp} {Q : VK} {i j : Int} {l : List Nat} {p : Addr} {xs : List V}
theorem w_sSt (q : Q (.str (tx (l.take i.toNat))) H) (h : 0 ≤ i ∧ l.length ≤ 16777216) : rSlU K (.str (tx l)) none (some i) H Q :=
  .inr (.inl ⟨_, rfl, by rw [tx_len, sizeLine_eq]; exact h.2, by rw [cutS_to l h.1]; exact q⟩)
theorem w_sSf (q : Q (.str (tx (l.drop i.toNat))) H) (h : 0 ≤ i ∧ l.length ≤ 16777216) : rSlU K (.str (tx l)) (some i) none H Q :=
  .inr (.inl ⟨_, rfl, by rw [tx_len, sizeLine_eq]; exact h.2, by rw [cutS_from l h.1]; exact q⟩)
theorem w_sLt (h1 : SqL K H p xs) (h : 0 ≤ i) (q : ∀ a, H a = none → Q (.ref a) (upd H a (.lst (xs.take i.toNat)))) : rSlU K (.ref p) none (some i) H Q :=
  .inl ⟨p, xs, rfl, h1, by rw [cutV_to xs h]; exact q⟩
theorem w_sLf (h1 : SqL K H p xs) (h : 0 ≤ i) (q : ∀ a, H a = none → Q (.ref a) (upd H a (.lst (xs.drop i.toNat)))) : rSlU K (.ref p) (some i) none H Q :=
  .inl ⟨p, xs, rfl, h1, by rw [cutV_from xs h]; exact q⟩
theorem w_revS (q : Q (.str (tx l.reverse)) H) (h : l.length ≤ 16777216) : (∃ m : List Nat, V.str (tx l) = .str (tx m) ∧ m.length ≤ 16777216 ∧ Q (.str (tx m.reverse)) H) ∨
    (∃ a ys, V.str (tx l) = .ref a ∧ SqT K H a ys ∧ ∀ p, H p = none → Q (.ref p) (upd H p (.tup ys.reverse))) := .inl ⟨l, rfl, h, q⟩
theorem w_revU {te : TE} {σ : SSt} (q : te σ H fun x H1 => (∃ l : List Nat, x = .str (tx l) ∧ l.length ≤ 16777216 ∧ Q (.str (tx l.reverse)) H1) ∨
  (∃ a xs, x = .ref a ∧ SqT K H1 a xs ∧ ∀ p, H1 p = none → Q (.ref p) (upd H1 p (.tup xs.reverse)))) : tRevU K te σ H Q := q
theorem fr_get {p b : Addr} {H' : Hp} {o : HO} (f : Fr p H H') (g : H b = some o) (n : b ≠ p) : H' b = some o := f b o g n
theorem same_get {b : Addr} {H' : Hp} {o : HO} (f : Same H H') (g : H b = some o) : H' b = some o := f b o g
theorem none_same {b : Addr} {H' : Hp} (f : Same H H') (g : H' b = none) : H b = none := f.free g
theorem fr_sql {b : Addr} {H' : Hp} (f : Fr b H H') (h : SqL K H p xs) (n : p ≠ b) : SqL K H' p xs := by
  rcases h with (h | ⟨o, h⟩) | h
  · exact .inl (.inl (f _ _ h n))
  · exact .inl (.inr ⟨o, f _ _ h n⟩)
  · exact .inr h
theorem fr_sqt {b : Addr} {H' : Hp} (f : Fr b H H') (h : SqT K H p xs) (n : p ≠ b) : SqT K H' p xs := by
  rcases h with (h | ⟨o, h⟩) | h
  · exact .inl (.inl (f _ _ h n))
  · exact .inl (.inr ⟨o, f _ _ h n⟩)
  · exact .inr h
theorem atI_n {α : Type} {xs : List α} {n : Nat} {v : α} (h : xs[n]? = some v) : atI xs (n : Int) = some v := atI_nat h
theorem atI_i {α : Type} {xs : List α} {i : Int} {v : α} (h0 : 0 ≤ i) (h : xs[i.toNat]? = some v) : atI xs i = some v := by
  obtain ⟨k, rfl⟩ := Int.eq_ofNat_of_zero_le h0
  exact atI_nat h
end
theorem int_at {ns : List Int} {k : Nat} (h : k < ns.length) : (ns.map V.int)[k]? = some (.int ns[k]) := by
  rw [List.getElem?_map, List.getElem?_eq_getElem h]
  rfl
theorem w_modN {i j : Int} {H : Hp} {Q : VK} (h : 0 < j) (q : ∀ r : Int, r = i % j → 0 ≤ r → r < j → Q (.int r) H) : rModU (.int i) (.int j) H Q :=
  ⟨i, j, rfl, rfl, h, q _ rfl (Int.emod_nonneg i (by omega)) (Int.emod_lt_of_pos i h)⟩
theorem w_setL {H : Hp} {p : Addr} {xs : List V} {k : Int} {v : V} {Q : Hp → Prop} {j : Nat} (h : H p = some (.lst xs)) (hj : ixN xs.length k = some j) (q : Q (upd H p (.lst (xs.set j v)))) : rSetL (.ref p) (.int k) v H Q :=
  ⟨p, xs, k, j, rfl, rfl, h, hj, q⟩
theorem w_ip {i j : Int} {f : Int → Int → Int} {H : Hp} {Q : VK} (q : Q (.int (f i j)) H) : ipI f (.int i) (.int j) H Q := ⟨i, j, rfl, rfl, q⟩
/-- the box that draws are taken from -/
def Box (H : Hp) (p : Addr) (c : Nat) : Prop := ∃ (g : Int) (b : Bool) (m : Int) (d : Nat), H p = some (.lst [.int g, .bl b, .int m, .int d]) ∧ 0 ≤ g ∧ 0 ≤ m ∧ m < 2147483648 ∧ d ≤ c
theorem Box.le {H : Hp} {p : Addr} {c d : Nat} (h : Box H p c) (e : c ≤ d) : Box H p d := by
  obtain ⟨g, b, m, n, h1, h2, h3, h4, h5⟩ := h
  exact ⟨g, b, m, n, h1, h2, h3, h4, Nat.le_trans h5 e⟩
theorem Box.has {H : Hp} {p : Addr} {c : Nat} (h : Box H p c) : ∃ o, H p = some o := by
  obtain ⟨g, b, m, n, h1, _⟩ := h
  exact ⟨_, h1⟩
theorem Box.ne {H : Hp} {p q : Addr} {c : Nat} (h : Box H p c) (hq : H q = none) : p ≠ q := by
  obtain ⟨g, b, m, n, h1, _⟩ := h
  exact ne_of_none h1 hq
theorem Box.same {H H' : Hp} {p : Addr} {c : Nat} (h : Box H p c) (s : Same H H') : Box H' p c := by
  obtain ⟨g, b, m, n, h1, h2⟩ := h
  exact ⟨g, b, m, n, s _ _ h1, h2⟩
theorem Box.upd {H : Hp} {p q : Addr} {c : Nat} {o : HO} (h : Box H p c) (n : p ≠ q) : Box (upd H q o) p c := by
  obtain ⟨g, b, m, d, h1, h2⟩ := h
  exact ⟨g, b, m, d, by rw [upd_ne n]; exact h1, h2⟩
/-- both ways of a test -/
theorem w_if {b : Bool} {A B : Prop} (h1 : b = true → A) (h2 : b = false → B) : if b = true then A else B := by
  cases b with
  | true => exact iteT (h1 rfl)
  | false => exact iteF (h2 rfl)
theorem cxK {CX : CXT} {P : Program} {w : World} {K : PySem.W.Frag} {mg : Str → Option Value} {base : Heap} {N : List Str} {q : Str} {sc : Scope} {f : Addr} {cd : Value} {A : Around} {outer : List Env} {s : Shared} {H : Hp} {E : XK} :
    (cxOf CX P w K mg base N q sc f cd A outer s H E).K = K := rfl
theorem ends_rt {a : SSt → Hp → Prop} {b : VK} {c d : SSt → Hp → Prop} : (Ends.mk a b c d).rt = b := rfl
theorem ends_nx {a : SSt → Hp → Prop} {b : VK} {c d : SSt → Hp → Prop} : (Ends.mk a b c d).nx = a := rfl
theorem w_enx {a : SSt → Hp → Prop} {b : VK} {c d : SSt → Hp → Prop} {σ : SSt} {H : Hp} (q : a σ H) : (Ends.mk a b c d).nx σ H := q
theorem w_ert {a : SSt → Hp → Prop} {b : VK} {c d : SSt → Hp → Prop} {v : V} {H : Hp} (q : b v H) : (Ends.mk a b c d).rt v H := q
theorem w_ebk {a : SSt → Hp → Prop} {b : VK} {c d : SSt → Hp → Prop} {σ : SSt} {H : Hp} (q : c σ H) : (Ends.mk a b c d).bk σ H := q
theorem w_ect {a : SSt → Hp → Prop} {b : VK} {c d : SSt → Hp → Prop} {σ : SSt} {H : Hp} (q : d σ H) : (Ends.mk a b c d).ct σ H := q
theorem cut1 (ns : List Int) : (ns.map V.int).take (1 : Int).toNat = (ns.take 1).map V.int := by rw [List.map_take]; rfl
end SL
set_option Elab.async false
set_option linter.all false
set_option maxRecDepth 100000
set_option maxHeartbeats 4000000
/-! SlG: walks: texts, ranges, lists; the steps at a for and at a comprehension. -/
namespace SL
open PySem PySem.Spec PyProof.Rows L2
section
variable {K : PySem.W.Frag} {σ : SSt} {H : Hp} {Q : VK} {D : Ends} {ta te : TE} {t : TA} {tb : TS} {g : TG} {tt : TT} {wi : TI} {vs : List Nat} {R : It → Hp → Prop} {i j : Int} {p : Addr} {xs : List V} {l : List Nat}
theorem w_for (q : wi σ H fun J H1 => ∃ W : Nat → Nat → SSt → Hp → Prop, (∃ m, W 0 m σ H1) ∧ ∀ i m σ H, W i m σ H →
    (J.stop i H ∧ D.nx σ H) ∨ (J.go i H ∧ ∃ N : SSt → Hp → Prop, (∀ σ' H', N σ' H' → ∃ m', m' < m ∧ W (i + 1) m' σ' H') ∧ ∀ x H', J.yld i H x H' → g x σ H' fun σ2 H2 => tb { D with nx := N, ct := N, bk := D.nx } σ2 H2)) : tFor wi g tb D σ H := q
theorem w_lc (q : wi σ H fun J H1 => ∀ D, H1 D = none → ∃ W : Nat → Nat → Hp → Prop, (∃ m, W 0 m (upd H1 D (.lst []))) ∧ ∀ i m H, W i m H →
    (J.stop i H ∧ Q (.ref D) H) ∨ (J.go i H ∧ ∃ Nx : Hp → Prop, (∀ H', Nx H' → ∃ m', m' < m ∧ W (i + 1) m' H') ∧ ∀ x H', J.yld i H x H' → g x (wipe σ vs) H' fun σ2 H2 => wipe σ2 vs = wipe σ vs ∧ tt σ2 H2 fun b H3 =>
      if b = true then te σ2 H3 fun y H4 => ∃ acc, H4 D = some (.lst acc) ∧ acc.length < sizeLine ∧ Nx (upd H4 D (.lst (acc ++ [y]))) else Nx H3)) : tLc wi g tt te vs σ H Q := q
theorem w_yes {Q : Bool → Hp → Prop} (q : Q true H) : tYes σ H Q := q
theorem w_il (q : te σ H fun x H1 => ∃ a, x = .ref a ∧ (∃ xs, SqL K H1 a xs) ∧ R (Itl K a) H1) : iList K te σ H R := q
theorem w_it (q : te σ H fun x H1 => ∃ a, x = .ref a ∧ (∃ xs, SqT K H1 a xs) ∧ R (Itt K a) H1) : iTup K te σ H R := q
theorem w_isx (q : te σ H fun v H1 => ∃ x, v = .str x ∧ R (Its x) H1) : iStr te σ H R := q
theorem w_ir1 (q : t σ H fun vs H1 => ∃ j : Int, vs = [.int j] ∧ -(2 ^ 62) ≤ j ∧ j < 2 ^ 62 ∧ R (Itr 0 j.toNat) H1) : iRng1 t σ H R := q
theorem w_ir2 (q : t σ H fun vs H1 => ∃ i j : Int, vs = [.int i, .int j] ∧ (-(2 ^ 62) ≤ i ∧ i < 2 ^ 62 ∧ -(2 ^ 62) ≤ j ∧ j < 2 ^ 62) ∧ R (Itr i (j - i).toNat) H1) : iRng2 t σ H R := q
theorem w_ies (q : t σ H fun vs H1 => ∃ z, vs = [.str z] ∧ R (Ites z) H1) : iEnumS t σ H R := q
theorem w_r1 {R : Int → Prop} (q : R j) (h : -4611686018427387904 ≤ j ∧ j < 4611686018427387904) : ∃ k : Int, [V.int j] = [.int k] ∧ -2 ^ 62 ≤ k ∧ k < 2 ^ 62 ∧ R k := ⟨j, rfl, by omega, by omega, q⟩
theorem w_r2 {R : Int → Int → Prop} (q : R i j) (h : (-4611686018427387904 ≤ i ∧ i < 4611686018427387904) ∧ -4611686018427387904 ≤ j ∧ j < 4611686018427387904) :
    ∃ a b : Int, [V.int i, V.int j] = [.int a, .int b] ∧ (-2 ^ 62 ≤ a ∧ a < 2 ^ 62 ∧ -2 ^ 62 ≤ b ∧ b < 2 ^ 62) ∧ R a b := ⟨i, j, rfl, ⟨by omega, by omega, by omega, by omega⟩, q⟩
theorem w_s1 {R : Str → Prop} {z : Str} (q : R z) : ∃ x, V.str z = .str x ∧ R x := ⟨z, rfl, q⟩
theorem w_s1l {R : Str → Prop} {z : Str} (q : R z) : ∃ x, [V.str z] = [.str x] ∧ R x := ⟨z, rfl, q⟩
theorem w_l1 {R : Addr → Prop} (h : SqL K H p xs) (q : R p) : ∃ a, V.ref p = .ref a ∧ (∃ xs, SqL K H a xs) ∧ R a := ⟨p, rfl, ⟨xs, h⟩, q⟩
theorem w_t1 {R : Addr → Prop} (h : SqT K H p xs) (q : R p) : ∃ a, V.ref p = .ref a ∧ (∃ xs, SqT K H a xs) ∧ R a := ⟨p, rfl, ⟨xs, h⟩, q⟩
theorem w_app (h : H p = some (.lst xs)) {v : V} (q : Q .non (upd H p (.lst (xs ++ [v])))) (hz : xs.length < 16777216) : rAppend (.ref p) [v] H Q := ⟨p, xs, v, rfl, rfl, h, by rw [sizeLine_eq]; exact hz, q⟩
theorem w_isL (h : SqL K H p xs) {B : Prop} (q : B) : tyV K "list" (.ref p) H ∧ B := ⟨.inl ⟨rfl, xs, h⟩, q⟩
theorem w_minL {ns : List Int} (h : SqL K H p (ns.map V.int)) (hz : 0 < ns.length) (q : ∀ m, m ∈ ns → (∀ y, y ∈ ns → m ≤ y) → Q (.int m) H) : rMin K [.ref p] H Q := ⟨p, ns, rfl, h, hz, q⟩
theorem w_allL {bs : List Bool} (h : SqL K H p (bs.map V.bl)) (q : Q (.bl (bs.all id)) H) : rAll K [.ref p] H Q := ⟨p, bs, rfl, h, q⟩
theorem w_anyL {bs : List Bool} (h : SqL K H p (bs.map V.bl)) (q : Q (.bl (bs.any id)) H) : rAny K [.ref p] H Q := ⟨p, bs, rfl, h, q⟩
theorem w_inC {c : Nat} (q : Q (.bl (decide (c ∈ l))) H) : rInU K (.str (tx [c])) (.str (tx l)) H Q := .inl ⟨c, tx l, rfl, rfl, by
  have e : (tx l).cps.toList = l := rfl
  rw [e]
  exact q⟩
end
/-- a comprehension over the signs of a text -/
theorem lc_tx {l : List Nat} {g : TG} {tt : TT} {te : TE} {vs : List Nat} {σ : SSt} {H1 : Hp} {D : Addr} {Qd : Hp → Prop} (Pv : Nat → Hp → Prop) (h0 : Pv 0 (upd H1 D (.lst [])))
    (hs : ∀ i c H, l[i]? = some c → Pv i H → g (.str (tx [c])) (wipe σ vs) H fun σ2 H2 => wipe σ2 vs = wipe σ vs ∧ tt σ2 H2 fun b H3 =>
      if b = true then te σ2 H3 fun y H4 => ∃ acc, H4 D = some (.lst acc) ∧ acc.length < sizeLine ∧ Pv (i + 1) (upd H4 D (.lst (acc ++ [y]))) else Pv (i + 1) H3) (hd : ∀ H, Pv l.length H → Qd H) :
    ∃ W : Nat → Nat → Hp → Prop, (∃ m, W 0 m (upd H1 D (.lst []))) ∧ ∀ i m H, W i m H →
      ((Its (tx l)).stop i H ∧ Qd H) ∨ ((Its (tx l)).go i H ∧ ∃ Nx : Hp → Prop, (∀ H', Nx H' → ∃ m', m' < m ∧ W (i + 1) m' H') ∧ ∀ x H', (Its (tx l)).yld i H x H' → g x (wipe σ vs) H' fun σ2 H2 => wipe σ2 vs = wipe σ vs ∧ tt σ2 H2 fun b H3 =>
        if b = true then te σ2 H3 fun y H4 => ∃ acc, H4 D = some (.lst acc) ∧ acc.length < sizeLine ∧ Nx (upd H4 D (.lst (acc ++ [y]))) else Nx H3) := by
  refine lc_it walk_str Pv h0 (fun _ _ _ _ => True.intro) ?_ (fun H h => hd H (by simpa using h))
  rintro i x H H' hi p ⟨rfl, c, hc, rfl⟩
  exact hs i c _ (by simpa using hc) p
/-- a for over the signs of a text -/
theorem for_tx {l : List Nat} {g : TG} {tb : TS} {D : Ends} {σ : SSt} {H : Hp} (Pv : Nat → SSt → Hp → Prop) (h0 : Pv 0 σ H)
    (hs : ∀ i c σ H, l[i]? = some c → Pv i σ H → g (.str (tx [c])) σ H fun σ2 H2 => tb { D with nx := Pv (i + 1), ct := Pv (i + 1), bk := D.nx } σ2 H2) (hd : ∀ σ H, Pv l.length σ H → D.nx σ H) :
    ∃ W : Nat → Nat → SSt → Hp → Prop, (∃ m, W 0 m σ H) ∧ ∀ i m σ H, W i m σ H →
      ((Its (tx l)).stop i H ∧ D.nx σ H) ∨ ((Its (tx l)).go i H ∧ ∃ N : SSt → Hp → Prop, (∀ σ' H', N σ' H' → ∃ m', m' < m ∧ W (i + 1) m' σ' H') ∧ ∀ x H', (Its (tx l)).yld i H x H' → g x σ H' fun σ2 H2 => tb { D with nx := N, ct := N, bk := D.nx } σ2 H2) := by
  refine for_it walk_str Pv h0 (fun _ _ _ _ _ => True.intro) ?_ (fun σ H h => hd σ H (by simpa using h))
  rintro i x σ H H' hi p ⟨rfl, c, hc, rfl⟩
  exact hs i c σ _ (by simpa using hc) p
/-- a for over enumerate of a text: each turn has a new pair at T -/
theorem for_etx {l : List Nat} {g : TG} {tb : TS} {D : Ends} {σ : SSt} {H : Hp} (Pv : Nat → SSt → Hp → Prop) (h0 : Pv 0 σ H)
    (hs : ∀ i c T σ H, l[i]? = some c → Pv i σ H → H T = none → g (.ref T) σ (upd H T (.tup [.int (i : Nat), .str (tx [c])])) fun σ2 H2 => tb { D with nx := Pv (i + 1), ct := Pv (i + 1), bk := D.nx } σ2 H2) (hd : ∀ σ H, Pv l.length σ H → D.nx σ H) :
    ∃ W : Nat → Nat → SSt → Hp → Prop, (∃ m, W 0 m σ H) ∧ ∀ i m σ H, W i m σ H →
      ((Ites (tx l)).stop i H ∧ D.nx σ H) ∨ ((Ites (tx l)).go i H ∧ ∃ N : SSt → Hp → Prop, (∀ σ' H', N σ' H' → ∃ m', m' < m ∧ W (i + 1) m' σ' H') ∧ ∀ x H', (Ites (tx l)).yld i H x H' → g x σ H' fun σ2 H2 => tb { D with nx := N, ct := N, bk := D.nx } σ2 H2) := by
  have w : Walk (Ites (tx l)) l.length (fun _ => True) (fun i H v H' => ∃ T c, v = .ref T ∧ H T = none ∧ H' = upd H T (.tup [.int (i : Nat), .str ⟨#[c]⟩]) ∧ (tx l).cps[i]? = some c) :=
    ⟨fun i H hi _ => by show i < (tx l).cps.size; simpa using hi, fun H _ => by show l.length = (tx l).cps.size; simp, fun i H x H' _ _ y => y⟩
  refine for_it w Pv h0 (fun _ _ _ _ _ => True.intro) ?_ hd
  rintro i x σ H H' hi p ⟨T, c, rfl, hT, rfl, hc⟩
  exact hs i c T σ H (by simpa using hc) p hT
/-! letters -/
def abc : List Nat := [97, 98, 99, 100, 101, 102, 103, 104, 105, 106, 107, 108, 109, 110, 111, 112, 113, 114, 115, 116, 117, 118, 119, 120, 121, 122]
theorem mem_abc {c : Nat} : c ∈ abc ↔ 97 ≤ c ∧ c ≤ 122 := by
  unfold abc
  simp only [List.mem_cons, List.not_mem_nil, or_false]
  omega
/-- all of them letters -/
def Let (l : List Nat) : Prop := ∀ c ∈ l, c ∈ abc
instance (l : List Nat) : Decidable (Let l) := inferInstanceAs (Decidable (∀ c ∈ l, c ∈ abc))
theorem all_let (l : List Nat) : (l.map fun c => decide (c ∈ abc)).all id = decide (Let l) := by
  by_cases h : Let l
  · rw [decide_eq_true h, List.all_eq_true]
    intro b hb
    obtain ⟨c, hc, rfl⟩ := List.mem_map.mp hb
    exact decide_eq_true (h c hc)
  · rw [decide_eq_false h, List.all_eq_false]
    have : ∃ c, c ∈ l ∧ ¬ c ∈ abc := by
      refine Classical.byContradiction fun n => h fun c hc => ?_
      exact Classical.byContradiction fun m => n ⟨c, hc, m⟩
    obtain ⟨c, hc, hn⟩ := this
    exact ⟨_, List.mem_map.mpr ⟨c, hc, rfl⟩, by simpa using hn⟩
theorem Let.nil : Let [] := fun _ h => absurd h List.not_mem_nil
theorem Let.app {l m : List Nat} (a : Let l) (b : Let m) : Let (l ++ m) := fun c h => (List.mem_append.mp h).elim (a c) (b c)
theorem Let.take {l : List Nat} (a : Let l) (n : Nat) : Let (l.take n) := fun c h => a c (List.mem_of_mem_take h)
theorem Let.drop {l : List Nat} (a : Let l) (n : Nat) : Let (l.drop n) := fun c h => a c (List.mem_of_mem_drop h)
theorem w_inT {K : PySem.W.Frag} {H : Hp} {Q : VK} {v : V} {p : Addr} {xs : List V} (h : SqT K H p xs) (hv : flatV v = true) (hx : xs.all flatV = true) (q : Q (.bl (inV v xs)) H) : rInU K v (.ref p) H Q :=
  .inr ⟨p, xs, rfl, .inr h, hv, hx, q⟩
theorem take_more {α : Type} {l : List α} {i : Nat} {x : α} (h : l[i]? = some x) : l.take (i + 1) = l.take i ++ [x] := by
  rw [List.take_add_one, h]
  rfl
theorem get_of {α : Type} {l : List α} {i : Nat} (h : i < l.length) : l[i]? = some l[i] := List.getElem?_eq_getElem h
/-! ''.join of texts -/
theorem join_nil' : ∀ ls : List (List Nat), Str.join (tx []) (ls.map tx) = tx ls.flatten
  | [] => rfl
  | [x] => by
    show tx x = tx [x].flatten
    simp
  | x :: y :: r => by
    have ih := join_nil' (y :: r)
    show tx x ++ tx [] ++ Str.join (tx []) ((y :: r).map tx) = _
    rw [ih, tx_app, tx_app, List.append_nil]
    rfl
theorem join_nil (ls : List (List Nat)) : Txt.join (tx []) (ls.map tx) = tx ls.flatten := by
  unfold Txt.join
  rw [StrLaws.glued_eq_join, join_nil']
theorem join_sum (ls : List (List Nat)) : ((ls.map tx).map (·.length)).sum = ls.flatten.length := by
  induction ls with
  | nil => rfl
  | cons x r ih => rw [List.map_cons, List.map_cons, List.sum_cons, ih, tx_len, List.flatten_cons, List.length_append]
def rJoinU (K : PySem.W.Frag) : V → List V → Hp → VK → Prop := fun x xs H Q => ∃ a p, ∃ ys : List Str, x = .str a ∧ xs = [.ref p] ∧ (SqL K H p (ys.map V.str) ∨ SqT K H p (ys.map V.str)) ∧ (ys.map (·.length)).sum + ys.length * a.length ≤ 16777216 ∧ Q (.str (Txt.join a ys)) H
theorem uJoin {X : Cx} : MtR X "str.join" (rJoinU X.K) := mt_join
theorem w_join {K : PySem.W.Frag} {H : Hp} {Q : VK} {p : Addr} {ls : List (List Nat)} (h : SqL K H p (ls.map fun l => V.str (tx l))) (q : Q (.str (tx ls.flatten)) H) (hz : ls.flatten.length ≤ 16777216) : rJoinU K (.str (tx [])) [.ref p] H Q := by
  refine ⟨tx [], p, ls.map tx, rfl, rfl, .inl ?_, ?_, by rw [join_nil]; exact q⟩
  · rw [List.map_map]
    exact h
  · rw [join_sum, tx_len]
    simpa using hz
theorem w_isS {l : List Nat} {B : Prop} (q : B) : (∃ a, V.str (tx l) = .str a) ∧ B := ⟨⟨_, rfl⟩, q⟩
theorem w_lrg {H : Hp} {Q : VK} {σ : SSt} {te : TE} (q : te σ H fun x H1 => ∃ n, x = .int n ∧ (RgOk 0 n ∧ ∀ q, H1 q = none → Q (.ref q) (upd H1 q (.lst (rgV 0 n))))) : tLstRg (tRg1 te) σ H Q := q
theorem rgV_n (n : Nat) : rgV 0 (n : Int) = (List.range n).map fun i => V.int (i : Nat) := by
  unfold rgV
  rw [show ((n : Int) - 0).toNat = n by omega]
  apply List.map_congr_left
  intro i _
  rw [show (0 : Int) + (i : Int) = (i : Int) by omega]
end SL
set_option Elab.async false
set_option linter.all false
set_option maxRecDepth 100000
set_option maxHeartbeats 4000000
/-! SlH: the rules with K said aloud (a comprehension's element must not mention the block's context), constants, keyword calls. -/
namespace SL
open PySem PySem.Spec PyProof.Rows L2
section
variable (K : PySem.W.Frag) {X : Cx} {k : Nat}
theorem kAdd (h : X.K = K) : OpR X (binaryOp .Add) (rAddU K) := h ▸ uAdd
theorem kEq (h : X.K = K) (hr : Room k X.A) : OpR X (compareOp .Eq) (rEqU K) := h ▸ uEq hr
theorem kNe (h : X.K = K) (hr : Room k X.A) : OpR X (compareOp .NotEq) (rNeU K) := h ▸ uNe hr
theorem kIn (h : X.K = K) : OpR X (compareOp .In) (rInU K) := h ▸ uIn
theorem kSl (h : X.K = K) : SlR X (rSlU K) := h ▸ uSl
theorem kIx (h : X.K = K) : IxR X (rIx K) := h ▸ ix_seq
theorem kLen (h : X.K = K) : CallR X (.builtin "len") (rLenU K) := h ▸ uLen
theorem kIsi (h : X.K = K) : CallR X (.builtin "isinstance") (rIsi K) := h ▸ uIsi
theorem kIsiT (h : X.K = K) : CallR X (.builtin "isinstance") (rIsiT K) := h ▸ uIsiT
theorem kList (h : X.K = K) : CallR X (.type "list") (rListU K) := h ▸ uList
theorem kSum (h : X.K = K) (hc : X.calm = true) : CallR X (.builtin "sum") (rSum K) := h ▸ cr_sum hc
theorem kAny (h : X.K = K) (hc : X.calm = true) : CallR X (.builtin "any") (rAny K) := h ▸ cr_any hc
theorem kAll (h : X.K = K) (hc : X.calm = true) : CallR X (.builtin "all") (rAll K) := h ▸ cr_all hc
theorem kMin (h : X.K = K) (hc : X.calm = true) : CallR X (.builtin "min") (rMin K) := h ▸ cr_min hc
theorem kMax (h : X.K = K) (hc : X.calm = true) : CallR X (.builtin "max") (rMax K) := h ▸ cr_max hc
theorem kSorted (h : X.K = K) : CallR X (.builtin "sorted") (rSorted K) := h ▸ cr_sorted
theorem kJoin (h : X.K = K) : MtR X "str.join" (rJoinU K) := h ▸ uJoin
theorem kIndex (h : X.K = K) : MtR X "list.index" (rIndex K) := h ▸ mt_index
theorem kiList (h : X.K = K) {tg l : Expr} {tl : TE} (p : PE X l tl) : PI X tg l (iList K tl) := h ▸ pi_list p
theorem kiTup (h : X.K = K) {tg l : Expr} {tl : TE} (p : PE X l tl) : PI X tg l (iTup K tl) := h ▸ pi_tup p
theorem kRev (h : X.K = K) {e : Expr} {te : TE} {k : Nat} {p1 p2 p3 pos : Pos} (p : PE X e te) :
    PE X (e.Subscript (.Slice none none (some (.UnaryOp .USub (.Constant (.int 1) k p1) p2)) p3) pos) (tRevU K te) := h ▸ pe_revU p
theorem kTup (h : X.K = K) {pos : Pos} {es : List Expr} {k : Nat} {t : TGs} {n : Nat} (hc : X.calm = true) (p : PGs X es t) (h1 : (assignEach es X.env).length = n := by rfl)
    (h2 : List.findIdx? (fun x => x.fst) (assignEach es X.env) = none := by rfl) : PG X (.Tuple es k pos) (gTup K n t) := h ▸ pg_tup hc p h1 h2
theorem kBm (h : X.K = K) {o e : Expr} {es : List Expr} {to : TE} {t : TA} {name : Str} {apos cpos : Pos} {T id : String} {r : V → List V → Hp → VK → Prop}
    (h1 : PlainAttrs T) (h2 : Slot T name id) (h3 : typeOf (Value.builtin id) = pure (Value.type "method_descriptor")) (h4 : MtR X id r) (h5 : PE X o to) (h6 : PA X (e :: es) t)
    (h7 : attributeBase o name X.env (eval o X.env) = eval o X.env := by rfl)
    (h8 : ((((backTo cpos (starEach (e :: es) X.env)).all fun x => !x.fst) && (backToKw cpos (keywordEach [] X.env)).all fun x => x.fst.isSome) && decide (((e :: es).length + ([] : List Keyword).length + if ([] : List Keyword).isEmpty = true then 0 else 1) < 30)) = true := by rfl)
    (h9 : (apos.endLine == cpos.line) = true := by rfl) (h10 : starEach (e :: es) X.env = (false, eval e X.env) :: starEach es X.env := by rfl)
    (h11 : ((backTo cpos (starEach es X.env)).any fun x => x.fst) = false := by rfl) : PE X ((o.Attribute name apos).Call (e :: es) [] cpos) (tBM K T r to t) :=
  h ▸ pe_bm h1 h2 h3 h4 h5 h6 h7 h8 h9 h10 h11
end
/-- a text of the module, by its signs -/
theorem pe_gs {X : Cx} {x : Str} {l : List Nat} {pos : Pos} (hg : Gl X x) (h : ∃ t, X.mg x = some (.str (tx l) t)) (hdb : (x == ("__debug__" : Str)) = false := by decide) : PE X (.Name x pos) (tC (.str (tx l))) := by
  obtain ⟨t, h⟩ := h
  exact pe_glob hg h (by first | exact ⟨_, rfl⟩ | constructor) hdb
theorem pe_gi {X : Cx} {x : Str} {i : Int} {pos : Pos} (hg : Gl X x) (h : ∃ t, X.mg x = some (.int i t)) (hdb : (x == ("__debug__" : Str)) = false := by decide) : PE X (.Name x pos) (tC (.int i)) := by
  obtain ⟨t, h⟩ := h
  exact pe_glob hg h (by first | exact ⟨_, rfl⟩ | constructor) hdb
/-! keyword calls -/
/-- a def called by keywords alone: ks the names in the call's order, g how the values come to the parameters -/
structure CalW (P : Program) (w : World) (K : PySem.W.Frag) (mg : Str → Option Value) (base : Heap) (k : Nat) (x : Str) (ps ks : List Str) (g : {α : Type} → List α → List α) (sp : Sp) : Prop where
  ex : ∃ (f : Addr) (fd : FuncData), FnG P w K mg base k f fd ps sp ∧ mg x = some (.ref f) ∧ PySem.W.keepIn K (.ref f) = true ∧
    ∀ (s : Shared) (ws : List Value), ws.length = ks.length → BindsTo s fd ⟨[], ks.zip ws⟩ (ps.zip (g ws))
def tCallW (sp : Sp) (g : {α : Type} → List α → List α) (n : Nat) (E : SSt → XK) (t : TA) : TE := fun σ H Q => t σ H fun vs H1 => vs.length = n ∧ sp (g vs) H1 Q (E σ)
section
variable {X : Cx} {k j : Nat} {x : Str} {ps ks : List Str} {sp : Sp} {E : L2.St → XK} {p pos : Pos} {kws : List Keyword} {t : TA} {g : {α : Type} → List α → List α}
theorem pe_gw (c : CalW X.prog X.w X.K X.mg X.base k x ps ks g sp) (hr : Room j X.A) (hk : k ≤ j) (hgd : X.A.guards = some []) (hg : Gl X x) (hx : ∀ σ, PassesAt (L2.CX X.prog X.w) X σ (E σ)) (ha : PK X kws t)
    (hl : ∀ {vs : List V} {us : List Value}, vs.length = ks.length → Vals vs us → Vals (g vs) (g us))
    (hall : (backToKw pos (keywordEach kws X.env)).all (·.1.isSome) = true := by rfl) (hks : (backToKw pos (keywordEach kws X.env)).filterMap (·.1) = ks := by rfl)
    (hdb : (x == ("__debug__" : Str)) = false := by decide)
    (hpl : ((backTo pos (starEach [] X.env)).any (·.1) || (backToKw pos (keywordEach kws X.env)).any (·.1.isNone)) = false := by rfl) :
    PE X (.Call (.Name x p) [] kws pos) (tCallW sp g ks.length E t) := by
  obtain ⟨f, fd, F, hm, kp, hb⟩ := c.ex
  constructor
  intro pins s σ H Q I h
  refine wpAny_Call_Name_kw (ld_glob I hg hm ?_ hdb)
  refine PySem.W.callWith_KW0 (h₀ := X.base) I.ok.mod.kin kp hall ?_ hpl
  refine thn (ha.run pos pins s σ H _ I h) ?_
  rintro ws s1 ⟨vs, H1, I1, r, hn, q⟩
  refine ⟨I1.kIn, ?_⟩
  rw [hks]
  refine wpAny_call (codeAny_mono (F.run X.A X.stack s1 H1 ⟨[], ks.zip ws⟩ (g ws) (g vs) Q (E σ) (hr.mono hk) hgd (Inv.env0 I1) (hb s1 ws (by rw [← Paired.length r]; exact hn)) (hl hn r) q) ?_)
  intro rr s' hq
  match rr, hq with
  | .error ex, hq => exact hx σ pins H1 s1 ex s' I1 hq
  | .ok (.ret u), hq => exact Inv.after I1 hq
end
theorem w_callW {g : {α : Type} → List α → List α} {n : Nat} {sp : Sp} {E : SSt → XK} {t : TA} {σ : SSt} {H : Hp} {Q : VK} (q : t σ H fun vs H1 => vs.length = n ∧ sp (g vs) H1 Q (E σ)) : tCallW sp g n E t σ H Q := q
theorem w_same {s : String} {A B : Prop} (q : A) : if (s == s) = true then A else B := by
  rw [if_pos (by simp)]
  exact q
theorem w_diff {s t : String} {A B : Prop} (q : B) (h : (s == t) = false) : if (s == t) = true then A else B := by
  rw [if_neg (by rw [h]; decide)]
  exact q
theorem w_wp {σ τ : SSt} {vs : List Nat} {B : Prop} (h : wipe σ vs = wipe τ vs) (q : B) : wipe σ vs = wipe τ vs ∧ B := ⟨h, q⟩
theorem w_acc {H : Hp} {D : Addr} {acc : List V} {R : List V → Prop} (h : H D = some (.lst acc)) (q : R acc) (hz : acc.length < 16777216) : ∃ acc, H D = some (.lst acc) ∧ acc.length < sizeLine ∧ R acc :=
  ⟨acc, h, by rw [sizeLine_eq]; exact hz, q⟩
theorem lt_of_get {α : Type} {l : List α} {i : Nat} {c : α} (h : l[i]? = some c) : i < l.length := (List.getElem?_eq_some_iff.mp h).1
theorem w_ifT {b : Bool} {A B : Prop} (h : b = true) (q : A) : if b = true then A else B := by rw [if_pos h]; exact q
theorem w_ifF {b : Bool} {A B : Prop} (h : b = false) (q : B) : if b = true then A else B := by rw [if_neg (by rw [h]; decide)]; exact q
def rRev1 (K : PySem.W.Frag) (x : V) (H : Hp) (Q : VK) : Prop := (∃ l : List Nat, x = .str (tx l) ∧ l.length ≤ 16777216 ∧ Q (.str (tx l.reverse)) H) ∨
  (∃ a xs, x = .ref a ∧ SqT K H a xs ∧ ∀ p, H p = none → Q (.ref p) (upd H p (.tup xs.reverse)))
section
variable {K : PySem.W.Frag} {te : TE} {σ : SSt} {H : Hp} {Q : VK} {l : List Nat} {p : Addr} {xs : List V} {k : Nat}
theorem w_rev (q : te σ H fun x H1 => rRev1 K x H1 Q) : tRevU K te σ H Q := q
theorem w_rev1S (q : Q (.str (tx l.reverse)) H) (h : l.length ≤ 16777216) : rRev1 K (.str (tx l)) H Q := .inl ⟨l, rfl, h, q⟩
theorem w_rev1T (h : SqT K H p xs) (q : ∀ a, H a = none → Q (.ref a) (upd H a (.tup xs.reverse))) : rRev1 K (.ref p) H Q := .inr ⟨p, xs, rfl, h, q⟩
theorem w_sSfN (q : Q (.str (tx (l.drop k))) H) (h : l.length ≤ 16777216) : rSlU K (.str (tx l)) (some (k : Int)) none H Q := w_sSf q ⟨by omega, h⟩
theorem w_sStN (q : Q (.str (tx (l.take k))) H) (h : l.length ≤ 16777216) : rSlU K (.str (tx l)) none (some (k : Int)) H Q := w_sSt q ⟨by omega, h⟩
end
theorem in_pair {x y : List Nat} (h : x = [] ∨ y = []) : inV (V.str (tx [])) [V.str (tx x), V.str (tx y)] = true := by
  have e : eqV (V.str (tx [])) (V.str (tx [])) = true := by first | rfl | decide | decide +kernel
  rcases h with rfl | rfl
  · simp [inV, e]
  · simp [inV, e]
/-- a for over a range from 0 -/
theorem for_rg {j : Int} {n : Nat} {g : TG} {tb : TS} {D : Ends} {σ : SSt} {H : Hp} (hn : j.toNat = n) (Pv : Nat → SSt → Hp → Prop) (h0 : Pv 0 σ H)
    (hs : ∀ (i : Nat) σ H, i < n → Pv i σ H → g (.int (i : Int)) σ H fun σ2 H2 => tb { D with nx := Pv (i + 1), ct := Pv (i + 1), bk := D.nx } σ2 H2) (hd : ∀ σ H, Pv n σ H → D.nx σ H) :
    ∃ W : Nat → Nat → SSt → Hp → Prop, (∃ m, W 0 m σ H) ∧ ∀ i m σ H, W i m σ H →
      ((Itr 0 j.toNat).stop i H ∧ D.nx σ H) ∨ ((Itr 0 j.toNat).go i H ∧ ∃ N : SSt → Hp → Prop, (∀ σ' H', N σ' H' → ∃ m', m' < m ∧ W (i + 1) m' σ' H') ∧ ∀ x H', (Itr 0 j.toNat).yld i H x H' → g x σ H' fun σ2 H2 => tb { D with nx := N, ct := N, bk := D.nx } σ2 H2) := by
  subst hn
  refine for_it walk_range Pv h0 (fun _ _ _ _ _ => True.intro) ?_ hd
  rintro i x σ H H' hi p ⟨rfl, rfl⟩
  have e : (0 : Int) + (i : Int) = i := by omega
  show g (.int ((0 : Int) + (i : Int))) _ _ _
  rw [e]
  exact hs i σ _ hi p
/-- a for over a range -/
theorem for_rg2 {lo hi : Int} {n : Nat} {g : TG} {tb : TS} {D : Ends} {σ : SSt} {H : Hp} (hn : (hi - lo).toNat = n) (Pv : Nat → SSt → Hp → Prop) (h0 : Pv 0 σ H)
    (hs : ∀ (i : Nat) σ H, i < n → Pv i σ H → g (.int (lo + i)) σ H fun σ2 H2 => tb { D with nx := Pv (i + 1), ct := Pv (i + 1), bk := D.nx } σ2 H2) (hd : ∀ σ H, Pv n σ H → D.nx σ H) :
    ∃ W : Nat → Nat → SSt → Hp → Prop, (∃ m, W 0 m σ H) ∧ ∀ i m σ H, W i m σ H →
      ((Itr lo (hi - lo).toNat).stop i H ∧ D.nx σ H) ∨ ((Itr lo (hi - lo).toNat).go i H ∧ ∃ N : SSt → Hp → Prop, (∀ σ' H', N σ' H' → ∃ m', m' < m ∧ W (i + 1) m' σ' H') ∧ ∀ x H', (Itr lo (hi - lo).toNat).yld i H x H' → g x σ H' fun σ2 H2 => tb { D with nx := N, ct := N, bk := D.nx } σ2 H2) := by
  subst hn
  refine for_it walk_range Pv h0 (fun _ _ _ _ _ => True.intro) ?_ hd
  rintro i x σ H H' hi p ⟨rfl, rfl⟩
  exact hs i σ _ hi p
/-- a comprehension over a range from 0 -/
theorem lc_rg {j : Int} {n : Nat} {g : TG} {tt : TT} {te : TE} {vs : List Nat} {σ : SSt} {H1 : Hp} {D : Addr} {Qd : Hp → Prop} (hn : j.toNat = n) (Pv : Nat → Hp → Prop) (h0 : Pv 0 (upd H1 D (.lst [])))
    (hs : ∀ (i : Nat) H, i < n → Pv i H → g (.int (i : Int)) (wipe σ vs) H fun σ2 H2 => wipe σ2 vs = wipe σ vs ∧ tt σ2 H2 fun b H3 =>
      if b = true then te σ2 H3 fun y H4 => ∃ acc, H4 D = some (.lst acc) ∧ acc.length < sizeLine ∧ Pv (i + 1) (upd H4 D (.lst (acc ++ [y]))) else Pv (i + 1) H3) (hd : ∀ H, Pv n H → Qd H) :
    ∃ W : Nat → Nat → Hp → Prop, (∃ m, W 0 m (upd H1 D (.lst []))) ∧ ∀ i m H, W i m H →
      ((Itr 0 j.toNat).stop i H ∧ Qd H) ∨ ((Itr 0 j.toNat).go i H ∧ ∃ Nx : Hp → Prop, (∀ H', Nx H' → ∃ m', m' < m ∧ W (i + 1) m' H') ∧ ∀ x H', (Itr 0 j.toNat).yld i H x H' → g x (wipe σ vs) H' fun σ2 H2 => wipe σ2 vs = wipe σ vs ∧ tt σ2 H2 fun b H3 =>
        if b = true then te σ2 H3 fun y H4 => ∃ acc, H4 D = some (.lst acc) ∧ acc.length < sizeLine ∧ Nx (upd H4 D (.lst (acc ++ [y]))) else Nx H3) := by
  subst hn
  refine lc_it walk_range Pv h0 (fun _ _ _ _ => True.intro) ?_ hd
  rintro i x H H' hi p ⟨rfl, rfl⟩
  have e : (0 : Int) + (i : Int) = i := by omega
  show g (.int ((0 : Int) + (i : Int))) _ _ _
  rw [e]
  exact hs i _ hi p
/-- a cut: what stands after the first statement -/
theorem w_seqI {t1 t2 : TS} {D : Ends} {σ : SSt} {H : Hp} (I : SSt → Hp → Prop) (k : ∀ σ H, I σ H → t2 D σ H) (q : ∀ N : SSt → Hp → Prop, (∀ σ H, I σ H → N σ H) → t1 { D with nx := N } σ H) : tSeq t1 t2 D σ H := q _ k
section
variable {t2 : TS} {D : Ends} {σ : SSt} {H : Hp} {te : TE} {g : TG} {n m : Nat} {t : TA} {ti : TIp} {wi : TI} {tb : TS}
theorem w_seqA (q : tAsg te g { D with nx := t2 D } σ H) : tSeq (tAsg te g) t2 D σ H := q
theorem w_seqD (q : tDrop te { D with nx := t2 D } σ H) : tSeq (tDrop te) t2 D σ H := q
theorem w_seqP (q : tPar n m t { D with nx := t2 D } σ H) : tSeq (tPar n m t) t2 D σ H := q
theorem w_seqG (q : tAug n te ti { D with nx := t2 D } σ H) : tSeq (tAug n te ti) t2 D σ H := q
end
theorem w_gT {K : PySem.W.Frag} {n : Nat} {tg : TGs} {p : Addr} {σ : SSt} {H : Hp} {Q : SSt → Hp → Prop} {xs : List V} (h : SqT K H p xs) (q : tg xs σ H Q) (hn : xs.length = n) : gTup K n tg (.ref p) σ H Q := ⟨p, xs, rfl, h, hn, q⟩
def rIsU : R2 := fun x y H Q => y = .non ∧ Q (.bl (decide (x = .non))) H
def rIsNotU : R2 := fun x y H Q => y = .non ∧ Q (.bl (!decide (x = .non))) H
theorem uIs {X : Cx} : OpR X (compareOp .Is) rIsU := op_isN
theorem uIsNot {X : Cx} : OpR X (compareOp .IsNot) rIsNotU := op_notN
section
variable {H : Hp} {Q : VK} {i : Int} {z : Str} {p : Addr} {b : Bool}
theorem w_isnN (q : Q (.bl true) H) : rIsU .non .non H Q := ⟨rfl, by rw [decide_eq_true rfl]; exact q⟩
theorem w_isnI (q : Q (.bl false) H) : rIsU (.int i) .non H Q := ⟨rfl, by rw [decide_eq_false (by simp)]; exact q⟩
theorem w_isnS (q : Q (.bl false) H) : rIsU (.str z) .non H Q := ⟨rfl, by rw [decide_eq_false (by simp)]; exact q⟩
theorem w_isnR (q : Q (.bl false) H) : rIsU (.ref p) .non H Q := ⟨rfl, by rw [decide_eq_false (by simp)]; exact q⟩
theorem w_isnB (q : Q (.bl false) H) : rIsU (.bl b) .non H Q := ⟨rfl, by rw [decide_eq_false (by simp)]; exact q⟩
theorem w_isoN (q : Q (.bl false) H) : rIsNotU .non .non H Q := ⟨rfl, by rw [decide_eq_true rfl]; exact q⟩
theorem w_isoI (q : Q (.bl true) H) : rIsNotU (.int i) .non H Q := ⟨rfl, by rw [decide_eq_false (by simp)]; exact q⟩
theorem w_isoS (q : Q (.bl true) H) : rIsNotU (.str z) .non H Q := ⟨rfl, by rw [decide_eq_false (by simp)]; exact q⟩
theorem w_isoR (q : Q (.bl true) H) : rIsNotU (.ref p) .non H Q := ⟨rfl, by rw [decide_eq_false (by simp)]; exact q⟩
theorem w_isoB (q : Q (.bl true) H) : rIsNotU (.bl b) .non H Q := ⟨rfl, by rw [decide_eq_false (by simp)]; exact q⟩
end
theorem kLst (K : PySem.W.Frag) {X : Cx} (h : X.K = K) {pos : Pos} {es : List Expr} {k : Nat} {t : TGs} {n : Nat} (hc : X.calm = true) (p : PGs X es t) (h1 : (assignEach es X.env).length = n := by rfl)
    (h2 : List.findIdx? (fun x => x.fst) (assignEach es X.env) = none := by rfl) : PG X (.Tuple es k pos) (gLst K n t) := h ▸ pg_lst hc p h1 h2
theorem w_gL {K : PySem.W.Frag} {n : Nat} {tg : TGs} {p : Addr} {σ : SSt} {H : Hp} {Q : SSt → Hp → Prop} {xs : List V} (h : SqL K H p xs) (q : tg xs σ H Q) (hn : xs.length = n) : gLst K n tg (.ref p) σ H Q := ⟨p, xs, rfl, h, hn, q⟩
theorem atI_last {α : Type} {xs : List α} {v : α} (h : xs[xs.length - 1]? = some v) : atI xs (-1) = some v := by
  have hl := (List.getElem?_eq_some_iff.mp h).1
  unfold atI ixN
  rw [if_neg (by omega)]
  rw [if_pos (by omega)]
  rw [Option.bind_some, show ((-1 : Int) + xs.length).toNat = xs.length - 1 by omega]
  exact h
theorem box_le {H : Hp} {p : Addr} {c d : Nat} (h : Box H p c) (e : c ≤ d := by omega) : Box H p d := h.le e
theorem all_take {α : Type} {l : List α} : l.take l.length = l := List.take_length
end SL
set_option Elab.async false
set_option linter.all false
set_option maxRecDepth 100000
set_option maxHeartbeats 4000000
/-! SlI: more about heaps and texts. -/
namespace SL
open PySem PySem.Spec PyProof.Rows L2
theorem Fr.nil {p D : Addr} {H H1 : Hp} (f : Fr p H H1) (hD : H1 D = none) (n : p ≠ D) : H D = none := by
  cases h : H D with
  | none => rfl
  | some o => rw [f D o h (Ne.symm n)] at hD; cases hD
theorem Fr.grow {p D : Addr} {H H1 H' : Hp} {o : HO} (f0 : Fr p H H1) (hD : H1 D = none) (n : p ≠ D) (f : Fr p H H') : Fr p H (upd H' D o) := fun b u h nb => by
  rw [upd_ne (ne_of_none h (Fr.nil f0 hD n))]
  exact f b u h nb
theorem rep_len (n : Nat) (l : List Nat) : (List.replicate n l).flatten.length = n * l.length := by
  induction n with
  | zero => simp
  | succ n ih => rw [List.replicate_succ, List.flatten_cons, List.length_append, ih, Nat.succ_mul]; omega
theorem rep_let {n : Nat} {l : List Nat} (h : Let l) : Let (List.replicate n l).flatten := by
  induction n with
  | zero => exact fun _ h => absurd h (by simp)
  | succ n ih => rw [List.replicate_succ, List.flatten_cons]; exact h.app ih
theorem Let.one {l : List Nat} {k : Nat} {c : Nat} (h : Let l) (hk : l[k]? = some c) : Let [c] := fun d hd => by
  rw [List.mem_singleton.mp hd]
  exact h c (List.mem_of_getElem? hk)
theorem bit_is (b : Bool) : ∃ u : Nat, (if b = true then (1 : Int) else 0) = u ∧ u ≤ 1 := by
  cases b
  · exact ⟨0, rfl, by omega⟩
  · exact ⟨1, rfl, by omega⟩
theorem two_at {α : Type} {a b : α} {k : Nat} (h : k < 2) : [a, b][k]? = some (if k = 0 then a else b) := by
  match k, h with
  | 0, _ => rfl
  | 1, _ => rfl
theorem w_mulSN {l : List Nat} {u : Nat} {H : Hp} {Q : VK} (q : Q (.str (tx (List.replicate u l).flatten)) H) (h : u ≤ 1000000 ∧ l.length ≤ 1000000 ∧ l.length * u ≤ 16777216) : rMulU (.str (tx l)) (.int (u : Int)) H Q :=
  w_mulS (by rw [Int.toNat_natCast]; exact q) ⟨by omega, by omega, h.2.1, by rw [Int.toNat_natCast]; exact h.2.2⟩
theorem ex_get {α : Type} {l : List α} {k : Nat} (h : k < l.length) : ∃ c, l[k]? = some c := ⟨_, get_of h⟩
theorem take_rest {α : Type} (l : List α) (i : Nat) : l.take i ++ l.drop (l.take i).length = l := by
  rw [List.length_take]
  by_cases h : i ≤ l.length
  · rw [Nat.min_eq_left h, List.take_append_drop]
  · rw [Nat.min_eq_right (by omega), List.drop_length, List.append_nil, List.take_of_length_le (by omega)]
theorem Let.left {l m : List Nat} (h : Let (l ++ m)) : Let l := fun c hc => h c (List.mem_append_left m hc)
theorem Let.right {l m : List Nat} (h : Let (l ++ m)) : Let m := fun c hc => h c (List.mem_append_right l hc)
theorem w_eqStr {K : PySem.W.Frag} {H : Hp} {Q : VK} {x y : Str} (q : Q (.bl (decide (x = y))) H) : rEqU K (.str x) (.str y) H Q := .inl ⟨rfl, by
  have e : decide (V.str x = V.str y) = decide (x = y) := decide_eq_decide.mpr ⟨fun h => V.str.inj h, fun h => by rw [h]⟩
  rw [e]; exact q⟩
theorem same_box {p : Addr} {H H1 H2 : Hp} (a : Same H H1) (hp : H p = Option.none) (f : Fr p H1 H2) : Same H H2 := fun b o h => f b o (a b o h) (ne_of_none h hp)
theorem calW_of {P : Program} {w : World} {K : PySem.W.Frag} {mg : Str → Option Value} {base : Heap} {x : Str} {st : Stmt} {ps ks : List Str} {k : Nat} {sp : Sp} {g : {α : Type} → List α → List α} (D : DefAt K mg x st ps)
    (F : ∀ f fd, Fun K x x st f fd → FnG P w K mg base k f fd ps sp) (hb : ∀ f fd, Fun K x x st f fd → ∀ (s : Shared) (ws : List Value), ws.length = ks.length → BindsTo s fd ⟨[], ks.zip ws⟩ (ps.zip (g ws))) :
    CalW P w K mg base k x ps ks g sp := by
  obtain ⟨f, fd, Fn, hm, _⟩ := D.ex
  exact ⟨f, fd, F f fd Fn, hm, Fn.kp, hb f fd Fn⟩
theorem cal_of {P : Program} {w : World} {K : PySem.W.Frag} {mg : Str → Option Value} {base : Heap} {x : Str} {st : Stmt} {ps : List Str} {k : Nat} {sp : Sp} (D : DefAt K mg x st ps)
    (F : ∀ f fd, Fun K x x st f fd → FnG P w K mg base k f fd ps sp) : Cal P w K mg base k x ps sp := by
  obtain ⟨f, fd, Fn, hm, hb⟩ := D.ex
  exact ⟨f, fd, F f fd Fn, hm, Fn.kp, hb⟩
theorem rev4 {vs : List V} {us : List Value} (hn : vs.length = 4) (r : Vals vs us) : Vals vs.reverse us.reverse := by
  match vs, us, r with
  | [a, b, c, d], [a', b', c', d'], .cons r1 (.cons r2 (.cons r3 (.cons r4 .nil))) => exact .cons r4 (.cons r3 (.cons r2 (.cons r1 .nil)))
end SL
set_option Elab.async false
set_option linter.all false
set_option maxRecDepth 100000
set_option maxHeartbeats 4000000
/-! SlJ: startswith; equality of nested data. -/
namespace SL
open PySem PySem.Spec PyProof.Rows L2
theorem starts_is (l m : List Nat) : Txt.startswith (tx l) (tx m) = decide (l.take m.length = m) := by
  unfold Txt.startswith
  rw [StrLaws.subAt_eq, tx_len, tx_len]
  show (decide (0 + m.length ≤ l.length) && ((l.drop 0).take m.length == m)) = _
  rw [List.drop_zero]
  by_cases h : l.take m.length = m
  · have hl : m.length ≤ l.length := by
      have := congrArg List.length h
      rw [List.length_take] at this
      omega
    rw [decide_eq_true h, h]
    simp
    exact hl
  · rw [decide_eq_false h]
    have : (l.take m.length == m) = false := by simpa using h
    rw [this, Bool.and_false]
def rStartsU : V → List V → Hp → VK → Prop := fun x xs H Q => ∃ a b, x = .str a ∧ xs = [.str b] ∧ Q (.bl (Txt.startswith a b)) H
theorem uStarts {X : Cx} : MtR X "str.startswith" rStartsU := mt_startswith
theorem w_starts {l m : List Nat} {H : Hp} {Q : VK} (q : Q (.bl (decide (l.take m.length = m))) H) : rStartsU (.str (tx l)) [.str (tx m)] H Q := ⟨tx l, tx m, rfl, rfl, by rw [starts_is]; exact q⟩
/-- signs -/
def Sgn (l : List Nat) : Prop := ∀ c ∈ l, c < 1114112
theorem Let.sgn {l : List Nat} (h : Let l) : Sgn l := fun c hc => by
  have := mem_abc.mp (h c hc)
  omega
theorem Sgn.ok {l : List Nat} (h : Sgn l) : PyData.strOk (tx l) = true := by
  show l.toArray.all (fun c => decide (c < 0x110000)) = true
  unfold Sgn at h
  simpa using h
/-- pairs of texts -/
theorem dp_pair {K : PySem.W.Frag} {H : Hp} {p : Addr} {x y : Str} (h : SqT K H p [.str x, .str y]) : Dp K H (.ref p) (.tuple [.str x, .str y]) :=
  .tup h (.cons (.str _) (.cons (.str _) .nil))
theorem shaped_pair {x y : List Nat} (hx : Sgn x) (hy : Sgn y) : SeqAt.shaped (.tuple [.str (tx x), .str (tx y)]) = true := by
  simp [SeqAt.shaped, PyData.canLay0, PyData.canLayAll0, PyData.depth, PyData.depthAll, hx.ok, hy.ok]
theorem w_neP {K : PySem.W.Frag} {H : Hp} {Q : VK} {p q : Addr} {x y : List Nat} (h1 : SqT K H p [.str (tx x), .str (tx y)]) (h2 : SqT K H q [.str (tx x), .str (tx y)]) (hx : Sgn x) (hy : Sgn y) (k : Q (.bl false) H) : rNeU K (.ref p) (.ref q) H Q :=
  .inr ⟨_, _, dp_pair h1, dp_pair h2, shaped_pair hx hy, shaped_pair hx hy, by
    have e : PyData.eqv (.tuple [.str (tx x), .str (tx y)]) (.tuple [.str (tx x), .str (tx y)]) = true := by simp [PyData.eqv, PyData.eqvAll]
    rw [e]
    exact k⟩
theorem min_max (b : Int) (l : Nat) (hb : 2 ≤ b ∧ b ≤ 100) : ∃ n : Nat, (if (if (l : Int) < b then (l : Int) else b) > 2 then (if (l : Int) < b then (l : Int) else b) else 2) = n ∧ n ≤ 100 := by
  obtain ⟨c, rfl⟩ := Int.eq_ofNat_of_zero_le (show (0 : Int) ≤ b by omega)
  have : ∃ x : Nat, (if (l : Int) < c then (l : Int) else c) = x ∧ x ≤ 100 := by
    split
    · exact ⟨l, rfl, by omega⟩
    · exact ⟨c, rfl, by omega⟩
  obtain ⟨x, hx, hx2⟩ := this
  rw [hx]
  split
  · exact ⟨x, rfl, hx2⟩
  · exact ⟨2, rfl, by omega⟩
end SL
set_option Elab.async false
set_option linter.all false
set_option maxRecDepth 100000
set_option maxHeartbeats 4000000
/-! SlX: an own error with one field, whose class stands over an own class over Exception, and whose __init__ calls that class's own. (Turned from the worked proof of an own error.) -/
namespace PySem
namespace XIn
open PySem.W PySem.Calls PyProof.Rows PySem.HandSPX
def aI (p1 p2 : Pos) : Arguments := { posonlyargs := [], args := [{ arg := "self", annotation := none, pos := p1 }, { arg := "given", annotation := none, pos := p2 }], vararg := none, kwonlyargs := [], kw_defaults := [], kwarg := none, defaults := [] }
def bI (m : Str) (j : Nat) (q1 q2 q3 q4 q5 q6 q7 q8 q9 q10 : Pos) : List Stmt :=
  [.Expr (.Call (.Attribute (.Name "CodecError" q1) "__init__" q2) [.Name "self" q3, .Constant (.str m) j q4] [] q5) q6, .Assign [.Attribute (.Name "self" q7) "given" q8] (.Name "given" q9) q10]
def sI : Scope := { kind := .function, names := [(PySem.Str.ofString "self", .local), (PySem.Str.ofString "given", .local), (PySem.Str.ofString "CodecError", .globalImplicit)], isGenerator := false, isCoroutine := false, more := [] }
/-- what the written part says of the class at C, of the one under it at B, and of its __init__ at fI -/
structure ErrTxt (K : Frag) (mg : Str → Option Value) (x : Str) (C B fI : Addr) : Prop where
  gC : mg x = some (.ref C)
  gB : mg "CodecError" = some (.ref B)
  cls : ∃ nm q N bs sn sub ab col dd k0 k1 k2 k3 k5, K.lookup C = some (excClassObj nm q C N bs (.ref B :: ESX.exTail) true sn sub ab col dd k0 k1 k2 k3 k5 "Exception.__new__")
  sa : findIn K (.ref C) "__setattr__" = some (some (.builtin "object.__setattr__"))
  ga : findIn K (.ref C) "__getattribute__" = some (some (.builtin "BaseException.__getattribute__"))
  gg : findIn K (.ref C) "__getattr__" = some none
  noN : findIn K (.ref C) "given" = some none
  iC : findIn K (.ref C) "__init__" = some (some (.ref fI))
  tC : typeIn K (.ref fI) = some (.type "function")
  kC : keepIn K (.ref C) = true
  exC : subIn K (.ref C) (.type "BaseException") = some true
  tyC : typeIn K (.ref C) = some (.type "type")
  hdC : hasDictIn K C = true
  te : exmOne K (.ref C) (.ref C) = some true
  sp : specialIn K (.ref B) "__getattribute__" = some (some (.builtin "type.__getattribute__"))
  rd : readsIn K B (.type "type") = true
  fc : findCls K (.ref B) (.type "type") "__init__" = some (.val (.builtin "Exception.__init__"))
  fn : ∃ (oc : Value) (od : Option Addr) (doc pm : Value) (an : Option Addr) (cdv ct : Value) (osl : Array (Option Value)) (p1 p2 q1 q2 q3 q4 q5 q6 q7 q8 q9 q10 : Pos) (q m : Str) (j : Nat),
    K.lookup fI = some ⟨oc, od, .func (fnOf "__init__" q (aI p1 p2) (bI m j q1 q2 q3 q4 q5 q6 q7 q8 q9 q10) sI .none .none doc pm an cdv ct), osl⟩ ∧ codeIn K cdv q = true ∧
    ∀ env : Env, ∃ pl : Sem Bool, eval (.Call (.Attribute (.Name "CodecError" q1) "__init__" q2) [.Name "self" q3, .Constant (.str m) j q4] [] q5) env = (do
      let ov ← eval (.Name "CodecError" q1) env
      standAt q2.atName
      let (f, first) ← holding [ov] (getMethod ov "__init__" pl)
      callWith q5 f first (backTo q5 (starEach [.Name "self" q3, .Constant (.str m) j q4] env)) (backToKw q5 (keywordEach [] env)))
theorem one_fits (v : Value) : [v].length ≤ sizeLine := by
  rw [sizeLine_eq]
  exact (by decide : 1 ≤ 16777216)
theorem tail_is (B : Addr) (X : String) : (Value.ref B :: ESX.exTail).contains (.type X) = ESX.exTail.contains (.type X) := by
  rw [List.contains_cons]
  rfl
theorem in_but {K : Frag} {h h' : Heap} {x : Addr} (X : K.In h) (hx : K.lookup x = none) (k : ∀ b o, b ≠ x → h.get? b = some o → h'.get? b = some o) : K.In h' := fun a o e =>
  k a o (fun z => by rw [z, hx] at e; cases e) (X a o e)
theorem ldC {M : Model} {s : Shared} {name : Str} {scope : Scope} {L a : Addr} {cd : Value} {m : Str → Option Value} {x : Str} {pos : Pos} {v : Value} {Q : Value → Shared → Prop} {A : Around} {E : Value → Shared → Prop} (hn : s.heap.Ns L m) (hv : m x = some v) (h : Q v s)
    (hk : scope.kind = .function := by rfl) (hl : (envOfC name scope L a cd).kindOf x = some .local := by rfl) (hd : (x == ("__debug__" : Str)) = false := by decide) :
    wpAny M A (eval (.Name x pos) (envOfC name scope L a cd)) Q E s := wpAny_Name (wpAny_loadName_local hk hl hn hv h) hd
/-! self.name = v on such an exception that has no dict yet -/
section
open Builtin Builtin.ObjectAttr
theorem osa_two {prog : Program} {w : World} {A : Around} {R : Result → Shared → Prop} {hp : Heap} {g : Array GenState} {d : Drawn} {t : Nat} {os : OsState} {K : W.Frag} {name : Str} {tk : Tok} {v : Value} {x C B : Addr} {fv : Array Value} {cd : ClassData}
    (X : K.In hp) (hx : hp.get? x = some { cls := .ref C, data := .fields fv }) (hcd : W.clsIn K C = some cd) (hm : cd.mro = .ref C :: .ref B :: ESX.exTail) (hh : cd.hasDict = true) (ha : W.findIn K (.ref C) name = some none)
    (hq : ∀ h' tk' dx, (∀ b o, b ≠ x → hp.get? b = some o → h'.get? b = some o) → hp.objs.size ≤ dx → dx ≠ x → h'.get? x = some { cls := .ref C, dict := some dx, data := .fields fv } →
      h'.Ns1 dx (fun y => if y = name then some v else none) → R (.ok (.ret .none)) ⟨h', g, d, tk', os⟩) :
    codeAny (model prog w) A (.call (.builtin "object.__setattr__") ⟨[.ref x, .str name tk, v], []⟩) R ⟨hp, g, d, t, os⟩ := by
  have I : W.InstAt hp x { cls := .ref C, data := .fields fv } C none := ⟨hx, rfl, rfl, trivial⟩
  have far : x ≠ hp.objs.size := Nat.ne_of_lt (Heap.lt_size hx)
  have hob : cd.mro.contains (.type "object") = true := by
    have e : ESX.exTail.contains (.type "object") = true := by decide +kernel
    rw [hm, List.contains_cons, List.contains_cons, e]
    simp
  have ofObj : W.Looks (model prog w) hp (isInstance (.ref x) (.type "object")) true :=
    I.type.andThen (W.looks_mroIn X (by unfold W.mroIn; rw [hcd, Option.bind_some, hm, if_neg (by simp), ← hm, hob]))
  have SO := F.store_object
  refine codeAny_call_builtin SO.slot.plain SO.entry (@W.check_slot (model prog w) _ _ ⟨hp, g, d, t, os⟩ "object.__setattr__" "object" "__setattr__" (.ref x) [.str name tk, v] [] _ SO.kind SO.split ofObj (SO.args (.ref x) (.str name tk) v) ?_)
  have chain : W.Looks (model prog w) hp (mroOf (.ref C)) cd.mro := (W.looks_clsIn X hcd).andThen .now
  have noTaker : W.Looks (model prog w) hp (storeTaker? none) none := .now
  have ofC : W.Looks (model prog w) hp (classData C) cd := W.looks_clsIn X hcd
  have goes : refuseLoop (.ref x) "__setattr__" cd.mro = pure () := by
    rw [hm, refuseLoop_ref, refuseLoop_ref]
    exact F.store_Exception.passes _
  rw [W.osa_eq, refuse_eq]
  refine wpAny_bind (wpAny_bind (I.type.at (wpAny_bind (chain.at ?_))))
  rw [goes]
  refine wpAny_pure (wpAny_bind (I.type.at (wpAny_bind ((W.looks_findIn X ha).at (wpAny_bind (noTaker.at ?_))))))
  show wpAny _ _ (storeInOwnDict (.ref x) (.ref C) (.str name tk) name v false) _ _ _
  obtain ⟨nm, bs, mro, ns, qn, hd, sn, sb, ab, col, del⟩ := cd
  dsimp only at hh
  subst hh
  unfold storeInOwnDict ownDictForStores
  repeat (first | with_reducible refine HandSPX.store_in_new ?_ ?_ | with_reducible refine wpAny_loadPart_at hx ?_ | with_reducible refine ofC.at ?_ | wp_step)
  · exact ⟨_, #[], _, (Heap.get?_update_ne _ _ _ _ far.symm).trans (Heap.get?_push_at rfl rfl), rfl, fun e he => absurd he (by simp), fun _ => rfl⟩
  · intro h' tk' hn' hs
    have hx₁ : (hp.push { cls := .type "dict", data := .dict #[] }).get? x = some { cls := .ref C, data := .fields fv } := Heap.get?_push_of_some _ hx
    refine hq h' tk' hp.objs.size (fun b o hb ho => ?_) (Nat.le_refl _) far.symm ?_ hn'
    · exact (hs.2 b (Nat.ne_of_lt (Heap.lt_size ho))).trans ((Heap.get?_update_ne _ _ _ _ hb).trans (Heap.get?_push_of_some _ ho))
    · exact (hs.2 x far).trans (Heap.get?_update_self _ hx₁ rfl)
end
/-- what __init__ leaves of a fresh exception at x -/
structure InitEnd (h h' : Heap) (x C dx : Addr) (v : Value) : Prop where
  keep : ∀ b o, b ≠ x → h.get? b = some o → h'.get? b = some o
  obj : ∃ t1 : Addr, h'.get? x = some ({ cls := .ref C, dict := some dx, data := .fields #[.ref t1, .none, .none, .none, .bool false, .none] } : Obj)
  dbig : h.objs.size ≤ dx
  dne : dx ≠ x
  ns : h'.Ns1 dx (fun y => if y = "given" then some v else none)
/-- a made one -/
structure OwnMade (h h' : Heap) (e C d : Addr) (v : Value) : Prop where
  keep : ∀ b o, h.get? b = some o → h'.get? b = some o
  new : h.objs.size ≤ e
  obj : ∃ oe vs, h'.get? e = some oe ∧ oe.cls = .ref C ∧ oe.dict = some d ∧ oe.data = .fields vs ∧ vs[1]? = some .none
  dbig : h.objs.size ≤ d
  dne : d ≠ e
  ns : h'.Ns1 d (fun y => if y = "given" then some v else none)
section
variable {prog : Program} {w : World} {A : Around} {E : Value → Shared → Prop} {R : Result → Shared → Prop} {s : Shared} {K : Frag} {mg : Str → Option Value} {n : Str} {C B fI : Addr}
theorem err_init (T : ErrTxt K mg n C B fI) {x t0 : Addr} {v : Value} (X : K.In s.heap) (hG : s.heap.Ns mainGlobals mg) (hlim : s.heap.NoLimit) (hx : s.heap.get? x = some (excO C t0)) (hnx : K.lookup x = none) (hroom : A.depth < recursionLimit)
    (hq : ∀ h' tk dx, InitEnd s.heap h' x C dx v → R (.ok (.ret .none)) { s with heap := h', toks := tk }) :
    codeAny (model prog w) A (.call (.ref fI) ⟨[.ref x, v], []⟩) R s := by
  obtain ⟨oc, od, doc, pm, an, cdv, ct, osl, p1, p2, q1, q2, q3, q4, q5, q6, q7, q8, q9, q10, qn, m, j, ho, hcd, hev⟩ := T.fn
  obtain ⟨nm, q, N, bs, sn, sub, ab, col, dd, k0, k1, k2, k3, k5, hC⟩ := T.cls
  have hcl : clsIn K C = some { name := nm, bases := bs, mro := .ref C :: .ref B :: ESX.exTail, ns := N, qualname := q, hasDict := true, slotNames := sn, subclasses := sub, abstract := ab, collection := col, hasDel := false } := by unfold clsIn; rw [hC] <;> rfl
  refine Att.call_fn (binds := [("self", .ref x), ("given", v)]) X hlim ho hcd hroom (BindsTo.of_eq (by first | rfl | with_unfolding_all rfl)) (by first | rfl | decide | with_unfolding_all rfl) (fun s₁ IC => ?_) rfl rfl rfl
  obtain ⟨h₁, tk₁, rfl⟩ := IC.toInCall.same
  have k : ∀ b o, s.heap.get? b = some o → h₁.get? b = some o := IC.toInCall.keep
  have hn := IC.toInCall.ns
  have hxL : s.heap.objs.size ≠ x := Nat.ne_of_gt (Heap.lt_size hx)
  have X₁ : K.In h₁ := X.keeps k
  have hx₁ := k _ _ hx
  have z : s.heap.objs.size < h₁.objs.size := hn.lt
  show wpAny _ _ (execs _ _) _ _ _
  obtain ⟨pl, hev⟩ := hev (envOfC qn sI s.heap.objs.size fI cdv)
  refine wpAny_execs_cons (wpAny_Expr_any (methodCall_KW ?_ hev) (by first | rfl | simp [interactive]) (by first | rfl | with_unfolding_all rfl))
  refine Name_function_global rfl (by first | rfl | with_unfolding_all rfl | kernel_rfl) (loadGlobal_global (mg := mg) (hG.keeps k) T.gB ?_)
  refine method_cls X₁ T.sp (cls_value X₁ T.rd T.fc (by decide +kernel) ?_)
  refine callWith_method1 (args_cons (ldC (v := .ref x) hn (by first | rfl | with_unfolding_all rfl | kernel_rfl) (args_cons (Constant_str (args_nil ?_)))))
  refine wpAny_call (init_base F.excBase_Exception (tail_is B) (X₁ _ _ hC) hx₁ (one_fits _) fun h₂ t₂ k₂ hx₂ => ?_)
  have X₂ : K.In h₂ := in_but X₁ hnx k₂
  have hn₂ := hn.at fun o q => k₂ _ o hxL q
  refine wpAny_execs_cons (plainObj_wpAny_Assign_Attribute ?_)
  refine ldC (v := v) hn₂ (by first | rfl | with_unfolding_all rfl | kernel_rfl) (ldC (v := .ref x) hn₂ (by first | rfl | with_unfolding_all rfl | kernel_rfl) ?_)
  refine set_plain X₂ (ox := excO C t₂) (od := none) ⟨hx₂, rfl, rfl, trivial⟩ T.sa ?_
  refine osa_two X₂ hx₂ hcl rfl rfl T.noN (fun h₃ tk₃ dx k₃ dn dne hx₃ hn₃ => ?_)
  show wpAny _ _ (execs _ _) _ _ _
  have z2 : s.heap.objs.size < h₂.objs.size := hn₂.lt
  exact wpAny_execs_nil (hq h₃ tk₃ dx ⟨fun b o hb e => k₃ b o hb (k₂ b o hb (k b o e)), ⟨_, hx₃⟩, Nat.le_of_lt (Nat.lt_of_lt_of_le z2 dn), dne, hn₃⟩)
theorem err_made (T : ErrTxt K mg n C B fI) {v : Value} (X : K.In s.heap) (hG : s.heap.Ns mainGlobals mg) (hlim : s.heap.NoLimit) (hroom : A.depth + 1 < recursionLimit)
    (hq : ∀ h' tk e d, OwnMade s.heap h' e C d v → R (.ok (.ret (.ref e))) { s with heap := h', toks := tk }) :
    codeAny (model prog w) A (.call (.ref C) ⟨[v], []⟩) R s := by
  obtain ⟨nm, q, N, bs, sn, sub, ab, col, dd, k0, k1, k2, k3, k5, hC⟩ := T.cls
  obtain ⟨hp, g, dr, tk, os⟩ := s
  have k : ∀ b o, hp.get? b = some o → ((hp.push (kdv_tup [v])).push (excO C hp.objs.size)).get? b = some o := fun b o e => Heap.get?_push_of_some _ (Heap.get?_push_of_some _ e)
  have hget : ((hp.push (kdv_tup [v])).push (excO C hp.objs.size)).get? (hp.objs.size + 1) = some (excO C hp.objs.size) := by heap_get
  have hnx : K.lookup (hp.objs.size + 1) = none := by
    cases e : K.lookup (hp.objs.size + 1) with
    | none => rfl
    | some o =>
      have z : hp.get? (hp.objs.size + 1) = some o := X _ _ e
      exact absurd (Nat.lt_of_succ_lt (Heap.lt_size z)) (Nat.lt_irrefl _)
  refine call_own F.excBase_Exception (tail_is B) (X _ _ hC) (looks_findIn X T.iC) (fun self => bind_fn X self T.tC) (one_fits v) ?_
  refine err_init (s := ⟨(hp.push (kdv_tup [v])).push (excO C hp.objs.size), g, dr, tk, os⟩) T (X.keeps k) (hG.keeps k) (hlim.keeps k) hget hnx ?_ fun h' tk' dx ⟨k', ⟨t1, hx⟩, dn, dne, hns⟩ => ?_
  · show A.depth + 1 < recursionLimit
    exact hroom
  · have old : ∀ b o, hp.get? b = some o → h'.get? b = some o := fun b o e => k' b o (Nat.ne_of_lt (Nat.lt_succ_of_lt (Heap.lt_size e))) (k b o e)
    have z : hp.objs.size + 1 + 1 ≤ dx := by
      first
        | (simpa only [Heap.size_push] using dn)
        | exact dn
        | (have q := dn; rw [Heap.size_push, Heap.size_push] at q; exact q)
    exact ⟨rfl, hq h' tk' (hp.objs.size + 1) dx ⟨old, Nat.le_succ _, ⟨_, _, hx, rfl, rfl, rfl, rfl⟩, Nat.le_trans (Nat.le_trans (Nat.le_succ _) (Nat.le_succ _)) z, dne, hns⟩⟩
end
end XIn
end PySem

namespace SL
open PySem PySem.Spec PyProof.Rows L2
/-- the exception's own dict -/
abbrev xdG (v : V) : HO := .xd [(("given" : Str), v)]
theorem relO_given {v : V} {u : Value} (r : RelV v u) (f : Str) : RelO (List.lookup f [(("given" : Str), v)]) (if f = "given" then some u else none) := by
  by_cases hw : f = "given"
  · subst hw
    rw [if_pos rfl]
    have q : List.lookup ("given" : Str) [(("given" : Str), v)] = some v := by simp [List.lookup]
    rw [q]
    exact r
  · rw [if_neg hw]
    have qw : (f == ("given" : Str)) = false := by simpa using hw
    have q2 : List.lookup f [(("given" : Str), v)] = none := by simp [List.lookup, qw]
    rw [q2]
    trivial
/-- X(e): the made error -/
def tMkE (C : Addr) (ta : TA) : SSt → Hp → XK → Prop := fun σ H Q => ta σ H fun vs H1 => ∃ v, vs = [v] ∧ ∀ d, H1 d = none → Q (.ref C) (some d) (upd H1 d (xdG v))
theorem pmk_err {X : Cx} {C B fI : Addr} {x : Str} {a : Expr} {ta : TA} {p pos : Pos} {k : Nat} (T : PySem.XIn.ErrTxt X.K X.mg x C B fI) (hr : Room (k + 1) X.A) (ha : PA X [a] ta) (hg : Gl X x) (hdb : (x == ("__debug__" : Str)) = false := by decide)
    (he : starEach (a :: []) X.env = (false, eval a X.env) :: starEach [] X.env := by rfl) (hpl : (backTo pos (starEach [] X.env)).any (·.1) = false := by rfl) :
    PMk X (.Call (.Name x p) [a] [] pos) (tMkE C ta) := by
  intro pins s σ H Q I h
  refine wpAny_Call_Name_kw (ld_glob I hg T.gC ?_ hdb)
  refine PySem.W.callWith_K (h₀ := X.base) I.ok.mod.kin T.kC (thn (ha.run pos pins s σ H _ I h) fun us s1 hh => ?_) he hpl
  obtain ⟨vs, H1, I1, r1, v, ev, q1⟩ := hh
  subst ev
  refine ⟨I1.kIn, ?_⟩
  cases r1 with
  | cons rv rn =>
    rename_i v' us'
    cases rn
    show wpAny _ _ (call (.ref C) [v']) _ _ _
    have hlim := I1.nolimit
    have hG := I1.ok.mod.glob.keeps I1.bk
    obtain ⟨hp, g, dr, tk, os⟩ := s1
    refine wpAny_call (PySem.XIn.err_made T I1.kIn hG hlim (by have := hr.dp; omega) fun h' tk' e d M => ?_)
    show MkP X pins σ Q (.ref e) ⟨h', g, dr, tk', os⟩
    obtain ⟨oe, fv, hoe, hc, hd, hdat, h1⟩ := M.obj
    have hns := M.ns
    obtain ⟨G', g1, g2⟩ := restrict h' fun b => decide (b ≠ e)
    have gk : ∀ b, b ≠ e → G'.get? b = h'.get? b := fun b hb => g1 b (decide_eq_true hb)
    have ge : G'.get? e = none := g2 e (by simp)
    have old : ∀ b o, hp.get? b = some o → G'.get? b = some o := fun b o q => (gk b (Nat.ne_of_lt (Nat.lt_of_lt_of_le (Heap.lt_size q) M.new))).trans (M.keep b o q)
    have ob : ObjOk X.prog X.w (upd H1 d (xdG v)) G' d (xdG v) := ⟨_, hns.at (fun o q => (gk d M.dne).trans q), fun f => relO_given rv f⟩
    have J : Inv X pins σ (upd H1 d (xdG v)) ⟨G', g, dr, tk', os⟩ := I1.laid (t' := tk') old M.dbig ob
    refine ⟨e, oe, fv, ⟨G', g, dr, tk', os⟩, _, .ref C, some d, rfl, J, fun b o q => ?_, ge, hoe, ⟨hc, hd⟩, hdat, h1, ?_, rfl, I1.bare, raises_own T.exC T.tyC, q1 d (I1.hok.fresh M.dbig)⟩
    · by_cases hb : b = e
      · have q' : G'.get? b = some o := q
        rw [hb, ge] at q'; cases q'
      · exact (gk b hb).symm.trans q
    · rw [upd_ne (Ne.symm M.dne)]
      exact I1.hok.fresh M.new
/-- raise X(e) -/
def tRz (C : Addr) (W : WX) (ta : TA) : TS := fun _ σ H => ta σ H fun vs H1 => ∃ v, vs = [v] ∧ ∀ d, H1 d = none → W (.ref C) (some d) σ (upd H1 d (xdG v))
theorem ps_rz {X : Cx} {C B fI : Addr} {x : Str} {a : Expr} {ta : TA} {W : WX} {p pos pos2 : Pos} {k : Nat} (hc : X.calm = true) (tk : Takes X W) (T : PySem.XIn.ErrTxt X.K X.mg x C B fI) (hr : Room (k + 1) X.A) (hg : Gl X x) (ha : PA X [a] ta) (hdb : (x == ("__debug__" : Str)) = false := by decide)
    (he : starEach (a :: []) X.env = (false, eval a X.env) :: starEach [] X.env := by rfl) (hpl : (backTo pos (starEach [] X.env)).any (·.1) = false := by rfl) :
    PS X (.Raise (some (.Call (.Name x p) [a] [] pos)) none pos2) (tRz C W ta) := ps_raise hc tk (pmk_err T hr ha hg hdb he hpl)
theorem w_rz {C : Addr} {W : WX} {ta : TA} {D : Ends} {σ : SSt} {H : Hp} (q : ta σ H fun vs H1 => ∃ v, vs = [v] ∧ ∀ d, H1 d = none → W (.ref C) (some d) σ (upd H1 d (xdG v))) : tRz C W ta D σ H := q
theorem w_one {Q : V → Prop} {v : V} (q : Q v) : ∃ x, [v] = [x] ∧ Q x := ⟨v, rfl, q⟩
theorem xf_of {K : PySem.W.Frag} {mg : Str → Option Value} {x : Str} {C B fI : Addr} (T : PySem.XIn.ErrTxt K mg x C B fI) : XfC K C := ⟨T.ga, T.gg, T.exC, T.hdC⟩
/-- try: body, except X as n: suite -/
def tTryA (K : PySem.W.Frag) (c : Value) (i : Nat) (ts : Addr → Value → Option Addr → TS) (Wout : WX) (tb : WX → TS) : TS := fun D σ H => tb (wAs K c i ts Wout D) D σ H
theorem ps_tryA (K : PySem.W.Frag) {X : Cx} {x n : Str} {c : Value} {i : Nat} {body suite : List Stmt} {b₀ : Stmt} {np pos pos' : Pos} {tb : WX → TS} {ts : Addr → Value → Option Addr → TS} {Wout : WX} (hK : X.K = K)
    (hs : X.stack = X.env :: X.outer) (hf : X.env.frame = some X.env.locals) (hN : X.N.Nodup) (hi : X.N[i]? = some n) (hln : X.env.kindOf n = some .local) (hc : Names X x c) (tk : Takes X Wout)
    (hb : ∀ (W : WX) (pn : List (Addr × Obj)) (xe : Value → Shared → Prop), Takes (X.tr pn xe) W → PassesOwn (model X.prog X.w) X.A X.env xe → PSs (X.tr pn xe) body (tb W))
    (hsu : ∀ (a : Addr) (oe : Obj) (cls : Value) (d : Option Addr) (pn : List (Addr × Obj)), Zc cls d oe → (∃ vs, oe.data = .fields vs) → PSs (X.suite a ((a, oe) :: pn)) (b₀ :: suite) (ts a cls d)) :
    PS X (.Try body [.ExceptHandler (some (.Name x np)) (some n) (b₀ :: suite) pos'] [] [] pos) (tTryA K c i ts Wout tb) := hK ▸ ps_try_as hs hf hN hi hln hc tk hb hsu
theorem w_tryA {K : PySem.W.Frag} {c : Value} {i : Nat} {ts : Addr → Value → Option Addr → TS} {Wout : WX} {tb : WX → TS} {D : Ends} {σ : SSt} {H : Hp} (q : tb (wAs K c i ts Wout D) D σ H) : tTryA K c i ts Wout tb D σ H := q
/-- the clause takes it -/
theorem wAs_of {K : PySem.W.Frag} {c cls : Value} {i : Nat} {ts : Addr → Value → Option Addr → TS} {Wout : WX} {D : Ends} {d : Option Addr} {σ : SSt} {H : Hp} (h : PySem.W.exmOne K cls c = some true)
    (q : ∀ a, H a = none → ts a cls d { nx := fun σ' H' => D.nx (σ'.set i none) H', rt := D.rt, bk := fun σ' H' => D.bk (σ'.set i none) H', ct := fun σ' H' => D.ct (σ'.set i none) H' } (σ.set i (some (.ref a))) H) : wAs K c i ts Wout D cls d σ H :=
  ⟨true, h, fun _ => q, fun h => nomatch h⟩
/-- e.given in the suite, e the caught error at a -/
def tGiv (C a : Addr) (cls : Value) (d : Option Addr) (i : Nat) : TE := fun σ H Q => σ[i]? = some (some (.ref a)) ∧ cls = .ref C ∧ ∃ (b : Addr) (v : V), d = some b ∧ H b = some (xdG v) ∧ Q v H
theorem pe_giv {X : Cx} {x : Str} {a C B fI : Addr} {oe : Obj} {cls : Value} {d : Option Addr} {pn : List (Addr × Obj)} {e : Expr} {i : Nat} {pos : Pos} (T : PySem.XIn.ErrTxt X.K X.mg x C B fI)
    (hz : Zc cls d oe) (hf : ∃ vs, oe.data = .fields vs) (he : PE (X.suite a ((a, oe) :: pn)) e (tVar i)) (hb : attributeBase e "given" X.env (eval e X.env) = eval e X.env := by rfl) :
    PE (X.suite a ((a, oe) :: pn)) (.Attribute e "given" pos) (tGiv C a cls d i) := by
  refine ⟨fun pins s σ H Q I h => (pe_xf (xf_of T) T.noN hz hf he hb).run pins s σ H Q I ?_⟩
  obtain ⟨h1, h2, b, v, h3, h4, q⟩ := h
  exact ⟨.ref a, h1, rfl, h2, b, _, v, h3, h4, by simp [List.lookup], q⟩
theorem w_giv {C a d : Addr} {i : Nat} {σ : SSt} {H : Hp} {Q : VK} {v : V} (h : σ[i]? = some (some (.ref a))) (hd : H d = some (xdG v)) (q : Q v H) : tGiv C a (.ref C) (some d) i σ H Q := ⟨h, rfl, d, v, rfl, hd, q⟩
theorem noXt {X : Cx} : ∀ σ, PassesAt (L2.CX X.prog X.w) X σ (E0s σ) := noX
/-- what a def lets out is its own wish -/
theorem tk_def {P : Program} {w : World} {K : PySem.W.Frag} {mg : Str → Option Value} {base : Heap} {N : List Str} {q : Str} {sc : Scope} {f : Addr} {cd : Value} {A : Around} {outer : List Env} {s : Shared} {H : Hp} {E : XK} :
    Takes (cxOf (L2.CX P w) P w K mg base N q sc f cd A outer s H E) (fun cls d _ H => E cls d H) := takes_of rfl rfl rfl rfl
theorem po_def {P : Program} {w : World} {K : PySem.W.Frag} {mg : Str → Option Value} {base : Heap} {N : List Str} {q : Str} {sc : Scope} {f : Addr} {cd : Value} {A : Around} {outer : List Env} {s : Shared} {H : Hp} {E : XK} :
    PassesOwn (model P w) (cxOf (L2.CX P w) P w K mg base N q sc f cd A outer s H E).A (cxOf (L2.CX P w) P w K mg base N q sc f cd A outer s H E).env (cxOf (L2.CX P w) P w K mg base N q sc f cd A outer s H E).xe := passes_of rfl
/-- how a class of errors is named -/
theorem names_err {X : Cx} {x : Str} {C B fI : Addr} (T : PySem.XIn.ErrTxt X.K X.mg x C B fI) (hg : Gl X x) (hdb : (x == ("__debug__" : Str)) = false := by decide) : Names X x (.ref C) := ⟨hg, hdb, .inl T.gC⟩
end SL
set_option Elab.async false
set_option linter.all false
set_option maxRecDepth 100000
set_option maxHeartbeats 4000000
/-! SlR: repr of data: nested lists and tuples of None, bools, ints and texts; an empty dict. -/
namespace SL
open PySem PySem.Spec PyProof.Rows L2
/-- may be written out -/
def ShowOk (d : PyData) : Prop := d.showable = true ∧ d.hasDict = false ∧ d.depth ≤ 60 ∧ d.shown.length ≤ 16777216
def rReprD (K : PySem.W.Frag) : List V → Hp → VK → Prop := fun xs H Q => ∃ x, xs = [x] ∧ ((∃ d, Dp K H x d ∧ ShowOk d ∧ Q (.str d.shown) H) ∨ (∃ a, x = .ref a ∧ H a = some (.dK []) ∧ Q (.str (PyData.dict []).shown) H))
theorem uReprD {X : Cx} {k : Nat} (hr : Room k X.A) (hg : X.A.guards = some []) : CallR X (.builtin "repr") (rReprD X.K) := by
  intro pins s σ H xs us Q I r h
  obtain ⟨x, rfl, h⟩ := h
  obtain ⟨u, rfl, ru⟩ := vals1 r
  have hu := hr.units
  have fin : ∀ {d : PyData} {as : List Addr} {a : Addr}, u = .ref a → Reads s.heap u d as → d.showable = true → (d.hasDict = true → sysModules ∉ as) → d.depth ≤ 60 → d.shown.length ≤ 16777216 → Q (.str d.shown) H →
      wpAny (model X.prog X.w) X.A (call (.builtin "repr") [u]) (EP X pins σ Q) X.xe s := by
    intro d as a e rd sh hs hd hz q
    subst e
    refine repr_of_reads' rd sh hs hg (by omega) (fun _ _ e => e) (fun h' t tk k => ⟨.str d.shown, H, I.kept k, ⟨_, rfl⟩, q⟩) (by rw [sizeLine_eq]; exact hz)
  rcases h with ⟨d, hd, ⟨s1, s2, s3, s4⟩, q⟩ | ⟨a, rfl, ha, q⟩
  · cases hd with
    | non =>
      cases (show u = Value.none from ru)
      exact PySem.P.repr_of_none ⟨.str _, H, I.tok _, ⟨_, rfl⟩, q⟩
    | bl b =>
      cases (show u = Value.bool b from ru)
      refine PySem.P.repr_of_bool ⟨.str _, H, I.tok _, ⟨_, rfl⟩, ?_⟩
      first | exact q | (cases b <;> exact q)
    | int i =>
      obtain ⟨t, rfl⟩ := ru
      refine PySem.P.repr_of_int (by simpa [PyData.showable] using s1) ⟨.str _, H, I.tok _, ⟨_, rfl⟩, q⟩
    | str y =>
      obtain ⟨t, rfl⟩ := ru
      exact PySem.P.repr_of_str ⟨.str _, H, I.tok _, ⟨_, rfl⟩, q⟩ (by rw [sizeLine_eq]; exact s4)
    | lst h1 h2 =>
      obtain ⟨as, rd⟩ := Dp.reads I _ _ u (.lst h1 h2) ru
      exact fin (show u = Value.ref _ from ru) rd s1 (fun z => by rw [s2] at z; cases z) s3 s4 q
    | tup h1 h2 =>
      obtain ⟨as, rd⟩ := Dp.reads I _ _ u (.tup h1 h2) ru
      exact fin (show u = Value.ref _ from ru) rd s1 (fun z => by rw [s2] at z; cases z) s3 s4 q
  · obtain ⟨_, ns, vs, kv, o, es, ep, e1, ⟨e2, e3, _, e4, _⟩⟩ := (show ObjOk X.prog X.w H s.heap a (.dK []) from I.hok a _ ha)
    have hvs : vs = [] := by
      cases kv
      rfl
    subst hvs
    have hes : es.toList = [] := by
      have := e4
      unfold Pairs at this
      cases h : es.toList with
      | nil => rfl
      | cons x r => rw [h] at this; cases this
    have rd : Reads s.heap u (.dict []) ([a] ++ []) := by
      rw [show u = Value.ref a from ru]
      have hd : Reads s.heap (.ref a) (.dict []) (a :: [] ++ []) := Reads.dict e1 (by first | exact e2.1 | exact e2.cls | exact e2) e3 (by rw [hes]; exact .nil) (by rw [hes]; exact .nil)
      exact hd
    refine fin (d := .dict []) (show u = Value.ref a from ru) rd (by rfl) (fun _ hm => ?_) (by decide) (by decide) q
    rw [List.append_nil, List.mem_singleton] at hm
    rw [← hm] at ns
    simp at ns
theorem kReprD (K : PySem.W.Frag) {X : Cx} {k : Nat} (h : X.K = K) (hr : Room k X.A) (hg : X.A.guards = some []) : CallR X (.builtin "repr") (rReprD K) := h ▸ uReprD hr hg
/-- a value that can be written out, and what is written -/
def Shown (K : PySem.W.Frag) (H : Hp) (v : V) (t : Str) : Prop := (∃ d, Dp K H v d ∧ ShowOk d ∧ t = d.shown) ∨ (∃ a, v = .ref a ∧ H a = some (.dK []) ∧ t = (PyData.dict []).shown)
theorem w_reprD {K : PySem.W.Frag} {H : Hp} {Q : VK} {v : V} {t : Str} (h : Shown K H v t) (q : Q (.str t) H) : rReprD K [v] H Q := by
  rcases h with ⟨d, h1, h2, rfl⟩ | ⟨a, h1, h2, rfl⟩
  · exact ⟨v, rfl, .inl ⟨d, h1, h2, q⟩⟩
  · exact ⟨v, rfl, .inr ⟨a, h1, h2, q⟩⟩
/-! errors by their names -/
def errAt (mg : Str → Option Value) (x : Str) : Addr := match mg x with | some (.ref C) => C | _ => 0
def ErrAt (K : PySem.W.Frag) (mg : Str → Option Value) (x : Str) : Prop := ∃ B fI, PySem.XIn.ErrTxt K mg x (errAt mg x) B fI
theorem ErrAt.of {K : PySem.W.Frag} {mg : Str → Option Value} {x : Str} {C B fI : Addr} (T : PySem.XIn.ErrTxt K mg x C B fI) : ErrAt K mg x := by
  have e : errAt mg x = C := by unfold errAt; rw [T.gC]
  exact ⟨B, fI, e.symm ▸ T⟩
theorem ErrAt.te {K : PySem.W.Frag} {mg : Str → Option Value} {x : Str} (T : ErrAt K mg x) : PySem.W.exmOne K (.ref (errAt mg x)) (.ref (errAt mg x)) = some true := by
  obtain ⟨B, fI, T⟩ := T
  exact T.te
theorem ps_rzA (mg : Str → Option Value) {X : Cx} {x : Str} {a : Expr} {ta : TA} {W : WX} {p pos pos2 : Pos} {k : Nat} (T : ErrAt X.K X.mg x) (hm : X.mg = mg) (hc : X.calm = true) (tk : Takes X W) (hr : Room (k + 1) X.A) (hg : Gl X x) (ha : PA X [a] ta) (hdb : (x == ("__debug__" : Str)) = false := by decide)
    (he : starEach (a :: []) X.env = (false, eval a X.env) :: starEach [] X.env := by rfl) (hpl : (backTo pos (starEach [] X.env)).any (·.1) = false := by rfl) :
    PS X (.Raise (some (.Call (.Name x p) [a] [] pos)) none pos2) (tRz (errAt mg x) W ta) := by
  subst hm
  obtain ⟨B, fI, T⟩ := T
  exact ps_rz hc tk T hr hg ha hdb he hpl
theorem pe_givA (mg : Str → Option Value) {X : Cx} {x : Str} {a : Addr} {oe : Obj} {cls : Value} {d : Option Addr} {pn : List (Addr × Obj)} {e : Expr} {i : Nat} {pos : Pos} (T : ErrAt X.K X.mg x) (hm : X.mg = mg)
    (hz : Zc cls d oe) (hf : ∃ vs, oe.data = .fields vs) (he : PE (X.suite a ((a, oe) :: pn)) e (tVar i)) (hb : attributeBase e "given" X.env (eval e X.env) = eval e X.env := by rfl) :
    PE (X.suite a ((a, oe) :: pn)) (.Attribute e "given" pos) (tGiv (errAt mg x) a cls d i) := by
  subst hm
  obtain ⟨B, fI, T⟩ := T
  exact pe_giv T hz hf he hb
theorem names_errA (mg : Str → Option Value) {X : Cx} {x : Str} (T : ErrAt X.K X.mg x) (hm : X.mg = mg) (hg : Gl X x) (hdb : (x == ("__debug__" : Str)) = false := by decide) : Names X x (.ref (errAt mg x)) := by
  subst hm
  obtain ⟨B, fI, T⟩ := T
  exact names_err T hg hdb
end SL
namespace SL
/-- an error of a class is what the clause of this class takes (the worked proof's row) -/
theorem exm_self {K : PySem.W.Frag} {S : PySem.Addr} (h1 : PySem.W.subIn K (.ref S) (.type "BaseException") = some true) (h2 : PySem.W.isClsIn K S = true) (h3 : PySem.W.typeIn K (.ref S) = some (.type "type")) (h4 : PySem.W.subIn K (.ref S) (.ref S) = some true) :
    PySem.W.exmOne K (.ref S) (.ref S) = some true := by
  have e1 : (PySem.W.subIn K (.ref S) (.type "BaseException") == some true) = true := by rw [h1] <;> rfl
  have e2 : ((PySem.W.clsIn K S).isSome && PySem.W.typeIn K (.ref S) == some (.type "type")) = true := by
    have h2' : (PySem.W.clsIn K S).isSome = true := h2
    rw [h2', h3] <;> rfl
  show (if (PySem.W.subIn K (.ref S) (.type "BaseException") == some true) = true then (if ((PySem.W.clsIn K S).isSome && PySem.W.typeIn K (.ref S) == some (.type "type")) = true then PySem.W.subIn K (.ref S) (.ref S) else none) else none) = some true
  rw [if_pos e1, if_pos e2]
  exact h4
end SL
set_option Elab.async false
set_option linter.all false
set_option maxRecDepth 100000
set_option maxHeartbeats 4000000
/-! SlS: values of any kind, as texts and lags are asked of them. -/
namespace SL
open PySem PySem.Spec PyProof.Rows L2
/-- the names of the kinds of values -/
def Kind (t : String) : Prop := t = "int" ∨ t = "bool" ∨ t = "NoneType" ∨ t = "list" ∨ t = "tuple" ∨ t = "dict" ∨ t = "str"
def KindX (t : String) : Prop := t = "int" ∨ t = "bool" ∨ t = "str" ∨ t = "list" ∨ t = "tuple"
theorem kit_kind {K : PySem.W.Frag} {t n : String} (ht : Kind t) (hn : KindX n) : PySem.W.kitOne K (.type t) (.type n) = some (t == n || (t == "bool" && n == "int")) := by
  rcases ht with rfl | rfl | rfl | rfl | rfl | rfl | rfl <;> rcases hn with rfl | rfl | rfl | rfl | rfl <;> exact kit_ty (by decide +kernel)
theorem w_isiK {K : PySem.W.Frag} {H : Hp} {Q : VK} {v : V} {t n : String} (h : TyX K H v (.type t)) (ht : Kind t) (hn : KindX n) (q : Q (.bl (t == n || (t == "bool" && n == "int"))) H) : rIsi K [v, .ty n] H Q :=
  ⟨v, _, .type t, .type n, _, rfl, .ty n, h, kit_kind ht hn, q⟩
/-- how the kind stays -/
theorem tyx_mono {K : PySem.W.Frag} {H H' : Hp} {v : V} {t : Value} (s : Same H H') (h : TyX K H v t) : TyX K H' v t := by
  cases h with
  | base b => cases b with
    | non => exact .base .non
    | bl b => exact .base (.bl b)
    | int i => exact .base (.int i)
    | str x => exact .base (.str x)
    | flt x => exact .base (.flt x)
    | lst e => exact .base (.lst (s _ _ e))
    | tup e => exact .base (.tup (s _ _ e))
    | frz e => exact .base (.frz (s _ _ e))
    | dK e => exact .base (.dK (s _ _ e))
    | dT e => exact .base (.dT (s _ _ e))
    | ins e cl ha hn htk hm => exact .base (.ins (s _ _ e) cl ha hn htk hm)
  | byt b => exact .byt b
  | set e => exact .set (s _ _ e)
  | kList e c => exact .kList e c
  | kTuple e c => exact .kTuple e c
  | kDict e c => exact .kDict e c
  | fTuple e => exact .fTuple (s _ _ e)
  | fDict e => exact .fDict (s _ _ e)
/-- what is_text answers of v -/
def IsTx (K : PySem.W.Frag) (H : Hp) (v : V) (b : Bool) : Prop := (∃ l, v = .str (tx l) ∧ l.length ≤ 100000 ∧ b = decide (Let l)) ∨ (b = false ∧ ∃ t, TyX K H v (.type t) ∧ Kind t ∧ t ≠ "str")
theorem IsTx.mono {K : PySem.W.Frag} {H H' : Hp} {v : V} {b : Bool} (s : Same H H') (h : IsTx K H v b) : IsTx K H' v b := by
  rcases h with h | ⟨h1, t, h2, h3⟩
  · exact .inl h
  · exact .inr ⟨h1, t, tyx_mono s h2, h3⟩
/-- what is_lag answers of v -/
def IsLg (K : PySem.W.Frag) (H : Hp) (v : V) (b : Bool) : Prop := (b = false ∧ ∃ t, TyX K H v (.type t) ∧ Kind t ∧ t ≠ "tuple") ∨
  (∃ p xs, v = .ref p ∧ H p = some (.tup xs) ∧ ((b = false ∧ xs.length ≠ 2) ∨ (∃ x y, xs = [x, y] ∧ b = false ∧ IsTx K H x false) ∨ (∃ l y, xs = [.str (tx l), y] ∧ b = false ∧ l.length ≤ 100000 ∧ Let l ∧ IsTx K H y false) ∨
    (∃ l m, xs = [.str (tx l), .str (tx m)] ∧ l.length ≤ 100000 ∧ m.length ≤ 100000 ∧ Let l ∧ Let m ∧ b = decide (l = [] ∨ m = []))))
theorem IsLg.mono {K : PySem.W.Frag} {H H' : Hp} {v : V} {b : Bool} (s : Same H H') (h : IsLg K H v b) : IsLg K H' v b := by
  rcases h with ⟨h1, t, h2, h3⟩ | ⟨p, xs, h1, h2, h3⟩
  · exact .inl ⟨h1, t, tyx_mono s h2, h3⟩
  · refine .inr ⟨p, xs, h1, s _ _ h2, ?_⟩
    rcases h3 with h3 | ⟨x, y, e, hb, hx⟩ | ⟨l, y, e, hb, z, hl, hy⟩ | h3
    · exact .inl h3
    · exact .inr (.inl ⟨x, y, e, hb, hx.mono s⟩)
    · exact .inr (.inr (.inl ⟨l, y, e, hb, z, hl, hy.mono s⟩))
    · exact .inr (.inr (.inr h3))
/-- a small lag -/
def IsSmall (K : PySem.W.Frag) (H : Hp) (v : V) (x y : List Nat) : Prop := ∃ p, v = .ref p ∧ H p = some (.tup [.str (tx x), .str (tx y)]) ∧ x.length ≤ 10000 ∧ y.length ≤ 10000 ∧ Let x ∧ Let y
theorem in_pair2 {x y : List Nat} : inV (V.str (tx [])) [V.str (tx x), V.str (tx y)] = decide (x = [] ∨ y = []) := by
  by_cases h : x = [] ∨ y = []
  · rw [in_pair h, decide_eq_true h]
  · rw [decide_eq_false h]
    have e : ∀ z : List Nat, z ≠ [] → eqV (V.str (tx z)) (V.str (tx [])) = false := fun z hz => by
      cases z with
      | nil => exact absurd rfl hz
      | cons a r => first | rfl | simp [eqV] | (simp [eqV, tx])
    have h1 : x ≠ [] := fun z => h (.inl z)
    have h2 : y ≠ [] := fun z => h (.inr z)
    simp [inV, e x h1, e y h2]
end SL
set_option Elab.async false
set_option linter.all false
set_option maxRecDepth 100000
set_option maxHeartbeats 4000000
/-! SlV: data that a heap holds, read as plain data. -/
namespace SL
open PySem PySem.Spec PyProof.Rows L2
mutual
inductive Dv (H : Hp) : V → PyData → Prop
  | non : Dv H .non .none
  | bl (b : Bool) : Dv H (.bl b) (.bool b)
  | int (i : Int) : Dv H (.int i) (.int i)
  | str (l : List Nat) : Dv H (.str (tx l)) (.str (tx l))
  | lst {a : Addr} {xs : List V} {ds : List PyData} : H a = some (.lst xs) → DvAll H xs ds → Dv H (.ref a) (.list ds)
  | tup {a : Addr} {xs : List V} {ds : List PyData} : H a = some (.tup xs) → DvAll H xs ds → Dv H (.ref a) (.tuple ds)
  | emp {a : Addr} : H a = some (.dK []) → Dv H (.ref a) (.dict [])
inductive DvAll (H : Hp) : List V → List PyData → Prop
  | nil : DvAll H [] []
  | cons {v : V} {vs : List V} {d : PyData} {ds : List PyData} : Dv H v d → DvAll H vs ds → DvAll H (v :: vs) (d :: ds)
end
mutual
theorem Dv.mono {H H' : Hp} (s : Same H H') : ∀ (d : PyData) (v : V), Dv H v d → Dv H' v d
  | .none, _, h => by cases h; exact .non
  | .bool b, _, h => by cases h; exact .bl b
  | .int i, _, h => by cases h; exact .int i
  | .str x, _, h => by
    cases h
    exact .str _
  | .list ds, _, h => by
    cases h with
    | lst h1 h2 => exact .lst (s _ _ h1) (DvAll.mono s ds _ h2)
  | .tuple ds, _, h => by
    cases h with
    | tup h1 h2 => exact .tup (s _ _ h1) (DvAll.mono s ds _ h2)
  | .dict ks, _, h => by
    cases h with
    | emp h1 => exact .emp (s _ _ h1)
theorem DvAll.mono {H H' : Hp} (s : Same H H') : ∀ (ds : List PyData) (vs : List V), DvAll H vs ds → DvAll H' vs ds
  | [], _, h => by cases h; exact .nil
  | d :: ds, _, h => by
    cases h with
    | cons h1 h2 => exact .cons (Dv.mono s d _ h1) (DvAll.mono s ds _ h2)
end
mutual
theorem Dv.dp {K : PySem.W.Frag} {H : Hp} : ∀ (d : PyData) (v : V), Dv H v d → d.hasDict = false → Dp K H v d
  | .none, _, h, _ => by cases h; exact .non
  | .bool b, _, h, _ => by cases h; exact .bl b
  | .int i, _, h, _ => by cases h; exact .int i
  | .str x, _, h, _ => by
    cases h
    exact .str _
  | .list ds, _, h, z => by
    cases h with
    | lst h1 h2 => exact .lst (SqL.of h1) (DvAll.dp ds _ h2 (by simpa [PyData.hasDict] using z))
  | .tuple ds, _, h, z => by
    cases h with
    | tup h1 h2 => exact .tup (SqT.of h1) (DvAll.dp ds _ h2 (by simpa [PyData.hasDict] using z))
  | .dict ks, _, _, z => by simp [PyData.hasDict] at z
theorem DvAll.dp {K : PySem.W.Frag} {H : Hp} : ∀ (ds : List PyData) (vs : List V), DvAll H vs ds → PyData.hasDictAll ds = false → DpAll K H vs ds
  | [], _, h, _ => by cases h; exact .nil
  | d :: ds, _, h, z => by
    cases h with
    | cons h1 h2 =>
      simp [PyData.hasDictAll] at z
      exact .cons (Dv.dp d _ h1 z.1) (DvAll.dp ds _ h2 z.2)
end
/-- can be written out -/
def okD (d : PyData) : Bool := (match d with | .dict [] => true | d => d.showable && !d.hasDict) && decide (d.depth ≤ 60) && decide (d.shown.length ≤ 16777216)
theorem Dv.shown {K : PySem.W.Frag} {H : Hp} {v : V} {d : PyData} (h : Dv H v d) (ok : okD d = true) : Shown K H v d.shown := by
  unfold okD at ok
  rw [Bool.and_eq_true, Bool.and_eq_true, decide_eq_true_eq, decide_eq_true_eq] at ok
  obtain ⟨⟨o1, o2⟩, o3⟩ := ok
  by_cases hd : d = .dict []
  · subst hd
    cases h with
    | emp h1 => exact .inr ⟨_, rfl, h1, rfl⟩
  · have o1' : d.showable = true ∧ d.hasDict = false := by
      cases d with
      | dict ks =>
        cases ks with
        | nil => exact absurd rfl hd
        | cons a r => simpa using o1
      | _ => simpa using o1
    exact .inl ⟨d, Dv.dp d v h o1'.2, ⟨o1'.1, o1'.2, o2, o3⟩, rfl⟩
/-- the kind -/
def kindD : PyData → String
  | .none => "NoneType" | .bool _ => "bool" | .int _ => "int" | .str _ => "str" | .list _ => "list" | .tuple _ => "tuple" | .dict _ => "dict"
theorem kind_ok (d : PyData) : Kind (kindD d) := by
  unfold Kind kindD
  cases d <;> simp
theorem Dv.ty {K : PySem.W.Frag} {H : Hp} {v : V} {d : PyData} (h : Dv H v d) : TyX K H v (.type (kindD d)) := by
  cases h with
  | non => exact .base .non
  | bl b => exact .base (.bl b)
  | int i => exact .base (.int i)
  | str l => exact .base (.str _)
  | lst h1 _ => exact .base (.lst h1)
  | tup h1 _ => exact .base (.tup h1)
  | emp h1 => exact .base (.dK h1)
/-- what is_text says of data, of lengths that are small -/
def txB : PyData → Bool
  | .str x => decide (Let x.cps.toList)
  | _ => false
def smS : PyData → Bool
  | .str x => decide (x.cps.toList.length ≤ 1000)
  | _ => true
theorem Dv.tx {K : PySem.W.Frag} {H : Hp} {v : V} {d : PyData} (h : Dv H v d) (s : smS d = true) : IsTx K H v (txB d) := by
  by_cases hk : kindD d = "str"
  · cases h with
    | str l => exact .inl ⟨l, rfl, by have := of_decide_eq_true s; have e : (SL.tx l).cps.toList = l := rfl; rw [e] at this; omega, rfl⟩
    | _ => exact absurd hk (by simp [kindD])
  · refine .inr ⟨?_, kindD d, h.ty, kind_ok d, hk⟩
    cases d <;> first | rfl | exact absurd rfl hk
/-- what is_lag says of data -/
def lgB : PyData → Bool
  | .tuple [a, b] => txB a && txB b && (a.shown == (PyData.str (SL.tx [])).shown || b.shown == (PyData.str (SL.tx [])).shown)
  | _ => false
def smL : PyData → Bool
  | .tuple [a, b] => smS a && smS b
  | _ => true
/-- what is no lag: by its parts -/
def noLg : PyData → Bool
  | .tuple [a, b] => !txB a || !txB b || (match a, b with | .str x, .str y => !x.cps.toList.isEmpty && !y.cps.toList.isEmpty | _, _ => true)
  | _ => true
theorem Dv.lg {K : PySem.W.Frag} {H : Hp} {v : V} {d : PyData} (h : Dv H v d) (s : smL d = true) (n : noLg d = true) : IsLg K H v false := by
  by_cases hk : kindD d = "tuple"
  · cases h with
    | @tup a xs ds h1 h2 =>
      refine .inr ⟨a, xs, rfl, h1, ?_⟩
      match xs, ds, h2 with
      | [], [], _ => exact .inl ⟨rfl, by simp⟩
      | [x], [d], _ => exact .inl ⟨rfl, by simp⟩
      | [x, y], [d, e], .cons hx (.cons hy .nil) =>
        have s' : smS d = true ∧ smS e = true := by simpa [smL] using s
        have tx1 := hx.tx (K := K) s'.1
        have ty1 := hy.tx (K := K) s'.2
        cases hd : txB d with
        | false =>
          rw [hd] at tx1
          exact .inr (.inl ⟨x, y, rfl, rfl, tx1⟩)
        | true =>
          cases hx with
          | str l =>
            have hl : Let l := of_decide_eq_true hd
            have zl : l.length ≤ 1000 := of_decide_eq_true s'.1
            cases he : txB e with
            | false =>
              rw [he] at ty1
              exact .inr (.inr (.inl ⟨l, y, rfl, rfl, by omega, hl, ty1⟩))
            | true =>
              cases hy with
              | str m =>
                have hm : Let m := of_decide_eq_true he
                have zm : m.length ≤ 1000 := of_decide_eq_true s'.2
                refine .inr (.inr (.inr ⟨l, m, rfl, by omega, by omega, hl, hm, ?_⟩))
                have n' : (l.isEmpty = false ∧ m.isEmpty = false) := by
                  have : (!txB (.str (SL.tx l)) || !txB (.str (SL.tx m)) || (!l.isEmpty && !m.isEmpty)) = true := n
                  rw [hd, he] at this
                  simpa using this
                symm
                rw [decide_eq_false_iff_not]
                rintro (rfl | rfl)
                · simp at n'
                · simp at n'
              | _ => simp [txB] at he
          | _ => simp [txB] at hd
      | x :: y :: z :: r, d :: e :: g :: q, _ => exact .inl ⟨rfl, by simp⟩
    | _ => exact absurd hk (by simp [kindD])
  · exact .inl ⟨rfl, kindD d, h.ty, kind_ok d, hk⟩
/-- all but those of l -/
def hide (l : List Addr) (H : Hp) : Hp := fun b => if b ∈ l then none else H b
theorem hide_get {l : List Addr} {e : Addr} {H : Hp} {o : HO} (h : H e = some o) (n : e ∉ l) : hide l H e = some o := by unfold hide; rw [if_neg n]; exact h
theorem hide_to {l : List Addr} {H H' : Hp} (f : ∀ b o, H b = some o → b ∉ l → H' b = some o) : Same (hide l H) H' := fun b o h => by
  unfold hide at h
  by_cases e : b ∈ l
  · rw [if_pos e] at h; cases h
  · rw [if_neg e] at h; exact f b o h e
theorem not_in {l : List Addr} {H H' : Hp} {e : Addr} (h : ∀ c ∈ l, H c ≠ none) (s : Same H H') (n : H' e = none) : e ∉ l := fun m => by
  have z := h e m
  cases q : H e with
  | none => exact z q
  | some o => rw [s _ _ q] at n; cases n
theorem dv_in {l : List Addr} {H : Hp} {c : Addr} {d : PyData} (h : Dv (hide l H) (.ref c) d) : c ∉ l := fun m => by
  have e : hide l H c = none := by unfold hide; rw [if_pos m]
  cases h with
  | lst h1 _ => rw [e] at h1; cases h1
  | tup h1 _ => rw [e] at h1; cases h1
  | emp h1 => rw [e] at h1; cases h1
theorem DvAll.len {H : Hp} : ∀ {vs : List V} {ds : List PyData}, DvAll H vs ds → vs.length = ds.length
  | [], [], _ => rfl
  | _ :: _, _ :: _, .cons _ r => by rw [List.length_cons, List.length_cons, r.len]
theorem same_upd {q : Addr} {H H' : Hp} {o : HO} (s : Same H H') : Same (upd H q o) (upd H' q o) := fun b u h => by
  by_cases e : b = q
  · subst e; rw [upd_same] at h ⊢; exact h
  · rw [upd_ne e] at h ⊢; exact s b u h
end SL
namespace SL
open PySem PySem.Spec PyProof.Rows L2
theorem fin_new {H : Hp} {e : Addr} {o : HO} {R : Hp → Prop} (k : ∀ F, Same (upd H e o) F → F e = some o → R F) : R (upd H e o) := k _ (Same.refl _) upd_same
end SL
namespace SL
open PySem PySem.Spec PyProof.Rows L2
def natL (ks : List Nat) : List V := ks.map fun k : Nat => V.int (k : Int)
theorem dp_nats {K : PySem.W.Frag} {H : Hp} : ∀ ks : List Nat, DpAll K H (natL ks) (ks.map fun k : Nat => PyData.int (k : Int))
  | [] => .nil
  | k :: r => .cons (.int _) (dp_nats r)
theorem lay_nats : ∀ ks : List Nat, PyData.canLayAll0 (ks.map fun k : Nat => PyData.int (k : Int)) = true
  | [] => by simp [PyData.canLayAll0]
  | k :: r => by
    have := lay_nats r
    simp [PyData.canLayAll0, PyData.canLay0, this]
theorem deep_nats : ∀ ks : List Nat, PyData.depthAll (ks.map fun k : Nat => PyData.int (k : Int)) = 0
  | [] => by simp [PyData.depthAll]
  | k :: r => by
    have := deep_nats r
    simp [PyData.depthAll, PyData.depth, this]
theorem w_eqNil {K : PySem.W.Frag} {H : Hp} {Q : VK} {r p : Addr} {ks : List Nat} (h1 : H r = some (.lst (natL ks))) (h2 : H p = some (.lst [])) (q : Q (.bl (decide (ks = []))) H) : rEqU K (.ref r) (.ref p) H Q := by
  refine .inr ⟨.list (ks.map fun k : Nat => PyData.int (k : Int)), .list [], .lst (SqL.of h1) (dp_nats ks), .lst (SqL.of h2) .nil, ?_, by simp [SeqAt.shaped, PyData.canLay0, PyData.canLayAll0, PyData.depth, PyData.depthAll], ?_⟩
  · simp [SeqAt.shaped, PyData.canLay0, PyData.depth, lay_nats, deep_nats]
  · have e : PyData.eqv (.list (ks.map fun k : Nat => PyData.int (k : Int))) (.list []) = decide (ks = []) := by
      cases ks with
      | nil => simp [PyData.eqv, PyData.eqvAll]
      | cons k r => simp [PyData.eqv, PyData.eqvAll]
    rw [e]
    exact q
end SL
set_option Elab.async false
set_option linter.all false
set_option maxRecDepth 100000
set_option maxHeartbeats 4000000
/-! SlY: try with several except clauses that name their error. -/
namespace SL
open PySem PySem.Spec PyProof.Rows L2
/-- behind a clause its name is gone -/
def unD (i : Nat) (D : Ends) : Ends := { nx := fun σ' H' => D.nx (σ'.set i none) H', rt := D.rt, bk := fun σ' H' => D.bk (σ'.set i none) H', ct := fun σ' H' => D.ct (σ'.set i none) H' }
abbrev Clause := Value × Nat × (Addr → Value → Option Addr → TS)
/-- what the clauses together wish of an error of the body -/
def wNamed (K : PySem.W.Frag) (Wout : WX) (D : Ends) : List Clause → WX
  | [] => Wout
  | (c, i, ts) :: r => fun cls d σ H => ∃ b, PySem.W.exmOne K cls c = some b ∧ (b = true → ∀ a, H a = none → ts a cls d (unD i D) (σ.set i (some (.ref a))) H) ∧ (b = false → wNamed K Wout D r cls d σ H)
inductive NamedOk (X : Cx) : List ExceptHandler → List Clause → Prop
  | nil : NamedOk X [] []
  | cons {x n : Str} {c : Value} {i : Nat} {ts : Addr → Value → Option Addr → TS} {b₀ : Stmt} {suite : List Stmt} {np p : Pos} {hds : List ExceptHandler} {l : List Clause} (hc : Names X x c) (hi : X.N[i]? = some n) (hln : X.env.kindOf n = some .local)
      (hsu : ∀ (a : Addr) (oe : Obj) (cls : Value) (d : Option Addr) (pn : List (Addr × Obj)), Zc cls d oe → (∃ vs, oe.data = .fields vs) → PSs (X.suite a ((a, oe) :: pn)) (b₀ :: suite) (ts a cls d)) (r : NamedOk X hds l) :
      NamedOk X (.ExceptHandler (some (.Name x np)) (some n) (b₀ :: suite) p :: hds) ((c, i, ts) :: l)
def tNamed (K : PySem.W.Frag) (l : List Clause) (Wout : WX) (tb : WX → TS) : TS := fun D σ H => tb (wNamed K Wout D l) D σ H
section
variable {X : Cx} {Wout : WX}
/-- the clauses, one after the other, over an error that has landed -/
theorem clauses_run {pins : List (Addr × Obj)} {σ : L2.St} {H : Hp} {D : Ends} {cls : Value} {d : Option Addr} {a : Addr} {B : Heap} {sI s' : Shared} {h3 : Heap} (hN : X.N.Nodup) (tk : Takes X Wout) (hs : X.stack = X.env :: X.outer) (hf : X.env.frame = some X.env.locals)
    (J : Inv X pins σ H sI) (nb : ∀ b o, sI.heap.get? b = some o → b ∉ frs X.stack → B.get? b = some o) (up : sI.heap.UpToSlots h3) (fl : HandSPX.FlyingZ B (X.env :: X.outer) a (Zc cls d) h3) (na : H a = none) (os : s'.os = sI.os) (ag : AllBare s'.gens) :
    ∀ {hds : List ExceptHandler} {l : List Clause}, NamedOk X hds l → wNamed X.K Wout D l cls d σ H → wpAny (model X.prog X.w) X.A (handleBy (.ref a) X.env hds) (SP X pins D) X.xe { s' with heap := h3 } := by
  have ok := J.ok
  have J3 : Inv X pins σ H { s' with heap := h3 } := J.landed nb fl.1 up os ag
  obtain ⟨oe, vs, he, hz, hd⟩ := fl.there
  have offFrames : ∀ {h : Heap} {o : Obj} {vs : Array Value}, h.FunFrames B (X.env :: X.outer) → h.get? a = some o → o.data = .fields vs → a ∉ frs (X.env :: X.outer) := fun {h o vs} ff e dd m => by
    obtain ⟨_, o', e', no⟩ := ff.mem m
    rw [e] at e'
    cases e'
    exact no _ dd
  have off := offFrames fl.2.2.1 he hd
  have nL : a ≠ X.env.locals := fun z => off (List.mem_filterMap.mpr ⟨X.env, List.mem_cons_self, by rw [hf, z]⟩)
  have nF : a ∉ X.fs := fun m => by
    obtain ⟨e, me, q⟩ := List.mem_filterMap.mp m
    exact off (List.mem_filterMap.mpr ⟨e, List.mem_cons_of_mem _ me, q⟩)
  have S3 := J3.suite he hd na nL nF
  intro hds l ok2
  induction ok2 with
  | nil =>
    intro w
    refine wpAny_handleBy_nil ?_
    obtain ⟨_, _, _, oe', vs', T, _, _, he', _, hd', h1, _⟩ := id fl
    unfold PySem.passOn
    refine wpAny_bind (wpAny_field he' hd' h1 ?_)
    rw [if_neg (show ¬ ((Value.ref T == Value.none) = true) from by simp)]
    have on : wpAny (model X.prog X.w) X.A (setFlight (.ref a) X.env.frame) (fun _ s4 => wpAny (model X.prog X.w) X.A (throw (.ref a) : Sem Flow) (SP X pins D) X.xe s4) X.xe { s' with heap := h3 } := by
      rw [hf]
      refine HandSPX.setFlight_upZ fl fun h4 hh4 up4 => wpAny_throw (tk _ _ ?_)
      exact ⟨a, B, sI, pins, σ, H, cls, d, rfl, J, nb, up.trans up4, .inr (.inr (by rw [hs]; exact hh4)), na, os, ag, w⟩
    first
      | exact wpAny_bind (wpAny_pure (wpAny_bind on))
      | exact wpAny_bind on
  | @cons x n c i ts b₀ suite np p hds2 l2 hc hi hln hsu r ih =>
    intro w
    obtain ⟨b, hb1, yes, no⟩ := w
    refine wpAny_handleBy_cons (codeAny_handlers_test ?_) (by intro q; cases q)
    have ofCls : PySem.W.Looks (model X.prog X.w) h3 (typeOf (.ref a)) cls := fun A Q E s k q => wpAny_typeOf_ref (k _ _ he) (by rw [hz.1]; exact q)
    have test := PySem.W.exm_one (M := model X.prog X.w) (J3.kIn) ofCls hb1
    have named : ∀ {Q : Value → Shared → Prop} {E : Value → Shared → Prop}, Q c { s' with heap := h3 } → wpAny (model X.prog X.w) (X.A.mark (some (.ref a))) (eval (.Name x np) X.env) Q E { s' with heap := h3 } := fun {Q E} q => by
      obtain ⟨hg, hdbg, hm | ⟨hm, hv, hnn⟩⟩ := hc
      · exact ld_glob (X := X.suite a ((a, oe) :: (X.pn ++ pins))) S3 hg hm q hdbg
      · exact ld_blt (X := X.suite a ((a, oe) :: (X.pn ++ pins))) S3 hg hm hv q hnn hdbg
    refine named (test.here ?_)
    cases b with
    | false =>
      show wpAny _ X.A (handleBy (.ref a) X.env hds2) _ _ _
      exact ih (no rfl)
    | true =>
      refine codeAny_handlers_suite_as ?_
      refine HandSPX.lands_againZ fl fun h4 fl4 up4 => ?_
      have J4 : Inv X pins σ H { s' with heap := h4 } := J.landed nb fl4.1 (up.trans up4) os ag
      obtain ⟨oe4, vs4, he4, hz4, hd4⟩ := fl4.there
      have S4 := J4.suite he4 hd4 na nL nF
      refine store_ok (X := X.suite a ((a, oe4) :: (X.pn ++ pins))) (v := .ref a) S4 hN hi (.inl hln) rfl (fun s5 S5 => ?_) (.inr hln)
      refine wpAny_mono ((hsu a oe4 cls d (X.pn ++ pins) hz4 ⟨_, hd4⟩).run [] s5 _ H _ S5 (yes rfl a na)) (fun f s6 hsp => ?_) (fun _ _ z => False.elim z)
      have gone : ∀ {σ6 : L2.St} {H6 : Hp} {Q : Shared → Prop}, Inv (X.suite a ((a, oe4) :: (X.pn ++ pins))) [] σ6 H6 s6 → (∀ s7, Inv X pins (σ6.set i none) H6 s7 → Q s7) →
          wpAny (model X.prog X.w) X.A (do bindName X.env n .none; unbindBehindTheSuite X.env n p) (fun _ s7 => Q s7) X.xe s6 := fun {σ6 H6 Q} S6 hq => gone_ok (S6.unsuite ok) hN hi hln hq
      match f, hsp with
      | .next, ⟨σ6, H6, S6, q6⟩ => exact gone S6 fun s7 J7 => ⟨_, _, J7, q6⟩
      | .brk, ⟨σ6, H6, S6, q6⟩ => exact gone S6 fun s7 J7 => ⟨_, _, J7, q6⟩
      | .cont, ⟨σ6, H6, S6, q6⟩ => exact gone S6 fun s7 J7 => ⟨_, _, J7, q6⟩
      | .ret u, ⟨v6, σ6, H6, S6, r6, q6⟩ => exact gone S6 fun s7 J7 => ⟨_, _, _, J7, r6, q6⟩
theorem ps_named (K : PySem.W.Frag) {body : List Stmt} {h₀ : ExceptHandler} {hds : List ExceptHandler} {l : List Clause} {pos : Pos} {tb : WX → TS} (hK : X.K = K) (hs : X.stack = X.env :: X.outer) (hf : X.env.frame = some X.env.locals) (hN : X.N.Nodup) (tk : Takes X Wout)
    (hb : ∀ (W : WX) (pn : List (Addr × Obj)) (xe : Value → Shared → Prop), Takes (X.tr pn xe) W → PassesOwn (model X.prog X.w) X.A X.env xe → PSs (X.tr pn xe) body (tb W)) (hh : NamedOk X (h₀ :: hds) l) :
    PS X (.Try body (h₀ :: hds) [] [] pos) (tNamed K l Wout tb) := by
  subst hK
  refine ⟨fun pins s σ H D I h => ?_⟩
  have ok := I.ok
  have hfr : X.A.frames = some (X.env :: X.outer) := by rw [ok.frames, hs]
  refine wpAny_Try_except ?_
  refine wpAny_mono ((hb (wNamed X.K Wout D l) (X.pn ++ pins) (fun e s₁ => wpAny (model X.prog X.w) X.A (noteFrame e X.env) (fun _ s₂ => wpAny (model X.prog X.w) X.A (setFlight e none) (fun _ s₃ =>
    wpAny (model X.prog X.w) X.A (handleBy e X.env (h₀ :: hds)) (SP X pins D) X.xe s₃) X.xe s₂) X.xe s₁) (fun u s' xx => ?_) PassesOwn.looking).run [] s σ H D (I.toTry _) h) (fun f s1 hsp => ?_) (fun e s1 he => he)
  · obtain ⟨a, B, sI, pins', σ', H', cls, d, rfl, J', nb, up, sky, na, os, ag, w⟩ := xx
    have J : Inv X pins σ' H' sI := J'.ofTry ok
    have sky' : Sky B (X.env :: X.outer) a (Zc cls d) X.env.locals s'.heap := by rw [← hs]; exact sky
    show wpAny (model X.prog X.w) X.A (noteFrame (.ref a) X.env) _ _ _
    exact Sky.land Zc.steady hfr hf sky' fun h3 fl3 up3 => clauses_run hN tk hs hf J nb (up.trans up3) fl3 na os ag hh w
  · match f, hsp with
    | .next, ⟨σ', H', J', q⟩ => exact wpAny_execs_nil ⟨σ', H', J'.ofTry ok, q⟩
    | .brk, ⟨σ', H', J', q⟩ => exact ⟨σ', H', J'.ofTry ok, q⟩
    | .cont, ⟨σ', H', J', q⟩ => exact ⟨σ', H', J'.ofTry ok, q⟩
    | .ret u, ⟨v, σ', H', J', r, q⟩ => exact ⟨v, σ', H', J'.ofTry ok, r, q⟩
end
theorem w_named {K : PySem.W.Frag} {l : List Clause} {Wout : WX} {tb : WX → TS} {D : Ends} {σ : SSt} {H : Hp} (q : tb (wNamed K Wout D l) D σ H) : tNamed K l Wout tb D σ H := q
theorem wNamed_of {K : PySem.W.Frag} {c cls : Value} {i : Nat} {ts : Addr → Value → Option Addr → TS} {r : List Clause} {Wout : WX} {D : Ends} {d : Option Addr} {σ : SSt} {H : Hp} (h : PySem.W.exmOne K cls c = some true)
    (q : ∀ a, H a = none → ts a cls d (unD i D) (σ.set i (some (.ref a))) H) : wNamed K Wout D ((c, i, ts) :: r) cls d σ H := ⟨true, h, fun _ => q, fun h => nomatch h⟩
theorem wNamed_on {K : PySem.W.Frag} {c cls : Value} {i : Nat} {ts : Addr → Value → Option Addr → TS} {r : List Clause} {Wout : WX} {D : Ends} {d : Option Addr} {σ : SSt} {H : Hp} (h : PySem.W.exmOne K cls c = some false)
    (q : wNamed K Wout D r cls d σ H) : wNamed K Wout D ((c, i, ts) :: r) cls d σ H := ⟨false, h, fun z => absurd z (by decide), fun _ => q⟩
/-- an error of one class is not what the clause of another takes -/
theorem exm_other {K : PySem.W.Frag} {S R : Addr} (h1 : PySem.W.subIn K (.ref S) (.type "BaseException") = some true) (h1' : PySem.W.subIn K (.ref R) (.type "BaseException") = some true) (h2 : PySem.W.isClsIn K R = true) (h3 : PySem.W.typeIn K (.ref R) = some (.type "type")) (h4 : PySem.W.subIn K (.ref S) (.ref R) = some false) :
    PySem.W.exmOne K (.ref S) (.ref R) = some false := by
  have e1 : (PySem.W.subIn K (.ref R) (.type "BaseException") == some true) = true := by rw [h1'] <;> rfl
  have e2 : ((PySem.W.clsIn K R).isSome && PySem.W.typeIn K (.ref R) == some (.type "type")) = true := by
    have h2' : (PySem.W.clsIn K R).isSome = true := h2
    rw [h2', h3] <;> rfl
  show (if (PySem.W.subIn K (.ref R) (.type "BaseException") == some true) = true then (if ((PySem.W.clsIn K R).isSome && PySem.W.typeIn K (.ref R) == some (.type "type")) = true then PySem.W.subIn K (.ref S) (.ref R) else none) else none) = some false
  rw [if_pos e1, if_pos e2]
  exact h4
/-- no error of the one is an error of the other -/
def NotErr (K : PySem.W.Frag) (mg : Str → Option Value) (x y : Str) : Prop := PySem.W.exmOne K (.ref (errAt mg x)) (.ref (errAt mg y)) = some false
theorem NotErr.of {K : PySem.W.Frag} {mg : Str → Option Value} {x y : Str} {S R : Addr} (hx : mg x = some (.ref S)) (hy : mg y = some (.ref R)) (h : PySem.W.exmOne K (.ref S) (.ref R) = some false) : NotErr K mg x y := by
  have e1 : errAt mg x = S := by unfold errAt; rw [hx]
  have e2 : errAt mg y = R := by unfold errAt; rw [hy]
  unfold NotErr
  rw [e1, e2]
  exact h
end SL
set_option Elab.async false
set_option linter.all false
set_option maxRecDepth 100000
set_option maxHeartbeats 4000000
/-! SlU: unpacking a text. -/
namespace SL
open PySem PySem.Spec PyProof.Rows L2
def sgL (l : List Nat) : List V := l.map fun c => V.str (tx [c])
section
variable {prog : Program} {w : World} {A : Around} {E : Value → Shared → Prop} {l : List Nat} {I : Addr} {St : Nat → Heap → Prop}
theorem draw_tx (W : Walks prog w A I [I] [I] l.toArray.size (SignAt (tx l)) St) : ∀ (k i : Nat) (s : Shared) (Q : List Value → Shared → Prop), St i s.heap → i + k ≤ l.length →
    (∀ vs h' t', St (i + k) h' → (∀ b o, b ≠ I → s.heap.get? b = some o → h'.get? b = some o) → Vals (sgL ((l.drop i).take k)) vs → Q vs { s with heap := h', toks := t' }) → wpAny (model prog w) A (draw (.ref I) k) Q E s
  | 0, i, s, Q, st, _, hQ => by
    show wpAny _ _ (pure []) Q E s
    exact wpAny_pure (hQ [] s.heap s.toks st (fun _ _ _ h => h) .nil)
  | k + 1, i, s, Q, st, hle, hQ => by
    show wpAny _ _ (pyNext (.ref I) >>= _) Q E s
    refine wpAny_bind (W.item i s _ _ (by simp; omega) st fun v h1 t1 hv st1 k1 => ?_)
    obtain ⟨c, u, hc, rfl⟩ := hv
    refine wpAny_bind (wpAny_holding (draw_tx W k (i + 1) _ _ st1 (by omega) fun vs h2 t2 st2 k2 r => wpAny_pure ?_))
    have hc' : l[i]? = some c := by simpa using hc
    have hd : l.drop i = c :: l.drop (i + 1) := by
      obtain ⟨hi, e⟩ := List.getElem?_eq_some_iff.mp hc'
      rw [List.drop_eq_getElem_cons hi, e]
    refine hQ _ h2 t2 (by rw [show i + (k + 1) = i + 1 + k by omega]; exact st2) (fun b o n h => k2 b o n (k1 b o (by simpa using n) h)) ?_
    rw [hd, List.take_succ_cons]
    exact .cons ⟨u, rfl⟩ r
end
/-- (a, b, ..) = a text of that length -/
def gTxt (n : Nat) (t : TGs) : TG := fun v σ H Q => ∃ l : List Nat, v = .str (tx l) ∧ l.length = n ∧ t (sgL l) σ H Q
section
variable {X : Cx} {pos : Pos}
theorem pg_txt {es : List Expr} {k : Nat} {t : TGs} {n : Nat} (hc : X.calm = true) (h : PGs X es t)
    (hn : (assignEach es X.env).length = n := by rfl) (hst : (assignEach es X.env).findIdx? (·.1) = none := by rfl) : PG X (.Tuple es k pos) (gTxt n t) := by
  refine ⟨fun pins s σ H v u Q I r hw => ?_⟩
  obtain ⟨l, e1, hl, hw⟩ := hw
  subst e1
  obtain ⟨tk, rfl⟩ := r
  rw [PyProof.Rows.assign_Tuple]
  refine wpAny_bind (wpAny_standAt ?_)
  unfold unpack
  rw [hn, hst]
  have hh := I.ok.hd hc
  refine wpAny_bind (wpAny_holding ?_)
  unfold unpackItems
  refine wpAny_bind ?_
  unfold notIterableAtAll
  refine wpAny_bind (wpAny_specialOf (typeIs_str s (tx l) tk) F.slot_str_iter.lookup ?_)
  refine wpAny_pure ?_
  simp only [Bool.false_eq_true, if_false]
  refine wpAny_bind (wpAny_holding (wpAny_pyIter_str fun o St W st => ?_))
  have sz : ∀ b o', b ≠ s.heap.objs.size → (s.heap.push o).get? b = some o' → True := fun _ _ _ _ => trivial
  refine wpAny_bind (wpAny_holding (draw_tx (W _ hh) n 0 _ _ st (by omega) fun vs h1 t1 st1 k1 rv => ?_))
  have hv : vs.length = n := by
    have := Paired.length rv
    rw [← this]
    unfold sgL
    simp [hl]
  rw [if_neg (by omega)]
  have e0 : (0 : Nat) + n = (tx l).cps.size := by
    show 0 + n = l.toArray.size
    simp [hl]
  rw [e0] at st1
  refine wpAny_bind (wpAny_holding ((W _ hh).done _ _ _ st1 fun h2 t2 k2 => ?_))
  simp only [Option.isSome_none, Bool.false_eq_true, if_false]
  refine wpAny_pure ?_
  have I1 : Inv X pins σ H { s with heap := h2, toks := t2 } := I.kept fun b o' e => by
    have nb : b ≠ s.heap.objs.size := Nat.ne_of_lt (Heap.lt_size e)
    exact k2 b o' (by simpa using nb) (k1 b o' nb (Heap.get?_push_of_some _ e))
  have rv' : Vals (sgL l) vs := by
    have : (l.drop 0).take n = l := by rw [List.drop_zero, ← hl, List.take_length]
    rw [this] at rv
    exact rv
  exact h.run pins _ σ H (sgL l) _ Q I1 rv' hw
end
theorem w_gX {n : Nat} {tg : TGs} {l : List Nat} {σ : SSt} {H : Hp} {Q : SSt → Hp → Prop} (q : tg (sgL l) σ H Q) (hn : l.length = n) : gTxt n tg (.str (tx l)) σ H Q := ⟨l, rfl, hn, q⟩
theorem w_gX2 {tg : TGs} {a b : Nat} {σ : SSt} {H : Hp} {Q : SSt → Hp → Prop} (q : tg [V.str (tx [a]), V.str (tx [b])] σ H Q) : gTxt 2 tg (.str (tx [a, b])) σ H Q := ⟨[a, b], rfl, rfl, q⟩
theorem rep_one (n c : Nat) : (List.replicate n [c]).flatten = List.replicate n c := List.flatten_replicate_singleton
theorem let_rep {n c : Nat} (h : Let [c]) : Let (List.replicate n c) := fun d hd => by
  rw [(List.mem_replicate.mp hd).2]
  exact h c (List.mem_singleton.mpr rfl)
/-- the scope of a comprehension within a comprehension, from the def's scope -/
def relabelBy (sc0 scope : Scope) : Scope := { scope with names := scope.names.map fun (n, k) => if (k == .free && sc0.kind == .function && sc0.names.lookup n == some .cell) then (n, .cell) else (n, k) }
theorem relabel_eq (scope : Scope) (env : Env) (sc0 : Scope) (h : env.scope = sc0) : relabel scope env = relabelBy sc0 scope := by
  subst h
  rfl
theorem w_par3 {n m k : Nat} {t : TA} {D : Ends} {σ : SSt} {H : Hp} (q : t σ H fun vs H1 => ∃ u v w, vs = [u, v, w] ∧ D.nx (((σ.set n (some u)).set m (some v)).set k (some w)) H1) : tPar3 n m k t D σ H := q
theorem w_three {u v w : V} {Q : V → V → V → Prop} (q : Q u v w) : ∃ x y z, [u, v, w] = [x, y, z] ∧ Q x y z := ⟨u, v, w, rfl, q⟩
theorem w_seqP3 {n m k : Nat} {t : TA} {t2 : TS} {D : Ends} {σ : SSt} {H : Hp} (q : tPar3 n m k t { D with nx := t2 D } σ H) : tSeq (tPar3 n m k t) t2 D σ H := q
theorem part_two {α : Type} (xs : List α) {i j : Nat} (h1 : i ≤ xs.length) (h2 : j ≤ xs.length) : (xs.drop (HT.sIx xs.length 0 (some (i : Int)))).take (HT.sIx xs.length xs.length (some (j : Int)) - HT.sIx xs.length 0 (some (i : Int))) = (xs.drop i).take (j - i) := by
  rw [sIx_to _ _ (by omega), sIx_to _ _ (by omega), Int.toNat_natCast, Int.toNat_natCast, Nat.min_eq_left h1, Nat.min_eq_left h2]
theorem w_sLB {K : PySem.W.Frag} {H : Hp} {Q : VK} {p : Addr} {xs : List V} {i j : Nat} (h : SqL K H p xs) (h1 : i ≤ xs.length) (h2 : j ≤ xs.length) (q : ∀ a, H a = none → Q (.ref a) (upd H a (.lst ((xs.drop i).take (j - i))))) : rSlU K (.ref p) (some (i : Int)) (some (j : Int)) H Q :=
  .inl ⟨p, xs, rfl, h, by
    rw [show cutV xs (some (i : Int)) (some (j : Int)) = (xs.drop i).take (j - i) from part_two xs h1 h2]
    exact q⟩
theorem w_sSB {K : PySem.W.Frag} {H : Hp} {Q : VK} {l : List Nat} {i j : Nat} (h1 : i ≤ l.length) (h2 : j ≤ l.length) (z : l.length ≤ 16777216) (q : Q (.str (tx ((l.drop i).take (j - i)))) H) : rSlU K (.str (tx l)) (some (i : Int)) (some (j : Int)) H Q :=
  .inr (.inl ⟨_, rfl, by rw [tx_len, sizeLine_eq]; exact z, by
    have e : cutS (tx l) (some (i : Int)) (some (j : Int)) = tx ((l.drop i).take (j - i)) := by
      unfold cutS
      rw [tx_len]
      show tx _ = _
      rw [part_two l h1 h2]
    rw [e]
    exact q⟩)
theorem ixn {n j : Nat} (h : j < n) : ixN n (j : Int) = some j := by
  unfold ixN
  rw [if_pos (by omega), if_pos (by omega)]
  simp
theorem natL_at {ks : List Nat} {i k : Nat} (h : ks[i]? = some k) : (natL ks)[i]? = some (.int (k : Int)) := by
  unfold natL
  rw [List.getElem?_map, h]
  rfl
theorem natL_set (ks : List Nat) (i m : Nat) : (natL ks).set i (.int (m : Int)) = natL (ks.set i m) := by
  unfold natL
  rw [List.map_set]
theorem natL_len (ks : List Nat) : (natL ks).length = ks.length := by unfold natL; rw [List.length_map]
theorem w_neStr {K : PySem.W.Frag} {H : Hp} {Q : VK} {x : Str} (q : Q (.bl false) H) : rNeU K (.str x) (.str x) H Q := .inl ⟨rfl, by rw [decide_eq_true rfl]; exact q⟩
end SL
set_option Elab.async false
set_option linter.all false
set_option maxRecDepth 100000
set_option maxHeartbeats 4000000
/-! SlO: odd values: plain data that may be written out, lists of one thing that may grow; their copies. -/
namespace SL
open PySem PySem.Spec PyProof.Rows L2
theorem repr_short {l : List Nat} (h : Sgn l) : (PyData.shown (.str (tx l))).length ≤ 10 * l.length + 2 := by
  show (reprText (tx l)).length ≤ _
  have := StrLaws.reprText_len (tx l) (fun c hc => by have := h c hc; omega)
  rw [tx_len] at this
  exact this
theorem ok_str {l : List Nat} (h : Sgn l) (z : l.length ≤ 1000) : okD (.str (tx l)) = true := by
  have := repr_short h
  have e : (PyData.shown (.str (tx l))).length ≤ 16777216 := by omega
  simp [okD, PyData.showable, PyData.hasDict, PyData.depth, e]
theorem ok_listS {l m : List Nat} (h : Sgn l) (z : l.length ≤ 1000) (h2 : Sgn m) (z2 : m.length ≤ 1000) : okD (.list [.str (tx l), .str (tx m)]) = true := by
  have e1 := repr_short h
  have e2 := repr_short h2
  have e : (PyData.shown (.list [.str (tx l), .str (tx m)])).length ≤ 16777216 := by
    refine Nat.le_trans (listText_len_le _) ?_
    simp only [PyData.shownAll, List.map_cons, List.map_nil, List.sum_cons, List.sum_nil, List.length_cons, List.length_nil]
    omega
  simp [okD, PyData.showable, PyData.showableAll, PyData.hasDict, PyData.hasDictAll, PyData.depth, PyData.depthAll, e]
theorem ok_tupS {l m : List Nat} (h : Sgn l) (z : l.length ≤ 1000) (h2 : Sgn m) (z2 : m.length ≤ 1000) : okD (.tuple [.str (tx l), .str (tx m)]) = true := by
  have e1 := repr_short h
  have e2 := repr_short h2
  have e : (PyData.shown (.tuple [.str (tx l), .str (tx m)])).length ≤ 16777216 := by
    refine Nat.le_trans (tupleText_len_le _) ?_
    simp only [PyData.shownAll, List.map_cons, List.map_nil, List.sum_cons, List.sum_nil, List.length_cons, List.length_nil]
    omega
  simp [okD, PyData.showable, PyData.showableAll, PyData.hasDict, PyData.hasDictAll, PyData.depth, PyData.depthAll, e]
/-- something that holds no objects -/
inductive Atom : V → PyData → Prop
  | str (l : List Nat) : Atom (.str (tx l)) (.str (tx l))
  | int (i : Int) : Atom (.int i) (.int i)
  | non : Atom .non .none
  | bl (b : Bool) : Atom (.bl b) (.bool b)
theorem Atom.dv {H : Hp} {v : V} {d : PyData} (h : Atom v d) : Dv H v d := by
  cases h with
  | str l => exact .str l
  | int i => exact .int i
  | non => exact .non
  | bl b => exact .bl b
/-- an odd value; a list of it is of one thing, and z may be put behind it -/
def OddV (z : List Nat) (H : Hp) (v : V) : Prop := (∃ d, Dv H v d ∧ okD d = true ∧ (kindD d == "list") = false) ∨ (∃ a x d, v = .ref a ∧ H a = some (.lst [x]) ∧ Atom x d ∧ okD (.list [d, .str (tx z)]) = true)
theorem OddV.mono {z : List Nat} {H H' : Hp} {v : V} (s : Same H H') (h : OddV z H v) : OddV z H' v := by
  rcases h with ⟨d, h1, h2⟩ | ⟨a, x, d, e, h1, h2⟩
  · exact .inl ⟨d, Dv.mono s d v h1, h2⟩
  · exact .inr ⟨a, x, d, e, s _ _ h1, h2⟩
/-- v' is v or a copy of it, made behind H0 -/
def Cp (z : List Nat) (H0 H : Hp) (v v' : V) : Prop := (∃ d, Dv H0 v d ∧ okD d = true ∧ (kindD d == "list") = false ∧ v' = v) ∨ (∃ a x d r, v = .ref a ∧ H0 a = some (.lst [x]) ∧ Atom x d ∧ okD (.list [d, .str (tx z)]) = true ∧ v' = .ref r ∧ H0 r = none ∧ H r = some (.lst [x]))
theorem Cp.keep {z : List Nat} {H0 H H' : Hp} {v v' : V} (h : Cp z H0 H v v') (k : ∀ r o, v' = .ref r → H0 r = none → H r = some o → H' r = some o) : Cp z H0 H' v v' := by
  rcases h with h | ⟨a, x, d, r, h1, h2, h3, h4, h5, h6, h7⟩
  · exact .inl h
  · exact .inr ⟨a, x, d, r, h1, h2, h3, h4, h5, h6, k r _ h5 h6 h7⟩
theorem Cp.same {z : List Nat} {H0 H H' : Hp} {v v' : V} (h : Cp z H0 H v v') (s : Same H H') : Cp z H0 H' v v' := h.keep fun r o _ _ h => s r o h
/-- list(value) if isinstance(value, list) else value -/
def spCopy (K : PySem.W.Frag) : Sp := fun vs H Q _ => ∃ v, vs = [v] ∧ ((∃ t, TyX K H v (.type t) ∧ Kind t ∧ t ≠ "list" ∧ Q v H) ∨ (∃ a xs, v = .ref a ∧ H a = some (.lst xs) ∧ ∀ r H', Same H H' → H r = none → H' r = some (.lst xs) → Q (.ref r) H'))
theorem copy_w {K : PySem.W.Frag} {z : List Nat} {H0 H : Hp} {v : V} {Q : VK} {E : XK} (h : OddV z H0 v) (s : Same H0 H) (q : ∀ v' H', Same H H' → Cp z H0 H' v v' → (∀ r, v' = .ref r → H0 r = none → H r = none) → Q v' H') : spCopy K [v] H Q E := by
  rcases h with ⟨d, h1, h2, h3⟩ | ⟨a, x, d, e, h1, h2, h3⟩
  · refine ⟨v, rfl, .inl ⟨kindD d, (Dv.mono s d v h1).ty, kind_ok d, by simpa using h3, ?_⟩⟩
    refine q v H (Same.refl _) (.inl ⟨d, h1, h2, h3, rfl⟩) fun r e n => ?_
    subst e
    cases h1 with
    | lst g _ => rw [g] at n; cases n
    | tup g _ => rw [g] at n; cases n
    | emp g => rw [g] at n; cases n
  · subst e
    refine ⟨_, rfl, .inr ⟨a, [x], rfl, s _ _ h1, fun r H' s' n g => ?_⟩⟩
    refine q (.ref r) H' s' (.inr ⟨a, x, d, r, rfl, h1, h2, h3, rfl, ?_, g⟩) fun r' e _ => ?_
    · exact Same.none s n
    · cases e; exact n
theorem cp_tx {K : PySem.W.Frag} {z : List Nat} {H0 H : Hp} {v v' : V} (h : Cp z H0 H v v') (s : Same H0 H) (t : IsTx K H0 v false) : IsTx K H v' false := by
  rcases h with ⟨d, h1, h2, h3, rfl⟩ | ⟨a, x, d, r, h1, h2, h3, h4, rfl, h6, h7⟩
  · exact t.mono s
  · exact .inr ⟨rfl, "list", .base (.lst h7), by unfold Kind; simp, by decide⟩
/-- what a refusal needs of the value: it may be written out, when z is behind it too -/
theorem Cp.show {z : List Nat} {H0 H : Hp} {v v' : V} (h : Cp z H0 H v v') (s : Same H0 H) : (∃ d, Dv H v' d ∧ okD d = true ∧ (kindD d == "list") = false) ∨ (∃ r x d, v' = .ref r ∧ H0 r = none ∧ H r = some (.lst [x]) ∧ Dv (upd H r (.lst ([x] ++ [.str (tx z)]))) (.ref r) (.list [d, .str (tx z)]) ∧ okD (.list [d, .str (tx z)]) = true) := by
  rcases h with ⟨d, h1, h2, h3, rfl⟩ | ⟨a, x, d, r, h1, h2, h3, h4, rfl, h6, h7⟩
  · exact .inl ⟨d, Dv.mono s d _ h1, h2, h3⟩
  · exact .inr ⟨r, x, d, rfl, h6, h7, .lst upd_same (.cons h3.dv (.cons (.str _) .nil)), h4⟩
end SL
set_option Elab.async false
set_option linter.all false
set_option maxHeartbeats 1000000
/-! Lev: the distance of two lists by the table of all beginnings, and its band. Plain Lean. -/
namespace Lv
/-- one letter beside another -/
def un (x y : List Nat) (i j : Nat) : Nat := if x.getD i 0 = y.getD j 0 then 0 else 1
theorem un_le (x y : List Nat) (i j : Nat) : un x y i j ≤ 1 := by unfold un; split <;> omega
/-- the table: beginnings of i and of j letters -/
def dl (x y : List Nat) : Nat → Nat → Nat
  | 0, j => j
  | i + 1, 0 => i + 1
  | i + 1, j + 1 => min (min (dl x y i j + un x y i j) (dl x y (i + 1) j + 1)) (dl x y i (j + 1) + 1)
termination_by i j => i + j
theorem un_eq {x y : List Nat} {i j c d : Nat} (h1 : x[i]? = some c) (h2 : y[j]? = some d) : (if (!decide ([c] = [d])) = true then (1 : Int) else 0) = (un x y i j : Nat) := by
  unfold un
  rw [List.getD_eq_getElem?_getD, List.getD_eq_getElem?_getD, h1, h2]
  by_cases h : c = d
  · simp [h]
  · simp [h]
theorem dl_0 (x y : List Nat) (j : Nat) : dl x y 0 j = j := by rw [dl]
theorem dl_r0 (x y : List Nat) (i : Nat) : dl x y i 0 = i := by cases i <;> rw [dl]
theorem dl_s (x y : List Nat) (i j : Nat) : dl x y (i + 1) (j + 1) = min (min (dl x y i j + un x y i j) (dl x y (i + 1) j + 1)) (dl x y i (j + 1) + 1) := by rw [dl]
theorem dl_low (x y : List Nat) : ∀ i j, i ≤ dl x y i j + j ∧ j ≤ dl x y i j + i
  | 0, j => by rw [dl_0]; omega
  | i + 1, 0 => by rw [dl_r0]; omega
  | i + 1, j + 1 => by
    have h1 := dl_low x y i j
    have h2 := dl_low x y (i + 1) j
    have h3 := dl_low x y i (j + 1)
    rw [dl_s]
    omega
termination_by i j => i + j
theorem dl_up (x y : List Nat) : ∀ i j, dl x y i j ≤ max i j
  | 0, j => by rw [dl_0]; omega
  | i + 1, 0 => by rw [dl_r0]; omega
  | i + 1, j + 1 => by
    have h1 := dl_up x y i j
    have h := un_le x y i j
    rw [dl_s]
    omega
termination_by i j => i + j
theorem dl_col (x y : List Nat) (i j : Nat) : dl x y i (j + 1) ≤ dl x y i j + 1 := by
  cases i with
  | zero => rw [dl_0, dl_0]; omega
  | succ i => rw [dl_s]; omega
theorem dl_row (x y : List Nat) (i j : Nat) : dl x y (i + 1) j ≤ dl x y i j + 1 := by
  cases j with
  | zero => rw [dl_r0, dl_r0]; omega
  | succ j => rw [dl_s]; omega
theorem dl_rowB (x y : List Nat) (i : Nat) : ∀ j, dl x y i j ≤ dl x y (i + 1) j + 1
  | 0 => by rw [dl_r0, dl_r0]; omega
  | j + 1 => by
    have h1 := dl_rowB x y i j
    have h2 := dl_col x y i j
    rw [dl_s]
    omega
theorem dl_colB (x y : List Nat) (j : Nat) : ∀ i, dl x y i j ≤ dl x y i (j + 1) + 1
  | 0 => by rw [dl_0, dl_0]; omega
  | i + 1 => by
    have h1 := dl_colB x y j i
    have h2 := dl_row x y i j
    rw [dl_s]
    omega
theorem dl_same {x y : List Nat} {i j : Nat} (h : x.getD i 0 = y.getD j 0) : dl x y (i + 1) (j + 1) = dl x y i j := by
  have h1 := dl_rowB x y i j
  have h2 := dl_colB x y j i
  have e : un x y i j = 0 := by unfold un; rw [if_pos h]
  rw [dl_s, e]
  omega
theorem dl_sym (x y : List Nat) : ∀ i j, dl x y i j = dl y x j i
  | 0, j => by rw [dl_0, dl_r0]
  | i + 1, 0 => by rw [dl_r0, dl_0]
  | i + 1, j + 1 => by
    have e : un x y i j = un y x j i := by
      unfold un
      by_cases h : x.getD i 0 = y.getD j 0
      · rw [if_pos h, if_pos h.symm]
      · rw [if_neg h, if_neg fun z => h z.symm]
    rw [dl_s, dl_s, dl_sym x y i j, dl_sym x y (i + 1) j, dl_sym x y i (j + 1), e]
    omega
termination_by i j => i + j
theorem dl_part {x y u v : List Nat} : ∀ i j, (∀ k, k < i → x.getD k 0 = u.getD k 0) → (∀ k, k < j → y.getD k 0 = v.getD k 0) → dl x y i j = dl u v i j
  | 0, j, _, _ => by rw [dl_0, dl_0]
  | i + 1, 0, _, _ => by rw [dl_r0, dl_r0]
  | i + 1, j + 1, hx, hy => by
    have e : un x y i j = un u v i j := by
      unfold un
      rw [hx i (by omega), hy j (by omega)]
    rw [dl_s, dl_s, dl_part i j (fun k h => hx k (by omega)) (fun k h => hy k (by omega)), dl_part (i + 1) j hx (fun k h => hy k (by omega)), dl_part i (j + 1) (fun k h => hx k (by omega)) hy, e]
termination_by i j => i + j
theorem un_cons (c d : Nat) (x y : List Nat) (i j : Nat) : un (c :: x) (d :: y) (i + 1) (j + 1) = un x y i j := by unfold un; rw [List.getD_cons_succ, List.getD_cons_succ]
theorem dl_head (c : Nat) (x y : List Nat) : ∀ i j, dl (c :: x) (c :: y) (i + 1) (j + 1) = dl x y i j
  | 0, 0 => by rw [dl_0, dl_same (x := c :: x) (y := c :: y) (i := 0) (j := 0) rfl, dl_0]
  | 0, j + 1 => by
    have h1 := dl_head c x y 0 j
    rw [dl_0] at h1
    rw [dl_0, dl_s (c :: x) (c :: y) 0 (j + 1), h1, dl_0, dl_0]
    have := un_le (c :: x) (c :: y) 0 (j + 1)
    omega
  | i + 1, 0 => by
    have h1 := dl_head c x y i 0
    rw [dl_r0] at h1
    have u := un_le (c :: x) (c :: y) (i + 1) 0
    rw [dl_r0, dl_s (c :: x) (c :: y) (i + 1) 0, h1, dl_r0, dl_r0]
    omega
  | i + 1, j + 1 => by
    rw [dl_s (c :: x) (c :: y) (i + 1) (j + 1), dl_s x y i j, dl_head c x y i j, dl_head c x y (i + 1) j, dl_head c x y i (j + 1), un_cons]
termination_by i j => i + j
theorem dl_put (c : Nat) (x y : List Nat) : ∀ i j, dl x (c :: y) i (j + 1) ≤ dl x y i j + 1
  | 0, j => by rw [dl_0, dl_0]; omega
  | i + 1, 0 => by
    have h1 := dl_row x (c :: y) i (0 + 1)
    have h2 := dl_put c x y i 0
    rw [dl_r0] at h2
    rw [dl_r0]
    omega
  | i + 1, j + 1 => by
    have h1 := dl_put c x y i j
    have h2 := dl_put c x y (i + 1) j
    have h3 := dl_put c x y i (j + 1)
    have e : un x (c :: y) i (j + 1) = un x y i j := by unfold un; rw [List.getD_cons_succ]
    rw [dl_s x (c :: y) i (j + 1), dl_s x y i j, e]
    omega
termination_by i j => i + j

/-- the distance -/
def lev (x y : List Nat) : Nat := dl x y x.length y.length
theorem lev_sym (x y : List Nat) : lev x y = lev y x := dl_sym x y _ _
theorem lev_low (x y : List Nat) : x.length ≤ lev x y + y.length ∧ y.length ≤ lev x y + x.length := dl_low x y _ _
theorem lev_up (x y : List Nat) : lev x y ≤ max x.length y.length := dl_up x y _ _
theorem lev_head (c : Nat) (x y : List Nat) : lev (c :: x) (c :: y) = lev x y := dl_head c x y _ _
theorem lev_heads (z x y : List Nat) : lev (z ++ x) (z ++ y) = lev x y := by
  induction z with
  | nil => rfl
  | cons c z ih => rw [List.cons_append, List.cons_append, lev_head, ih]
theorem lev_tail (c : Nat) (x y : List Nat) : lev (x ++ [c]) (y ++ [c]) = lev x y := by
  unfold lev
  rw [List.length_append, List.length_append]
  show dl _ _ (x.length + 1) (y.length + 1) = _
  rw [dl_same (by simp [List.getD_eq_getElem?_getD])]
  refine dl_part _ _ (fun k h => ?_) (fun k h => ?_)
  · simp [List.getD_eq_getElem?_getD, List.getElem?_append_left h]
  · simp [List.getD_eq_getElem?_getD, List.getElem?_append_left h]
theorem lev_tails (z x y : List Nat) : lev (x ++ z) (y ++ z) = lev x y := by
  induction z generalizing x y with
  | nil => rw [List.append_nil, List.append_nil]
  | cons c z ih =>
    have e1 : x ++ c :: z = (x ++ [c]) ++ z := by simp
    have e2 : y ++ c :: z = (y ++ [c]) ++ z := by simp
    rw [e1, e2, ih, lev_tail]
theorem lev_put (c : Nat) (x y : List Nat) : lev x (c :: y) ≤ lev x y + 1 := dl_put c x y _ _
theorem lev_sub {x y : List Nat} (h : List.Sublist x y) : lev x y ≤ y.length - x.length := by
  induction h with
  | slnil => unfold lev; rw [List.length_nil, dl_0]; omega
  | @cons l1 l2 a s ih =>
    have h1 := lev_put a l1 l2
    have h2 := s.length_le
    rw [List.length_cons]
    omega
  | @cons_cons l1 l2 a s ih =>
    rw [lev_head, List.length_cons, List.length_cons]
    omega
theorem lev_sub_eq {x y : List Nat} (h : List.Sublist x y) : lev x y = y.length - x.length := by
  have h1 := lev_sub h
  have h2 := lev_low x y
  omega
theorem lev_self (x : List Nat) : lev x x = 0 := by
  have := lev_sub (List.Sublist.refl x)
  omega

/-! the band: k is the place in it -/
def bval (x y : List Nat) (most i k : Nat) : Int := if most ≤ i + k ∧ i + k ≤ most + y.length then ((min (dl x y i (i + k - most)) (most + 1) : Nat) : Int) else (most : Int) + 1
def bandL (x y : List Nat) (most i : Nat) : List Int := (List.range (2 * most + 1)).map (bval x y most i)
theorem bandL_len (x y : List Nat) (most i : Nat) : (bandL x y most i).length = 2 * most + 1 := by unfold bandL; rw [List.length_map, List.length_range]
theorem bandL_at (x y : List Nat) {most i k : Nat} (h : k < 2 * most + 1) : (bandL x y most i)[k]? = some (bval x y most i k) := by
  unfold bandL
  rw [List.getElem?_map, List.getElem?_range h]
  rfl
theorem bval_0 (x y : List Nat) (most k : Nat) (hk : k ≤ 2 * most) : bval x y most 0 k = if most ≤ k ∧ k ≤ most + y.length then (k : Int) - most else (most : Int) + 1 := by
  unfold bval
  rw [Nat.zero_add, dl_0]
  split <;> omega
theorem bstep {x y : List Nat} {most i k : Nat} {m : Int} (h0 : m ≤ most + 1)
    (h1 : most < i + 1 + k → i + 1 + k ≤ most + y.length → m ≤ bval x y most i k + un x y i (i + k - most))
    (h2 : most < i + 1 + k → i + 1 + k ≤ most + y.length → 0 < k → m ≤ bval x y most (i + 1) (k - 1) + 1)
    (h3 : most ≤ i + 1 + k → i + 1 + k ≤ most + y.length → k < 2 * most → m ≤ bval x y most i (k + 1) + 1)
    (hm : m = most + 1 ∨ (most < i + 1 + k ∧ i + 1 + k ≤ most + y.length ∧ m = bval x y most i k + un x y i (i + k - most)) ∨
      (most < i + 1 + k ∧ i + 1 + k ≤ most + y.length ∧ 0 < k ∧ m = bval x y most (i + 1) (k - 1) + 1) ∨ (most ≤ i + 1 + k ∧ i + 1 + k ≤ most + y.length ∧ k < 2 * most ∧ m = bval x y most i (k + 1) + 1))
    (hk : k ≤ 2 * most) : m = bval x y most (i + 1) k := by
  by_cases ho : most ≤ i + 1 + k ∧ i + 1 + k ≤ most + y.length
  · obtain ⟨ha, hb⟩ := ho
    have e0 : bval x y most (i + 1) k = ((min (dl x y (i + 1) (i + 1 + k - most)) (most + 1) : Nat) : Int) := by
      unfold bval
      rw [if_pos ⟨ha, hb⟩]
    have e3 : bval x y most i (k + 1) = ((min (dl x y i (i + 1 + k - most)) (most + 1) : Nat) : Int) := by
      unfold bval
      rw [if_pos (by omega), show i + (k + 1) - most = i + 1 + k - most by omega]
    by_cases hz : i + 1 + k = most
    · rw [show i + 1 + k - most = 0 by omega, dl_r0] at e0 e3
      have g3 := h3 (by omega) hb
      rw [e3] at g3 hm
      rw [e0]
      omega
    · obtain ⟨j, hj⟩ : ∃ j, i + 1 + k - most = j + 1 := ⟨i + k - most, by omega⟩
      rw [hj, dl_s] at e0
      rw [hj] at e3
      have e1 : bval x y most i k = ((min (dl x y i j) (most + 1) : Nat) : Int) := by
        unfold bval
        rw [if_pos (by omega), show i + k - most = j by omega]
      have ej : i + k - most = j := by omega
      have g1 := h1 (by omega) hb
      have g2 := h2 (by omega) hb
      have g3 := h3 (by omega) hb
      have l2 := dl_low x y (i + 1) j
      have l3 := dl_low x y i (j + 1)
      have u := un_le x y i j
      rw [e1, ej] at g1 hm
      rw [e3] at g3 hm
      by_cases hk0 : 0 < k
      · have e2 : bval x y most (i + 1) (k - 1) = ((min (dl x y (i + 1) j) (most + 1) : Nat) : Int) := by
          unfold bval
          rw [if_pos (by omega), show i + 1 + (k - 1) - most = j by omega]
        rw [e2] at g2 hm
        rw [e0]
        omega
      · rw [e0]
        omega
  · have e0 : bval x y most (i + 1) k = (most : Int) + 1 := by
      unfold bval
      rw [if_neg ho]
    rw [e0]
    omega
/-- what the last row tells -/
theorem band_end (x y : List Nat) {most : Nat} (h : x.length ≤ y.length) (hm : y.length ≤ most + x.length) : bval x y most x.length (y.length - x.length + most) = ((min (lev x y) (most + 1) : Nat) : Int) := by
  unfold bval lev
  rw [if_pos (by omega), show x.length + (y.length - x.length + most) - most = y.length by omega]
/-- both ends cut away -/
theorem lev_cutT {x y : List Nat} {j : Nat} (h : x.reverse.take j = y.reverse.take j) : lev (x.take (x.length - j)) (y.take (y.length - j)) = lev x y := by
  have e : x.drop (x.length - j) = y.drop (y.length - j) := by
    rw [List.take_reverse, List.take_reverse] at h
    exact List.reverse_inj.mp h
  have h1 : lev (x.take (x.length - j) ++ x.drop (x.length - j)) (y.take (y.length - j) ++ y.drop (y.length - j)) = lev (x.take (x.length - j)) (y.take (y.length - j)) := by
    rw [← e]
    exact lev_tails _ _ _
  rw [List.take_append_drop, List.take_append_drop] at h1
  exact h1.symm
theorem lev_cutH {x y : List Nat} {k : Nat} (h : x.take k = y.take k) : lev (x.drop k) (y.drop k) = lev x y := by
  have h1 : lev (x.take k ++ x.drop k) (y.take k ++ y.drop k) = lev (x.drop k) (y.drop k) := by
    rw [← h]
    exact lev_heads _ _ _
  rw [List.take_append_drop, List.take_append_drop] at h1
  exact h1.symm
end Lv
set_option Elab.async false
set_option linter.all false
set_option maxHeartbeats 1000000
/-! Lev2: the distance's triangle and what it says of joined rows. Plain Lean. -/
namespace Lv
theorem un_tri (x y z : List Nat) (i j k : Nat) : un x z i k ≤ un x y i j + un y z j k := by
  unfold un
  by_cases h1 : x.getD i 0 = y.getD j 0
  · by_cases h2 : y.getD j 0 = z.getD k 0
    · rw [if_pos (h1.trans h2)]; omega
    · rw [if_neg h2]; split <;> omega
  · rw [if_neg h1]; split <;> omega
theorem dl_tri (x y z : List Nat) : ∀ i j k, dl x z i k ≤ dl x y i j + dl y z j k
  | 0, j, k => by
    have h := dl_low y z j k
    rw [dl_0, dl_0]
    omega
  | i + 1, j, 0 => by
    have h := dl_low x y (i + 1) j
    rw [dl_r0, dl_r0]
    omega
  | i + 1, 0, k + 1 => by
    have h := dl_up x z (i + 1) (k + 1)
    rw [dl_r0, dl_0]
    omega
  | i + 1, j + 1, k + 1 => by
    have t1 := dl_tri x y z i j k
    have t2 := dl_tri x y z i (j + 1) (k + 1)
    have t3 := dl_tri x y z (i + 1) (j + 1) k
    have t4 := dl_tri x y z (i + 1) j (k + 1)
    have t5 := dl_tri x y z (i + 1) j k
    have t6 := dl_tri x y z i j (k + 1)
    have u := un_tri x y z i j k
    have e1 := dl_s x y i j
    have e2 := dl_s y z j k
    have e3 := dl_s x z i k
    omega
termination_by i j k => i + j + k
theorem lev_tri (x y z : List Nat) : lev x z ≤ lev x y + lev y z := dl_tri x y z _ _ _
/-- one gap more -/
theorem gap_add {A B b0 b1 u v : List Nat} {t : Nat} (hb : b0 = [] ∨ b1 = []) (h : lev (A ++ b1) (B ++ b0) ≤ t) : lev (A ++ u) (B ++ v) ≤ t + lev (b0 ++ u) (b1 ++ v) := by
  rcases hb with rfl | rfl
  · have h1 := lev_tri (A ++ u) (A ++ (b1 ++ v)) (B ++ v)
    have h2 := lev_heads A u (b1 ++ v)
    have h3 := lev_tails v (A ++ b1) B
    rw [List.append_assoc] at h3
    rw [List.append_nil] at h
    rw [List.nil_append]
    omega
  · have h1 := lev_tri (A ++ u) (B ++ (b0 ++ u)) (B ++ v)
    have h2 := lev_heads B (b0 ++ u) v
    have h3 := lev_tails u A (B ++ b0)
    rw [List.append_assoc] at h3
    rw [List.append_nil] at h
    rw [List.nil_append]
    omega
end Lv
set_option Elab.async false
set_option linter.all false
set_option maxRecDepth 100000
set_option maxHeartbeats 4000000
/-! SlP: small data; odd values that are such; comparing with []. -/
namespace SL
open PySem PySem.Spec PyProof.Rows L2
structure Sm (n k : Nat) (d : PyData) : Prop where
  sh : d.showable = true
  nd : d.hasDict = false
  ly : d.canLay0 = true
  dp : d.depth ≤ k
  ln : d.shown.length ≤ n
theorem Sm.le {n k m j : Nat} {d : PyData} (h : Sm n k d) (e : n ≤ m) (f : k ≤ j) : Sm m j d := ⟨h.sh, h.nd, h.ly, Nat.le_trans h.dp f, Nat.le_trans h.ln e⟩
theorem Sm.okD {n k : Nat} {d : PyData} (h : Sm n k d) (e : n ≤ 16777216 := by omega) (f : k ≤ 60 := by omega) : okD d = true := by
  have z := h.ln
  have y := h.dp
  have x := h.nd
  have w := h.sh
  cases d with
  | dict ks => simp [PyData.hasDict] at x
  | _ =>
    unfold SL.okD
    simp only [w, x, Bool.not_false, Bool.and_self, Bool.true_and, Bool.and_eq_true, decide_eq_true_eq]
    exact ⟨by omega, by omega⟩
theorem Sm.shaped {n k : Nat} {d : PyData} (h : Sm n k d) (f : k ≤ 64 := by omega) : SeqAt.shaped d = true := by
  unfold SeqAt.shaped
  rw [h.ly, Bool.true_and]
  exact decide_eq_true (Nat.le_trans h.dp f)
theorem sm_str {l : List Nat} {n : Nat} (h : Sgn l) (z : 10 * l.length + 2 ≤ n) : Sm n 0 (.str (tx l)) :=
  ⟨rfl, rfl, by simp only [PyData.canLay0]; exact h.ok, by simp [PyData.depth], Nat.le_trans (repr_short h) z⟩
theorem sm_non : Sm 4 0 .none := ⟨rfl, rfl, rfl, by decide, by decide +kernel⟩
theorem sm_list1 {n k : Nat} {d : PyData} (h : Sm n k d) : Sm (n + 10) (k + 1) (.list [d]) := by
  refine ⟨by simp [PyData.showable, PyData.showableAll, h.sh], by simp [PyData.hasDict, PyData.hasDictAll, h.nd], by simp [PyData.canLay0, PyData.canLayAll0, h.ly], ?_, ?_⟩
  · have := h.dp
    simp [PyData.depth, PyData.depthAll]
    omega
  · refine Nat.le_trans (listText_len_le _) ?_
    have := h.ln
    simp only [PyData.shownAll, List.map_cons, List.map_nil, List.sum_cons, List.sum_nil, List.length_cons, List.length_nil]
    omega
theorem sm_list2 {n k m j : Nat} {d e : PyData} (h : Sm n k d) (h2 : Sm m j e) : Sm (n + m + 10) (max k j + 1) (.list [d, e]) := by
  refine ⟨by simp [PyData.showable, PyData.showableAll, h.sh, h2.sh], by simp [PyData.hasDict, PyData.hasDictAll, h.nd, h2.nd], by simp [PyData.canLay0, PyData.canLayAll0, h.ly, h2.ly], ?_, ?_⟩
  · have := h.dp
    have := h2.dp
    simp [PyData.depth, PyData.depthAll]
    omega
  · refine Nat.le_trans (listText_len_le _) ?_
    have := h.ln
    have := h2.ln
    simp only [PyData.shownAll, List.map_cons, List.map_nil, List.sum_cons, List.sum_nil, List.length_cons, List.length_nil]
    omega
theorem sm_tup1 {n k : Nat} {d : PyData} (h : Sm n k d) : Sm (n + 10) (k + 1) (.tuple [d]) := by
  refine ⟨by simp [PyData.showable, PyData.showableAll, h.sh], by simp [PyData.hasDict, PyData.hasDictAll, h.nd], by simp [PyData.canLay0, PyData.canLayAll0, h.ly], ?_, ?_⟩
  · have := h.dp
    simp [PyData.depth, PyData.depthAll]
    omega
  · refine Nat.le_trans (tupleText_len_le _) ?_
    have := h.ln
    simp only [PyData.shownAll, List.map_cons, List.map_nil, List.sum_cons, List.sum_nil, List.length_cons, List.length_nil]
    omega
theorem sm_tup2 {n k m j : Nat} {d e : PyData} (h : Sm n k d) (h2 : Sm m j e) : Sm (n + m + 10) (max k j + 1) (.tuple [d, e]) := by
  refine ⟨by simp [PyData.showable, PyData.showableAll, h.sh, h2.sh], by simp [PyData.hasDict, PyData.hasDictAll, h.nd, h2.nd], by simp [PyData.canLay0, PyData.canLayAll0, h.ly, h2.ly], ?_, ?_⟩
  · have := h.dp
    have := h2.dp
    simp [PyData.depth, PyData.depthAll]
    omega
  · refine Nat.le_trans (tupleText_len_le _) ?_
    have := h.ln
    have := h2.ln
    simp only [PyData.shownAll, List.map_cons, List.map_nil, List.sum_cons, List.sum_nil, List.length_cons, List.length_nil]
    omega
theorem sm_tup3 {n k m j a b : Nat} {d e f : PyData} (h : Sm n k d) (h2 : Sm m j e) (h3 : Sm a b f) : Sm (n + m + a + 10) (max k (max j b) + 1) (.tuple [d, e, f]) := by
  refine ⟨by simp [PyData.showable, PyData.showableAll, h.sh, h2.sh, h3.sh], by simp [PyData.hasDict, PyData.hasDictAll, h.nd, h2.nd, h3.nd], by simp [PyData.canLay0, PyData.canLayAll0, h.ly, h2.ly, h3.ly], ?_, ?_⟩
  · have := h.dp
    have := h2.dp
    have := h3.dp
    simp [PyData.depth, PyData.depthAll]
    omega
  · refine Nat.le_trans (tupleText_len_le _) ?_
    have := h.ln
    have := h2.ln
    have := h3.ln
    simp only [PyData.shownAll, List.map_cons, List.map_nil, List.sum_cons, List.sum_nil, List.length_cons, List.length_nil]
    omega
/-- an odd value that is small data; a list of it is not empty -/
def Ov (n k : Nat) (H : Hp) (v : V) : Prop := ∃ d, Dv H v d ∧ Sm n k d ∧ ∀ ds, d = .list ds → 0 < ds.length ∧ ds.length ≤ 10
theorem Ov.mono {n k : Nat} {H H' : Hp} {v : V} (s : Same H H') (h : Ov n k H v) : Ov n k H' v := by
  obtain ⟨d, h1, h2⟩ := h
  exact ⟨d, Dv.mono s d v h1, h2⟩
theorem Ov.le {n k m j : Nat} {H : Hp} {v : V} (h : Ov n k H v) (e : n ≤ m) (f : k ≤ j) : Ov m j H v := by
  obtain ⟨d, h1, h2, h3⟩ := h
  exact ⟨d, h1, h2.le e f, h3⟩
/-- v' is v or, of a list, a copy of it made behind H0 -/
def Cv (n k : Nat) (H0 H : Hp) (v v' : V) : Prop := (∃ d, Dv H0 v d ∧ Sm n k d ∧ (kindD d == "list") = false ∧ v' = v) ∨ (∃ r xs ds, v' = .ref r ∧ H0 r = none ∧ H r = some (.lst xs) ∧ DvAll H0 xs ds ∧ Sm n k (.list ds) ∧ 0 < ds.length ∧ ds.length ≤ 10)
theorem Cv.same {n k : Nat} {H0 H H' : Hp} {v v' : V} (h : Cv n k H0 H v v') (s : Same H H') : Cv n k H0 H' v v' := by
  rcases h with h | ⟨r, xs, ds, h1, h2, h3, h4⟩
  · exact .inl h
  · exact .inr ⟨r, xs, ds, h1, h2, s _ _ h3, h4⟩
theorem copy_v {K : PySem.W.Frag} {n k : Nat} {H0 H : Hp} {v : V} {Q : VK} {E : XK} (h : Ov n k H0 v) (s : Same H0 H) (q : ∀ v' H', Same H H' → Cv n k H0 H' v v' → Q v' H') : spCopy K [v] H Q E := by
  obtain ⟨d, h1, h2, h3⟩ := h
  by_cases hk : (kindD d == "list") = false
  · exact ⟨v, rfl, .inl ⟨kindD d, (Dv.mono s d v h1).ty, kind_ok d, by simpa using hk, q v H (Same.refl _) (.inl ⟨d, h1, h2, hk, rfl⟩)⟩⟩
  · cases h1 with
    | @lst a xs ds g1 g2 =>
      refine ⟨_, rfl, .inr ⟨a, xs, rfl, s _ _ g1, fun r H' s' n0 g => ?_⟩⟩
      obtain ⟨z1, z2⟩ := h3 ds rfl
      exact q (.ref r) H' s' (.inr ⟨r, xs, ds, rfl, Same.none s n0, g, g2, h2, z1, z2⟩)
    | _ => exact absurd rfl hk
theorem cv_tx {K : PySem.W.Frag} {n k : Nat} {H0 H : Hp} {v v' : V} (h : Cv n k H0 H v v') (s : Same H0 H) (t : IsTx K H0 v false) : IsTx K H v' false := by
  rcases h with ⟨d, h1, h2, h3, rfl⟩ | ⟨r, xs, ds, rfl, h2, h3, _⟩
  · exact t.mono s
  · exact .inr ⟨rfl, "list", .base (.lst h3), by unfold SL.Kind; simp, by decide⟩
theorem cv_lg {K : PySem.W.Frag} {n k : Nat} {H0 H : Hp} {v v' : V} (h : Cv n k H0 H v v') (s : Same H0 H) (t : IsLg K H0 v false) : IsLg K H v' false := by
  rcases h with ⟨d, h1, h2, h3, rfl⟩ | ⟨r, xs, ds, rfl, h2, h3, _⟩
  · exact t.mono s
  · exact .inl ⟨rfl, "list", .base (.lst h3), by unfold SL.Kind; simp, by decide⟩
theorem dpall_of {K : PySem.W.Frag} {H : Hp} {v : V} {d : PyData} (h : Dv H v d) (z : d.hasDict = false) : DpAll K H [v] [d] := .cons (Dv.dp d v h z) .nil
/-- [v] == [] -/
theorem w_eqNilD {K : PySem.W.Frag} {H : Hp} {Q : VK} {r e : Addr} {v : V} {d : PyData} {n k : Nat} (h1 : H r = some (.lst [v])) (hv : Dv H v d) (sm : Sm n k d) (f : k ≤ 60) (h2 : H e = some (.lst [])) (q : Q (.bl false) H) : rEqU K (.ref r) (.ref e) H Q :=
  .inr ⟨.list [d], .list [], .lst (SqL.of h1) (dpall_of hv sm.nd), .lst (SqL.of h2) .nil, (sm_list1 sm).shaped (by omega), by decide +kernel, by
    have e : PyData.eqv (.list [d]) (.list []) = false := by simp [PyData.eqv, PyData.eqvAll]
    rw [e]
    exact q⟩
/-- [] != [] -/
theorem w_neNil {K : PySem.W.Frag} {H : Hp} {Q : VK} {r e : Addr} (h1 : H r = some (.lst [])) (h2 : H e = some (.lst [])) (q : Q (.bl false) H) : rNeU K (.ref r) (.ref e) H Q :=
  .inr ⟨.list [], .list [], .lst (SqL.of h1) .nil, .lst (SqL.of h2) .nil, by decide +kernel, by decide +kernel, by
    have e : PyData.eqv (.list []) (.list []) = true := by simp [PyData.eqv, PyData.eqvAll]
    rw [e]
    exact q⟩
theorem hideF {p : Addr} {A B : Hp} (f : SL.Fr p A B) : Same (hide [p] A) B := hide_to fun b o h n => f b o h (by simpa using n)
theorem hideH {p : Addr} {A B : Hp} (f : SL.Fr p A B) : Same (hide [p] A) (hide [p] B) := fun b o h => by
  have n : b ∉ [p] := fun m => by unfold hide at h; rw [if_pos m] at h; cases h
  exact hide_get (hideF f _ _ h) n
end SL
set_option Elab.async false
set_option linter.all false
set_option maxHeartbeats 1000000
/-! Wd: lags behind words. Plain Lean. -/
namespace Wd
/-- the lag behind two texts -/
def bh (x y : List Nat) : Option (List Nat × List Nat) := if x.take y.length = y then some (x.drop y.length, []) else if y.take x.length = x then some ([], y.drop x.length) else none
theorem take_app (c x : List Nat) (n : Nat) : (c ++ x).take (c.length + n) = c ++ x.take n := by
  induction c with
  | nil => simp
  | cons a c ih => rw [List.cons_append, List.length_cons, show c.length + 1 + n = (c.length + n) + 1 by omega, List.take_succ_cons, ih, List.cons_append]
theorem drop_app (c x : List Nat) (n : Nat) : (c ++ x).drop (c.length + n) = x.drop n := by
  induction c with
  | nil => simp
  | cons a c ih => rw [List.cons_append, List.length_cons, show c.length + 1 + n = (c.length + n) + 1 by omega, List.drop_succ_cons, ih]
theorem bh_app (c x y : List Nat) : bh (c ++ x) (c ++ y) = bh x y := by
  unfold bh
  rw [List.length_append, List.length_append, take_app, take_app, drop_app, drop_app]
  simp only [List.append_cancel_left_eq]
theorem bh_some {x y u v : List Nat} (h : bh x y = some (u, v)) : ∃ c, x = c ++ u ∧ y = c ++ v ∧ (u = [] ∨ v = []) := by
  unfold bh at h
  by_cases h1 : x.take y.length = y
  · rw [if_pos h1] at h
    cases h
    exact ⟨y, by have := List.take_append_drop y.length x; rw [h1] at this; exact this.symm, by simp, .inr rfl⟩
  · rw [if_neg h1] at h
    by_cases h2 : y.take x.length = x
    · rw [if_pos h2] at h
      cases h
      exact ⟨x, by simp, by have := List.take_append_drop x.length y; rw [h2] at this; exact this.symm, .inl rfl⟩
    · rw [if_neg h2] at h
      cases h
theorem bh_more {x y u v : List Nat} (a b : List Nat) (h : bh x y = some (u, v)) : bh (x ++ a) (y ++ b) = bh (u ++ a) (v ++ b) := by
  obtain ⟨c, rfl, rfl, _⟩ := bh_some h
  rw [List.append_assoc, List.append_assoc, bh_app]
theorem bh_turn (x y : List Nat) : bh y x = (bh x y).map fun p => (p.2, p.1) := by
  unfold bh
  by_cases h1 : x.take y.length = y
  · by_cases h2 : y.take x.length = x
    · have l1 := congrArg List.length h1
      have l2 := congrArg List.length h2
      rw [List.length_take] at l1 l2
      have e : x.length = y.length := by omega
      rw [if_pos h2, if_pos h1]
      have d1 : y.drop x.length = [] := List.drop_of_length_le (by omega)
      have d2 : x.drop y.length = [] := List.drop_of_length_le (by omega)
      simp [d1, d2]
    · rw [if_neg h2, if_pos h1, if_pos h1]
      rfl
  · by_cases h2 : y.take x.length = x
    · rw [if_pos h2, if_neg h1, if_pos h2]
      rfl
    · rw [if_neg h2, if_neg h1, if_neg h1, if_neg h2]
      rfl
theorem bh_len {x y u v : List Nat} (h : bh x y = some (u, v)) : u.length ≤ x.length ∧ v.length ≤ y.length := by
  obtain ⟨c, rfl, rfl, _⟩ := bh_some h
  simp
end Wd
set_option Elab.async false
set_option linter.all false
set_option maxHeartbeats 1000000
/-! Rot: texts written round and round, their periods and roots. Plain Lean. -/
namespace Rt
/-- the letter at i of the text written again and again -/
def cy (w : List Nat) (i : Nat) : Nat := w.getD (i % w.length) 0
theorem cy_lt {w : List Nat} {i : Nat} (h : i < w.length) : cy w i = w.getD i 0 := by unfold cy; rw [Nat.mod_eq_of_lt h]
theorem eq_of_cy {u v : List Nat} (h : u.length = v.length) (e : ∀ i, i < u.length → cy u i = cy v i) : u = v := by
  apply List.ext_getElem h
  intro i h1 h2
  have := e i h1
  rw [cy_lt h1, cy_lt h2] at this
  simpa [List.getD_eq_getElem?_getD, h1, h2] using this
theorem cy_add (w : List Nat) (i k : Nat) : cy w (i + w.length * k) = cy w i := by unfold cy; rw [Nat.add_mul_mod_self_left]
theorem cy_len (w : List Nat) (i : Nat) : cy w (i + w.length) = cy w i := by unfold cy; rw [Nat.add_mod_right]
def rot (k : Nat) (w : List Nat) : List Nat := w.drop k ++ w.take k
theorem rot_len {w : List Nat} {k : Nat} (hk : k ≤ w.length) : (rot k w).length = w.length := by
  unfold rot
  rw [List.length_append, List.length_drop, List.length_take]
  omega
theorem rot_cy {w : List Nat} {k : Nat} (hn : 0 < w.length) (hk : k ≤ w.length) (i : Nat) : cy (rot k w) i = cy w (i + k) := by
  unfold cy
  rw [rot_len hk]
  have hj : i % w.length < w.length := Nat.mod_lt _ hn
  have e : (i + k) % w.length = (i % w.length + k) % w.length := by rw [Nat.mod_add_mod]
  rw [e]
  generalize i % w.length = j at hj
  unfold rot
  rw [List.getD_eq_getElem?_getD, List.getD_eq_getElem?_getD, List.getElem?_append]
  by_cases h : j < w.length - k
  · rw [if_pos (by rw [List.length_drop]; exact h), List.getElem?_drop, Nat.mod_eq_of_lt (by omega), Nat.add_comm k j]
  · rw [if_neg (by rw [List.length_drop]; exact h), List.length_drop, List.getElem?_take, if_pos (by omega)]
    have e2 : (j + k) % w.length = j - (w.length - k) := by
      rw [Nat.mod_eq_sub_mod (by omega), Nat.mod_eq_of_lt (by omega)]
      omega
    rw [e2]
/-- after k letters it goes on as from the start -/
def Per (w : List Nat) (k : Nat) : Prop := ∀ i, cy w (i + k) = cy w i
theorem per_len (w : List Nat) : Per w w.length := cy_len w
theorem per_0 (w : List Nat) : Per w 0 := fun _ => rfl
theorem Per.add {w : List Nat} {a b : Nat} (h : Per w a) (k : Per w b) : Per w (a + b) := fun i => by rw [← Nat.add_assoc, k, h]
theorem Per.mul {w : List Nat} {a : Nat} (h : Per w a) : ∀ q, Per w (a * q)
  | 0 => per_0 w
  | q + 1 => by rw [Nat.mul_succ]; exact (h.mul q).add h
theorem Per.sub {w : List Nat} {a b : Nat} (h : Per w a) (k : Per w b) (l : b ≤ a) : Per w (a - b) := fun i => by
  rw [← k (i + (a - b)), show i + (a - b) + b = i + a by omega, h]
theorem Per.mod {w : List Nat} {a b : Nat} (h : Per w a) (k : Per w b) : Per w (a % b) := by
  have e : a % b = a - b * (a / b) := by have := Nat.div_add_mod a b; omega
  rw [e]
  exact h.sub (k.mul _) (Nat.mul_div_le a b)
theorem rot_fix {w : List Nat} {k : Nat} (hn : 0 < w.length) (hk : k ≤ w.length) : rot k w = w ↔ Per w k := by
  constructor
  · intro h i
    rw [← rot_cy hn hk, h]
  · intro h
    exact eq_of_cy (rot_len hk) fun i _ => by rw [rot_cy hn hk, h]
theorem least {P : Nat → Prop} {n : Nat} (h : P n) : ∃ m, m ≤ n ∧ P m ∧ ∀ k, k < m → ¬ P k := by
  induction n using Nat.strongRecOn with
  | ind n ih =>
    by_cases e : ∃ k, k < n ∧ P k
    · obtain ⟨k, h1, h2⟩ := e
      obtain ⟨m, m1, m2, m3⟩ := ih k h1 h2
      exact ⟨m, by omega, m2, m3⟩
    · exact ⟨n, Nat.le_refl _, h, fun k hk hp => e ⟨k, hk, hp⟩⟩
/-- r is the length of w's root -/
structure IsR (w : List Nat) (r : Nat) : Prop where
  pos : 0 < r
  le : r ≤ w.length
  per : Per w r
  dvd : ∀ k, Per w k → r ∣ k
theorem IsR.uniq {w : List Nat} {r s : Nat} (h : IsR w r) (k : IsR w s) : r = s := Nat.dvd_antisymm (h.dvd _ k.per) (k.dvd _ h.per)
theorem isR_of {w : List Nat} {r : Nat} (h0 : 0 < r) (h1 : r ≤ w.length) (h2 : Per w r) (h3 : ∀ k, 0 < k → k < r → ¬ Per w k) : IsR w r :=
  ⟨h0, h1, h2, fun k hk => by
    have h4 := hk.mod h2
    by_cases e : k % r = 0
    · exact Nat.dvd_of_mod_eq_zero e
    · exact absurd h4 (h3 _ (by omega) (Nat.mod_lt _ h0))⟩
theorem exR (w : List Nat) (hn : 0 < w.length) : ∃ r, IsR w r := by
  obtain ⟨m, h1, h2, h3⟩ := least (P := fun k => 0 < k ∧ Per w k) (n := w.length) ⟨hn, per_len w⟩
  exact ⟨m, isR_of h2.1 h1 h2.2 fun k k0 km hp => h3 k km ⟨k0, hp⟩⟩
theorem IsR.min {w : List Nat} {r : Nat} (h : IsR w r) {k : Nat} (k0 : 0 < k) (hk : Per w k) : r ≤ k := Nat.le_of_dvd k0 (h.dvd k hk)
/-! rounds of a piece -/
def rds (q : Nat) (p : List Nat) : List Nat := (List.replicate q p).flatten
theorem rds_len (q : Nat) (p : List Nat) : (rds q p).length = q * p.length := SL.rep_len q p
theorem rds_succ (q : Nat) (p : List Nat) : rds (q + 1) p = p ++ rds q p := by unfold rds; rw [List.replicate_succ, List.flatten_cons]
theorem rds_at (p : List Nat) : ∀ (q i : Nat), i < q * p.length → (rds q p).getD i 0 = p.getD (i % p.length) 0
  | 0, i, h => by omega
  | q + 1, i, h => by
    rw [rds_succ]
    rw [List.getD_eq_getElem?_getD, List.getElem?_append]
    by_cases e : i < p.length
    · rw [if_pos e, ← List.getD_eq_getElem?_getD, Nat.mod_eq_of_lt e]
    · rw [if_neg e, ← List.getD_eq_getElem?_getD, rds_at p q (i - p.length) (by rw [Nat.succ_mul] at h; omega), Nat.mod_eq_sub_mod (a := i) (by omega)]
theorem rds_cy {p : List Nat} {q : Nat} (hq : 0 < q) (hp : 0 < p.length) (i : Nat) : cy (rds q p) i = cy p i := by
  have hz : 0 < q * p.length := Nat.mul_pos hq hp
  show (rds q p).getD (i % (rds q p).length) 0 = _
  rw [rds_len, rds_at p q _ (Nat.mod_lt _ hz)]
  unfold cy
  rw [Nat.mod_mul_left_mod]
theorem take_cy {w : List Nat} {r : Nat} (h0 : 0 < r) (hr : r ≤ w.length) (h : Per w r) (i : Nat) : cy (w.take r) i = cy w i := by
  have e : (w.take r).length = r := by rw [List.length_take]; omega
  have hj : i % r < r := Nat.mod_lt _ h0
  have h1 : cy w i = cy w (i % r) := by
    have := (h.mul (i / r)) (i % r)
    rw [← this, Nat.mod_add_div]
  have h2 : cy w (i % r) = w.getD (i % r) 0 := cy_lt (Nat.lt_of_lt_of_le hj hr)
  rw [h1, h2]
  unfold cy
  rw [e, List.getD_eq_getElem?_getD, List.getD_eq_getElem?_getD, List.getElem?_take, if_pos hj]
/-- a part of the text is its rounds, just where this part is a period that divides the length -/
theorem rounds_iff {w : List Nat} {s : Nat} (hs : 0 < s) (hn : 0 < w.length) (hd : s ∣ w.length) : rds (w.length / s) (w.take s) = w ↔ Per w s := by
  have hle : s ≤ w.length := Nat.le_of_dvd hn hd
  have ht : (w.take s).length = s := by rw [List.length_take]; omega
  have hq : 0 < w.length / s := Nat.div_pos hle hs
  constructor
  · intro h i
    rw [← h, rds_cy hq (by omega), rds_cy hq (by omega)]
    have := cy_len (w.take s) i
    rw [ht] at this
    exact this
  · intro h
    refine eq_of_cy ?_ fun i _ => ?_
    · rw [rds_len, ht]
      exact Nat.div_mul_cancel hd
    · rw [rds_cy hq (by omega), take_cy hs hle h]
theorem IsR.rounds {w : List Nat} {r : Nat} (h : IsR w r) : rds (w.length / r) (w.take r) = w :=
  (rounds_iff h.pos (Nat.lt_of_lt_of_le h.pos h.le) (h.dvd _ (per_len w))).mpr h.per
/-- the law's root: the least size that divides the length and of which the text is rounds -/
theorem root_first {w : List Nat} {r : Nat} (h : IsR w r) : w.length % r = 0 ∧ rds (w.length / r) (w.take r) = w ∧ ∀ s, 0 < s → s < r → ¬ (w.length % s = 0 ∧ rds (w.length / s) (w.take s) = w) := by
  have hn : 0 < w.length := Nat.lt_of_lt_of_le h.pos h.le
  refine ⟨Nat.mod_eq_zero_of_dvd (h.dvd _ (per_len w)), h.rounds, fun s s0 sr ⟨h1, h2⟩ => ?_⟩
  have hp := (rounds_iff s0 hn (Nat.dvd_of_mod_eq_zero h1)).mp h2
  have := h.min s0 hp
  omega
/-! turns -/
/-- one, turned by k, is other -/
def Trn (u v : List Nat) (k : Nat) : Prop := ∀ i, cy u (i + k) = cy v i
theorem trn_iff {u v : List Nat} {k : Nat} (hn : 0 < u.length) (hk : k ≤ u.length) (e : u.length = v.length) : rot k u = v ↔ Trn u v k := by
  constructor
  · intro h i
    rw [← h, rot_cy hn hk]
  · intro h
    exact eq_of_cy (by rw [rot_len hk, e]) fun i _ => by rw [rot_cy hn hk, h]
theorem Trn.sub {u v : List Nat} {k s : Nat} (h : Trn u v k) (p : Per u s) (l : s ≤ k) : Trn u v (k - s) := fun i => by
  rw [← h i, ← p (i + (k - s)), show i + (k - s) + s = i + k by omega]
theorem Trn.add {u v : List Nat} {k s : Nat} (h : Trn u v k) (p : Per u s) : Trn u v (k + s) := fun i => by
  rw [← h i, ← p (i + k), Nat.add_assoc]
theorem Trn.mod {u v : List Nat} {k s : Nat} (h : Trn u v k) (p : Per u s) : Trn u v (k % s) := by
  have e : k % s = k - s * (k / s) := by have := Nat.div_add_mod k s; omega
  rw [e]
  exact h.sub (p.mul _) (Nat.mul_div_le k s)
theorem Trn.diff {u v : List Nat} {k j : Nat} (h : Trn u v k) (g : Trn u v j) (l : j ≤ k) (n : ∃ q, k ≤ u.length * q) : Per u (k - j) := fun i => by
  -- from i on: i stands j behind some place
  obtain ⟨q, hq⟩ := n
  have e1 : cy u i = cy u (i + u.length * q) := (cy_add u i q).symm
  have e2 : cy u (i + (k - j)) = cy u (i + (k - j) + u.length * q) := (cy_add u _ q).symm
  rw [e1, e2]
  have a1 : i + u.length * q = (i + u.length * q - j) + j := by omega
  have a2 : i + (k - j) + u.length * q = (i + u.length * q - j) + k := by omega
  rw [a1, a2, h, g]
theorem trn_same {u v : List Nat} {r k j : Nat} (hr : IsR u r) (h : Trn u v k) (g : Trn u v j) (hk : k < r) (hj : j < r) : k = j := by
  have hn : 0 < u.length := Nat.lt_of_lt_of_le hr.pos hr.le
  rcases Nat.le_total j k with l | l
  · have p := h.diff g l ⟨1, by have := hr.le; omega⟩
    have d := hr.dvd _ p
    have := Nat.eq_zero_of_dvd_of_lt d (by omega)
    omega
  · have p := g.diff h l ⟨1, by have := hr.le; omega⟩
    have d := hr.dvd _ p
    have := Nat.eq_zero_of_dvd_of_lt d (by omega)
    omega
end Rt
set_option Elab.async false
set_option linter.all false
set_option maxRecDepth 100000
set_option maxHeartbeats 4000000
/-! SlQ: find on texts, list of a text, pop, index, isinstance of a caught error, a dict of one entry and its repr. -/
namespace SL
open PySem PySem.Spec PyProof.Rows L2 Rt
/-! ### find -/
def rFindU : V → List V → Hp → VK → Prop := fun x xs H Q => ∃ a b, x = .str a ∧ xs = [.str b] ∧ Q (.int (Txt.find a b)) H
theorem uFind {X : Cx} : MtR X "str.find" rFindU := mt_find
def rFind3U : V → List V → Hp → VK → Prop := fun x xs H Q => ∃ (a b : Str) (i : Int), x = .str a ∧ xs = [.str b, .int i] ∧ Q (.int (Txt.find3 a b i)) H
theorem uFind3 {X : Cx} : MtR X "str.find" rFind3U := mt_find3
theorem at_iff (l m : List Nat) (i : Nat) : StrLaws.At (tx l) (tx m) (tx l).length i ↔ i + m.length ≤ l.length ∧ (l.drop i).take m.length = m := by
  unfold StrLaws.At
  rw [StrLaws.subAt_eq, tx_len, tx_len]
  constructor
  · rintro ⟨h1, h2⟩
    exact ⟨h1, by simpa using h2⟩
  · rintro ⟨h1, h2⟩
    exact ⟨h1, by simpa using h2⟩
theorem find3_is (l m : List Nat) (lo : Nat) : (Txt.find3 (tx l) (tx m) (lo : Int) = -1 ∧ ∀ i, lo ≤ i → ¬ (i + m.length ≤ l.length ∧ (l.drop i).take m.length = m)) ∨
    ∃ i : Nat, Txt.find3 (tx l) (tx m) (lo : Int) = (i : Int) ∧ lo ≤ i ∧ (i + m.length ≤ l.length ∧ (l.drop i).take m.length = m) ∧ ∀ k, lo ≤ k → k < i → ¬ (k + m.length ≤ l.length ∧ (l.drop k).take m.length = m) := by
  have e : PySem.fromIndex (tx l).length (lo : Int) = lo := by
    unfold PySem.fromIndex
    rw [if_neg (by omega)]
    omega
  unfold Txt.find3
  rw [e]
  rcases StrLaws.occ_head_from (tx l) (tx m) lo 1 (Nat.le_refl 1) with ⟨h0, hn⟩ | ⟨i, r, h0, h1, h2, h3⟩
  · rw [h0]
    exact .inl ⟨rfl, fun i hi h => hn i hi ((at_iff l m i).mpr h)⟩
  · rw [h0]
    exact .inr ⟨i, rfl, h1, (at_iff l m i).mp h2, fun k k1 k2 h => h3 k k1 k2 ((at_iff l m k).mpr h)⟩
theorem find_is (l m : List Nat) : (Txt.find (tx l) (tx m) = -1 ∧ ∀ i, ¬ (i + m.length ≤ l.length ∧ (l.drop i).take m.length = m)) ∨
    ∃ i : Nat, Txt.find (tx l) (tx m) = (i : Int) ∧ (i + m.length ≤ l.length ∧ (l.drop i).take m.length = m) ∧ ∀ k, k < i → ¬ (k + m.length ≤ l.length ∧ (l.drop k).take m.length = m) := by
  rw [find_is_find3]
  rcases find3_is l m 0 with ⟨h1, h2⟩ | ⟨i, h1, h2, h3, h4⟩
  · exact .inl ⟨h1, fun i => h2 i (Nat.zero_le _)⟩
  · exact .inr ⟨i, h1, h3, fun k => h4 k (Nat.zero_le _)⟩
/-- a part of the text written twice -/
theorem twice_part {u : List Nat} {i : Nat} (hi : i ≤ u.length) : ((u ++ u).drop i).take u.length = rot i u := by
  unfold rot
  rw [List.drop_append_of_le_length hi, List.take_append, List.length_drop]
  rw [List.take_of_length_le (by rw [List.length_drop]; omega)]
  congr 2
  omega
/-- where the text is found again in itself written twice -/
theorem find_root {w : List Nat} (hn : 0 < w.length) : ∃ r : Nat, Txt.find3 (tx (w ++ w)) (tx w) 1 = (r : Int) ∧ IsR w r := by
  have zz : (w ++ w).length = w.length + w.length := List.length_append
  rcases find3_is (w ++ w) w 1 with ⟨h1, h2⟩ | ⟨i, h1, h2, ⟨h3, h4⟩, h5⟩
  · exact absurd ⟨by omega, by rw [twice_part (Nat.le_refl _)]; exact (rot_fix hn (Nat.le_refl _)).mpr (per_len w)⟩ (h2 w.length hn)
  · have hi : i ≤ w.length := by omega
    rw [twice_part hi] at h4
    refine ⟨i, h1, isR_of h2 hi ((rot_fix hn hi).mp h4) fun k k0 ki hp => ?_⟩
    exact h5 k k0 ki ⟨by omega, by rw [twice_part (by omega)]; exact (rot_fix hn (by omega)).mpr hp⟩
/-- the number of a turn -/
theorem find_turn {u v : List Nat} (hn : 0 < u.length) (e : u.length = v.length) : (Txt.find (tx (u ++ u)) (tx v) = -1 ∧ ∀ k, ¬ Trn u v k) ∨ ∃ i : Nat, Txt.find (tx (u ++ u)) (tx v) = (i : Int) ∧ Trn u v i ∧ ∀ r, IsR u r → i < r := by
  have zz : (u ++ u).length = u.length + u.length := List.length_append
  rcases find_is (u ++ u) v with ⟨h1, h2⟩ | ⟨i, h1, ⟨h3, h4⟩, h5⟩
  · refine .inl ⟨h1, fun k hk => ?_⟩
    have hm := hk.mod (per_len u)
    have hl : k % u.length < u.length := Nat.mod_lt _ hn
    exact h2 (k % u.length) ⟨by omega, by rw [← e, twice_part (by omega)]; exact (trn_iff hn (by omega) e).mpr hm⟩
  · have hi : i ≤ u.length := by omega
    rw [← e, twice_part hi] at h4
    have ht := (trn_iff hn hi e).mp h4
    refine .inr ⟨i, h1, ht, fun r hr => ?_⟩
    by_cases hc : i < r
    · exact hc
    · have := ht.sub hr.per (by omega)
      have hp := hr.pos
      exact absurd ⟨by omega, by rw [← e, twice_part (by omega)]; exact (trn_iff hn (by omega) e).mpr this⟩ (h5 (i - r) (by omega))
theorem find_nil : Txt.find (tx ([] ++ [])) (tx []) = 0 := by
  rcases find_is ([] ++ []) [] with ⟨h1, h2⟩ | ⟨i, h1, h2, h3⟩
  · exact absurd ⟨by simp, by simp⟩ (h2 0)
  · have : i = 0 := by have := h2.1; simp at this; exact this
    rw [h1, this]
    rfl
/-! ### list of a text -/
def rListS : List V → Hp → VK → Prop := fun xs H Q => ∃ l : List Nat, xs = [.str (tx l)] ∧ l.length ≤ 16777216 ∧ ∀ q, H q = none → Q (.ref q) (upd H q (.lst (sgL l)))
theorem uListS {X : Cx} (hc : X.calm = true) : CallR X (.type "list") rListS := by
  intro pins s σ H xs us Q I r h
  obtain ⟨l, rfl, hz, q⟩ := h
  obtain ⟨u, rfl, ru⟩ := vals1 r
  obtain ⟨t, rfl⟩ := ru
  refine PySem.call_list_str (I.ok.hd hc) (tx l) t (fun h' tk acc c' hk he hi => ?_) (by show l.toArray.size ≤ sizeLine; rw [sizeLine_eq]; simpa using hz)
  have hv : Vals (sgL l) acc.toList := by
    have el : acc.toList.length = l.length := by rw [Array.length_toList]; simpa using hi.1
    refine vals_of_at (by unfold sgL; rw [List.length_map, el]) fun j x u hx hu => ?_
    unfold sgL at hx
    rw [List.getElem?_map] at hx
    obtain ⟨c, t, hc', rfl⟩ := hi.2 j u (by rw [← hu, Array.getElem?_toList])
    have hc2 : l[j]? = some c := by simpa using hc'
    rw [hc2] at hx
    cases hx
    exact ⟨t, rfl⟩
  refine ⟨.ref s.heap.objs.size, upd H s.heap.objs.size (.lst (sgL l)), I.laid hk (Nat.le_refl _) (show ObjOk X.prog X.w _ _ _ (.lst (sgL l)) from ⟨?_, acc.toList, c', hv, ?_⟩), rfl, q _ (I.hok.fresh (Nat.le_refl _))⟩
  · unfold sgL
    rw [List.length_map, sizeLine_eq]
    exact hz
  · rw [Array.toArray_toList]
    exact he
theorem w_listS {l : List Nat} {H : Hp} {Q : VK} (hz : l.length ≤ 16777216) (q : ∀ a, H a = none → Q (.ref a) (upd H a (.lst (sgL l)))) : rListS [.str (tx l)] H Q := ⟨l, rfl, hz, q⟩
/-! ### pop at a place -/
theorem kPopAt {X : Cx} : MtR X "list.pop" rPopAt := mt_popAt
theorem w_pop {xs : List V} {k : Nat} {y : V} {p : Addr} {H : Hp} {Q : VK} (h : H p = some (.lst xs)) (hk : xs[k]? = some y) (hz : k < 1000000) (q : Q y (upd H p (.lst (xs.eraseIdx k)))) : rPopAt (.ref p) [.int (k : Int)] H Q := by
  refine ⟨p, xs, (k : Int), k, y, rfl, rfl, h, by omega, by omega, ?_, hk, q⟩
  have := (List.getElem?_eq_some_iff.mp hk).1
  unfold seqIndex?
  simp only [if_neg (show ¬ ((k : Int) < 0) by omega)]
  have e : (decide (0 ≤ (k : Int)) && decide ((k : Int) < (xs.length : Int))) = true := by simp; omega
  simp [this]
/-! ### isinstance of a caught error: its class stands over the other -/
section
variable {K : PySem.W.Frag} {x t : Value} {Hh : Heap → Prop}
theorem yes_ans {c : Value} (ty : ∀ (M : Model) (h : Heap), K.In h → Hh h → PySem.W.Looks M h (typeOf x) t) (e : PySem.W.kitOne K t c = some true) : PySem.Answers (fun s => K.In s.heap ∧ Hh s.heap) x c true := by
  intro dep tk prog w A R s hs
  obtain ⟨h0, g, d, tt, os⟩ := s
  obtain ⟨⟨X, p⟩, hq⟩ := hs
  have LT := ty (model prog w) h0 X p
  unfold PySem.W.kitOne at e
  unfold Builtin.«isinstance.nested»
  refine wpAny_bind (LT.at ?_)
  by_cases q : (t == c) = true
  · rw [if_pos q]
    first
      | exact wpAny_bind (wpAny_rule (hq tt))
      | exact wpAny_bind (wpAny_rule (wpAny_pure (hq tt)))
  · rw [if_neg q] at e
    rw [if_neg q]
    obtain ⟨hty, his, hsub⟩ := PySem.W.kit_cls (M := model prog w) X e
    have LI : PySem.W.Looks (model prog w) h0 (isInstance x c) true := LT.andThen hsub
    refine wpAny_bind (hty.at ?_)
    rw [if_pos (by decide)]
    k_delta "plainIsInstance"
    refine wpAny_bind (wpAny_bind (his.at ?_))
    simp only [Bool.not_true, Bool.false_eq_true, if_false]
    refine wpAny_bind (LI.at ?_)
    first
      | exact wpAny_pure (wpAny_pure (hq tt))
      | (simp only [if_true]; first | exact wpAny_pure (wpAny_pure (hq tt)) | exact wpAny_pure (hq tt) | exact wpAny_bind (wpAny_pure (wpAny_pure (hq tt))))
end
/-- isinstance(e, c), e a caught error whose class stands under c -/
def rIsE (K : PySem.W.Frag) (a : Addr) (cls : Value) : List V → Hp → VK → Prop := fun xs H Q => ∃ B : Addr, xs = [.ref a, .ref B] ∧ PySem.W.kitOne K cls (.ref B) = some true ∧ Q (.bl true) H
theorem call_isE {X : Cx} {a : Addr} {oe : Obj} {cls : Value} {d : Option Addr} {pn : List (Addr × Obj)} (hz : Zc cls d oe) : CallR (X.suite a ((a, oe) :: pn)) (.builtin "isinstance") (rIsE X.K a cls) := by
  intro pins s σ H xs us Q I r h
  obtain ⟨B, rfl, hk, q⟩ := h
  obtain ⟨u1, u2, rfl, r1, r2⟩ := vals2 r
  cases (show u1 = Value.ref a from r1)
  cases (show u2 = Value.ref B from r2)
  obtain ⟨ha, _⟩ := I.pin (a, oe) (List.mem_append_left _ List.mem_cons_self)
  have Z := yes_ans (K := X.K) (x := .ref a) (t := cls) (Hh := fun h => h.get? a = some oe) (c := .ref B) (fun M h _ he => fun A Q E s k q => wpAny_typeOf_ref (k _ _ he) (by rw [hz.1]; exact q)) hk
  exact PySem.call_isinstance (S := fun _ R s => (X.K.In s.heap ∧ s.heap.get? a = some oe) ∧ ∀ tk, R (.ok (.ret (.bool true))) { s with toks := tk })
    (fun prog w A R s hs => isinstance_outer (Z 0 _ prog w A R s hs) (fun z => nomatch z)) ⟨⟨I.kIn, ha⟩, fun tk => ⟨.bl true, H, I.tok tk, rfl, q⟩⟩
/-! ### a dict of one text and one int, and its repr -/
def oneD (l : List Nat) (i : Int) : PyData := .dict [(.str (tx l), .int i)]
def rReprO : List V → Hp → VK → Prop := fun xs H Q => ∃ (a : Addr) (l : List Nat) (i : Int), xs = [.ref a] ∧ H a = some (.dK [(.inr (tx l), .int i)]) ∧ i.natAbs.log2 < 1920 ∧ (oneD l i).shown.length ≤ 16777216 ∧ Q (.str (oneD l i).shown) H
theorem uReprO {X : Cx} {k : Nat} (hr : Room k X.A) (hg : X.A.guards = some []) : CallR X (.builtin "repr") rReprO := by
  intro pins s σ H xs us Q I r h
  obtain ⟨a, l, i, rfl, ha, hi, hz, q⟩ := h
  obtain ⟨u, rfl, ru⟩ := vals1 r
  cases (show u = Value.ref a from ru)
  have hu := hr.units
  obtain ⟨_, ns, vs, kv, o, es, ep, e1, ⟨e2, e3, _, e4, _⟩⟩ := (show ObjOk X.prog X.w H s.heap a (.dK [(.inr (tx l), .int i)]) from I.hok a _ ha)
  unfold KV at kv
  cases kv with
  | @cons pp qq ps qs hpq t =>
    cases t
    obtain ⟨h1, h2⟩ := hpq
    obtain ⟨t2, ht2⟩ := (show ∃ t, qq.2 = Value.int i t from h2)
    have e5 : PySem.Pairs (mixKind X.prog X.w) es.toList [qq] := e4
    generalize hes : es.toList = el at e5
    cases e5 with
    | @cons en kv' es' kvs' k1 k2 k3 =>
      cases k3
      have k1' : keyIs qq.1 en.key = true := k1
      rw [← h1] at k1'
      obtain ⟨t1, ht1⟩ : ∃ t, en.key = Value.str (tx l) t := by
        rcases keyIs_shape k1' with ⟨j, t, e, _⟩ | ⟨x, t, e, e'⟩
        · cases e
        · cases e; exact ⟨t, e'⟩
      have hd : Reads s.heap (.ref a) (oneD l i) (a :: ([] ++ []) ++ ([] ++ [])) := Reads.dict e1 (by first | exact e2.1 | exact e2.cls | exact e2) e3 (by rw [hes, List.map_cons, List.map_nil, ht1]; exact .cons (.str _ _) .nil) (by rw [hes, List.map_cons, List.map_nil, k2, ht2]; exact .cons (.int _ _) .nil)
      refine repr_of_reads' hd (by simp [oneD, PyData.showable, PyData.showableKv, hi]) (fun _ hm => ?_) hg (by simp [oneD, PyData.depth, PyData.depthKv]; omega) (fun _ _ e => e) (fun h' t tk kk => ⟨.str (oneD l i).shown, H, I.kept kk, ⟨_, rfl⟩, q⟩) (by rw [sizeLine_eq]; exact hz)
      simp at hm
      rw [← hm] at ns
      simp at ns
def rReprX (K : PySem.W.Frag) : List V → Hp → VK → Prop := fun xs H Q => rReprD K xs H Q ∨ rReprO xs H Q
theorem kReprX (K : PySem.W.Frag) {X : Cx} {k : Nat} (h : X.K = K) (hr : Room k X.A) (hg : X.A.guards = some []) : CallR X (.builtin "repr") (rReprX K) := (kReprD K h hr hg).or (uReprO hr hg)
/-- what may be written out, dicts of one entry too -/
def ShownX (K : PySem.W.Frag) (H : Hp) (v : V) (t : Str) : Prop := Shown K H v t ∨ ∃ (a : Addr) (l : List Nat), v = .ref a ∧ H a = some (.dK [(.inr (tx l), .int 1)]) ∧ Sgn l ∧ l.length ≤ 100 ∧ t = (oneD l 1).shown
theorem oneD_len {l : List Nat} (h : Sgn l) (z : l.length ≤ 100) : (oneD l 1).shown.length ≤ 16777216 := by
  have e1 := repr_short h
  have e2 : (PyData.shown (.int 1)).length = 1 := by decide +kernel
  unfold oneD
  simp only [PyData.shown, PyData.shownKv] at *
  unfold dictText
  simp only [strLen_append, Str.join]
  have a1 : ((("{" : String) : Str)).length = 1 := by decide +kernel
  have a2 : ((("}" : String) : Str)).length = 1 := by decide +kernel
  have a3 : (((": " : String) : Str)).length = 2 := by decide +kernel
  omega
theorem w_reprX {K : PySem.W.Frag} {H : Hp} {Q : VK} {v : V} {t : Str} (h : ShownX K H v t) (q : Q (.str t) H) : rReprX K [v] H Q := by
  rcases h with h | ⟨a, l, rfl, ha, hs, hz, rfl⟩
  · exact .inl (w_reprD h q)
  · exact .inr ⟨a, l, 1, rfl, ha, by decide, oneD_len hs hz, q⟩
theorem w_disp1 {tk tv : TE} {σ : SSt} {H : Hp} {Q : VK} (q : ∀ p, H p = none → tPairs [(tk, tv)] σ (upd H p (.dK [])) fun ps H2 => H2 p = some (.dK []) ∧ ∃ kvs : List (Key × V), ps = kvs.map (fun kv => (kV kv.1, kv.2)) ∧ kvs.length ≤ 15 ∧ Q (.ref p) (upd H2 p (.dK (mergeK [] kvs)))) : tDisp [(tk, tv)] σ H Q := q
theorem merge1 (k : Key) (v : V) : mergeK [] [(k, v)] = [(k, v)] := rfl
/-! ### bools -/
theorem w_neB {K : PySem.W.Frag} {H : Hp} {Q : VK} {a b : Bool} (q : Q (.bl (!decide (a = b))) H) : rNeU K (.bl a) (.bl b) H Q := .inl ⟨rfl, by
  have e : decide (V.bl a = V.bl b) = decide (a = b) := decide_eq_decide.mpr ⟨fun h => V.bl.inj h, fun h => by rw [h]⟩
  rw [e]; exact q⟩
/-! the class over the errors -/
theorem ErrAt.base {K : PySem.W.Frag} {mg : Str → Option Value} {x : Str} (T : ErrAt K mg x) : mg "CodecError" = some (.ref (errAt mg "CodecError")) := by
  obtain ⟨B, fI, T⟩ := T
  have e : errAt mg "CodecError" = B := by unfold errAt; rw [T.gB]
  rw [e]
  exact T.gB
def Under (K : PySem.W.Frag) (mg : Str → Option Value) (x : Str) : Prop := PySem.W.kitOne K (.ref (errAt mg x)) (.ref (errAt mg "CodecError")) = some true
theorem Under.of {K : PySem.W.Frag} {mg : Str → Option Value} {x : Str} {S R : Addr} (hx : mg x = some (.ref S)) (hy : mg "CodecError" = some (.ref R)) (h2 : PySem.W.isClsIn K R = true) (h3 : PySem.W.typeIn K (.ref R) = some (.type "type")) (h4 : PySem.W.subIn K (.ref S) (.ref R) = some true) : Under K mg x := by
  have e1 : errAt mg x = S := by unfold errAt; rw [hx]
  have e2 : errAt mg "CodecError" = R := by unfold errAt; rw [hy]
  unfold Under
  rw [e1, e2]
  unfold PySem.W.kitOne
  split
  · rfl
  · have e : ((PySem.W.clsIn K R).isSome && PySem.W.typeIn K (.ref R) == some (.type "type")) = true := by
      have h2' : (PySem.W.clsIn K R).isSome = true := h2
      rw [h2', h3] <;> rfl
    show (if ((PySem.W.clsIn K R).isSome && PySem.W.typeIn K (.ref R) == some (.type "type")) = true then PySem.W.subIn K (.ref S) (.ref R) else none) = some true
    rw [if_pos e]
    exact h4
theorem w_isE {K : PySem.W.Frag} {a C B : Addr} {H : Hp} {Q : VK} (h : PySem.W.kitOne K (.ref C) (.ref B) = some true) (q : Q (.bl true) H) : rIsE K a (.ref C) [.ref a, .ref B] H Q := ⟨B, rfl, h, q⟩
/-! ### lists of unlike lengths are not equal -/
def rEqLen : R2 := fun x y H Q => ∃ (a b : Addr) (xs ys : List V), x = .ref a ∧ y = .ref b ∧ H a = some (.lst xs) ∧ H b = some (.lst ys) ∧ xs.length ≠ ys.length ∧ Q (.bl false) H
theorem uEqLen {X : Cx} {k : Nat} (hr : Room k X.A) : OpR X (compareOp .Eq) rEqLen := by
  intro pins s σ H x y v u Q I rx ry h
  obtain ⟨a, b, xs, ys, rfl, rfl, ha, hb, hne, q⟩ := h
  cases (show v = Value.ref a from rx)
  cases (show u = Value.ref b from ry)
  obtain ⟨_, i1, m1, r1, e1⟩ := (show ObjOk X.prog X.w H s.heap a (.lst xs) from I.hok a _ ha)
  obtain ⟨_, i2, m2, r2, e2⟩ := (show ObjOk X.prog X.w H s.heap b (.lst ys) from I.hok b _ hb)
  have ta : s.TypeIs (.ref a) "list" := ⟨_, e1, rfl⟩
  have tb : s.TypeIs (.ref b) "list" := ⟨_, e2, rfl⟩
  have hz : (i1.toArray.size != i2.toArray.size) = true := by
    have l1 := r1.length
    have l2 := r2.length
    simp
    omega
  show wpAny (model X.prog X.w) X.A (richCompare .Eq (.ref a) (.ref b)) (EP X pins σ Q) X.xe s
  exact wpAny_richCompare_same_room (op := .Eq) ta tb F.slot_list_eq (call_meets F.slot_list_eq ta F.entry_list_eq (F.args_list_eq_2 _ _) (SeqAt.list_eq_lengthsAt a b i1.toArray i2.toArray m1 m2 none none #[] #[] hz)
    ⟨e1, e2, show Value.bool false ≠ Value.notImplemented ∧ _ from ⟨(fun x => nomatch x), ⟨.bl false, H, I, rfl, q⟩⟩⟩) (by have := hr.units; omega)
theorem w_eqLen {r e : Addr} {xs ys : List V} {H : Hp} {Q : VK} (h1 : H r = some (.lst xs)) (h2 : H e = some (.lst ys)) (n : xs.length ≠ ys.length) (q : Q (.bl false) H) : rEqLen (.ref r) (.ref e) H Q := ⟨r, e, xs, ys, rfl, rfl, h1, h2, n, q⟩
theorem w_eqInt1 {K : PySem.W.Frag} {H : Hp} {Q : VK} {r e : Addr} {i : Int} (h1 : H r = some (.lst [.int i])) (h2 : H e = some (.lst [.int i])) (q : Q (.bl true) H) : rEqU K (.ref r) (.ref e) H Q :=
  .inr ⟨.list [.int i], .list [.int i], .lst (SqL.of h1) (.cons (.int _) .nil), .lst (SqL.of h2) (.cons (.int _) .nil), by simp [SeqAt.shaped, PyData.canLay0, PyData.canLayAll0, PyData.depth, PyData.depthAll], by simp [SeqAt.shaped, PyData.canLay0, PyData.canLayAll0, PyData.depth, PyData.depthAll], by
    have e : PyData.eqv (.list [.int i]) (.list [.int i]) = true := by simp [PyData.eqv, PyData.eqvAll]
    rw [e]
    exact q⟩
theorem w_eqEE {K : PySem.W.Frag} {H : Hp} {Q : VK} {r e : Addr} (h1 : H r = some (.lst [])) (h2 : H e = some (.lst [])) (q : Q (.bl true) H) : rEqU K (.ref r) (.ref e) H Q :=
  .inr ⟨.list [], .list [], .lst (SqL.of h1) .nil, .lst (SqL.of h2) .nil, by decide +kernel, by decide +kernel, by
    have e : PyData.eqv (.list []) (.list []) = true := by simp [PyData.eqv, PyData.eqvAll]
    rw [e]
    exact q⟩
theorem w_last {K : PySem.W.Frag} {H : Hp} {Q : VK} {p : Addr} {x y : V} (h : SqL K H p [x, y]) (q : ∀ a, H a = none → Q (.ref a) (upd H a (.lst [y]))) : rSlU K (.ref p) (some (-1)) none H Q := .inl ⟨p, [x, y], rfl, h, q⟩
end SL
set_option Elab.async false
set_option linter.all false
set_option maxHeartbeats 1000000
/-! Rot2: texts that commute have one root. Plain Lean. -/
namespace Rt
theorem rds_add (a b : Nat) (p : List Nat) : rds (a + b) p = rds a p ++ rds b p := by
  unfold rds
  rw [← List.replicate_append_replicate, List.flatten_append]
theorem comm_iff {u v : List Nat} {r s : Nat} (hr : IsR u r) (hs : IsR v s) : u.take r = v.take s ↔ u ++ v = v ++ u := by
  have hu : 0 < u.length := Nat.lt_of_lt_of_le hr.pos hr.le
  have hv : 0 < v.length := Nat.lt_of_lt_of_le hs.pos hs.le
  constructor
  · intro h
    have e1 := hr.rounds
    have e2 := hs.rounds
    rw [← h] at e2
    rw [← e1, ← e2]
    -- rounds of one piece
    generalize u.length / r = a
    generalize v.length / s = b
    rw [← rds_add, ← rds_add, Nat.add_comm]
  · intro h
    have zl : (u ++ v).length = u.length + v.length := List.length_append
    have hz : 0 < (u ++ v).length := by omega
    have tu : (u ++ v).take u.length = u := by simp
    have tv : (u ++ v).take v.length = v := by rw [h]; simp
    have pu : Per (u ++ v) u.length := (rot_fix hz (by omega)).mp (by
      unfold rot
      have : (u ++ v).drop u.length = v := by simp
      rw [tu, this, h])
    have pv : Per (u ++ v) v.length := (rot_fix hz (by omega)).mp (by
      unfold rot
      rw [tv]
      have : (u ++ v).drop v.length = u := by rw [h]; simp
      rw [this])
    have cu : ∀ i, cy u i = cy (u ++ v) i := fun i => by
      have := take_cy hu (by omega) pu i
      rw [tu] at this
      exact this
    have cv : ∀ i, cy v i = cy (u ++ v) i := fun i => by
      have := take_cy hv (by omega) pv i
      rw [tv] at this
      exact this
    have hru : Per v r := fun i => by rw [cv, cv, ← cu, ← cu]; exact hr.per i
    have hsv : Per u s := fun i => by rw [cu, cu, ← cv, ← cv]; exact hs.per i
    have e : r = s := Nat.dvd_antisymm (hr.dvd _ hsv) (hs.dvd _ hru)
    subst e
    have h1 : u.take r = (u ++ v).take r := by rw [List.take_append_of_le_length hr.le]
    have h2 : v.take r = (u ++ v).take r := by rw [h, List.take_append_of_le_length hs.le]
    rw [h1, h2]
end Rt
set_option Elab.async false
set_option linter.all false
set_option maxHeartbeats 1000000
/-! Stay: lags that stay. Plain Lean. -/
namespace Rt
open Wd
theorem ext_getD {a b : List Nat} (h : a.length = b.length) (e : ∀ i, i < a.length → a.getD i 0 = b.getD i 0) : a = b := by
  apply List.ext_getElem h
  intro i h1 h2
  have := e i h1
  simpa [List.getD_eq_getElem?_getD, h1, h2] using this
theorem getD_app (a b : List Nat) (i : Nat) : (a ++ b).getD i 0 = if i < a.length then a.getD i 0 else b.getD (i - a.length) 0 := by
  rw [List.getD_eq_getElem?_getD, List.getElem?_append]
  split
  · rw [← List.getD_eq_getElem?_getD]
  · rw [← List.getD_eq_getElem?_getD]
/-- the first k letters of w written again and again -/
def pre (w : List Nat) (k : Nat) : List Nat := (List.replicate (k / w.length + 1) w).flatten.take k
theorem pre_len {w : List Nat} (hn : 0 < w.length) (k : Nat) : (pre w k).length = k := by
  unfold pre
  rw [List.length_take]
  have h := rds_len (k / w.length + 1) w
  unfold rds at h
  rw [h]
  have := Nat.lt_div_mul_add hn (a := k)
  rw [Nat.succ_mul]
  omega
theorem pre_at {w : List Nat} (hn : 0 < w.length) {k i : Nat} (hi : i < k) : (pre w k).getD i 0 = cy w i := by
  unfold pre
  rw [List.getD_eq_getElem?_getD, List.getElem?_take, if_pos hi, ← List.getD_eq_getElem?_getD]
  have := Nat.lt_div_mul_add hn (a := k)
  have h2 : i < (k / w.length + 1) * w.length := by rw [Nat.succ_mul]; omega
  exact rds_at w (k / w.length + 1) i h2
theorem app_pre {w : List Nat} (hn : 0 < w.length) (k : Nat) : w ++ pre w k = pre w (w.length + k) := by
  refine ext_getD (by rw [List.length_append, pre_len hn, pre_len hn]) fun i hi => ?_
  rw [List.length_append, pre_len hn] at hi
  rw [getD_app, pre_at hn hi]
  split
  · rename_i h
    exact (cy_lt h).symm
  · rename_i h
    rw [pre_at hn (by omega)]
    have := cy_len w (i - w.length)
    rw [show i - w.length + w.length = i by omega] at this
    exact this.symm
theorem pre_app {u v : List Nat} (hn : 0 < v.length) (e : u.length = v.length) (k : Nat) : pre v k ++ u = pre v (v.length + k) ↔ Trn v u k := by
  constructor
  · intro h i
    have h1 : cy u i = cy u (i % v.length) := by unfold cy; rw [e, Nat.mod_mod]
    have h2 : cy v (i + k) = cy v (i % v.length + k) := by unfold cy; rw [Nat.mod_add_mod]
    have hl : i % v.length < v.length := Nat.mod_lt _ hn
    rw [h1, h2]
    generalize i % v.length = j at hl
    have := congrArg (fun l => l.getD (k + j) 0) h
    simp only [getD_app, pre_len hn] at this
    rw [if_neg (by omega), pre_at hn (by omega), Nat.add_sub_cancel_left] at this
    rw [show cy u j = u.getD j 0 from cy_lt (by omega), this, Nat.add_comm]
  · intro h
    refine ext_getD (by rw [List.length_append, pre_len hn, pre_len hn]; omega) fun i hi => ?_
    rw [List.length_append, pre_len hn] at hi
    have hr : (pre v (v.length + k)).getD i 0 = cy v i := pre_at hn (by omega)
    rw [getD_app, pre_len hn, hr]
    split
    · rename_i h2
      rw [pre_at hn h2]
    · rename_i h2
      have := h (i - k)
      rw [show i - k + k = i by omega] at this
      rw [this, cy_lt (by omega)]
/-- the lag of a number -/
def numbered (u v : List Nat) (n : Int) : List Nat × List Nat := if 0 < n then (pre v n.natAbs, []) else ([], pre u n.natAbs)
/-- the lag of this number stays -/
def Sty (u v : List Nat) (n : Int) : Prop := (numbered u v n).1 ++ u ++ (numbered u v n).2 = (numbered u v n).2 ++ v ++ (numbered u v n).1
instance (u v : List Nat) (n : Int) : Decidable (Sty u v n) := inferInstanceAs (Decidable (_ = _))
theorem sty_pos {u v : List Nat} {n : Int} (hn : 0 < v.length) (e : u.length = v.length) (h : 0 < n) : Sty u v n ↔ Trn v u n.natAbs := by
  unfold Sty numbered
  rw [if_pos h]
  simp only [List.append_nil, List.nil_append]
  rw [app_pre hn]
  exact pre_app hn e _
theorem sty_neg {u v : List Nat} {n : Int} (hn : 0 < v.length) (e : u.length = v.length) (h : ¬ 0 < n) : Sty u v n ↔ Trn u v n.natAbs := by
  unfold Sty numbered
  rw [if_neg h]
  simp only [List.append_nil, List.nil_append]
  rw [app_pre (by omega), eq_comm]
  exact pre_app (by omega) e.symm _
theorem trn_rev {u v : List Nat} (hn : 0 < v.length) (e : u.length = v.length) (m : Nat) : Trn u v m ↔ Trn v u (v.length * m - m) := by
  have hm : m ≤ v.length * m := Nat.le_mul_of_pos_left m hn
  constructor
  · intro h i
    rw [← h, show i + (v.length * m - m) + m = i + v.length * m by omega, ← e, cy_add]
  · intro h i
    rw [← h, show i + m + (v.length * m - m) = i + v.length * m by omega, cy_add]
/-- the number as a natural one, alike for the turns -/
def nk (v : List Nat) (n : Int) : Nat := if 0 < n then n.natAbs else v.length * n.natAbs - n.natAbs
theorem sty_nk {u v : List Nat} {n : Int} (hn : 0 < v.length) (e : u.length = v.length) : Sty u v n ↔ Trn v u (nk v n) := by
  unfold nk
  by_cases h : 0 < n
  · rw [if_pos h]; exact sty_pos hn e h
  · rw [if_neg h, sty_neg hn e h]; exact trn_rev hn e _
theorem nk_mod {v : List Nat} {r : Nat} (hR : IsR v r) (n : Int) : ((nk v n : Nat) : Int) % (r : Int) = n % (r : Int) := by
  unfold nk
  by_cases h : 0 < n
  · rw [if_pos h]
    congr 1
    omega
  · rw [if_neg h]
    obtain ⟨t, ht⟩ := hR.dvd _ (per_len v)
    have hp := hR.pos
    have hn : 0 < v.length := Nat.lt_of_lt_of_le hR.pos hR.le
    have hm : n.natAbs ≤ v.length * n.natAbs := Nat.le_mul_of_pos_left _ hn
    have e1 : ((v.length * n.natAbs - n.natAbs : Nat) : Int) = n + (r : Int) * ((t : Int) * (n.natAbs : Int)) := by
      rw [Int.ofNat_sub hm, ht, Int.natCast_mul, Int.natCast_mul, Int.mul_assoc]
      omega
    rw [e1, Int.add_mul_emod_self_left]
theorem sty_mod {u v : List Nat} {r j : Nat} (e : u.length = v.length) (hR : IsR v r) (hj : Trn v u j) (jr : j < r) (n : Int) : Sty u v n ↔ n % (r : Int) = (j : Int) := by
  have hn : 0 < v.length := Nat.lt_of_lt_of_le hR.pos hR.le
  rw [sty_nk hn e, ← nk_mod hR n]
  have key : Trn v u (nk v n) ↔ nk v n % r = j := by
    constructor
    · intro h
      exact trn_same hR (h.mod hR.per) hj (Nat.mod_lt _ hR.pos) jr
    · intro h
      have := hj.add (hR.per.mul (nk v n / r))
      rw [← h, Nat.mod_add_div] at this
      exact this
  rw [key]
  rw [← Int.natCast_emod]
  omega
theorem sty_none {u v : List Nat} (hn : 0 < v.length) (e : u.length = v.length) (h : ∀ k, ¬ Trn v u k) (n : Int) : ¬ Sty u v n := fun z => h _ ((sty_nk hn e).mp z)
/-- numbers of one rest -/
theorem filter_mod {r f : Nat} (hr : 0 < r) (hf : f < r) : ∀ N, (List.range N).filter (fun i => decide (i % r = f)) = (List.range ((N - f + r - 1) / r)).map fun t => f + r * t
  | 0 => by
    have : (0 - f + r - 1) / r = 0 := Nat.div_eq_of_lt (by omega)
    rw [this]
    rfl
  | N + 1 => by
    rw [List.range_succ, List.filter_append, filter_mod hr hf N]
    by_cases h : N % r = f
    · have e0 := Nat.mod_add_div N r
      have c1 : (N - f + r - 1) / r = N / r := by
        rw [show N - f + r - 1 = r - 1 + r * (N / r) by omega, Nat.add_mul_div_left _ _ hr, Nat.div_eq_of_lt (by omega), Nat.zero_add]
      have c2 : (N + 1 - f + r - 1) / r = N / r + 1 := by
        rw [show N + 1 - f + r - 1 = r * (N / r) + r by omega, Nat.add_div_right _ hr, Nat.mul_div_cancel_left _ hr]
      rw [c1, c2, List.range_succ, List.map_append]
      simp [h]
      omega
    · have c : (N + 1 - f + r - 1) / r = (N - f + r - 1) / r := by
        by_cases hl : N < f
        · rw [Nat.div_eq_of_lt (by omega), Nat.div_eq_of_lt (by omega)]
        · have e0 := Nat.mod_add_div (N - f) r
          have hs : (N - f) % r < r := Nat.mod_lt _ hr
          have hs0 : (N - f) % r ≠ 0 := fun z => by
            apply h
            have : N = f + r * ((N - f) / r) := by omega
            rw [this, Nat.add_mul_mod_self_left, Nat.mod_eq_of_lt hf]
          generalize (N - f) % r = s at *
          generalize (N - f) / r = q at *
          rw [show N + 1 - f + r - 1 = s + r + r * q by omega, show N - f + r - 1 = s + r - 1 + r * q by omega, Nat.add_mul_div_left _ _ hr, Nat.add_mul_div_left _ _ hr]
          rw [Nat.add_div_right _ hr, Nat.div_eq_of_lt hs, show s + r - 1 = s - 1 + r by omega, Nat.add_div_right _ hr, Nat.div_eq_of_lt (by omega)]
      rw [c]
      simp [h]
/-- the lags that stay, by their numbers -/
def stay (u v : List Nat) (h : Nat) : List (List Nat × List Nat) := if u.length = v.length then ((List.range (2 * h + 1)).filter fun (i : Nat) => decide (Sty u v ((i : Int) - (h : Int)))).map fun (i : Nat) => numbered u v ((i : Int) - (h : Int)) else []
theorem stay_none {u v : List Nat} (hn : 0 < v.length) (k : ∀ k, ¬ (u.length = v.length ∧ Trn v u k)) (h : Nat) : stay u v h = [] := by
  unfold stay
  split
  · rename_i e
    have : (List.range (2 * h + 1)).filter (fun (i : Nat) => decide (Sty u v ((i : Int) - (h : Int)))) = [] := by
      rw [List.filter_eq_nil_iff]
      intro i _ hp
      exact sty_none hn e (fun m hm => k m ⟨e, hm⟩) _ (of_decide_eq_true hp)
    rw [this]
    rfl
  · rfl
theorem stay_some {u v : List Nat} {r j : Nat} (e : u.length = v.length) (hR : IsR v r) (hj : Trn v u j) (jr : j < r) (h : Nat) : stay u v h = (List.range ((2 * h + 1 - (j + h) % r + r - 1) / r)).map fun (t : Nat) => numbered u v (((j + h) % r : Nat) + (t : Int) * (r : Int) - (h : Int)) := by
  unfold stay
  rw [if_pos e]
  have e1 : (List.range (2 * h + 1)).filter (fun (i : Nat) => decide (Sty u v ((i : Int) - (h : Int)))) = (List.range (2 * h + 1)).filter (fun (i : Nat) => decide (i % r = (j + h) % r)) := by
    apply List.filter_congr
    intro i _
    apply decide_eq_decide.mpr
    rw [sty_mod e hR hj jr]
    have hp := hR.pos
    have a1 : ((i : Int) - (h : Int)) % (r : Int) = (j : Int) ↔ ((i : Int) - (h : Int)) % (r : Int) = (j : Int) % (r : Int) := by
      rw [show (j : Int) % (r : Int) = (j : Int) from Int.emod_eq_of_lt (by omega) (by omega)]
    rw [a1, Int.emod_eq_emod_iff_emod_sub_eq_zero]
    have a2 : i % r = (j + h) % r ↔ ((i : Nat) : Int) % (r : Int) = ((j + h : Nat) : Int) % (r : Int) := by
      rw [← Int.natCast_emod, ← Int.natCast_emod]
      omega
    rw [a2, Int.emod_eq_emod_iff_emod_sub_eq_zero]
    rw [show (i : Int) - ((j + h : Nat) : Int) = (i : Int) - (h : Int) - (j : Int) by omega]
  rw [e1, filter_mod hR.pos (Nat.mod_lt _ hR.pos), List.map_map]
  apply List.map_congr_left
  intro t _
  show numbered u v _ = numbered u v _
  congr 1
  rw [Int.natCast_add, Int.natCast_mul, Int.mul_comm]
end Rt
set_option Elab.async false
set_option linter.all false
set_option maxHeartbeats 1000000
/-! Stay2: more of the lags that stay. Plain Lean. -/
namespace Rt
open Wd
theorem isR_turn {u v : List Nat} {j r : Nat} (e : u.length = v.length) (hj : Trn v u j) : IsR u r ↔ IsR v r := by
  have back : ∀ s, Per u s → Per v s := fun s hs i => by
    by_cases hn : 0 < v.length
    · have hm : j ≤ v.length * j := Nat.le_mul_of_pos_left j hn
      rw [← cy_add v (i + s) j, ← cy_add v i j]
      have a1 := hj (i + s + (v.length * j - j))
      have a2 := hj (i + (v.length * j - j))
      rw [show i + s + (v.length * j - j) + j = i + s + v.length * j by omega] at a1
      rw [show i + (v.length * j - j) + j = i + v.length * j by omega] at a2
      rw [a1, a2]
      have := hs (i + (v.length * j - j))
      rw [show i + (v.length * j - j) + s = i + s + (v.length * j - j) by omega] at this
      exact this
    · have : v = [] := List.length_eq_zero_iff.mp (by omega)
      subst this
      unfold cy
      simp
  have fwd : ∀ s, Per v s → Per u s := fun s hs i => by
    rw [← hj, ← hj, show i + s + j = i + j + s by omega, hs]
  constructor
  · intro h
    exact ⟨h.pos, by have := h.le; omega, back _ h.per, fun k hk => h.dvd k (fwd k hk)⟩
  · intro h
    exact ⟨h.pos, by have := h.le; omega, fwd _ h.per, fun k hk => h.dvd k (back k hk)⟩
theorem bh_nil (p : List Nat) : bh [] p = some ([], p) := by
  unfold bh
  by_cases h : p = []
  · subst h; simp
  · rw [if_neg (by simpa using Ne.symm h), if_pos (by simp)]
    simp
/-- behind rounds of both the lag is the same -/
theorem stay_lag {u v : List Nat} {n : Int} (h : Sty u v n) (q : Nat) : bh ((numbered u v n).1 ++ rds q u) ((numbered u v n).2 ++ rds q v) = some (numbered u v n) := by
  unfold Sty at h
  unfold numbered at *
  by_cases hp : 0 < n
  · rw [if_pos hp] at h ⊢
    simp only [List.append_nil, List.nil_append] at h ⊢
    have e : ∀ q, pre v n.natAbs ++ rds q u = rds q v ++ pre v n.natAbs := fun q => by
      induction q with
      | zero => simp [rds]
      | succ q ih =>
        rw [rds_succ, rds_succ, ← List.append_assoc, h, List.append_assoc, ih, List.append_assoc]
    rw [e]
    have := bh_app (rds q v) (pre v n.natAbs) []
    rw [List.append_nil] at this
    rw [this]
    unfold bh
    simp
  · rw [if_neg hp] at h ⊢
    simp only [List.append_nil, List.nil_append] at h ⊢
    have e : ∀ q, rds q u ++ pre u n.natAbs = pre u n.natAbs ++ rds q v := fun q => by
      induction q with
      | zero => simp [rds]
      | succ q ih =>
        rw [rds_succ, rds_succ, List.append_assoc, ih, ← List.append_assoc, h, List.append_assoc]
    rw [← e]
    have := bh_app (rds q u) [] (pre u n.natAbs)
    rw [List.append_nil] at this
    rw [this, bh_nil]
theorem stay_mem {u v : List Nat} {h : Nat} {p : List Nat × List Nat} (hp : p ∈ stay u v h) : u.length = v.length ∧ ∃ n : Int, n.natAbs ≤ h ∧ Sty u v n ∧ p = numbered u v n := by
  unfold stay at hp
  split at hp
  · rename_i e
    obtain ⟨i, hi, rfl⟩ := List.mem_map.mp hp
    obtain ⟨h1, h2⟩ := List.mem_filter.mp hi
    have := List.mem_range.mp h1
    exact ⟨e, _, by omega, of_decide_eq_true h2, rfl⟩
  · cases hp
theorem numbered_num {u v : List Nat} (hu : 0 < u.length) (hv : 0 < v.length) (n : Int) : ((numbered u v n).1.length : Int) - ((numbered u v n).2.length : Int) = n := by
  unfold numbered
  by_cases h : 0 < n
  · rw [if_pos h]
    simp only [pre_len hv, List.length_nil]
    omega
  · rw [if_neg h]
    simp only [pre_len hu, List.length_nil]
    omega
theorem numbered_len {u v : List Nat} (hu : 0 < u.length) (hv : 0 < v.length) (n : Int) : (numbered u v n).1.length ≤ n.natAbs ∧ (numbered u v n).2.length ≤ n.natAbs := by
  unfold numbered
  by_cases h : 0 < n
  · rw [if_pos h]; simp only [pre_len hv, List.length_nil]; omega
  · rw [if_neg h]; simp only [pre_len hu, List.length_nil]; omega
theorem numbered_one {u v : List Nat} (n : Int) : (numbered u v n).1 = [] ∨ (numbered u v n).2 = [] := by
  unfold numbered
  by_cases h : 0 < n
  · rw [if_pos h]; exact .inr rfl
  · rw [if_neg h]; exact .inl rfl
theorem pre_mem {w : List Nat} {k c : Nat} (h : c ∈ pre w k) : c ∈ w := by
  unfold pre at h
  have := List.mem_of_mem_take h
  obtain ⟨l, h1, h2⟩ := List.mem_flatten.mp this
  rw [(List.mem_replicate.mp h1).2] at h2
  exact h2
theorem numbered_mem {u v : List Nat} {n : Int} {c : Nat} (h : c ∈ (numbered u v n).1 ∨ c ∈ (numbered u v n).2) : c ∈ u ∨ c ∈ v := by
  unfold numbered at h
  by_cases hn : 0 < n
  · rw [if_pos hn] at h
    rcases h with h | h
    · exact .inr (pre_mem h)
    · cases h
  · rw [if_neg hn] at h
    rcases h with h | h
    · cases h
    · exact .inl (pre_mem h)
end Rt
set_option Elab.async false
set_option linter.all false
set_option maxRecDepth 100000
set_option maxHeartbeats 4000000
/-! SlW: ranges with a step, lists of pairs of texts, list * int. -/
namespace SL
open PySem PySem.Spec PyProof.Rows L2 Rt
theorem rgc_up {a b c : Int} {n : Nat} (hc : 0 < c) (hc2 : c < 1000000) (ha : -1000000 ≤ a ∧ a ≤ 1000000) (hb : -1000000 ≤ b ∧ b ≤ 1000000) (hn : n ≤ 1000000) (e : (if a < b then (b - a - 1) / c + 1 else 0) = (n : Int)) : RgC a b c n := by
  have hs : Builtin.Range.rangeSize a b c = (n : Int) := by
    unfold Builtin.Range.rangeSize
    rw [if_pos (show c > 0 from hc)]
    exact e
  refine ⟨by omega, by omega, ?_, hs⟩
  unfold Builtin.Range.small
  rw [hs]
  simp only [Builtin.Range.rangeFitsLong, Bool.and_eq_true, Bool.or_eq_true, decide_eq_true_eq, beq_iff_eq, if_pos (show c > 0 from hc)]
  omega
theorem w_ir3 {t : TA} {σ : SSt} {H : Hp} {R : It → Hp → Prop} (q : t σ H fun vs H1 => ∃ (i j c : Int) (n : Nat), vs = [.int i, .int j, .int c] ∧ RgC i j c n ∧ R (Itc i c n) H1) : iRng3 t σ H R := q
/-! lists of pairs -/
def pairD (p : List Nat × List Nat) : PyData := .tuple [.str (tx p.1), .str (tx p.2)]
theorem dvall_snoc {H : Hp} : ∀ {vs : List V} {ds : List PyData} {v : V} {d : PyData}, DvAll H vs ds → Dv H v d → DvAll H (vs ++ [v]) (ds ++ [d])
  | [], [], _, _, .nil, h => .cons h .nil
  | _ :: _, _ :: _, _, _, .cons a r, h => .cons a (dvall_snoc r h)
theorem dvall_get {H : Hp} : ∀ {vs : List V} {ds : List PyData} {i : Nat} {v : V}, DvAll H vs ds → vs[i]? = some v → ∃ d, ds[i]? = some d ∧ Dv H v d
  | _ :: _, _ :: _, 0, _, .cons h _, e => ⟨_, rfl, by rw [← Option.some.inj e]; exact h⟩
  | _ :: _, _ :: _, i + 1, _, .cons _ r, e => dvall_get (i := i) r e
theorem dvall_take {H : Hp} : ∀ {vs : List V} {ds : List PyData} (i : Nat), DvAll H vs ds → DvAll H (vs.take i) (ds.take i)
  | _, _, 0, _ => .nil
  | [], [], _ + 1, .nil => .nil
  | _ :: _, _ :: _, i + 1, .cons h r => .cons h (dvall_take i r)
theorem dvall_drop {H : Hp} : ∀ {vs : List V} {ds : List PyData} (i : Nat), DvAll H vs ds → DvAll H (vs.drop i) (ds.drop i)
  | _, _, 0, h => h
  | [], [], _ + 1, .nil => .nil
  | _ :: _, _ :: _, i + 1, .cons _ r => dvall_drop i r
theorem dvall_app {H : Hp} : ∀ {vs ws : List V} {ds es : List PyData}, DvAll H vs ds → DvAll H ws es → DvAll H (vs ++ ws) (ds ++ es)
  | [], _, [], _, .nil, h => h
  | _ :: _, _, _ :: _, _, .cons a r, h => .cons a (dvall_app r h)
theorem pair_get {H : Hp} {v : V} {p : List Nat × List Nat} (h : Dv H v (pairD p)) : ∃ a, v = .ref a ∧ H a = some (.tup [.str (tx p.1), .str (tx p.2)]) := by
  unfold pairD at h
  cases h with
  | @tup a xs ds h1 h2 =>
    cases h2 with
    | cons a1 r =>
      cases r with
      | cons a2 r =>
        cases r
        cases a1
        cases a2
        exact ⟨_, rfl, h1⟩
/-- short pairs of signs -/
def SgnP (n : Nat) (ls : List (List Nat × List Nat)) : Prop := ∀ p ∈ ls, Sgn p.1 ∧ Sgn p.2 ∧ p.1.length ≤ n ∧ p.2.length ≤ n
theorem pairs_show : ∀ ls : List (List Nat × List Nat), PyData.showableAll (ls.map pairD) = true
  | [] => rfl
  | p :: r => by
    have := pairs_show r
    simp [PyData.showableAll, PyData.showable, pairD, this]
theorem pairs_nodict : ∀ ls : List (List Nat × List Nat), PyData.hasDictAll (ls.map pairD) = false
  | [] => rfl
  | p :: r => by
    have := pairs_nodict r
    simp [PyData.hasDictAll, PyData.hasDict, pairD, this]
theorem pairs_deep : ∀ ls : List (List Nat × List Nat), PyData.depthAll (ls.map pairD) ≤ 1
  | [] => by simp [PyData.depthAll]
  | p :: r => by
    have := pairs_deep r
    simp [PyData.depthAll, PyData.depth, pairD]
    omega
theorem pairs_lay {n : Nat} : ∀ ls : List (List Nat × List Nat), SgnP n ls → PyData.canLayAll0 (ls.map pairD) = true
  | [], _ => rfl
  | p :: r, h => by
    have := pairs_lay r fun q hq => h q (List.mem_cons_of_mem _ hq)
    obtain ⟨h1, h2, _⟩ := h p List.mem_cons_self
    simp [PyData.canLayAll0, PyData.canLay0, pairD, this, h1.ok, h2.ok]
theorem pairs_len {n : Nat} : ∀ ls : List (List Nat × List Nat), SgnP n ls → ((PyData.shownAll (ls.map pairD)).map (·.length)).sum ≤ ls.length * (20 * n + 20) ∧ (PyData.shownAll (ls.map pairD)).length = ls.length
  | [], _ => by simp [PyData.shownAll]
  | p :: r, h => by
    obtain ⟨i1, i2⟩ := pairs_len r fun q hq => h q (List.mem_cons_of_mem _ hq)
    obtain ⟨h1, h2, h3, h4⟩ := h p List.mem_cons_self
    have e1 := repr_short h1
    have e2 := repr_short h2
    have e3 : (PyData.shown (pairD p)).length ≤ 20 * n + 20 := by
      unfold pairD
      refine Nat.le_trans (tupleText_len_le _) ?_
      simp only [PyData.shownAll, List.map_cons, List.map_nil, List.sum_cons, List.sum_nil, List.length_cons, List.length_nil]
      omega
    simp only [List.map_cons, PyData.shownAll, List.sum_cons, List.length_cons]
    rw [Nat.succ_mul]
    exact ⟨by omega, by omega⟩
theorem sm_pairs {n m : Nat} {ls : List (List Nat × List Nat)} (h : SgnP n ls) (z : ls.length * (20 * n + 22) + 3 ≤ m) : Sm m 2 (.list (ls.map pairD)) := by
  refine ⟨by simp only [PyData.showable]; exact pairs_show ls, by simp only [PyData.hasDict]; exact pairs_nodict ls, by simp only [PyData.canLay0]; exact pairs_lay ls h, ?_, ?_⟩
  · have := pairs_deep ls
    simp only [PyData.depth]
    omega
  · obtain ⟨i1, i2⟩ := pairs_len ls h
    refine Nat.le_trans (listText_len_le _) ?_
    rw [i2]
    have : ls.length * (20 * n + 22) = ls.length * (20 * n + 20) + 2 * ls.length := by rw [show 20 * n + 22 = (20 * n + 20) + 2 by omega, Nat.mul_add]; omega
    omega
theorem sm_pair {p : List Nat × List Nat} {n : Nat} (h1 : Sgn p.1) (h2 : Sgn p.2) (z1 : p.1.length ≤ n) (z2 : p.2.length ≤ n) : Sm (20 * n + 20) 1 (pairD p) := by
  have a := sm_str (n := 10 * n + 2) h1 (by omega)
  have b := sm_str (n := 10 * n + 2) h2 (by omega)
  exact (sm_tup2 a b).le (by omega) (by omega)
theorem eqv_pair (p : List Nat × List Nat) : PyData.eqv (pairD p) (pairD p) = true := by simp [pairD, PyData.eqv, PyData.eqvAll]
theorem eqv_pairs : ∀ ls : List (List Nat × List Nat), PyData.eqvAll (ls.map pairD) (ls.map pairD) = true
  | [] => by simp [PyData.eqvAll]
  | p :: r => by
    rw [List.map_cons, PyData.eqvAll, eqv_pair, eqv_pairs r]
    rfl
theorem shaped_pairs {n : Nat} {ls : List (List Nat × List Nat)} (h : SgnP n ls) : SeqAt.shaped (.list (ls.map pairD)) = true := by
  unfold SeqAt.shaped
  have := pairs_deep ls
  simp only [PyData.canLay0, PyData.depth, pairs_lay ls h, Bool.true_and]
  exact decide_eq_true (by omega)
theorem dp_pairs {K : PySem.W.Frag} {H : Hp} {r : Addr} {vs : List V} {ls : List (List Nat × List Nat)} (h1 : H r = some (.lst vs)) (h2 : DvAll H vs (ls.map pairD)) : Dp K H (.ref r) (.list (ls.map pairD)) :=
  .lst (SqL.of h1) (DvAll.dp _ _ h2 (pairs_nodict ls))
/-- two lists of the same pairs -/
theorem w_eqPairs {K : PySem.W.Frag} {H : Hp} {Q : VK} {r e : Addr} {vs ws : List V} {ls : List (List Nat × List Nat)} {n : Nat} (h1 : H r = some (.lst vs)) (h2 : DvAll H vs (ls.map pairD)) (h3 : H e = some (.lst ws)) (h4 : DvAll H ws (ls.map pairD)) (s : SgnP n ls) (q : Q (.bl true) H) :
    rEqU K (.ref r) (.ref e) H Q :=
  .inr ⟨_, _, dp_pairs h1 h2, dp_pairs h3 h4, shaped_pairs s, shaped_pairs s, by
    have e : PyData.eqv (.list (ls.map pairD)) (.list (ls.map pairD)) = true := by rw [PyData.eqv]; exact eqv_pairs ls
    rw [e]
    exact q⟩
/-- a list of pairs beside [] -/
theorem w_nePairs {K : PySem.W.Frag} {H : Hp} {Q : VK} {r e : Addr} {vs : List V} {ls : List (List Nat × List Nat)} {n : Nat} (h1 : H r = some (.lst vs)) (h2 : DvAll H vs (ls.map pairD)) (h3 : H e = some (.lst [])) (s : SgnP n ls) (q : Q (.bl (!decide (ls = []))) H) : rNeU K (.ref r) (.ref e) H Q :=
  .inr ⟨_, .list [], dp_pairs h1 h2, .lst (SqL.of h3) .nil, shaped_pairs s, by decide +kernel, by
    have e : PyData.eqv (.list (ls.map pairD)) (.list []) = decide (ls = []) := by
      cases ls with
      | nil => simp [PyData.eqv, PyData.eqvAll]
      | cons p r => simp [PyData.eqv, PyData.eqvAll]
    rw [e]
    exact q⟩
/-- one pair beside the same -/
theorem w_nePair {K : PySem.W.Frag} {H : Hp} {Q : VK} {v w : V} {p : List Nat × List Nat} (h1 : Dv H v (pairD p)) (h2 : Dv H w (pairD p)) (s1 : Sgn p.1) (s2 : Sgn p.2) (q : Q (.bl false) H) : rNeU K v w H Q := by
  have nd : (pairD p).hasDict = false := by simp [pairD, PyData.hasDict, PyData.hasDictAll]
  have sh : SeqAt.shaped (pairD p) = true := shaped_pair s1 s2
  refine .inr ⟨_, _, Dv.dp _ _ h1 nd, Dv.dp _ _ h2 nd, sh, sh, ?_⟩
  rw [eqv_pair]
  exact q
/-! list * int -/
def rMulV : R2 := fun x y H Q => rMulU x y H Q ∨ rRep x y H Q
theorem uMulV {X : Cx} : OpR X (binaryOp .Mult) rMulV := uMul.or op_rep
theorem w_rep {xs : List V} {k : Int} {n : Nat} {p : Addr} {H : Hp} {Q : VK} (e : k = (n : Int)) (h : H p = some (.lst xs)) (hz : n ≤ 1000000 ∧ xs.length * n ≤ 16777216) (q : ∀ a, H a = none → Q (.ref a) (upd H a (.lst (List.replicate n xs).flatten))) : rMulV (.ref p) (.int k) H Q := by
  subst e
  refine .inr ⟨p, (n : Int), xs, rfl, rfl, h, by omega, by omega, by rw [Int.toNat_natCast, sizeLine_eq]; exact hz.2, ?_⟩
  rw [Int.toNat_natCast]
  exact q
theorem kBm0 (K : PySem.W.Frag) {X : Cx} (h : X.K = K) {o : Expr} {to : TE} {name : Str} {apos cpos : Pos} {T id : String} {r : V → List V → Hp → VK → Prop} (pa : PlainAttrs T) (slot : Slot T name id) (hty : typeOf (Value.builtin id) = pure (Value.type "method_descriptor")) (hm : MtR X id r) (ho : PE X o to)
    (hbase : attributeBase o name X.env (eval o X.env) = eval o X.env := by rfl) (hline : (apos.endLine == cpos.line) = true := by rfl) : PE X (.Call (.Attribute o name apos) [] [] cpos) (tBM0 K T r to) := h ▸ pe_bm0 pa slot hty hm ho hbase hline
theorem w_reverse {xs : List V} {p : Addr} {H : Hp} {Q : VK} (h : H p = some (.lst xs)) (q : Q .non (upd H p (.lst xs.reverse))) : rReverse (.ref p) [] H Q := ⟨p, xs, rfl, rfl, h, q⟩
theorem w_maxL {K : PySem.W.Frag} {p : Addr} {H : Hp} {Q : VK} {ns : List Int} (h : SqL K H p (ns.map V.int)) (hz : 0 < ns.length) (q : ∀ m, m ∈ ns → (∀ y, y ∈ ns → y ≤ m) → Q (.int m) H) : rMax K [.ref p] H Q := ⟨p, ns, rfl, h, hz, q⟩
/-- a part of a list, whichever -/
theorem w_sLany {K : PySem.W.Frag} {H : Hp} {Q : VK} {p : Addr} {xs : List V} {lo hi : Option Int} (h : SqL K H p xs) (q : ∀ a b r, H r = none → Q (.ref r) (upd H r (.lst ((xs.drop a).take b)))) : rSlU K (.ref p) lo hi H Q := .inl ⟨p, xs, rfl, h, fun r hr => q _ _ r hr⟩
theorem natL_ints (ks : List Nat) : natL ks = (ks.map fun k : Nat => (k : Int)).map V.int := by
  unfold natL
  rw [List.map_map]
  rfl
theorem eqv_nats : ∀ ks : List Nat, PyData.eqvAll (ks.map fun k : Nat => PyData.int (k : Int)) (ks.map fun k : Nat => PyData.int (k : Int)) = true
  | [] => by simp [PyData.eqvAll]
  | k :: r => by
    rw [List.map_cons, PyData.eqvAll, eqv_nats r]
    simp [PyData.eqv]
theorem w_eqNats {K : PySem.W.Frag} {H : Hp} {Q : VK} {r e : Addr} {ks : List Nat} (h1 : H r = some (.lst (natL ks))) (h2 : H e = some (.lst (natL ks))) (q : Q (.bl true) H) : rEqU K (.ref r) (.ref e) H Q := by
  have sh : SeqAt.shaped (.list (ks.map fun k : Nat => PyData.int (k : Int))) = true := by simp [SeqAt.shaped, PyData.canLay0, PyData.depth, lay_nats, deep_nats]
  refine .inr ⟨.list (ks.map fun k : Nat => PyData.int (k : Int)), .list (ks.map fun k : Nat => PyData.int (k : Int)), .lst (SqL.of h1) (dp_nats ks), .lst (SqL.of h2) (dp_nats ks), sh, sh, ?_⟩
  have e : PyData.eqv (.list (ks.map fun k : Nat => PyData.int (k : Int))) (.list (ks.map fun k : Nat => PyData.int (k : Int))) = true := by rw [PyData.eqv]; exact eqv_nats ks
  rw [e]
  exact q
end SL
set_option Elab.async false
set_option linter.all false
set_option maxRecDepth 100000
set_option maxHeartbeats 4000000
namespace K12
open PySem PySem.Spec PyProof.Rows L2 SL

def top (i : Nat) : Stmt := PySem.Challenge.pw_spoiltline_k12_lags_that_stay.main.body.getD i (.Pass ⟨0, 0, 0, 0⟩)
abbrev s_InvalidCount___init__ : Stmt := inClass (top 2) 0
abbrev N_InvalidCount___init__ : List Str := ["self", "given"]
theorem sc_InvalidCount___init__ : FnScope N_InvalidCount___init__ ["self", "given"] (defScope s_InvalidCount___init__) := ⟨rfl, rfl, rfl, by decide +kernel, rfl, by decide +kernel, by decide +kernel⟩
abbrev s_InvalidText___init__ : Stmt := inClass (top 3) 0
abbrev N_InvalidText___init__ : List Str := ["self", "given"]
theorem sc_InvalidText___init__ : FnScope N_InvalidText___init__ ["self", "given"] (defScope s_InvalidText___init__) := ⟨rfl, rfl, rfl, by decide +kernel, rfl, by decide +kernel, by decide +kernel⟩
abbrev s_is_integer : Stmt := top 6
abbrev N_is_integer : List Str := ["value"]
theorem sc_is_integer : FnScope N_is_integer ["value"] (defScope s_is_integer) := ⟨rfl, rfl, rfl, by decide +kernel, rfl, by decide +kernel, by decide +kernel⟩
abbrev s_is_count : Stmt := top 7
abbrev N_is_count : List Str := ["value"]
theorem sc_is_count : FnScope N_is_count ["value"] (defScope s_is_count) := ⟨rfl, rfl, rfl, by decide +kernel, rfl, by decide +kernel, by decide +kernel⟩
abbrev s_is_text : Stmt := top 8
abbrev N_is_text : List Str := ["value", "letter"]
theorem sc_is_text : FnScope N_is_text ["value"] (defScope s_is_text) := ⟨rfl, rfl, rfl, by decide +kernel, rfl, by decide +kernel, by decide +kernel⟩
abbrev s_is_lag : Stmt := top 9
abbrev N_is_lag : List Str := ["value"]
theorem sc_is_lag : FnScope N_is_lag ["value"] (defScope s_is_lag) := ⟨rfl, rfl, rfl, by decide +kernel, rfl, by decide +kernel, by decide +kernel⟩
abbrev s_check_count : Stmt := top 10
abbrev N_check_count : List Str := ["count"]
theorem sc_check_count : FnScope N_check_count ["count"] (defScope s_check_count) := ⟨rfl, rfl, rfl, by decide +kernel, rfl, by decide +kernel, by decide +kernel⟩
abbrev s_check_text : Stmt := top 11
abbrev N_check_text : List Str := ["text"]
theorem sc_check_text : FnScope N_check_text ["text"] (defScope s_check_text) := ⟨rfl, rfl, rfl, by decide +kernel, rfl, by decide +kernel, by decide +kernel⟩
abbrev s_round_length : Stmt := top 13
abbrev N_round_length : List Str := ["text"]
theorem sc_round_length : FnScope N_round_length ["text"] (defScope s_round_length) := ⟨rfl, rfl, rfl, by decide +kernel, rfl, by decide +kernel, by decide +kernel⟩
abbrev s_turn_number : Stmt := top 14
abbrev N_turn_number : List Str := ["one", "other"]
theorem sc_turn_number : FnScope N_turn_number ["one", "other"] (defScope s_turn_number) := ⟨rfl, rfl, rfl, by decide +kernel, rfl, by decide +kernel, by decide +kernel⟩
abbrev s_lag_after : Stmt := top 15
abbrev N_lag_after : List Str := ["left", "right"]
theorem sc_lag_after : FnScope N_lag_after ["left", "right"] (defScope s_lag_after) := ⟨rfl, rfl, rfl, by decide +kernel, rfl, by decide +kernel, by decide +kernel⟩
abbrev s_lag_numbered : Stmt := top 16
abbrev N_lag_numbered : List Str := ["one", "other", "number", "text", "ahead"]
theorem sc_lag_numbered : FnScope N_lag_numbered ["one", "other", "number"] (defScope s_lag_numbered) := ⟨rfl, rfl, rfl, by decide +kernel, rfl, by decide +kernel, by decide +kernel⟩
abbrev s_check_lag : Stmt := top 17
abbrev N_check_lag : List Str := ["lag"]
theorem sc_check_lag : FnScope N_check_lag ["lag"] (defScope s_check_lag) := ⟨rfl, rfl, rfl, by decide +kernel, rfl, by decide +kernel, by decide +kernel⟩
abbrev s_lag_behind : Stmt := top 18
abbrev N_lag_behind : List Str := ["lag", "one", "other"]
theorem sc_lag_behind : FnScope N_lag_behind ["lag", "one", "other"] (defScope s_lag_behind) := ⟨rfl, rfl, rfl, by decide +kernel, rfl, by decide +kernel, by decide +kernel⟩
abbrev s_staying : Stmt := top 19
abbrev N_staying : List Str := ["one", "other", "most", "number", "size", "first", "at"]
theorem sc_staying : FnScope N_staying ["one", "other", "most"] (defScope s_staying) := ⟨rfl, rfl, rfl, by decide +kernel, rfl, by decide +kernel, by decide +kernel⟩
abbrev s__law_cell : Stmt := top 21
abbrev N__law_cell : List Str := ["script", "k"]
theorem sc__law_cell : FnScope N__law_cell ["script", "k"] (defScope s__law_cell) := ⟨rfl, rfl, rfl, by decide +kernel, rfl, by decide +kernel, by decide +kernel⟩
abbrev s__law_box : Stmt := top 22
abbrev N__law_box : List Str := ["great"]
theorem sc__law_box : FnScope N__law_box ["great"] (defScope s__law_box) := ⟨rfl, rfl, rfl, by decide +kernel, rfl, by decide +kernel, by decide +kernel⟩
abbrev s__law_take : Stmt := top 23
abbrev N__law_take : List Str := ["box", "many", "mixed", "digit"]
theorem sc__law_take : FnScope N__law_take ["box", "many"] (defScope s__law_take) := ⟨rfl, rfl, rfl, by decide +kernel, rfl, by decide +kernel, by decide +kernel⟩
abbrev s__law_letters : Stmt := top 24
abbrev N__law_letters : List Str := ["box", "first", "second"]
theorem sc__law_letters : FnScope N__law_letters ["box"] (defScope s__law_letters) := ⟨rfl, rfl, rfl, by decide +kernel, rfl, by decide +kernel, by decide +kernel⟩
abbrev s__law_word : Stmt := top 25
abbrev N__law_word : List Str := ["box", "letters", "size", "turn"]
theorem sc__law_word : FnScope N__law_word ["box", "letters", "size"] (defScope s__law_word) := ⟨rfl, rfl, rfl, by decide +kernel, rfl, by decide +kernel, by decide +kernel⟩
abbrev s__law_pair : Stmt := top 26
abbrev N__law_pair : List Str := ["box", "letters", "way", "piece", "left", "spot", "right", "place"]
theorem sc__law_pair : FnScope N__law_pair ["box", "letters"] (defScope s__law_pair) := ⟨rfl, rfl, rfl, by decide +kernel, rfl, by decide +kernel, by decide +kernel⟩
abbrev s__law_root_length : Stmt := top 27
abbrev N__law_root_length : List Str := ["word", "size"]
theorem sc__law_root_length : FnScope N__law_root_length ["word"] (defScope s__law_root_length) := ⟨rfl, rfl, rfl, by decide +kernel, rfl, by decide +kernel, by decide +kernel⟩
abbrev s__law_numbered : Stmt := top 28
abbrev N__law_numbered : List Str := ["left", "right", "number", "word", "ahead"]
theorem sc__law_numbered : FnScope N__law_numbered ["left", "right", "number"] (defScope s__law_numbered) := ⟨rfl, rfl, rfl, by decide +kernel, rfl, by decide +kernel, by decide +kernel⟩
abbrev s__law_stays : Stmt := top 29
abbrev N__law_stays : List Str := ["pair", "left", "right"]
theorem sc__law_stays : FnScope N__law_stays ["pair", "left", "right"] (defScope s__law_stays) := ⟨rfl, rfl, rfl, by decide +kernel, rfl, by decide +kernel, by decide +kernel⟩
abbrev s__law_due : Stmt := top 30
abbrev N__law_due : List Str := ["left", "right", "highest", "found", "number", "pair"]
theorem sc__law_due : FnScope N__law_due ["left", "right", "highest"] (defScope s__law_due) := ⟨rfl, rfl, rfl, by decide +kernel, rfl, by decide +kernel, by decide +kernel⟩
abbrev s__law_number : Stmt := top 31
abbrev N__law_number : List Str := ["pair"]
theorem sc__law_number : FnScope N__law_number ["pair"] (defScope s__law_number) := ⟨rfl, rfl, rfl, by decide +kernel, rfl, by decide +kernel, by decide +kernel⟩
abbrev s__law_highest : Stmt := top 32
abbrev N__law_highest : List Str := ["box", "left", "right", "spots", "pair"]
theorem sc__law_highest : FnScope N__law_highest ["box", "left", "right"] (defScope s__law_highest) := ⟨rfl, rfl, rfl, by decide +kernel, rfl, by decide +kernel, by decide +kernel⟩
abbrev s__law_list_right : Stmt := top 33
abbrev N__law_list_right : List Str := ["left", "right", "highest", "due", "told"]
theorem sc__law_list_right : FnScope N__law_list_right ["left", "right", "highest"] (defScope s__law_list_right) := ⟨rfl, rfl, rfl, by decide +kernel, rfl, by decide +kernel, by decide +kernel⟩
abbrev s__law_pair_right : Stmt := top 34
abbrev N__law_pair_right : List Str := ["box", "left", "right", "highest", "due", "rounds", "pair", "wide", "turned", "numbers", "size", "spot", "k"]
theorem sc__law_pair_right : FnScope N__law_pair_right ["box", "left", "right"] (defScope s__law_pair_right) := ⟨rfl, rfl, rfl, by decide +kernel, rfl, by decide +kernel, by decide +kernel⟩
abbrev s__law_wide_right : Stmt := top 35
abbrev N__law_wide_right : List Str := ["box", "letter", "most", "due", "k"]
theorem sc__law_wide_right : FnScope N__law_wide_right ["box", "letter"] (defScope s__law_wide_right) := ⟨rfl, rfl, rfl, by decide +kernel, rfl, by decide +kernel, by decide +kernel⟩
abbrev s__law_bad_text : Stmt := top 36
abbrev N__law_bad_text : List Str := ["box", "letters", "way", "word"]
theorem sc__law_bad_text : FnScope N__law_bad_text ["box", "letters"] (defScope s__law_bad_text) := ⟨rfl, rfl, rfl, by decide +kernel, rfl, by decide +kernel, by decide +kernel⟩
abbrev s__law_told : Stmt := top 37
abbrev N__law_told : List Str := ["turn", "parts", "e"]
theorem sc__law_told : FnScope N__law_told ["turn", "parts"] (defScope s__law_told) := ⟨rfl, rfl, rfl, by decide +kernel, rfl, by decide +kernel, by decide +kernel⟩
abbrev s__law_refuses : Stmt := top 38
abbrev N__law_refuses : List Str := ["turn", "parts", "kind", "place", "told", "due", "size"]
theorem sc__law_refuses : FnScope N__law_refuses ["turn", "parts", "kind", "place"] (defScope s__law_refuses) := ⟨rfl, rfl, rfl, by decide +kernel, rfl, by decide +kernel, by decide +kernel⟩
abbrev s__law_copy : Stmt := top 39
abbrev N__law_copy : List Str := ["value"]
theorem sc__law_copy : FnScope N__law_copy ["value"] (defScope s__law_copy) := ⟨rfl, rfl, rfl, by decide +kernel, rfl, by decide +kernel, by decide +kernel⟩
abbrev s__law_refusals_right : Stmt := top 40
abbrev N__law_refusals_right : List Str := ["box", "letters", "left", "right", "number", "turn", "word", "bad", "worse", "last"]
theorem sc__law_refusals_right : FnScope N__law_refusals_right ["box", "letters", "left", "right"] (defScope s__law_refusals_right) := ⟨rfl, rfl, rfl, by decide +kernel, rfl, by decide +kernel, by decide +kernel⟩
abbrev s__law_right : Stmt := top 41
abbrev N__law_right : List Str := ["box", "letters", "left", "right", "third", "fourth"]
theorem sc__law_right : FnScope N__law_right ["box"] (defScope s__law_right) := ⟨rfl, rfl, rfl, by decide +kernel, rfl, by decide +kernel, by decide +kernel⟩
abbrev s_law : Stmt := top 42
abbrev N_law : List Str := ["script", "k"]
theorem sc_law : FnScope N_law ["script"] (defScope s_law) := ⟨rfl, rfl, rfl, by decide +kernel, rfl, by decide +kernel, by decide +kernel⟩
structure Txt (K : PySem.W.Frag) (mg : Str → Option Value) : Prop where
  d_is_integer : DefAt K mg "is_integer" s_is_integer ["value"]
  d_is_count : DefAt K mg "is_count" s_is_count ["value"]
  d_is_text : DefAt K mg "is_text" s_is_text ["value"]
  d_is_lag : DefAt K mg "is_lag" s_is_lag ["value"]
  d_check_count : DefAt K mg "check_count" s_check_count ["count"]
  d_check_text : DefAt K mg "check_text" s_check_text ["text"]
  d_round_length : DefAt K mg "round_length" s_round_length ["text"]
  d_turn_number : DefAt K mg "turn_number" s_turn_number ["one", "other"]
  d_lag_after : DefAt K mg "lag_after" s_lag_after ["left", "right"]
  d_lag_numbered : DefAt K mg "lag_numbered" s_lag_numbered ["one", "other", "number"]
  d_check_lag : DefAt K mg "check_lag" s_check_lag ["lag"]
  d_lag_behind : DefAt K mg "lag_behind" s_lag_behind ["lag", "one", "other"]
  d_staying : DefAt K mg "staying" s_staying ["one", "other", "most"]
  d__law_cell : DefAt K mg "_law_cell" s__law_cell ["script", "k"]
  d__law_box : DefAt K mg "_law_box" s__law_box ["great"]
  d__law_take : DefAt K mg "_law_take" s__law_take ["box", "many"]
  d__law_letters : DefAt K mg "_law_letters" s__law_letters ["box"]
  d__law_word : DefAt K mg "_law_word" s__law_word ["box", "letters", "size"]
  d__law_pair : DefAt K mg "_law_pair" s__law_pair ["box", "letters"]
  d__law_root_length : DefAt K mg "_law_root_length" s__law_root_length ["word"]
  d__law_numbered : DefAt K mg "_law_numbered" s__law_numbered ["left", "right", "number"]
  d__law_stays : DefAt K mg "_law_stays" s__law_stays ["pair", "left", "right"]
  d__law_due : DefAt K mg "_law_due" s__law_due ["left", "right", "highest"]
  d__law_number : DefAt K mg "_law_number" s__law_number ["pair"]
  d__law_highest : DefAt K mg "_law_highest" s__law_highest ["box", "left", "right"]
  d__law_list_right : DefAt K mg "_law_list_right" s__law_list_right ["left", "right", "highest"]
  d__law_pair_right : DefAt K mg "_law_pair_right" s__law_pair_right ["box", "left", "right"]
  d__law_wide_right : DefAt K mg "_law_wide_right" s__law_wide_right ["box", "letter"]
  d__law_bad_text : DefAt K mg "_law_bad_text" s__law_bad_text ["box", "letters"]
  d__law_told : DefAt K mg "_law_told" s__law_told ["turn", "parts"]
  d__law_refuses : DefAt K mg "_law_refuses" s__law_refuses ["turn", "parts", "kind", "place"]
  d__law_copy : DefAt K mg "_law_copy" s__law_copy ["value"]
  d__law_refusals_right : DefAt K mg "_law_refusals_right" s__law_refusals_right ["box", "letters", "left", "right"]
  d__law_right : DefAt K mg "_law_right" s__law_right ["box"]
  d_law : DefAt K mg "law" s_law ["script"]
  x_InvalidCount : ErrAt K mg "InvalidCount"
  x_InvalidText : ErrAt K mg "InvalidText"
  o_InvalidCount_InvalidText : NotErr K mg "InvalidCount" "InvalidText"
  o_InvalidText_InvalidCount : NotErr K mg "InvalidText" "InvalidCount"
  n_abs : mg "abs" = none
  n_all : mg "all" = none
  n_bool : mg "bool" = none
  n_int : mg "int" = none
  n_isinstance : mg "isinstance" = none
  n_len : mg "len" = none
  n_list : mg "list" = none
  n_max : mg "max" = none
  n_min : mg "min" = none
  n_range : mg "range" = none
  n_repr : mg "repr" = none
  n_str : mg "str" = none
  n_sum : mg "sum" = none
  n_tuple : mg "tuple" = none
  g_LETTERS : ∃ t, mg "LETTERS" = some (.str (tx abc) t)
end K12
set_option Elab.async false
set_option linter.all false
set_option maxRecDepth 100000
set_option maxHeartbeats 4000000
namespace K12
open PySem PySem.Spec PyProof.Rows L2 SL Rt Wd
local macro_rules | `(tactic| walk_at "sz") => `(tactic| first
  | assumption
  | omega
  | (simp only [List.length_cons, List.length_nil, List.length_append, List.length_map, List.length_take, List.length_drop, List.length_reverse, List.length_replicate, List.length_range, tx_len, sizeLine_eq, CMul, CDiv, Nat.reduceAdd, Nat.reduceLeDiff]; first | done | omega)
  | decide)
local macro_rules | `(tactic| walk_at "ne") => `(tactic| first
  | assumption
  | exact Ne.symm (by assumption)
  | (refine ne_of_none (H := ?H0) (o := ?oo) ?hh ?hn; (case hn => assumption); (case hh => walk_at "hget"))
  | (refine Ne.symm (ne_of_none (H := ?H0) (o := ?oo) ?hh ?hn); (case hn => assumption); (case hh => walk_at "hget")))
local macro_rules | `(tactic| walk_at "hget") => `(tactic| first
  | assumption
  | exact upd_same
  | (refine (upd_ne ?n).trans ?g; (case n => walk_at "ne"); (case g => walk_at "hget"))
  | (refine fr_get (p := ?pp) (H := ?H0) ?f ?g ?n; (case f => assumption); (case g => walk_at "hget"); (case n => walk_at "ne"))
  | (refine same_get (H := ?H0) ?f ?g; (case f => assumption); (case g => walk_at "hget")))
local macro_rules | `(tactic| walk_at "vget") => `(tactic| first
  | assumption
  | (refine SqL.of ?g; (case g => walk_at "hget"))
  | (refine SqT.of ?g; (case g => walk_at "hget"))
  | (refine sql_new ?n ?g; (case n => assumption); (case g => walk_at "vget"))
  | (refine sqt_new ?n ?g; (case n => assumption); (case g => walk_at "vget"))
  | (refine sql_upd ?n ?g; (case n => walk_at "ne"); (case g => walk_at "vget"))
  | (refine sqt_upd ?n ?g; (case n => walk_at "ne"); (case g => walk_at "vget"))
  | (refine Same.seq (H := ?H0) ?f ?g; (case f => assumption); (case g => walk_at "vget"))
  | (refine Same.seqT (H := ?H0) ?f ?g; (case f => assumption); (case g => walk_at "vget"))
  | (refine fr_sql (b := ?pp) (H := ?H0) ?f ?g ?n; (case f => assumption); (case g => walk_at "vget"); (case n => walk_at "ne"))
  | (refine fr_sqt (b := ?pp) (H := ?H0) ?f ?g ?n; (case f => assumption); (case g => walk_at "vget"); (case n => walk_at "ne")))
local macro_rules | `(tactic| walk_at "at") => `(tactic| first
  | assumption
  | rfl
  | (refine atI_n ?h; (case h => first | assumption | rfl))
  | (refine atI_i ?h0 ?h; (case h0 => omega); (case h => first | assumption | rfl)))
local macro_rules | `(tactic| walk_at "v1") => `(tactic| first
  | with_reducible refine w_seq ?_
  | with_reducible refine w_enx ?_
  | with_reducible refine w_ert ?_
  | with_reducible refine w_asg ?_
  | ((with_reducible refine w_var (v := ?vv) ?h ?_); (case h => exact rfl))
  | with_reducible refine w_op ?_
  | with_reducible refine w_c ?_
  | with_reducible refine w_cons ?_
  | with_reducible refine w_nil ?_
  | with_reducible refine w_cb ?_
  | with_reducible refine w_call ?_
  | with_reducible refine w_k ?_
  | with_reducible refine w_i ?_
  | with_reducible refine w_two ?_
  | ((with_reducible refine w_name ?_); (try simp only [List.set_cons_zero, List.set_cons_succ]))
  | with_reducible refine w_ifS ?_
  | with_reducible refine w_ret ?_
  | with_reducible refine w_drop ?_
  | with_reducible refine w_test ?_
  | with_reducible refine w_B ?_
  | with_reducible refine iteT ?_
  | with_reducible refine iteF ?_
  | with_reducible refine w_same ?_
  | ((with_reducible refine w_ifT ?h ?_); (case h => first | rfl | assumption))
  | ((with_reducible refine w_ifF ?h ?_); (case h => first | rfl | assumption))
  | ((with_reducible refine w_diff ?_ ?h); (case h => decide +kernel))
  | ((with_reducible refine w_wp ?h ?_); (case h => rfl); (try simp only [wipe, List.set_cons_zero, List.set_cons_succ, List.foldl_cons, List.foldl_nil]))
  | ((with_reducible refine w_acc (acc := ?aa) ?h ?_ ?z); (case h => walk_at "hget"); (case z => walk_at "sz"))
  | with_reducible refine w_addI ?_
  | with_reducible refine w_subI ?_
  | with_reducible refine w_lt ?_
  | with_reducible refine w_le ?_
  | with_reducible refine w_gt ?_
  | with_reducible refine w_ge ?_
  | with_reducible refine w_eqI ?_
  | with_reducible refine w_neI ?_
  | with_reducible refine w_eqS ?_
  | with_reducible refine w_neS ?_
  | with_reducible refine w_neB ?_
  | ((with_reducible refine w_mulI ?_ ?h); (case h => walk_at "sz"))
  | ((with_reducible refine w_divI ?_ ?h); (case h => walk_at "sz"))
  | ((with_reducible refine w_addS ?_ ?h); (case h => walk_at "sz"))
  | ((with_reducible refine w_mulS ?_ ?h); (case h => walk_at "sz"))
  | ((with_reducible refine w_ixL (xs := ?xx) (v := ?vv) ?h ?i ?_); (case h => walk_at "vget"); (case i => walk_at "at"))
  | ((with_reducible refine w_ixT (xs := ?xx) (v := ?vv) ?h ?i ?_); (case h => walk_at "vget"); (case i => walk_at "at"))
  | ((with_reducible refine w_ixS (c := ?cc) ?i ?_ ?h); (case i => walk_at "at"); (case h => walk_at "sz"))
  | ((with_reducible refine w_lenS' ?_ ?h); (case h => walk_at "sz"))
  | ((with_reducible refine w_lenL' (xs := ?xx) ?h ?_); (case h => walk_at "vget"))
  | ((with_reducible refine w_lenT' (xs := ?xx) ?h ?_); (case h => walk_at "vget"))
  | with_reducible refine w_isnN ?_
  | with_reducible refine w_isnI ?_
  | with_reducible refine w_isnS ?_
  | with_reducible refine w_isnR ?_
  | with_reducible refine w_isnB ?_
  | with_reducible refine w_isoN ?_
  | with_reducible refine w_isoI ?_
  | with_reducible refine w_isoS ?_
  | with_reducible refine w_isoR ?_
  | with_reducible refine w_isoB ?_
  | with_reducible refine w_abs ?_
  | with_reducible refine w_int ?_
  | with_reducible refine w_intB ?_
  | with_reducible refine w_min2 ?_
  | with_reducible refine w_max2 ?_
  | with_reducible refine w_min3 ?_
  | with_reducible refine w_sl ?_
  | with_reducible refine w_np ?_
  | with_reducible refine w_part ?_
  | ((with_reducible refine w_sStN ?_ ?h); (case h => walk_at "sz"))
  | ((with_reducible refine w_sSfN ?_ ?h); (case h => walk_at "sz"))
  | ((with_reducible refine w_sSt ?_ ?h); (case h => walk_at "sz"))
  | ((with_reducible refine w_sSf ?_ ?h); (case h => walk_at "sz"))
  | with_reducible refine w_and ?_
  | with_reducible refine w_or ?_
  | with_reducible refine w_not ?_
  | with_reducible refine w_andV ?_
  | with_reducible refine w_orV ?_
  | with_reducible refine w_notV ?_
  | with_reducible refine w_ifE ?_
  | with_reducible refine w_tup ?_
  | with_reducible refine w_lst ?_
  | with_reducible refine w_chain ?_
  | ((with_reducible refine w_par ?_); (try simp only [List.set_cons_zero, List.set_cons_succ]))
  | ((with_reducible refine w_par3 ?_); (try simp only [List.set_cons_zero, List.set_cons_succ]))
  | with_reducible refine w_three ?_
  | with_reducible refine w_un ?_
  | with_reducible refine w_neg ?_
  | with_reducible refine w_next ?_
  | with_reducible refine w_ebk ?_
  | with_reducible refine w_ect ?_
  | with_reducible refine w_for ?_
  | with_reducible refine w_lc ?_
  | with_reducible refine w_yes ?_
  | with_reducible refine w_il ?_
  | with_reducible refine w_it ?_
  | with_reducible refine w_isx ?_
  | with_reducible refine w_ir1 ?_
  | with_reducible refine w_ir2 ?_
  | with_reducible refine w_ies ?_
  | with_reducible refine w_s1 ?_
  | with_reducible refine w_s1l ?_
  | ((with_reducible refine w_r1 ?_ ?h); (case h => walk_at "sz"))
  | ((with_reducible refine w_r2 ?_ ?h); (case h => walk_at "sz"))
  | ((with_reducible refine w_l1 (xs := ?xx) ?h ?_); (case h => walk_at "vget"))
  | ((with_reducible refine w_t1 (xs := ?xx) ?h ?_); (case h => walk_at "vget"))
  | ((with_reducible refine w_isL (xs := ?xx) ?h ?_); (case h => walk_at "vget"))
  | with_reducible refine w_isS ?_
  | ((with_reducible refine w_app (xs := ?xx) ?h ?_ ?z); (case h => walk_at "hget"); (case z => walk_at "sz"))
  | with_reducible refine w_inC ?_
  | with_reducible refine w_rev ?_
  | ((with_reducible refine w_rev1S ?_ ?h); (case h => walk_at "sz"))
  | with_reducible refine w_lrg ?_
  | with_reducible refine w_brk ?_
  | with_reducible refine w_cont ?_
  | with_reducible refine w_retN ?_
  | with_reducible refine w_bm ?_
  | with_reducible refine w_bm0 ?_
  | with_reducible refine w_m1 ?_
  | with_reducible refine w_sub ?_
  | ((with_reducible refine w_setL (xs := ?xx) (j := ?jj) ?h ?i ?_); (case h => walk_at "hget"); (case i => first | rfl | assumption); (try simp only [Int.reduceToNat, List.set_cons_zero, List.set_cons_succ]))
  | with_reducible refine w_ip ?_
  | with_reducible refine w_gnil ?_
  | with_reducible refine w_gcons ?_
  | ((with_reducible refine w_gL (xs := ?xx) ?h ?_ ?n); (case h => walk_at "vget"); (case n => rfl))
  | ((with_reducible refine w_gT (xs := ?xx) ?h ?_ ?n); (case h => walk_at "vget"); (case n => rfl))
  | ((with_reducible refine w_aug (v := ?vv) ?h ?_); (case h => exact rfl)))
local macro_rules | `(tactic| walk_at "v") => `(tactic| repeat walk_at "v1")
local macro_rules | `(tactic| walk_at "v0") => `(tactic| (simp only [L2.start, cxK, ends_rt, List.map_cons, List.map_nil, List.length_cons, List.length_nil, Nat.reduceAdd, Nat.reduceSub, List.replicate_succ, List.replicate_zero, List.append_nil, List.cons_append, List.nil_append]; walk_at "v"))
local macro_rules | `(tactic| walk_at "u1") => `(tactic| first
  | with_reducible refine w_seqA ?_
  | with_reducible refine w_seqD ?_
  | with_reducible refine w_seqP ?_
  | with_reducible refine w_seqP3 ?_
  | with_reducible refine w_seqG ?_
  | ((fail_if_success (with_reducible refine w_seq ?_)); walk_at "v1"))
local macro_rules | `(tactic| walk_at "u") => `(tactic| repeat walk_at "u1")
local macro_rules | `(tactic| walk_at "u0") => `(tactic| (simp only [L2.start, cxK, ends_rt, List.map_cons, List.map_nil, List.length_cons, List.length_nil, Nat.reduceAdd, Nat.reduceSub, List.replicate_succ, List.replicate_zero, List.append_nil, List.cons_append, List.nil_append]; walk_at "u"))
local macro_rules | `(tactic| walk_at "t1") => `(tactic| ((fail_if_success (with_reducible refine w_seq ?_)); walk_at "v1"))
local macro_rules | `(tactic| walk_at "t") => `(tactic| repeat walk_at "t1")

section
variable {P : Program} {w : World} {K : PySem.W.Frag} {mg : Str → Option Value} {base : Heap}
def spCellG (K : PySem.W.Frag) : Sp := fun vs H Q _ => ∃ (a : Addr) (ns : List Int) (k : Nat), vs = [.ref a, .int k] ∧ SqL K H a (ns.map V.int) ∧ k ≤ 1000 ∧ ∀ i H', Same H H' → Q (.int i) H'
theorem ok_cell (T : Txt K mg) : Cal P w K mg base 1 "_law_cell" ["script", "k"] (spCellG K) := by
  refine cal0 T.d__law_cell sc__law_cell (by rintro vs H Q E ⟨a, ns, k, rfl, _⟩; rfl) (fun cdv f A outer s H vs Q E hr hgd h => ?_)
  obtain ⟨a, ns, k, rfl, hS, hk, q⟩ := h
  refine ⟨_, (pss_one (ps_ret (pe_ifExp (pt_cmpR uLt (pv 1) (pe_callB (kLen K rfl) (by rfl) T.n_len (by decide +kernel) (pa_cons (pv 0) pa_nil)) (nomark _)) (pe_ix (kIx K rfl) (pv 0) (pv 1) (fun _ _ => rfl)) (pe_op (kAdd K rfl) (pe_op uMul pe_int (pv 1)) (pe_op uMod (pe_callB (kSum K rfl rfl) (by rfl) T.n_sum (by decide +kernel) (pa_cons (pe_slice (kSl K rfl) (pv 0) po_none (po_some pe_int)) pa_nil)) pe_int))))), ?_⟩
  walk_at "v0"
  refine w_if (fun h => ?_) (fun h => ?_)
  · simp only [decide_eq_true_eq, List.length_map] at h
    have hk2 : k < ns.length := by omega
    have g1 := int_at hk2
    walk_at "v"
    exact q _ _ (Same.refl _)
  · walk_at "v"
    refine w_sLt (by walk_at "vget") (by omega) fun p hp => ?_
    rw [cut1]
    walk_at "v"
    refine w_sum (SqL.of upd_same) ?_
    walk_at "v"
    refine w_modN (by omega) fun r _ h1 h2 => ?_
    walk_at "v"
    exact q _ _ (same_new hp)
def spBox : Sp := fun vs H Q _ => ∃ (i : Int), vs = [.int i] ∧ ∀ p H', Same H H' → H p = none → Box H' p 0 → Q (.ref p) H'
theorem ok_box (T : Txt K mg) : Cal P w K mg base 1 "_law_box" ["great"] spBox := by
  refine cal0 T.d__law_box sc__law_box (by rintro vs H Q E ⟨i, rfl, _⟩; rfl) (fun cdv f A outer s H vs Q E hr hgd h => ?_)
  obtain ⟨i, rfl, q⟩ := h
  refine ⟨_, (pss_one (ps_ret (pe_lst (pa_cons (pe_callB uAbs (by rfl) T.n_abs (by decide +kernel) (pa_cons (pv 0) pa_nil)) (pa_cons (pe_cmpR uGe (pe_callB uAbs (by rfl) T.n_abs (by decide +kernel) (pa_cons (pv 0) pa_nil)) (pe_op uPow pe_int pe_int) (nomark _)) (pa_cons (pe_op uMod (pe_callTy uInt (by rfl) T.n_int (by decide +kernel) (pa_cons (pe_callB uAbs (by rfl) T.n_abs (by decide +kernel) (pa_cons (pv 0) pa_nil)) pa_nil)) pe_int) (pa_cons pe_int pa_nil))))))), ?_⟩
  walk_at "v0"
  refine w_powI ?_ (by omega)
  walk_at "v"
  refine w_modN (by omega) fun r _ h1 h2 => ?_
  walk_at "v"
  refine ⟨by walk_at "sz", fun p hp => ?_⟩
  exact q p _ (same_new hp) hp ⟨_, _, r, 0, upd_same, by split <;> omega, h1, by omega, Nat.le_refl _⟩
def spTake : Sp := fun vs H Q _ => ∃ (p : Addr) (n : Int) (c : Nat), vs = [.ref p, .int n] ∧ Box H p c ∧ c ≤ 100000000 ∧ 0 < n ∧ n < 1073741824 ∧
  ∀ r H', 0 ≤ r → r < n → Box H' p (c + 1) → Fr p H H' → Q (.int r) H'
theorem ok_take (T : Txt K mg) : Cal P w K mg base 1 "_law_take" ["box", "many"] spTake := by
  refine cal0 T.d__law_take sc__law_take (by rintro vs H Q E ⟨p, n, c, rfl, _⟩; rfl) (fun cdv f A outer s H vs Q E hr hgd h => ?_)
  obtain ⟨p, n, c, rfl, ⟨g, b, m, d, hb, hg, hm, hm2, hd⟩, hc, hn, hn2, q⟩ := h
  refine ⟨_, (pss_cons (ps_if (PW.pt (pw_and (pt_val (pe_ix (kIx K rfl) (pv 0) pe_int (fun _ _ => rfl))) (pw_and1 (pt_cmpR uGt (pe_ix (kIx K rfl) (pv 0) pe_int (fun _ _ => rfl)) pe_int (nomark _))))) (pss_cons (ps_set (i := 3) sc__law_take.nd rfl (by first | exact Or.inl rfl | exact Or.inr rfl) (pe_op uMod (pe_callTy uInt (by rfl) T.n_int (by decide +kernel) (pa_cons (pe_ix (kIx K rfl) (pv 0) pe_int (fun _ _ => rfl)) pa_nil)) (pv 1)))
  (pss_cons (ps_asg (pe_op uDiv (pe_ix (kIx K rfl) (pv 0) pe_int (fun _ _ => rfl)) (pv 1)) (pg_sub (pv 0) pe_int set_list))
  (pss_one (ps_ret (pv 3))))) pss_nil)
  (pss_cons (ps_asg (pe_op (kAdd K rfl) (pe_ix (kIx K rfl) (pv 0) pe_int (fun _ _ => rfl)) pe_int) (pg_sub (pv 0) pe_int set_list))
  (pss_cons (ps_set (i := 2) sc__law_take.nd rfl (by first | exact Or.inl rfl | exact Or.inr rfl) (pe_op uMod (pe_callTy uInt (by rfl) T.n_int (by decide +kernel) (pa_cons (pe_op uPow (pe_op (kAdd K rfl) (pe_op (kAdd K rfl) (pe_ix (kIx K rfl) (pv 0) pe_int (fun _ _ => rfl)) (pe_op uMul pe_int (pe_ix (kIx K rfl) (pv 0) pe_int (fun _ _ => rfl)))) pe_int) pe_int) pa_nil)) pe_int))
  (pss_one (ps_ret (pe_op uMod (pe_op uDiv (pe_op uMod (pe_callTy uInt (by rfl) T.n_int (by decide +kernel) (pa_cons (pe_op uPow (pe_op (kAdd K rfl) (pe_op uMul (pv 2) pe_int) (pe_op uMul pe_int (pe_ix (kIx K rfl) (pv 0) pe_int (fun _ _ => rfl)))) pe_int) pa_nil)) pe_int) pe_int) (pv 1))))))), ?_⟩
  walk_at "v0"
  have e1 : ((d + 1 : Nat) : Int) = (d : Int) + 1 := by omega
  refine w_if (fun hb1 => ?_) (fun hb1 => ?_)
  · walk_at "v"
    refine w_if (fun hb2 => ?_) (fun hb2 => ?_)
    · walk_at "v"
      refine w_modN (by omega) fun r _ h1 h2 => ?_
      walk_at "v"
      exact q _ _ h1 h2 ⟨g / n, b, m, d, upd_same, Int.ediv_nonneg hg (by omega), hm, hm2, by omega⟩ (Fr.put (Fr.refl _ _))
    walk_at "v"
    refine w_powI ?_ (by omega)
    walk_at "v"
    refine w_modN (by omega) fun r1 _ h1 h2 => ?_
    walk_at "v"
    refine w_powI ?_ (by omega)
    walk_at "v"
    refine w_modN (by omega) fun r2 _ h3 h4 => ?_
    walk_at "v"
    refine w_modN (by omega) fun r3 _ h5 h6 => ?_
    walk_at "v"
    exact q _ _ h5 h6 ⟨g, b, m, d + 1, (by rw [e1]; exact upd_same), hg, hm, hm2, by omega⟩ (Fr.put (Fr.refl _ _))
  · walk_at "v"
    refine w_powI ?_ (by omega)
    walk_at "v"
    refine w_modN (by omega) fun r1 _ h1 h2 => ?_
    walk_at "v"
    refine w_powI ?_ (by omega)
    walk_at "v"
    refine w_modN (by omega) fun r2 _ h3 h4 => ?_
    walk_at "v"
    refine w_modN (by omega) fun r3 _ h5 h6 => ?_
    walk_at "v"
    exact q _ _ h5 h6 ⟨g, b, m, d + 1, (by rw [e1]; exact upd_same), hg, hm, hm2, by omega⟩ (Fr.put (Fr.refl _ _))
theorem take_w {p : Addr} {n : Int} {N c : Nat} {H : Hp} {Q : VK} {E : XK} (e : n = (N : Int)) (hb : Box H p c) (hc : c ≤ 100000000 ∧ 0 < N ∧ N < 1073741824) (q : ∀ (k : Nat) H', k < N → Box H' p (c + 1) → SL.Fr p H H' → Q (.int k) H') : spTake [.ref p, .int n] H Q E := by
  refine ⟨p, n, c, rfl, hb, hc.1, by omega, by omega, fun r H' r0 r1 b f => ?_⟩
  obtain ⟨k, rfl⟩ := Int.eq_ofNat_of_zero_le r0
  exact q k H' (by omega) b f
def spIsTx (K : PySem.W.Frag) : Sp := fun vs H Q _ => ∃ v b, vs = [v] ∧ IsTx K H v b ∧ ∀ H', Same H H' → Q (.bl b) H'
theorem ok_is_text (T : Txt K mg) : Cal P w K mg base 1 "is_text" ["value"] (spIsTx K) := by
  refine cal0 T.d_is_text sc_is_text (by rintro vs H Q E ⟨v, b, rfl, _⟩; rfl) (fun cdv f A outer s H vs Q E hr hgd h => ?_)
  obtain ⟨v, b, rfl, hv, q⟩ := h
  refine ⟨_, (pss_one (ps_ret (pe_and (pe_callB (kIsi K rfl) (by rfl) T.n_isinstance (by decide +kernel) (pa_cons (pv 0) (pa_cons (pe_bltn (v := .ty "str") (by rfl) T.n_str (by decide +kernel) rfl) pa_nil))) (pe_one (pe_callB (kAll K rfl rfl) (by rfl) T.n_all (by decide +kernel) (pa_cons (pe_lc (own := [("letter", 1)]) rfl sc_is_text.nd (pi_str (pv 0)) (blkOk_by (own := [("letter", 1)]) (N := N_is_text) (sc := defScope s_is_text) (by decide +kernel)) (fun _ _ _ _ _ => (pg_name (i := 1) sc_is_text.nd rfl (by first | exact Or.inl rfl | exact Or.inr rfl))) (fun _ _ _ _ _ => pts_nil) (fun _ _ _ _ _ => (pe_cmpR (kIn K rfl) (pv 1) (pe_gs (by rfl) T.g_LETTERS) (by rfl)))) pa_nil)))))), ?_⟩
  walk_at "v0"
  rcases hv with ⟨l, rfl, hz, rfl⟩ | ⟨rfl, t, ht, hk, hn⟩
  · refine w_isiS ?_ (by decide)
    walk_at "v"
    intro D hD
    refine lc_tx (fun i H' => Same H H' ∧ H' D = some (.lst ((l.take i).map fun c => V.bl (decide (c ∈ abc))))) ⟨same_new hD, upd_same⟩ ?_ ?_
    · rintro i c H1 hi ⟨s1, h1⟩
      have hb := lt_of_get hi
      walk_at "v"
      exact ⟨Same.grow s1 hD, by rw [upd_same, take_more hi, List.map_append]; rfl⟩
    · rintro H1 ⟨s1, h1⟩
      walk_at "v"
      rw [List.take_length] at h1
      refine w_allL (bs := l.map fun c => decide (c ∈ abc)) (SqL.of (by rw [List.map_map]; exact h1)) ?_
      walk_at "v"
      rw [all_let]
      exact q _ s1
  · refine w_isiK ht hk (.inr (.inr (.inl rfl))) ?_
    have e : (t == "str" || (t == "bool" && "str" == "int")) = false := by simp [hn]
    rw [e]
    walk_at "v"
    exact q _ (Same.refl _)
def spIsLg (K : PySem.W.Frag) : Sp := fun vs H Q _ => ∃ v b, vs = [v] ∧ IsLg K H v b ∧ ∀ H', Same H H' → Q (.bl b) H'
theorem ok_is_lag (T : Txt K mg) (c_is_text : Cal P w K mg base 1 "is_text" ["value"] (spIsTx K)) : Cal P w K mg base 2 "is_lag" ["value"] (spIsLg K) := by
  refine cal0 T.d_is_lag sc_is_lag (by rintro vs H Q E ⟨v, b, rfl, _⟩; rfl) (fun cdv f A outer s H vs Q E hr hgd h => ?_)
  obtain ⟨v, b, rfl, hv, q⟩ := h
  refine ⟨_, (pss_cons (ps_if (PW.pt (pw_or (pt_not (pt_val (pe_callB (kIsi K rfl) (by rfl) T.n_isinstance (by decide +kernel) (pa_cons (pv 0) (pa_cons (pe_bltn (v := .ty "tuple") (by rfl) T.n_tuple (by decide +kernel) rfl) pa_nil))))) (pw_or1 (pt_cmpR (kNe K rfl hr) (pe_callB (kLen K rfl) (by rfl) T.n_len (by decide +kernel) (pa_cons (pv 0) pa_nil)) pe_int (nomark _))))) (pss_one (ps_ret pe_bl)) pss_nil)
  (pss_one (ps_ret (pe_and (pe_g c_is_text hr (by decide) hgd (by rfl) noX (pa_cons (pe_ix (kIx K rfl) (pv 0) pe_int (fun _ _ => rfl)) pa_nil)) (pe_and (pe_g c_is_text hr (by decide) hgd (by rfl) noX (pa_cons (pe_ix (kIx K rfl) (pv 0) pe_int (fun _ _ => rfl)) pa_nil)) (pe_one (pe_cmpR (kIn K rfl) (pe_tx [] (by decide +kernel)) (pv 0) (by rfl)))))))), ?_⟩
  walk_at "v0"
  rcases hv with ⟨rfl, t, ht, hk, hn⟩ | ⟨p, xs, rfl, hp, h3⟩
  · refine w_isiK ht hk (.inr (.inr (.inr (.inr rfl)))) ?_
    have e : (t == "tuple" || (t == "bool" && "tuple" == "int")) = false := by simp [hn]
    rw [e]
    walk_at "v"
    exact q _ (Same.refl _)
  · refine w_isiT hp ?_ (by decide)
    walk_at "v"
    rcases h3 with ⟨rfl, hl⟩ | ⟨x, y, rfl, rfl, hx⟩ | ⟨l, y, rfl, rfl, zl, hl, hy⟩ | ⟨l, m, rfl, zl, zm, hl, hm, rfl⟩
    · refine w_ifT (by simp; omega) ?_
      walk_at "v"
      exact q _ (Same.refl _)
    · walk_at "v"
      refine ⟨x, false, rfl, hx, fun H1 s1 => ?_⟩
      walk_at "v"
      exact q _ s1
    · walk_at "v"
      refine ⟨_, true, rfl, .inl ⟨l, rfl, zl, (decide_eq_true hl).symm⟩, fun H1 s1 => ?_⟩
      walk_at "v"
      refine ⟨y, false, rfl, hy.mono s1, fun H2 s2 => ?_⟩
      walk_at "v"
      exact q _ (s1.trans s2)
    · walk_at "v"
      refine ⟨_, true, rfl, .inl ⟨l, rfl, zl, (decide_eq_true hl).symm⟩, fun H1 s1 => ?_⟩
      walk_at "v"
      refine ⟨_, true, rfl, .inl ⟨m, rfl, zm, (decide_eq_true hm).symm⟩, fun H2 s2 => ?_⟩
      walk_at "v"
      have hf : [V.str (tx l), V.str (tx m)].all flatV = true := rfl
      refine w_inT (by walk_at "vget") rfl hf ?_
      rw [in_pair2]
      exact q _ (s1.trans s2)
/-- check_text: nothing, or the error with the value -/
def spCheckD (K : PySem.W.Frag) (C : Addr) : Sp := fun vs H Q E => ∃ v b, vs = [v] ∧ IsTx K H v b ∧ (b = true → ∀ H', Same H H' → Q .non H') ∧ (b = false → ∀ H' d, Same H H' → H' d = some (xdG v) → E (.ref C) (some d) H')
theorem ok_check_text (T : Txt K mg) (c_is_text : Cal P w K mg base 1 "is_text" ["value"] (spIsTx K)) : Cal P w K mg base 2 "check_text" ["text"] (spCheckD K (errAt mg "InvalidText")) := by
  refine calX T.d_check_text sc_check_text (by rintro vs H Q E ⟨v, b, rfl, _⟩; rfl) (fun cdv f A outer s H vs Q E hr hgd h => ?_)
  obtain ⟨v, b, rfl, hv, q1, q2⟩ := h
  refine ⟨_, (pss_one (ps_if (pt_not (pt_val (pe_g c_is_text hr (by decide) hgd (by rfl) (passAt tk_def) (pa_cons (pv 0) pa_nil)))) (pss_one (ps_rzA mg T.x_InvalidText rfl (by rfl) tk_def hr (by rfl) (pa_cons (pv 0) pa_nil))) pss_nil)), ?_⟩
  walk_at "v0"
  refine ⟨v, b, rfl, hv, fun H1 s1 => ?_⟩
  walk_at "v"
  cases b with
  | true =>
    walk_at "v"
    exact q1 rfl _ s1
  | false =>
    walk_at "v"
    refine w_rz ?_
    walk_at "v"
    refine w_one fun d hd => ?_
    exact q2 rfl _ d (Same.new s1 hd) upd_same
/-- what is_count answers of v -/
def IsCt (K : PySem.W.Frag) (H : Hp) (v : V) (b : Bool) : Prop := (∃ i, v = .int i ∧ b = decide (0 ≤ i)) ∨ (b = false ∧ ∃ t, TyX K H v (.type t) ∧ Kind t ∧ t ≠ "int")
def spIsInt (K : PySem.W.Frag) : Sp := fun vs H Q _ => ∃ v t, vs = [v] ∧ TyX K H v (.type t) ∧ Kind t ∧ Q (.bl (t == "int")) H
theorem ok_is_integer (T : Txt K mg) : Cal P w K mg base 1 "is_integer" ["value"] (spIsInt K) := by
  refine cal0 T.d_is_integer sc_is_integer (by rintro vs H Q E ⟨v, t, rfl, _⟩; rfl) (fun cdv f A outer s H vs Q E hr hgd h => ?_)
  obtain ⟨v, t, rfl, ht, hk, q⟩ := h
  refine ⟨_, (pss_one (ps_ret (pe_and (pe_callB (kIsi K rfl) (by rfl) T.n_isinstance (by decide +kernel) (pa_cons (pv 0) (pa_cons (pe_bltn (v := .ty "int") (by rfl) T.n_int (by decide +kernel) rfl) pa_nil))) (pe_one (pe_not (pe_callB (kIsi K rfl) (by rfl) T.n_isinstance (by decide +kernel) (pa_cons (pv 0) (pa_cons (pe_bltn (v := .ty "bool") (by rfl) T.n_bool (by decide +kernel) rfl) pa_nil)))))))), ?_⟩
  walk_at "v0"
  refine w_isiK ht hk (.inl rfl) ?_
  by_cases hi : t = "int"
  · subst hi
    walk_at "v"
    refine w_isiK ht hk (.inr (.inl rfl)) ?_
    walk_at "v"
    exact q
  · by_cases hb : t = "bool"
    · subst hb
      walk_at "v"
      refine w_isiK ht hk (.inr (.inl rfl)) ?_
      walk_at "v"
      exact q
    · have e : (t == "int" || (t == "bool" && "int" == "int")) = false := by simp [hi, hb]
      have e2 : (t == "int") = false := by simp [hi]
      rw [e]
      rw [e2] at q
      walk_at "v"
      exact q
def spIsCt (K : PySem.W.Frag) : Sp := fun vs H Q _ => ∃ v b, vs = [v] ∧ IsCt K H v b ∧ Q (.bl b) H
theorem ok_is_count (T : Txt K mg) (c_is_integer : Cal P w K mg base 1 "is_integer" ["value"] (spIsInt K)) : Cal P w K mg base 2 "is_count" ["value"] (spIsCt K) := by
  refine cal0 T.d_is_count sc_is_count (by rintro vs H Q E ⟨v, b, rfl, _⟩; rfl) (fun cdv f A outer s H vs Q E hr hgd h => ?_)
  obtain ⟨v, b, rfl, hv, q⟩ := h
  refine ⟨_, (pss_one (ps_ret (pe_and (pe_g c_is_integer hr (by decide) hgd (by rfl) noX (pa_cons (pv 0) pa_nil)) (pe_one (pe_cmpR uGe (pv 0) pe_int (nomark _)))))), ?_⟩
  walk_at "v0"
  rcases hv with ⟨i, rfl, rfl⟩ | ⟨rfl, t, ht, hk, hn⟩
  · refine ⟨_, "int", rfl, .base (.int i), .inl rfl, ?_⟩
    walk_at "v"
    exact q
  · refine ⟨v, t, rfl, ht, hk, ?_⟩
    have e2 : (t == "int") = false := by simp [hn]
    rw [e2]
    walk_at "v"
    exact q
def spCheckC (K : PySem.W.Frag) (C : Addr) : Sp := fun vs H Q E => ∃ v b, vs = [v] ∧ IsCt K H v b ∧ (b = true → Q .non H) ∧ (b = false → ∀ H' d, Same H H' → H' d = some (xdG v) → E (.ref C) (some d) H')
theorem ok_check_count (T : Txt K mg) (c_is_count : Cal P w K mg base 2 "is_count" ["value"] (spIsCt K)) : Cal P w K mg base 3 "check_count" ["count"] (spCheckC K (errAt mg "InvalidCount")) := by
  refine calX T.d_check_count sc_check_count (by rintro vs H Q E ⟨v, b, rfl, _⟩; rfl) (fun cdv f A outer s H vs Q E hr hgd h => ?_)
  obtain ⟨v, b, rfl, hv, q1, q2⟩ := h
  refine ⟨_, (pss_one (ps_if (pt_not (pt_val (pe_g c_is_count hr (by decide) hgd (by rfl) (passAt tk_def) (pa_cons (pv 0) pa_nil)))) (pss_one (ps_rzA mg T.x_InvalidCount rfl (by rfl) tk_def hr (by rfl) (pa_cons (pv 0) pa_nil))) pss_nil)), ?_⟩
  walk_at "v0"
  refine ⟨v, b, rfl, hv, ?_⟩
  walk_at "v"
  cases b with
  | true =>
    walk_at "v"
    exact q1 rfl
  | false =>
    walk_at "v"
    refine w_rz ?_
    walk_at "v"
    refine w_one fun d hd => ?_
    exact q2 rfl _ d (same_new hd) upd_same
theorem isct_mono {H H' : Hp} {v : V} {b : Bool} (s : Same H H') (h : IsCt K H v b) : IsCt K H' v b := by
  rcases h with h | ⟨h1, t, h2, h3⟩
  · exact .inl h
  · exact .inr ⟨h1, t, tyx_mono s h2, h3⟩
theorem w_find {l m : List Nat} {H : Hp} {Q : VK} (q : Q (.int (Txt.find (tx l) (tx m))) H) : rFindU (.str (tx l)) [.str (tx m)] H Q := ⟨tx l, tx m, rfl, rfl, q⟩
theorem w_find3 {l m : List Nat} {i : Int} {H : Hp} {Q : VK} (q : Q (.int (Txt.find3 (tx l) (tx m) i)) H) : rFind3U (.str (tx l)) [.str (tx m), .int i] H Q := ⟨tx l, tx m, i, rfl, rfl, q⟩
def spRound : Sp := fun vs H Q _ => ∃ w : List Nat, vs = [.str (tx w)] ∧ 0 < w.length ∧ w.length ≤ 100000 ∧ ∀ r : Nat, IsR w r → Q (.int (r : Int)) H
theorem ok_round_length (T : Txt K mg) : Cal P w K mg base 1 "round_length" ["text"] spRound := by
  refine cal0 T.d_round_length sc_round_length (by rintro vs H Q E ⟨w, rfl, _⟩; rfl) (fun cdv f A outer s H vs Q E hr hgd h => ?_)
  obtain ⟨w, rfl, hn, zw, q⟩ := h
  refine ⟨_, (pss_one (ps_ret (kBm K rfl PySem.F.plainAttrs_str PySem.F.slot_str_find PySem.F.type_str_find uFind3 (pe_op (kAdd K rfl) (pv 0) (pv 0)) (pa_cons (pv 0) (pa_cons pe_int pa_nil))))), ?_⟩
  walk_at "v0"
  refine ⟨rfl, ?_⟩
  walk_at "v"
  refine w_find3 ?_
  obtain ⟨r, h1, h2⟩ := find_root hn
  rw [h1]
  exact q r h2
/-- the number of a turn, or -1 -/
def TurnNo (u v : List Nat) (k : Int) : Prop := (k = -1 ∧ ¬ (u.length = v.length ∧ ∃ j : Nat, j ≤ u.length ∧ rot j u = v)) ∨ ∃ j : Nat, k = (j : Int) ∧ u.length = v.length ∧ rot j u = v ∧ j ≤ u.length ∧ (0 < u.length → ∀ r, IsR u r → j < r) ∧ (u.length = 0 → j = 0)
def spTurnNo : Sp := fun vs H Q _ => ∃ u v : List Nat, vs = [.str (tx u), .str (tx v)] ∧ u.length ≤ 100000 ∧ v.length ≤ 100000 ∧ ∀ k : Int, TurnNo u v k → Q (.int k) H
theorem ok_turn_number (T : Txt K mg) : Cal P w K mg base 1 "turn_number" ["one", "other"] spTurnNo := by
  refine cal0 T.d_turn_number sc_turn_number (by rintro vs H Q E ⟨u, v, rfl, _⟩; rfl) (fun cdv f A outer s H vs Q E hr hgd h => ?_)
  obtain ⟨u, v, rfl, zu, zv, q⟩ := h
  refine ⟨_, (pss_one (ps_ret (pe_ifExp (pt_cmpR (kEq K rfl hr) (pe_callB (kLen K rfl) (by rfl) T.n_len (by decide +kernel) (pa_cons (pv 0) pa_nil)) (pe_callB (kLen K rfl) (by rfl) T.n_len (by decide +kernel) (pa_cons (pv 1) pa_nil)) (nomark _)) (pe_m1 PySem.F.slot_str_find PySem.F.type_str_find uFind (pe_op (kAdd K rfl) (pv 0) (pv 0)) (pv 1)) (pe_un un_neg pe_int)))), ?_⟩
  walk_at "v0"
  refine w_if (fun h => ?_) (fun h => ?_)
  · have h := of_decide_eq_true h
    have e : u.length = v.length := by omega
    walk_at "v"
    refine w_find ?_
    by_cases hn : 0 < u.length
    · rcases find_turn hn e with ⟨h1, h2⟩ | ⟨i, h1, h2, h3⟩
      · rw [h1]
        exact q _ (.inl ⟨rfl, fun ⟨_, j, hj, hr⟩ => h2 j ((trn_iff hn hj e).mp hr)⟩)
      · rw [h1]
        obtain ⟨r, hr'⟩ := exR u hn
        have hi := h3 r hr'
        have hl := hr'.le
        exact q _ (.inr ⟨i, rfl, e, (trn_iff hn (by omega) e).mpr h2, by omega, fun _ => h3, fun z => by omega⟩)
    · have eu : u = [] := List.length_eq_zero_iff.mp (by omega)
      have ev : v = [] := List.length_eq_zero_iff.mp (by omega)
      subst eu ev
      rw [find_nil]
      exact q _ (.inr ⟨0, rfl, rfl, rfl, by simp, fun z => by simp at z, fun _ => rfl⟩)
  · have h := of_decide_eq_false h
    walk_at "v"
    exact q _ (.inl ⟨rfl, fun ⟨e, _⟩ => h (by omega)⟩)
/-- what stands for a lag or for none -/
def Lg (H : Hp) (v : V) (o : Option (List Nat × List Nat)) : Prop := (o = none ∧ v = .non) ∨ ∃ p a b, o = some (a, b) ∧ v = .ref p ∧ H p = some (.tup [.str (tx a), .str (tx b)])
theorem Lg.mono {H H' : Hp} {v : V} {o : Option (List Nat × List Nat)} (s : Same H H') (h : Lg H v o) : Lg H' v o := by
  rcases h with h | ⟨p, a, b, h1, h2, h3⟩
  · exact .inl h
  · exact .inr ⟨p, a, b, h1, h2, s _ _ h3⟩
def Ref (C : Addr) (E : XK) (H : Hp) (v : V) : Prop := ∀ H' d, Same H H' → H' d = some (xdG v) → E (.ref C) (some d) H'
def spAfter : Sp := fun vs H Q _ => ∃ x y : List Nat, vs = [.str (tx x), .str (tx y)] ∧ x.length ≤ 100000 ∧ y.length ≤ 100000 ∧ ∀ v H', Same H H' → Lg H' v (bh x y) → Q v H'
theorem ok_lag_after (T : Txt K mg) : Cal P w K mg base 1 "lag_after" ["left", "right"] spAfter := by
  refine cal0 T.d_lag_after sc_lag_after (by rintro vs H Q E ⟨x, y, rfl, _⟩; rfl) (fun cdv f A outer s H vs Q E hr hgd h => ?_)
  obtain ⟨x, y, rfl, zx, zy, q⟩ := h
  refine ⟨_, (pss_cons (ps_if (pt_val (pe_m1 PySem.F.slot_str_startswith PySem.F.type_str_startswith uStarts (pv 0) (pv 1))) (pss_one (ps_ret (pe_tup (pa_cons (pe_slice (kSl K rfl) (pv 0) (po_some (pe_callB (kLen K rfl) (by rfl) T.n_len (by decide +kernel) (pa_cons (pv 1) pa_nil))) po_none) (pa_cons (pe_tx [] (by decide +kernel)) pa_nil))))) pss_nil)
  (pss_cons (ps_if (pt_val (pe_m1 PySem.F.slot_str_startswith PySem.F.type_str_startswith uStarts (pv 1) (pv 0))) (pss_one (ps_ret (pe_tup (pa_cons (pe_tx [] (by decide +kernel)) (pa_cons (pe_slice (kSl K rfl) (pv 1) (po_some (pe_callB (kLen K rfl) (by rfl) T.n_len (by decide +kernel) (pa_cons (pv 0) pa_nil))) po_none) pa_nil))))) pss_nil)
  (pss_one (ps_ret pe_non)))), ?_⟩
  walk_at "v0"
  refine w_starts ?_
  walk_at "v"
  refine w_if (fun h => ?_) (fun h => ?_)
  · have h := of_decide_eq_true h
    walk_at "v"
    refine ⟨by walk_at "sz", fun p hp => ?_⟩
    walk_at "v"
    refine q _ _ (same_new hp) (.inr ⟨p, _, _, ?_, rfl, upd_same⟩)
    unfold bh
    rw [if_pos h]
  · have h := of_decide_eq_false h
    walk_at "v"
    refine w_starts ?_
    walk_at "v"
    refine w_if (fun h2 => ?_) (fun h2 => ?_)
    · have h2 := of_decide_eq_true h2
      walk_at "v"
      refine ⟨by walk_at "sz", fun p hp => ?_⟩
      walk_at "v"
      refine q _ _ (same_new hp) (.inr ⟨p, _, _, ?_, rfl, upd_same⟩)
      unfold bh
      rw [if_neg h, if_pos h2]
    · have h2 := of_decide_eq_false h2
      walk_at "v"
      refine q _ _ (Same.refl _) (.inl ⟨?_, rfl⟩)
      unfold bh
      rw [if_neg h, if_neg h2]
def spCheckL (K : PySem.W.Frag) (C : Addr) : Sp := fun vs H Q E => ∃ v b, vs = [v] ∧ IsLg K H v b ∧ (b = true → ∀ H', Same H H' → Q .non H') ∧ (b = false → Ref C E H v)
theorem ok_check_lag (T : Txt K mg) (c_is_lag : Cal P w K mg base 2 "is_lag" ["value"] (spIsLg K)) : Cal P w K mg base 3 "check_lag" ["lag"] (spCheckL K (errAt mg "InvalidText")) := by
  refine calX T.d_check_lag sc_check_lag (by rintro vs H Q E ⟨v, b, rfl, _⟩; rfl) (fun cdv f A outer s H vs Q E hr hgd h => ?_)
  obtain ⟨v, b, rfl, hv, q1, q2⟩ := h
  refine ⟨_, (pss_one (ps_if (pt_not (pt_val (pe_g c_is_lag hr (by decide) hgd (by rfl) (passAt tk_def) (pa_cons (pv 0) pa_nil)))) (pss_one (ps_rzA mg T.x_InvalidText rfl (by rfl) tk_def hr (by rfl) (pa_cons (pv 0) pa_nil))) pss_nil)), ?_⟩
  walk_at "v0"
  refine ⟨v, b, rfl, hv, fun H1 s1 => ?_⟩
  walk_at "v"
  cases b with
  | true =>
    walk_at "v"
    exact q1 rfl _ s1
  | false =>
    walk_at "v"
    refine w_rz ?_
    walk_at "v"
    refine w_one fun d hd => ?_
    exact q2 rfl _ d (Same.new s1 hd) upd_same
def spLagB (K : PySem.W.Frag) (C : Addr) : Sp := fun vs H Q E => ∃ a l m ba bl bm, vs = [a, l, m] ∧ IsLg K H a ba ∧ IsTx K H l bl ∧ IsTx K H m bm ∧
  (ba = false → Ref C E H a) ∧ (ba = true → bl = false → Ref C E H l) ∧ (ba = true → bl = true → bm = false → Ref C E H m) ∧
  (ba = true → bl = true → bm = true → ∃ x y u v, IsSmall K H a x y ∧ l = .str (tx u) ∧ m = .str (tx v) ∧ u.length ≤ 10000 ∧ v.length ≤ 10000 ∧ ∀ o H', Same H H' → Lg H' o (bh (x ++ u) (y ++ v)) → Q o H')
theorem fn_lag_behind (T : Txt K mg) (c_check_lag : Cal P w K mg base 3 "check_lag" ["lag"] (spCheckL K (errAt mg "InvalidText"))) (c_check_text : Cal P w K mg base 2 "check_text" ["text"] (spCheckD K (errAt mg "InvalidText"))) (c_lag_after : Cal P w K mg base 1 "lag_after" ["left", "right"] spAfter)
    (f : Addr) (fd : FuncData) (F : Fun K "lag_behind" "lag_behind" s_lag_behind f fd) : FnG P w K mg base 4 f fd ["lag", "one", "other"] (spLagB K (errAt mg "InvalidText")) := by
  refine fnG_of F sc_lag_behind (by rintro vs H Q E ⟨a, l, m, ba, bl, bm, rfl, _⟩; rfl) (fun cdv A outer s H vs Q E hr hgd h => ?_)
  obtain ⟨a, l, m, ba, bl, bm, rfl, ha, hl, hm, q1, q2, q3, q4⟩ := h
  refine ⟨_, (pss_cons (ps_expr (pe_g c_check_lag hr (by decide) hgd (by rfl) (passAt tk_def) (pa_cons (pv 0) pa_nil)))
  (pss_cons (ps_expr (pe_g c_check_text hr (by decide) hgd (by rfl) (passAt tk_def) (pa_cons (pv 1) pa_nil)))
  (pss_cons (ps_expr (pe_g c_check_text hr (by decide) hgd (by rfl) (passAt tk_def) (pa_cons (pv 2) pa_nil)))
  (pss_one (ps_ret (pe_g c_lag_after hr (by decide) hgd (by rfl) (passAt tk_def) (pa_cons (pe_op (kAdd K rfl) (pe_ix (kIx K rfl) (pv 0) pe_int (fun _ _ => rfl)) (pv 1)) (pa_cons (pe_op (kAdd K rfl) (pe_ix (kIx K rfl) (pv 0) pe_int (fun _ _ => rfl)) (pv 2)) pa_nil)))))))), ?_⟩
  walk_at "v0"
  refine ⟨a, ba, rfl, ha, fun hb H1 s1 => ?_, fun hb => q1 hb⟩
  subst hb
  walk_at "v"
  refine ⟨l, bl, rfl, hl.mono s1, fun hb H2 s2 => ?_, fun hb H2 d s2 h2 => q2 rfl hb H2 d (s1.trans s2) h2⟩
  subst hb
  walk_at "v"
  have S2 := s1.trans s2
  refine ⟨m, bm, rfl, hm.mono S2, fun hb H3 s3 => ?_, fun hb H3 d s3 h3 => q3 rfl rfl hb H3 d (S2.trans s3) h3⟩
  subst hb
  obtain ⟨x, y, u, v, ⟨p, rfl, hp, zx, zy, lx, ly⟩, rfl, rfl, zu, zv, q⟩ := q4 rfl rfl rfl
  have S3 := S2.trans s3
  have hp3 := S3 _ _ hp
  walk_at "v"
  refine ⟨x ++ u, y ++ v, rfl, by walk_at "sz", by walk_at "sz", fun o H4 s4 g4 => ?_⟩
  exact q o H4 (S3.trans s4) g4
theorem ok_lag_behind (T : Txt K mg) (c_check_lag : Cal P w K mg base 3 "check_lag" ["lag"] (spCheckL K (errAt mg "InvalidText"))) (c_check_text : Cal P w K mg base 2 "check_text" ["text"] (spCheckD K (errAt mg "InvalidText"))) (c_lag_after : Cal P w K mg base 1 "lag_after" ["left", "right"] spAfter) :
    Cal P w K mg base 4 "lag_behind" ["lag", "one", "other"] (spLagB K (errAt mg "InvalidText")) := cal_of T.d_lag_behind (fn_lag_behind T c_check_lag c_check_text c_lag_after)
/-- from other, lag, one -/
def rot3 {α : Type} : List α → List α
  | [a, b, c] => [b, c, a]
  | l => l
theorem ok_lag_behind_w (T : Txt K mg) (c_check_lag : Cal P w K mg base 3 "check_lag" ["lag"] (spCheckL K (errAt mg "InvalidText"))) (c_check_text : Cal P w K mg base 2 "check_text" ["text"] (spCheckD K (errAt mg "InvalidText"))) (c_lag_after : Cal P w K mg base 1 "lag_after" ["left", "right"] spAfter) :
    CalW P w K mg base 4 "lag_behind" ["lag", "one", "other"] ["other", "lag", "one"] (fun {α} (l : List α) => rot3 l) (spLagB K (errAt mg "InvalidText")) :=
  calW_of T.d_lag_behind (fn_lag_behind T c_check_lag c_check_text c_lag_after) (by
    intro f fd F s ws hl
    obtain ⟨oc, od, kV, doc, pm, an, cdv, ct, osl, rfl, lk, hcd⟩ := F.ex
    match ws, hl with
    | [a, b, c], _ => exact .of_eq rfl)
theorem hl_lag_behind_w {vs : List V} {us : List Value} (hn : vs.length = 3) (r : Vals vs us) : Vals (rot3 vs) (rot3 us) := by
  match vs, us, r with
  | [a, b, c], [a', b', c'], .cons r1 (.cons r2 (.cons r3 .nil)) => exact .cons r2 (.cons r3 (.cons r1 .nil))
end
end K12
set_option Elab.async false
set_option linter.all false
set_option maxRecDepth 100000
set_option maxHeartbeats 4000000
namespace K12
open PySem PySem.Spec PyProof.Rows L2 SL Rt Wd
local macro_rules | `(tactic| walk_at "sz") => `(tactic| first
  | assumption
  | omega
  | (simp only [List.length_cons, List.length_nil, List.length_append, List.length_map, List.length_take, List.length_drop, List.length_reverse, List.length_replicate, List.length_range, tx_len, sizeLine_eq, CMul, CDiv, Nat.reduceAdd, Nat.reduceLeDiff]; first | done | omega)
  | decide)
local macro_rules | `(tactic| walk_at "ne") => `(tactic| first
  | assumption
  | exact Ne.symm (by assumption)
  | (refine ne_of_none (H := ?H0) (o := ?oo) ?hh ?hn; (case hn => assumption); (case hh => walk_at "hget"))
  | (refine Ne.symm (ne_of_none (H := ?H0) (o := ?oo) ?hh ?hn); (case hn => assumption); (case hh => walk_at "hget")))
local macro_rules | `(tactic| walk_at "hget") => `(tactic| first
  | assumption
  | exact upd_same
  | (refine (upd_ne ?n).trans ?g; (case n => walk_at "ne"); (case g => walk_at "hget"))
  | (refine fr_get (p := ?pp) (H := ?H0) ?f ?g ?n; (case f => assumption); (case g => walk_at "hget"); (case n => walk_at "ne"))
  | (refine same_get (H := ?H0) ?f ?g; (case f => assumption); (case g => walk_at "hget")))
local macro_rules | `(tactic| walk_at "vget") => `(tactic| first
  | assumption
  | (refine SqL.of ?g; (case g => walk_at "hget"))
  | (refine SqT.of ?g; (case g => walk_at "hget"))
  | (refine sql_new ?n ?g; (case n => assumption); (case g => walk_at "vget"))
  | (refine sqt_new ?n ?g; (case n => assumption); (case g => walk_at "vget"))
  | (refine sql_upd ?n ?g; (case n => walk_at "ne"); (case g => walk_at "vget"))
  | (refine sqt_upd ?n ?g; (case n => walk_at "ne"); (case g => walk_at "vget"))
  | (refine Same.seq (H := ?H0) ?f ?g; (case f => assumption); (case g => walk_at "vget"))
  | (refine Same.seqT (H := ?H0) ?f ?g; (case f => assumption); (case g => walk_at "vget"))
  | (refine fr_sql (b := ?pp) (H := ?H0) ?f ?g ?n; (case f => assumption); (case g => walk_at "vget"); (case n => walk_at "ne"))
  | (refine fr_sqt (b := ?pp) (H := ?H0) ?f ?g ?n; (case f => assumption); (case g => walk_at "vget"); (case n => walk_at "ne")))
local macro_rules | `(tactic| walk_at "at") => `(tactic| first
  | assumption
  | rfl
  | (refine atI_n ?h; (case h => first | assumption | rfl))
  | (refine atI_i ?h0 ?h; (case h0 => omega); (case h => first | assumption | rfl)))
local macro_rules | `(tactic| walk_at "v1") => `(tactic| first
  | with_reducible refine w_seq ?_
  | with_reducible refine w_enx ?_
  | with_reducible refine w_ert ?_
  | with_reducible refine w_asg ?_
  | ((with_reducible refine w_var (v := ?vv) ?h ?_); (case h => exact rfl))
  | with_reducible refine w_op ?_
  | with_reducible refine w_c ?_
  | with_reducible refine w_cons ?_
  | with_reducible refine w_nil ?_
  | with_reducible refine w_cb ?_
  | with_reducible refine w_call ?_
  | with_reducible refine w_k ?_
  | with_reducible refine w_i ?_
  | with_reducible refine w_two ?_
  | ((with_reducible refine w_name ?_); (try simp only [List.set_cons_zero, List.set_cons_succ]))
  | with_reducible refine w_ifS ?_
  | with_reducible refine w_ret ?_
  | with_reducible refine w_drop ?_
  | with_reducible refine w_test ?_
  | with_reducible refine w_B ?_
  | with_reducible refine iteT ?_
  | with_reducible refine iteF ?_
  | with_reducible refine w_same ?_
  | ((with_reducible refine w_ifT ?h ?_); (case h => first | rfl | assumption))
  | ((with_reducible refine w_ifF ?h ?_); (case h => first | rfl | assumption))
  | ((with_reducible refine w_diff ?_ ?h); (case h => decide +kernel))
  | ((with_reducible refine w_wp ?h ?_); (case h => rfl); (try simp only [wipe, List.set_cons_zero, List.set_cons_succ, List.foldl_cons, List.foldl_nil]))
  | ((with_reducible refine w_acc (acc := ?aa) ?h ?_ ?z); (case h => walk_at "hget"); (case z => walk_at "sz"))
  | with_reducible refine w_addI ?_
  | with_reducible refine w_subI ?_
  | with_reducible refine w_lt ?_
  | with_reducible refine w_le ?_
  | with_reducible refine w_gt ?_
  | with_reducible refine w_ge ?_
  | with_reducible refine w_eqI ?_
  | with_reducible refine w_neI ?_
  | with_reducible refine w_eqS ?_
  | with_reducible refine w_neS ?_
  | with_reducible refine w_neB ?_
  | ((with_reducible refine w_mulI ?_ ?h); (case h => walk_at "sz"))
  | ((with_reducible refine w_divI ?_ ?h); (case h => walk_at "sz"))
  | ((with_reducible refine w_addS ?_ ?h); (case h => walk_at "sz"))
  | ((with_reducible refine w_mulS ?_ ?h); (case h => walk_at "sz"))
  | ((with_reducible refine w_ixL (xs := ?xx) (v := ?vv) ?h ?i ?_); (case h => walk_at "vget"); (case i => walk_at "at"))
  | ((with_reducible refine w_ixT (xs := ?xx) (v := ?vv) ?h ?i ?_); (case h => walk_at "vget"); (case i => walk_at "at"))
  | ((with_reducible refine w_ixS (c := ?cc) ?i ?_ ?h); (case i => walk_at "at"); (case h => walk_at "sz"))
  | ((with_reducible refine w_lenS' ?_ ?h); (case h => walk_at "sz"))
  | ((with_reducible refine w_lenL' (xs := ?xx) ?h ?_); (case h => walk_at "vget"))
  | ((with_reducible refine w_lenT' (xs := ?xx) ?h ?_); (case h => walk_at "vget"))
  | with_reducible refine w_isnN ?_
  | with_reducible refine w_isnI ?_
  | with_reducible refine w_isnS ?_
  | with_reducible refine w_isnR ?_
  | with_reducible refine w_isnB ?_
  | with_reducible refine w_isoN ?_
  | with_reducible refine w_isoI ?_
  | with_reducible refine w_isoS ?_
  | with_reducible refine w_isoR ?_
  | with_reducible refine w_isoB ?_
  | with_reducible refine w_abs ?_
  | with_reducible refine w_int ?_
  | with_reducible refine w_intB ?_
  | with_reducible refine w_min2 ?_
  | with_reducible refine w_max2 ?_
  | with_reducible refine w_min3 ?_
  | with_reducible refine w_sl ?_
  | with_reducible refine w_np ?_
  | with_reducible refine w_part ?_
  | ((with_reducible refine w_sStN ?_ ?h); (case h => walk_at "sz"))
  | ((with_reducible refine w_sSfN ?_ ?h); (case h => walk_at "sz"))
  | ((with_reducible refine w_sSt ?_ ?h); (case h => walk_at "sz"))
  | ((with_reducible refine w_sSf ?_ ?h); (case h => walk_at "sz"))
  | with_reducible refine w_and ?_
  | with_reducible refine w_or ?_
  | with_reducible refine w_not ?_
  | with_reducible refine w_andV ?_
  | with_reducible refine w_orV ?_
  | with_reducible refine w_notV ?_
  | with_reducible refine w_ifE ?_
  | with_reducible refine w_tup ?_
  | with_reducible refine w_lst ?_
  | with_reducible refine w_chain ?_
  | ((with_reducible refine w_par ?_); (try simp only [List.set_cons_zero, List.set_cons_succ]))
  | ((with_reducible refine w_par3 ?_); (try simp only [List.set_cons_zero, List.set_cons_succ]))
  | with_reducible refine w_three ?_
  | with_reducible refine w_un ?_
  | with_reducible refine w_neg ?_
  | with_reducible refine w_next ?_
  | with_reducible refine w_ebk ?_
  | with_reducible refine w_ect ?_
  | with_reducible refine w_for ?_
  | with_reducible refine w_lc ?_
  | with_reducible refine w_yes ?_
  | with_reducible refine w_il ?_
  | with_reducible refine w_it ?_
  | with_reducible refine w_isx ?_
  | with_reducible refine w_ir1 ?_
  | with_reducible refine w_ir2 ?_
  | with_reducible refine w_ies ?_
  | with_reducible refine w_ir3 ?_
  | with_reducible refine w_s1 ?_
  | with_reducible refine w_s1l ?_
  | ((with_reducible refine w_r1 ?_ ?h); (case h => walk_at "sz"))
  | ((with_reducible refine w_r2 ?_ ?h); (case h => walk_at "sz"))
  | ((with_reducible refine w_l1 (xs := ?xx) ?h ?_); (case h => walk_at "vget"))
  | ((with_reducible refine w_t1 (xs := ?xx) ?h ?_); (case h => walk_at "vget"))
  | ((with_reducible refine w_isL (xs := ?xx) ?h ?_); (case h => walk_at "vget"))
  | with_reducible refine w_isS ?_
  | ((with_reducible refine w_app (xs := ?xx) ?h ?_ ?z); (case h => walk_at "hget"); (case z => walk_at "sz"))
  | with_reducible refine w_inC ?_
  | with_reducible refine w_rev ?_
  | ((with_reducible refine w_rev1S ?_ ?h); (case h => walk_at "sz"))
  | with_reducible refine w_lrg ?_
  | with_reducible refine w_brk ?_
  | with_reducible refine w_cont ?_
  | with_reducible refine w_retN ?_
  | with_reducible refine w_bm ?_
  | with_reducible refine w_bm0 ?_
  | with_reducible refine w_m1 ?_
  | with_reducible refine w_sub ?_
  | ((with_reducible refine w_setL (xs := ?xx) (j := ?jj) ?h ?i ?_); (case h => walk_at "hget"); (case i => first | rfl | assumption); (try simp only [Int.reduceToNat, List.set_cons_zero, List.set_cons_succ]))
  | with_reducible refine w_ip ?_
  | with_reducible refine w_gnil ?_
  | with_reducible refine w_gcons ?_
  | ((with_reducible refine w_gL (xs := ?xx) ?h ?_ ?n); (case h => walk_at "vget"); (case n => rfl))
  | ((with_reducible refine w_gT (xs := ?xx) ?h ?_ ?n); (case h => walk_at "vget"); (case n => rfl))
  | ((with_reducible refine w_aug (v := ?vv) ?h ?_); (case h => exact rfl)))
local macro_rules | `(tactic| walk_at "v") => `(tactic| repeat walk_at "v1")
local macro_rules | `(tactic| walk_at "v0") => `(tactic| (simp only [L2.start, cxK, ends_rt, List.map_cons, List.map_nil, List.length_cons, List.length_nil, Nat.reduceAdd, Nat.reduceSub, List.replicate_succ, List.replicate_zero, List.append_nil, List.cons_append, List.nil_append]; walk_at "v"))
local macro_rules | `(tactic| walk_at "u1") => `(tactic| first
  | with_reducible refine w_seqA ?_
  | with_reducible refine w_seqD ?_
  | with_reducible refine w_seqP ?_
  | with_reducible refine w_seqP3 ?_
  | with_reducible refine w_seqG ?_
  | ((fail_if_success (with_reducible refine w_seq ?_)); walk_at "v1"))
local macro_rules | `(tactic| walk_at "u") => `(tactic| repeat walk_at "u1")
local macro_rules | `(tactic| walk_at "u0") => `(tactic| (simp only [L2.start, cxK, ends_rt, List.map_cons, List.map_nil, List.length_cons, List.length_nil, Nat.reduceAdd, Nat.reduceSub, List.replicate_succ, List.replicate_zero, List.append_nil, List.cons_append, List.nil_append]; walk_at "u"))
local macro_rules | `(tactic| walk_at "t1") => `(tactic| ((fail_if_success (with_reducible refine w_seq ?_)); walk_at "v1"))
local macro_rules | `(tactic| walk_at "t") => `(tactic| repeat walk_at "t1")

section
variable {P : Program} {w : World} {K : PySem.W.Frag} {mg : Str → Option Value} {base : Heap}
def spNum : Sp := fun vs H Q _ => ∃ (u v : List Nat) (n : Int), vs = [.str (tx u), .str (tx v), .int n] ∧ 0 < u.length ∧ 0 < v.length ∧ u.length ≤ 10000 ∧ v.length ≤ 10000 ∧ n.natAbs ≤ 10000 ∧
  ∀ p H', Same H H' → H p = none → H' p = some (.tup [.str (tx (numbered u v n).1), .str (tx (numbered u v n).2)]) → Q (.ref p) H'
theorem num_room {l m : Nat} (hl : 0 < l) (z : l ≤ 10000) (zm : m ≤ 10000) : m / l + 1 ≤ 1000000 ∧ l ≤ 1000000 ∧ l * (m / l + 1) ≤ 16777216 := by
  have h1 : m / l ≤ m := Nat.div_le_self _ _
  have h2 : l * (m / l) ≤ m := Nat.mul_div_le _ _
  have h3 : l * (m / l + 1) = l * (m / l) + l := Nat.mul_succ _ _
  omega
theorem ok_lag_numbered (T : Txt K mg) : Cal P w K mg base 1 "lag_numbered" ["one", "other", "number"] spNum := by
  refine cal0 T.d_lag_numbered sc_lag_numbered (by rintro vs H Q E ⟨u, v, n, rfl, _⟩; rfl) (fun cdv f A outer s H vs Q E hr hgd h => ?_)
  obtain ⟨u, v, n, rfl, hu, hv, zu, zv, zn, q⟩ := h
  refine ⟨_, (pss_cons (ps_set (i := 3) sc_lag_numbered.nd rfl (by first | exact Or.inl rfl | exact Or.inr rfl) (pe_ifExp (pt_cmpR uGt (pv 2) pe_int (nomark _)) (pv 1) (pv 0)))
  (pss_cons (ps_set (i := 4) sc_lag_numbered.nd rfl (by first | exact Or.inl rfl | exact Or.inr rfl) (pe_slice (kSl K rfl) (pe_op uMul (pv 3) (pe_op (kAdd K rfl) (pe_op uDiv (pe_callB uAbs (by rfl) T.n_abs (by decide +kernel) (pa_cons (pv 2) pa_nil)) (pe_callB (kLen K rfl) (by rfl) T.n_len (by decide +kernel) (pa_cons (pv 3) pa_nil))) pe_int)) po_none (po_some (pe_callB uAbs (by rfl) T.n_abs (by decide +kernel) (pa_cons (pv 2) pa_nil)))))
  (pss_one (ps_ret (pe_ifExp (pt_cmpR uGt (pv 2) pe_int (nomark _)) (pe_tup (pa_cons (pv 4) (pa_cons (pe_tx [] (by decide +kernel)) pa_nil))) (pe_tup (pa_cons (pe_tx [] (by decide +kernel)) (pa_cons (pv 4) pa_nil)))))))), ?_⟩
  have ea : (if n < 0 then -n else n) = (n.natAbs : Int) := by split <;> omega
  have room1 := num_room hu zu zn
  have room2 := num_room hv zv zn
  by_cases hp : 0 < n
  · have hd := decide_eq_true hp
    walk_at "v0"
    rw [ea]
    walk_at "v"
    rw [← Int.natCast_ediv, show ((n.natAbs / v.length : Nat) : Int) + 1 = ((n.natAbs / v.length + 1 : Nat) : Int) from rfl]
    refine w_mulSN ?_ room2
    have zp := rep_len (n.natAbs / v.length + 1) v
    have hz : (List.replicate (n.natAbs / v.length + 1) v).flatten.length ≤ 16777216 := by rw [zp, Nat.mul_comm]; exact room2.2.2
    walk_at "v"
    refine ⟨by walk_at "sz", fun p hp' => ?_⟩
    refine q p _ (same_new hp') hp' ?_
    unfold Rt.numbered
    rw [if_pos hp]
    refine upd_same.trans ?_
    rw [ea, Int.toNat_natCast]
    rfl
  · have hd := decide_eq_false hp
    walk_at "v0"
    rw [ea]
    walk_at "v"
    rw [← Int.natCast_ediv, show ((n.natAbs / u.length : Nat) : Int) + 1 = ((n.natAbs / u.length + 1 : Nat) : Int) from rfl]
    refine w_mulSN ?_ room1
    have zp := rep_len (n.natAbs / u.length + 1) u
    have hz : (List.replicate (n.natAbs / u.length + 1) u).flatten.length ≤ 16777216 := by rw [zp, Nat.mul_comm]; exact room1.2.2
    walk_at "v"
    refine ⟨by walk_at "sz", fun p hp' => ?_⟩
    refine q p _ (same_new hp') hp' ?_
    unfold Rt.numbered
    rw [if_neg hp]
    refine upd_same.trans ?_
    rw [ea, Int.toNat_natCast]
    rfl
theorem ok__law_numbered (T : Txt K mg) : Cal P w K mg base 1 "_law_numbered" ["left", "right", "number"] spNum := by
  refine cal0 T.d__law_numbered sc__law_numbered (by rintro vs H Q E ⟨u, v, n, rfl, _⟩; rfl) (fun cdv f A outer s H vs Q E hr hgd h => ?_)
  obtain ⟨u, v, n, rfl, hu, hv, zu, zv, zn, q⟩ := h
  refine ⟨_, (pss_cons (ps_set (i := 3) sc__law_numbered.nd rfl (by first | exact Or.inl rfl | exact Or.inr rfl) (pe_ifExp (pt_cmpR uGt (pv 2) pe_int (nomark _)) (pv 1) (pv 0)))
  (pss_cons (ps_set (i := 4) sc__law_numbered.nd rfl (by first | exact Or.inl rfl | exact Or.inr rfl) (pe_slice (kSl K rfl) (pe_op uMul (pv 3) (pe_op (kAdd K rfl) (pe_op uDiv (pe_callB uAbs (by rfl) T.n_abs (by decide +kernel) (pa_cons (pv 2) pa_nil)) (pe_callB (kLen K rfl) (by rfl) T.n_len (by decide +kernel) (pa_cons (pv 3) pa_nil))) pe_int)) po_none (po_some (pe_callB uAbs (by rfl) T.n_abs (by decide +kernel) (pa_cons (pv 2) pa_nil)))))
  (pss_one (ps_ret (pe_ifExp (pt_cmpR uGt (pv 2) pe_int (nomark _)) (pe_tup (pa_cons (pv 4) (pa_cons (pe_tx [] (by decide +kernel)) pa_nil))) (pe_tup (pa_cons (pe_tx [] (by decide +kernel)) (pa_cons (pv 4) pa_nil)))))))), ?_⟩
  have ea : (if n < 0 then -n else n) = (n.natAbs : Int) := by split <;> omega
  have room1 := num_room hu zu zn
  have room2 := num_room hv zv zn
  by_cases hp : 0 < n
  · have hd := decide_eq_true hp
    walk_at "v0"
    rw [ea]
    walk_at "v"
    rw [← Int.natCast_ediv, show ((n.natAbs / v.length : Nat) : Int) + 1 = ((n.natAbs / v.length + 1 : Nat) : Int) from rfl]
    refine w_mulSN ?_ room2
    have zp := rep_len (n.natAbs / v.length + 1) v
    have hz : (List.replicate (n.natAbs / v.length + 1) v).flatten.length ≤ 16777216 := by rw [zp, Nat.mul_comm]; exact room2.2.2
    walk_at "v"
    refine ⟨by walk_at "sz", fun p hp' => ?_⟩
    refine q p _ (same_new hp') hp' ?_
    unfold Rt.numbered
    rw [if_pos hp]
    refine upd_same.trans ?_
    rw [ea, Int.toNat_natCast]
    rfl
  · have hd := decide_eq_false hp
    walk_at "v0"
    rw [ea]
    walk_at "v"
    rw [← Int.natCast_ediv, show ((n.natAbs / u.length : Nat) : Int) + 1 = ((n.natAbs / u.length + 1 : Nat) : Int) from rfl]
    refine w_mulSN ?_ room1
    have zp := rep_len (n.natAbs / u.length + 1) u
    have hz : (List.replicate (n.natAbs / u.length + 1) u).flatten.length ≤ 16777216 := by rw [zp, Nat.mul_comm]; exact room1.2.2
    walk_at "v"
    refine ⟨by walk_at "sz", fun p hp' => ?_⟩
    refine q p _ (same_new hp') hp' ?_
    unfold Rt.numbered
    rw [if_neg hp]
    refine upd_same.trans ?_
    rw [ea, Int.toNat_natCast]
    rfl
/-- a new list of the lags ls -/
def Lst (Q : VK) (H : Hp) (ls : List (List Nat × List Nat)) : Prop := ∀ r vs H', Same H H' → H r = none → H' r = some (.lst vs) → DvAll H' vs (ls.map SL.pairD) → Q (.ref r) H'
def spStay (K : PySem.W.Frag) (C1 C2 : Addr) : Sp := fun vs H Q E => ∃ x y n bx by' bn, vs = [x, y, n] ∧ IsTx K H x bx ∧ IsTx K H y by' ∧ IsCt K H n bn ∧ (bx = false → Ref C1 E H x) ∧ (bx = true → by' = false → Ref C1 E H y) ∧
  (bx = true → by' = true → ∃ u v, x = .str (tx u) ∧ y = .str (tx v) ∧ u.length ≤ 1000 ∧ v.length ≤ 1000 ∧ (u = [] ∧ v = [] → Ref C1 E H x) ∧
    (¬ (u = [] ∧ v = []) → (bn = false → Ref C2 E H n) ∧ (bn = true → ∃ h : Nat, n = .int (h : Int) ∧ h ≤ 2000 ∧ Lst Q H (stay u v h))))
theorem dv_tup {H : Hp} {p D : Addr} {q : List Nat × List Nat} {xs : List V} (h : H p = some (.tup [.str (tx q.1), .str (tx q.2)])) (hD : H D = some (.lst xs)) : Dv (hide [D] H) (.ref p) (SL.pairD q) := by
  have n : p ∉ [D] := by
    simp
    intro e
    rw [e, hD] at h
    cases h
  exact .tup (hide_get h n) (.cons (.str _) (.cons (.str _) .nil))
theorem fn_staying (T : Txt K mg) (c_check_text : Cal P w K mg base 2 "check_text" ["text"] (spCheckD K (errAt mg "InvalidText"))) (c_check_count : Cal P w K mg base 3 "check_count" ["count"] (spCheckC K (errAt mg "InvalidCount"))) (c_turn_number : Cal P w K mg base 1 "turn_number" ["one", "other"] spTurnNo)
    (c_round_length : Cal P w K mg base 1 "round_length" ["text"] spRound) (c_lag_numbered : Cal P w K mg base 1 "lag_numbered" ["one", "other", "number"] spNum)
    (f : Addr) (fd : FuncData) (F : Fun K "staying" "staying" s_staying f fd) : FnG P w K mg base 4 f fd ["one", "other", "most"] (spStay K (errAt mg "InvalidText") (errAt mg "InvalidCount")) := by
  refine fnG_of F sc_staying (by rintro vs H Q E ⟨x, y, n, bx, by', bn, rfl, _⟩; rfl) (fun cdv A outer s H vs Q E hr hgd h => ?_)
  obtain ⟨x, y, n, bx, by', bn, rfl, hx, hy, hn, q1, q2, q3⟩ := h
  refine ⟨_, (pss_cons (ps_expr (pe_g c_check_text hr (by decide) hgd (by rfl) (passAt tk_def) (pa_cons (pv 0) pa_nil)))
  (pss_cons (ps_expr (pe_g c_check_text hr (by decide) hgd (by rfl) (passAt tk_def) (pa_cons (pv 1) pa_nil)))
  (pss_cons (ps_if (PW.pt (pw_and (pt_cmpR (kEq K rfl hr) (pv 0) (pe_tx [] (by decide +kernel)) (nomark _)) (pw_and1 (pt_cmpR (kEq K rfl hr) (pv 1) (pe_tx [] (by decide +kernel)) (nomark _))))) (pss_one (ps_rzA mg T.x_InvalidText rfl (by rfl) tk_def hr (by rfl) (pa_cons (pv 0) pa_nil))) pss_nil)
  (pss_cons (ps_expr (pe_g c_check_count hr (by decide) hgd (by rfl) (passAt tk_def) (pa_cons (pv 2) pa_nil)))
  (pss_cons (ps_set (i := 3) sc_staying.nd rfl (by first | exact Or.inl rfl | exact Or.inr rfl) (pe_g c_turn_number hr (by decide) hgd (by rfl) (passAt tk_def) (pa_cons (pv 1) (pa_cons (pv 0) pa_nil))))
  (pss_cons (ps_if (pt_cmpR uLt (pv 3) pe_int (nomark _)) (pss_one (ps_ret (pe_lst pa_nil))) pss_nil)
  (pss_cons (ps_set (i := 4) sc_staying.nd rfl (by first | exact Or.inl rfl | exact Or.inr rfl) (pe_g c_round_length hr (by decide) hgd (by rfl) (passAt tk_def) (pa_cons (pv 0) pa_nil)))
  (pss_cons (ps_set (i := 5) sc_staying.nd rfl (by first | exact Or.inl rfl | exact Or.inr rfl) (pe_op uSub (pe_op uMod (pe_op (kAdd K rfl) (pv 3) (pv 2)) (pv 4)) (pv 2)))
  (pss_one (ps_ret (pe_lc (own := [("at", 6)]) rfl sc_staying.nd (pi_range3 (by rfl) T.n_range (pa_cons (pv 5) (pa_cons (pe_op (kAdd K rfl) (pv 2) pe_int) (pa_cons (pv 4) pa_nil)))) (blkOk_by (own := [("at", 6)]) (N := N_staying) (sc := defScope s_staying) (by decide +kernel)) (fun _ _ _ _ _ => (pg_name (i := 6) sc_staying.nd rfl (by first | exact Or.inl rfl | exact Or.inr rfl))) (fun _ _ _ _ _ => pts_nil) (fun _ _ _ _ _ => (pe_g c_lag_numbered hr (by decide) hgd (by rfl) noX (pa_cons (pv 0) (pa_cons (pv 1) (pa_cons (pv 6) pa_nil)))))))))))))))), ?_⟩
  walk_at "v0"
  refine ⟨x, bx, rfl, hx, fun hb H1 s1 => ?_, fun hb => q1 hb⟩
  subst hb
  walk_at "v"
  refine ⟨y, by', rfl, hy.mono s1, fun hb H2 s2 => ?_, fun hb H2 d s2 h2 => q2 rfl hb H2 d (s1.trans s2) h2⟩
  subst hb
  obtain ⟨u, v, rfl, rfl, zu, zv, q4, q5⟩ := q3 rfl rfl
  have S2 := s1.trans s2
  refine w_enx ?_
  refine w_seqI (fun σ H' => σ = [some (.str (tx u)), some (.str (tx v)), some n, none, none, none, none] ∧ H' = H2 ∧ ¬ (u = [] ∧ v = [])) ?_ fun N hN => ?_
  · rintro σ H3 ⟨rfl, rfl, hne⟩
    obtain ⟨q6, q7⟩ := q5 hne
    walk_at "v"
    refine ⟨n, bn, rfl, isct_mono S2 hn, fun hb => ?_, fun hb H3' d s3 h3 => q6 hb H3' d (S2.trans s3) h3⟩
    obtain ⟨hh, rfl, zh, q⟩ := q7 hb
    walk_at "v"
    refine ⟨v, u, rfl, by omega, by omega, fun k hk => ?_⟩
    rcases hk with ⟨rfl, hno⟩ | ⟨j, rfl, e, hrot, hj, hlt, hz⟩
    · walk_at "v"
      refine ⟨by walk_at "sz", fun r hr' => ?_⟩
      have es : stay u v hh = [] := by
        by_cases e : u.length = v.length
        · have hv : 0 < v.length := by
            rcases Nat.eq_zero_or_pos v.length with z | z
            · exact absurd ⟨List.length_eq_zero_iff.mp (by omega), List.length_eq_zero_iff.mp z⟩ hne
            · exact z
          refine stay_none hv (fun m ⟨_, hm⟩ => hno ⟨e.symm, m % v.length, Nat.le_of_lt (Nat.mod_lt _ hv), ?_⟩) hh
          exact (trn_iff hv (Nat.le_of_lt (Nat.mod_lt _ hv)) e.symm).mpr (hm.mod (per_len v))
        · unfold stay
          rw [if_neg e]
      exact q r [] _ (Same.new S2 hr') (none_same S2 hr') upd_same (by rw [es]; exact .nil)
    · have hv : 0 < v.length := by
        rcases Nat.eq_zero_or_pos v.length with z | z
        · exact absurd ⟨List.length_eq_zero_iff.mp (by omega), List.length_eq_zero_iff.mp z⟩ hne
        · exact z
      have ht := (trn_iff hv hj e).mp hrot
      walk_at "v"
      refine ⟨u, rfl, by omega, by omega, fun r hR => ?_⟩
      have hRv := (isR_turn (u := u) (v := v) (by omega) ht).mp hR
      have jr := hlt hv r hRv
      have rp := hRv.pos
      have rl := hRv.le
      walk_at "v"
      refine w_modI ?_ (by omega)
      rw [show ((j : Int) + (hh : Int)) % (r : Int) = (((j + hh) % r : Nat) : Int) by rw [Int.natCast_emod, Int.natCast_add]]
      obtain ⟨f0, hf0⟩ : ∃ f0, f0 = (j + hh) % r := ⟨_, rfl⟩
      have f0r : f0 < r := by rw [hf0]; exact Nat.mod_lt _ rp
      rw [← hf0]
      obtain ⟨cnt, hcnt⟩ : ∃ cnt, cnt = (2 * hh + 1 - f0 + r - 1) / r := ⟨_, rfl⟩
      have es := stay_some e.symm hRv ht jr hh
      rw [← hf0, ← hcnt] at es
      have zc : cnt ≤ 2 * hh + 1 := by
        rw [hcnt]
        have h1 := Nat.div_mul_le_self (2 * hh + 1 - f0 + r - 1) r
        have : (2 * hh + 1 - f0 + r - 1) / r < 2 * hh + 1 + 1 := by
          rw [Nat.div_lt_iff_lt_mul rp]
          have : (2 * hh + 1 + 1) * r ≥ (2 * hh + 1) + r := by
            rw [Nat.succ_mul]
            have : (2 * hh + 1) * r ≥ 2 * hh + 1 := Nat.le_mul_of_pos_right _ rp
            omega
          omega
        omega
      walk_at "v"
      refine ⟨(f0 : Int) - (hh : Int), (hh : Int) + 1, (r : Int), cnt, rfl, rgc_up (by omega) (by omega) (by omega) (by omega) (by omega) ?_, ?_⟩
      · rw [hcnt]
        by_cases hl : f0 < 2 * hh + 1
        · rw [if_pos (by omega)]
          have e3 : (hh : Int) + 1 - ((f0 : Int) - (hh : Int)) - 1 = ((2 * hh - f0 : Nat) : Int) := by omega
          rw [e3, ← Int.natCast_ediv]
          have e4 : 2 * hh + 1 - f0 + r - 1 = 2 * hh - f0 + r := by omega
          rw [e4, Nat.add_div_right _ rp]
          rfl
        · rw [if_neg (by omega), Nat.div_eq_of_lt (by omega)]
          rfl
      · intro D hD
        refine lc_it (walk_rangeC (lo := (f0 : Int) - (hh : Int)) (c := (r : Int)) (n := cnt)) (fun i H' => ∃ vs : List V, Same H H' ∧ H' D = some (.lst vs) ∧ vs.length = i ∧ DvAll (hide [D] H') vs (((List.range i).map fun (t : Nat) => numbered u v ((f0 : Int) + (t : Int) * (r : Int) - (hh : Int))).map SL.pairD)) ⟨[], S2.trans (same_new hD), upd_same, rfl, .nil⟩ (fun _ _ _ _ => True.intro) ?_ ?_
        · rintro i x Y Y' hi ⟨vs, sY, gY, zvs, dY⟩ ⟨rfl, rfl⟩
          have hn2 : ((f0 : Int) - (hh : Int) + (i : Nat) * (r : Int)) = (f0 : Int) + (i : Int) * (r : Int) - (hh : Int) := by omega
          have hb : i * r + f0 < 2 * hh + 1 := by
            have h1 : (i + 1) * r ≤ cnt * r := Nat.mul_le_mul_right r hi
            have h2 : cnt * r ≤ 2 * hh + 1 - f0 + r - 1 := by rw [hcnt]; exact Nat.div_mul_le_self _ _
            rw [Nat.succ_mul] at h1
            omega
          have hz : (((f0 : Int) + (i : Int) * (r : Int) - (hh : Int))).natAbs ≤ 10000 := by
            have : (i : Int) * (r : Int) = ((i * r : Nat) : Int) := (Int.natCast_mul _ _).symm
            rw [this]
            omega
          dsimp only
          rw [hn2]
          walk_at "v"
          refine ⟨u, v, _, rfl, by omega, hv, by omega, by omega, hz, fun p Z sZ nZ gZ => ?_⟩
          have gD := sZ _ _ gY
          walk_at "v"
          have FD : SL.Fr D Z (upd Z D (.lst (vs ++ [.ref p]))) := Fr.put (Fr.refl _ _)
          have FY : SL.Fr D Y' (upd Z D (.lst (vs ++ [.ref p]))) := (Fr.of sZ).trans FD
          refine ⟨vs ++ [.ref p], Same.grow (sY.trans sZ) (none_same S2 hD), upd_same, by rw [List.length_append, zvs]; rfl, ?_⟩
          rw [List.range_succ, List.map_append, List.map_append]
          exact dvall_snoc (DvAll.mono (hideH FY) _ _ dY) (Dv.mono (hideH FD) _ _ (dv_tup gZ gD))
        · rintro Y ⟨vs, sY, gY, zvs, dY⟩
          walk_at "v"
          refine q D vs Y sY (none_same S2 hD) gY ?_
          rw [es]
          exact DvAll.mono (hideF (SL.Fr.refl D Y)) _ _ dY
  · walk_at "v"
    by_cases hu : u = []
    · refine w_ifT (decide_eq_true hu) ?_
      walk_at "v"
      by_cases hv : v = []
      · refine w_ifT (decide_eq_true hv) ?_
        walk_at "v"
        refine w_rz ?_
        walk_at "v"
        refine w_one fun d hd => ?_
        exact q4 ⟨hu, hv⟩ _ d (Same.new S2 hd) upd_same
      · refine w_ifF (decide_eq_false hv) ?_
        walk_at "v"
        exact hN _ _ ⟨rfl, rfl, fun z => hv z.2⟩
    · refine w_ifF (decide_eq_false hu) ?_
      walk_at "v"
      exact hN _ _ ⟨rfl, rfl, fun z => hu z.1⟩
end
end K12
set_option Elab.async false
set_option linter.all false
set_option maxRecDepth 100000
set_option maxHeartbeats 4000000
namespace K12
open PySem PySem.Spec PyProof.Rows L2 SL Rt Wd
local macro_rules | `(tactic| walk_at "sz") => `(tactic| first
  | assumption
  | omega
  | (simp only [List.length_cons, List.length_nil, List.length_append, List.length_map, List.length_take, List.length_drop, List.length_reverse, List.length_replicate, List.length_range, tx_len, sizeLine_eq, CMul, CDiv, Nat.reduceAdd, Nat.reduceLeDiff]; first | done | omega)
  | decide)
local macro_rules | `(tactic| walk_at "ne") => `(tactic| first
  | assumption
  | exact Ne.symm (by assumption)
  | (refine ne_of_none (H := ?H0) (o := ?oo) ?hh ?hn; (case hn => assumption); (case hh => walk_at "hget"))
  | (refine Ne.symm (ne_of_none (H := ?H0) (o := ?oo) ?hh ?hn); (case hn => assumption); (case hh => walk_at "hget")))
local macro_rules | `(tactic| walk_at "hget") => `(tactic| first
  | assumption
  | exact upd_same
  | (refine (upd_ne ?n).trans ?g; (case n => walk_at "ne"); (case g => walk_at "hget"))
  | (refine fr_get (p := ?pp) (H := ?H0) ?f ?g ?n; (case f => assumption); (case g => walk_at "hget"); (case n => walk_at "ne"))
  | (refine same_get (H := ?H0) ?f ?g; (case f => assumption); (case g => walk_at "hget")))
local macro_rules | `(tactic| walk_at "vget") => `(tactic| first
  | assumption
  | (refine SqL.of ?g; (case g => walk_at "hget"))
  | (refine SqT.of ?g; (case g => walk_at "hget"))
  | (refine sql_new ?n ?g; (case n => assumption); (case g => walk_at "vget"))
  | (refine sqt_new ?n ?g; (case n => assumption); (case g => walk_at "vget"))
  | (refine sql_upd ?n ?g; (case n => walk_at "ne"); (case g => walk_at "vget"))
  | (refine sqt_upd ?n ?g; (case n => walk_at "ne"); (case g => walk_at "vget"))
  | (refine Same.seq (H := ?H0) ?f ?g; (case f => assumption); (case g => walk_at "vget"))
  | (refine Same.seqT (H := ?H0) ?f ?g; (case f => assumption); (case g => walk_at "vget"))
  | (refine fr_sql (b := ?pp) (H := ?H0) ?f ?g ?n; (case f => assumption); (case g => walk_at "vget"); (case n => walk_at "ne"))
  | (refine fr_sqt (b := ?pp) (H := ?H0) ?f ?g ?n; (case f => assumption); (case g => walk_at "vget"); (case n => walk_at "ne")))
local macro_rules | `(tactic| walk_at "at") => `(tactic| first
  | assumption
  | rfl
  | (refine atI_n ?h; (case h => first | assumption | rfl))
  | (refine atI_i ?h0 ?h; (case h0 => omega); (case h => first | assumption | rfl)))
local macro_rules | `(tactic| walk_at "v1") => `(tactic| first
  | with_reducible refine w_seq ?_
  | with_reducible refine w_enx ?_
  | with_reducible refine w_ert ?_
  | with_reducible refine w_asg ?_
  | ((with_reducible refine w_var (v := ?vv) ?h ?_); (case h => exact rfl))
  | with_reducible refine w_op ?_
  | with_reducible refine w_c ?_
  | with_reducible refine w_cons ?_
  | with_reducible refine w_nil ?_
  | with_reducible refine w_cb ?_
  | with_reducible refine w_call ?_
  | with_reducible refine w_k ?_
  | with_reducible refine w_i ?_
  | with_reducible refine w_two ?_
  | ((with_reducible refine w_name ?_); (try simp only [List.set_cons_zero, List.set_cons_succ]))
  | with_reducible refine w_ifS ?_
  | with_reducible refine w_ret ?_
  | with_reducible refine w_drop ?_
  | with_reducible refine w_test ?_
  | with_reducible refine w_B ?_
  | with_reducible refine iteT ?_
  | with_reducible refine iteF ?_
  | with_reducible refine w_same ?_
  | ((with_reducible refine w_ifT ?h ?_); (case h => first | rfl | assumption))
  | ((with_reducible refine w_ifF ?h ?_); (case h => first | rfl | assumption))
  | ((with_reducible refine w_diff ?_ ?h); (case h => decide +kernel))
  | ((with_reducible refine w_wp ?h ?_); (case h => rfl); (try simp only [wipe, List.set_cons_zero, List.set_cons_succ, List.foldl_cons, List.foldl_nil]))
  | ((with_reducible refine w_acc (acc := ?aa) ?h ?_ ?z); (case h => walk_at "hget"); (case z => walk_at "sz"))
  | with_reducible refine w_addI ?_
  | with_reducible refine w_subI ?_
  | with_reducible refine w_lt ?_
  | with_reducible refine w_le ?_
  | with_reducible refine w_gt ?_
  | with_reducible refine w_ge ?_
  | with_reducible refine w_eqI ?_
  | with_reducible refine w_neI ?_
  | with_reducible refine w_eqS ?_
  | with_reducible refine w_neS ?_
  | with_reducible refine w_neB ?_
  | ((with_reducible refine w_mulI ?_ ?h); (case h => walk_at "sz"))
  | ((with_reducible refine w_divI ?_ ?h); (case h => walk_at "sz"))
  | ((with_reducible refine w_addS ?_ ?h); (case h => walk_at "sz"))
  | ((with_reducible refine w_mulS ?_ ?h); (case h => walk_at "sz"))
  | ((with_reducible refine w_ixL (xs := ?xx) (v := ?vv) ?h ?i ?_); (case h => walk_at "vget"); (case i => walk_at "at"))
  | ((with_reducible refine w_ixT (xs := ?xx) (v := ?vv) ?h ?i ?_); (case h => walk_at "vget"); (case i => walk_at "at"))
  | ((with_reducible refine w_ixS (c := ?cc) ?i ?_ ?h); (case i => walk_at "at"); (case h => walk_at "sz"))
  | ((with_reducible refine w_lenS' ?_ ?h); (case h => walk_at "sz"))
  | ((with_reducible refine w_lenL' (xs := ?xx) ?h ?_); (case h => walk_at "vget"))
  | ((with_reducible refine w_lenT' (xs := ?xx) ?h ?_); (case h => walk_at "vget"))
  | with_reducible refine w_isnN ?_
  | with_reducible refine w_isnI ?_
  | with_reducible refine w_isnS ?_
  | with_reducible refine w_isnR ?_
  | with_reducible refine w_isnB ?_
  | with_reducible refine w_isoN ?_
  | with_reducible refine w_isoI ?_
  | with_reducible refine w_isoS ?_
  | with_reducible refine w_isoR ?_
  | with_reducible refine w_isoB ?_
  | with_reducible refine w_abs ?_
  | with_reducible refine w_int ?_
  | with_reducible refine w_intB ?_
  | with_reducible refine w_min2 ?_
  | with_reducible refine w_max2 ?_
  | with_reducible refine w_min3 ?_
  | with_reducible refine w_sl ?_
  | with_reducible refine w_np ?_
  | with_reducible refine w_part ?_
  | ((with_reducible refine w_sStN ?_ ?h); (case h => walk_at "sz"))
  | ((with_reducible refine w_sSfN ?_ ?h); (case h => walk_at "sz"))
  | ((with_reducible refine w_sSt ?_ ?h); (case h => walk_at "sz"))
  | ((with_reducible refine w_sSf ?_ ?h); (case h => walk_at "sz"))
  | with_reducible refine w_and ?_
  | with_reducible refine w_or ?_
  | with_reducible refine w_not ?_
  | with_reducible refine w_andV ?_
  | with_reducible refine w_orV ?_
  | with_reducible refine w_notV ?_
  | with_reducible refine w_ifE ?_
  | with_reducible refine w_tup ?_
  | with_reducible refine w_lst ?_
  | with_reducible refine w_chain ?_
  | ((with_reducible refine w_par ?_); (try simp only [List.set_cons_zero, List.set_cons_succ]))
  | ((with_reducible refine w_par3 ?_); (try simp only [List.set_cons_zero, List.set_cons_succ]))
  | with_reducible refine w_three ?_
  | with_reducible refine w_un ?_
  | with_reducible refine w_neg ?_
  | with_reducible refine w_next ?_
  | with_reducible refine w_ebk ?_
  | with_reducible refine w_ect ?_
  | with_reducible refine w_for ?_
  | with_reducible refine w_lc ?_
  | with_reducible refine w_yes ?_
  | with_reducible refine w_il ?_
  | with_reducible refine w_it ?_
  | with_reducible refine w_isx ?_
  | with_reducible refine w_ir1 ?_
  | with_reducible refine w_ir2 ?_
  | with_reducible refine w_ies ?_
  | with_reducible refine w_ir3 ?_
  | with_reducible refine w_s1 ?_
  | with_reducible refine w_s1l ?_
  | ((with_reducible refine w_r1 ?_ ?h); (case h => walk_at "sz"))
  | ((with_reducible refine w_r2 ?_ ?h); (case h => walk_at "sz"))
  | ((with_reducible refine w_l1 (xs := ?xx) ?h ?_); (case h => walk_at "vget"))
  | ((with_reducible refine w_t1 (xs := ?xx) ?h ?_); (case h => walk_at "vget"))
  | ((with_reducible refine w_isL (xs := ?xx) ?h ?_); (case h => walk_at "vget"))
  | with_reducible refine w_isS ?_
  | ((with_reducible refine w_app (xs := ?xx) ?h ?_ ?z); (case h => walk_at "hget"); (case z => walk_at "sz"))
  | with_reducible refine w_inC ?_
  | with_reducible refine w_rev ?_
  | ((with_reducible refine w_rev1S ?_ ?h); (case h => walk_at "sz"))
  | with_reducible refine w_lrg ?_
  | with_reducible refine w_brk ?_
  | with_reducible refine w_cont ?_
  | with_reducible refine w_retN ?_
  | with_reducible refine w_bm ?_
  | with_reducible refine w_bm0 ?_
  | with_reducible refine w_m1 ?_
  | with_reducible refine w_sub ?_
  | ((with_reducible refine w_setL (xs := ?xx) (j := ?jj) ?h ?i ?_); (case h => walk_at "hget"); (case i => first | rfl | assumption); (try simp only [Int.reduceToNat, List.set_cons_zero, List.set_cons_succ]))
  | with_reducible refine w_ip ?_
  | with_reducible refine w_gnil ?_
  | with_reducible refine w_gcons ?_
  | ((with_reducible refine w_gL (xs := ?xx) ?h ?_ ?n); (case h => walk_at "vget"); (case n => rfl))
  | ((with_reducible refine w_gT (xs := ?xx) ?h ?_ ?n); (case h => walk_at "vget"); (case n => rfl))
  | ((with_reducible refine w_aug (v := ?vv) ?h ?_); (case h => exact rfl)))
local macro_rules | `(tactic| walk_at "v") => `(tactic| repeat walk_at "v1")
local macro_rules | `(tactic| walk_at "v0") => `(tactic| (simp only [L2.start, cxK, ends_rt, List.map_cons, List.map_nil, List.length_cons, List.length_nil, Nat.reduceAdd, Nat.reduceSub, List.replicate_succ, List.replicate_zero, List.append_nil, List.cons_append, List.nil_append]; walk_at "v"))
local macro_rules | `(tactic| walk_at "u1") => `(tactic| first
  | with_reducible refine w_seqA ?_
  | with_reducible refine w_seqD ?_
  | with_reducible refine w_seqP ?_
  | with_reducible refine w_seqP3 ?_
  | with_reducible refine w_seqG ?_
  | ((fail_if_success (with_reducible refine w_seq ?_)); walk_at "v1"))
local macro_rules | `(tactic| walk_at "u") => `(tactic| repeat walk_at "u1")
local macro_rules | `(tactic| walk_at "u0") => `(tactic| (simp only [L2.start, cxK, ends_rt, List.map_cons, List.map_nil, List.length_cons, List.length_nil, Nat.reduceAdd, Nat.reduceSub, List.replicate_succ, List.replicate_zero, List.append_nil, List.cons_append, List.nil_append]; walk_at "u"))
local macro_rules | `(tactic| walk_at "t1") => `(tactic| ((fail_if_success (with_reducible refine w_seq ?_)); walk_at "v1"))
local macro_rules | `(tactic| walk_at "t") => `(tactic| repeat walk_at "t1")

section
variable {P : Program} {w : World} {K : PySem.W.Frag} {mg : Str → Option Value} {base : Heap}
theorem stay_len (u v : List Nat) (h : Nat) : (stay u v h).length ≤ 2 * h + 1 := by
  unfold stay
  split
  · rw [List.length_map]
    refine Nat.le_trans (List.length_filter_le _ _) ?_
    rw [List.length_range]
    exact Nat.le_refl _
  · simp
/-- not both empty, where they are of one length -/
def Ne2 (u v : List Nat) : Prop := u.length = v.length → 0 < v.length
theorem stay_let {u v : List Nat} {h : Nat} (lu : Let u) (lv : Let v) (ne : Ne2 u v) : ∀ p ∈ stay u v h, Let p.1 ∧ Let p.2 ∧ p.1.length ≤ h ∧ p.2.length ≤ h := by
  intro p hp
  obtain ⟨e, n, hn, _, rfl⟩ := stay_mem hp
  have hv := ne e
  obtain ⟨z1, z2⟩ := numbered_len (u := u) (v := v) (by omega) hv n
  exact ⟨fun c hc => (numbered_mem (.inl hc)).elim (lu c) (lv c), fun c hc => (numbered_mem (.inr hc)).elim (lu c) (lv c), by omega, by omega⟩
theorem stay_sgn {u v : List Nat} {h : Nat} (lu : Let u) (lv : Let v) (ne : Ne2 u v) : SgnP h (stay u v h) := fun p hp => by
  obtain ⟨h1, h2, h3, h4⟩ := stay_let lu lv ne p hp
  exact ⟨h1.sgn, h2.sgn, h3, h4⟩
theorem stay_sh {H : Hp} {r : Addr} {vs : List V} {u v : List Nat} {h : Nat} (lu : Let u) (lv : Let v) (ne : Ne2 u v) (hh : h ≤ 60) (g : H r = some (.lst vs)) (d : DvAll H vs ((stay u v h).map SL.pairD)) : Shown K H (.ref r) (PyData.shown (.list ((stay u v h).map SL.pairD))) := by
  have zl := stay_len u v h
  have s : SgnP 60 (stay u v h) := fun p hp => by
    obtain ⟨h1, h2, h3, h4⟩ := stay_sgn lu lv ne p hp
    exact ⟨h1, h2, by omega, by omega⟩
  have m : (stay u v h).length * (20 * 60 + 22) + 3 ≤ 200000 := by
    have : (stay u v h).length * (20 * 60 + 22) ≤ 121 * (20 * 60 + 22) := Nat.mul_le_mul_right _ (by omega)
    omega
  exact (Dv.lst g d).shown (sm_pairs s m).okD
def spStays : Sp := fun vs H Q _ => ∃ (p : Addr) (a b u v : List Nat), vs = [.ref p, .str (tx u), .str (tx v)] ∧ H p = some (.tup [.str (tx a), .str (tx b)]) ∧ u.length = v.length ∧ u.length ≤ 10000 ∧ a.length ≤ 10000 ∧ b.length ≤ 10000 ∧ Q (.bl (decide (a ++ u ++ b = b ++ v ++ a))) H
theorem ok__law_stays (T : Txt K mg) : Cal P w K mg base 1 "_law_stays" ["pair", "left", "right"] spStays := by
  refine cal0 T.d__law_stays sc__law_stays (by rintro vs H Q E ⟨p, a, b, u, v, rfl, _⟩; rfl) (fun cdv f A outer s H vs Q E hr hgd h => ?_)
  obtain ⟨p, a, b, u, v, rfl, hp, e, zu, za, zb, q⟩ := h
  refine ⟨_, (pss_one (ps_ret (pe_and (pe_cmpR (kEq K rfl hr) (pe_callB (kLen K rfl) (by rfl) T.n_len (by decide +kernel) (pa_cons (pv 1) pa_nil)) (pe_callB (kLen K rfl) (by rfl) T.n_len (by decide +kernel) (pa_cons (pv 2) pa_nil)) (nomark _)) (pe_one (pe_cmpR (kEq K rfl hr) (pe_op (kAdd K rfl) (pe_op (kAdd K rfl) (pe_ix (kIx K rfl) (pv 0) pe_int (fun _ _ => rfl)) (pv 1)) (pe_ix (kIx K rfl) (pv 0) pe_int (fun _ _ => rfl))) (pe_op (kAdd K rfl) (pe_op (kAdd K rfl) (pe_ix (kIx K rfl) (pv 0) pe_int (fun _ _ => rfl)) (pv 2)) (pe_ix (kIx K rfl) (pv 0) pe_int (fun _ _ => rfl))) (nomark _)))))), ?_⟩
  walk_at "v0"
  refine w_ifT (decide_eq_true (by omega)) ?_
  walk_at "v"
  exact q
def spDue : Sp := fun vs H Q _ => ∃ (u v : List Nat) (h : Nat), vs = [.str (tx u), .str (tx v), .int (h : Int)] ∧ Ne2 u v ∧ u.length ≤ 1000 ∧ v.length ≤ 1000 ∧ h ≤ 2000 ∧ Lst Q H (stay u v h)
theorem ok__law_due (T : Txt K mg) (c__law_numbered : Cal P w K mg base 1 "_law_numbered" ["left", "right", "number"] spNum) (c__law_stays : Cal P w K mg base 1 "_law_stays" ["pair", "left", "right"] spStays) : Cal P w K mg base 2 "_law_due" ["left", "right", "highest"] spDue := by
  refine cal0 T.d__law_due sc__law_due (by rintro vs H Q E ⟨u, v, h, rfl, _⟩; rfl) (fun cdv f A outer s H vs Q E hr hgd h => ?_)
  obtain ⟨u, v, hh, rfl, ne, zu, zv, zh, q⟩ := h
  refine ⟨_, (pss_cons (ps_if (pt_cmpR (kNe K rfl hr) (pe_callB (kLen K rfl) (by rfl) T.n_len (by decide +kernel) (pa_cons (pv 0) pa_nil)) (pe_callB (kLen K rfl) (by rfl) T.n_len (by decide +kernel) (pa_cons (pv 1) pa_nil)) (nomark _)) (pss_one (ps_ret (pe_lst pa_nil))) pss_nil)
  (pss_cons (ps_set (i := 3) sc__law_due.nd rfl (by first | exact Or.inl rfl | exact Or.inr rfl) (pe_lst pa_nil))
  (pss_cons (ps_for PassesOwn.never rfl (pi_range2 (by rfl) T.n_range (pa_cons (pe_op uSub pe_int (pv 2)) (pa_cons (pe_op (kAdd K rfl) (pv 2) pe_int) pa_nil))) (pg_name (i := 4) sc__law_due.nd rfl (by first | exact Or.inl rfl | exact Or.inr rfl))
  (pss_cons (ps_set (i := 5) sc__law_due.nd rfl (by first | exact Or.inl rfl | exact Or.inr rfl) (pe_g c__law_numbered hr (by decide) hgd (by rfl) noX (pa_cons (pv 0) (pa_cons (pv 1) (pa_cons (pv 4) pa_nil)))))
  (pss_one (ps_if (pt_val (pe_g c__law_stays hr (by decide) hgd (by rfl) noX (pa_cons (pv 5) (pa_cons (pv 0) (pa_cons (pv 1) pa_nil))))) (pss_one (ps_expr (kBm K rfl PySem.F.plainAttrs_list PySem.F.slot_list_append PySem.F.type_list_append mt_append (pv 3) (pa_cons (pv 5) pa_nil)))) pss_nil))))
  (pss_one (ps_ret (pv 3)))))), ?_⟩
  walk_at "v0"
  by_cases e : u.length = v.length
  · have hv := ne e
    refine w_ifF (by simp; omega) ?_
    walk_at "v"
    refine ⟨by walk_at "sz", fun D hD => ?_⟩
    walk_at "v"
    refine for_rg2 (n := 2 * hh + 1) (by omega) (fun i σ H' => ∃ x4 x5, ∃ vs : List V, σ = [some (.str (tx u)), some (.str (tx v)), some (.int (hh : Int)), some (.ref D), x4, x5] ∧ Same H H' ∧ H' D = some (.lst vs) ∧ vs.length ≤ i ∧ DvAll (hide [D] H') vs ((((List.range i).filter fun (i : Nat) => decide (Sty u v ((i : Int) - (hh : Int)))).map fun (i : Nat) => Rt.numbered u v ((i : Int) - (hh : Int))).map SL.pairD)) ⟨_, _, [], rfl, same_new hD, upd_same, by simp, .nil⟩ ?_ ?_
    · rintro i σ Y hi ⟨x4, x5, vs, rfl, sY, gY, zvs, dY⟩
      have hn : (0 : Int) - (hh : Int) + (i : Int) = (i : Int) - (hh : Int) := by omega
      rw [hn]
      obtain ⟨n, hn'⟩ : ∃ n : Int, n = (i : Int) - (hh : Int) := ⟨_, rfl⟩
      have zn : n.natAbs ≤ 2000 := by omega
      have zs := numbered_len (u := u) (v := v) (by omega) hv n
      have sr : ∀ b : Bool, decide (Sty u v ((i : Int) - (hh : Int))) = b → (List.range (i + 1)).filter (fun (i : Nat) => decide (Sty u v ((i : Int) - (hh : Int)))) = (List.range i).filter (fun (i : Nat) => decide (Sty u v ((i : Int) - (hh : Int)))) ++ (if b = true then [i] else []) := fun b hb => by
        rw [List.range_succ, List.filter_append]
        cases b <;> simp [hb]
      rw [← hn']
      walk_at "v"
      refine ⟨u, v, n, rfl, by omega, hv, by omega, by omega, by omega, fun p Z sZ nZ gZ => ?_⟩
      have gD := sZ _ _ gY
      walk_at "v"
      refine ⟨p, _, _, u, v, rfl, gZ, e, by omega, by omega, by omega, ?_⟩
      by_cases hs : Sty u v n
      · have hd : decide ((Rt.numbered u v n).1 ++ u ++ (Rt.numbered u v n).2 = (Rt.numbered u v n).2 ++ v ++ (Rt.numbered u v n).1) = true := decide_eq_true hs
        rw [hd]
        walk_at "v"
        have FD : SL.Fr D Z (upd Z D (.lst (vs ++ [.ref p]))) := Fr.put (Fr.refl _ _)
        have FY : SL.Fr D Y (upd Z D (.lst (vs ++ [.ref p]))) := (Fr.of sZ).trans FD
        refine ⟨_, _, vs ++ [.ref p], rfl, Same.grow (sY.trans sZ) hD, upd_same, by rw [List.length_append]; simp; omega, ?_⟩
        rw [sr true (decide_eq_true (by rw [← hn']; exact hs)), if_pos rfl, List.map_append, List.map_append]
        refine dvall_snoc (DvAll.mono (hideH FY) _ _ dY) ?_
        show Dv _ _ (SL.pairD (Rt.numbered u v ((i : Int) - (hh : Int))))
        rw [← hn']
        exact Dv.mono (hideH FD) _ _ (dv_tup gZ gD)
      · have hd : decide ((Rt.numbered u v n).1 ++ u ++ (Rt.numbered u v n).2 = (Rt.numbered u v n).2 ++ v ++ (Rt.numbered u v n).1) = false := decide_eq_false hs
        rw [hd]
        walk_at "v"
        refine ⟨_, _, vs, rfl, sY.trans sZ, gD, by omega, ?_⟩
        rw [sr false (decide_eq_false (by rw [← hn']; exact hs)), if_neg (by decide), List.append_nil]
        exact DvAll.mono (hideH (Fr.of sZ)) _ _ dY
    · rintro σ Y ⟨x4, x5, vs, rfl, sY, gY, zvs, dY⟩
      walk_at "v"
      refine q D vs Y sY hD gY ?_
      unfold stay
      rw [if_pos e]
      exact DvAll.mono (hideF (SL.Fr.refl D Y)) _ _ dY
  · refine w_ifT (by simp; omega) ?_
    walk_at "v"
    refine ⟨by walk_at "sz", fun D hD => ?_⟩
    refine q D [] _ (same_new hD) hD upd_same ?_
    unfold stay
    rw [if_neg e]
    exact .nil
def spNumber : Sp := fun vs H Q _ => ∃ (p : Addr) (a b : List Nat), vs = [.ref p] ∧ H p = some (.tup [.str (tx a), .str (tx b)]) ∧ a.length ≤ 10000 ∧ b.length ≤ 10000 ∧ Q (.int ((a.length : Int) - (b.length : Int))) H
theorem ok__law_number (T : Txt K mg) : Cal P w K mg base 1 "_law_number" ["pair"] spNumber := by
  refine cal0 T.d__law_number sc__law_number (by rintro vs H Q E ⟨p, a, b, rfl, _⟩; rfl) (fun cdv f A outer s H vs Q E hr hgd h => ?_)
  obtain ⟨p, a, b, rfl, hp, za, zb, q⟩ := h
  refine ⟨_, (pss_one (ps_ret (pe_op uSub (pe_callB (kLen K rfl) (by rfl) T.n_len (by decide +kernel) (pa_cons (pe_ix (kIx K rfl) (pv 0) pe_int (fun _ _ => rfl)) pa_nil)) (pe_callB (kLen K rfl) (by rfl) T.n_len (by decide +kernel) (pa_cons (pe_ix (kIx K rfl) (pv 0) pe_int (fun _ _ => rfl)) pa_nil))))), ?_⟩
  walk_at "v0"
  exact q
def spRootL : Sp := fun vs H Q _ => ∃ u : List Nat, vs = [.str (tx u)] ∧ u.length ≤ 10000 ∧ ∀ (r : Nat) H', Same H H' → (0 < u.length → IsR u r) → (u.length = 0 → r = 0) → Q (.int (r : Int)) H'
theorem ok__law_root_length (T : Txt K mg) : Cal P w K mg base 1 "_law_root_length" ["word"] spRootL := by
  refine cal0 T.d__law_root_length sc__law_root_length (by rintro vs H Q E ⟨u, rfl, _⟩; rfl) (fun cdv f A outer s H vs Q E hr hgd h => ?_)
  obtain ⟨u, rfl, zu, q⟩ := h
  refine ⟨_, (pss_cons (ps_for PassesOwn.never rfl (pi_range2 (by rfl) T.n_range (pa_cons pe_int (pa_cons (pe_op (kAdd K rfl) (pe_callB (kLen K rfl) (by rfl) T.n_len (by decide +kernel) (pa_cons (pv 0) pa_nil)) pe_int) pa_nil))) (pg_name (i := 1) sc__law_root_length.nd rfl (by first | exact Or.inl rfl | exact Or.inr rfl))
  (pss_one (ps_if (PW.pt (pw_and (pt_cmpR (kEq K rfl hr) (pe_op uMod (pe_callB (kLen K rfl) (by rfl) T.n_len (by decide +kernel) (pa_cons (pv 0) pa_nil)) (pv 1)) pe_int (nomark _)) (pw_and1 (pt_cmpR (kEq K rfl hr) (pe_op uMul (pe_slice (kSl K rfl) (pv 0) po_none (po_some (pv 1))) (pe_op uDiv (pe_callB (kLen K rfl) (by rfl) T.n_len (by decide +kernel) (pa_cons (pv 0) pa_nil)) (pv 1))) (pv 0) (nomark _))))) (pss_one (ps_ret (pv 1))) pss_nil)))
  (pss_one (ps_ret pe_int))), ?_⟩
  by_cases hn : 0 < u.length
  · obtain ⟨r, hR⟩ := exR u hn
    walk_at "v0"
    refine for_rg2 (n := u.length) (by omega) (fun i σ H' => ∃ x1, σ = [some (.str (tx u)), x1] ∧ Same H H' ∧ i < r) ⟨_, rfl, Same.refl _, hR.pos⟩ ?_ ?_
    · rintro i σ Y hi ⟨x1, rfl, sY, hi'⟩
      have hl := hR.le
      have e : (1 : Int) + (i : Int) = ((i + 1 : Nat) : Int) := by omega
      rw [e]
      obtain ⟨f1, f2, f3⟩ := root_first hR
      walk_at "v"
      refine w_modI ?_ (by omega)
      rw [← Int.natCast_emod]
      walk_at "v"
      refine w_if (fun h => ?_) (fun h => ?_)
      · have h : u.length % (i + 1) = 0 := by have := of_decide_eq_true h; omega
        walk_at "v"
        rw [← Int.natCast_ediv]
        have hq : u.length / (i + 1) ≤ u.length := Nat.div_le_self _ _
        refine w_mulSN ?_ ⟨by omega, by rw [List.length_take]; omega, ?_⟩
        · walk_at "v"
          by_cases er : i + 1 = r
          · have hd : decide ((List.replicate (u.length / (i + 1)) (u.take (i + 1))).flatten = u) = true := by
              rw [er]
              exact decide_eq_true f2
            refine w_ifT hd ?_
            walk_at "v"
            rw [er]
            exact q r _ sY (fun _ => hR) (fun z => by omega)
          · have hd : decide ((List.replicate (u.length / (i + 1)) (u.take (i + 1))).flatten = u) = false := decide_eq_false fun z => f3 (i + 1) (by omega) (by omega) ⟨h, z⟩
            refine w_ifF hd ?_
            walk_at "v"
            exact ⟨_, rfl, sY, by omega⟩
        · rw [List.length_take]
          have h1 : min (i + 1) u.length ≤ 10000 := by omega
          have h2 : min (i + 1) u.length * (u.length / (i + 1)) ≤ (i + 1) * (u.length / (i + 1)) := Nat.mul_le_mul_right _ (Nat.min_le_left _ _)
          have h3 : (i + 1) * (u.length / (i + 1)) ≤ u.length := Nat.mul_div_le _ _
          omega
      · have h := of_decide_eq_false h
        have h' : ¬ u.length % (i + 1) = 0 := fun z => h (by rw [z]; rfl)
        have er : i + 1 ≠ r := fun z => h' (by rw [z]; exact f1)
        walk_at "v"
        exact ⟨_, rfl, sY, by omega⟩
    · rintro σ Y ⟨x1, rfl, sY, hir⟩
      have := hR.le
      omega
  · walk_at "v0"
    refine for_rg2 (n := 0) (by omega) (fun i σ H' => ∃ x1, σ = [some (.str (tx u)), x1] ∧ Same H H') ⟨_, rfl, Same.refl _⟩ ?_ ?_
    · rintro i σ Y hi
      omega
    · rintro σ Y ⟨x1, rfl, sY⟩
      walk_at "v"
      exact q 0 _ sY (fun z => absurd z hn) (fun _ => rfl)
end
end K12
set_option Elab.async false
set_option linter.all false
set_option maxRecDepth 100000
set_option maxHeartbeats 4000000
namespace K12
open PySem PySem.Spec PyProof.Rows L2 SL Rt Wd
local macro_rules | `(tactic| walk_at "sz") => `(tactic| first
  | assumption
  | omega
  | (simp only [List.length_cons, List.length_nil, List.length_append, List.length_map, List.length_take, List.length_drop, List.length_reverse, List.length_replicate, List.length_range, tx_len, sizeLine_eq, CMul, CDiv, Nat.reduceAdd, Nat.reduceLeDiff]; first | done | omega)
  | decide)
local macro_rules | `(tactic| walk_at "ne") => `(tactic| first
  | assumption
  | exact Ne.symm (by assumption)
  | (refine ne_of_none (H := ?H0) (o := ?oo) ?hh ?hn; (case hn => assumption); (case hh => walk_at "hget"))
  | (refine Ne.symm (ne_of_none (H := ?H0) (o := ?oo) ?hh ?hn); (case hn => assumption); (case hh => walk_at "hget")))
local macro_rules | `(tactic| walk_at "hget") => `(tactic| first
  | assumption
  | exact upd_same
  | (refine (upd_ne ?n).trans ?g; (case n => walk_at "ne"); (case g => walk_at "hget"))
  | (refine fr_get (p := ?pp) (H := ?H0) ?f ?g ?n; (case f => assumption); (case g => walk_at "hget"); (case n => walk_at "ne"))
  | (refine same_get (H := ?H0) ?f ?g; (case f => assumption); (case g => walk_at "hget")))
local macro_rules | `(tactic| walk_at "vget") => `(tactic| first
  | assumption
  | (refine SqL.of ?g; (case g => walk_at "hget"))
  | (refine SqT.of ?g; (case g => walk_at "hget"))
  | (refine sql_new ?n ?g; (case n => assumption); (case g => walk_at "vget"))
  | (refine sqt_new ?n ?g; (case n => assumption); (case g => walk_at "vget"))
  | (refine sql_upd ?n ?g; (case n => walk_at "ne"); (case g => walk_at "vget"))
  | (refine sqt_upd ?n ?g; (case n => walk_at "ne"); (case g => walk_at "vget"))
  | (refine Same.seq (H := ?H0) ?f ?g; (case f => assumption); (case g => walk_at "vget"))
  | (refine Same.seqT (H := ?H0) ?f ?g; (case f => assumption); (case g => walk_at "vget"))
  | (refine fr_sql (b := ?pp) (H := ?H0) ?f ?g ?n; (case f => assumption); (case g => walk_at "vget"); (case n => walk_at "ne"))
  | (refine fr_sqt (b := ?pp) (H := ?H0) ?f ?g ?n; (case f => assumption); (case g => walk_at "vget"); (case n => walk_at "ne")))
local macro_rules | `(tactic| walk_at "at") => `(tactic| first
  | assumption
  | rfl
  | (refine atI_n ?h; (case h => first | assumption | rfl))
  | (refine atI_i ?h0 ?h; (case h0 => omega); (case h => first | assumption | rfl)))
local macro_rules | `(tactic| walk_at "v1") => `(tactic| first
  | with_reducible refine w_seq ?_
  | with_reducible refine w_enx ?_
  | with_reducible refine w_ert ?_
  | with_reducible refine w_asg ?_
  | ((with_reducible refine w_var (v := ?vv) ?h ?_); (case h => exact rfl))
  | with_reducible refine w_op ?_
  | with_reducible refine w_c ?_
  | with_reducible refine w_cons ?_
  | with_reducible refine w_nil ?_
  | with_reducible refine w_cb ?_
  | with_reducible refine w_call ?_
  | with_reducible refine w_k ?_
  | with_reducible refine w_i ?_
  | with_reducible refine w_two ?_
  | ((with_reducible refine w_name ?_); (try simp only [List.set_cons_zero, List.set_cons_succ]))
  | with_reducible refine w_ifS ?_
  | with_reducible refine w_ret ?_
  | with_reducible refine w_drop ?_
  | with_reducible refine w_test ?_
  | with_reducible refine w_B ?_
  | with_reducible refine iteT ?_
  | with_reducible refine iteF ?_
  | with_reducible refine w_same ?_
  | ((with_reducible refine w_ifT ?h ?_); (case h => first | rfl | assumption))
  | ((with_reducible refine w_ifF ?h ?_); (case h => first | rfl | assumption))
  | ((with_reducible refine w_diff ?_ ?h); (case h => decide +kernel))
  | ((with_reducible refine w_wp ?h ?_); (case h => rfl); (try simp only [wipe, List.set_cons_zero, List.set_cons_succ, List.foldl_cons, List.foldl_nil]))
  | ((with_reducible refine w_acc (acc := ?aa) ?h ?_ ?z); (case h => walk_at "hget"); (case z => walk_at "sz"))
  | with_reducible refine w_addI ?_
  | with_reducible refine w_subI ?_
  | with_reducible refine w_lt ?_
  | with_reducible refine w_le ?_
  | with_reducible refine w_gt ?_
  | with_reducible refine w_ge ?_
  | with_reducible refine w_eqI ?_
  | with_reducible refine w_neI ?_
  | with_reducible refine w_eqS ?_
  | with_reducible refine w_neS ?_
  | with_reducible refine w_neB ?_
  | ((with_reducible refine w_mulI ?_ ?h); (case h => walk_at "sz"))
  | ((with_reducible refine w_divI ?_ ?h); (case h => walk_at "sz"))
  | ((with_reducible refine w_addS ?_ ?h); (case h => walk_at "sz"))
  | ((with_reducible refine w_mulS ?_ ?h); (case h => walk_at "sz"))
  | ((with_reducible refine w_ixL (xs := ?xx) (v := ?vv) ?h ?i ?_); (case h => walk_at "vget"); (case i => walk_at "at"))
  | ((with_reducible refine w_ixT (xs := ?xx) (v := ?vv) ?h ?i ?_); (case h => walk_at "vget"); (case i => walk_at "at"))
  | ((with_reducible refine w_ixS (c := ?cc) ?i ?_ ?h); (case i => walk_at "at"); (case h => walk_at "sz"))
  | ((with_reducible refine w_lenS' ?_ ?h); (case h => walk_at "sz"))
  | ((with_reducible refine w_lenL' (xs := ?xx) ?h ?_); (case h => walk_at "vget"))
  | ((with_reducible refine w_lenT' (xs := ?xx) ?h ?_); (case h => walk_at "vget"))
  | with_reducible refine w_isnN ?_
  | with_reducible refine w_isnI ?_
  | with_reducible refine w_isnS ?_
  | with_reducible refine w_isnR ?_
  | with_reducible refine w_isnB ?_
  | with_reducible refine w_isoN ?_
  | with_reducible refine w_isoI ?_
  | with_reducible refine w_isoS ?_
  | with_reducible refine w_isoR ?_
  | with_reducible refine w_isoB ?_
  | with_reducible refine w_abs ?_
  | with_reducible refine w_int ?_
  | with_reducible refine w_intB ?_
  | with_reducible refine w_min2 ?_
  | with_reducible refine w_max2 ?_
  | with_reducible refine w_min3 ?_
  | with_reducible refine w_sl ?_
  | with_reducible refine w_np ?_
  | with_reducible refine w_part ?_
  | ((with_reducible refine w_sStN ?_ ?h); (case h => walk_at "sz"))
  | ((with_reducible refine w_sSfN ?_ ?h); (case h => walk_at "sz"))
  | ((with_reducible refine w_sSt ?_ ?h); (case h => walk_at "sz"))
  | ((with_reducible refine w_sSf ?_ ?h); (case h => walk_at "sz"))
  | with_reducible refine w_and ?_
  | with_reducible refine w_or ?_
  | with_reducible refine w_not ?_
  | with_reducible refine w_andV ?_
  | with_reducible refine w_orV ?_
  | with_reducible refine w_notV ?_
  | with_reducible refine w_ifE ?_
  | with_reducible refine w_tup ?_
  | with_reducible refine w_lst ?_
  | with_reducible refine w_chain ?_
  | ((with_reducible refine w_par ?_); (try simp only [List.set_cons_zero, List.set_cons_succ]))
  | ((with_reducible refine w_par3 ?_); (try simp only [List.set_cons_zero, List.set_cons_succ]))
  | with_reducible refine w_three ?_
  | with_reducible refine w_un ?_
  | with_reducible refine w_neg ?_
  | with_reducible refine w_next ?_
  | with_reducible refine w_ebk ?_
  | with_reducible refine w_ect ?_
  | with_reducible refine w_for ?_
  | with_reducible refine w_lc ?_
  | with_reducible refine w_yes ?_
  | with_reducible refine w_il ?_
  | with_reducible refine w_it ?_
  | with_reducible refine w_isx ?_
  | with_reducible refine w_ir1 ?_
  | with_reducible refine w_ir2 ?_
  | with_reducible refine w_ies ?_
  | with_reducible refine w_ir3 ?_
  | with_reducible refine w_s1 ?_
  | with_reducible refine w_s1l ?_
  | ((with_reducible refine w_r1 ?_ ?h); (case h => walk_at "sz"))
  | ((with_reducible refine w_r2 ?_ ?h); (case h => walk_at "sz"))
  | ((with_reducible refine w_l1 (xs := ?xx) ?h ?_); (case h => walk_at "vget"))
  | ((with_reducible refine w_t1 (xs := ?xx) ?h ?_); (case h => walk_at "vget"))
  | ((with_reducible refine w_isL (xs := ?xx) ?h ?_); (case h => walk_at "vget"))
  | with_reducible refine w_isS ?_
  | ((with_reducible refine w_app (xs := ?xx) ?h ?_ ?z); (case h => walk_at "hget"); (case z => walk_at "sz"))
  | with_reducible refine w_inC ?_
  | with_reducible refine w_rev ?_
  | ((with_reducible refine w_rev1S ?_ ?h); (case h => walk_at "sz"))
  | with_reducible refine w_lrg ?_
  | with_reducible refine w_brk ?_
  | with_reducible refine w_cont ?_
  | with_reducible refine w_retN ?_
  | with_reducible refine w_bm ?_
  | with_reducible refine w_bm0 ?_
  | with_reducible refine w_m1 ?_
  | with_reducible refine w_sub ?_
  | ((with_reducible refine w_setL (xs := ?xx) (j := ?jj) ?h ?i ?_); (case h => walk_at "hget"); (case i => first | rfl | assumption); (try simp only [Int.reduceToNat, List.set_cons_zero, List.set_cons_succ]))
  | with_reducible refine w_ip ?_
  | with_reducible refine w_gnil ?_
  | with_reducible refine w_gcons ?_
  | ((with_reducible refine w_gL (xs := ?xx) ?h ?_ ?n); (case h => walk_at "vget"); (case n => rfl))
  | ((with_reducible refine w_gT (xs := ?xx) ?h ?_ ?n); (case h => walk_at "vget"); (case n => rfl))
  | ((with_reducible refine w_aug (v := ?vv) ?h ?_); (case h => exact rfl)))
local macro_rules | `(tactic| walk_at "v") => `(tactic| repeat walk_at "v1")
local macro_rules | `(tactic| walk_at "v0") => `(tactic| (simp only [L2.start, cxK, ends_rt, List.map_cons, List.map_nil, List.length_cons, List.length_nil, Nat.reduceAdd, Nat.reduceSub, List.replicate_succ, List.replicate_zero, List.append_nil, List.cons_append, List.nil_append]; walk_at "v"))
local macro_rules | `(tactic| walk_at "u1") => `(tactic| first
  | with_reducible refine w_seqA ?_
  | with_reducible refine w_seqD ?_
  | with_reducible refine w_seqP ?_
  | with_reducible refine w_seqP3 ?_
  | with_reducible refine w_seqG ?_
  | ((fail_if_success (with_reducible refine w_seq ?_)); walk_at "v1"))
local macro_rules | `(tactic| walk_at "u") => `(tactic| repeat walk_at "u1")
local macro_rules | `(tactic| walk_at "u0") => `(tactic| (simp only [L2.start, cxK, ends_rt, List.map_cons, List.map_nil, List.length_cons, List.length_nil, Nat.reduceAdd, Nat.reduceSub, List.replicate_succ, List.replicate_zero, List.append_nil, List.cons_append, List.nil_append]; walk_at "u"))
local macro_rules | `(tactic| walk_at "t1") => `(tactic| ((fail_if_success (with_reducible refine w_seq ?_)); walk_at "v1"))
local macro_rules | `(tactic| walk_at "t") => `(tactic| repeat walk_at "t1")

section
variable {P : Program} {w : World} {K : PySem.W.Frag} {mg : Str → Option Value} {base : Heap}
/-- t is written with the letters l -/
def On (l t : List Nat) : Prop := ∀ c ∈ t, c ∈ l
theorem On.nil {l : List Nat} : On l [] := fun _ h => absurd h (by simp)
theorem On.app {l t u : List Nat} (h : On l t) (k : On l u) : On l (t ++ u) := fun c hc => (List.mem_append.mp hc).elim (h c) (k c)
theorem On.one {l : List Nat} {k c : Nat} (h : l[k]? = some c) : On l [c] := fun d hd => by rw [List.mem_singleton.mp hd]; exact List.mem_of_getElem? h
theorem On.take {l t : List Nat} (h : On l t) (k : Nat) : On l (t.take k) := fun c hc => h c (List.mem_of_mem_take hc)
theorem On.drop {l t : List Nat} (h : On l t) (k : Nat) : On l (t.drop k) := fun c hc => h c (List.mem_of_mem_drop hc)
theorem On.lt {l t : List Nat} (h : On l t) (k : Let l) : Let t := fun c hc => k c (h c hc)
theorem On.rds {l t : List Nat} (h : On l t) : ∀ q, On l (List.replicate q t).flatten
  | 0 => On.nil
  | q + 1 => by rw [List.replicate_succ, List.flatten_cons]; exact h.app (h.rds q)
theorem sg_at {l : List Nat} {k c : Nat} (h : l[k]? = some c) : (sgL l)[k]? = some (.str (tx [c])) := by
  unfold sgL
  rw [List.getElem?_map, h]
  rfl
theorem sg_erase : ∀ (m : List Nat) (k : Nat), (sgL m).eraseIdx k = sgL (m.eraseIdx k)
  | [], k => by simp [sgL]
  | a :: m, 0 => rfl
  | a :: m, k + 1 => by
    show V.str (tx [a]) :: (sgL m).eraseIdx k = _
    rw [sg_erase m k]
    rfl
theorem sg_len (l : List Nat) : (sgL l).length = l.length := by unfold sgL; rw [List.length_map]
def spLetters : Sp := fun vs H Q _ => ∃ (p : Addr) (c : Nat), vs = [.ref p] ∧ Box H p c ∧ c ≤ 10000000 ∧
  ∀ (l : List Nat) r H', l.length = 2 → Let l → H' r = some (.lst (sgL l)) → Box H' p (c + 2) → SL.Fr p H H' → r ≠ p → Q (.ref r) H'
theorem ok__law_letters (T : Txt K mg) (c__law_take : Cal P w K mg base 1 "_law_take" ["box", "many"] spTake) : Cal P w K mg base 2 "_law_letters" ["box"] spLetters := by
  refine cal0 T.d__law_letters sc__law_letters (by rintro vs H Q E ⟨p, c, rfl, _⟩; rfl) (fun cdv f A outer s H vs Q E hr hgd h => ?_)
  obtain ⟨p, c, rfl, hb, hc, q⟩ := h
  refine ⟨_, (pss_cons (ps_set (i := 1) sc__law_letters.nd rfl (by first | exact Or.inl rfl | exact Or.inr rfl) (pe_g c__law_take hr (by decide) hgd (by rfl) noX (pa_cons (pv 0) (pa_cons pe_int pa_nil))))
  (pss_cons (ps_set (i := 2) sc__law_letters.nd rfl (by first | exact Or.inl rfl | exact Or.inr rfl) (pe_op uMod (pe_callTy uInt (by rfl) T.n_int (by decide +kernel) (pa_cons (pe_op (kAdd K rfl) (pe_op (kAdd K rfl) (pv 1) pe_int) (pe_g c__law_take hr (by decide) hgd (by rfl) noX (pa_cons (pv 0) (pa_cons pe_int pa_nil)))) pa_nil)) pe_int))
  (pss_one (ps_ret (pe_lst (pa_cons (pe_ix (kIx K rfl) (pe_tx abc (by decide +kernel)) (pv 1) (fun _ _ => rfl)) (pa_cons (pe_ix (kIx K rfl) (pe_tx abc (by decide +kernel)) (pv 2) (fun _ _ => rfl)) pa_nil))))))), ?_⟩
  have labc : Let abc := fun c h => h
  walk_at "v0"
  refine take_w (N := 26) rfl hb (by omega) fun k H1 hk b1 f1 => ?_
  obtain ⟨c1, g1⟩ := ex_get (l := abc) hk
  walk_at "v"
  refine take_w (N := 25) rfl b1 (by omega) fun k2 H2 hk2 b2 f2 => ?_
  walk_at "v"
  refine w_modN (by omega) fun r _ h1 h2 => ?_
  obtain ⟨m, rfl⟩ := Int.eq_ofNat_of_zero_le h1
  obtain ⟨c2, g2⟩ := ex_get (l := abc) (k := m) (by show m < 26; omega)
  walk_at "v"
  refine ⟨by walk_at "sz", fun e he => ?_⟩
  exact q [c1, c2] e _ rfl ((labc.one g1).app (labc.one g2)) upd_same ((b2.upd (b2.ne he)).le (by omega)) ((f1.trans f2).new he hb.has) (Ne.symm (b2.ne he))
def spWord (K : PySem.W.Frag) : Sp := fun vs H Q _ => ∃ (p r : Addr) (l : List Nat) (many c : Nat), vs = [.ref p, .ref r, .int many] ∧ Box H p c ∧ c ≤ 10000000 ∧ H r = some (.lst (sgL l)) ∧ l.length = 2 ∧ r ≠ p ∧ many ≤ 1000 ∧
  ∀ (t : List Nat) H', On l t → t.length = many → Box H' p (c + many) → SL.Fr p H H' → Q (.str (tx t)) H'
theorem ok__law_word (T : Txt K mg) (c__law_take : Cal P w K mg base 1 "_law_take" ["box", "many"] spTake) : Cal P w K mg base 2 "_law_word" ["box", "letters", "size"] (spWord K) := by
  refine cal0 T.d__law_word sc__law_word (by rintro vs H Q E ⟨p, r, l, many, c, rfl, _⟩; rfl) (fun cdv f A outer s H vs Q E hr hgd h => ?_)
  obtain ⟨p, r, l, many, c, rfl, hb, hc, hl, z3, nrp, hm, q⟩ := h
  refine ⟨_, (pss_one (ps_ret (pe_m1 PySem.F.slot_str_join PySem.F.type_str_join (kJoin K rfl) (pe_tx [] (by decide +kernel)) (pe_lc (own := [("turn", 3)]) rfl sc__law_word.nd (pi_range1 (by rfl) T.n_range (pa_cons (pv 2) pa_nil)) (blkOk_by (own := [("turn", 3)]) (N := N__law_word) (sc := defScope s__law_word) (by decide +kernel)) (fun _ _ _ _ _ => (pg_name (i := 3) sc__law_word.nd rfl (by first | exact Or.inl rfl | exact Or.inr rfl))) (fun _ _ _ _ _ => pts_nil) (fun _ _ _ _ _ => (pe_ix (kIx K rfl) (pv 1) (pe_g c__law_take hr (by decide) hgd (by rfl) noX (pa_cons (pv 0) (pa_cons pe_int pa_nil))) (fun _ _ => rfl))))))), ?_⟩
  walk_at "v0"
  intro D hD
  have nD := hb.ne hD
  have nr : r ≠ D := ne_of_none hl hD
  refine lc_rg (n := many) (by omega) (fun i H' => ∃ ts : List (List Nat), ts.length = i ∧ ts.flatten.length = i ∧ On l ts.flatten ∧ Box H' p (c + i) ∧ SL.Fr p H H' ∧ H' D = some (.lst (ts.map fun t => V.str (tx t)))) ⟨[], rfl, rfl, On.nil, hb.upd nD, Fr.new (SL.Fr.refl _ _) hD hb.has, upd_same⟩ ?_ ?_
  · rintro i H2 hi ⟨ts, e1, e2, e3, b2, f2, h2⟩
    walk_at "v"
    refine take_w (N := 2) rfl b2 (by omega) fun k H3 hk b3 f3 => ?_
    obtain ⟨c1, g1⟩ := ex_get (l := l) (k := k) (by omega)
    have g2 := sg_at g1
    have hl3 := (f2.trans f3) _ _ hl nrp
    have h3 := f3 _ _ h2 (Ne.symm nD)
    walk_at "v"
    refine ⟨ts ++ [[c1]], ?_, ?_, ?_, (b3.le (by omega)).upd nD, Fr.grow (SL.Fr.refl _ _) hD nD (f2.trans f3), ?_⟩
    · rw [List.length_append, e1]; rfl
    · rw [List.flatten_append, List.length_append, e2]; rfl
    · rw [List.flatten_append]; exact e3.app (On.one g1)
    · rw [upd_same, List.map_append]; rfl
  · rintro H2 ⟨ts, e1, e2, e3, b2, f2, h2⟩
    walk_at "v"
    refine w_join (SqL.of h2) ?_ (by omega)
    walk_at "v"
    exact q _ _ e3 (by omega) b2 f2
theorem str_eq (a b : List Nat) : eqV (V.str (tx a)) (V.str (tx b)) = decide (a = b) := by
  by_cases h : a = b
  · subst h
    rw [decide_eq_true rfl]
    simp [eqV]
  · rw [decide_eq_false h]
    simp only [eqV]
    simp
    exact h
theorem w_index {H : Hp} {Q : VK} {r : Addr} {l : List Nat} {c : Nat} (hl : H r = some (.lst (sgL l))) (z2 : l.length = 2) (hc : c ∈ l) (q : ∀ k : Nat, k < 2 → Q (.int (k : Int)) H) : rIndex K (.ref r) [.str (tx [c])] H Q := by
  match l, z2 with
  | [a, b], _ =>
    by_cases e : a = c
    · subst e
      exact ⟨r, _, _, 0, _, rfl, rfl, SqL.of hl, rfl, rfl, rfl, by rw [str_eq, decide_eq_true rfl], fun m z h => by omega, q 0 (by omega)⟩
    · have eb : b = c := by
        rcases List.mem_cons.mp hc with h | h
        · exact absurd h.symm e
        · exact (List.mem_singleton.mp h).symm
      subst eb
      refine ⟨r, _, _, 1, _, rfl, rfl, SqL.of hl, rfl, rfl, rfl, by rw [str_eq, decide_eq_true rfl], fun m z h hz => ?_, q 1 (by omega)⟩
      have : m = 0 := by omega
      subst this
      cases hz
      rw [str_eq, decide_eq_false (by simpa using e)]
def spPair (K : PySem.W.Frag) : Sp := fun vs H Q _ => ∃ (p r : Addr) (l : List Nat) (c : Nat), vs = [.ref p, .ref r] ∧ Box H p c ∧ c ≤ 100000 ∧ H r = some (.lst (sgL l)) ∧ l.length = 2 ∧ r ≠ p ∧
  ∀ (x y : List Nat) e H', On l x → On l y → x.length ≤ 40 → y.length ≤ 40 → Ne2 x y → H' e = some (.lst [.str (tx x), .str (tx y)]) → Box H' p (c + 100) → SL.Fr p H H' → Q (.ref e) H'
theorem ok__law_pair (T : Txt K mg) (c__law_take : Cal P w K mg base 1 "_law_take" ["box", "many"] spTake) (c__law_word : Cal P w K mg base 2 "_law_word" ["box", "letters", "size"] (spWord K)) : Cal P w K mg base 3 "_law_pair" ["box", "letters"] (spPair K) := by
  refine cal0 T.d__law_pair sc__law_pair (by rintro vs H Q E ⟨p, r, l, c, rfl, _⟩; rfl) (fun cdv f A outer s H vs Q E hr hgd h => ?_)
  obtain ⟨p, r, l, c, rfl, hb, hc, hl, z2, nrp, q⟩ := h
  refine ⟨_, (pss_cons (ps_set (i := 2) sc__law_pair.nd rfl (by first | exact Or.inl rfl | exact Or.inr rfl) (pe_g c__law_take hr (by decide) hgd (by rfl) noX (pa_cons (pv 0) (pa_cons pe_int pa_nil))))
  (pss_cons (ps_set (i := 3) sc__law_pair.nd rfl (by first | exact Or.inl rfl | exact Or.inr rfl) (pe_g c__law_word hr (by decide) hgd (by rfl) noX (pa_cons (pv 0) (pa_cons (pv 1) (pa_cons (pe_op (kAdd K rfl) pe_int (pe_g c__law_take hr (by decide) hgd (by rfl) noX (pa_cons (pv 0) (pa_cons pe_int pa_nil)))) pa_nil)))))
  (pss_cons (ps_set (i := 4) sc__law_pair.nd rfl (by first | exact Or.inl rfl | exact Or.inr rfl) (pe_op uMul (pv 3) (pe_op (kAdd K rfl) pe_int (pe_g c__law_take hr (by decide) hgd (by rfl) noX (pa_cons (pv 0) (pa_cons pe_int pa_nil))))))
  (pss_cons (ps_set (i := 5) sc__law_pair.nd rfl (by first | exact Or.inl rfl | exact Or.inr rfl) (pe_g c__law_take hr (by decide) hgd (by rfl) noX (pa_cons (pv 0) (pa_cons (pe_callB (kLen K rfl) (by rfl) T.n_len (by decide +kernel) (pa_cons (pv 4) pa_nil)) pa_nil))))
  (pss_cons (ps_set (i := 6) sc__law_pair.nd rfl (by first | exact Or.inl rfl | exact Or.inr rfl) (pe_op (kAdd K rfl) (pe_slice (kSl K rfl) (pv 4) (po_some (pv 5)) po_none) (pe_slice (kSl K rfl) (pv 4) po_none (po_some (pv 5)))))
  (pss_cons (ps_if (pt_cmpR uLt (pv 2) pe_int (nomark _)) (pss_one (ps_ret (pe_lst (pa_cons (pv 4) (pa_cons (pv 6) pa_nil))))) pss_nil)
  (pss_cons (ps_if (pt_cmpR (kEq K rfl hr) (pv 2) pe_int (nomark _)) (pss_cons (ps_set (i := 7) sc__law_pair.nd rfl (by first | exact Or.inl rfl | exact Or.inr rfl) (pe_g c__law_take hr (by decide) hgd (by rfl) noX (pa_cons (pv 0) (pa_cons (pe_callB (kLen K rfl) (by rfl) T.n_len (by decide +kernel) (pa_cons (pv 6) pa_nil)) pa_nil))))
  (pss_one (ps_ret (pe_lst (pa_cons (pv 4) (pa_cons (pe_op (kAdd K rfl) (pe_op (kAdd K rfl) (pe_slice (kSl K rfl) (pv 6) po_none (po_some (pv 7))) (pe_ix (kIx K rfl) (pv 1) (pe_op uSub pe_int (kBm K rfl PySem.F.plainAttrs_list PySem.F.slot_list_index PySem.F.type_list_index (kIndex K rfl) (pv 1) (pa_cons (pe_ix (kIx K rfl) (pv 6) (pv 7) (fun _ _ => rfl)) pa_nil))) (fun _ _ => rfl))) (pe_slice (kSl K rfl) (pv 6) (po_some (pe_op (kAdd K rfl) (pv 7) pe_int)) po_none)) pa_nil)))))) pss_nil)
  (pss_cons (ps_if (pt_cmpR (kEq K rfl hr) (pv 2) pe_int (nomark _)) (pss_one (ps_ret (pe_lst (pa_cons (pv 4) (pa_cons (pe_g c__law_word hr (by decide) hgd (by rfl) noX (pa_cons (pv 0) (pa_cons (pv 1) (pa_cons (pe_callB (kLen K rfl) (by rfl) T.n_len (by decide +kernel) (pa_cons (pv 4) pa_nil)) pa_nil)))) pa_nil))))) pss_nil)
  (pss_cons (ps_if (pt_cmpR (kEq K rfl hr) (pv 2) pe_int (nomark _)) (pss_one (ps_ret (pe_lst (pa_cons (pv 4) (pa_cons (pe_op uMul (pv 3) (pe_op (kAdd K rfl) pe_int (pe_g c__law_take hr (by decide) hgd (by rfl) noX (pa_cons (pv 0) (pa_cons pe_int pa_nil))))) pa_nil))))) pss_nil)
  (pss_one (ps_ret (pe_ix (kIx K rfl) (pe_lst (pa_cons (pe_lst (pa_cons (pv 4) (pa_cons (pe_tx [] (by decide +kernel)) pa_nil))) (pa_cons (pe_lst (pa_cons (pe_tx [] (by decide +kernel)) (pa_cons (pv 4) pa_nil))) (pa_cons (pe_lst (pa_cons (pe_op (kAdd K rfl) (pv 4) (pe_ix (kIx K rfl) (pv 1) pe_int (fun _ _ => rfl))) (pa_cons (pv 6) pa_nil))) pa_nil)))) (pe_g c__law_take hr (by decide) hgd (by rfl) noX (pa_cons (pv 0) (pa_cons pe_int pa_nil))) (fun _ _ => rfl))))))))))))), ?_⟩
  walk_at "v0"
  refine take_w (N := 8) rfl hb (by omega) fun way H1 hw b1 f1 => ?_
  walk_at "v"
  refine take_w (N := 6) rfl b1 (by omega) fun k2 H2 hk2 b2 f2 => ?_
  have hl2 := (f1.trans f2) _ _ hl nrp
  walk_at "v"
  refine ⟨p, r, l, 1 + k2, _, by rw [show (1 : Int) + (k2 : Int) = ((1 + k2 : Nat) : Int) by omega], b2, by omega, hl2, z2, nrp, by omega, fun t H3 ot zt b3 f3 => ?_⟩
  walk_at "v"
  refine take_w (N := 4) rfl b3 (by omega) fun k4 H4 hk4 b4 f4 => ?_
  have F4 := f1.trans (f2.trans (f3.trans f4))
  have er : (1 : Int) + (k4 : Int) = ((1 + k4 : Nat) : Int) := by omega
  have zq : (1 + k4) * t.length ≤ 24 ∧ 0 < (1 + k4) * t.length := ⟨Nat.mul_le_mul (show 1 + k4 ≤ 4 by omega) (show t.length ≤ 6 by omega), Nat.mul_pos (by omega) (by omega)⟩
  have zl := rep_len (1 + k4) t
  have ol := ot.rds (1 + k4)
  walk_at "v"
  rw [er]
  refine w_mulSN ?_ ⟨by omega, by omega, by rw [Nat.mul_comm]; omega⟩
  obtain ⟨u, hu⟩ : ∃ u, u = (List.replicate (1 + k4) t).flatten := ⟨_, rfl⟩
  rw [← hu] at zl ol
  rw [← hu]
  have zu : u.length ≤ 24 ∧ 0 < u.length := by omega
  walk_at "v"
  refine take_w (N := u.length) rfl b4 (by omega) fun s5 H5 hs b5 f5 => ?_
  have F5 := F4.trans f5
  have hl5 := F5 _ _ hl nrp
  obtain ⟨v, hv⟩ : ∃ v, v = u.drop s5 ++ u.take s5 := ⟨_, rfl⟩
  have ov : On l v := by rw [hv]; exact (ol.drop _).app (ol.take _)
  have zv : v.length = u.length := by rw [hv]; simp only [List.length_append, List.length_take, List.length_drop]; omega
  walk_at "v"
  rw [← hv]
  refine w_if (fun h => ?_) (fun h => ?_)
  · walk_at "v"
    refine ⟨by walk_at "sz", fun e he => ?_⟩
    exact q u v e _ ol ov (by omega) (by omega) (fun _ => by omega) upd_same ((b5.upd (b5.ne he)).le (by omega)) (F5.new he hb.has)
  · walk_at "v"
    refine w_if (fun h => ?_) (fun h => ?_)
    · walk_at "v"
      refine take_w (N := v.length) rfl b5 (by omega) fun pl H6 hpl b6 f6 => ?_
      have hl6 := f6 _ _ hl5 nrp
      obtain ⟨d, hd⟩ := ex_get (l := v) hpl
      walk_at "v"
      refine w_index hl6 z2 (ov d (List.mem_of_getElem? hd)) fun m hm => ?_
      obtain ⟨g, hg⟩ := ex_get (l := l) (k := 1 - m) (by omega)
      have hix : atI (sgL l) (1 - (m : Int)) = some (.str (tx [g])) := by
        rw [show (1 : Int) - (m : Int) = ((1 - m : Nat) : Int) by omega]
        exact atI_n (sg_at hg)
      walk_at "v"
      refine ⟨by walk_at "sz", fun e he => ?_⟩
      have z9 : (v.take pl ++ [g] ++ v.drop ((pl : Int) + 1).toNat).length = v.length := by
        simp only [List.length_append, List.length_take, List.length_drop, List.length_singleton]
        omega
      exact q u _ e _ ol (((ov.take _).app (On.one hg)).app (ov.drop _)) (by omega) (by omega) (fun _ => by omega) upd_same ((b6.upd (b6.ne he)).le (by omega)) ((F5.trans f6).new he hb.has)
    · walk_at "v"
      refine w_if (fun h => ?_) (fun h => ?_)
      · walk_at "v"
        refine ⟨p, r, l, u.length, _, rfl, b5, by omega, hl5, z2, nrp, by omega, fun x H6 ox zx b6 f6 => ?_⟩
        walk_at "v"
        refine ⟨by walk_at "sz", fun e he => ?_⟩
        exact q u x e _ ol ox (by omega) (by omega) (fun _ => by omega) upd_same ((b6.upd (b6.ne he)).le (by omega)) ((F5.trans f6).new he hb.has)
      · walk_at "v"
        refine w_if (fun h => ?_) (fun h => ?_)
        · walk_at "v"
          refine take_w (N := 4) rfl b5 (by omega) fun k6 H6 hk6 b6 f6 => ?_
          have zq2 : (1 + k6) * t.length ≤ 24 ∧ 0 < (1 + k6) * t.length := ⟨Nat.mul_le_mul (show 1 + k6 ≤ 4 by omega) (show t.length ≤ 6 by omega), Nat.mul_pos (by omega) (by omega)⟩
          walk_at "v"
          rw [show (1 : Int) + (k6 : Int) = ((1 + k6 : Nat) : Int) by omega]
          refine w_mulSN ?_ ⟨by omega, by omega, by rw [Nat.mul_comm]; omega⟩
          have z6 := rep_len (1 + k6) t
          walk_at "v"
          refine ⟨by walk_at "sz", fun e he => ?_⟩
          exact q u _ e _ ol (ot.rds _) (by omega) (by omega) (fun _ => by omega) upd_same ((b6.upd (b6.ne he)).le (by omega)) ((F5.trans f6).new he hb.has)
        · obtain ⟨g, hg⟩ := ex_get (l := l) (k := 0) (by omega)
          have hg' := sg_at hg
          walk_at "v"
          refine ⟨by walk_at "sz", fun e1 n1 => ?_⟩
          walk_at "v"
          refine ⟨by walk_at "sz", fun e2 n2 => ?_⟩
          have n1p : e1 ≠ p := Ne.symm (b5.ne n1)
          have B1 := b5.upd (o := .lst [.str (tx u), .str (tx [])]) (b5.ne n1)
          have n2p : e2 ≠ p := Ne.symm (B1.ne n2)
          have B2 := B1.upd (o := .lst [.str (tx []), .str (tx u)]) (B1.ne n2)
          have S2 := (same_new (o := .lst [.str (tx u), .str (tx [])]) n1).trans (same_new (o := .lst [.str (tx []), .str (tx u)]) n2)
          have hlb := S2 _ _ hl5
          have hix : atI (sgL l) 0 = some (.str (tx [g])) := atI_n (n := 0) hg'
          walk_at "v"
          refine ⟨by walk_at "sz", fun e3 n3 => ?_⟩
          have n3p : e3 ≠ p := Ne.symm (B2.ne n3)
          have B3 := B2.upd (o := .lst [.str (tx (u ++ [g])), .str (tx v)]) (B2.ne n3)
          walk_at "v"
          refine ⟨by walk_at "sz", fun e4 n4 => ?_⟩
          have n4p : e4 ≠ p := Ne.symm (B3.ne n4)
          have B4 := B3.upd (o := .lst [.ref e1, .ref e2, .ref e3]) (B3.ne n4)
          have F6 := (((F5.new n1 hb.has (o := .lst [.str (tx u), .str (tx [])])).new n2 hb.has (o := .lst [.str (tx []), .str (tx u)])).new n3 hb.has (o := .lst [.str (tx (u ++ [g])), .str (tx v)])).new n4 hb.has (o := .lst [.ref e1, .ref e2, .ref e3])
          walk_at "v"
          refine take_w (N := 3) rfl B4 (by omega) fun k7 H7 hk7 b7 f7 => ?_
          have g4 := f7 _ _ upd_same n4p
          have g3 := f7 _ _ ((same_new n4) _ _ upd_same) n3p
          have g2 := f7 _ _ ((same_new n4) _ _ ((same_new n3) _ _ upd_same)) n2p
          have g1 := f7 _ _ ((same_new n4) _ _ ((same_new n3) _ _ ((same_new n2) _ _ upd_same))) n1p
          have og : On l (u ++ [g]) := ol.app (On.one hg)
          have zg : (u ++ [g]).length = u.length + 1 := by rw [List.length_append]; rfl
          match k7, hk7 with
          | 0, _ =>
            refine w_ixL (v := .ref e1) (SqL.of g4) (atI_n (n := 0) rfl) ?_
            exact q u [] e1 _ ol On.nil (by omega) (by simp) (fun z => by simp at z; rw [z] at zu; simp at zu) g1 (b7.le (by omega)) (F6.trans f7)
          | 1, _ =>
            refine w_ixL (v := .ref e2) (SqL.of g4) (atI_n (n := 1) rfl) ?_
            exact q [] u e2 _ On.nil ol (by simp) (by omega) (fun z => by omega) g2 (b7.le (by omega)) (F6.trans f7)
          | 2, _ =>
            refine w_ixL (v := .ref e3) (SqL.of g4) (atI_n (n := 2) rfl) ?_
            exact q (u ++ [g]) v e3 _ og ov (by omega) (by omega) (fun z => by omega) g3 (b7.le (by omega)) (F6.trans f7)
end
end K12
set_option Elab.async false
set_option linter.all false
set_option maxRecDepth 100000
set_option maxHeartbeats 4000000
namespace K12
open PySem PySem.Spec PyProof.Rows L2 SL Rt Wd
local macro_rules | `(tactic| walk_at "sz") => `(tactic| first
  | assumption
  | omega
  | (simp only [List.length_cons, List.length_nil, List.length_append, List.length_map, List.length_take, List.length_drop, List.length_reverse, List.length_replicate, List.length_range, tx_len, sizeLine_eq, CMul, CDiv, Nat.reduceAdd, Nat.reduceLeDiff]; first | done | omega)
  | decide)
local macro_rules | `(tactic| walk_at "ne") => `(tactic| first
  | assumption
  | exact Ne.symm (by assumption)
  | (refine ne_of_none (H := ?H0) (o := ?oo) ?hh ?hn; (case hn => assumption); (case hh => walk_at "hget"))
  | (refine Ne.symm (ne_of_none (H := ?H0) (o := ?oo) ?hh ?hn); (case hn => assumption); (case hh => walk_at "hget")))
local macro_rules | `(tactic| walk_at "hget") => `(tactic| first
  | assumption
  | exact upd_same
  | (refine (upd_ne ?n).trans ?g; (case n => walk_at "ne"); (case g => walk_at "hget"))
  | (refine fr_get (p := ?pp) (H := ?H0) ?f ?g ?n; (case f => assumption); (case g => walk_at "hget"); (case n => walk_at "ne"))
  | (refine same_get (H := ?H0) ?f ?g; (case f => assumption); (case g => walk_at "hget")))
local macro_rules | `(tactic| walk_at "vget") => `(tactic| first
  | assumption
  | (refine SqL.of ?g; (case g => walk_at "hget"))
  | (refine SqT.of ?g; (case g => walk_at "hget"))
  | (refine sql_new ?n ?g; (case n => assumption); (case g => walk_at "vget"))
  | (refine sqt_new ?n ?g; (case n => assumption); (case g => walk_at "vget"))
  | (refine sql_upd ?n ?g; (case n => walk_at "ne"); (case g => walk_at "vget"))
  | (refine sqt_upd ?n ?g; (case n => walk_at "ne"); (case g => walk_at "vget"))
  | (refine Same.seq (H := ?H0) ?f ?g; (case f => assumption); (case g => walk_at "vget"))
  | (refine Same.seqT (H := ?H0) ?f ?g; (case f => assumption); (case g => walk_at "vget"))
  | (refine fr_sql (b := ?pp) (H := ?H0) ?f ?g ?n; (case f => assumption); (case g => walk_at "vget"); (case n => walk_at "ne"))
  | (refine fr_sqt (b := ?pp) (H := ?H0) ?f ?g ?n; (case f => assumption); (case g => walk_at "vget"); (case n => walk_at "ne")))
local macro_rules | `(tactic| walk_at "at") => `(tactic| first
  | assumption
  | rfl
  | (refine atI_n ?h; (case h => first | assumption | rfl))
  | (refine atI_i ?h0 ?h; (case h0 => omega); (case h => first | assumption | rfl)))
local macro_rules | `(tactic| walk_at "v1") => `(tactic| first
  | with_reducible refine w_seq ?_
  | with_reducible refine w_enx ?_
  | with_reducible refine w_ert ?_
  | with_reducible refine w_asg ?_
  | ((with_reducible refine w_var (v := ?vv) ?h ?_); (case h => exact rfl))
  | with_reducible refine w_op ?_
  | with_reducible refine w_c ?_
  | with_reducible refine w_cons ?_
  | with_reducible refine w_nil ?_
  | with_reducible refine w_cb ?_
  | with_reducible refine w_call ?_
  | with_reducible refine w_k ?_
  | with_reducible refine w_i ?_
  | with_reducible refine w_two ?_
  | ((with_reducible refine w_name ?_); (try simp only [List.set_cons_zero, List.set_cons_succ]))
  | with_reducible refine w_ifS ?_
  | with_reducible refine w_ret ?_
  | with_reducible refine w_drop ?_
  | with_reducible refine w_test ?_
  | with_reducible refine w_B ?_
  | with_reducible refine iteT ?_
  | with_reducible refine iteF ?_
  | with_reducible refine w_same ?_
  | ((with_reducible refine w_ifT ?h ?_); (case h => first | rfl | assumption))
  | ((with_reducible refine w_ifF ?h ?_); (case h => first | rfl | assumption))
  | ((with_reducible refine w_diff ?_ ?h); (case h => decide +kernel))
  | ((with_reducible refine w_wp ?h ?_); (case h => rfl); (try simp only [wipe, List.set_cons_zero, List.set_cons_succ, List.foldl_cons, List.foldl_nil]))
  | ((with_reducible refine w_acc (acc := ?aa) ?h ?_ ?z); (case h => walk_at "hget"); (case z => walk_at "sz"))
  | with_reducible refine w_addI ?_
  | with_reducible refine w_subI ?_
  | with_reducible refine w_lt ?_
  | with_reducible refine w_le ?_
  | with_reducible refine w_gt ?_
  | with_reducible refine w_ge ?_
  | with_reducible refine w_eqI ?_
  | with_reducible refine w_neI ?_
  | with_reducible refine w_eqS ?_
  | with_reducible refine w_neS ?_
  | with_reducible refine w_neB ?_
  | ((with_reducible refine w_mulI ?_ ?h); (case h => walk_at "sz"))
  | ((with_reducible refine w_divI ?_ ?h); (case h => walk_at "sz"))
  | ((with_reducible refine w_addS ?_ ?h); (case h => walk_at "sz"))
  | ((with_reducible refine w_mulS ?_ ?h); (case h => walk_at "sz"))
  | ((with_reducible refine w_ixL (xs := ?xx) (v := ?vv) ?h ?i ?_); (case h => walk_at "vget"); (case i => walk_at "at"))
  | ((with_reducible refine w_ixT (xs := ?xx) (v := ?vv) ?h ?i ?_); (case h => walk_at "vget"); (case i => walk_at "at"))
  | ((with_reducible refine w_ixS (c := ?cc) ?i ?_ ?h); (case i => walk_at "at"); (case h => walk_at "sz"))
  | ((with_reducible refine w_lenS' ?_ ?h); (case h => walk_at "sz"))
  | ((with_reducible refine w_lenL' (xs := ?xx) ?h ?_); (case h => walk_at "vget"))
  | ((with_reducible refine w_lenT' (xs := ?xx) ?h ?_); (case h => walk_at "vget"))
  | with_reducible refine w_isnN ?_
  | with_reducible refine w_isnI ?_
  | with_reducible refine w_isnS ?_
  | with_reducible refine w_isnR ?_
  | with_reducible refine w_isnB ?_
  | with_reducible refine w_isoN ?_
  | with_reducible refine w_isoI ?_
  | with_reducible refine w_isoS ?_
  | with_reducible refine w_isoR ?_
  | with_reducible refine w_isoB ?_
  | with_reducible refine w_abs ?_
  | with_reducible refine w_int ?_
  | with_reducible refine w_intB ?_
  | with_reducible refine w_min2 ?_
  | with_reducible refine w_max2 ?_
  | with_reducible refine w_min3 ?_
  | with_reducible refine w_sl ?_
  | with_reducible refine w_np ?_
  | with_reducible refine w_part ?_
  | ((with_reducible refine w_sStN ?_ ?h); (case h => walk_at "sz"))
  | ((with_reducible refine w_sSfN ?_ ?h); (case h => walk_at "sz"))
  | ((with_reducible refine w_sSt ?_ ?h); (case h => walk_at "sz"))
  | ((with_reducible refine w_sSf ?_ ?h); (case h => walk_at "sz"))
  | with_reducible refine w_and ?_
  | with_reducible refine w_or ?_
  | with_reducible refine w_not ?_
  | with_reducible refine w_andV ?_
  | with_reducible refine w_orV ?_
  | with_reducible refine w_notV ?_
  | with_reducible refine w_ifE ?_
  | with_reducible refine w_tup ?_
  | with_reducible refine w_lst ?_
  | with_reducible refine w_chain ?_
  | ((with_reducible refine w_par ?_); (try simp only [List.set_cons_zero, List.set_cons_succ]))
  | ((with_reducible refine w_par3 ?_); (try simp only [List.set_cons_zero, List.set_cons_succ]))
  | with_reducible refine w_three ?_
  | with_reducible refine w_un ?_
  | with_reducible refine w_neg ?_
  | with_reducible refine w_next ?_
  | with_reducible refine w_ebk ?_
  | with_reducible refine w_ect ?_
  | with_reducible refine w_for ?_
  | with_reducible refine w_lc ?_
  | with_reducible refine w_yes ?_
  | with_reducible refine w_il ?_
  | with_reducible refine w_it ?_
  | with_reducible refine w_isx ?_
  | with_reducible refine w_ir1 ?_
  | with_reducible refine w_ir2 ?_
  | with_reducible refine w_ies ?_
  | with_reducible refine w_ir3 ?_
  | with_reducible refine w_s1 ?_
  | with_reducible refine w_s1l ?_
  | ((with_reducible refine w_r1 ?_ ?h); (case h => walk_at "sz"))
  | ((with_reducible refine w_r2 ?_ ?h); (case h => walk_at "sz"))
  | ((with_reducible refine w_l1 (xs := ?xx) ?h ?_); (case h => walk_at "vget"))
  | ((with_reducible refine w_t1 (xs := ?xx) ?h ?_); (case h => walk_at "vget"))
  | ((with_reducible refine w_isL (xs := ?xx) ?h ?_); (case h => walk_at "vget"))
  | with_reducible refine w_isS ?_
  | ((with_reducible refine w_app (xs := ?xx) ?h ?_ ?z); (case h => walk_at "hget"); (case z => walk_at "sz"))
  | with_reducible refine w_inC ?_
  | with_reducible refine w_rev ?_
  | ((with_reducible refine w_rev1S ?_ ?h); (case h => walk_at "sz"))
  | with_reducible refine w_lrg ?_
  | with_reducible refine w_brk ?_
  | with_reducible refine w_cont ?_
  | with_reducible refine w_retN ?_
  | with_reducible refine w_bm ?_
  | with_reducible refine w_bm0 ?_
  | with_reducible refine w_m1 ?_
  | with_reducible refine w_sub ?_
  | ((with_reducible refine w_setL (xs := ?xx) (j := ?jj) ?h ?i ?_); (case h => walk_at "hget"); (case i => first | rfl | assumption); (try simp only [Int.reduceToNat, List.set_cons_zero, List.set_cons_succ]))
  | with_reducible refine w_ip ?_
  | with_reducible refine w_gnil ?_
  | with_reducible refine w_gcons ?_
  | ((with_reducible refine w_gL (xs := ?xx) ?h ?_ ?n); (case h => walk_at "vget"); (case n => rfl))
  | ((with_reducible refine w_gT (xs := ?xx) ?h ?_ ?n); (case h => walk_at "vget"); (case n => rfl))
  | ((with_reducible refine w_aug (v := ?vv) ?h ?_); (case h => exact rfl)))
local macro_rules | `(tactic| walk_at "v") => `(tactic| repeat walk_at "v1")
local macro_rules | `(tactic| walk_at "v0") => `(tactic| (simp only [L2.start, cxK, ends_rt, List.map_cons, List.map_nil, List.length_cons, List.length_nil, Nat.reduceAdd, Nat.reduceSub, List.replicate_succ, List.replicate_zero, List.append_nil, List.cons_append, List.nil_append]; walk_at "v"))
local macro_rules | `(tactic| walk_at "u1") => `(tactic| first
  | with_reducible refine w_seqA ?_
  | with_reducible refine w_seqD ?_
  | with_reducible refine w_seqP ?_
  | with_reducible refine w_seqP3 ?_
  | with_reducible refine w_seqG ?_
  | ((fail_if_success (with_reducible refine w_seq ?_)); walk_at "v1"))
local macro_rules | `(tactic| walk_at "u") => `(tactic| repeat walk_at "u1")
local macro_rules | `(tactic| walk_at "u0") => `(tactic| (simp only [L2.start, cxK, ends_rt, List.map_cons, List.map_nil, List.length_cons, List.length_nil, Nat.reduceAdd, Nat.reduceSub, List.replicate_succ, List.replicate_zero, List.append_nil, List.cons_append, List.nil_append]; walk_at "u"))
local macro_rules | `(tactic| walk_at "t1") => `(tactic| ((fail_if_success (with_reducible refine w_seq ?_)); walk_at "v1"))
local macro_rules | `(tactic| walk_at "t") => `(tactic| repeat walk_at "t1")

section
variable {P : Program} {w : World} {K : PySem.W.Frag} {mg : Str → Option Value} {base : Heap}
theorem ok_staying (T : Txt K mg) (c_check_text : Cal P w K mg base 2 "check_text" ["text"] (spCheckD K (errAt mg "InvalidText"))) (c_check_count : Cal P w K mg base 3 "check_count" ["count"] (spCheckC K (errAt mg "InvalidCount"))) (c_turn_number : Cal P w K mg base 1 "turn_number" ["one", "other"] spTurnNo)
    (c_round_length : Cal P w K mg base 1 "round_length" ["text"] spRound) (c_lag_numbered : Cal P w K mg base 1 "lag_numbered" ["one", "other", "number"] spNum) : Cal P w K mg base 4 "staying" ["one", "other", "most"] (spStay K (errAt mg "InvalidText") (errAt mg "InvalidCount")) := cal_of T.d_staying (fn_staying T c_check_text c_check_count c_turn_number c_round_length c_lag_numbered)
theorem ok_staying_w (T : Txt K mg) (c_check_text : Cal P w K mg base 2 "check_text" ["text"] (spCheckD K (errAt mg "InvalidText"))) (c_check_count : Cal P w K mg base 3 "check_count" ["count"] (spCheckC K (errAt mg "InvalidCount"))) (c_turn_number : Cal P w K mg base 1 "turn_number" ["one", "other"] spTurnNo)
    (c_round_length : Cal P w K mg base 1 "round_length" ["text"] spRound) (c_lag_numbered : Cal P w K mg base 1 "lag_numbered" ["one", "other", "number"] spNum) :
    CalW P w K mg base 4 "staying" ["one", "other", "most"] ["most", "other", "one"] (fun {α} (l : List α) => l.reverse) (spStay K (errAt mg "InvalidText") (errAt mg "InvalidCount")) :=
  calW_of T.d_staying (fn_staying T c_check_text c_check_count c_turn_number c_round_length c_lag_numbered) (by
    intro f fd F s ws hl
    obtain ⟨oc, od, kV, doc, pm, an, cdv, ct, osl, rfl, lk, hcd⟩ := F.ex
    match ws, hl with
    | [a, b, c], _ => exact .of_eq rfl)
theorem hl_staying_w {vs : List V} {us : List Value} (hn : vs.length = 3) (r : Vals vs us) : Vals vs.reverse us.reverse := by
  match vs, us, r with
  | [a, b, c], [a', b', c'], .cons r1 (.cons r2 (.cons r3 .nil)) => exact .cons r3 (.cons r2 (.cons r1 .nil))
theorem ok_staying_v (T : Txt K mg) (c_check_text : Cal P w K mg base 2 "check_text" ["text"] (spCheckD K (errAt mg "InvalidText"))) (c_check_count : Cal P w K mg base 3 "check_count" ["count"] (spCheckC K (errAt mg "InvalidCount"))) (c_turn_number : Cal P w K mg base 1 "turn_number" ["one", "other"] spTurnNo)
    (c_round_length : Cal P w K mg base 1 "round_length" ["text"] spRound) (c_lag_numbered : Cal P w K mg base 1 "lag_numbered" ["one", "other", "number"] spNum) :
    CalW P w K mg base 4 "staying" ["one", "other", "most"] ["most", "one", "other"] (fun {α} (l : List α) => rot3 l) (spStay K (errAt mg "InvalidText") (errAt mg "InvalidCount")) :=
  calW_of T.d_staying (fn_staying T c_check_text c_check_count c_turn_number c_round_length c_lag_numbered) (by
    intro f fd F s ws hl
    obtain ⟨oc, od, kV, doc, pm, an, cdv, ct, osl, rfl, lk, hcd⟩ := F.ex
    match ws, hl with
    | [a, b, c], _ => exact .of_eq rfl)
theorem hl_staying_v {vs : List V} {us : List Value} (hn : vs.length = 3) (r : Vals vs us) : Vals (rot3 vs) (rot3 us) := by
  match vs, us, r with
  | [a, b, c], [a', b', c'], .cons r1 (.cons r2 (.cons r3 .nil)) => exact .cons r2 (.cons r3 (.cons r1 .nil))
/-- staying, of good parts -/
theorem stay_w {H : Hp} {Q : VK} {E : XK} {C1 C2 : Addr} {u v : List Nat} {h : Nat} {i : Int} (e : i = (h : Int)) (lu : Let u) (lv : Let v) (ne : Ne2 u v) (zu : u.length ≤ 1000) (zv : v.length ≤ 1000) (zh : h ≤ 2000) (q : Lst Q H (stay u v h)) : spStay K C1 C2 [.str (tx u), .str (tx v), .int i] H Q E := by
  subst e
  refine ⟨_, _, _, true, true, true, rfl, .inl ⟨u, rfl, by omega, (decide_eq_true lu).symm⟩, .inl ⟨v, rfl, by omega, (decide_eq_true lv).symm⟩, .inl ⟨(h : Int), rfl, by simp⟩, (fun h => nomatch h), (fun _ h => nomatch h), fun _ _ => ⟨u, v, rfl, rfl, zu, zv, fun z => ?_, fun _ => ⟨(fun h => nomatch h), fun _ => ⟨h, rfl, zh, q⟩⟩⟩⟩
  have := ne (by rw [z.1, z.2])
  rw [z.2] at this
  simp at this
def spHighest : Sp := fun vs H Q _ => ∃ (p : Addr) (u v : List Nat) (c : Nat), vs = [.ref p, .str (tx u), .str (tx v)] ∧ Box H p c ∧ c ≤ 1000000 ∧ Ne2 u v ∧ u.length ≤ 40 ∧ v.length ≤ 40 ∧ ∀ (h : Nat) H', h ≤ 50 → Box H' p (c + 2) → SL.Fr p H H' → Q (.int (h : Int)) H'
theorem ok__law_highest (T : Txt K mg) (c__law_take : Cal P w K mg base 1 "_law_take" ["box", "many"] spTake) (c__law_due : Cal P w K mg base 2 "_law_due" ["left", "right", "highest"] spDue) (c__law_number : Cal P w K mg base 1 "_law_number" ["pair"] spNumber) :
    Cal P w K mg base 3 "_law_highest" ["box", "left", "right"] spHighest := by
  refine cal0 T.d__law_highest sc__law_highest (by rintro vs H Q E ⟨p, u, v, c, rfl, _⟩; rfl) (fun cdv f A outer s H vs Q E hr hgd h => ?_)
  obtain ⟨p, u, v, c, rfl, hb, hc, ne, zu, zv, q⟩ := h
  refine ⟨_, (pss_cons (ps_setLc (i := 3) (own := [("pair", 4)]) rfl sc__law_highest.nd rfl rfl (sw_true rfl rfl rfl (by decide +kernel)) (kiList K rfl (pe_g c__law_due hr (by decide) hgd (by rfl) noX (pa_cons (pv 1) (pa_cons (pv 2) (pa_cons (pe_callB (kLen K rfl) (by rfl) T.n_len (by decide +kernel) (pa_cons (pv 1) pa_nil)) pa_nil))))) (blkOk_by (own := [("pair", 4)]) (N := N__law_highest) (sc := defScope s__law_highest) (by decide +kernel)) (fun _ _ _ _ _ => (pg_name (i := 4) sc__law_highest.nd rfl (by first | exact Or.inl rfl | exact Or.inr rfl))) (fun _ _ _ _ _ => pts_nil) (fun _ _ _ _ _ => (pe_callB uAbs (by rfl) T.n_abs (by decide +kernel) (pa_cons (pe_g c__law_number hr (by decide) hgd (by rfl) noX (pa_cons (pv 4) pa_nil)) pa_nil))))
  (pss_cons (ps_if (PW.pt (pw_or (pt_cmpR (kEq K rfl hr) (pv 3) (pe_lst pa_nil) (nomark _)) (pw_or1 (pt_cmpR (kEq K rfl hr) (pe_g c__law_take hr (by decide) hgd (by rfl) noX (pa_cons (pv 0) (pa_cons pe_int pa_nil))) pe_int (nomark _))))) (pss_one (ps_ret (pe_g c__law_take hr (by decide) hgd (by rfl) noX (pa_cons (pv 0) (pa_cons pe_int pa_nil))))) pss_nil)
  (pss_one (ps_ret (pe_callB (uMax2 rfl) (by rfl) T.n_max (by decide +kernel) (pa_cons pe_int (pa_cons (pe_ix (kIx K rfl) (pe_lst (pa_cons (pe_callB (kMin K rfl rfl) (by rfl) T.n_min (by decide +kernel) (pa_cons (pv 3) pa_nil)) (pa_cons (pe_op uSub (pe_callB (kMin K rfl rfl) (by rfl) T.n_min (by decide +kernel) (pa_cons (pv 3) pa_nil)) pe_int) (pa_cons (pe_callB (kMax K rfl rfl) (by rfl) T.n_max (by decide +kernel) (pa_cons (pv 3) pa_nil)) (pa_cons (pe_op uSub (pe_callB (kMax K rfl rfl) (by rfl) T.n_max (by decide +kernel) (pa_cons (pv 3) pa_nil)) pe_int) pa_nil))))) (pe_g c__law_take hr (by decide) hgd (by rfl) noX (pa_cons (pv 0) (pa_cons pe_int pa_nil))) (fun _ _ => rfl)) pa_nil))))))), ?_⟩
  walk_at "v0"
  refine ⟨u, v, u.length, rfl, ne, by omega, by omega, by omega, fun r vs H1 s1 n1 g1 d1 => ?_⟩
  have zvs : vs.length = (stay u v u.length).length := by rw [d1.len, List.length_map]
  have zst := stay_len u v u.length
  have hv0 : ∀ p ∈ stay u v u.length, p.1.length ≤ 40 ∧ p.2.length ≤ 40 := fun p hp => by
    obtain ⟨e, n, hn, _, rfl⟩ := stay_mem hp
    obtain ⟨z1, z2⟩ := numbered_len (u := u) (v := v) (by have := ne e; omega) (ne e) n
    omega
  walk_at "v"
  intro D hD
  refine lc_it (walk_list (K := K) (a := r) (xs := vs)) (fun i H' => ∃ ks : List Nat, Same H1 H' ∧ H' D = some (.lst (natL ks)) ∧ ks.length = i ∧ ∀ k ∈ ks, k ≤ 40) ⟨[], same_new hD, upd_same, rfl, by simp⟩ ?_ ?_ ?_
  · rintro i Y hi ⟨ks, sY, gY, zk, hk⟩
    exact SqL.of (sY _ _ g1)
  · rintro i x Y Y' hi ⟨ks, sY, gY, zk, hk⟩ ⟨rfl, hx⟩
    obtain ⟨d, hd, dv⟩ := dvall_get (DvAll.mono sY _ _ d1) hx
    rw [List.getElem?_map] at hd
    obtain ⟨p0, hp0, rfl⟩ := Option.map_eq_some_iff.mp hd
    have hz := hv0 p0 (List.mem_of_getElem? hp0)
    obtain ⟨a, rfl, ga⟩ := pair_get dv
    have zk2 : (natL ks).length ≤ 1000 := by rw [natL_len]; omega
    walk_at "v"
    refine ⟨a, p0.1, p0.2, rfl, ga, by omega, by omega, ?_⟩
    walk_at "v"
    obtain ⟨m, hm, zm⟩ : ∃ m : Nat, (if (p0.1.length : Int) - (p0.2.length : Int) < 0 then -((p0.1.length : Int) - (p0.2.length : Int)) else (p0.1.length : Int) - (p0.2.length : Int)) = (m : Int) ∧ m ≤ 40 := by
      split
      · exact ⟨p0.2.length - p0.1.length, by omega, by omega⟩
      · exact ⟨p0.1.length - p0.2.length, by omega, by omega⟩
    rw [hm]
    refine ⟨ks ++ [m], Same.grow sY hD, ?_, by rw [List.length_append, zk]; rfl, fun k hk2 => ?_⟩
    · rw [upd_same]
      unfold natL
      rw [List.map_append]
      rfl
    · rcases List.mem_append.mp hk2 with h | h
      · exact hk k h
      · rw [List.mem_singleton.mp h]; exact zm
  · rintro Y ⟨ks, sY, gY, zk, hk⟩
    have SY := s1.trans sY
    have bY := hb.same SY
    walk_at "v"
    refine ⟨by walk_at "sz", fun e he => ?_⟩
    have nDe : D ≠ e := ne_of_none gY he
    have gY2 := (upd_ne (o := .lst []) nDe).trans gY
    refine w_eqNil (ks := ks) gY2 upd_same ?_
    have b2 := bY.upd (o := .lst []) (bY.ne he)
    have F2 : SL.Fr p H (upd Y e (.lst [])) := (Fr.of SY).new he hb.has
    walk_at "v"
    by_cases hks : ks = []
    · refine w_ifT (decide_eq_true hks) ?_
      walk_at "v"
      refine take_w (N := 41) rfl b2 (by omega) fun k Z hk' b3 f3 => ?_
      exact q k Z (by omega) (b3.le (by omega)) (F2.trans f3)
    · refine w_ifF (decide_eq_false hks) ?_
      walk_at "v"
      refine take_w (N := 2) rfl b2 (by omega) fun k Z hk' b3 f3 => ?_
      have F3 := F2.trans f3
      walk_at "v"
      refine w_if (fun h => ?_) (fun h => ?_)
      · walk_at "v"
        refine take_w (N := 41) rfl b3 (by omega) fun k2 Z2 hk2 b4 f4 => ?_
        exact q k2 Z2 (by omega) (b4.le (by omega)) (F3.trans f4)
      · have nDp : D ≠ p := fun e2 => by
          obtain ⟨o, ho⟩ := (hb.same s1).has
          rw [e2, ho] at hD
          cases hD
        have gZ := f3 _ _ gY2 nDp
        have gI : SqL K Z D ((ks.map fun k : Nat => (k : Int)).map V.int) := by rw [← natL_ints]; exact SqL.of gZ
        have zi : 0 < (ks.map fun k : Nat => (k : Int)).length := by
          rw [List.length_map]
          exact List.length_pos_iff.mpr hks
        have inm : ∀ m : Int, m ∈ ks.map (fun k : Nat => (k : Int)) → ∃ n : Nat, m = (n : Int) ∧ n ≤ 40 := fun m hm => by
          obtain ⟨k, hk1, rfl⟩ := List.mem_map.mp hm
          exact ⟨k, rfl, hk k hk1⟩
        walk_at "v"
        refine w_minL gI zi fun m1 hm1 _ => ?_
        obtain ⟨n1', rfl, zn1⟩ := inm m1 hm1
        walk_at "v"
        refine w_minL gI zi fun m2 hm2 _ => ?_
        obtain ⟨n2', rfl, zn2⟩ := inm m2 hm2
        walk_at "v"
        refine w_maxL gI zi fun m3 hm3 _ => ?_
        obtain ⟨n3', rfl, zn3⟩ := inm m3 hm3
        walk_at "v"
        refine w_maxL gI zi fun m4 hm4 _ => ?_
        obtain ⟨n4', rfl, zn4⟩ := inm m4 hm4
        walk_at "v"
        refine ⟨by walk_at "sz", fun e2 he2 => ?_⟩
        have n2p : e2 ≠ p := Ne.symm (b3.ne he2)
        walk_at "v"
        refine take_w (N := 4) rfl (b3.upd (b3.ne he2)) (by omega) fun k5 Z5 hk5 b5 f5 => ?_
        have g5 := f5 _ _ upd_same n2p
        have hx : ∃ x : Int, ([.int (n1' : Int), .int ((n2' : Int) - 1), .int (n3' : Int), .int ((n4' : Int) - 1)] : List V)[k5]? = some (.int x) ∧ x ≤ 40 := by
          match k5, hk5 with
          | 0, _ => exact ⟨_, rfl, by omega⟩
          | 1, _ => exact ⟨_, rfl, by omega⟩
          | 2, _ => exact ⟨_, rfl, by omega⟩
          | 3, _ => exact ⟨_, rfl, by omega⟩
        obtain ⟨x, hx, zx⟩ := hx
        walk_at "v"
        have em : (if x > 0 then x else 0) = ((x.toNat : Nat) : Int) := by split <;> omega
        rw [em]
        exact q x.toNat Z5 (by omega) (b5.le (by omega)) ((F3.new he2 hb.has).trans f5)
def spLR : Sp := fun vs H Q _ => ∃ (u v : List Nat) (h : Nat), vs = [.str (tx u), .str (tx v), .int (h : Int)] ∧ Let u ∧ Let v ∧ Ne2 u v ∧ Ne2 v u ∧ u.length ≤ 1000 ∧ v.length ≤ 1000 ∧ h ≤ 60 ∧ ∀ H', Same H H' → Q (.bl true) H'
theorem ok__law_list_right (T : Txt K mg) (c__law_due : Cal P w K mg base 2 "_law_due" ["left", "right", "highest"] spDue) (c_staying : Cal P w K mg base 4 "staying" ["one", "other", "most"] (spStay K (errAt mg "InvalidText") (errAt mg "InvalidCount")))
    (c_staying_w : CalW P w K mg base 4 "staying" ["one", "other", "most"] ["most", "other", "one"] (fun {α} (l : List α) => l.reverse) (spStay K (errAt mg "InvalidText") (errAt mg "InvalidCount"))) :
    Cal P w K mg base 5 "_law_list_right" ["left", "right", "highest"] spLR := by
  refine cal0 T.d__law_list_right sc__law_list_right (by rintro vs H Q E ⟨u, v, h, rfl, _⟩; rfl) (fun cdv f A outer s H vs Q E hr hgd h => ?_)
  obtain ⟨u, v, hh, rfl, lu, lv, ne, _, zu, zv, zh, q⟩ := h
  refine ⟨_, (pss_cons (ps_set (i := 3) sc__law_list_right.nd rfl (by first | exact Or.inl rfl | exact Or.inr rfl) (pe_g c__law_due hr (by decide) hgd (by rfl) noX (pa_cons (pv 0) (pa_cons (pv 1) (pa_cons (pv 2) pa_nil)))))
  (pss_cons (ps_set (i := 4) sc__law_list_right.nd rfl (by first | exact Or.inl rfl | exact Or.inr rfl) (pe_g c_staying hr (by decide) hgd (by rfl) noX (pa_cons (pv 0) (pa_cons (pv 1) (pa_cons (pv 2) pa_nil)))))
  (pss_cons (ps_if (PW.pt (pw_or (pt_not (pt_val (pe_callB (kIsi K rfl) (by rfl) T.n_isinstance (by decide +kernel) (pa_cons (pv 4) (pa_cons (pe_bltn (v := .ty "list") (by rfl) T.n_list (by decide +kernel) rfl) pa_nil))))) (pw_or1 (pt_cmpR (kNe K rfl hr) (pe_callB (kReprD K rfl hr hgd) (by rfl) T.n_repr (by decide +kernel) (pa_cons (pv 4) pa_nil)) (pe_callB (kReprD K rfl hr hgd) (by rfl) T.n_repr (by decide +kernel) (pa_cons (pv 3) pa_nil)) (nomark _))))) (pss_one (ps_ret pe_bl)) pss_nil)
  (pss_cons (ps_expr (kBm K rfl PySem.F.plainAttrs_list PySem.F.slot_list_append PySem.F.type_list_append mt_append (pv 4) (pa_cons pe_non pa_nil)))
  (pss_cons (ps_expr (kBm0 K rfl PySem.F.plainAttrs_list PySem.F.slot_list_reverse PySem.F.type_list_reverse mt_reverse (pv 4)))
  (pss_one (ps_ret (pe_cmpR (kEq K rfl hr) (pe_callB (kReprD K rfl hr hgd) (by rfl) T.n_repr (by decide +kernel) (pa_cons (pe_gw c_staying_w hr (by decide) hgd (by rfl) noX (pk_cons (pv 2) (pk_cons (pv 1) (pk_cons (pv 0) pk_nil))) hl_staying_w) pa_nil)) (pe_callB (kReprD K rfl hr hgd) (by rfl) T.n_repr (by decide +kernel) (pa_cons (pv 3) pa_nil)) (nomark _))))))))), ?_⟩
  walk_at "v0"
  refine ⟨u, v, hh, rfl, ne, by omega, by omega, by omega, fun r1 vs1 H1 s1 n1 g1 d1 => ?_⟩
  walk_at "v"
  refine stay_w rfl lu lv ne (by omega) (by omega) (by omega) fun r2 vs2 H2 s2 n2 g2 d2 => ?_
  have g1' := s2 _ _ g1
  have d1' := DvAll.mono s2 _ _ d1
  have n12 : r1 ≠ r2 := ne_of_none g1 n2
  walk_at "v"
  refine w_isiL g2 ?_ (by decide)
  walk_at "v"
  refine w_reprD (stay_sh lu lv ne zh g2 d2) ?_
  walk_at "v"
  refine w_reprD (stay_sh lu lv ne zh g1' d1') ?_
  walk_at "v"
  refine w_ifF (by simp) ?_
  have zz : vs2.length ≤ 200 := by
    have := d2.len
    rw [List.length_map] at this
    have := stay_len u v hh
    omega
  walk_at "v"
  refine w_reverse upd_same ?_
  walk_at "v"
  refine w_callW ?_
  walk_at "v"
  refine ⟨rfl, ?_⟩
  have S1 : Same H1 (upd (upd H2 r2 (.lst (vs2 ++ [V.non]))) r2 (.lst (vs2 ++ [V.non]).reverse)) := fun b o h => by
    have nb : b ≠ r2 := ne_of_none h n2
    rw [upd_ne nb, upd_ne nb]
    exact s2 _ _ h
  refine stay_w rfl lu lv ne (by omega) (by omega) (by omega) fun r4 vs4 H4 s4 n4 g4 d4 => ?_
  have h1 := (S1.trans s4) _ _ g1
  have e1 := DvAll.mono (S1.trans s4) _ _ d1
  walk_at "v"
  refine w_reprD (stay_sh lu lv ne zh g4 d4) ?_
  walk_at "v"
  refine w_reprD (stay_sh lu lv ne zh h1 e1) ?_
  walk_at "v"
  rw [decide_eq_true rfl]
  exact q _ (s1.trans (S1.trans s4))
end
end K12
set_option Elab.async false
set_option linter.all false
set_option maxHeartbeats 1000000
/-! Stay3: when there are lags that stay, their numbers; one letter. Plain Lean. -/
namespace Rt
open Wd
theorem wide_iff {u v : List Nat} {h : Nat} (ne : u.length = v.length → 0 < v.length) (hh : u.length ≤ h) : stay u v h ≠ [] ↔ ∃ k, k < u.length ∧ rot k u = v := by
  constructor
  · intro hs
    obtain ⟨p, r, hp⟩ := List.exists_cons_of_ne_nil hs
    obtain ⟨e, n, hn, hst, _⟩ := stay_mem (p := p) (u := u) (v := v) (h := h) (by rw [hp]; exact List.mem_cons_self)
    have hv := ne e
    have h1 := (sty_nk hv e).mp hst
    have h2 := (trn_rev (u := v) (v := u) (by omega) e.symm _).mp h1
    have h3 := h2.mod (per_len u)
    have hl : (u.length * nk v n - nk v n) % u.length < u.length := Nat.mod_lt _ (by omega)
    exact ⟨_, hl, (trn_iff (by omega) (Nat.le_of_lt hl) e).mpr h3⟩
  · rintro ⟨k, hk, hr⟩ hs
    have e : u.length = v.length := by rw [← hr, rot_len (by omega)]
    have hv := ne e
    have ht := (trn_iff (by omega) (Nat.le_of_lt hk) e).mp hr
    have hst : Sty u v (((h - k : Nat) : Int) - (h : Int)) := by
      rw [sty_neg hv e (by omega)]
      have : (((h - k : Nat) : Int) - (h : Int)).natAbs = k := by omega
      rw [this]
      exact ht
    unfold stay at hs
    rw [if_pos e, List.map_eq_nil_iff, List.filter_eq_nil_iff] at hs
    exact hs (h - k) (List.mem_range.mpr (by omega)) (decide_eq_true hst)
def num (p : List Nat × List Nat) : Int := (p.1.length : Int) - (p.2.length : Int)
theorem nums {u v : List Nat} (ne : u.length = v.length → 0 < v.length) (h : Nat) : ∃ (a : Int) (r cnt : Nat), (stay u v h).map num = (List.range cnt).map (fun (t : Nat) => a + (t : Int) * (r : Int)) ∧ (0 < cnt → IsR u r) := by
  by_cases e : u.length = v.length
  · have hv := ne e
    by_cases hk : ∃ k, Trn v u k
    · obtain ⟨k, hk⟩ := hk
      obtain ⟨r, hR⟩ := exR v hv
      have h1 := hk.mod hR.per
      have h2 : k % r < r := Nat.mod_lt _ hR.pos
      have es := stay_some e hR h1 h2 h
      refine ⟨((k % r + h) % r : Nat) - (h : Int), r, (2 * h + 1 - (k % r + h) % r + r - 1) / r, ?_, fun _ => (isR_turn e h1).mpr hR⟩
      rw [es, List.map_map]
      apply List.map_congr_left
      intro t _
      show num (numbered u v _) = _
      unfold num
      rw [numbered_num (by omega) hv]
      omega
    · refine ⟨0, 0, 0, ?_, fun z => by omega⟩
      rw [stay_none hv fun m ⟨_, hm⟩ => hk ⟨m, hm⟩]
      rfl
  · refine ⟨0, 0, 0, ?_, fun z => by omega⟩
    unfold stay
    rw [if_neg e]
    rfl
theorem pre_one (c k : Nat) : pre [c] k = List.replicate k c := by
  unfold pre
  rw [List.flatten_replicate_singleton, List.take_replicate]
  congr 1
  simp
theorem sty_one (c : Nat) (n : Int) : Sty [c] [c] n := by
  rw [sty_nk (by simp) rfl]
  intro i
  unfold cy
  simp [Nat.mod_one]
theorem stay_one (c h : Nat) : stay [c] [c] h = ((List.range h).map fun k => (([] : List Nat), List.replicate (h - k) c)) ++ ((List.range (h + 1)).map fun k => (List.replicate k c, ([] : List Nat))) := by
  unfold stay
  rw [if_pos rfl]
  have e1 : (List.range (2 * h + 1)).filter (fun (i : Nat) => decide (Sty [c] [c] ((i : Int) - (h : Int)))) = List.range (2 * h + 1) := by
    rw [List.filter_eq_self]
    intro i _
    exact decide_eq_true (sty_one c _)
  rw [e1, show 2 * h + 1 = h + (h + 1) by omega, List.range_add, List.map_append, List.map_map]
  congr 1
  · apply List.map_congr_left
    intro i hi
    have := List.mem_range.mp hi
    unfold numbered
    rw [if_neg (by omega), pre_one]
    congr 2
    omega
  · apply List.map_congr_left
    intro i _
    show numbered [c] [c] (((h + i : Nat) : Int) - (h : Int)) = _
    unfold numbered
    by_cases hi : 0 < i
    · rw [if_pos (by omega), pre_one]
      congr 2
      omega
    · have : i = 0 := by omega
      subst this
      rw [if_neg (by omega), pre_one]
      simp
end Rt
set_option Elab.async false
set_option linter.all false
set_option maxRecDepth 100000
set_option maxHeartbeats 4000000
namespace K12
open PySem PySem.Spec PyProof.Rows L2 SL Rt Wd
local macro_rules | `(tactic| walk_at "sz") => `(tactic| first
  | assumption
  | omega
  | (simp only [List.length_cons, List.length_nil, List.length_append, List.length_map, List.length_take, List.length_drop, List.length_reverse, List.length_replicate, List.length_range, tx_len, sizeLine_eq, CMul, CDiv, Nat.reduceAdd, Nat.reduceLeDiff]; first | done | omega)
  | decide)
local macro_rules | `(tactic| walk_at "ne") => `(tactic| first
  | assumption
  | exact Ne.symm (by assumption)
  | (refine ne_of_none (H := ?H0) (o := ?oo) ?hh ?hn; (case hn => assumption); (case hh => walk_at "hget"))
  | (refine Ne.symm (ne_of_none (H := ?H0) (o := ?oo) ?hh ?hn); (case hn => assumption); (case hh => walk_at "hget")))
local macro_rules | `(tactic| walk_at "hget") => `(tactic| first
  | assumption
  | exact upd_same
  | (refine (upd_ne ?n).trans ?g; (case n => walk_at "ne"); (case g => walk_at "hget"))
  | (refine fr_get (p := ?pp) (H := ?H0) ?f ?g ?n; (case f => assumption); (case g => walk_at "hget"); (case n => walk_at "ne"))
  | (refine same_get (H := ?H0) ?f ?g; (case f => assumption); (case g => walk_at "hget")))
local macro_rules | `(tactic| walk_at "vget") => `(tactic| first
  | assumption
  | (refine SqL.of ?g; (case g => walk_at "hget"))
  | (refine SqT.of ?g; (case g => walk_at "hget"))
  | (refine sql_new ?n ?g; (case n => assumption); (case g => walk_at "vget"))
  | (refine sqt_new ?n ?g; (case n => assumption); (case g => walk_at "vget"))
  | (refine sql_upd ?n ?g; (case n => walk_at "ne"); (case g => walk_at "vget"))
  | (refine sqt_upd ?n ?g; (case n => walk_at "ne"); (case g => walk_at "vget"))
  | (refine Same.seq (H := ?H0) ?f ?g; (case f => assumption); (case g => walk_at "vget"))
  | (refine Same.seqT (H := ?H0) ?f ?g; (case f => assumption); (case g => walk_at "vget"))
  | (refine fr_sql (b := ?pp) (H := ?H0) ?f ?g ?n; (case f => assumption); (case g => walk_at "vget"); (case n => walk_at "ne"))
  | (refine fr_sqt (b := ?pp) (H := ?H0) ?f ?g ?n; (case f => assumption); (case g => walk_at "vget"); (case n => walk_at "ne")))
local macro_rules | `(tactic| walk_at "at") => `(tactic| first
  | assumption
  | rfl
  | (refine atI_n ?h; (case h => first | assumption | rfl))
  | (refine atI_i ?h0 ?h; (case h0 => omega); (case h => first | assumption | rfl)))
local macro_rules | `(tactic| walk_at "v1") => `(tactic| first
  | with_reducible refine w_seq ?_
  | with_reducible refine w_enx ?_
  | with_reducible refine w_ert ?_
  | with_reducible refine w_asg ?_
  | ((with_reducible refine w_var (v := ?vv) ?h ?_); (case h => exact rfl))
  | with_reducible refine w_op ?_
  | with_reducible refine w_c ?_
  | with_reducible refine w_cons ?_
  | with_reducible refine w_nil ?_
  | with_reducible refine w_cb ?_
  | with_reducible refine w_call ?_
  | with_reducible refine w_k ?_
  | with_reducible refine w_i ?_
  | with_reducible refine w_two ?_
  | ((with_reducible refine w_name ?_); (try simp only [List.set_cons_zero, List.set_cons_succ]))
  | with_reducible refine w_ifS ?_
  | with_reducible refine w_ret ?_
  | with_reducible refine w_drop ?_
  | with_reducible refine w_test ?_
  | with_reducible refine w_B ?_
  | with_reducible refine iteT ?_
  | with_reducible refine iteF ?_
  | with_reducible refine w_same ?_
  | ((with_reducible refine w_ifT ?h ?_); (case h => first | rfl | assumption))
  | ((with_reducible refine w_ifF ?h ?_); (case h => first | rfl | assumption))
  | ((with_reducible refine w_diff ?_ ?h); (case h => decide +kernel))
  | ((with_reducible refine w_wp ?h ?_); (case h => rfl); (try simp only [wipe, List.set_cons_zero, List.set_cons_succ, List.foldl_cons, List.foldl_nil]))
  | ((with_reducible refine w_acc (acc := ?aa) ?h ?_ ?z); (case h => walk_at "hget"); (case z => walk_at "sz"))
  | with_reducible refine w_addI ?_
  | with_reducible refine w_subI ?_
  | with_reducible refine w_lt ?_
  | with_reducible refine w_le ?_
  | with_reducible refine w_gt ?_
  | with_reducible refine w_ge ?_
  | with_reducible refine w_eqI ?_
  | with_reducible refine w_neI ?_
  | with_reducible refine w_eqS ?_
  | with_reducible refine w_neS ?_
  | with_reducible refine w_neB ?_
  | ((with_reducible refine w_mulI ?_ ?h); (case h => walk_at "sz"))
  | ((with_reducible refine w_divI ?_ ?h); (case h => walk_at "sz"))
  | ((with_reducible refine w_addS ?_ ?h); (case h => walk_at "sz"))
  | ((with_reducible refine w_mulS ?_ ?h); (case h => walk_at "sz"))
  | ((with_reducible refine w_ixL (xs := ?xx) (v := ?vv) ?h ?i ?_); (case h => walk_at "vget"); (case i => walk_at "at"))
  | ((with_reducible refine w_ixT (xs := ?xx) (v := ?vv) ?h ?i ?_); (case h => walk_at "vget"); (case i => walk_at "at"))
  | ((with_reducible refine w_ixS (c := ?cc) ?i ?_ ?h); (case i => walk_at "at"); (case h => walk_at "sz"))
  | ((with_reducible refine w_lenS' ?_ ?h); (case h => walk_at "sz"))
  | ((with_reducible refine w_lenL' (xs := ?xx) ?h ?_); (case h => walk_at "vget"))
  | ((with_reducible refine w_lenT' (xs := ?xx) ?h ?_); (case h => walk_at "vget"))
  | with_reducible refine w_isnN ?_
  | with_reducible refine w_isnI ?_
  | with_reducible refine w_isnS ?_
  | with_reducible refine w_isnR ?_
  | with_reducible refine w_isnB ?_
  | with_reducible refine w_isoN ?_
  | with_reducible refine w_isoI ?_
  | with_reducible refine w_isoS ?_
  | with_reducible refine w_isoR ?_
  | with_reducible refine w_isoB ?_
  | with_reducible refine w_abs ?_
  | with_reducible refine w_int ?_
  | with_reducible refine w_intB ?_
  | with_reducible refine w_min2 ?_
  | with_reducible refine w_max2 ?_
  | with_reducible refine w_min3 ?_
  | with_reducible refine w_sl ?_
  | with_reducible refine w_np ?_
  | with_reducible refine w_part ?_
  | ((with_reducible refine w_sStN ?_ ?h); (case h => walk_at "sz"))
  | ((with_reducible refine w_sSfN ?_ ?h); (case h => walk_at "sz"))
  | ((with_reducible refine w_sSt ?_ ?h); (case h => walk_at "sz"))
  | ((with_reducible refine w_sSf ?_ ?h); (case h => walk_at "sz"))
  | with_reducible refine w_and ?_
  | with_reducible refine w_or ?_
  | with_reducible refine w_not ?_
  | with_reducible refine w_andV ?_
  | with_reducible refine w_orV ?_
  | with_reducible refine w_notV ?_
  | with_reducible refine w_ifE ?_
  | with_reducible refine w_tup ?_
  | with_reducible refine w_lst ?_
  | with_reducible refine w_chain ?_
  | ((with_reducible refine w_par ?_); (try simp only [List.set_cons_zero, List.set_cons_succ]))
  | ((with_reducible refine w_par3 ?_); (try simp only [List.set_cons_zero, List.set_cons_succ]))
  | with_reducible refine w_three ?_
  | with_reducible refine w_un ?_
  | with_reducible refine w_neg ?_
  | with_reducible refine w_next ?_
  | with_reducible refine w_ebk ?_
  | with_reducible refine w_ect ?_
  | with_reducible refine w_for ?_
  | with_reducible refine w_lc ?_
  | with_reducible refine w_yes ?_
  | with_reducible refine w_il ?_
  | with_reducible refine w_it ?_
  | with_reducible refine w_isx ?_
  | with_reducible refine w_ir1 ?_
  | with_reducible refine w_ir2 ?_
  | with_reducible refine w_ies ?_
  | with_reducible refine w_ir3 ?_
  | with_reducible refine w_s1 ?_
  | with_reducible refine w_s1l ?_
  | ((with_reducible refine w_r1 ?_ ?h); (case h => walk_at "sz"))
  | ((with_reducible refine w_r2 ?_ ?h); (case h => walk_at "sz"))
  | ((with_reducible refine w_l1 (xs := ?xx) ?h ?_); (case h => walk_at "vget"))
  | ((with_reducible refine w_t1 (xs := ?xx) ?h ?_); (case h => walk_at "vget"))
  | ((with_reducible refine w_isL (xs := ?xx) ?h ?_); (case h => walk_at "vget"))
  | with_reducible refine w_isS ?_
  | ((with_reducible refine w_app (xs := ?xx) ?h ?_ ?z); (case h => walk_at "hget"); (case z => walk_at "sz"))
  | with_reducible refine w_inC ?_
  | with_reducible refine w_rev ?_
  | ((with_reducible refine w_rev1S ?_ ?h); (case h => walk_at "sz"))
  | with_reducible refine w_lrg ?_
  | with_reducible refine w_brk ?_
  | with_reducible refine w_cont ?_
  | with_reducible refine w_retN ?_
  | with_reducible refine w_bm ?_
  | with_reducible refine w_bm0 ?_
  | with_reducible refine w_m1 ?_
  | with_reducible refine w_sub ?_
  | ((with_reducible refine w_setL (xs := ?xx) (j := ?jj) ?h ?i ?_); (case h => walk_at "hget"); (case i => first | rfl | assumption); (try simp only [Int.reduceToNat, List.set_cons_zero, List.set_cons_succ]))
  | with_reducible refine w_ip ?_
  | with_reducible refine w_gnil ?_
  | with_reducible refine w_gcons ?_
  | ((with_reducible refine w_gL (xs := ?xx) ?h ?_ ?n); (case h => walk_at "vget"); (case n => rfl))
  | ((with_reducible refine w_gT (xs := ?xx) ?h ?_ ?n); (case h => walk_at "vget"); (case n => rfl))
  | ((with_reducible refine w_aug (v := ?vv) ?h ?_); (case h => exact rfl)))
local macro_rules | `(tactic| walk_at "v") => `(tactic| repeat walk_at "v1")
local macro_rules | `(tactic| walk_at "v0") => `(tactic| (simp only [L2.start, cxK, ends_rt, List.map_cons, List.map_nil, List.length_cons, List.length_nil, Nat.reduceAdd, Nat.reduceSub, List.replicate_succ, List.replicate_zero, List.append_nil, List.cons_append, List.nil_append]; walk_at "v"))
local macro_rules | `(tactic| walk_at "u1") => `(tactic| first
  | with_reducible refine w_seqA ?_
  | with_reducible refine w_seqD ?_
  | with_reducible refine w_seqP ?_
  | with_reducible refine w_seqP3 ?_
  | with_reducible refine w_seqG ?_
  | ((fail_if_success (with_reducible refine w_seq ?_)); walk_at "v1"))
local macro_rules | `(tactic| walk_at "u") => `(tactic| repeat walk_at "u1")
local macro_rules | `(tactic| walk_at "u0") => `(tactic| (simp only [L2.start, cxK, ends_rt, List.map_cons, List.map_nil, List.length_cons, List.length_nil, Nat.reduceAdd, Nat.reduceSub, List.replicate_succ, List.replicate_zero, List.append_nil, List.cons_append, List.nil_append]; walk_at "u"))
local macro_rules | `(tactic| walk_at "t1") => `(tactic| ((fail_if_success (with_reducible refine w_seq ?_)); walk_at "v1"))
local macro_rules | `(tactic| walk_at "t") => `(tactic| repeat walk_at "t1")

section
variable {P : Program} {w : World} {K : PySem.W.Frag} {mg : Str → Option Value} {base : Heap}
theorem lagb_w {H : Hp} {Q : VK} {E : XK} {C : Addr} {v : V} {p : List Nat × List Nat} {u t : List Nat} (h : Dv H v (SL.pairD p)) (l1 : Let p.1) (l2 : Let p.2) (z1 : p.1.length ≤ 1000) (z2 : p.2.length ≤ 1000) (k : p.1 = [] ∨ p.2 = []) (lu : Let u) (lt : Let t) (zu : u.length ≤ 1000) (zt : t.length ≤ 1000)
    (q : ∀ o H', Same H H' → Lg H' o (bh (p.1 ++ u) (p.2 ++ t)) → Q o H') : spLagB K C [v, .str (tx u), .str (tx t)] H Q E := by
  obtain ⟨a, rfl, ha⟩ := pair_get h
  exact ⟨_, _, _, true, true, true, rfl, .inr ⟨a, _, rfl, ha, .inr (.inr (.inr ⟨p.1, p.2, rfl, by omega, by omega, l1, l2, (decide_eq_true k).symm⟩))⟩, .inl ⟨u, rfl, by omega, (decide_eq_true lu).symm⟩, .inl ⟨t, rfl, by omega, (decide_eq_true lt).symm⟩, (fun h => nomatch h), (fun _ h => nomatch h), (fun _ _ h => nomatch h),
    fun _ _ _ => ⟨p.1, p.2, u, t, ⟨a, rfl, ha, by omega, by omega, l1, l2⟩, rfl, rfl, by omega, by omega, q⟩⟩
theorem lg_pair {H : Hp} {o : V} {p : List Nat × List Nat} (h : Lg H o (some p)) : Dv H o (SL.pairD p) := by
  rcases h with ⟨h, _⟩ | ⟨a, x, y, h1, rfl, h3⟩
  · cases h
  · cases h1
    exact .tup h3 (.cons (.str _) (.cons (.str _) .nil))
theorem in_strs (v : List Nat) (ts : List (List Nat)) : inV (V.str (tx v)) (ts.map fun t => V.str (tx t)) = decide (v ∈ ts) := by
  unfold inV
  induction ts with
  | nil => simp
  | cons a r ih =>
    rw [List.map_cons, List.any_cons, ih, str_eq]
    by_cases h : a = v
    · subst h; simp
    · simp [h, Ne.symm h]
theorem flat_strs (ts : List (List Nat)) : (ts.map fun t => V.str (tx t)).all flatV = true := by
  induction ts with
  | nil => rfl
  | cons a r ih => rw [List.map_cons, List.all_cons, ih]; rfl
theorem w_inL {H : Hp} {Q : VK} {v : V} {p : Addr} {xs : List V} (h : SqL K H p xs) (hv : flatV v = true) (hx : xs.all flatV = true) (q : Q (.bl (inV v xs)) H) : rInU K v (.ref p) H Q :=
  .inr ⟨p, xs, rfl, .inl h, hv, hx, q⟩
theorem rep_nat (n r : Nat) : (List.replicate n [V.int (r : Int)]).flatten = natL (List.replicate n r) := by
  rw [List.flatten_replicate_singleton]
  unfold natL
  rw [List.map_replicate]
def spPR : Sp := fun vs H Q _ => ∃ (p : Addr) (u v : List Nat) (c : Nat), vs = [.ref p, .str (tx u), .str (tx v)] ∧ Box H p c ∧ c ≤ 100000 ∧ Let u ∧ Let v ∧ Ne2 u v ∧ Ne2 v u ∧ u.length ≤ 40 ∧ v.length ≤ 40 ∧ ∀ H', Box H' p (c + 10) → SL.Fr p H H' → Q (.bl true) H'
theorem ok__law_pair_right (T : Txt K mg) (c__law_take : Cal P w K mg base 1 "_law_take" ["box", "many"] spTake) (c__law_highest : Cal P w K mg base 3 "_law_highest" ["box", "left", "right"] spHighest) (c__law_list_right : Cal P w K mg base 5 "_law_list_right" ["left", "right", "highest"] spLR)
    (c__law_due : Cal P w K mg base 2 "_law_due" ["left", "right", "highest"] spDue) (c_lag_behind : Cal P w K mg base 4 "lag_behind" ["lag", "one", "other"] (spLagB K (errAt mg "InvalidText"))) (c_staying : Cal P w K mg base 4 "staying" ["one", "other", "most"] (spStay K (errAt mg "InvalidText") (errAt mg "InvalidCount")))
    (c__law_number : Cal P w K mg base 1 "_law_number" ["pair"] spNumber) (c__law_root_length : Cal P w K mg base 1 "_law_root_length" ["word"] spRootL) : Cal P w K mg base 6 "_law_pair_right" ["box", "left", "right"] spPR := by
  refine cal0 T.d__law_pair_right sc__law_pair_right (by rintro vs H Q E ⟨p, u, v, c, rfl, _⟩; rfl) (fun cdv f A outer s H vs Q E hr hgd h => ?_)
  obtain ⟨p, u, v, c, rfl, hb, hc, lu, lv, ne, ne', zu, zv, q⟩ := h
  refine ⟨_, (pss_cons (ps_set (i := 3) sc__law_pair_right.nd rfl (by first | exact Or.inl rfl | exact Or.inr rfl) (pe_g c__law_highest hr (by decide) hgd (by rfl) noX (pa_cons (pv 0) (pa_cons (pv 1) (pa_cons (pv 2) pa_nil)))))
  (pss_cons (ps_if (PW.pt (pw_or (pt_not (pt_val (pe_g c__law_list_right hr (by decide) hgd (by rfl) noX (pa_cons (pv 1) (pa_cons (pv 2) (pa_cons (pv 3) pa_nil)))))) (pw_or1 (pt_not (pt_val (pe_g c__law_list_right hr (by decide) hgd (by rfl) noX (pa_cons (pv 2) (pa_cons (pv 1) (pa_cons (pv 3) pa_nil))))))))) (pss_one (ps_ret pe_bl)) pss_nil)
  (pss_cons (ps_set (i := 4) sc__law_pair_right.nd rfl (by first | exact Or.inl rfl | exact Or.inr rfl) (pe_g c__law_due hr (by decide) hgd (by rfl) noX (pa_cons (pv 1) (pa_cons (pv 2) (pa_cons (pv 3) pa_nil)))))
  (pss_cons (ps_set (i := 5) sc__law_pair_right.nd rfl (by first | exact Or.inl rfl | exact Or.inr rfl) (pe_op (kAdd K rfl) pe_int (pe_g c__law_take hr (by decide) hgd (by rfl) noX (pa_cons (pv 0) (pa_cons pe_int pa_nil)))))
  (pss_cons (ps_for PassesOwn.never rfl (kiList K rfl (pe_op (kAdd K rfl) (pe_slice (kSl K rfl) (pv 4) po_none (po_some pe_int)) (pe_slice (kSl K rfl) (pv 4) (po_some (pe_un un_neg pe_int)) po_none))) (pg_name (i := 6) sc__law_pair_right.nd rfl (by first | exact Or.inl rfl | exact Or.inr rfl))
  (pss_one (ps_if (PW.pt (pw_or (pt_cmpR (kNe K rfl hr) (pe_g c_lag_behind hr (by decide) hgd (by rfl) noX (pa_cons (pv 6) (pa_cons (pe_op uMul (pv 1) (pv 5)) (pa_cons (pe_op uMul (pv 2) (pv 5)) pa_nil)))) (pv 6) (nomark _)) (pw_or1 (pt_cmpR (kNe K rfl hr) (pe_callB (kReprD K rfl hr hgd) (by rfl) T.n_repr (by decide +kernel) (pa_cons (pe_g c_lag_behind hr (by decide) hgd (by rfl) noX (pa_cons (pv 6) (pa_cons (pv 1) (pa_cons (pv 2) pa_nil)))) pa_nil)) (pe_callB (kReprD K rfl hr hgd) (by rfl) T.n_repr (by decide +kernel) (pa_cons (pv 6) pa_nil)) (nomark _))))) (pss_one (ps_ret pe_bl)) pss_nil)))
  (pss_cons (ps_set (i := 7) sc__law_pair_right.nd rfl (by first | exact Or.inl rfl | exact Or.inr rfl) (pe_g c_staying hr (by decide) hgd (by rfl) noX (pa_cons (pv 1) (pa_cons (pv 2) (pa_cons (pe_op (kAdd K rfl) (pe_callB (kLen K rfl) (by rfl) T.n_len (by decide +kernel) (pa_cons (pv 1) pa_nil)) (pe_callB (kLen K rfl) (by rfl) T.n_len (by decide +kernel) (pa_cons (pv 2) pa_nil))) pa_nil)))))
  (pss_cons (ps_setLc (i := 8) (own := [("spot", 11)]) rfl sc__law_pair_right.nd rfl rfl (sw_true rfl rfl rfl (by decide +kernel)) (pi_range1 (by rfl) T.n_range (pa_cons (pe_callB (kLen K rfl) (by rfl) T.n_len (by decide +kernel) (pa_cons (pv 1) pa_nil)) pa_nil)) (blkOk_by (own := [("spot", 11)]) (N := N__law_pair_right) (sc := defScope s__law_pair_right) (by decide +kernel)) (fun _ _ _ _ _ => (pg_name (i := 11) sc__law_pair_right.nd rfl (by first | exact Or.inl rfl | exact Or.inr rfl))) (fun _ _ _ _ _ => pts_nil) (fun _ _ _ _ _ => (pe_op (kAdd K rfl) (pe_slice (kSl K rfl) (pv 1) (po_some (pv 11)) po_none) (pe_slice (kSl K rfl) (pv 1) po_none (po_some (pv 11))))))
  (pss_cons (ps_if (pt_cmpR (kNe K rfl hr) (pe_cmpR (kNe K rfl hr) (pv 7) (pe_lst pa_nil) (nomark _)) (pe_cmpR (kIn K rfl) (pv 2) (pv 8) (by rfl)) (nomark _)) (pss_one (ps_ret pe_bl)) pss_nil)
  (pss_cons (ps_set (i := 9) sc__law_pair_right.nd rfl (by first | exact Or.inl rfl | exact Or.inr rfl) (pe_lc (own := [("pair", 6)]) rfl sc__law_pair_right.nd (kiList K rfl (pv 7)) (blkOk_by (own := [("pair", 6)]) (N := N__law_pair_right) (sc := defScope s__law_pair_right) (by decide +kernel)) (fun _ _ _ _ _ => (pg_name (i := 6) sc__law_pair_right.nd rfl (by first | exact Or.inl rfl | exact Or.inr rfl))) (fun _ _ _ _ _ => pts_nil) (fun _ _ _ _ _ => (pe_g c__law_number hr (by decide) hgd (by rfl) noX (pa_cons (pv 6) pa_nil)))))
  (pss_cons (ps_set (i := 10) sc__law_pair_right.nd rfl (by first | exact Or.inl rfl | exact Or.inr rfl) (pe_g c__law_root_length hr (by decide) hgd (by rfl) noX (pa_cons (pv 1) pa_nil)))
  (pss_one (ps_ret (pe_cmpR (kEq K rfl hr) (pe_lc (own := [("k", 12)]) rfl sc__law_pair_right.nd (pi_range1 (by rfl) T.n_range (pa_cons (pe_op uSub (pe_callB (kLen K rfl) (by rfl) T.n_len (by decide +kernel) (pa_cons (pv 9) pa_nil)) pe_int) pa_nil)) (blkOk_by (own := [("k", 12)]) (N := N__law_pair_right) (sc := defScope s__law_pair_right) (by decide +kernel)) (fun _ _ _ _ _ => (pg_name (i := 12) sc__law_pair_right.nd rfl (by first | exact Or.inl rfl | exact Or.inr rfl))) (fun _ _ _ _ _ => pts_nil) (fun _ _ _ _ _ => (pe_op uSub (pe_ix (kIx K rfl) (pv 9) (pe_op (kAdd K rfl) (pv 12) pe_int) (fun _ _ => rfl)) (pe_ix (kIx K rfl) (pv 9) (pv 12) (fun _ _ => rfl))))) (pe_op uMulV (pe_lst (pa_cons (pv 10) pa_nil)) (pe_callB (uMax2 rfl) (by rfl) T.n_max (by decide +kernel) (pa_cons pe_int (pa_cons (pe_op uSub (pe_callB (kLen K rfl) (by rfl) T.n_len (by decide +kernel) (pa_cons (pv 9) pa_nil)) pe_int) pa_nil)))) (nomark _)))))))))))))), ?_⟩
  walk_at "v0"
  refine ⟨p, u, v, _, rfl, hb, by omega, ne, zu, zv, fun hh H1 hhh b1 f1 => ?_⟩
  walk_at "v"
  refine ⟨u, v, hh, rfl, lu, lv, ne, ne', by omega, by omega, by omega, fun H2 s2 => ?_⟩
  walk_at "v"
  refine ⟨v, u, hh, rfl, lv, lu, ne', ne, by omega, by omega, by omega, fun H3 s3 => ?_⟩
  walk_at "v"
  refine ⟨u, v, hh, rfl, ne, by omega, by omega, by omega, fun rd vd H4 s4 n4 g4 d4 => ?_⟩
  have S4 := s2.trans (s3.trans s4)
  have b4 := b1.same S4
  have F4 := f1.trans (Fr.of S4)
  have ndp : rd ≠ p := fun e => by
    obtain ⟨o, ho⟩ := (b1.same (s2.trans s3)).has
    rw [e, ho] at n4
    cases n4
  walk_at "v"
  refine take_w (N := 3) rfl b4 (by omega) fun k H5 hk b5 f5 => ?_
  have F5 := F4.trans f5
  have g5 := f5 _ _ g4 ndp
  have er : (1 : Int) + (k : Int) = ((1 + k : Nat) : Int) := by omega
  have zq : (1 + k) * u.length ≤ 120 := Nat.mul_le_mul (show 1 + k ≤ 3 by omega) zu
  have zq2 : (1 + k) * v.length ≤ 120 := Nat.mul_le_mul (show 1 + k ≤ 3 by omega) zv
  have z1 := rep_len (1 + k) u
  have z2 := rep_len (1 + k) v
  have l1 : Let (List.replicate (1 + k) u).flatten := rep_let lu
  have l2 : Let (List.replicate (1 + k) v).flatten := rep_let lv
  have nopair : ∀ (pr : List Nat × List Nat) (a : Addr), Dv H4 (.ref a) (SL.pairD pr) → a ≠ p := fun pr a h e => by
    obtain ⟨a', e', ha⟩ := pair_get h
    cases e'
    obtain ⟨g, b', m, d, hbx⟩ := (show ∃ g b m d, H4 p = some (.lst [.int g, .bl b, .int m, .int d]) from by
      obtain ⟨g, b', m, d, h1, _⟩ := b4
      exact ⟨g, b', m, _, h1⟩)
    rw [e, hbx] at ha
    cases ha
  have d5 : DvAll (hide [p] H5) vd ((stay u v hh).map SL.pairD) := by
    have hx : ∀ (ls : List (List Nat × List Nat)) (ws : List V), DvAll H4 ws (ls.map SL.pairD) → DvAll (hide [p] H5) ws (ls.map SL.pairD) := by
      intro ls
      induction ls with
      | nil => intro ws h; cases h; exact .nil
      | cons pr r ih =>
        intro ws h
        cases h with
        | cons a b =>
          refine .cons ?_ (ih _ b)
          obtain ⟨x, rfl, hx⟩ := pair_get a
          exact .tup (hide_get (f5 _ _ hx (nopair pr x a)) (by simpa using nopair pr x a)) (.cons (.str _) (.cons (.str _) .nil))
    exact hx _ _ d4
  have d5 := DvAll.mono (hideF (SL.Fr.refl p H5)) _ _ d5
  walk_at "v"
  rw [er]
  refine w_sLany (SqL.of g5) fun a1 c1 e1 n1 => ?_
  have g5a := (upd_ne (o := .lst ((vd.drop a1).take c1)) (ne_of_none g5 n1)).trans g5
  walk_at "v"
  refine w_sLany (SqL.of g5a) fun a2 c2 e2 n2 => ?_
  have n12 : e1 ≠ e2 := ne_of_none upd_same n2
  have zvd : vd.length ≤ 200 := by
    have := d4.len
    rw [List.length_map] at this
    have := stay_len u v hh
    omega
  walk_at "v"
  refine w_addL ((upd_ne n12).trans upd_same) upd_same (by rw [List.length_take, List.length_take, List.length_drop, List.length_drop]; omega) fun e3 n3 => ?_
  obtain ⟨xs, hxs⟩ : ∃ xs, xs = (vd.drop a1).take c1 ++ (vd.drop a2).take c2 := ⟨_, rfl⟩
  have S6 : Same H5 (upd (upd (upd H5 e1 (.lst ((vd.drop a1).take c1))) e2 (.lst ((vd.drop a2).take c2))) e3 (.lst xs)) := ((same_new n1).trans (same_new n2)).trans (same_new n3)
  have dx : DvAll H5 xs ((((stay u v hh).map SL.pairD).drop a1).take c1 ++ (((stay u v hh).map SL.pairD).drop a2).take c2) := by
    rw [hxs]
    exact dvall_app (dvall_take _ (dvall_drop _ d5)) (dvall_take _ (dvall_drop _ d5))
  rw [← hxs]
  obtain ⟨H6, hH6⟩ : ∃ H6, H6 = upd (upd (upd H5 e1 (.lst ((vd.drop a1).take c1))) e2 (.lst ((vd.drop a2).take c2))) e3 (.lst xs) := ⟨_, rfl⟩
  rw [← hH6] at S6
  have g6 : H6 e3 = some (.lst xs) := by rw [hH6]; exact upd_same
  have dx6 := DvAll.mono S6 _ _ dx
  have sgs := stay_let lu lv ne (h := hh)
  rw [← hH6]
  walk_at "v"
  refine for_it (walk_list (K := K) (a := e3) (xs := xs)) (fun i σ H' => ∃ x6, σ = [some (.ref p), some (.str (tx u)), some (.str (tx v)), some (.int (hh : Int)), some (.ref rd), some (.int ((1 + k : Nat) : Int)), x6, none, none, none, none, none, none] ∧ Same H6 H') ⟨_, rfl, Same.refl _⟩ ?_ ?_ ?_
  · rintro i σ Y hi ⟨x6, rfl, sY⟩
    exact SqL.of (sY _ _ g6)
  · rintro i x σ Y Y' hi ⟨x6, rfl, sY⟩ ⟨rfl, hx⟩
    obtain ⟨d, hd, dv⟩ := dvall_get (DvAll.mono sY _ _ dx6) hx
    have hd2 : d ∈ (stay u v hh).map SL.pairD := by
      rcases List.mem_append.mp (List.mem_of_getElem? hd) with h | h
      · exact List.mem_of_mem_drop (List.mem_of_mem_take h)
      · exact List.mem_of_mem_drop (List.mem_of_mem_take h)
    obtain ⟨pr, hpr, rfl⟩ := List.mem_map.mp hd2
    obtain ⟨p1, p2, y1, y2⟩ := sgs pr hpr
    obtain ⟨ee, n, hn, hst, rfl⟩ := stay_mem hpr
    have none1 := numbered_one (u := u) (v := v) n
    have sl := stay_lag hst
    have sm := (sm_pair (n := 60) p1.sgn p2.sgn (by omega) (by omega)).okD
    walk_at "v"
    refine w_mulSN ?_ ⟨by omega, by omega, by rw [Nat.mul_comm]; omega⟩
    walk_at "v"
    refine w_mulSN ?_ ⟨by omega, by omega, by rw [Nat.mul_comm]; omega⟩
    walk_at "v"
    refine lagb_w dv p1 p2 (by omega) (by omega) none1 l1 l2 (by omega) (by omega) fun o Y1 s1 g1 => ?_
    have sl1 := sl (1 + k)
    unfold rds at sl1
    rw [sl1] at g1
    have dv1 := Dv.mono s1 _ _ dv
    walk_at "v"
    refine w_nePair (lg_pair g1) dv1 p1.sgn p2.sgn ?_
    walk_at "v"
    refine lagb_w dv1 p1 p2 (by omega) (by omega) none1 lu lv (by omega) (by omega) fun o2 Y2 s2' g2' => ?_
    have sl2 := sl 1
    have r1 : ∀ t : List Nat, rds 1 t = t := fun t => by simp [rds]
    rw [r1, r1] at sl2
    rw [sl2] at g2'
    have dv2 := Dv.mono s2' _ _ dv1
    walk_at "v"
    refine w_reprD ((lg_pair g2').shown sm) ?_
    walk_at "v"
    refine w_reprD (dv2.shown sm) ?_
    walk_at "v"
    refine w_ifF (by simp) ?_
    walk_at "v"
    exact ⟨_, rfl, sY.trans (s1.trans s2')⟩
  · rintro σ Y ⟨x6, rfl, sY⟩
    have SY := S6.trans sY
    have bY := b5.same SY
    have FY := F5.trans (Fr.of SY)
    walk_at "v"
    refine stay_w (h := u.length + v.length) rfl lu lv ne (by omega) (by omega) (by omega) fun rw' vw Y1 s1 n1' g1 d1 => ?_
    have zvw : vw.length ≤ 300 := by
      have := d1.len
      rw [List.length_map] at this
      have := stay_len u v (u.length + v.length)
      omega
    walk_at "v"
    intro D hD
    refine lc_rg (n := u.length) (by omega) (fun i H' => Same Y1 H' ∧ H' D = some (.lst (((List.range i).map fun k => rot k u).map fun t => V.str (tx t)))) ⟨same_new hD, upd_same⟩ ?_ ?_
    · rintro i Z hi ⟨sZ, gZ⟩
      have zi : (((List.range i).map fun k => rot k u).map fun t => V.str (tx t)).length ≤ 100 := by rw [List.length_map, List.length_map, List.length_range]; omega
      walk_at "v"
      refine ⟨Same.grow sZ hD, ?_⟩
      rw [upd_same, List.range_succ, List.map_append, List.map_append]
      rfl
    · rintro Z ⟨sZ, gZ⟩
      have gw := sZ _ _ g1
      have dw := DvAll.mono sZ _ _ d1
      walk_at "v"
      refine ⟨by walk_at "sz", fun e4 n4' => ?_⟩
      have nw4 : rw' ≠ e4 := ne_of_none gw n4'
      have nD4 : D ≠ e4 := ne_of_none gZ n4'
      have gw4 := (upd_ne (o := .lst []) nw4).trans gw
      have gD4 := (upd_ne (o := .lst []) nD4).trans gZ
      have dw4 := DvAll.mono (same_new (o := .lst []) n4') _ _ dw
      have sg : SgnP (u.length + v.length) (stay u v (u.length + v.length)) := stay_sgn lu lv ne
      refine w_nePairs gw4 dw4 upd_same sg ?_
      walk_at "v"
      refine w_inL (SqL.of gD4) rfl (flat_strs _) ?_
      rw [in_strs]
      have eb : (!decide (stay u v (u.length + v.length) = [])) = decide (v ∈ (List.range u.length).map fun k => rot k u) := by
        have := wide_iff (u := u) (v := v) (h := u.length + v.length) ne (by omega)
        rw [← decide_not]
        apply decide_eq_decide.mpr
        rw [show (¬ stay u v (u.length + v.length) = []) ↔ stay u v (u.length + v.length) ≠ [] from Iff.rfl, this]
        constructor
        · rintro ⟨k, hk, hr'⟩
          exact List.mem_map.mpr ⟨k, List.mem_range.mpr hk, hr'⟩
        · intro h
          obtain ⟨k, hk, hr'⟩ := List.mem_map.mp h
          exact ⟨k, List.mem_range.mp hk, hr'⟩
      rw [eb]
      walk_at "v"
      refine w_ifF (by simp) ?_
      walk_at "v"
      intro D2 hD2
      have S2Y := same_new (o := .lst []) n4'
      have zst := stay_len u v (u.length + v.length)
      refine lc_it (walk_list (K := K) (a := rw') (xs := vw)) (fun i H' => Same (upd Z e4 (.lst [])) H' ∧ H' D2 = some (.lst ((((stay u v (u.length + v.length)).take i).map num).map V.int))) ⟨same_new hD2, upd_same⟩ ?_ ?_ ?_
      · rintro i W hi ⟨sW, gW⟩
        exact SqL.of (sW _ _ gw4)
      · rintro i x W W' hi ⟨sW, gW⟩ ⟨rfl, hx⟩
        obtain ⟨d, hd, dv⟩ := dvall_get (DvAll.mono sW _ _ dw4) hx
        rw [List.getElem?_map] at hd
        obtain ⟨pr, hpr, rfl⟩ := Option.map_eq_some_iff.mp hd
        obtain ⟨p1, p2, y1, y2⟩ := stay_let lu lv ne pr (List.mem_of_getElem? hpr)
        obtain ⟨a, rfl, ga⟩ := pair_get dv
        have zn : ((((stay u v (u.length + v.length)).take i).map num).map V.int).length ≤ 300 := by rw [List.length_map, List.length_map, List.length_take]; omega
        walk_at "v"
        refine ⟨a, pr.1, pr.2, rfl, ga, by omega, by omega, ?_⟩
        walk_at "v"
        refine ⟨Same.grow sW hD2, ?_⟩
        rw [upd_same, take_more hpr, List.map_append, List.map_append]
        rfl
      · rintro W ⟨sW, gW⟩
        have elen : vw.length = (stay u v (u.length + v.length)).length := by rw [d1.len, List.length_map]
        rw [elen, List.take_length] at gW
        obtain ⟨a, r, cnt, hns, hR⟩ := nums ne (u.length + v.length)
        rw [hns] at gW
        have zcnt : cnt = (stay u v (u.length + v.length)).length := by
          have := congrArg List.length hns
          rw [List.length_map, List.length_map, List.length_range] at this
          omega
        have zl : (((List.range cnt).map fun (t : Nat) => a + (t : Int) * (r : Int)).map V.int).length = cnt := by rw [List.length_map, List.length_map, List.length_range]
        have at1 : ∀ t : Nat, t < cnt → (((List.range cnt).map fun (t : Nat) => a + (t : Int) * (r : Int)).map V.int)[t]? = some (.int (a + (t : Int) * (r : Int))) := fun t ht => by
          rw [List.getElem?_map, List.getElem?_map, List.getElem?_range ht]
          rfl
        walk_at "v"
        refine ⟨u, rfl, by omega, fun r2 W1 sW1 hr1 hr2 => ?_⟩
        have gW1 := sW1 _ _ gW
        walk_at "v"
        intro D3 hD3
        have nD23 : D2 ≠ D3 := ne_of_none gW1 hD3
        refine lc_rg (n := cnt - 1) (by rw [zl]; omega) (fun i H' => Same W1 H' ∧ H' D3 = some (.lst (natL (List.replicate i r)))) ⟨same_new hD3, upd_same⟩ ?_ ?_
        · rintro i X hi ⟨sX, gX⟩
          have gX2 := sX _ _ gW1
          have i1 : atI (((List.range cnt).map fun (t : Nat) => a + (t : Int) * (r : Int)).map V.int) ((i : Int) + 1) = some (.int (a + ((i + 1 : Nat) : Int) * (r : Int))) := by
            rw [show (i : Int) + 1 = ((i + 1 : Nat) : Int) by omega]
            exact atI_n (at1 (i + 1) (by omega))
          have i2 := at1 i (by omega)
          have zr : (natL (List.replicate i r)).length ≤ 300 := by rw [natL_len, List.length_replicate]; omega
          walk_at "v"
          rw [show (a + ((i + 1 : Nat) : Int) * (r : Int)) - (a + (i : Int) * (r : Int)) = (r : Int) by rw [Int.natCast_add, Int.add_mul]; omega]
          refine ⟨Same.grow sX hD3, ?_⟩
          rw [upd_same, List.replicate_succ']
          unfold natL
          rw [List.map_append]
          rfl
        · rintro X ⟨sX, gX⟩
          have gX2 := sX _ _ gW1
          walk_at "v"
          refine ⟨by walk_at "sz", fun e5 n5 => ?_⟩
          have nD3 : D3 ≠ e5 := ne_of_none gX n5
          have nD25 : D2 ≠ e5 := ne_of_none gX2 n5
          have gX2' := (upd_ne (o := .lst [.int (r2 : Int)]) nD25).trans gX2
          walk_at "v"
          have em : (if ((((List.range cnt).map fun (t : Nat) => a + (t : Int) * (r : Int)).map V.int).length : Int) - 1 > 0 then ((((List.range cnt).map fun (t : Nat) => a + (t : Int) * (r : Int)).map V.int).length : Int) - 1 else 0) = ((cnt - 1 : Nat) : Int) := by
            rw [zl]
            split <;> omega
          refine w_rep em upd_same ⟨by omega, by simp; omega⟩ fun e6 n6 => ?_
          rw [rep_nat]
          have en : List.replicate (cnt - 1) r2 = List.replicate (cnt - 1) r := by
            by_cases hc2 : 2 ≤ cnt
            · have hR' := hR (by omega)
              have hu0 : 0 < u.length := Nat.lt_of_lt_of_le hR'.pos hR'.le
              rw [(hr1 hu0).uniq hR']
            · rw [show cnt - 1 = 0 by omega]
              rfl
          rw [en]
          have nD36 : D3 ≠ e6 := ne_of_none ((upd_ne (o := .lst [.int (r2 : Int)]) nD3).trans gX) n6
          refine w_eqNats ((upd_ne nD36).trans ((upd_ne nD3).trans gX)) upd_same ?_
          have SF : Same Y (upd (upd X e5 (.lst [.int (r2 : Int)])) e6 (.lst (natL (List.replicate (cnt - 1) r)))) := s1.trans (sZ.trans (S2Y.trans (sW.trans (sW1.trans (sX.trans ((same_new n5).trans (same_new n6)))))))
          exact q _ ((bY.same SF).le (by omega)) (FY.trans (Fr.of SF))
end
end K12
set_option Elab.async false
set_option linter.all false
set_option maxRecDepth 100000
set_option maxHeartbeats 4000000
namespace K12
open PySem PySem.Spec PyProof.Rows L2 SL Rt Wd
local macro_rules | `(tactic| walk_at "sz") => `(tactic| first
  | assumption
  | omega
  | (simp only [List.length_cons, List.length_nil, List.length_append, List.length_map, List.length_take, List.length_drop, List.length_reverse, List.length_replicate, List.length_range, tx_len, sizeLine_eq, CMul, CDiv, Nat.reduceAdd, Nat.reduceLeDiff]; first | done | omega)
  | decide)
local macro_rules | `(tactic| walk_at "ne") => `(tactic| first
  | assumption
  | exact Ne.symm (by assumption)
  | (refine ne_of_none (H := ?H0) (o := ?oo) ?hh ?hn; (case hn => assumption); (case hh => walk_at "hget"))
  | (refine Ne.symm (ne_of_none (H := ?H0) (o := ?oo) ?hh ?hn); (case hn => assumption); (case hh => walk_at "hget")))
local macro_rules | `(tactic| walk_at "hget") => `(tactic| first
  | assumption
  | exact upd_same
  | (refine (upd_ne ?n).trans ?g; (case n => walk_at "ne"); (case g => walk_at "hget"))
  | (refine fr_get (p := ?pp) (H := ?H0) ?f ?g ?n; (case f => assumption); (case g => walk_at "hget"); (case n => walk_at "ne"))
  | (refine same_get (H := ?H0) ?f ?g; (case f => assumption); (case g => walk_at "hget")))
local macro_rules | `(tactic| walk_at "vget") => `(tactic| first
  | assumption
  | (refine SqL.of ?g; (case g => walk_at "hget"))
  | (refine SqT.of ?g; (case g => walk_at "hget"))
  | (refine sql_new ?n ?g; (case n => assumption); (case g => walk_at "vget"))
  | (refine sqt_new ?n ?g; (case n => assumption); (case g => walk_at "vget"))
  | (refine sql_upd ?n ?g; (case n => walk_at "ne"); (case g => walk_at "vget"))
  | (refine sqt_upd ?n ?g; (case n => walk_at "ne"); (case g => walk_at "vget"))
  | (refine Same.seq (H := ?H0) ?f ?g; (case f => assumption); (case g => walk_at "vget"))
  | (refine Same.seqT (H := ?H0) ?f ?g; (case f => assumption); (case g => walk_at "vget"))
  | (refine fr_sql (b := ?pp) (H := ?H0) ?f ?g ?n; (case f => assumption); (case g => walk_at "vget"); (case n => walk_at "ne"))
  | (refine fr_sqt (b := ?pp) (H := ?H0) ?f ?g ?n; (case f => assumption); (case g => walk_at "vget"); (case n => walk_at "ne")))
local macro_rules | `(tactic| walk_at "at") => `(tactic| first
  | assumption
  | rfl
  | (refine atI_n ?h; (case h => first | assumption | rfl))
  | (refine atI_i ?h0 ?h; (case h0 => omega); (case h => first | assumption | rfl)))
local macro_rules | `(tactic| walk_at "v1") => `(tactic| first
  | with_reducible refine w_seq ?_
  | with_reducible refine w_enx ?_
  | with_reducible refine w_ert ?_
  | with_reducible refine w_asg ?_
  | ((with_reducible refine w_var (v := ?vv) ?h ?_); (case h => exact rfl))
  | with_reducible refine w_op ?_
  | with_reducible refine w_c ?_
  | with_reducible refine w_cons ?_
  | with_reducible refine w_nil ?_
  | with_reducible refine w_cb ?_
  | with_reducible refine w_call ?_
  | with_reducible refine w_k ?_
  | with_reducible refine w_i ?_
  | with_reducible refine w_two ?_
  | ((with_reducible refine w_name ?_); (try simp only [List.set_cons_zero, List.set_cons_succ]))
  | with_reducible refine w_ifS ?_
  | with_reducible refine w_ret ?_
  | with_reducible refine w_drop ?_
  | with_reducible refine w_test ?_
  | with_reducible refine w_B ?_
  | with_reducible refine iteT ?_
  | with_reducible refine iteF ?_
  | with_reducible refine w_same ?_
  | ((with_reducible refine w_ifT ?h ?_); (case h => first | rfl | assumption))
  | ((with_reducible refine w_ifF ?h ?_); (case h => first | rfl | assumption))
  | ((with_reducible refine w_diff ?_ ?h); (case h => decide +kernel))
  | ((with_reducible refine w_wp ?h ?_); (case h => rfl); (try simp only [wipe, List.set_cons_zero, List.set_cons_succ, List.foldl_cons, List.foldl_nil]))
  | ((with_reducible refine w_acc (acc := ?aa) ?h ?_ ?z); (case h => walk_at "hget"); (case z => walk_at "sz"))
  | with_reducible refine w_addI ?_
  | with_reducible refine w_subI ?_
  | with_reducible refine w_lt ?_
  | with_reducible refine w_le ?_
  | with_reducible refine w_gt ?_
  | with_reducible refine w_ge ?_
  | with_reducible refine w_eqI ?_
  | with_reducible refine w_neI ?_
  | with_reducible refine w_eqS ?_
  | with_reducible refine w_neS ?_
  | with_reducible refine w_neB ?_
  | ((with_reducible refine w_mulI ?_ ?h); (case h => walk_at "sz"))
  | ((with_reducible refine w_divI ?_ ?h); (case h => walk_at "sz"))
  | ((with_reducible refine w_addS ?_ ?h); (case h => walk_at "sz"))
  | ((with_reducible refine w_mulS ?_ ?h); (case h => walk_at "sz"))
  | ((with_reducible refine w_ixL (xs := ?xx) (v := ?vv) ?h ?i ?_); (case h => walk_at "vget"); (case i => walk_at "at"))
  | ((with_reducible refine w_ixT (xs := ?xx) (v := ?vv) ?h ?i ?_); (case h => walk_at "vget"); (case i => walk_at "at"))
  | ((with_reducible refine w_ixS (c := ?cc) ?i ?_ ?h); (case i => walk_at "at"); (case h => walk_at "sz"))
  | ((with_reducible refine w_lenS' ?_ ?h); (case h => walk_at "sz"))
  | ((with_reducible refine w_lenL' (xs := ?xx) ?h ?_); (case h => walk_at "vget"))
  | ((with_reducible refine w_lenT' (xs := ?xx) ?h ?_); (case h => walk_at "vget"))
  | with_reducible refine w_isnN ?_
  | with_reducible refine w_isnI ?_
  | with_reducible refine w_isnS ?_
  | with_reducible refine w_isnR ?_
  | with_reducible refine w_isnB ?_
  | with_reducible refine w_isoN ?_
  | with_reducible refine w_isoI ?_
  | with_reducible refine w_isoS ?_
  | with_reducible refine w_isoR ?_
  | with_reducible refine w_isoB ?_
  | with_reducible refine w_abs ?_
  | with_reducible refine w_int ?_
  | with_reducible refine w_intB ?_
  | with_reducible refine w_min2 ?_
  | with_reducible refine w_max2 ?_
  | with_reducible refine w_min3 ?_
  | with_reducible refine w_sl ?_
  | with_reducible refine w_np ?_
  | with_reducible refine w_part ?_
  | ((with_reducible refine w_sStN ?_ ?h); (case h => walk_at "sz"))
  | ((with_reducible refine w_sSfN ?_ ?h); (case h => walk_at "sz"))
  | ((with_reducible refine w_sSt ?_ ?h); (case h => walk_at "sz"))
  | ((with_reducible refine w_sSf ?_ ?h); (case h => walk_at "sz"))
  | with_reducible refine w_and ?_
  | with_reducible refine w_or ?_
  | with_reducible refine w_not ?_
  | with_reducible refine w_andV ?_
  | with_reducible refine w_orV ?_
  | with_reducible refine w_notV ?_
  | with_reducible refine w_ifE ?_
  | with_reducible refine w_tup ?_
  | with_reducible refine w_lst ?_
  | with_reducible refine w_chain ?_
  | ((with_reducible refine w_par ?_); (try simp only [List.set_cons_zero, List.set_cons_succ]))
  | ((with_reducible refine w_par3 ?_); (try simp only [List.set_cons_zero, List.set_cons_succ]))
  | with_reducible refine w_three ?_
  | with_reducible refine w_un ?_
  | with_reducible refine w_neg ?_
  | with_reducible refine w_next ?_
  | with_reducible refine w_ebk ?_
  | with_reducible refine w_ect ?_
  | with_reducible refine w_for ?_
  | with_reducible refine w_lc ?_
  | with_reducible refine w_yes ?_
  | with_reducible refine w_il ?_
  | with_reducible refine w_it ?_
  | with_reducible refine w_isx ?_
  | with_reducible refine w_ir1 ?_
  | with_reducible refine w_ir2 ?_
  | with_reducible refine w_ies ?_
  | with_reducible refine w_ir3 ?_
  | with_reducible refine w_s1 ?_
  | with_reducible refine w_s1l ?_
  | ((with_reducible refine w_r1 ?_ ?h); (case h => walk_at "sz"))
  | ((with_reducible refine w_r2 ?_ ?h); (case h => walk_at "sz"))
  | ((with_reducible refine w_l1 (xs := ?xx) ?h ?_); (case h => walk_at "vget"))
  | ((with_reducible refine w_t1 (xs := ?xx) ?h ?_); (case h => walk_at "vget"))
  | ((with_reducible refine w_isL (xs := ?xx) ?h ?_); (case h => walk_at "vget"))
  | with_reducible refine w_isS ?_
  | ((with_reducible refine w_app (xs := ?xx) ?h ?_ ?z); (case h => walk_at "hget"); (case z => walk_at "sz"))
  | with_reducible refine w_inC ?_
  | with_reducible refine w_rev ?_
  | ((with_reducible refine w_rev1S ?_ ?h); (case h => walk_at "sz"))
  | with_reducible refine w_lrg ?_
  | with_reducible refine w_brk ?_
  | with_reducible refine w_cont ?_
  | with_reducible refine w_retN ?_
  | with_reducible refine w_bm ?_
  | with_reducible refine w_bm0 ?_
  | with_reducible refine w_m1 ?_
  | with_reducible refine w_sub ?_
  | ((with_reducible refine w_setL (xs := ?xx) (j := ?jj) ?h ?i ?_); (case h => walk_at "hget"); (case i => first | rfl | assumption); (try simp only [Int.reduceToNat, List.set_cons_zero, List.set_cons_succ]))
  | with_reducible refine w_ip ?_
  | with_reducible refine w_gnil ?_
  | with_reducible refine w_gcons ?_
  | ((with_reducible refine w_gL (xs := ?xx) ?h ?_ ?n); (case h => walk_at "vget"); (case n => rfl))
  | ((with_reducible refine w_gT (xs := ?xx) ?h ?_ ?n); (case h => walk_at "vget"); (case n => rfl))
  | ((with_reducible refine w_aug (v := ?vv) ?h ?_); (case h => exact rfl)))
local macro_rules | `(tactic| walk_at "v") => `(tactic| repeat walk_at "v1")
local macro_rules | `(tactic| walk_at "v0") => `(tactic| (simp only [L2.start, cxK, ends_rt, List.map_cons, List.map_nil, List.length_cons, List.length_nil, Nat.reduceAdd, Nat.reduceSub, List.replicate_succ, List.replicate_zero, List.append_nil, List.cons_append, List.nil_append]; walk_at "v"))
local macro_rules | `(tactic| walk_at "u1") => `(tactic| first
  | with_reducible refine w_seqA ?_
  | with_reducible refine w_seqD ?_
  | with_reducible refine w_seqP ?_
  | with_reducible refine w_seqP3 ?_
  | with_reducible refine w_seqG ?_
  | ((fail_if_success (with_reducible refine w_seq ?_)); walk_at "v1"))
local macro_rules | `(tactic| walk_at "u") => `(tactic| repeat walk_at "u1")
local macro_rules | `(tactic| walk_at "u0") => `(tactic| (simp only [L2.start, cxK, ends_rt, List.map_cons, List.map_nil, List.length_cons, List.length_nil, Nat.reduceAdd, Nat.reduceSub, List.replicate_succ, List.replicate_zero, List.append_nil, List.cons_append, List.nil_append]; walk_at "u"))
local macro_rules | `(tactic| walk_at "t1") => `(tactic| ((fail_if_success (with_reducible refine w_seq ?_)); walk_at "v1"))
local macro_rules | `(tactic| walk_at "t") => `(tactic| repeat walk_at "t1")

section
variable {P : Program} {w : World} {K : PySem.W.Frag} {mg : Str → Option Value} {base : Heap}
def spWide : Sp := fun vs H Q _ => ∃ (p : Addr) (c n : Nat), vs = [.ref p, .str (tx [c])] ∧ Let [c] ∧ Box H p n ∧ n ≤ 100000 ∧ ∀ H', Box H' p (n + 2) → SL.Fr p H H' → Q (.bl true) H'
theorem ok__law_wide_right (T : Txt K mg) (c__law_take : Cal P w K mg base 1 "_law_take" ["box", "many"] spTake) (c_staying : Cal P w K mg base 4 "staying" ["one", "other", "most"] (spStay K (errAt mg "InvalidText") (errAt mg "InvalidCount"))) :
    Cal P w K mg base 5 "_law_wide_right" ["box", "letter"] spWide := by
  refine cal0 T.d__law_wide_right sc__law_wide_right (by rintro vs H Q E ⟨p, c, n, rfl, _⟩; rfl) (fun cdv f A outer s H vs Q E hr hgd h => ?_)
  obtain ⟨p, c, n, rfl, lc, hb, hn, q⟩ := h
  refine ⟨_, (pss_cons (ps_set (i := 2) sc__law_wide_right.nd rfl (by first | exact Or.inl rfl | exact Or.inr rfl) (pe_ix (kIx K rfl) (pe_lst (pa_cons pe_int (pa_cons (pe_g c__law_take hr (by decide) hgd (by rfl) noX (pa_cons (pv 0) (pa_cons pe_int pa_nil))) pa_nil))) (pe_g c__law_take hr (by decide) hgd (by rfl) noX (pa_cons (pv 0) (pa_cons pe_int pa_nil))) (fun _ _ => rfl)))
  (pss_cons (ps_set (i := 3) sc__law_wide_right.nd rfl (by first | exact Or.inl rfl | exact Or.inr rfl) (pe_op (kAdd K rfl) (pe_lc (own := [("k", 4)]) rfl sc__law_wide_right.nd (pi_range1 (by rfl) T.n_range (pa_cons (pv 2) pa_nil)) (blkOk_by (own := [("k", 4)]) (N := N__law_wide_right) (sc := defScope s__law_wide_right) (by decide +kernel)) (fun _ _ _ _ _ => (pg_name (i := 4) sc__law_wide_right.nd rfl (by first | exact Or.inl rfl | exact Or.inr rfl))) (fun _ _ _ _ _ => pts_nil) (fun _ _ _ _ _ => (pe_tup (pa_cons (pe_tx [] (by decide +kernel)) (pa_cons (pe_op uMul (pv 1) (pe_op uSub (pv 2) (pv 4))) pa_nil))))) (pe_lc (own := [("k", 4)]) rfl sc__law_wide_right.nd (pi_range1 (by rfl) T.n_range (pa_cons (pe_op (kAdd K rfl) (pv 2) pe_int) pa_nil)) (blkOk_by (own := [("k", 4)]) (N := N__law_wide_right) (sc := defScope s__law_wide_right) (by decide +kernel)) (fun _ _ _ _ _ => (pg_name (i := 4) sc__law_wide_right.nd rfl (by first | exact Or.inl rfl | exact Or.inr rfl))) (fun _ _ _ _ _ => pts_nil) (fun _ _ _ _ _ => (pe_tup (pa_cons (pe_op uMul (pv 1) (pv 4)) (pa_cons (pe_tx [] (by decide +kernel)) pa_nil)))))))
  (pss_one (ps_ret (pe_cmpR (kEq K rfl hr) (pe_g c_staying hr (by decide) hgd (by rfl) noX (pa_cons (pv 1) (pa_cons (pv 1) (pa_cons (pv 2) pa_nil)))) (pv 3) (nomark _)))))), ?_⟩
  walk_at "v0"
  refine take_w (N := 401) rfl hb (by omega) fun k1 H1 hk1 b1 f1 => ?_
  walk_at "v"
  refine ⟨by walk_at "sz", fun e2 n2 => ?_⟩
  have n2p : e2 ≠ p := Ne.symm (b1.ne n2)
  walk_at "v"
  refine take_w (N := 2) rfl (b1.upd (b1.ne n2)) (by omega) fun k3 H3 hk3 b3 f3 => ?_
  have g3 := f3 _ _ upd_same n2p
  have F3 := (f1.new n2 hb.has).trans f3
  have hm : ∃ m : Nat, ([.int 400, .int (k1 : Int)] : List V)[k3]? = some (.int (m : Int)) ∧ m ≤ 400 := by
    match k3, hk3 with
    | 0, _ => exact ⟨400, rfl, by omega⟩
    | 1, _ => exact ⟨k1, rfl, by omega⟩
  obtain ⟨m, hm, zm⟩ := hm
  walk_at "v"
  intro D hD
  refine lc_rg (n := m) (by omega) (fun i H' => ∃ vs : List V, Same H3 H' ∧ H' D = some (.lst vs) ∧ vs.length = i ∧ DvAll (hide [D] H') vs (((List.range i).map fun k => (([] : List Nat), List.replicate (m - k) c)).map SL.pairD)) ⟨[], same_new hD, upd_same, rfl, .nil⟩ ?_ ?_
  · rintro i Y hi ⟨vs, sY, gY, zvs, dY⟩
    walk_at "v"
    rw [show (m : Int) - (i : Int) = ((m - i : Nat) : Int) by omega]
    refine w_mulSN ?_ ⟨by omega, by simp, by simp; omega⟩
    rw [rep_one]
    walk_at "v"
    refine ⟨by walk_at "sz", fun e he => ?_⟩
    have nD : D ≠ e := ne_of_none gY he
    have gD := (upd_ne (o := .tup [.str (tx []), .str (tx (List.replicate (m - i) c))]) nD).trans gY
    walk_at "v"
    have FD : SL.Fr D (upd Y e (.tup [.str (tx []), .str (tx (List.replicate (m - i) c))])) (upd (upd Y e (.tup [.str (tx []), .str (tx (List.replicate (m - i) c))])) D (.lst (vs ++ [.ref e]))) := Fr.put (Fr.refl _ _)
    have FY := (Fr.of (p := D) (same_new (o := .tup [.str (tx []), .str (tx (List.replicate (m - i) c))]) he)).trans FD
    refine ⟨vs ++ [.ref e], Same.grow (Same.new sY he) hD, upd_same, by rw [List.length_append, zvs]; rfl, ?_⟩
    rw [List.range_succ, List.map_append, List.map_append]
    exact dvall_snoc (DvAll.mono (hideH FY) _ _ dY) (Dv.mono (hideH FD) _ _ (dv_tup (q := ([], List.replicate (m - i) c)) upd_same gD))
  · rintro Y ⟨vs, sY, gY, zvs, dY⟩
    have d1 := DvAll.mono (hideF (SL.Fr.refl D Y)) _ _ dY
    walk_at "v"
    intro D2 hD2
    have nDD : D ≠ D2 := ne_of_none gY hD2
    refine lc_rg (n := m + 1) (by omega) (fun i H' => ∃ ws : List V, Same Y H' ∧ H' D2 = some (.lst ws) ∧ ws.length = i ∧ DvAll (hide [D2] H') ws (((List.range i).map fun k => (List.replicate k c, ([] : List Nat))).map SL.pairD)) ⟨[], same_new hD2, upd_same, rfl, .nil⟩ ?_ ?_
    · rintro i Z hi ⟨ws, sZ, gZ, zws, dZ⟩
      walk_at "v"
      refine w_mulSN ?_ ⟨by omega, by simp, by simp; omega⟩
      rw [rep_one]
      walk_at "v"
      refine ⟨by walk_at "sz", fun e he => ?_⟩
      have nD : D2 ≠ e := ne_of_none gZ he
      have gD := (upd_ne (o := .tup [.str (tx (List.replicate i c)), .str (tx [])]) nD).trans gZ
      walk_at "v"
      have FD : SL.Fr D2 (upd Z e (.tup [.str (tx (List.replicate i c)), .str (tx [])])) (upd (upd Z e (.tup [.str (tx (List.replicate i c)), .str (tx [])])) D2 (.lst (ws ++ [.ref e]))) := Fr.put (Fr.refl _ _)
      have FY := (Fr.of (p := D2) (same_new (o := .tup [.str (tx (List.replicate i c)), .str (tx [])]) he)).trans FD
      refine ⟨ws ++ [.ref e], Same.grow (Same.new sZ he) hD2, upd_same, by rw [List.length_append, zws]; rfl, ?_⟩
      rw [List.range_succ, List.map_append, List.map_append]
      exact dvall_snoc (DvAll.mono (hideH FY) _ _ dZ) (Dv.mono (hideH FD) _ _ (dv_tup (q := (List.replicate i c, [])) upd_same gD))
    · rintro Z ⟨ws, sZ, gZ, zws, dZ⟩
      have d2 := DvAll.mono (hideF (SL.Fr.refl D2 Z)) _ _ dZ
      have d1' := DvAll.mono sZ _ _ d1
      have gY2 := sZ _ _ gY
      walk_at "v"
      refine w_addL gY2 gZ (by omega) fun e he => ?_
      have dd := DvAll.mono (same_new (o := .lst (vs ++ ws)) he) _ _ (dvall_app d1' d2)
      rw [← List.map_append, ← stay_one] at dd
      walk_at "v"
      have ne1 : Ne2 [c] [c] := fun _ => by simp
      refine stay_w rfl lc lc ne1 (by simp) (by simp) (by omega) fun r xs W sW nW gW dW => ?_
      have ge := sW _ _ (upd_same (H := Z) (a := e) (o := .lst (vs ++ ws)))
      have de := DvAll.mono sW _ _ dd
      walk_at "v"
      refine w_eqPairs gW dW ge de (stay_sgn lc lc ne1) ?_
      have SF := sY.trans (sZ.trans ((same_new (o := .lst (vs ++ ws)) he).trans sW))
      exact q _ ((b3.same SF).le (by omega)) (F3.trans (Fr.of SF))
end
end K12
set_option Elab.async false
set_option linter.all false
set_option maxRecDepth 100000
set_option maxHeartbeats 4000000
namespace K12
open PySem PySem.Spec PyProof.Rows L2 SL Rt Wd
local macro_rules | `(tactic| walk_at "sz") => `(tactic| first
  | assumption
  | omega
  | (simp only [List.length_cons, List.length_nil, List.length_append, List.length_map, List.length_take, List.length_drop, List.length_reverse, List.length_replicate, List.length_range, tx_len, sizeLine_eq, CMul, CDiv, Nat.reduceAdd, Nat.reduceLeDiff]; first | done | omega)
  | decide)
local macro_rules | `(tactic| walk_at "ne") => `(tactic| first
  | assumption
  | exact Ne.symm (by assumption)
  | (refine ne_of_none (H := ?H0) (o := ?oo) ?hh ?hn; (case hn => assumption); (case hh => walk_at "hget"))
  | (refine Ne.symm (ne_of_none (H := ?H0) (o := ?oo) ?hh ?hn); (case hn => assumption); (case hh => walk_at "hget")))
local macro_rules | `(tactic| walk_at "hget") => `(tactic| first
  | assumption
  | exact upd_same
  | (refine (upd_ne ?n).trans ?g; (case n => walk_at "ne"); (case g => walk_at "hget"))
  | (refine fr_get (p := ?pp) (H := ?H0) ?f ?g ?n; (case f => assumption); (case g => walk_at "hget"); (case n => walk_at "ne"))
  | (refine same_get (H := ?H0) ?f ?g; (case f => assumption); (case g => walk_at "hget")))
local macro_rules | `(tactic| walk_at "vget") => `(tactic| first
  | assumption
  | (refine SqL.of ?g; (case g => walk_at "hget"))
  | (refine SqT.of ?g; (case g => walk_at "hget"))
  | (refine sql_new ?n ?g; (case n => assumption); (case g => walk_at "vget"))
  | (refine sqt_new ?n ?g; (case n => assumption); (case g => walk_at "vget"))
  | (refine sql_upd ?n ?g; (case n => walk_at "ne"); (case g => walk_at "vget"))
  | (refine sqt_upd ?n ?g; (case n => walk_at "ne"); (case g => walk_at "vget"))
  | (refine Same.seq (H := ?H0) ?f ?g; (case f => assumption); (case g => walk_at "vget"))
  | (refine Same.seqT (H := ?H0) ?f ?g; (case f => assumption); (case g => walk_at "vget"))
  | (refine fr_sql (b := ?pp) (H := ?H0) ?f ?g ?n; (case f => assumption); (case g => walk_at "vget"); (case n => walk_at "ne"))
  | (refine fr_sqt (b := ?pp) (H := ?H0) ?f ?g ?n; (case f => assumption); (case g => walk_at "vget"); (case n => walk_at "ne")))
local macro_rules | `(tactic| walk_at "at") => `(tactic| first
  | assumption
  | rfl
  | (refine atI_n ?h; (case h => first | assumption | rfl))
  | (refine atI_i ?h0 ?h; (case h0 => omega); (case h => first | assumption | rfl)))
local macro_rules | `(tactic| walk_at "v1") => `(tactic| first
  | with_reducible refine w_seq ?_
  | with_reducible refine w_enx ?_
  | with_reducible refine w_ert ?_
  | with_reducible refine w_asg ?_
  | ((with_reducible refine w_var (v := ?vv) ?h ?_); (case h => exact rfl))
  | with_reducible refine w_op ?_
  | with_reducible refine w_c ?_
  | with_reducible refine w_cons ?_
  | with_reducible refine w_nil ?_
  | with_reducible refine w_cb ?_
  | with_reducible refine w_call ?_
  | with_reducible refine w_k ?_
  | with_reducible refine w_i ?_
  | with_reducible refine w_two ?_
  | ((with_reducible refine w_name ?_); (try simp only [List.set_cons_zero, List.set_cons_succ]))
  | with_reducible refine w_ifS ?_
  | with_reducible refine w_ret ?_
  | with_reducible refine w_drop ?_
  | with_reducible refine w_test ?_
  | with_reducible refine w_B ?_
  | with_reducible refine iteT ?_
  | with_reducible refine iteF ?_
  | with_reducible refine w_same ?_
  | ((with_reducible refine w_ifT ?h ?_); (case h => first | rfl | assumption))
  | ((with_reducible refine w_ifF ?h ?_); (case h => first | rfl | assumption))
  | ((with_reducible refine w_diff ?_ ?h); (case h => decide +kernel))
  | ((with_reducible refine w_wp ?h ?_); (case h => rfl); (try simp only [wipe, List.set_cons_zero, List.set_cons_succ, List.foldl_cons, List.foldl_nil]))
  | ((with_reducible refine w_acc (acc := ?aa) ?h ?_ ?z); (case h => walk_at "hget"); (case z => walk_at "sz"))
  | with_reducible refine w_addI ?_
  | with_reducible refine w_subI ?_
  | with_reducible refine w_lt ?_
  | with_reducible refine w_le ?_
  | with_reducible refine w_gt ?_
  | with_reducible refine w_ge ?_
  | with_reducible refine w_eqI ?_
  | with_reducible refine w_neI ?_
  | with_reducible refine w_eqS ?_
  | with_reducible refine w_neS ?_
  | with_reducible refine w_neB ?_
  | ((with_reducible refine w_mulI ?_ ?h); (case h => walk_at "sz"))
  | ((with_reducible refine w_divI ?_ ?h); (case h => walk_at "sz"))
  | ((with_reducible refine w_addS ?_ ?h); (case h => walk_at "sz"))
  | ((with_reducible refine w_mulS ?_ ?h); (case h => walk_at "sz"))
  | ((with_reducible refine w_ixL (xs := ?xx) (v := ?vv) ?h ?i ?_); (case h => walk_at "vget"); (case i => walk_at "at"))
  | ((with_reducible refine w_ixT (xs := ?xx) (v := ?vv) ?h ?i ?_); (case h => walk_at "vget"); (case i => walk_at "at"))
  | ((with_reducible refine w_ixS (c := ?cc) ?i ?_ ?h); (case i => walk_at "at"); (case h => walk_at "sz"))
  | ((with_reducible refine w_lenS' ?_ ?h); (case h => walk_at "sz"))
  | ((with_reducible refine w_lenL' (xs := ?xx) ?h ?_); (case h => walk_at "vget"))
  | ((with_reducible refine w_lenT' (xs := ?xx) ?h ?_); (case h => walk_at "vget"))
  | with_reducible refine w_isnN ?_
  | with_reducible refine w_isnI ?_
  | with_reducible refine w_isnS ?_
  | with_reducible refine w_isnR ?_
  | with_reducible refine w_isnB ?_
  | with_reducible refine w_isoN ?_
  | with_reducible refine w_isoI ?_
  | with_reducible refine w_isoS ?_
  | with_reducible refine w_isoR ?_
  | with_reducible refine w_isoB ?_
  | with_reducible refine w_abs ?_
  | with_reducible refine w_int ?_
  | with_reducible refine w_intB ?_
  | with_reducible refine w_min2 ?_
  | with_reducible refine w_max2 ?_
  | with_reducible refine w_min3 ?_
  | with_reducible refine w_sl ?_
  | with_reducible refine w_np ?_
  | with_reducible refine w_part ?_
  | ((with_reducible refine w_sStN ?_ ?h); (case h => walk_at "sz"))
  | ((with_reducible refine w_sSfN ?_ ?h); (case h => walk_at "sz"))
  | ((with_reducible refine w_sSt ?_ ?h); (case h => walk_at "sz"))
  | ((with_reducible refine w_sSf ?_ ?h); (case h => walk_at "sz"))
  | with_reducible refine w_and ?_
  | with_reducible refine w_or ?_
  | with_reducible refine w_not ?_
  | with_reducible refine w_andV ?_
  | with_reducible refine w_orV ?_
  | with_reducible refine w_notV ?_
  | with_reducible refine w_ifE ?_
  | with_reducible refine w_tup ?_
  | with_reducible refine w_lst ?_
  | with_reducible refine w_chain ?_
  | ((with_reducible refine w_par ?_); (try simp only [List.set_cons_zero, List.set_cons_succ]))
  | ((with_reducible refine w_par3 ?_); (try simp only [List.set_cons_zero, List.set_cons_succ]))
  | with_reducible refine w_three ?_
  | with_reducible refine w_un ?_
  | with_reducible refine w_neg ?_
  | with_reducible refine w_next ?_
  | with_reducible refine w_ebk ?_
  | with_reducible refine w_ect ?_
  | with_reducible refine w_for ?_
  | with_reducible refine w_lc ?_
  | with_reducible refine w_yes ?_
  | with_reducible refine w_il ?_
  | with_reducible refine w_it ?_
  | with_reducible refine w_isx ?_
  | with_reducible refine w_ir1 ?_
  | with_reducible refine w_ir2 ?_
  | with_reducible refine w_ies ?_
  | with_reducible refine w_ir3 ?_
  | with_reducible refine w_s1 ?_
  | with_reducible refine w_s1l ?_
  | ((with_reducible refine w_r1 ?_ ?h); (case h => walk_at "sz"))
  | ((with_reducible refine w_r2 ?_ ?h); (case h => walk_at "sz"))
  | ((with_reducible refine w_l1 (xs := ?xx) ?h ?_); (case h => walk_at "vget"))
  | ((with_reducible refine w_t1 (xs := ?xx) ?h ?_); (case h => walk_at "vget"))
  | ((with_reducible refine w_isL (xs := ?xx) ?h ?_); (case h => walk_at "vget"))
  | with_reducible refine w_isS ?_
  | ((with_reducible refine w_app (xs := ?xx) ?h ?_ ?z); (case h => walk_at "hget"); (case z => walk_at "sz"))
  | with_reducible refine w_inC ?_
  | with_reducible refine w_rev ?_
  | ((with_reducible refine w_rev1S ?_ ?h); (case h => walk_at "sz"))
  | with_reducible refine w_lrg ?_
  | with_reducible refine w_brk ?_
  | with_reducible refine w_cont ?_
  | with_reducible refine w_retN ?_
  | with_reducible refine w_bm ?_
  | with_reducible refine w_bm0 ?_
  | with_reducible refine w_m1 ?_
  | with_reducible refine w_sub ?_
  | ((with_reducible refine w_setL (xs := ?xx) (j := ?jj) ?h ?i ?_); (case h => walk_at "hget"); (case i => first | rfl | assumption); (try simp only [Int.reduceToNat, List.set_cons_zero, List.set_cons_succ]))
  | with_reducible refine w_ip ?_
  | with_reducible refine w_gnil ?_
  | with_reducible refine w_gcons ?_
  | ((with_reducible refine w_gL (xs := ?xx) ?h ?_ ?n); (case h => walk_at "vget"); (case n => rfl))
  | ((with_reducible refine w_gT (xs := ?xx) ?h ?_ ?n); (case h => walk_at "vget"); (case n => rfl))
  | ((with_reducible refine w_aug (v := ?vv) ?h ?_); (case h => exact rfl)))
local macro_rules | `(tactic| walk_at "v") => `(tactic| repeat walk_at "v1")
local macro_rules | `(tactic| walk_at "v0") => `(tactic| (simp only [L2.start, cxK, ends_rt, List.map_cons, List.map_nil, List.length_cons, List.length_nil, Nat.reduceAdd, Nat.reduceSub, List.replicate_succ, List.replicate_zero, List.append_nil, List.cons_append, List.nil_append]; walk_at "v"))
local macro_rules | `(tactic| walk_at "u1") => `(tactic| first
  | with_reducible refine w_seqA ?_
  | with_reducible refine w_seqD ?_
  | with_reducible refine w_seqP ?_
  | with_reducible refine w_seqP3 ?_
  | with_reducible refine w_seqG ?_
  | ((fail_if_success (with_reducible refine w_seq ?_)); walk_at "v1"))
local macro_rules | `(tactic| walk_at "u") => `(tactic| repeat walk_at "u1")
local macro_rules | `(tactic| walk_at "u0") => `(tactic| (simp only [L2.start, cxK, ends_rt, List.map_cons, List.map_nil, List.length_cons, List.length_nil, Nat.reduceAdd, Nat.reduceSub, List.replicate_succ, List.replicate_zero, List.append_nil, List.cons_append, List.nil_append]; walk_at "u"))
local macro_rules | `(tactic| walk_at "t1") => `(tactic| ((fail_if_success (with_reducible refine w_seq ?_)); walk_at "v1"))
local macro_rules | `(tactic| walk_at "t") => `(tactic| repeat walk_at "t1")

section
variable {P : Program} {w : World} {K : PySem.W.Frag} {mg : Str → Option Value} {base : Heap}
def spBadT (K : PySem.W.Frag) : Sp := fun vs H Q _ => ∃ (p r : Addr) (l : List Nat) (c : Nat), vs = [.ref p, .ref r] ∧ Box H p c ∧ c ≤ 1000000 ∧ H r = some (.lst (sgL l)) ∧ l.length = 2 ∧ Let l ∧ r ≠ p ∧
  ∀ v H', Box H' p (c + 10) → SL.Fr p H H' → IsTx K (hide [p] H') v false → Ov 500 5 (hide [p] H') v → Q v H'
theorem ok__law_bad_text (T : Txt K mg) (c__law_take : Cal P w K mg base 1 "_law_take" ["box", "many"] spTake) (c__law_word : Cal P w K mg base 2 "_law_word" ["box", "letters", "size"] (spWord K)) :
    Cal P w K mg base 3 "_law_bad_text" ["box", "letters"] (spBadT K) := by
  refine cal0 T.d__law_bad_text sc__law_bad_text (by rintro vs H Q E ⟨p, r, l, c, rfl, _⟩; rfl) (fun cdv f A outer s H vs Q E hr hgd h => ?_)
  obtain ⟨p, r, l, c, rfl, hb, hc, hl, z2, ll, nrp, q⟩ := h
  refine ⟨_, (pss_cons (ps_par (i := 2) (j := 3) (by rfl) sc__law_bad_text.nd rfl rfl (by decide) rfl rfl (pa_cons (pe_g c__law_take hr (by decide) hgd (by rfl) noX (pa_cons (pv 0) (pa_cons pe_int pa_nil))) (pa_cons (pe_g c__law_word hr (by decide) hgd (by rfl) noX (pa_cons (pv 0) (pa_cons (pv 1) (pa_cons (pe_g c__law_take hr (by decide) hgd (by rfl) noX (pa_cons (pv 0) (pa_cons pe_int pa_nil))) pa_nil)))) pa_nil)) (by rfl))
  (pss_cons (ps_if (pt_cmpR uLt (pv 2) pe_int (nomark _)) (pss_one (ps_ret (pe_op (kAdd K rfl) (pe_ix (kIx K rfl) (pe_lst (pa_cons (pe_tx [90] (by decide +kernel)) (pa_cons (pe_tx [57] (by decide +kernel)) (pa_cons (pe_tx [123] (by decide +kernel)) (pa_cons (pe_tx [45] (by decide +kernel)) pa_nil))))) (pv 2) (fun _ _ => rfl)) (pv 3)))) pss_nil)
  (pss_one (ps_ret (pe_ix (kIx K rfl) (pe_lst (pa_cons (pe_op (kAdd K rfl) (pv 3) (pe_tx [10] (by decide +kernel))) (pa_cons (pe_lst (pa_cons (pv 3) pa_nil)) (pa_cons (pe_tup (pa_cons (pe_tx [] (by decide +kernel)) (pa_cons (pv 3) pa_nil))) (pa_cons pe_non (pa_cons pe_int pa_nil)))))) (pe_op uSub (pv 2) pe_int) (fun _ _ => rfl)))))), ?_⟩
  walk_at "v0"
  refine take_w (N := 9) rfl hb (by omega) fun way H1 hw b1 f1 => ?_
  walk_at "v"
  refine take_w (N := 4) rfl b1 (by omega) fun k2 H2 hk2 b2 f2 => ?_
  have g2 := (f1.trans f2) _ _ hl nrp
  walk_at "v"
  refine ⟨p, r, l, k2, _, rfl, b2, by omega, g2, z2, nrp, by omega, fun t H3 ot zt b3 f3 => ?_⟩
  have lt := ot.lt ll
  have F3 := f1.trans (f2.trans f3)
  have smt := sm_str (n := 50) lt.sgn (by omega)
  have sme := sm_str (l := []) (n := 2) (fun x hx => absurd hx (by simp)) (by simp)
  walk_at "v"
  refine w_if (fun h => ?_) (fun h => ?_)
  · have h := of_decide_eq_true h
    have hw4 : way < 4 := by omega
    walk_at "v"
    refine ⟨by walk_at "sz", fun e1 n1 => ?_⟩
    have hs : ∃ o : Nat, ([.str (tx [90]), .str (tx [57]), .str (tx [123]), .str (tx [45])] : List V)[way]? = some (.str (tx [o])) ∧ ¬ Let [o] ∧ o < 128 := by
      match way, hw4 with
      | 0, _ => exact ⟨90, rfl, by decide, by decide⟩
      | 1, _ => exact ⟨57, rfl, by decide, by decide⟩
      | 2, _ => exact ⟨123, rfl, by decide, by decide⟩
      | 3, _ => exact ⟨45, rfl, by decide, by decide⟩
    obtain ⟨o, hs, no, zo⟩ := hs
    walk_at "v"
    have zt' : ([o] ++ t).length ≤ 5 := by
      simp only [List.length_append, List.length_singleton]
      omega
    have nt : ¬ Let ([o] ++ t) := fun h => no h.left
    have st : Sgn ([o] ++ t) := fun x hx => by
      rcases List.mem_append.mp hx with hx | hx
      · rw [List.mem_singleton.mp hx]; omega
      · exact lt.sgn x hx
    exact q _ _ ((b3.upd (b3.ne n1)).le (by omega)) (F3.new n1 hb.has) (.inl ⟨_, rfl, by omega, (decide_eq_false nt).symm⟩) ⟨_, .str _, (sm_str (n := 200) st (by omega)).le (by omega) (by omega), fun ds h => nomatch h⟩
  · have h := of_decide_eq_false h
    obtain ⟨j, rfl⟩ : ∃ j, way = 4 + j := ⟨way - 4, by omega⟩
    have hj : j < 5 := by omega
    walk_at "v"
    refine ⟨by walk_at "sz", fun e1 n1 => ?_⟩
    walk_at "v"
    refine ⟨by walk_at "sz", fun e2 n2 => ?_⟩
    walk_at "v"
    refine ⟨by walk_at "sz", fun e3 n3 => ?_⟩
    have p1 := b3.ne n1
    have B1 := b3.upd (o := .lst [.str (tx t)]) p1
    have p2 := B1.ne n2
    have B2 := B1.upd (o := .tup [.str (tx []), .str (tx t)]) p2
    have p3 := B2.ne n3
    have BB := B2.upd (o := .lst [.str (tx (t ++ [10])), .ref e1, .ref e2, .non, .int 0]) p3
    have FF := ((F3.new n1 hb.has (o := .lst [.str (tx t)])).new n2 hb.has (o := .tup [.str (tx []), .str (tx t)])).new n3 hb.has (o := .lst [.str (tx (t ++ [10])), .ref e1, .ref e2, .non, .int 0])
    obtain ⟨M, hM⟩ : ∃ M, M = upd (upd (upd H3 e1 (.lst [.str (tx t)])) e2 (.tup [.str (tx []), .str (tx t)])) e3 (.lst [.str (tx (t ++ [10])), .ref e1, .ref e2, .non, .int 0]) := ⟨_, rfl⟩
    rw [← hM] at FF BB
    have g3 : M e3 = some (.lst [.str (tx (t ++ [10])), .ref e1, .ref e2, .non, .int 0]) := by rw [hM]; exact upd_same
    have g2 : M e2 = some (.tup [.str (tx []), .str (tx t)]) := by rw [hM]; exact (same_new n3) _ _ upd_same
    have g1 : M e1 = some (.lst [.str (tx t)]) := by rw [hM]; exact (same_new n3) _ _ ((same_new n2) _ _ upd_same)
    rw [← hM]
    have i1 : e1 ∉ [p] := by simpa using Ne.symm p1
    have i2 : e2 ∉ [p] := by simpa using Ne.symm p2
    have st : Sgn (t ++ [10]) := fun x hx => by
      rcases List.mem_append.mp hx with hx | hx
      · exact lt.sgn x hx
      · rw [List.mem_singleton.mp hx]; omega
    have nt : ¬ Let (t ++ [10]) := fun h => absurd h.right (by decide)
    have zt' : (t ++ [10]).length ≤ 5 := by rw [List.length_append]; simp; omega
    have hv : ∃ v, ([.str (tx (t ++ [10])), .ref e1, .ref e2, .non, .int 0] : List V)[j]? = some v ∧ IsTx K (hide [p] M) v false ∧ Ov 500 5 (hide [p] M) v := by
      match j, hj with
      | 0, _ => exact ⟨_, rfl, .inl ⟨_, rfl, by omega, (decide_eq_false nt).symm⟩, ⟨_, .str _, (sm_str (n := 200) st (by omega)).le (by omega) (by omega), fun ds h => nomatch h⟩⟩
      | 1, _ => exact ⟨_, rfl, .inr ⟨rfl, _, .base (.lst (hide_get g1 i1)), by unfold SL.Kind; simp, by decide⟩, ⟨_, .lst (hide_get g1 i1) (.cons (.str _) .nil), (sm_list1 smt).le (by omega) (by omega), fun ds h => by cases h; simp⟩⟩
      | 2, _ => exact ⟨_, rfl, .inr ⟨rfl, _, .base (.tup (hide_get g2 i2)), by unfold SL.Kind; simp, by decide⟩, ⟨_, .tup (hide_get g2 i2) (.cons (.str _) (.cons (.str _) .nil)), (sm_tup2 sme smt).le (by omega) (by omega), fun ds h => nomatch h⟩⟩
      | 3, _ => exact ⟨_, rfl, .inr ⟨rfl, _, .base .non, by unfold SL.Kind; simp, by decide⟩, ⟨_, .non, sm_non.le (by omega) (by omega), fun ds h => nomatch h⟩⟩
      | 4, _ => exact ⟨_, rfl, .inr ⟨rfl, _, .base (.int _), by unfold SL.Kind; simp, by decide⟩, ⟨_, .int _, ⟨by decide +kernel, by decide, by decide, by decide, by decide +kernel⟩, fun ds h => nomatch h⟩⟩
    obtain ⟨v, hv, tv, ov⟩ := hv
    have hix : atI ([.str (tx (t ++ [10])), .ref e1, .ref e2, .non, .int 0] : List V) (((4 + j : Nat) : Int) - 4) = some v := by
      rw [show ((4 + j : Nat) : Int) - 4 = ((j : Nat) : Int) by omega]
      exact atI_n hv
    walk_at "v"
    exact q _ _ (BB.le (by omega)) FF tv ov
def wText : List Nat := [116, 101, 120, 116]
def wCount : List Nat := [99, 111, 117, 110, 116]
/-- what is refused, and as what -/
def fb (x y n : V) (bx by' bn be : Bool) : Option (List Nat × V) := if bx = false then some (wText, x) else if by' = false then some (wText, y) else if be = true then some (wText, x) else if bn = false then some (wCount, n) else none
def fbL : Option (List Nat × V) → List V
  | some (t, v) => [.str (tx t), v]
  | none => []
structure Prt (K : PySem.W.Frag) (H : Hp) (x y n : V) (bx by' bn be : Bool) : Prop where
  hx : IsTx K H x bx
  hy : IsTx K H y by'
  hn : IsCt K H n bn
  g : bx = true → by' = true → ∃ u v, x = .str (tx u) ∧ y = .str (tx v) ∧ u.length ≤ 1000 ∧ v.length ≤ 1000 ∧ be = decide (u = [] ∧ v = [])
  gn : bn = true → ∃ h : Nat, n = .int (h : Int) ∧ h ≤ 2000
theorem Prt.mono {H H' : Hp} {x y n : V} {bx by' bn be : Bool} (s : Same H H') (h : Prt K H x y n bx by' bn be) : Prt K H' x y n bx by' bn be := ⟨h.hx.mono s, h.hy.mono s, isct_mono s h.hn, h.g, h.gn⟩
def spTold (K : PySem.W.Frag) : Sp := fun vs H Q _ => ∃ (tn : Nat) (ps : Addr) (x y n : V) (bx by' bn be : Bool), vs = [.int (tn : Nat), .ref ps] ∧ H ps = some (.lst [x, y, n]) ∧ Prt K H x y n bx by' bn be ∧
  ∀ r H', Same H H' → H r = none → H' r = some (.lst (fbL (fb x y n bx by' bn be))) → Q (.ref r) H'
theorem ok__law_told (T : Txt K mg) (c_staying : Cal P w K mg base 4 "staying" ["one", "other", "most"] (spStay K (errAt mg "InvalidText") (errAt mg "InvalidCount")))
    (c_staying_v : CalW P w K mg base 4 "staying" ["one", "other", "most"] ["most", "one", "other"] (fun {α} (l : List α) => rot3 l) (spStay K (errAt mg "InvalidText") (errAt mg "InvalidCount"))) :
    Cal P w K mg base 5 "_law_told" ["turn", "parts"] (spTold K) := by
  refine cal0 T.d__law_told sc__law_told (by rintro vs H Q E ⟨tn, ps, x, y, n, bx, by', bn, be, rfl, _⟩; rfl) (fun cdv f A outer s H vs Q E hr hgd h => ?_)
  obtain ⟨tn, ps, x, y, n, bx, by', bn, be, rfl, hp, D, q⟩ := h
  refine ⟨_, (pss_one (ps_named K rfl rfl rfl sc__law_told.nd takes0 (fun W pn xe tk po => (pss_cons (ps_if (pt_cmpR (kEq K rfl hr) (pv 0) pe_int (nomark _)) (pss_one (ps_expr (pe_g c_staying hr (by decide) hgd (by rfl) (passAt tk) (pa_cons (pe_ix (kIx K rfl) (pv 1) pe_int (fun _ _ => rfl)) (pa_cons (pe_ix (kIx K rfl) (pv 1) pe_int (fun _ _ => rfl)) (pa_cons (pe_ix (kIx K rfl) (pv 1) pe_int (fun _ _ => rfl)) pa_nil)))))) (pss_one (ps_expr (pe_gw c_staying_v hr (by decide) hgd (by rfl) (passAt tk) (pk_cons (pe_ix (kIx K rfl) (pv 1) pe_int (fun _ _ => rfl)) (pk_cons (pe_ix (kIx K rfl) (pv 1) pe_int (fun _ _ => rfl)) (pk_cons (pe_ix (kIx K rfl) (pv 1) pe_int (fun _ _ => rfl)) pk_nil))) hl_staying_v))))
  (pss_one (ps_ret (pe_lst pa_nil))))) (.cons (i := 2) (names_errA mg T.x_InvalidText rfl (by rfl)) rfl rfl (fun a oe cls d pn hz hf => (pss_one (ps_ret (pe_lst (pa_cons (pe_tx [116, 101, 120, 116] (by decide +kernel)) (pa_cons (pe_givA mg T.x_InvalidText rfl hz hf (pv 2)) pa_nil)))))) (.cons (i := 2) (names_errA mg T.x_InvalidCount rfl (by rfl)) rfl rfl (fun a oe cls d pn hz hf => (pss_one (ps_ret (pe_lst (pa_cons (pe_tx [99, 111, 117, 110, 116] (by decide +kernel)) (pa_cons (pe_givA mg T.x_InvalidCount rfl hz hf (pv 2)) pa_nil)))))) (.nil))))), ?_⟩
  walk_at "v0"
  refine w_named ?_
  try dsimp only []
  walk_at "v"
  refine w_if (fun h => ?_) (fun h => ?_)
  · walk_at "v"
    refine ⟨x, y, n, bx, by', bn, rfl, D.hx, D.hy, D.hn, fun e => ?_, fun e1 e2 => ?_, fun e1 e2 => ?_⟩
    · intro H1 d s1 h1
      dsimp only [WE]
      refine wNamed_of T.x_InvalidText.te (fun a ha => ?_)
      dsimp only [unD]
      simp only [List.set_cons_zero, List.set_cons_succ]
      walk_at "v"
      refine w_giv rfl h1 ?_
      walk_at "v"
      refine ⟨by walk_at "sz", fun r hr => ?_⟩
      walk_at "v"
      refine q r _ (Same.new s1 hr) (none_same s1 hr) ?_
      rw [upd_same, e]
      rfl
    · intro H1 d s1 h1
      dsimp only [WE]
      refine wNamed_of T.x_InvalidText.te (fun a ha => ?_)
      dsimp only [unD]
      simp only [List.set_cons_zero, List.set_cons_succ]
      walk_at "v"
      refine w_giv rfl h1 ?_
      walk_at "v"
      refine ⟨by walk_at "sz", fun r hr => ?_⟩
      walk_at "v"
      refine q r _ (Same.new s1 hr) (none_same s1 hr) ?_
      rw [upd_same, e1, e2]
      rfl
    · obtain ⟨u, v, hu, hv, zu, zv, hbe⟩ := D.g e1 e2
      refine ⟨u, v, hu, hv, zu, zv, fun hem => ?_, fun hne => ⟨fun hb => ?_, fun hb => ?_⟩⟩
      · have hbe : be = true := by rw [hbe]; exact decide_eq_true hem
        intro H1 d s1 h1
        dsimp only [WE]
        refine wNamed_of T.x_InvalidText.te (fun a ha => ?_)
        dsimp only [unD]
        simp only [List.set_cons_zero, List.set_cons_succ]
        walk_at "v"
        refine w_giv rfl h1 ?_
        walk_at "v"
        refine ⟨by walk_at "sz", fun r hr => ?_⟩
        walk_at "v"
        refine q r _ (Same.new s1 hr) (none_same s1 hr) ?_
        rw [upd_same, e1, e2, hbe]
        rfl
      · have hbe : be = false := by rw [hbe]; exact decide_eq_false hne
        intro H1 d s1 h1
        dsimp only [WE]
        refine wNamed_on T.o_InvalidCount_InvalidText (wNamed_of T.x_InvalidCount.te (fun a ha => ?_))
        dsimp only [unD]
        simp only [List.set_cons_zero, List.set_cons_succ]
        walk_at "v"
        refine w_giv rfl h1 ?_
        walk_at "v"
        refine ⟨by walk_at "sz", fun r hr => ?_⟩
        walk_at "v"
        refine q r _ (Same.new s1 hr) (none_same s1 hr) ?_
        rw [upd_same, e1, e2, hbe, hb]
        rfl
      · have hbe : be = false := by rw [hbe]; exact decide_eq_false hne
        obtain ⟨hh, rfl, zh⟩ := D.gn hb
        refine ⟨hh, rfl, zh, fun r1 vs1 H1 s1 _ _ _ => ?_⟩
        walk_at "v"
        refine ⟨by walk_at "sz", fun r hr => ?_⟩
        walk_at "v"
        refine q r _ (Same.new s1 hr) (none_same s1 hr) ?_
        rw [upd_same, e1, e2, hbe, hb]
        rfl
  · walk_at "v"
    refine w_callW ?_
    walk_at "v"
    refine ⟨rfl, ?_⟩
    refine ⟨x, y, n, bx, by', bn, rfl, D.hx, D.hy, D.hn, fun e => ?_, fun e1 e2 => ?_, fun e1 e2 => ?_⟩
    · intro H1 d s1 h1
      dsimp only [WE]
      refine wNamed_of T.x_InvalidText.te (fun a ha => ?_)
      dsimp only [unD]
      simp only [List.set_cons_zero, List.set_cons_succ]
      walk_at "v"
      refine w_giv rfl h1 ?_
      walk_at "v"
      refine ⟨by walk_at "sz", fun r hr => ?_⟩
      walk_at "v"
      refine q r _ (Same.new s1 hr) (none_same s1 hr) ?_
      rw [upd_same, e]
      rfl
    · intro H1 d s1 h1
      dsimp only [WE]
      refine wNamed_of T.x_InvalidText.te (fun a ha => ?_)
      dsimp only [unD]
      simp only [List.set_cons_zero, List.set_cons_succ]
      walk_at "v"
      refine w_giv rfl h1 ?_
      walk_at "v"
      refine ⟨by walk_at "sz", fun r hr => ?_⟩
      walk_at "v"
      refine q r _ (Same.new s1 hr) (none_same s1 hr) ?_
      rw [upd_same, e1, e2]
      rfl
    · obtain ⟨u, v, hu, hv, zu, zv, hbe⟩ := D.g e1 e2
      refine ⟨u, v, hu, hv, zu, zv, fun hem => ?_, fun hne => ⟨fun hb => ?_, fun hb => ?_⟩⟩
      · have hbe : be = true := by rw [hbe]; exact decide_eq_true hem
        intro H1 d s1 h1
        dsimp only [WE]
        refine wNamed_of T.x_InvalidText.te (fun a ha => ?_)
        dsimp only [unD]
        simp only [List.set_cons_zero, List.set_cons_succ]
        walk_at "v"
        refine w_giv rfl h1 ?_
        walk_at "v"
        refine ⟨by walk_at "sz", fun r hr => ?_⟩
        walk_at "v"
        refine q r _ (Same.new s1 hr) (none_same s1 hr) ?_
        rw [upd_same, e1, e2, hbe]
        rfl
      · have hbe : be = false := by rw [hbe]; exact decide_eq_false hne
        intro H1 d s1 h1
        dsimp only [WE]
        refine wNamed_on T.o_InvalidCount_InvalidText (wNamed_of T.x_InvalidCount.te (fun a ha => ?_))
        dsimp only [unD]
        simp only [List.set_cons_zero, List.set_cons_succ]
        walk_at "v"
        refine w_giv rfl h1 ?_
        walk_at "v"
        refine ⟨by walk_at "sz", fun r hr => ?_⟩
        walk_at "v"
        refine q r _ (Same.new s1 hr) (none_same s1 hr) ?_
        rw [upd_same, e1, e2, hbe, hb]
        rfl
      · have hbe : be = false := by rw [hbe]; exact decide_eq_false hne
        obtain ⟨hh, rfl, zh⟩ := D.gn hb
        refine ⟨hh, rfl, zh, fun r1 vs1 H1 s1 _ _ _ => ?_⟩
        walk_at "v"
        refine ⟨by walk_at "sz", fun r hr => ?_⟩
        walk_at "v"
        refine q r _ (Same.new s1 hr) (none_same s1 hr) ?_
        rw [upd_same, e1, e2, hbe, hb]
        rfl
theorem ok__law_copy (T : Txt K mg) : Cal P w K mg base 1 "_law_copy" ["value"] (spCopy K) := by
  refine cal0 T.d__law_copy sc__law_copy (by rintro vs H Q E ⟨v, rfl, _⟩; rfl) (fun cdv f A outer s H vs Q E hr hgd h => ?_)
  obtain ⟨v, rfl, h⟩ := h
  refine ⟨_, (pss_one (ps_ret (pe_ifExp (pt_val (pe_callB (kIsi K rfl) (by rfl) T.n_isinstance (by decide +kernel) (pa_cons (pv 0) (pa_cons (pe_bltn (v := .ty "list") (by rfl) T.n_list (by decide +kernel) rfl) pa_nil)))) (pe_callTy (kList K rfl) (by rfl) T.n_list (by decide +kernel) (pa_cons (pv 0) pa_nil)) (pv 0)))), ?_⟩
  walk_at "v0"
  rcases h with ⟨t, ht, hk, hn, q⟩ | ⟨a, xs, rfl, ha, q⟩
  · refine w_isiK ht hk (.inr (.inr (.inr (.inl rfl)))) ?_
    have en : (t == "list" || (t == "bool" && "list" == "int")) = false := by simp [hn]
    rw [en]
    walk_at "v"
    exact q
  · refine w_isiL ha ?_ (by decide)
    walk_at "v"
    refine w_listL (SqL.of ha) fun r hr => ?_
    exact q r _ (same_new hr) hr upd_same
def spRef (K : PySem.W.Frag) : Sp := fun vs H Q _ => ∃ (tn : Nat) (ps : Addr) (x y n v : V) (bx by' bn be : Bool) (wd : List Nat) (pl : Nat), vs = [.int (tn : Nat), .ref ps, .str (tx wd), .int (pl : Nat)] ∧ H ps = some (.lst [x, y, n]) ∧ Prt K H x y n bx by' bn be ∧ [x, y, n][pl]? = some v ∧ fb x y n bx by' bn be = some (wd, v) ∧
  ((∃ d, Dv H v d ∧ Sm 500 5 d ∧ (kindD d == "list") = false ∧ ∀ H', Same H H' → Q (.bl true) H') ∨
   (∃ r xs ds, v = .ref r ∧ r ≠ ps ∧ H r = some (.lst xs) ∧ DvAll H xs ds ∧ Sm 500 5 (.list ds) ∧ 0 < ds.length ∧ ds.length ≤ 10 ∧ ∀ H', SL.Fr r H H' → Q (.bl true) H'))
theorem ok__law_refuses (T : Txt K mg) (c__law_told : Cal P w K mg base 5 "_law_told" ["turn", "parts"] (spTold K)) : Cal P w K mg base 6 "_law_refuses" ["turn", "parts", "kind", "place"] (spRef K) := by
  refine cal0 T.d__law_refuses sc__law_refuses (by rintro vs H Q E ⟨tn, ps, x, y, n, v, bx, by', bn, be, wd, pl, rfl, _⟩; rfl) (fun cdv f A outer s H vs Q E hr hgd h => ?_)
  obtain ⟨tn, ps, x, y, n, v, bx, by', bn, be, wd, pl, rfl, hp, D, hv, hfb, hq⟩ := h
  refine ⟨_, (pss_cons (ps_par (i := 5) (j := 6) (by rfl) sc__law_refuses.nd rfl rfl (by decide) rfl rfl (pa_cons (pe_callB (kReprD K rfl hr hgd) (by rfl) T.n_repr (by decide +kernel) (pa_cons (pe_ix (kIx K rfl) (pv 1) (pv 3) (fun _ _ => rfl)) pa_nil)) (pa_cons (pe_ifExp (pt_val (pe_callB (kIsi K rfl) (by rfl) T.n_isinstance (by decide +kernel) (pa_cons (pe_ix (kIx K rfl) (pv 1) (pv 3) (fun _ _ => rfl)) (pa_cons (pe_bltn (v := .ty "list") (by rfl) T.n_list (by decide +kernel) rfl) pa_nil)))) (pe_callB (kLen K rfl) (by rfl) T.n_len (by decide +kernel) (pa_cons (pe_ix (kIx K rfl) (pv 1) (pv 3) (fun _ _ => rfl)) pa_nil)) pe_int) pa_nil)) (by rfl))
  (pss_cons (ps_set (i := 4) sc__law_refuses.nd rfl (by first | exact Or.inl rfl | exact Or.inr rfl) (pe_g c__law_told hr (by decide) hgd (by rfl) noX (pa_cons (pv 0) (pa_cons (pv 1) pa_nil))))
  (pss_cons (ps_if (PW.pt (pw_or (pt_cmpR (kNe K rfl hr) (pe_callB (kLen K rfl) (by rfl) T.n_len (by decide +kernel) (pa_cons (pv 4) pa_nil)) pe_int (nomark _)) (pw_or (pt_cmpR (kNe K rfl hr) (pe_ix (kIx K rfl) (pv 4) pe_int (fun _ _ => rfl)) (pv 2) (nomark _)) (pw_or1 (pt_cmpR (kNe K rfl hr) (pe_callB (kReprD K rfl hr hgd) (by rfl) T.n_repr (by decide +kernel) (pa_cons (pe_ix (kIx K rfl) (pv 4) pe_int (fun _ _ => rfl)) pa_nil)) (pv 5) (nomark _)))))) (pss_one (ps_ret pe_bl)) pss_nil)
  (pss_cons (ps_if (pt_cmpR (kEq K rfl hr) (pv 6) pe_int (nomark _)) (pss_one (ps_ret pe_bl)) pss_nil)
  (pss_cons (ps_if (pt_not (pt_val (pe_callB (kIsi K rfl) (by rfl) T.n_isinstance (by decide +kernel) (pa_cons (pe_ix (kIx K rfl) (pv 4) pe_int (fun _ _ => rfl)) (pa_cons (pe_bltn (v := .ty "list") (by rfl) T.n_list (by decide +kernel) rfl) pa_nil))))) (pss_one (ps_ret pe_bl)) pss_nil)
  (pss_cons (ps_expr (kBm K rfl PySem.F.plainAttrs_list PySem.F.slot_list_append PySem.F.type_list_append mt_append (pe_ix (kIx K rfl) (pv 4) pe_int (fun _ _ => rfl)) (pa_cons (pv 0) pa_nil)))
  (pss_one (ps_ret (pe_and (pe_cmpR (kEq K rfl hr) (pe_callB (kLen K rfl) (by rfl) T.n_len (by decide +kernel) (pa_cons (pe_ix (kIx K rfl) (pv 1) (pv 3) (fun _ _ => rfl)) pa_nil)) (pe_op (kAdd K rfl) (pv 6) pe_int) (nomark _)) (pe_one (pe_cmpR (kEq K rfl hr) (pe_ix (kIx K rfl) (pe_ix (kIx K rfl) (pv 1) (pv 3) (fun _ _ => rfl)) (pe_un un_neg pe_int) (fun _ _ => rfl)) (pv 0) (nomark _)))))))))))), ?_⟩
  rcases hq with ⟨d, k1, k2, k3, q⟩ | ⟨r0, xs, ds, rfl, nps, k1, k2, k3, z1, z2, q⟩
  · have sh := k1.shown (K := K) k2.okD
    walk_at "v0"
    refine w_reprD sh ?_
    walk_at "v"
    refine w_isiK k1.ty (kind_ok d) (.inr (.inr (.inr (.inl rfl)))) ?_
    have en : (kindD d == "list" || (kindD d == "bool" && "list" == "int")) = false := by rw [k3]; simp
    rw [en]
    walk_at "v"
    refine ⟨tn, ps, x, y, n, bx, by', bn, be, rfl, hp, D, fun r H1 s1 n1 h1 => ?_⟩
    rw [hfb] at h1
    have h1 : H1 r = some (.lst [.str (tx wd), v]) := h1
    walk_at "v"
    refine w_ifF (by simp) ?_
    walk_at "v"
    refine w_reprD ((Dv.mono s1 d v k1).shown k2.okD) ?_
    walk_at "v"
    refine w_ifF (by simp) ?_
    walk_at "v"
    exact q _ s1
  · have kd : Dv H (.ref r0) (.list ds) := .lst k1 k2
    have sh := kd.shown (K := K) k3.okD
    have zx := k2.len
    walk_at "v0"
    refine w_reprD sh ?_
    walk_at "v"
    refine w_isiL k1 ?_ (by decide)
    walk_at "v"
    refine ⟨tn, ps, x, y, n, bx, by', bn, be, rfl, hp, D, fun r H1 s1 n1 h1 => ?_⟩
    rw [hfb] at h1
    have h1 : H1 r = some (.lst [.str (tx wd), .ref r0]) := h1
    have nr0 : r ≠ r0 := Ne.symm (ne_of_none k1 n1)
    have k12 := s1 _ _ k1
    have hp2 := s1 _ _ hp
    walk_at "v"
    refine w_ifF (by simp) ?_
    walk_at "v"
    refine w_reprD ((Dv.mono s1 _ _ kd).shown k3.okD) ?_
    walk_at "v"
    refine w_ifF (by simp) ?_
    walk_at "v"
    refine w_ifF (by simp; intro h; rw [h] at zx; simp at zx; omega) ?_
    walk_at "v"
    refine w_isiL k12 ?_ (by decide)
    have za : xs.length < 100 := by omega
    walk_at "v"
    have hp3 := (upd_ne (o := .lst (xs ++ [.int (tn : Int)])) (Ne.symm nps)).trans hp2
    have il : atI (xs ++ [V.int (tn : Int)]) (-1) = some (.int (tn : Int)) := atI_last (by simp)
    have ec : (((xs ++ [V.int (tn : Int)]).length : Nat) : Int) = (xs.length : Int) + 1 := by rw [List.length_append]; rfl
    walk_at "v"
    refine w_ifT (decide_eq_true ec) ?_
    walk_at "v"
    rw [decide_eq_true rfl]
    exact q _ (Fr.put (Fr.of s1))
end
end K12
set_option Elab.async false
set_option linter.all false
set_option maxRecDepth 100000
set_option maxHeartbeats 4000000
namespace K12
open PySem PySem.Spec PyProof.Rows L2 SL Rt Wd
local macro_rules | `(tactic| walk_at "sz") => `(tactic| first
  | assumption
  | omega
  | (simp only [List.length_cons, List.length_nil, List.length_append, List.length_map, List.length_take, List.length_drop, List.length_reverse, List.length_replicate, List.length_range, tx_len, sizeLine_eq, CMul, CDiv, Nat.reduceAdd, Nat.reduceLeDiff]; first | done | omega)
  | decide)
local macro_rules | `(tactic| walk_at "ne") => `(tactic| first
  | assumption
  | exact Ne.symm (by assumption)
  | (refine ne_of_none (H := ?H0) (o := ?oo) ?hh ?hn; (case hn => assumption); (case hh => walk_at "hget"))
  | (refine Ne.symm (ne_of_none (H := ?H0) (o := ?oo) ?hh ?hn); (case hn => assumption); (case hh => walk_at "hget")))
local macro_rules | `(tactic| walk_at "hget") => `(tactic| first
  | assumption
  | exact upd_same
  | (refine (upd_ne ?n).trans ?g; (case n => walk_at "ne"); (case g => walk_at "hget"))
  | (refine fr_get (p := ?pp) (H := ?H0) ?f ?g ?n; (case f => assumption); (case g => walk_at "hget"); (case n => walk_at "ne"))
  | (refine same_get (H := ?H0) ?f ?g; (case f => assumption); (case g => walk_at "hget")))
local macro_rules | `(tactic| walk_at "vget") => `(tactic| first
  | assumption
  | (refine SqL.of ?g; (case g => walk_at "hget"))
  | (refine SqT.of ?g; (case g => walk_at "hget"))
  | (refine sql_new ?n ?g; (case n => assumption); (case g => walk_at "vget"))
  | (refine sqt_new ?n ?g; (case n => assumption); (case g => walk_at "vget"))
  | (refine sql_upd ?n ?g; (case n => walk_at "ne"); (case g => walk_at "vget"))
  | (refine sqt_upd ?n ?g; (case n => walk_at "ne"); (case g => walk_at "vget"))
  | (refine Same.seq (H := ?H0) ?f ?g; (case f => assumption); (case g => walk_at "vget"))
  | (refine Same.seqT (H := ?H0) ?f ?g; (case f => assumption); (case g => walk_at "vget"))
  | (refine fr_sql (b := ?pp) (H := ?H0) ?f ?g ?n; (case f => assumption); (case g => walk_at "vget"); (case n => walk_at "ne"))
  | (refine fr_sqt (b := ?pp) (H := ?H0) ?f ?g ?n; (case f => assumption); (case g => walk_at "vget"); (case n => walk_at "ne")))
local macro_rules | `(tactic| walk_at "at") => `(tactic| first
  | assumption
  | rfl
  | (refine atI_n ?h; (case h => first | assumption | rfl))
  | (refine atI_i ?h0 ?h; (case h0 => omega); (case h => first | assumption | rfl)))
local macro_rules | `(tactic| walk_at "v1") => `(tactic| first
  | with_reducible refine w_seq ?_
  | with_reducible refine w_enx ?_
  | with_reducible refine w_ert ?_
  | with_reducible refine w_asg ?_
  | ((with_reducible refine w_var (v := ?vv) ?h ?_); (case h => exact rfl))
  | with_reducible refine w_op ?_
  | with_reducible refine w_c ?_
  | with_reducible refine w_cons ?_
  | with_reducible refine w_nil ?_
  | with_reducible refine w_cb ?_
  | with_reducible refine w_call ?_
  | with_reducible refine w_k ?_
  | with_reducible refine w_i ?_
  | with_reducible refine w_two ?_
  | ((with_reducible refine w_name ?_); (try simp only [List.set_cons_zero, List.set_cons_succ]))
  | with_reducible refine w_ifS ?_
  | with_reducible refine w_ret ?_
  | with_reducible refine w_drop ?_
  | with_reducible refine w_test ?_
  | with_reducible refine w_B ?_
  | with_reducible refine iteT ?_
  | with_reducible refine iteF ?_
  | with_reducible refine w_same ?_
  | ((with_reducible refine w_ifT ?h ?_); (case h => first | rfl | assumption))
  | ((with_reducible refine w_ifF ?h ?_); (case h => first | rfl | assumption))
  | ((with_reducible refine w_diff ?_ ?h); (case h => decide +kernel))
  | ((with_reducible refine w_wp ?h ?_); (case h => rfl); (try simp only [wipe, List.set_cons_zero, List.set_cons_succ, List.foldl_cons, List.foldl_nil]))
  | ((with_reducible refine w_acc (acc := ?aa) ?h ?_ ?z); (case h => walk_at "hget"); (case z => walk_at "sz"))
  | with_reducible refine w_addI ?_
  | with_reducible refine w_subI ?_
  | with_reducible refine w_lt ?_
  | with_reducible refine w_le ?_
  | with_reducible refine w_gt ?_
  | with_reducible refine w_ge ?_
  | with_reducible refine w_eqI ?_
  | with_reducible refine w_neI ?_
  | with_reducible refine w_eqS ?_
  | with_reducible refine w_neS ?_
  | with_reducible refine w_neB ?_
  | ((with_reducible refine w_mulI ?_ ?h); (case h => walk_at "sz"))
  | ((with_reducible refine w_divI ?_ ?h); (case h => walk_at "sz"))
  | ((with_reducible refine w_addS ?_ ?h); (case h => walk_at "sz"))
  | ((with_reducible refine w_mulS ?_ ?h); (case h => walk_at "sz"))
  | ((with_reducible refine w_ixL (xs := ?xx) (v := ?vv) ?h ?i ?_); (case h => walk_at "vget"); (case i => walk_at "at"))
  | ((with_reducible refine w_ixT (xs := ?xx) (v := ?vv) ?h ?i ?_); (case h => walk_at "vget"); (case i => walk_at "at"))
  | ((with_reducible refine w_ixS (c := ?cc) ?i ?_ ?h); (case i => walk_at "at"); (case h => walk_at "sz"))
  | ((with_reducible refine w_lenS' ?_ ?h); (case h => walk_at "sz"))
  | ((with_reducible refine w_lenL' (xs := ?xx) ?h ?_); (case h => walk_at "vget"))
  | ((with_reducible refine w_lenT' (xs := ?xx) ?h ?_); (case h => walk_at "vget"))
  | with_reducible refine w_isnN ?_
  | with_reducible refine w_isnI ?_
  | with_reducible refine w_isnS ?_
  | with_reducible refine w_isnR ?_
  | with_reducible refine w_isnB ?_
  | with_reducible refine w_isoN ?_
  | with_reducible refine w_isoI ?_
  | with_reducible refine w_isoS ?_
  | with_reducible refine w_isoR ?_
  | with_reducible refine w_isoB ?_
  | with_reducible refine w_abs ?_
  | with_reducible refine w_int ?_
  | with_reducible refine w_intB ?_
  | with_reducible refine w_min2 ?_
  | with_reducible refine w_max2 ?_
  | with_reducible refine w_min3 ?_
  | with_reducible refine w_sl ?_
  | with_reducible refine w_np ?_
  | with_reducible refine w_part ?_
  | ((with_reducible refine w_sStN ?_ ?h); (case h => walk_at "sz"))
  | ((with_reducible refine w_sSfN ?_ ?h); (case h => walk_at "sz"))
  | ((with_reducible refine w_sSt ?_ ?h); (case h => walk_at "sz"))
  | ((with_reducible refine w_sSf ?_ ?h); (case h => walk_at "sz"))
  | with_reducible refine w_and ?_
  | with_reducible refine w_or ?_
  | with_reducible refine w_not ?_
  | with_reducible refine w_andV ?_
  | with_reducible refine w_orV ?_
  | with_reducible refine w_notV ?_
  | with_reducible refine w_ifE ?_
  | with_reducible refine w_tup ?_
  | with_reducible refine w_lst ?_
  | with_reducible refine w_chain ?_
  | ((with_reducible refine w_par ?_); (try simp only [List.set_cons_zero, List.set_cons_succ]))
  | ((with_reducible refine w_par3 ?_); (try simp only [List.set_cons_zero, List.set_cons_succ]))
  | with_reducible refine w_three ?_
  | with_reducible refine w_un ?_
  | with_reducible refine w_neg ?_
  | with_reducible refine w_next ?_
  | with_reducible refine w_ebk ?_
  | with_reducible refine w_ect ?_
  | with_reducible refine w_for ?_
  | with_reducible refine w_lc ?_
  | with_reducible refine w_yes ?_
  | with_reducible refine w_il ?_
  | with_reducible refine w_it ?_
  | with_reducible refine w_isx ?_
  | with_reducible refine w_ir1 ?_
  | with_reducible refine w_ir2 ?_
  | with_reducible refine w_ies ?_
  | with_reducible refine w_ir3 ?_
  | with_reducible refine w_s1 ?_
  | with_reducible refine w_s1l ?_
  | ((with_reducible refine w_r1 ?_ ?h); (case h => walk_at "sz"))
  | ((with_reducible refine w_r2 ?_ ?h); (case h => walk_at "sz"))
  | ((with_reducible refine w_l1 (xs := ?xx) ?h ?_); (case h => walk_at "vget"))
  | ((with_reducible refine w_t1 (xs := ?xx) ?h ?_); (case h => walk_at "vget"))
  | ((with_reducible refine w_isL (xs := ?xx) ?h ?_); (case h => walk_at "vget"))
  | with_reducible refine w_isS ?_
  | ((with_reducible refine w_app (xs := ?xx) ?h ?_ ?z); (case h => walk_at "hget"); (case z => walk_at "sz"))
  | with_reducible refine w_inC ?_
  | with_reducible refine w_rev ?_
  | ((with_reducible refine w_rev1S ?_ ?h); (case h => walk_at "sz"))
  | with_reducible refine w_lrg ?_
  | with_reducible refine w_brk ?_
  | with_reducible refine w_cont ?_
  | with_reducible refine w_retN ?_
  | with_reducible refine w_bm ?_
  | with_reducible refine w_bm0 ?_
  | with_reducible refine w_m1 ?_
  | with_reducible refine w_sub ?_
  | ((with_reducible refine w_setL (xs := ?xx) (j := ?jj) ?h ?i ?_); (case h => walk_at "hget"); (case i => first | rfl | assumption); (try simp only [Int.reduceToNat, List.set_cons_zero, List.set_cons_succ]))
  | with_reducible refine w_ip ?_
  | with_reducible refine w_gnil ?_
  | with_reducible refine w_gcons ?_
  | ((with_reducible refine w_gL (xs := ?xx) ?h ?_ ?n); (case h => walk_at "vget"); (case n => rfl))
  | ((with_reducible refine w_gT (xs := ?xx) ?h ?_ ?n); (case h => walk_at "vget"); (case n => rfl))
  | ((with_reducible refine w_aug (v := ?vv) ?h ?_); (case h => exact rfl)))
local macro_rules | `(tactic| walk_at "v") => `(tactic| repeat walk_at "v1")
local macro_rules | `(tactic| walk_at "v0") => `(tactic| (simp only [L2.start, cxK, ends_rt, List.map_cons, List.map_nil, List.length_cons, List.length_nil, Nat.reduceAdd, Nat.reduceSub, List.replicate_succ, List.replicate_zero, List.append_nil, List.cons_append, List.nil_append]; walk_at "v"))
local macro_rules | `(tactic| walk_at "u1") => `(tactic| first
  | with_reducible refine w_seqA ?_
  | with_reducible refine w_seqD ?_
  | with_reducible refine w_seqP ?_
  | with_reducible refine w_seqP3 ?_
  | with_reducible refine w_seqG ?_
  | ((fail_if_success (with_reducible refine w_seq ?_)); walk_at "v1"))
local macro_rules | `(tactic| walk_at "u") => `(tactic| repeat walk_at "u1")
local macro_rules | `(tactic| walk_at "u0") => `(tactic| (simp only [L2.start, cxK, ends_rt, List.map_cons, List.map_nil, List.length_cons, List.length_nil, Nat.reduceAdd, Nat.reduceSub, List.replicate_succ, List.replicate_zero, List.append_nil, List.cons_append, List.nil_append]; walk_at "u"))
local macro_rules | `(tactic| walk_at "t1") => `(tactic| ((fail_if_success (with_reducible refine w_seq ?_)); walk_at "v1"))
local macro_rules | `(tactic| walk_at "t") => `(tactic| repeat walk_at "t1")

section
variable {P : Program} {w : World} {K : PySem.W.Frag} {mg : Str → Option Value} {base : Heap}
/-- a count, good or not, with what it is if it is good -/
def Ct (K : PySem.W.Frag) (H : Hp) (v : V) : Prop := ∃ bn, IsCt K H v bn ∧ (bn = true → ∃ h : Nat, v = .int (h : Int) ∧ h ≤ 2000)
theorem Ct.mono {H H' : Hp} {v : V} (s : Same H H') (h : Ct K H v) : Ct K H' v := by
  obtain ⟨bn, h1, h2⟩ := h
  exact ⟨bn, isct_mono s h1, h2⟩
theorem cv_ct {n k : Nat} {H0 H : Hp} {v v' : V} (h : Cv n k H0 H v v') (s : Same H0 H) (t : Ct K H0 v) : Ct K H v' := by
  rcases h with ⟨d, h1, h2, h3, rfl⟩ | ⟨r, xs, ds, rfl, h2, h3, _⟩
  · exact t.mono s
  · exact ⟨false, .inr ⟨rfl, "list", .base (.lst h3), by unfold SL.Kind; simp, by decide⟩, fun h => nomatch h⟩
theorem cv_cf {n k : Nat} {H0 H : Hp} {v v' : V} (h : Cv n k H0 H v v') (s : Same H0 H) (t : IsCt K H0 v false) : IsCt K H v' false := by
  rcases h with ⟨d, h1, h2, h3, rfl⟩ | ⟨r, xs, ds, rfl, h2, h3, _⟩
  · exact isct_mono s t
  · exact .inr ⟨rfl, "list", .base (.lst h3), by unfold SL.Kind; simp, by decide⟩
theorem refuse_w {H0 A : Hp} {v v' x y n : V} {bx by' bn be : Bool} {i j : Int} {tn pl : Nat} {wd : List Nat} {ps : Addr} {Q : VK} {E : XK} (c : Cv 500 5 H0 A v v') (s : Same H0 A) (np : A ps = none) (t : Prt K A x y n bx by' bn be) (e : i = (tn : Nat)) (e2 : j = (pl : Nat)) (hv : [x, y, n][pl]? = some v') (hfb : fb x y n bx by' bn be = some (wd, v'))
    (q : ∀ H', Same H0 H' → Q (.bl true) H') : spRef K [.int i, .ref ps, .str (tx wd), .int j] (upd A ps (.lst [x, y, n])) Q E := by
  subst e e2
  refine ⟨tn, ps, x, y, n, v', bx, by', bn, be, wd, pl, rfl, upd_same, t.mono (same_new np), hv, hfb, ?_⟩
  rcases c with ⟨d, h1, h2, h3, rfl⟩ | ⟨r, xs, ds, rfl, h2, h3, h4, h5, h6, h7⟩
  · exact .inl ⟨d, Dv.mono (s.trans (same_new np)) d _ h1, h2, h3, fun H' s' => q H' ((s.trans (same_new np)).trans s')⟩
  · refine .inr ⟨r, xs, ds, rfl, ne_of_none h3 np, same_new np _ _ h3, DvAll.mono (s.trans (same_new np)) ds xs h4, h5, h6, h7, fun H' f => q H' fun b o h => ?_⟩
    refine f b o (same_new np _ _ (s _ _ h)) fun e => ?_
    rw [e, h2] at h
    cases h
/-- a value that no copy is made of -/
theorem cv_self {H0 : Hp} {v : V} {d : PyData} (h : Dv H0 v d) (s : Sm 500 5 d) (k : (kindD d == "list") = false) : Cv 500 5 H0 H0 v v := .inl ⟨d, h, s, k, rfl⟩
def spRefR : Sp := fun vs H Q _ => ∃ (p r : Addr) (l u v : List Nat) (c : Nat), vs = [.ref p, .ref r, .str (tx u), .str (tx v)] ∧ Box H p c ∧ c ≤ 800000 ∧ H r = some (.lst (sgL l)) ∧ l.length = 2 ∧ Let l ∧ r ≠ p ∧ Let u ∧ Let v ∧ u.length ≤ 40 ∧ v.length ≤ 40 ∧ ∀ H', Box H' p (c + 50) → SL.Fr p H H' → Q (.bl true) H'
theorem ok__law_refusals_right (T : Txt K mg) (c__law_take : Cal P w K mg base 1 "_law_take" ["box", "many"] spTake) (c__law_bad_text : Cal P w K mg base 3 "_law_bad_text" ["box", "letters"] (spBadT K)) (c__law_copy : Cal P w K mg base 1 "_law_copy" ["value"] (spCopy K)) (c__law_told : Cal P w K mg base 5 "_law_told" ["turn", "parts"] (spTold K))
    (c__law_refuses : Cal P w K mg base 6 "_law_refuses" ["turn", "parts", "kind", "place"] (spRef K)) : Cal P w K mg base 7 "_law_refusals_right" ["box", "letters", "left", "right"] spRefR := by
  refine cal0 T.d__law_refusals_right sc__law_refusals_right (by rintro vs H Q E ⟨p, r, l, u, v, c, rfl, _⟩; rfl) (fun cdv f A outer s H vs Q E hr hgd h => ?_)
  obtain ⟨p, r, l, u, v, c, rfl, hb, hc, hl, z2, ll, nrp, lu, lv, zu, zv, q⟩ := h
  refine ⟨_, (pss_cons (ps_par3 (i := 6) (j := 7) (l := 8) (by rfl) sc__law_refusals_right.nd rfl rfl rfl (by decide) (by decide) (by decide) rfl rfl rfl (pa_cons (pe_op (kAdd K rfl) (pv 2) (pe_ix (kIx K rfl) (pv 1) pe_int (fun _ _ => rfl))) (pa_cons (pe_g c__law_bad_text hr (by decide) hgd (by rfl) noX (pa_cons (pv 0) (pa_cons (pv 1) pa_nil))) (pa_cons (pe_g c__law_bad_text hr (by decide) hgd (by rfl) noX (pa_cons (pv 0) (pa_cons (pv 1) pa_nil))) pa_nil))) (by rfl))
  (pss_cons (ps_set (i := 4) sc__law_refusals_right.nd rfl (by first | exact Or.inl rfl | exact Or.inr rfl) (pe_ix (kIx K rfl) (pe_lst (pa_cons (pe_un un_neg pe_int) (pa_cons pe_bl (pa_cons pe_non (pa_cons (pe_tx [51] (by decide +kernel)) (pa_cons (pe_lst (pa_cons pe_int pa_nil)) (pa_cons (pe_op uSub (pe_op uSub pe_int pe_int) (pe_g c__law_take hr (by decide) hgd (by rfl) noX (pa_cons (pv 0) (pa_cons pe_int pa_nil)))) pa_nil))))))) (pe_g c__law_take hr (by decide) hgd (by rfl) noX (pa_cons (pv 0) (pa_cons pe_int pa_nil))) (fun _ _ => rfl)))
  (pss_cons (ps_for PassesOwn.never rfl (pi_range1 (by rfl) T.n_range (pa_cons pe_int pa_nil)) (pg_name (i := 5) sc__law_refusals_right.nd rfl (by first | exact Or.inl rfl | exact Or.inr rfl))
  (pss_cons (ps_for PassesOwn.never rfl (kiList K rfl (pe_lst (pa_cons (pe_g c__law_take hr (by decide) hgd (by rfl) noX (pa_cons (pv 0) (pa_cons pe_int pa_nil))) (pa_cons (pv 4) pa_nil)))) (pg_name (i := 9) sc__law_refusals_right.nd rfl (by first | exact Or.inl rfl | exact Or.inr rfl))
  (pss_cons (ps_if (pt_not (pt_val (pe_g c__law_refuses hr (by decide) hgd (by rfl) noX (pa_cons (pv 5) (pa_cons (pe_lst (pa_cons (pe_g c__law_copy hr (by decide) hgd (by rfl) noX (pa_cons (pv 7) pa_nil)) (pa_cons (pe_g c__law_copy hr (by decide) hgd (by rfl) noX (pa_cons (pv 8) pa_nil)) (pa_cons (pe_g c__law_copy hr (by decide) hgd (by rfl) noX (pa_cons (pv 9) pa_nil)) pa_nil)))) (pa_cons (pe_tx [116, 101, 120, 116] (by decide +kernel)) (pa_cons pe_int pa_nil))))))) (pss_one (ps_ret pe_bl)) pss_nil)
  (pss_cons (ps_if (pt_not (pt_val (pe_g c__law_refuses hr (by decide) hgd (by rfl) noX (pa_cons (pv 5) (pa_cons (pe_lst (pa_cons (pe_g c__law_copy hr (by decide) hgd (by rfl) noX (pa_cons (pv 7) pa_nil)) (pa_cons (pv 6) (pa_cons (pe_g c__law_copy hr (by decide) hgd (by rfl) noX (pa_cons (pv 9) pa_nil)) pa_nil)))) (pa_cons (pe_tx [116, 101, 120, 116] (by decide +kernel)) (pa_cons pe_int pa_nil))))))) (pss_one (ps_ret pe_bl)) pss_nil)
  (pss_cons (ps_if (pt_not (pt_val (pe_g c__law_refuses hr (by decide) hgd (by rfl) noX (pa_cons (pv 5) (pa_cons (pe_lst (pa_cons (pv 6) (pa_cons (pe_g c__law_copy hr (by decide) hgd (by rfl) noX (pa_cons (pv 8) pa_nil)) (pa_cons (pe_g c__law_copy hr (by decide) hgd (by rfl) noX (pa_cons (pv 9) pa_nil)) pa_nil)))) (pa_cons (pe_tx [116, 101, 120, 116] (by decide +kernel)) (pa_cons pe_int pa_nil))))))) (pss_one (ps_ret pe_bl)) pss_nil)
  (pss_one (ps_if (pt_not (pt_val (pe_g c__law_refuses hr (by decide) hgd (by rfl) noX (pa_cons (pv 5) (pa_cons (pe_lst (pa_cons (pe_tx [] (by decide +kernel)) (pa_cons (pe_tx [] (by decide +kernel)) (pa_cons (pe_g c__law_copy hr (by decide) hgd (by rfl) noX (pa_cons (pv 9) pa_nil)) pa_nil)))) (pa_cons (pe_tx [116, 101, 120, 116] (by decide +kernel)) (pa_cons pe_int pa_nil))))))) (pss_one (ps_ret pe_bl)) pss_nil))))))
  (pss_cons (ps_if (pt_not (pt_val (pe_g c__law_refuses hr (by decide) hgd (by rfl) noX (pa_cons (pv 5) (pa_cons (pe_lst (pa_cons (pe_tx [] (by decide +kernel)) (pa_cons (pe_g c__law_copy hr (by decide) hgd (by rfl) noX (pa_cons (pv 8) pa_nil)) (pa_cons pe_int pa_nil)))) (pa_cons (pe_tx [116, 101, 120, 116] (by decide +kernel)) (pa_cons pe_int pa_nil))))))) (pss_one (ps_ret pe_bl)) pss_nil)
  (pss_cons (ps_if (pt_not (pt_val (pe_g c__law_refuses hr (by decide) hgd (by rfl) noX (pa_cons (pv 5) (pa_cons (pe_lst (pa_cons (pv 6) (pa_cons (pv 3) (pa_cons (pe_g c__law_copy hr (by decide) hgd (by rfl) noX (pa_cons (pv 4) pa_nil)) pa_nil)))) (pa_cons (pe_tx [99, 111, 117, 110, 116] (by decide +kernel)) (pa_cons pe_int pa_nil))))))) (pss_one (ps_ret pe_bl)) pss_nil)
  (pss_one (ps_if (PW.pt (pw_or (pt_cmpR (kNe K rfl hr) (pe_g c__law_told hr (by decide) hgd (by rfl) noX (pa_cons (pv 5) (pa_cons (pe_lst (pa_cons (pv 6) (pa_cons (pe_tx [] (by decide +kernel)) (pa_cons pe_int pa_nil)))) pa_nil))) (pe_lst pa_nil) (nomark _)) (pw_or1 (pt_cmpR (kNe K rfl hr) (pe_g c__law_told hr (by decide) hgd (by rfl) noX (pa_cons (pv 5) (pa_cons (pe_lst (pa_cons (pe_tx [] (by decide +kernel)) (pa_cons (pv 6) (pa_cons pe_int pa_nil)))) pa_nil))) (pe_lst pa_nil) (nomark _))))) (pss_one (ps_ret pe_bl)) pss_nil))))))
  (pss_one (ps_ret pe_bl))))), ?_⟩
  obtain ⟨g, hg⟩ := ex_get (l := l) (k := 0) (by omega)
  have hg' : atI (sgL l) 0 = some (.str (tx [g])) := atI_n (n := 0) (sg_at hg)
  have lw : Let (u ++ [g]) := lu.app (ll.one hg)
  have zw : (u ++ [g]).length ≤ 41 ∧ u ++ [g] ≠ [] := ⟨by rw [List.length_append]; simp; omega, by simp⟩
  walk_at "v0"
  refine ⟨p, r, l, _, rfl, hb, by omega, hl, z2, ll, nrp, fun v1 H1 b1 f1 t1 o1 => ?_⟩
  have hl1 := f1 _ _ hl nrp
  walk_at "v"
  refine ⟨p, r, l, _, rfl, b1, by omega, hl1, z2, ll, nrp, fun v2 H2 b2 f2 t2 o2 => ?_⟩
  obtain ⟨wd, hwd⟩ : ∃ wd, wd = u ++ [g] := ⟨_, rfl⟩
  rw [← hwd] at lw zw
  rw [← hwd]
  walk_at "v"
  refine ⟨by walk_at "sz", fun e1 n1 => ?_⟩
  have p1 := b2.ne n1
  have B1 := b2.upd (o := .lst [.int 3]) p1
  walk_at "v"
  refine take_w (N := 99) rfl B1 (by omega) fun k9 H3 hk9 b3 f3 => ?_
  have g1 := f3 _ _ upd_same (Ne.symm p1)
  walk_at "v"
  refine ⟨by walk_at "sz", fun e2 n2 => ?_⟩
  have p2 := b3.ne n2
  have B2 := b3.upd (o := .lst [.int (-1), .bl true, .non, .str (tx [51]), .ref e1, .int (0 - 1 - (k9 : Int))]) p2
  walk_at "v"
  refine take_w (N := 6) rfl B2 (by omega) fun k6 H0 hk6 b0 f0 => ?_
  have g2 := f0 _ _ upd_same (Ne.symm p2)
  have g1 := f0 _ _ ((same_new n2) _ _ g1) (Ne.symm p1)
  have F20 : SL.Fr p H2 H0 := (((SL.Fr.refl p H2).new n1 b2.has (o := .lst [.int 3])).trans f3).trans (((SL.Fr.refl p H3).new n2 b3.has (o := .lst [.int (-1), .bl true, .non, .str (tx [51]), .ref e1, .int (0 - 1 - (k9 : Int))])).trans f0)
  have F0 := f1.trans (f2.trans F20)
  have i1 : e1 ∉ [p] := by simpa using Ne.symm p1
  have smi : Sm 500 5 (.int (0 - 1 - (k9 : Int))) := by
    refine ⟨?_, rfl, rfl, by simp [PyData.depth], ?_⟩
    · have : ∀ k : Fin 99, (PyData.int (0 - 1 - (k.val : Int))).showable = true := by decide +kernel
      exact this ⟨k9, hk9⟩
    · have : ∀ k : Fin 99, (PyData.int (0 - 1 - (k.val : Int))).shown.length ≤ 500 := by decide +kernel
      exact this ⟨k9, hk9⟩
  have hv : ∃ x, ([.int (-1), .bl true, .non, .str (tx [51]), .ref e1, .int (0 - 1 - (k9 : Int))] : List V)[k6]? = some x ∧ IsCt K (hide [p] H0) x false ∧ Ov 500 5 (hide [p] H0) x := by
    match k6, hk6 with
    | 0, _ => exact ⟨_, rfl, .inl ⟨_, rfl, by decide⟩, ⟨_, .int _, ⟨by decide +kernel, by decide, by decide, by decide, by decide +kernel⟩, fun ds h => nomatch h⟩⟩
    | 1, _ => exact ⟨_, rfl, .inr ⟨rfl, _, .base (.bl _), by unfold SL.Kind; simp, by decide⟩, ⟨_, .bl _, ⟨by decide +kernel, by decide, by decide, by decide, by decide +kernel⟩, fun ds h => nomatch h⟩⟩
    | 2, _ => exact ⟨_, rfl, .inr ⟨rfl, _, .base .non, by unfold SL.Kind; simp, by decide⟩, ⟨_, .non, sm_non.le (by omega) (by omega), fun ds h => nomatch h⟩⟩
    | 3, _ => exact ⟨_, rfl, .inr ⟨rfl, _, .base (.str _), by unfold SL.Kind; simp, by decide⟩, ⟨_, .str [51], ⟨by decide +kernel, by decide, by decide +kernel, by decide, by decide +kernel⟩, fun ds h => nomatch h⟩⟩
    | 4, _ => exact ⟨_, rfl, .inr ⟨rfl, _, .base (.lst (hide_get g1 i1)), by unfold SL.Kind; simp, by decide⟩, ⟨_, .lst (hide_get g1 i1) (.cons (.int 3) .nil), ⟨by decide +kernel, by decide, by decide, by decide, by decide +kernel⟩, fun ds h => by cases h; simp⟩⟩
    | 5, _ => exact ⟨_, rfl, .inl ⟨_, rfl, by symm; rw [decide_eq_false_iff_not]; omega⟩, ⟨_, .int _, smi, fun ds h => nomatch h⟩⟩
  obtain ⟨v3, hv3, t3, o3⟩ := hv
  have t1 := t1.mono (hideH (f2.trans F20))
  have o1 := o1.mono (hideH (f2.trans F20))
  have t2 := t2.mono (hideH F20)
  have o2 := o2.mono (hideH F20)
  have txU : ∀ {Z : Hp}, IsTx K Z (.str (tx wd)) true := fun {Z} => .inl ⟨wd, rfl, by omega, (decide_eq_true lw).symm⟩
  have txV : ∀ {Z : Hp}, IsTx K Z (.str (tx v)) true := fun {Z} => .inl ⟨v, rfl, by omega, (decide_eq_true lv).symm⟩
  have txN : ∀ {Z : Hp}, IsTx K Z (.str (tx [])) true := fun {Z} => .inl ⟨[], rfl, by simp, (decide_eq_true Let.nil).symm⟩
  have sme : Sm 500 5 (.str (tx [])) := (sm_str (l := []) (n := 2) (fun x hx => absurd hx (by simp)) (by simp)).le (by omega) (by omega)
  walk_at "v"
  refine for_rg (n := 2) rfl (fun i σ H' => ∃ x5 x9, σ = [some (.ref p), some (.ref r), some (.str (tx u)), some (.str (tx v)), some v3, x5, some (.str (tx wd)), some v1, some v2, x9] ∧ Box H' p (c + 30 + i) ∧ SL.Fr p H0 H') ⟨_, _, rfl, b0.le (by omega), SL.Fr.refl _ _⟩ ?_ ?_
  · rintro i σ Y hi ⟨x5, x9, rfl, bY, fY⟩
    walk_at "v"
    refine take_w (N := 9) rfl bY (by omega) fun kl Y1 hkl bY1 fY1 => ?_
    walk_at "v"
    refine ⟨by walk_at "sz", fun e he => ?_⟩
    have FYi : SL.Fr p H0 (upd Y1 e (.lst [.int (kl : Int), v3])) := (fY.trans fY1).new he b0.has
    have bYi := bY1.upd (o := .lst [.int (kl : Int), v3]) (bY1.ne he)
    obtain ⟨Yi, hYi⟩ : ∃ Yi, Yi = upd Y1 e (.lst [.int (kl : Int), v3]) := ⟨_, rfl⟩
    rw [← hYi] at FYi bYi
    have ge : Yi e = some (.lst [.int (kl : Int), v3]) := by rw [hYi]; exact upd_same
    have t1 := t1.mono (hideF FYi)
    have o1 := o1.mono (hideF FYi)
    have t2 := t2.mono (hideF FYi)
    have o2 := o2.mono (hideF FYi)
    have t3 := isct_mono (hideF FYi) t3
    have o3 := o3.mono (hideF FYi)
    have smk : Sm 500 5 (.int (kl : Int)) := by
      refine ⟨?_, rfl, rfl, by simp [PyData.depth], ?_⟩
      · have : ∀ k : Fin 9, (PyData.int (k.val : Int)).showable = true := by decide +kernel
        exact this ⟨kl, hkl⟩
      · have : ∀ k : Fin 9, (PyData.int (k.val : Int)).shown.length ≤ 500 := by decide +kernel
        exact this ⟨kl, hkl⟩
    rw [← hYi]
    walk_at "v"
    refine for_it (walk_list (K := K) (a := e) (xs := [.int (kl : Int), v3])) (fun m σ H' => ∃ x9, σ = [some (.ref p), some (.ref r), some (.str (tx u)), some (.str (tx v)), some v3, some (.int (i : Int)), some (.str (tx wd)), some v1, some v2, x9] ∧ Same Yi H') ⟨_, rfl, Same.refl _⟩ ?_ ?_ ?_
    · rintro m σ Z hm ⟨x9, rfl, sZ⟩
      exact SqL.of (sZ _ _ ge)
    · rintro m x σ Z Z' hm ⟨x9, rfl, sZ⟩ ⟨rfl, hx⟩
      have hlast : Ct K Yi x ∧ Ov 500 5 Yi x := by
        match m, hx with
        | 0, hx =>
          rw [← (Option.some.inj hx : V.int (kl : Int) = x)]
          exact ⟨⟨true, .inl ⟨_, rfl, by simp⟩, fun _ => ⟨kl, rfl, by omega⟩⟩, ⟨_, .int _, smk, fun ds h => nomatch h⟩⟩
        | 1, hx =>
          rw [← (Option.some.inj hx : v3 = x)]
          exact ⟨⟨false, t3, fun h => nomatch h⟩, o3⟩
        | n + 2, hx => simp at hx
      obtain ⟨cx, ox⟩ := hlast
      walk_at "v"
      refine copy_v o1 sZ fun w1 A1 s1 c1 => ?_
      have S1 := sZ.trans s1
      walk_at "v"
      refine copy_v o2 S1 fun w2 A2 s2 c2 => ?_
      have S2 := S1.trans s2
      walk_at "v"
      refine copy_v ox S2 fun w3 A3 s3 c3 => ?_
      have S3 := S2.trans s3
      obtain ⟨bn1, ct1, ct1'⟩ := cv_ct (K := K) c3 S3 cx
      walk_at "v"
      refine ⟨by walk_at "sz", fun ps1 np1 => ?_⟩
      walk_at "v"
      refine refuse_w (wd := wText) (pl := 0) (bx := false) (by' := false) (bn := bn1) (be := false) (c1.same (s2.trans s3)) S3 np1 ⟨cv_tx (c1.same (s2.trans s3)) S3 t1, cv_tx (c2.same s3) S3 t2, ct1, (fun h => nomatch h), ct1'⟩ rfl rfl rfl rfl fun Z1 K1 => ?_
      walk_at "v"
      refine copy_v o1 K1 fun w4 A4 s4 c4 => ?_
      have S4 := K1.trans s4
      walk_at "v"
      refine copy_v ox S4 fun w5 A5 s5 c5 => ?_
      have S5 := S4.trans s5
      obtain ⟨bn2, ct2, ct2'⟩ := cv_ct (K := K) c5 S5 cx
      walk_at "v"
      refine ⟨by walk_at "sz", fun ps2 np2 => ?_⟩
      walk_at "v"
      refine refuse_w (wd := wText) (pl := 0) (bx := false) (by' := true) (bn := bn2) (be := false) (c4.same s5) S5 np2 ⟨cv_tx (c4.same s5) S5 t1, txU, ct2, (fun h => nomatch h), ct2'⟩ rfl rfl rfl rfl fun Z2 K2 => ?_
      walk_at "v"
      refine copy_v o2 K2 fun w6 A6 s6 c6 => ?_
      have S6 := K2.trans s6
      walk_at "v"
      refine copy_v ox S6 fun w7 A7 s7 c7 => ?_
      have S7 := S6.trans s7
      obtain ⟨bn3, ct3, ct3'⟩ := cv_ct (K := K) c7 S7 cx
      walk_at "v"
      refine ⟨by walk_at "sz", fun ps3 np3 => ?_⟩
      walk_at "v"
      refine refuse_w (wd := wText) (pl := 1) (bx := true) (by' := false) (bn := bn3) (be := false) (c6.same s7) S7 np3 ⟨txU, cv_tx (c6.same s7) S7 t2, ct3, (fun _ h => nomatch h), ct3'⟩ rfl rfl rfl rfl fun Z3 K3 => ?_
      walk_at "v"
      refine copy_v ox K3 fun w8 A8 s8 c8 => ?_
      have S8 := K3.trans s8
      obtain ⟨bn4, ct4, ct4'⟩ := cv_ct (K := K) c8 S8 cx
      walk_at "v"
      refine ⟨by walk_at "sz", fun ps4 np4 => ?_⟩
      walk_at "v"
      refine refuse_w (wd := wText) (pl := 0) (bx := true) (by' := true) (bn := bn4) (be := true) ((cv_self (H0 := Yi) (.str []) sme (by decide)).same S8) S8 np4 ⟨txN, txN, ct4, fun _ _ => ⟨[], [], rfl, rfl, by simp, by simp, by simp⟩, ct4'⟩ rfl rfl rfl rfl fun Z4 K4 => ?_
      walk_at "v"
      exact ⟨_, rfl, K4⟩
    · rintro σ Z ⟨x9, rfl, sZ⟩
      walk_at "v"
      refine copy_v o2 sZ fun w1 A1 s1 c1 => ?_
      have S1 := sZ.trans s1
      walk_at "v"
      refine ⟨by walk_at "sz", fun ps1 np1 => ?_⟩
      walk_at "v"
      refine refuse_w (wd := wText) (pl := 1) (bx := true) (by' := false) (bn := true) (be := false) c1 S1 np1 ⟨txN, cv_tx c1 S1 t2, .inl ⟨1, rfl, by decide⟩, (fun _ h => nomatch h), fun _ => ⟨1, rfl, by omega⟩⟩ rfl rfl rfl rfl fun Z1 K1 => ?_
      walk_at "v"
      refine copy_v o3 K1 fun w2 A2 s2 c2 => ?_
      have S2 := K1.trans s2
      walk_at "v"
      refine ⟨by walk_at "sz", fun ps2 np2 => ?_⟩
      walk_at "v"
      refine refuse_w (wd := wCount) (pl := 2) (bx := true) (by' := true) (bn := false) (be := false) c2 S2 np2 ⟨txU, txV, cv_cf c2 S2 t3, fun _ _ => ⟨wd, v, rfl, rfl, by omega, by omega, (decide_eq_false (fun h => zw.2 h.1)).symm⟩, (fun h => nomatch h)⟩ rfl rfl rfl rfl fun Z2 K2 => ?_
      walk_at "v"
      refine ⟨by walk_at "sz", fun ps3 np3 => ?_⟩
      have K3 := Same.new (o := .lst [.str (tx wd), .str (tx []), .int 0]) K2 np3
      walk_at "v"
      refine ⟨i, ps3, _, _, _, true, true, true, false, rfl, upd_same, ⟨txU, txN, .inl ⟨0, rfl, by decide⟩, fun _ _ => ⟨wd, [], rfl, rfl, by omega, by simp, (decide_eq_false (fun h => zw.2 h.1)).symm⟩, fun _ => ⟨0, rfl, by omega⟩⟩, fun r1 Z3 s3 m3 h3 => ?_⟩
      have h3 : Z3 r1 = some (.lst []) := h3
      walk_at "v"
      refine ⟨by walk_at "sz", fun r2 m4 => ?_⟩
      refine w_neNil ((upd_ne (ne_of_none h3 m4)).trans h3) upd_same ?_
      have K4 := Same.new (o := .lst []) (K3.trans s3) m4
      walk_at "v"
      refine ⟨by walk_at "sz", fun ps5 np5 => ?_⟩
      have K5 := Same.new (o := .lst [.str (tx []), .str (tx wd), .int 2]) K4 np5
      walk_at "v"
      refine ⟨i, ps5, _, _, _, true, true, true, false, rfl, upd_same, ⟨txN, txU, .inl ⟨2, rfl, by decide⟩, fun _ _ => ⟨[], wd, rfl, rfl, by simp, by omega, (decide_eq_false (fun h => zw.2 h.2)).symm⟩, fun _ => ⟨2, rfl, by omega⟩⟩, fun r3 Z5 s5 m5 h5 => ?_⟩
      have h5 : Z5 r3 = some (.lst []) := h5
      walk_at "v"
      refine ⟨by walk_at "sz", fun r4 m6 => ?_⟩
      refine w_neNil ((upd_ne (ne_of_none h5 m6)).trans h5) upd_same ?_
      have K6 := Same.new (o := .lst []) (K5.trans s5) m6
      walk_at "v"
      exact ⟨_, _, rfl, (bYi.same K6).le (by omega), FYi.trans (Fr.of K6)⟩
  · rintro σ Y ⟨x5, x9, rfl, bY, fY⟩
    walk_at "v"
    exact q _ (bY.le (by omega)) (F0.trans fY)
def spRight : Sp := fun vs H Q _ => ∃ (p : Addr) (c : Nat), vs = [.ref p] ∧ Box H p c ∧ c ≤ 10000 ∧ ∀ H', SL.Fr p H H' → Q (.bl true) H'
theorem ok__law_right (T : Txt K mg) (c__law_take : Cal P w K mg base 1 "_law_take" ["box", "many"] spTake) (c__law_letters : Cal P w K mg base 2 "_law_letters" ["box"] spLetters) (c__law_pair : Cal P w K mg base 3 "_law_pair" ["box", "letters"] (spPair K)) (c__law_pair_right : Cal P w K mg base 6 "_law_pair_right" ["box", "left", "right"] spPR)
    (c__law_wide_right : Cal P w K mg base 5 "_law_wide_right" ["box", "letter"] spWide) (c__law_refusals_right : Cal P w K mg base 7 "_law_refusals_right" ["box", "letters", "left", "right"] spRefR) (c__law_list_right : Cal P w K mg base 5 "_law_list_right" ["left", "right", "highest"] spLR) : Cal P w K mg base 8 "_law_right" ["box"] spRight := by
  refine cal0 T.d__law_right sc__law_right (by rintro vs H Q E ⟨p, c, rfl, _⟩; rfl) (fun cdv f A outer s H vs Q E hr hgd h => ?_)
  obtain ⟨p, c, rfl, hb, hc, q⟩ := h
  refine ⟨_, (pss_cons (ps_set (i := 1) sc__law_right.nd rfl (by first | exact Or.inl rfl | exact Or.inr rfl) (pe_g c__law_letters hr (by decide) hgd (by rfl) noX (pa_cons (pv 0) pa_nil)))
  (pss_cons (ps_asg (pe_g c__law_pair hr (by decide) hgd (by rfl) noX (pa_cons (pv 0) (pa_cons (pv 1) pa_nil))) (kLst K rfl (n := 2) (by rfl) (pgs_cons (pg_name (i := 2) sc__law_right.nd rfl (by first | exact Or.inl rfl | exact Or.inr rfl)) (pgs_cons (pg_name (i := 3) sc__law_right.nd rfl (by first | exact Or.inl rfl | exact Or.inr rfl)) pgs_nil))))
  (pss_cons (ps_asg (pe_g c__law_pair hr (by decide) hgd (by rfl) noX (pa_cons (pv 0) (pa_cons (pv 1) pa_nil))) (kLst K rfl (n := 2) (by rfl) (pgs_cons (pg_name (i := 4) sc__law_right.nd rfl (by first | exact Or.inl rfl | exact Or.inr rfl)) (pgs_cons (pg_name (i := 5) sc__law_right.nd rfl (by first | exact Or.inl rfl | exact Or.inr rfl)) pgs_nil))))
  (pss_cons (ps_if (PW.pt (pw_or (pt_not (pt_val (pe_g c__law_pair_right hr (by decide) hgd (by rfl) noX (pa_cons (pv 0) (pa_cons (pv 2) (pa_cons (pv 3) pa_nil)))))) (pw_or1 (pt_not (pt_val (pe_g c__law_pair_right hr (by decide) hgd (by rfl) noX (pa_cons (pv 0) (pa_cons (pv 4) (pa_cons (pv 5) pa_nil))))))))) (pss_one (ps_ret pe_bl)) pss_nil)
  (pss_cons (ps_if (pt_not (pt_val (pe_g c__law_wide_right hr (by decide) hgd (by rfl) noX (pa_cons (pv 0) (pa_cons (pe_ix (kIx K rfl) (pv 1) pe_int (fun _ _ => rfl)) pa_nil))))) (pss_one (ps_ret pe_bl)) pss_nil)
  (pss_one (ps_ret (pe_and (pe_g c__law_refusals_right hr (by decide) hgd (by rfl) noX (pa_cons (pv 0) (pa_cons (pv 1) (pa_cons (pv 2) (pa_cons (pv 3) pa_nil))))) (pe_one (pe_g c__law_list_right hr (by decide) hgd (by rfl) noX (pa_cons (pv 2) (pa_cons (pv 3) (pa_cons (pe_g c__law_take hr (by decide) hgd (by rfl) noX (pa_cons (pv 0) (pa_cons pe_int pa_nil))) pa_nil))))))))))))), ?_⟩
  have flip : ∀ {x y : List Nat}, Ne2 x y → Ne2 y x := fun n e => by have := n e.symm; omega
  walk_at "v0"
  refine ⟨p, _, rfl, hb, by omega, fun l r H1 z2 ll hl b1 f1 nrp => ?_⟩
  walk_at "v"
  refine ⟨p, r, l, _, rfl, b1, by omega, hl, z2, nrp, fun x y e H2 ox oy zx zy n1 g2 b2 f2 => ?_⟩
  have hl2 := f2 _ _ hl nrp
  walk_at "v"
  refine ⟨p, r, l, _, rfl, b2, by omega, hl2, z2, nrp, fun x2 y2 e2 H3 ox2 oy2 zx2 zy2 n2 g3 b3 f3 => ?_⟩
  have hl3 := f3 _ _ hl2 nrp
  walk_at "v"
  refine ⟨p, x, y, _, rfl, b3, by omega, ox.lt ll, oy.lt ll, n1, flip n1, zx, zy, fun H4 b4 f4 => ?_⟩
  walk_at "v"
  refine ⟨p, x2, y2, _, rfl, b4, by omega, ox2.lt ll, oy2.lt ll, n2, flip n2, zx2, zy2, fun H5 b5 f5 => ?_⟩
  have hl5 := (f4.trans f5) _ _ hl3 nrp
  obtain ⟨g, hg⟩ := ex_get (l := l) (k := 0) (by omega)
  have hg' : atI (sgL l) 0 = some (.str (tx [g])) := atI_n (n := 0) (sg_at hg)
  walk_at "v"
  refine ⟨p, g, _, rfl, ll.one hg, b5, by omega, fun H6 b6 f6 => ?_⟩
  have hl6 := f6 _ _ hl5 nrp
  walk_at "v"
  refine ⟨p, r, l, x, y, _, rfl, b6, by omega, hl6, z2, ll, nrp, ox.lt ll, oy.lt ll, zx, zy, fun H7 b7 f7 => ?_⟩
  walk_at "v"
  refine take_w (N := 12) rfl b7 (by omega) fun k8 H8 hk8 b8 f8 => ?_
  walk_at "v"
  refine ⟨x, y, k8, rfl, ox.lt ll, oy.lt ll, n1, flip n1, by omega, by omega, by omega, fun H9 s9 => ?_⟩
  exact q _ (f1.trans (f2.trans (f3.trans (f4.trans (f5.trans (f6.trans (f7.trans (f8.trans (Fr.of s9)))))))))
def spLaw (K : PySem.W.Frag) : Sp := fun vs H Q _ => ∃ (a : Addr) (ns : List Int), vs = [.ref a] ∧ SqL K H a (ns.map V.int) ∧ ns.length ≤ 1000000 ∧ ∀ H', Same H H' → Q (.bl true) H'
theorem fn_law (T : Txt K mg) (c__law_cell : Cal P w K mg base 1 "_law_cell" ["script", "k"] (spCellG K)) (c__law_box : Cal P w K mg base 1 "_law_box" ["great"] spBox)
    (c__law_right : Cal P w K mg base 8 "_law_right" ["box"] spRight) (f : Addr) (fd : FuncData) (F : Fun K "law" "law" s_law f fd) : FnG P w K mg base 9 f fd ["script"] (spLaw K) := by
  refine fn0 F sc_law (by rintro vs H Q E ⟨a, ns, rfl, _⟩; rfl) (fun cdv f A outer s' H vs Q E hr hgd h => ?_)
  obtain ⟨a, ns, rfl, hS, hz, q⟩ := h
  refine ⟨_, (pss_cons (ps_for PassesOwn.never rfl (pi_range1 (by rfl) T.n_range (pa_cons (pe_callB (uMax2 rfl) (by rfl) T.n_max (by decide +kernel) (pa_cons pe_int (pa_cons (pe_callB (uMin2 rfl) (by rfl) T.n_min (by decide +kernel) (pa_cons pe_int (pa_cons (pe_callB (kLen K rfl) (by rfl) T.n_len (by decide +kernel) (pa_cons (pv 0) pa_nil)) pa_nil))) pa_nil))) pa_nil)) (pg_name (i := 1) sc_law.nd rfl (by first | exact Or.inl rfl | exact Or.inr rfl))
  (pss_one (ps_if (pt_not (pt_val (pe_g c__law_right hr (by decide) hgd (by rfl) noX (pa_cons (pe_g c__law_box hr (by decide) hgd (by rfl) noX (pa_cons (pe_g c__law_cell hr (by decide) hgd (by rfl) noX (pa_cons (pv 0) (pa_cons (pv 1) pa_nil))) pa_nil)) pa_nil)))) (pss_one (ps_ret pe_bl)) pss_nil)))
  (pss_one (ps_ret pe_bl))), ?_⟩
  walk_at "v0"
  obtain ⟨n, hn, hn2⟩ := min_max 5 (List.map V.int ns).length (by omega)
  rw [hn]
  refine for_rg (n := n) (by omega) (fun i σ H' => ∃ x1, σ = [some (.ref a), x1] ∧ Same H H') ⟨_, rfl, Same.refl _⟩ ?_ ?_
  · rintro i σ H1 hi ⟨x1, rfl, s1⟩
    walk_at "v"
    refine ⟨a, ns, i, rfl, by walk_at "vget", by omega, fun g H2 s2 => ?_⟩
    walk_at "v"
    refine ⟨g, rfl, fun p H3 s3 n3 b3 => ?_⟩
    walk_at "v"
    refine ⟨p, 0, rfl, b3, by omega, fun H4 f4 => ?_⟩
    walk_at "v"
    exact ⟨_, rfl, same_box (s1.trans (s2.trans s3)) (none_same (s1.trans s2) n3) f4⟩
  · rintro σ H1 ⟨x1, rfl, s1⟩
    walk_at "v"
    exact q _ s1
end
end K12
set_option Elab.async false
set_option linter.all false
set_option maxRecDepth 100000
set_option maxHeartbeats 4000000
namespace K12
open PySem PySem.Spec PyProof.Rows L2 SL
theorem law_cal {P : Program} {w : World} {K : PySem.W.Frag} {mg : Str → Option Value} {fa : Addr} (hmg : mg "law" = some (.ref fa)) (T : Txt K mg) :
    ∃ fd : FuncData, (∀ (s : Shared) (u : Value), BindsTo s fd ⟨[u], []⟩ [("script", u)]) ∧ ∀ base : Heap, K.In base → base.Ns mainGlobals mg → FnG P w K mg base 9 fa fd ["script"] (spLaw K) := by
  obtain ⟨f, fd, F, hm, hb⟩ := T.d_law.ex
  rw [hmg] at hm
  cases hm
  refine ⟨fd, fun s u => hb s [u] rfl, fun base _ _ => ?_⟩
  have c1 := ok_is_text (P := P) (w := w) (base := base) T
  have c2 := ok_is_lag T c1
  have c3 := ok_check_text T c1
  have c4 := ok_is_integer (P := P) (w := w) (base := base) T
  have c5 := ok_is_count T c4
  have c6 := ok_check_count T c5
  have c7 := ok_round_length (P := P) (w := w) (base := base) T
  have c8 := ok_turn_number (P := P) (w := w) (base := base) T
  have c9 := ok_lag_after (P := P) (w := w) (base := base) T
  have c10 := ok_check_lag T c2
  have c11 := ok_lag_behind T c10 c3 c9
  have c12 := ok_lag_numbered (P := P) (w := w) (base := base) T
  have c13 := ok_staying T c3 c6 c8 c7 c12
  have c14 := ok_staying_w T c3 c6 c8 c7 c12
  have c15 := ok_staying_v T c3 c6 c8 c7 c12
  have d1 := ok_cell (P := P) (w := w) (base := base) T
  have d2 := ok_box (P := P) (w := w) (base := base) T
  have d3 := ok_take (P := P) (w := w) (base := base) T
  have e1 := ok__law_letters T d3
  have e2 := ok__law_word T d3
  have e3 := ok__law_pair T d3 e2
  have e4 := ok__law_numbered (P := P) (w := w) (base := base) T
  have e5 := ok__law_stays (P := P) (w := w) (base := base) T
  have e6 := ok__law_due T e4 e5
  have e7 := ok__law_number (P := P) (w := w) (base := base) T
  have e8 := ok__law_root_length (P := P) (w := w) (base := base) T
  have e9 := ok__law_highest T d3 e6 e7
  have e10 := ok__law_list_right T e6 c13 c14
  have e11 := ok__law_pair_right T d3 e9 e10 e6 c11 c13 e7 e8
  have e12 := ok__law_wide_right T d3 c13
  have e13 := ok__law_bad_text T d3 e2
  have e14 := ok__law_told T c13 c15
  have e15 := ok__law_refuses T e14
  have e16 := ok__law_copy (P := P) (w := w) (base := base) T
  have e17 := ok__law_refusals_right T d3 e13 e16 e14 e15
  have e18 := ok__law_right T d3 e1 e3 e11 e12 e17 e10
  exact fn_law T d1 d2 e18 _ fd F
theorem law_sp {K : PySem.W.Frag} {H : Hp} {a : Addr} {ns : List Int} {n : Nat} (hl : ns.length ≤ n) (hO : Only H) (hS : SqL K H a (ns.map V.int)) (hn : n ≤ 1000000 := by decide) : spLaw K [.ref a] H (fun v _ => v = .bl true) fun _ _ _ => False :=
  ⟨a, ns, rfl, hS, Nat.le_trans hl hn, fun _ _ => rfl⟩

theorem all_mk {K : PySem.W.Frag} {h : Heap} {mg : Str → Option Value} (X : K.In h) (G : h.Ns mainGlobals mg)
    {f0 : Addr} {od0 an0 : Option Addr} {sl0 : Array (Option Value)} {oc0 kV0 dc0 pm0 cd0 ct0 : Value}
    {f1 : Addr} {od1 an1 : Option Addr} {sl1 : Array (Option Value)} {oc1 kV1 dc1 pm1 cd1 ct1 : Value}
    {f2 : Addr} {od2 an2 : Option Addr} {sl2 : Array (Option Value)} {oc2 kV2 dc2 pm2 cd2 ct2 : Value}
    {f3 : Addr} {od3 an3 : Option Addr} {sl3 : Array (Option Value)} {oc3 kV3 dc3 pm3 cd3 ct3 : Value}
    {f4 : Addr} {od4 an4 : Option Addr} {sl4 : Array (Option Value)} {oc4 kV4 dc4 pm4 cd4 ct4 : Value}
    {f5 : Addr} {od5 an5 : Option Addr} {sl5 : Array (Option Value)} {oc5 kV5 dc5 pm5 cd5 ct5 : Value}
    {f6 : Addr} {od6 an6 : Option Addr} {sl6 : Array (Option Value)} {oc6 kV6 dc6 pm6 cd6 ct6 : Value}
    {f7 : Addr} {od7 an7 : Option Addr} {sl7 : Array (Option Value)} {oc7 kV7 dc7 pm7 cd7 ct7 : Value}
    {f8 : Addr} {od8 an8 : Option Addr} {sl8 : Array (Option Value)} {oc8 kV8 dc8 pm8 cd8 ct8 : Value}
    {f9 : Addr} {od9 an9 : Option Addr} {sl9 : Array (Option Value)} {oc9 kV9 dc9 pm9 cd9 ct9 : Value}
    {f10 : Addr} {od10 an10 : Option Addr} {sl10 : Array (Option Value)} {oc10 kV10 dc10 pm10 cd10 ct10 : Value}
    {f11 : Addr} {od11 an11 : Option Addr} {sl11 : Array (Option Value)} {oc11 kV11 dc11 pm11 cd11 ct11 : Value}
    {f12 : Addr} {od12 an12 : Option Addr} {sl12 : Array (Option Value)} {oc12 kV12 dc12 pm12 cd12 ct12 : Value}
    {f13 : Addr} {od13 an13 : Option Addr} {sl13 : Array (Option Value)} {oc13 kV13 dc13 pm13 cd13 ct13 : Value}
    {f14 : Addr} {od14 an14 : Option Addr} {sl14 : Array (Option Value)} {oc14 kV14 dc14 pm14 cd14 ct14 : Value}
    {f15 : Addr} {od15 an15 : Option Addr} {sl15 : Array (Option Value)} {oc15 kV15 dc15 pm15 cd15 ct15 : Value}
    {f16 : Addr} {od16 an16 : Option Addr} {sl16 : Array (Option Value)} {oc16 kV16 dc16 pm16 cd16 ct16 : Value}
    {f17 : Addr} {od17 an17 : Option Addr} {sl17 : Array (Option Value)} {oc17 kV17 dc17 pm17 cd17 ct17 : Value}
    {f18 : Addr} {od18 an18 : Option Addr} {sl18 : Array (Option Value)} {oc18 kV18 dc18 pm18 cd18 ct18 : Value}
    {f19 : Addr} {od19 an19 : Option Addr} {sl19 : Array (Option Value)} {oc19 kV19 dc19 pm19 cd19 ct19 : Value}
    {f20 : Addr} {od20 an20 : Option Addr} {sl20 : Array (Option Value)} {oc20 kV20 dc20 pm20 cd20 ct20 : Value}
    {f21 : Addr} {od21 an21 : Option Addr} {sl21 : Array (Option Value)} {oc21 kV21 dc21 pm21 cd21 ct21 : Value}
    {f22 : Addr} {od22 an22 : Option Addr} {sl22 : Array (Option Value)} {oc22 kV22 dc22 pm22 cd22 ct22 : Value}
    {f23 : Addr} {od23 an23 : Option Addr} {sl23 : Array (Option Value)} {oc23 kV23 dc23 pm23 cd23 ct23 : Value}
    {f24 : Addr} {od24 an24 : Option Addr} {sl24 : Array (Option Value)} {oc24 kV24 dc24 pm24 cd24 ct24 : Value}
    {f25 : Addr} {od25 an25 : Option Addr} {sl25 : Array (Option Value)} {oc25 kV25 dc25 pm25 cd25 ct25 : Value}
    {f26 : Addr} {od26 an26 : Option Addr} {sl26 : Array (Option Value)} {oc26 kV26 dc26 pm26 cd26 ct26 : Value}
    {f27 : Addr} {od27 an27 : Option Addr} {sl27 : Array (Option Value)} {oc27 kV27 dc27 pm27 cd27 ct27 : Value}
    {f28 : Addr} {od28 an28 : Option Addr} {sl28 : Array (Option Value)} {oc28 kV28 dc28 pm28 cd28 ct28 : Value}
    {f29 : Addr} {od29 an29 : Option Addr} {sl29 : Array (Option Value)} {oc29 kV29 dc29 pm29 cd29 ct29 : Value}
    {f30 : Addr} {od30 an30 : Option Addr} {sl30 : Array (Option Value)} {oc30 kV30 dc30 pm30 cd30 ct30 : Value}
    {f31 : Addr} {od31 an31 : Option Addr} {sl31 : Array (Option Value)} {oc31 kV31 dc31 pm31 cd31 ct31 : Value}
    {f32 : Addr} {od32 an32 : Option Addr} {sl32 : Array (Option Value)} {oc32 kV32 dc32 pm32 cd32 ct32 : Value}
    {f33 : Addr} {od33 an33 : Option Addr} {sl33 : Array (Option Value)} {oc33 kV33 dc33 pm33 cd33 ct33 : Value}
    {f34 : Addr} {od34 an34 : Option Addr} {sl34 : Array (Option Value)} {oc34 kV34 dc34 pm34 cd34 ct34 : Value}
    {B : Addr}
    {C_InvalidCount I_InvalidCount N_InvalidCount : Addr} {nm_InvalidCount q_InvalidCount : Str} {bs_InvalidCount sub_InvalidCount : List Value} {sn_InvalidCount : List Str} {ab_InvalidCount : Bool} {col_InvalidCount : Option Bool} {dd_InvalidCount od_InvalidCount an_InvalidCount : Option Addr} {m0_InvalidCount m1_InvalidCount m2_InvalidCount m3_InvalidCount m5_InvalidCount : Option Value} {sl_InvalidCount : Array (Option Value)} {oc_InvalidCount dc_InvalidCount pm_InvalidCount cd_InvalidCount ct_InvalidCount : Value}
    {C_InvalidText I_InvalidText N_InvalidText : Addr} {nm_InvalidText q_InvalidText : Str} {bs_InvalidText sub_InvalidText : List Value} {sn_InvalidText : List Str} {ab_InvalidText : Bool} {col_InvalidText : Option Bool} {dd_InvalidText od_InvalidText an_InvalidText : Option Addr} {m0_InvalidText m1_InvalidText m2_InvalidText m3_InvalidText m5_InvalidText : Option Value} {sl_InvalidText : Array (Option Value)} {oc_InvalidText dc_InvalidText pm_InvalidText cd_InvalidText ct_InvalidText : Value}
    {t_LETTERS : Tok}
    (a0 : PySem.W.nsIn K mainGlobals "is_integer" = some (some (.ref f0))) (l0 : K.lookup f0 = some ⟨oc0, od0, .func (PySem.W.fnOf "is_integer" "is_integer" (defArgs s_is_integer) (defBody s_is_integer) (defScope s_is_integer) .none kV0 dc0 pm0 an0 cd0 ct0), sl0⟩) (c0 : PySem.W.codeIn K cd0 "is_integer" = true) (k0 : PySem.W.keepIn K (.ref f0) = true)
    (a1 : PySem.W.nsIn K mainGlobals "is_count" = some (some (.ref f1))) (l1 : K.lookup f1 = some ⟨oc1, od1, .func (PySem.W.fnOf "is_count" "is_count" (defArgs s_is_count) (defBody s_is_count) (defScope s_is_count) .none kV1 dc1 pm1 an1 cd1 ct1), sl1⟩) (c1 : PySem.W.codeIn K cd1 "is_count" = true) (k1 : PySem.W.keepIn K (.ref f1) = true)
    (a2 : PySem.W.nsIn K mainGlobals "is_text" = some (some (.ref f2))) (l2 : K.lookup f2 = some ⟨oc2, od2, .func (PySem.W.fnOf "is_text" "is_text" (defArgs s_is_text) (defBody s_is_text) (defScope s_is_text) .none kV2 dc2 pm2 an2 cd2 ct2), sl2⟩) (c2 : PySem.W.codeIn K cd2 "is_text" = true) (k2 : PySem.W.keepIn K (.ref f2) = true)
    (a3 : PySem.W.nsIn K mainGlobals "is_lag" = some (some (.ref f3))) (l3 : K.lookup f3 = some ⟨oc3, od3, .func (PySem.W.fnOf "is_lag" "is_lag" (defArgs s_is_lag) (defBody s_is_lag) (defScope s_is_lag) .none kV3 dc3 pm3 an3 cd3 ct3), sl3⟩) (c3 : PySem.W.codeIn K cd3 "is_lag" = true) (k3 : PySem.W.keepIn K (.ref f3) = true)
    (a4 : PySem.W.nsIn K mainGlobals "check_count" = some (some (.ref f4))) (l4 : K.lookup f4 = some ⟨oc4, od4, .func (PySem.W.fnOf "check_count" "check_count" (defArgs s_check_count) (defBody s_check_count) (defScope s_check_count) .none kV4 dc4 pm4 an4 cd4 ct4), sl4⟩) (c4 : PySem.W.codeIn K cd4 "check_count" = true) (k4 : PySem.W.keepIn K (.ref f4) = true)
    (a5 : PySem.W.nsIn K mainGlobals "check_text" = some (some (.ref f5))) (l5 : K.lookup f5 = some ⟨oc5, od5, .func (PySem.W.fnOf "check_text" "check_text" (defArgs s_check_text) (defBody s_check_text) (defScope s_check_text) .none kV5 dc5 pm5 an5 cd5 ct5), sl5⟩) (c5 : PySem.W.codeIn K cd5 "check_text" = true) (k5 : PySem.W.keepIn K (.ref f5) = true)
    (a6 : PySem.W.nsIn K mainGlobals "round_length" = some (some (.ref f6))) (l6 : K.lookup f6 = some ⟨oc6, od6, .func (PySem.W.fnOf "round_length" "round_length" (defArgs s_round_length) (defBody s_round_length) (defScope s_round_length) .none kV6 dc6 pm6 an6 cd6 ct6), sl6⟩) (c6 : PySem.W.codeIn K cd6 "round_length" = true) (k6 : PySem.W.keepIn K (.ref f6) = true)
    (a7 : PySem.W.nsIn K mainGlobals "turn_number" = some (some (.ref f7))) (l7 : K.lookup f7 = some ⟨oc7, od7, .func (PySem.W.fnOf "turn_number" "turn_number" (defArgs s_turn_number) (defBody s_turn_number) (defScope s_turn_number) .none kV7 dc7 pm7 an7 cd7 ct7), sl7⟩) (c7 : PySem.W.codeIn K cd7 "turn_number" = true) (k7 : PySem.W.keepIn K (.ref f7) = true)
    (a8 : PySem.W.nsIn K mainGlobals "lag_after" = some (some (.ref f8))) (l8 : K.lookup f8 = some ⟨oc8, od8, .func (PySem.W.fnOf "lag_after" "lag_after" (defArgs s_lag_after) (defBody s_lag_after) (defScope s_lag_after) .none kV8 dc8 pm8 an8 cd8 ct8), sl8⟩) (c8 : PySem.W.codeIn K cd8 "lag_after" = true) (k8 : PySem.W.keepIn K (.ref f8) = true)
    (a9 : PySem.W.nsIn K mainGlobals "lag_numbered" = some (some (.ref f9))) (l9 : K.lookup f9 = some ⟨oc9, od9, .func (PySem.W.fnOf "lag_numbered" "lag_numbered" (defArgs s_lag_numbered) (defBody s_lag_numbered) (defScope s_lag_numbered) .none kV9 dc9 pm9 an9 cd9 ct9), sl9⟩) (c9 : PySem.W.codeIn K cd9 "lag_numbered" = true) (k9 : PySem.W.keepIn K (.ref f9) = true)
    (a10 : PySem.W.nsIn K mainGlobals "check_lag" = some (some (.ref f10))) (l10 : K.lookup f10 = some ⟨oc10, od10, .func (PySem.W.fnOf "check_lag" "check_lag" (defArgs s_check_lag) (defBody s_check_lag) (defScope s_check_lag) .none kV10 dc10 pm10 an10 cd10 ct10), sl10⟩) (c10 : PySem.W.codeIn K cd10 "check_lag" = true) (k10 : PySem.W.keepIn K (.ref f10) = true)
    (a11 : PySem.W.nsIn K mainGlobals "lag_behind" = some (some (.ref f11))) (l11 : K.lookup f11 = some ⟨oc11, od11, .func (PySem.W.fnOf "lag_behind" "lag_behind" (defArgs s_lag_behind) (defBody s_lag_behind) (defScope s_lag_behind) .none kV11 dc11 pm11 an11 cd11 ct11), sl11⟩) (c11 : PySem.W.codeIn K cd11 "lag_behind" = true) (k11 : PySem.W.keepIn K (.ref f11) = true)
    (a12 : PySem.W.nsIn K mainGlobals "staying" = some (some (.ref f12))) (l12 : K.lookup f12 = some ⟨oc12, od12, .func (PySem.W.fnOf "staying" "staying" (defArgs s_staying) (defBody s_staying) (defScope s_staying) .none kV12 dc12 pm12 an12 cd12 ct12), sl12⟩) (c12 : PySem.W.codeIn K cd12 "staying" = true) (k12 : PySem.W.keepIn K (.ref f12) = true)
    (a13 : PySem.W.nsIn K mainGlobals "_law_cell" = some (some (.ref f13))) (l13 : K.lookup f13 = some ⟨oc13, od13, .func (PySem.W.fnOf "_law_cell" "_law_cell" (defArgs s__law_cell) (defBody s__law_cell) (defScope s__law_cell) .none kV13 dc13 pm13 an13 cd13 ct13), sl13⟩) (c13 : PySem.W.codeIn K cd13 "_law_cell" = true) (k13 : PySem.W.keepIn K (.ref f13) = true)
    (a14 : PySem.W.nsIn K mainGlobals "_law_box" = some (some (.ref f14))) (l14 : K.lookup f14 = some ⟨oc14, od14, .func (PySem.W.fnOf "_law_box" "_law_box" (defArgs s__law_box) (defBody s__law_box) (defScope s__law_box) .none kV14 dc14 pm14 an14 cd14 ct14), sl14⟩) (c14 : PySem.W.codeIn K cd14 "_law_box" = true) (k14 : PySem.W.keepIn K (.ref f14) = true)
    (a15 : PySem.W.nsIn K mainGlobals "_law_take" = some (some (.ref f15))) (l15 : K.lookup f15 = some ⟨oc15, od15, .func (PySem.W.fnOf "_law_take" "_law_take" (defArgs s__law_take) (defBody s__law_take) (defScope s__law_take) .none kV15 dc15 pm15 an15 cd15 ct15), sl15⟩) (c15 : PySem.W.codeIn K cd15 "_law_take" = true) (k15 : PySem.W.keepIn K (.ref f15) = true)
    (a16 : PySem.W.nsIn K mainGlobals "_law_letters" = some (some (.ref f16))) (l16 : K.lookup f16 = some ⟨oc16, od16, .func (PySem.W.fnOf "_law_letters" "_law_letters" (defArgs s__law_letters) (defBody s__law_letters) (defScope s__law_letters) .none kV16 dc16 pm16 an16 cd16 ct16), sl16⟩) (c16 : PySem.W.codeIn K cd16 "_law_letters" = true) (k16 : PySem.W.keepIn K (.ref f16) = true)
    (a17 : PySem.W.nsIn K mainGlobals "_law_word" = some (some (.ref f17))) (l17 : K.lookup f17 = some ⟨oc17, od17, .func (PySem.W.fnOf "_law_word" "_law_word" (defArgs s__law_word) (defBody s__law_word) (defScope s__law_word) .none kV17 dc17 pm17 an17 cd17 ct17), sl17⟩) (c17 : PySem.W.codeIn K cd17 "_law_word" = true) (k17 : PySem.W.keepIn K (.ref f17) = true)
    (a18 : PySem.W.nsIn K mainGlobals "_law_pair" = some (some (.ref f18))) (l18 : K.lookup f18 = some ⟨oc18, od18, .func (PySem.W.fnOf "_law_pair" "_law_pair" (defArgs s__law_pair) (defBody s__law_pair) (defScope s__law_pair) .none kV18 dc18 pm18 an18 cd18 ct18), sl18⟩) (c18 : PySem.W.codeIn K cd18 "_law_pair" = true) (k18 : PySem.W.keepIn K (.ref f18) = true)
    (a19 : PySem.W.nsIn K mainGlobals "_law_root_length" = some (some (.ref f19))) (l19 : K.lookup f19 = some ⟨oc19, od19, .func (PySem.W.fnOf "_law_root_length" "_law_root_length" (defArgs s__law_root_length) (defBody s__law_root_length) (defScope s__law_root_length) .none kV19 dc19 pm19 an19 cd19 ct19), sl19⟩) (c19 : PySem.W.codeIn K cd19 "_law_root_length" = true) (k19 : PySem.W.keepIn K (.ref f19) = true)
    (a20 : PySem.W.nsIn K mainGlobals "_law_numbered" = some (some (.ref f20))) (l20 : K.lookup f20 = some ⟨oc20, od20, .func (PySem.W.fnOf "_law_numbered" "_law_numbered" (defArgs s__law_numbered) (defBody s__law_numbered) (defScope s__law_numbered) .none kV20 dc20 pm20 an20 cd20 ct20), sl20⟩) (c20 : PySem.W.codeIn K cd20 "_law_numbered" = true) (k20 : PySem.W.keepIn K (.ref f20) = true)
    (a21 : PySem.W.nsIn K mainGlobals "_law_stays" = some (some (.ref f21))) (l21 : K.lookup f21 = some ⟨oc21, od21, .func (PySem.W.fnOf "_law_stays" "_law_stays" (defArgs s__law_stays) (defBody s__law_stays) (defScope s__law_stays) .none kV21 dc21 pm21 an21 cd21 ct21), sl21⟩) (c21 : PySem.W.codeIn K cd21 "_law_stays" = true) (k21 : PySem.W.keepIn K (.ref f21) = true)
    (a22 : PySem.W.nsIn K mainGlobals "_law_due" = some (some (.ref f22))) (l22 : K.lookup f22 = some ⟨oc22, od22, .func (PySem.W.fnOf "_law_due" "_law_due" (defArgs s__law_due) (defBody s__law_due) (defScope s__law_due) .none kV22 dc22 pm22 an22 cd22 ct22), sl22⟩) (c22 : PySem.W.codeIn K cd22 "_law_due" = true) (k22 : PySem.W.keepIn K (.ref f22) = true)
    (a23 : PySem.W.nsIn K mainGlobals "_law_number" = some (some (.ref f23))) (l23 : K.lookup f23 = some ⟨oc23, od23, .func (PySem.W.fnOf "_law_number" "_law_number" (defArgs s__law_number) (defBody s__law_number) (defScope s__law_number) .none kV23 dc23 pm23 an23 cd23 ct23), sl23⟩) (c23 : PySem.W.codeIn K cd23 "_law_number" = true) (k23 : PySem.W.keepIn K (.ref f23) = true)
    (a24 : PySem.W.nsIn K mainGlobals "_law_highest" = some (some (.ref f24))) (l24 : K.lookup f24 = some ⟨oc24, od24, .func (PySem.W.fnOf "_law_highest" "_law_highest" (defArgs s__law_highest) (defBody s__law_highest) (defScope s__law_highest) .none kV24 dc24 pm24 an24 cd24 ct24), sl24⟩) (c24 : PySem.W.codeIn K cd24 "_law_highest" = true) (k24 : PySem.W.keepIn K (.ref f24) = true)
    (a25 : PySem.W.nsIn K mainGlobals "_law_list_right" = some (some (.ref f25))) (l25 : K.lookup f25 = some ⟨oc25, od25, .func (PySem.W.fnOf "_law_list_right" "_law_list_right" (defArgs s__law_list_right) (defBody s__law_list_right) (defScope s__law_list_right) .none kV25 dc25 pm25 an25 cd25 ct25), sl25⟩) (c25 : PySem.W.codeIn K cd25 "_law_list_right" = true) (k25 : PySem.W.keepIn K (.ref f25) = true)
    (a26 : PySem.W.nsIn K mainGlobals "_law_pair_right" = some (some (.ref f26))) (l26 : K.lookup f26 = some ⟨oc26, od26, .func (PySem.W.fnOf "_law_pair_right" "_law_pair_right" (defArgs s__law_pair_right) (defBody s__law_pair_right) (defScope s__law_pair_right) .none kV26 dc26 pm26 an26 cd26 ct26), sl26⟩) (c26 : PySem.W.codeIn K cd26 "_law_pair_right" = true) (k26 : PySem.W.keepIn K (.ref f26) = true)
    (a27 : PySem.W.nsIn K mainGlobals "_law_wide_right" = some (some (.ref f27))) (l27 : K.lookup f27 = some ⟨oc27, od27, .func (PySem.W.fnOf "_law_wide_right" "_law_wide_right" (defArgs s__law_wide_right) (defBody s__law_wide_right) (defScope s__law_wide_right) .none kV27 dc27 pm27 an27 cd27 ct27), sl27⟩) (c27 : PySem.W.codeIn K cd27 "_law_wide_right" = true) (k27 : PySem.W.keepIn K (.ref f27) = true)
    (a28 : PySem.W.nsIn K mainGlobals "_law_bad_text" = some (some (.ref f28))) (l28 : K.lookup f28 = some ⟨oc28, od28, .func (PySem.W.fnOf "_law_bad_text" "_law_bad_text" (defArgs s__law_bad_text) (defBody s__law_bad_text) (defScope s__law_bad_text) .none kV28 dc28 pm28 an28 cd28 ct28), sl28⟩) (c28 : PySem.W.codeIn K cd28 "_law_bad_text" = true) (k28 : PySem.W.keepIn K (.ref f28) = true)
    (a29 : PySem.W.nsIn K mainGlobals "_law_told" = some (some (.ref f29))) (l29 : K.lookup f29 = some ⟨oc29, od29, .func (PySem.W.fnOf "_law_told" "_law_told" (defArgs s__law_told) (defBody s__law_told) (defScope s__law_told) .none kV29 dc29 pm29 an29 cd29 ct29), sl29⟩) (c29 : PySem.W.codeIn K cd29 "_law_told" = true) (k29 : PySem.W.keepIn K (.ref f29) = true)
    (a30 : PySem.W.nsIn K mainGlobals "_law_refuses" = some (some (.ref f30))) (l30 : K.lookup f30 = some ⟨oc30, od30, .func (PySem.W.fnOf "_law_refuses" "_law_refuses" (defArgs s__law_refuses) (defBody s__law_refuses) (defScope s__law_refuses) .none kV30 dc30 pm30 an30 cd30 ct30), sl30⟩) (c30 : PySem.W.codeIn K cd30 "_law_refuses" = true) (k30 : PySem.W.keepIn K (.ref f30) = true)
    (a31 : PySem.W.nsIn K mainGlobals "_law_copy" = some (some (.ref f31))) (l31 : K.lookup f31 = some ⟨oc31, od31, .func (PySem.W.fnOf "_law_copy" "_law_copy" (defArgs s__law_copy) (defBody s__law_copy) (defScope s__law_copy) .none kV31 dc31 pm31 an31 cd31 ct31), sl31⟩) (c31 : PySem.W.codeIn K cd31 "_law_copy" = true) (k31 : PySem.W.keepIn K (.ref f31) = true)
    (a32 : PySem.W.nsIn K mainGlobals "_law_refusals_right" = some (some (.ref f32))) (l32 : K.lookup f32 = some ⟨oc32, od32, .func (PySem.W.fnOf "_law_refusals_right" "_law_refusals_right" (defArgs s__law_refusals_right) (defBody s__law_refusals_right) (defScope s__law_refusals_right) .none kV32 dc32 pm32 an32 cd32 ct32), sl32⟩) (c32 : PySem.W.codeIn K cd32 "_law_refusals_right" = true) (k32 : PySem.W.keepIn K (.ref f32) = true)
    (a33 : PySem.W.nsIn K mainGlobals "_law_right" = some (some (.ref f33))) (l33 : K.lookup f33 = some ⟨oc33, od33, .func (PySem.W.fnOf "_law_right" "_law_right" (defArgs s__law_right) (defBody s__law_right) (defScope s__law_right) .none kV33 dc33 pm33 an33 cd33 ct33), sl33⟩) (c33 : PySem.W.codeIn K cd33 "_law_right" = true) (k33 : PySem.W.keepIn K (.ref f33) = true)
    (a34 : PySem.W.nsIn K mainGlobals "law" = some (some (.ref f34))) (l34 : K.lookup f34 = some ⟨oc34, od34, .func (PySem.W.fnOf "law" "law" (defArgs s_law) (defBody s_law) (defScope s_law) .none kV34 dc34 pm34 an34 cd34 ct34), sl34⟩) (c34 : PySem.W.codeIn K cd34 "law" = true) (k34 : PySem.W.keepIn K (.ref f34) = true)
    (bB : PySem.W.nsIn K mainGlobals "CodecError" = some (some (.ref B))) (bsp : PySem.W.specialIn K (.ref B) "__getattribute__" = some (some (.builtin "type.__getattribute__"))) (brd : PySem.W.readsIn K B (.type "type") = true) (bfc : PySem.W.findCls K (.ref B) (.type "type") "__init__" = some (.val (.builtin "Exception.__init__")))
    (aC_InvalidCount : PySem.W.nsIn K mainGlobals "InvalidCount" = some (some (.ref C_InvalidCount))) (xL_InvalidCount : K.lookup C_InvalidCount = some (excClassObj nm_InvalidCount q_InvalidCount C_InvalidCount N_InvalidCount bs_InvalidCount [.ref B, .type "Exception", .type "BaseException", .type "object"] true sn_InvalidCount sub_InvalidCount ab_InvalidCount col_InvalidCount dd_InvalidCount m0_InvalidCount m1_InvalidCount m2_InvalidCount m3_InvalidCount m5_InvalidCount "Exception.__new__")) (sa_InvalidCount : PySem.W.findIn K (.ref C_InvalidCount) "__setattr__" = some (some (.builtin "object.__setattr__"))) (ga_InvalidCount : PySem.W.findIn K (.ref C_InvalidCount) "__getattribute__" = some (some (.builtin "BaseException.__getattribute__"))) (gg_InvalidCount : PySem.W.findIn K (.ref C_InvalidCount) "__getattr__" = some none) (nb_InvalidCount : PySem.W.findIn K (.ref C_InvalidCount) "given" = some none) (a1_InvalidCount : PySem.W.findIn K (.ref C_InvalidCount) "__init__" = some (some (.ref I_InvalidCount))) (t1_InvalidCount : PySem.W.typeIn K (.ref I_InvalidCount) = some (.type "function")) (l1_InvalidCount : K.lookup I_InvalidCount = some ⟨oc_InvalidCount, od_InvalidCount, .func (PySem.W.fnOf "__init__" "InvalidCount.__init__" (defArgs s_InvalidCount___init__) (defBody s_InvalidCount___init__) (defScope s_InvalidCount___init__) .none .none dc_InvalidCount pm_InvalidCount an_InvalidCount cd_InvalidCount ct_InvalidCount), sl_InvalidCount⟩) (c1_InvalidCount : PySem.W.codeIn K cd_InvalidCount "InvalidCount.__init__" = true) (kC_InvalidCount : PySem.W.keepIn K (.ref C_InvalidCount) = true) (eC_InvalidCount : PySem.W.subIn K (.ref C_InvalidCount) (.type "BaseException") = some true) (tC_InvalidCount : PySem.W.typeIn K (.ref C_InvalidCount) = some (.type "type")) (hC_InvalidCount : PySem.W.hasDictIn K C_InvalidCount = true) (iC_InvalidCount : PySem.W.isClsIn K C_InvalidCount = true) (sC_InvalidCount : PySem.W.subIn K (.ref C_InvalidCount) (.ref C_InvalidCount) = some true)
    (aC_InvalidText : PySem.W.nsIn K mainGlobals "InvalidText" = some (some (.ref C_InvalidText))) (xL_InvalidText : K.lookup C_InvalidText = some (excClassObj nm_InvalidText q_InvalidText C_InvalidText N_InvalidText bs_InvalidText [.ref B, .type "Exception", .type "BaseException", .type "object"] true sn_InvalidText sub_InvalidText ab_InvalidText col_InvalidText dd_InvalidText m0_InvalidText m1_InvalidText m2_InvalidText m3_InvalidText m5_InvalidText "Exception.__new__")) (sa_InvalidText : PySem.W.findIn K (.ref C_InvalidText) "__setattr__" = some (some (.builtin "object.__setattr__"))) (ga_InvalidText : PySem.W.findIn K (.ref C_InvalidText) "__getattribute__" = some (some (.builtin "BaseException.__getattribute__"))) (gg_InvalidText : PySem.W.findIn K (.ref C_InvalidText) "__getattr__" = some none) (nb_InvalidText : PySem.W.findIn K (.ref C_InvalidText) "given" = some none) (a1_InvalidText : PySem.W.findIn K (.ref C_InvalidText) "__init__" = some (some (.ref I_InvalidText))) (t1_InvalidText : PySem.W.typeIn K (.ref I_InvalidText) = some (.type "function")) (l1_InvalidText : K.lookup I_InvalidText = some ⟨oc_InvalidText, od_InvalidText, .func (PySem.W.fnOf "__init__" "InvalidText.__init__" (defArgs s_InvalidText___init__) (defBody s_InvalidText___init__) (defScope s_InvalidText___init__) .none .none dc_InvalidText pm_InvalidText an_InvalidText cd_InvalidText ct_InvalidText), sl_InvalidText⟩) (c1_InvalidText : PySem.W.codeIn K cd_InvalidText "InvalidText.__init__" = true) (kC_InvalidText : PySem.W.keepIn K (.ref C_InvalidText) = true) (eC_InvalidText : PySem.W.subIn K (.ref C_InvalidText) (.type "BaseException") = some true) (tC_InvalidText : PySem.W.typeIn K (.ref C_InvalidText) = some (.type "type")) (hC_InvalidText : PySem.W.hasDictIn K C_InvalidText = true) (iC_InvalidText : PySem.W.isClsIn K C_InvalidText = true) (sC_InvalidText : PySem.W.subIn K (.ref C_InvalidText) (.ref C_InvalidText) = some true)
    (no_InvalidCount_InvalidText : PySem.W.subIn K (.ref C_InvalidCount) (.ref C_InvalidText) = some false)
    (no_InvalidText_InvalidCount : PySem.W.subIn K (.ref C_InvalidText) (.ref C_InvalidCount) = some false)
    (z_abs : PySem.W.nsIn K mainGlobals "abs" = some none)
    (z_all : PySem.W.nsIn K mainGlobals "all" = some none)
    (z_bool : PySem.W.nsIn K mainGlobals "bool" = some none)
    (z_int : PySem.W.nsIn K mainGlobals "int" = some none)
    (z_isinstance : PySem.W.nsIn K mainGlobals "isinstance" = some none)
    (z_len : PySem.W.nsIn K mainGlobals "len" = some none)
    (z_list : PySem.W.nsIn K mainGlobals "list" = some none)
    (z_max : PySem.W.nsIn K mainGlobals "max" = some none)
    (z_min : PySem.W.nsIn K mainGlobals "min" = some none)
    (z_range : PySem.W.nsIn K mainGlobals "range" = some none)
    (z_repr : PySem.W.nsIn K mainGlobals "repr" = some none)
    (z_str : PySem.W.nsIn K mainGlobals "str" = some none)
    (z_sum : PySem.W.nsIn K mainGlobals "sum" = some none)
    (z_tuple : PySem.W.nsIn K mainGlobals "tuple" = some none)
    (q_LETTERS : PySem.W.nsIn K mainGlobals "LETTERS" = some (some (.str (PySem.Str.ofString "abcdefghijklmnopqrstuvwxyz") t_LETTERS)))
    : Txt K mg where
  d_is_integer := .of f0 _ (fun_mk (st := s_is_integer) l0 c0 k0) (PySem.W.mg_of X G a0) fun s us hl => match us, hl with | [_], _ => .of_eq rfl
  d_is_count := .of f1 _ (fun_mk (st := s_is_count) l1 c1 k1) (PySem.W.mg_of X G a1) fun s us hl => match us, hl with | [_], _ => .of_eq rfl
  d_is_text := .of f2 _ (fun_mk (st := s_is_text) l2 c2 k2) (PySem.W.mg_of X G a2) fun s us hl => match us, hl with | [_], _ => .of_eq rfl
  d_is_lag := .of f3 _ (fun_mk (st := s_is_lag) l3 c3 k3) (PySem.W.mg_of X G a3) fun s us hl => match us, hl with | [_], _ => .of_eq rfl
  d_check_count := .of f4 _ (fun_mk (st := s_check_count) l4 c4 k4) (PySem.W.mg_of X G a4) fun s us hl => match us, hl with | [_], _ => .of_eq rfl
  d_check_text := .of f5 _ (fun_mk (st := s_check_text) l5 c5 k5) (PySem.W.mg_of X G a5) fun s us hl => match us, hl with | [_], _ => .of_eq rfl
  d_round_length := .of f6 _ (fun_mk (st := s_round_length) l6 c6 k6) (PySem.W.mg_of X G a6) fun s us hl => match us, hl with | [_], _ => .of_eq rfl
  d_turn_number := .of f7 _ (fun_mk (st := s_turn_number) l7 c7 k7) (PySem.W.mg_of X G a7) fun s us hl => match us, hl with | [_, _], _ => .of_eq rfl
  d_lag_after := .of f8 _ (fun_mk (st := s_lag_after) l8 c8 k8) (PySem.W.mg_of X G a8) fun s us hl => match us, hl with | [_, _], _ => .of_eq rfl
  d_lag_numbered := .of f9 _ (fun_mk (st := s_lag_numbered) l9 c9 k9) (PySem.W.mg_of X G a9) fun s us hl => match us, hl with | [_, _, _], _ => .of_eq rfl
  d_check_lag := .of f10 _ (fun_mk (st := s_check_lag) l10 c10 k10) (PySem.W.mg_of X G a10) fun s us hl => match us, hl with | [_], _ => .of_eq rfl
  d_lag_behind := .of f11 _ (fun_mk (st := s_lag_behind) l11 c11 k11) (PySem.W.mg_of X G a11) fun s us hl => match us, hl with | [_, _, _], _ => .of_eq rfl
  d_staying := .of f12 _ (fun_mk (st := s_staying) l12 c12 k12) (PySem.W.mg_of X G a12) fun s us hl => match us, hl with | [_, _, _], _ => .of_eq rfl
  d__law_cell := .of f13 _ (fun_mk (st := s__law_cell) l13 c13 k13) (PySem.W.mg_of X G a13) fun s us hl => match us, hl with | [_, _], _ => .of_eq rfl
  d__law_box := .of f14 _ (fun_mk (st := s__law_box) l14 c14 k14) (PySem.W.mg_of X G a14) fun s us hl => match us, hl with | [_], _ => .of_eq rfl
  d__law_take := .of f15 _ (fun_mk (st := s__law_take) l15 c15 k15) (PySem.W.mg_of X G a15) fun s us hl => match us, hl with | [_, _], _ => .of_eq rfl
  d__law_letters := .of f16 _ (fun_mk (st := s__law_letters) l16 c16 k16) (PySem.W.mg_of X G a16) fun s us hl => match us, hl with | [_], _ => .of_eq rfl
  d__law_word := .of f17 _ (fun_mk (st := s__law_word) l17 c17 k17) (PySem.W.mg_of X G a17) fun s us hl => match us, hl with | [_, _, _], _ => .of_eq rfl
  d__law_pair := .of f18 _ (fun_mk (st := s__law_pair) l18 c18 k18) (PySem.W.mg_of X G a18) fun s us hl => match us, hl with | [_, _], _ => .of_eq rfl
  d__law_root_length := .of f19 _ (fun_mk (st := s__law_root_length) l19 c19 k19) (PySem.W.mg_of X G a19) fun s us hl => match us, hl with | [_], _ => .of_eq rfl
  d__law_numbered := .of f20 _ (fun_mk (st := s__law_numbered) l20 c20 k20) (PySem.W.mg_of X G a20) fun s us hl => match us, hl with | [_, _, _], _ => .of_eq rfl
  d__law_stays := .of f21 _ (fun_mk (st := s__law_stays) l21 c21 k21) (PySem.W.mg_of X G a21) fun s us hl => match us, hl with | [_, _, _], _ => .of_eq rfl
  d__law_due := .of f22 _ (fun_mk (st := s__law_due) l22 c22 k22) (PySem.W.mg_of X G a22) fun s us hl => match us, hl with | [_, _, _], _ => .of_eq rfl
  d__law_number := .of f23 _ (fun_mk (st := s__law_number) l23 c23 k23) (PySem.W.mg_of X G a23) fun s us hl => match us, hl with | [_], _ => .of_eq rfl
  d__law_highest := .of f24 _ (fun_mk (st := s__law_highest) l24 c24 k24) (PySem.W.mg_of X G a24) fun s us hl => match us, hl with | [_, _, _], _ => .of_eq rfl
  d__law_list_right := .of f25 _ (fun_mk (st := s__law_list_right) l25 c25 k25) (PySem.W.mg_of X G a25) fun s us hl => match us, hl with | [_, _, _], _ => .of_eq rfl
  d__law_pair_right := .of f26 _ (fun_mk (st := s__law_pair_right) l26 c26 k26) (PySem.W.mg_of X G a26) fun s us hl => match us, hl with | [_, _, _], _ => .of_eq rfl
  d__law_wide_right := .of f27 _ (fun_mk (st := s__law_wide_right) l27 c27 k27) (PySem.W.mg_of X G a27) fun s us hl => match us, hl with | [_, _], _ => .of_eq rfl
  d__law_bad_text := .of f28 _ (fun_mk (st := s__law_bad_text) l28 c28 k28) (PySem.W.mg_of X G a28) fun s us hl => match us, hl with | [_, _], _ => .of_eq rfl
  d__law_told := .of f29 _ (fun_mk (st := s__law_told) l29 c29 k29) (PySem.W.mg_of X G a29) fun s us hl => match us, hl with | [_, _], _ => .of_eq rfl
  d__law_refuses := .of f30 _ (fun_mk (st := s__law_refuses) l30 c30 k30) (PySem.W.mg_of X G a30) fun s us hl => match us, hl with | [_, _, _, _], _ => .of_eq rfl
  d__law_copy := .of f31 _ (fun_mk (st := s__law_copy) l31 c31 k31) (PySem.W.mg_of X G a31) fun s us hl => match us, hl with | [_], _ => .of_eq rfl
  d__law_refusals_right := .of f32 _ (fun_mk (st := s__law_refusals_right) l32 c32 k32) (PySem.W.mg_of X G a32) fun s us hl => match us, hl with | [_, _, _, _], _ => .of_eq rfl
  d__law_right := .of f33 _ (fun_mk (st := s__law_right) l33 c33 k33) (PySem.W.mg_of X G a33) fun s us hl => match us, hl with | [_], _ => .of_eq rfl
  d_law := .of f34 _ (fun_mk (st := s_law) l34 c34 k34) (PySem.W.mg_of X G a34) fun s us hl => match us, hl with | [_], _ => .of_eq rfl
  x_InvalidCount := ErrAt.of { gC := PySem.W.mg_of X G aC_InvalidCount, gB := PySem.W.mg_of X G bB, cls := ⟨nm_InvalidCount, q_InvalidCount, N_InvalidCount, bs_InvalidCount, sn_InvalidCount, sub_InvalidCount, ab_InvalidCount, col_InvalidCount, dd_InvalidCount, m0_InvalidCount, m1_InvalidCount, m2_InvalidCount, m3_InvalidCount, m5_InvalidCount, xL_InvalidCount⟩, sa := sa_InvalidCount, ga := ga_InvalidCount, gg := gg_InvalidCount, noN := nb_InvalidCount, iC := a1_InvalidCount, tC := t1_InvalidCount, kC := kC_InvalidCount, exC := eC_InvalidCount, tyC := tC_InvalidCount, hdC := hC_InvalidCount, te := exm_self eC_InvalidCount iC_InvalidCount tC_InvalidCount sC_InvalidCount, sp := bsp, rd := brd, fc := bfc, fn := ⟨_, _, _, _, _, _, _, _, _, _, _, _, _, _, _, _, _, _, _, _, _, _, _, l1_InvalidCount, c1_InvalidCount, fun env => ⟨_, rfl⟩⟩ }
  x_InvalidText := ErrAt.of { gC := PySem.W.mg_of X G aC_InvalidText, gB := PySem.W.mg_of X G bB, cls := ⟨nm_InvalidText, q_InvalidText, N_InvalidText, bs_InvalidText, sn_InvalidText, sub_InvalidText, ab_InvalidText, col_InvalidText, dd_InvalidText, m0_InvalidText, m1_InvalidText, m2_InvalidText, m3_InvalidText, m5_InvalidText, xL_InvalidText⟩, sa := sa_InvalidText, ga := ga_InvalidText, gg := gg_InvalidText, noN := nb_InvalidText, iC := a1_InvalidText, tC := t1_InvalidText, kC := kC_InvalidText, exC := eC_InvalidText, tyC := tC_InvalidText, hdC := hC_InvalidText, te := exm_self eC_InvalidText iC_InvalidText tC_InvalidText sC_InvalidText, sp := bsp, rd := brd, fc := bfc, fn := ⟨_, _, _, _, _, _, _, _, _, _, _, _, _, _, _, _, _, _, _, _, _, _, _, l1_InvalidText, c1_InvalidText, fun env => ⟨_, rfl⟩⟩ }
  o_InvalidCount_InvalidText := NotErr.of (PySem.W.mg_of X G aC_InvalidCount) (PySem.W.mg_of X G aC_InvalidText) (exm_other eC_InvalidCount eC_InvalidText iC_InvalidText tC_InvalidText no_InvalidCount_InvalidText)
  o_InvalidText_InvalidCount := NotErr.of (PySem.W.mg_of X G aC_InvalidText) (PySem.W.mg_of X G aC_InvalidCount) (exm_other eC_InvalidText eC_InvalidCount iC_InvalidCount tC_InvalidCount no_InvalidText_InvalidCount)
  n_abs := PySem.W.mg_none_of X G z_abs
  n_all := PySem.W.mg_none_of X G z_all
  n_bool := PySem.W.mg_none_of X G z_bool
  n_int := PySem.W.mg_none_of X G z_int
  n_isinstance := PySem.W.mg_none_of X G z_isinstance
  n_len := PySem.W.mg_none_of X G z_len
  n_list := PySem.W.mg_none_of X G z_list
  n_max := PySem.W.mg_none_of X G z_max
  n_min := PySem.W.mg_none_of X G z_min
  n_range := PySem.W.mg_none_of X G z_range
  n_repr := PySem.W.mg_none_of X G z_repr
  n_str := PySem.W.mg_none_of X G z_str
  n_sum := PySem.W.mg_none_of X G z_sum
  n_tuple := PySem.W.mg_none_of X G z_tuple
  g_LETTERS := ⟨_, (PySem.W.mg_of X G q_LETTERS).trans (congrArg (fun z => some (Value.str z _)) (by decide +kernel))⟩
end K12
open PySem PySem.W PyProof.Rows in
set_option maxRecDepth 100000 in
set_option maxHeartbeats 0 in
theorem PySem.Challenge.cw_spoiltline_k12_lags_that_stay_holds : PySem.Challenge.rw_spoiltline_k12_lags_that_stay.Holds := by
  w_on; o_law; k_head; (case hw => w_witness2)
  k_fill
  refine SL.walk_g (l := PySem.Challenge.rw_spoiltline_k12_lags_that_stay) (k := 9) (x := "script") rfl (by decide) rfl ⟨rfl, by decide, by decide⟩ (fun w h Y => PySem.W.kIn_of Y) ?F (fun K H a ns hl hO hS => K12.law_sp hl hO hS)
  case F =>
    intro w mg fa h KX G hmg
    refine' K12.law_cal hmg (K12.all_mk KX G ?a0 ?l0 ?c0 ?k0 ?a1 ?l1 ?c1 ?k1 ?a2 ?l2 ?c2 ?k2 ?a3 ?l3 ?c3 ?k3 ?a4 ?l4 ?c4 ?k4 ?a5 ?l5 ?c5 ?k5 ?a6 ?l6 ?c6 ?k6 ?a7 ?l7 ?c7 ?k7 ?a8 ?l8 ?c8 ?k8 ?a9 ?l9 ?c9 ?k9 ?a10 ?l10 ?c10 ?k10 ?a11 ?l11 ?c11 ?k11 ?a12 ?l12 ?c12 ?k12 ?a13 ?l13 ?c13 ?k13 ?a14 ?l14 ?c14 ?k14 ?a15 ?l15 ?c15 ?k15 ?a16 ?l16 ?c16 ?k16 ?a17 ?l17 ?c17 ?k17 ?a18 ?l18 ?c18 ?k18 ?a19 ?l19 ?c19 ?k19 ?a20 ?l20 ?c20 ?k20 ?a21 ?l21 ?c21 ?k21 ?a22 ?l22 ?c22 ?k22 ?a23 ?l23 ?c23 ?k23 ?a24 ?l24 ?c24 ?k24 ?a25 ?l25 ?c25 ?k25 ?a26 ?l26 ?c26 ?k26 ?a27 ?l27 ?c27 ?k27 ?a28 ?l28 ?c28 ?k28 ?a29 ?l29 ?c29 ?k29 ?a30 ?l30 ?c30 ?k30 ?a31 ?l31 ?c31 ?k31 ?a32 ?l32 ?c32 ?k32 ?a33 ?l33 ?c33 ?k33 ?a34 ?l34 ?c34 ?k34 ?bB ?bsp ?brd ?bfc ?aC_InvalidCount ?xL_InvalidCount ?sa_InvalidCount ?ga_InvalidCount ?gg_InvalidCount ?nb_InvalidCount ?a1_InvalidCount ?t1_InvalidCount ?l1_InvalidCount ?c1_InvalidCount ?kC_InvalidCount ?eC_InvalidCount ?tC_InvalidCount ?hC_InvalidCount ?iC_InvalidCount ?sC_InvalidCount ?aC_InvalidText ?xL_InvalidText ?sa_InvalidText ?ga_InvalidText ?gg_InvalidText ?nb_InvalidText ?a1_InvalidText ?t1_InvalidText ?l1_InvalidText ?c1_InvalidText ?kC_InvalidText ?eC_InvalidText ?tC_InvalidText ?hC_InvalidText ?iC_InvalidText ?sC_InvalidText ?no_InvalidCount_InvalidText ?no_InvalidText_InvalidCount ?z_abs ?z_all ?z_bool ?z_int ?z_isinstance ?z_len ?z_list ?z_max ?z_min ?z_range ?z_repr ?z_str ?z_sum ?z_tuple ?q_LETTERS)
    (case a0 => k_is)
    (case l0 => k_is)
    (case c0 => k_is)
    (case k0 => k_is)
    (case a1 => k_is)
    (case l1 => k_is)
    (case c1 => k_is)
    (case k1 => k_is)
    (case a2 => k_is)
    (case l2 => k_is)
    (case c2 => k_is)
    (case k2 => k_is)
    (case a3 => k_is)
    (case l3 => k_is)
    (case c3 => k_is)
    (case k3 => k_is)
    (case a4 => k_is)
    (case l4 => k_is)
    (case c4 => k_is)
    (case k4 => k_is)
    (case a5 => k_is)
    (case l5 => k_is)
    (case c5 => k_is)
    (case k5 => k_is)
    (case a6 => k_is)
    (case l6 => k_is)
    (case c6 => k_is)
    (case k6 => k_is)
    (case a7 => k_is)
    (case l7 => k_is)
    (case c7 => k_is)
    (case k7 => k_is)
    (case a8 => k_is)
    (case l8 => k_is)
    (case c8 => k_is)
    (case k8 => k_is)
    (case a9 => k_is)
    (case l9 => k_is)
    (case c9 => k_is)
    (case k9 => k_is)
    (case a10 => k_is)
    (case l10 => k_is)
    (case c10 => k_is)
    (case k10 => k_is)
    (case a11 => k_is)
    (case l11 => k_is)
    (case c11 => k_is)
    (case k11 => k_is)
    (case a12 => k_is)
    (case l12 => k_is)
    (case c12 => k_is)
    (case k12 => k_is)
    (case a13 => k_is)
    (case l13 => k_is)
    (case c13 => k_is)
    (case k13 => k_is)
    (case a14 => k_is)
    (case l14 => k_is)
    (case c14 => k_is)
    (case k14 => k_is)
    (case a15 => k_is)
    (case l15 => k_is)
    (case c15 => k_is)
    (case k15 => k_is)
    (case a16 => k_is)
    (case l16 => k_is)
    (case c16 => k_is)
    (case k16 => k_is)
    (case a17 => k_is)
    (case l17 => k_is)
    (case c17 => k_is)
    (case k17 => k_is)
    (case a18 => k_is)
    (case l18 => k_is)
    (case c18 => k_is)
    (case k18 => k_is)
    (case a19 => k_is)
    (case l19 => k_is)
    (case c19 => k_is)
    (case k19 => k_is)
    (case a20 => k_is)
    (case l20 => k_is)
    (case c20 => k_is)
    (case k20 => k_is)
    (case a21 => k_is)
    (case l21 => k_is)
    (case c21 => k_is)
    (case k21 => k_is)
    (case a22 => k_is)
    (case l22 => k_is)
    (case c22 => k_is)
    (case k22 => k_is)
    (case a23 => k_is)
    (case l23 => k_is)
    (case c23 => k_is)
    (case k23 => k_is)
    (case a24 => k_is)
    (case l24 => k_is)
    (case c24 => k_is)
    (case k24 => k_is)
    (case a25 => k_is)
    (case l25 => k_is)
    (case c25 => k_is)
    (case k25 => k_is)
    (case a26 => k_is)
    (case l26 => k_is)
    (case c26 => k_is)
    (case k26 => k_is)
    (case a27 => k_is)
    (case l27 => k_is)
    (case c27 => k_is)
    (case k27 => k_is)
    (case a28 => k_is)
    (case l28 => k_is)
    (case c28 => k_is)
    (case k28 => k_is)
    (case a29 => k_is)
    (case l29 => k_is)
    (case c29 => k_is)
    (case k29 => k_is)
    (case a30 => k_is)
    (case l30 => k_is)
    (case c30 => k_is)
    (case k30 => k_is)
    (case a31 => k_is)
    (case l31 => k_is)
    (case c31 => k_is)
    (case k31 => k_is)
    (case a32 => k_is)
    (case l32 => k_is)
    (case c32 => k_is)
    (case k32 => k_is)
    (case a33 => k_is)
    (case l33 => k_is)
    (case c33 => k_is)
    (case k33 => k_is)
    (case a34 => k_is)
    (case l34 => k_is)
    (case c34 => k_is)
    (case k34 => k_is)
    (case bB => k_is)
    (case bsp => k_is)
    (case brd => k_is)
    (case bfc => k_is)
    (case aC_InvalidCount => k_is)
    (case xL_InvalidCount => k_is)
    (case sa_InvalidCount => k_is)
    (case ga_InvalidCount => k_is)
    (case gg_InvalidCount => k_is)
    (case nb_InvalidCount => k_is)
    (case a1_InvalidCount => k_is)
    (case t1_InvalidCount => k_is)
    (case l1_InvalidCount => k_is)
    (case c1_InvalidCount => k_is)
    (case kC_InvalidCount => k_is)
    (case eC_InvalidCount => k_is)
    (case tC_InvalidCount => k_is)
    (case hC_InvalidCount => k_is)
    (case iC_InvalidCount => k_is)
    (case sC_InvalidCount => k_is)
    (case aC_InvalidText => k_is)
    (case xL_InvalidText => k_is)
    (case sa_InvalidText => k_is)
    (case ga_InvalidText => k_is)
    (case gg_InvalidText => k_is)
    (case nb_InvalidText => k_is)
    (case a1_InvalidText => k_is)
    (case t1_InvalidText => k_is)
    (case l1_InvalidText => k_is)
    (case c1_InvalidText => k_is)
    (case kC_InvalidText => k_is)
    (case eC_InvalidText => k_is)
    (case tC_InvalidText => k_is)
    (case hC_InvalidText => k_is)
    (case iC_InvalidText => k_is)
    (case sC_InvalidText => k_is)
    (case no_InvalidCount_InvalidText => k_is)
    (case no_InvalidText_InvalidCount => k_is)
    (case z_abs => k_is)
    (case z_all => k_is)
    (case z_bool => k_is)
    (case z_int => k_is)
    (case z_isinstance => k_is)
    (case z_len => k_is)
    (case z_list => k_is)
    (case z_max => k_is)
    (case z_min => k_is)
    (case z_range => k_is)
    (case z_repr => k_is)
    (case z_str => k_is)
    (case z_sum => k_is)
    (case z_tuple => k_is)
    (case q_LETTERS => k_is)
