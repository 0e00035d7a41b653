import PyProof.Rows.All
import Wide.All
import OpenK.AllK
import Wide.FinOn
import HandS.ForMost
import HandS.Exc
import HandS.ExcOwn
import HandS.ExcInit
import HandS.WordsExc
import HandS.TryMany
import HandS.IsInst
import HandS.StrMore
import HandS.Conv
import HandS.Wide
import HandS.Flow
import HandS.Style
import HandS.Flt
import HandS.RaiseMore
import HandS.TupAny
import HandS.Deep
import KE.KRevSl
import PyProof.Draws
import PyProof.StrBlock2
import PyProof.Rows.StrRev
import HandS.Walk
import HandS.TryOnly
import HandS.ExcSuper
import HandS.ExcField
import PyProof.StrWalks
import KE.KUnpack
import PyProof.ReprLen
import HandS.TupMul
import PyProof.EqKinds
import PyProof.NeKinds
import PyProof.ListStr
import PyProof.StrLawsFrom
import PyProof.FitsInt
import PyProof.ReprBulk
import PySem.Challenge.RW_spoiltline_k04_kinds_and_passings
set_option Elab.async false
set_option linter.all false
set_option maxRecDepth 100000
set_option maxHeartbeats 4000000
/-! SlA: defs that know that no container is being written out (guards), and their calls. -/
namespace SL
open PySem PySem.Spec PyProof.Rows L2

/-- a def's promise, kept wherever no container is being written out -/
structure FnG (P : Program) (w : World) (K : PySem.W.Frag) (mg : Str → Option Value) (base : Heap) (k : Nat) (f : Addr) (fd : FuncData) (ps : List Str) (sp : Sp) : Prop where
  len : ∀ vs H Q E, sp vs H Q E → vs.length = ps.length
  run : ∀ (A : Around) (outer : List Env) (s : Shared) (H : Hp) (args : Args) (us : List Value) (vs : List V) (Q : VK) (E : XK),
    Room k A → A.guards = some [] → Env0 P w K mg base A outer s H → BindsTo s fd args (ps.zip us) → Vals vs us → sp vs H Q E →
    codeAny (model P w) A (.call (.ref f) args) (CR (L2.CX P w) outer P w H s Q E) s

theorem gd_deeper {A : Around} {env : Env} (h : A.guards = some []) : (A.deeper env).guards = some [] := by
  first | exact h | (unfold Around.deeper; exact h) | simpa [Around.deeper] using h

section
variable {P : Program} {w : World} {K : PySem.W.Frag} {mg : Str → Option Value} {base : Heap}
/-- by the body, read at each entry -/
theorem fnG_of {x qual : Str} {st : Stmt} {f : Addr} {fd : FuncData} {N ps : List Str} {k : Nat} {sp : Sp} (F : Fun K x qual st f fd) (S : FnScope N ps (defScope st))
    (len : ∀ vs H Q E, sp vs H Q E → vs.length = ps.length)
    (hbody : ∀ (cdv : Value) (A : Around) (outer : List Env) (s : Shared) (H : Hp) (vs : List V) (Q : VK) (E : XK),
      Room k (A.deeper (envOfC qual (defScope st) s.heap.objs.size f cdv)) → (A.deeper (envOfC qual (defScope st) s.heap.objs.size f cdv)).guards = some [] → sp vs H Q E →
      ∃ t, PSs (cxOf (L2.CX P w) P w K mg base N qual (defScope st) f cdv A outer s H E) (defBody st) t ∧ t { nx := fun _ H' => Q .non H', rt := Q } (start N vs) H) :
    FnG P w K mg base (k + 1) f fd ps sp := by
  obtain ⟨oc, od, kV, doc, pm, an, cdv, ct, osl, rfl, lk, hcd⟩ := F.ex
  refine ⟨len, ?_⟩
  intro A outer s H args us vs Q E hr hg e0 hb r hsp
  have nps := len _ _ _ _ hsp
  have kin : K.In s.heap := e0.mod.kin.keeps fun b o e => (e0.bs b o e).1
  have nol : s.heap.NoLimit := e0.mod.nolimit.keeps fun b o e => (e0.bs b o e).1
  have kinds : ∀ y ∈ ps.zip us, (defScope st).names.lookup y.1 = some .local ∨ ((defScope st).names.lookup y.1 = some .cell ∧ ((cellsFrom (s.heap.objs.size + 1) (defScope st).names []).lookup y.1).isSome = true) := by
    rintro ⟨n, v⟩ hy
    have hn := (List.of_mem_zip hy).1
    cases S.par n hn with
    | inl q => exact Or.inl q
    | inr q => exact Or.inr ⟨q, PySem.W.cellsFrom_some _ _ _ (Or.inl q)⟩
  refine codeAny_call_function (Room.depth hr) (kin _ _ lk) rfl S.co S.gen rfl (PySem.W.codeRec_of kin hcd) (hb _ _ _ _ ?_)
  refine wpAny_newFunctionEnv_cells S.kind kinds ?_
  intro env henv s1 ic
  subst henv
  refine ⟨nol.keeps ic.toInCall.keep, codeAny_func ?_⟩
  obtain ⟨t, ht, hq⟩ := hbody cdv A outer s H vs Q E (Room.deeper hr _) (gd_deeper hg) hsp
  have I0 := inv_start (CX := L2.CX P w) (P := P) (w := w) (K := K) (mg := mg) (base := base) (E := E) S hr.hd e0 nps r ic
  refine wpAny_mono (ht.run [] s1 (start N vs) H _ I0 hq) ?_ fun _ _ z => z
  intro fl s' hs
  match fl, hs with
  | .ret u, ⟨v, σ', H', J, rv, q⟩ => exact ⟨v, H', J.os, J.bare, J.base, J.hok, rv, q⟩
  | .next, ⟨σ', H', J, q⟩ => exact ⟨V.non, H', J.os, J.bare, J.base, J.hok, rfl, q⟩
  | .brk, ⟨_, _, _, q⟩ => exact q.elim
  | .cont, ⟨_, _, _, q⟩ => exact q.elim

theorem FnG.mono {j k : Nat} {f : Addr} {fd : FuncData} {ps : List Str} {sp : Sp} (F : FnG P w K mg base j f fd ps sp) (h : j ≤ k) : FnG P w K mg base k f fd ps sp :=
  ⟨F.len, fun A outer s H args us vs Q E hr => F.run A outer s H args us vs Q E (hr.mono h)⟩
theorem FnG.imp {k : Nat} {f : Addr} {fd : FuncData} {ps : List Str} {sp sp' : Sp} (F : FnG P w K mg base k f fd ps sp) (h : ∀ vs H Q E, sp' vs H Q E → sp vs H Q E) : FnG P w K mg base k f fd ps sp' :=
  ⟨fun vs H Q E q => F.len vs H Q E (h _ _ _ _ q), fun A outer s H args us vs Q E hr hg e0 hb hv hs => F.run A outer s H args us vs Q E hr hg e0 hb hv (h _ _ _ _ hs)⟩
end

/-- a def of the module, callable by its name with all arguments given -/
structure Cal (P : Program) (w : World) (K : PySem.W.Frag) (mg : Str → Option Value) (base : Heap) (k : Nat) (x : Str) (ps : List Str) (sp : Sp) : Prop where
  ex : ∃ (f : Addr) (fd : FuncData), FnG P w K mg base k f fd ps sp ∧ mg x = some (.ref f) ∧ PySem.W.keepIn K (.ref f) = true ∧
    ∀ (s : Shared) (us : List Value), us.length = ps.length → BindsTo s fd ⟨us, []⟩ (ps.zip us)

section
variable {X : Cx} {k j : Nat} {x : Str} {ps : List Str} {sp : Sp} {E : L2.St → XK} {p pos : Pos} {e : Expr} {es : List Expr} {t : TA}
theorem run_g {f : Addr} {fd : FuncData} {pins : List (Addr × Obj)} {σ : L2.St} {H : Hp} {s : Shared} {Q : VK} {us : List Value} {vs : List V} (F : FnG X.prog X.w X.K X.mg X.base k f fd ps sp) (hr : Room k X.A) (hg : X.A.guards = some [])
    (hb : ∀ (s : Shared) (us : List Value), us.length = ps.length → BindsTo s fd ⟨us, []⟩ (ps.zip us)) (hx : PassesAt (L2.CX X.prog X.w) X σ (E σ))
    (I : Inv X pins σ H s) (r : Vals vs us) (h : sp vs H Q (E σ)) : wpAny (model X.prog X.w) X.A (call (.ref f) us) (EP X pins σ Q) X.xe s := by
  have hl : us.length = ps.length := by rw [← Paired.length r]; exact F.len _ _ _ _ h
  refine wpAny_call (codeAny_mono (F.run X.A X.stack s H ⟨us, []⟩ us vs Q (E σ) hr hg (Inv.env0 I) (hb s us hl) r h) ?_)
  intro rr s' hq
  match rr, hq with
  | .error ex, hq => exact hx pins H s ex s' I hq
  | .ok (.ret u), hq => exact Inv.after I hq
/-- f(e, ..) -/
theorem pe_g (c : Cal X.prog X.w X.K X.mg X.base k x ps sp) (hr : Room j X.A) (hk : k ≤ j) (hgd : X.A.guards = some []) (hg : Gl X x) (hx : ∀ σ, PassesAt (L2.CX X.prog X.w) X σ (E σ)) (ha : PA X (e :: es) t)
    (hdb : (x == ("__debug__" : Str)) = false := by decide) (he : starEach (e :: es) X.env = (false, eval e X.env) :: starEach es X.env := by rfl) (hpl : (backTo pos (starEach es X.env)).any (·.1) = false := by rfl) :
    PE X (.Call (.Name x p) (e :: es) [] pos) (tCallS sp E t) := by
  obtain ⟨f, fd, F, hm, kp, hb⟩ := c.ex
  constructor
  intro pins s σ H Q I h
  refine wpAny_Call_Name_kw (ld_glob I hg hm ?_ hdb)
  refine PySem.W.callWith_K (h₀ := X.base) I.ok.mod.kin kp (thn (ha.run pos pins s σ H _ I h) ?_) he hpl
  rintro us s1 ⟨vs, H1, I1, r, q⟩
  exact ⟨I1.kIn, run_g F (hr.mono hk) hgd hb (hx σ) I1 r q⟩
/-- f() -/
theorem pe_g0 (c : Cal X.prog X.w X.K X.mg X.base k x ps sp) (hr : Room j X.A) (hk : k ≤ j) (hgd : X.A.guards = some []) (hg : Gl X x) (hx : ∀ σ, PassesAt (L2.CX X.prog X.w) X σ (E σ))
    (hdb : (x == ("__debug__" : Str)) = false := by decide) : PE X (.Call (.Name x p) [] [] pos) (tCallS sp E tNil) := by
  obtain ⟨f, fd, F, hm, kp, hb⟩ := c.ex
  constructor
  intro pins s σ H Q I h
  refine wpAny_Call_Name_kw (ld_glob I hg hm ?_ hdb)
  exact PySem.W.callWith_K0 I.kIn kp (run_g (us := []) F (hr.mono hk) hgd hb (hx σ) I .nil h)
end

end SL
set_option Elab.async false
set_option linter.all false
set_option maxRecDepth 100000
set_option maxHeartbeats 4000000
/-! SlB: text * int, [::-1] of texts and tuples, enumerate(text), least of three; operators whatever the values are. -/
namespace SL
open PySem PySem.Spec PyProof.Rows L2

/-- a text of these signs -/
abbrev tx (l : List Nat) : Str := ⟨l.toArray⟩
theorem tx_list (z : Str) : tx z.cps.toList = z := by
  obtain ⟨⟨l⟩⟩ := z
  rfl
theorem tx_len (l : List Nat) : (tx l).length = l.length := by simp [Str.length]
theorem tx_app (l m : List Nat) : tx l ++ tx m = tx (l ++ m) := by
  show Str.mk (l.toArray ++ m.toArray) = _
  simp
theorem tx_inj {l m : List Nat} (h : tx l = tx m) : l = m := by
  have := congrArg (fun z : Str => z.cps.toList) h
  simpa using this

/-! ### text * int -/
theorem fold_app : ∀ (ls : List (Array Nat)) (acc : Array Nat), (ls.foldl (· ++ ·) acc).toList = acc.toList ++ (ls.map Array.toList).flatten
  | [], acc => by simp
  | a :: r, acc => by
    rw [List.foldl_cons, fold_app r (acc ++ a)]
    simp
theorem mul_txt (l : List Nat) (n : Int) : Txt.mul (tx l) n = tx (List.replicate n.toNat l).flatten := by
  unfold Txt.mul
  by_cases h1 : n < 1
  · rw [if_pos h1]
    have : n.toNat = 0 := by omega
    rw [this]
    rfl
  · rw [if_neg h1]
    by_cases h2 : (n == 1 || (tx l).length == 0) = true
    · rw [if_pos h2]
      rcases Bool.or_eq_true_iff.mp h2 with h | h
      · have e : n = 1 := by simpa using h
        subst e
        simp [tx]
      · have e : l = [] := by
          have h' : (tx l).length = 0 := by simpa using h
          rw [tx_len] at h'
          exact List.length_eq_zero_iff.mp h'
        subst e
        simp [tx]
    · rw [if_neg h2]
      have e := fold_app (List.replicate n.toNat (tx l).cps) #[]
      have e2 : ((List.replicate n.toNat (tx l).cps).foldl (· ++ ·) #[]) = (List.replicate n.toNat l).flatten.toArray := by
        apply Array.ext'
        rw [e]
        simp [List.map_replicate]
      rw [e2]
def rMulS : R2 := fun x y H Q => ∃ (l : List Nat) (n : Int), x = .str (tx l) ∧ y = .int n ∧ n ≤ 1000000 ∧ -1000000 ≤ n ∧ l.length ≤ 1000000 ∧ l.length * n.toNat ≤ 16777216 ∧ Q (.str (tx (List.replicate n.toNat l).flatten)) H
theorem op_mulS {X : Cx} : OpR X (binaryOp .Mult) rMulS := by
  intro pins s σ H x y v u Q I rx ry h
  obtain ⟨l, n, rfl, rfl, h1, h2, hl, hz, q⟩ := h
  obtain ⟨t, rfl⟩ := rx
  obtain ⟨t', rfl⟩ := ry
  refine SB.mul ⟨?_, fun h3 h4 => ?_, fun h3 h4 => ?_⟩ fun t2 k => ⟨.str _, H, I.tok k, ⟨t2, rfl⟩, by rw [mul_txt]; exact q⟩
  · rw [decide_eq_false (by omega), decide_eq_false (by omega)]
    rfl
  · rw [tx_len]
    have hn : 1 ≤ n := by omega
    have : (l.length : Int) ≤ (2 ^ 63 - 1) / n := by
      rw [Int.le_ediv_iff_mul_le (by omega)]
      have h5 : (l.length : Int) * n ≤ 1000000 * 1000000 := Int.mul_le_mul (by omega) h1 (by omega) (by omega)
      omega
    omega
  · rw [tx_len]
    unfold Builtin.Str.tooLong
    have hs := sizeLine_eq
    first
      | (apply decide_eq_false; omega)
      | (simp; omega)

/-! ### least of three -/
theorem call_min3I {X : Cx} (hc : X.calm = true) : CallR X (.builtin "min") (fun xs H Q => ∃ i j k, xs = [.int i, .int j, .int k] ∧ Q (.int (min (min i j) k)) H) := by
  intro pins s σ H xs us Q I r h
  obtain ⟨i, j, k, rfl, q⟩ := h
  refine call_min3Nu hc pins s σ H _ us Q I r ⟨.int i, .int j, .int k, .int (min (min i j) k), rfl, ?_, q⟩
  have two : ∀ a b : Int, nuMin2 (.int a) (.int b) = some (.int (min a b)) := by
    intro a b
    unfold nuMin2
    have e : nuLt (.int b) (.int a) = some (decide (b < a)) := by first | rfl | (unfold nuLt; rfl) | (simp [nuLt, nuCB])
    rw [e]
    show some (if decide (b < a) = true then V.int b else V.int a) = _
    by_cases h : b < a
    · rw [if_pos (decide_eq_true h)]
      congr 2
      omega
    · rw [if_neg (by simpa using h)]
      congr 2
      omega
  unfold nuMin3
  rw [two i j]
  exact two _ k

/-! ### [::-1] of texts and tuples -/
def tRevU (K : PySem.W.Frag) (te : TE) : TE := fun σ H Q => te σ H fun x H1 =>
  (∃ l : List Nat, x = .str (tx l) ∧ l.length ≤ 16777216 ∧ Q (.str (tx l.reverse)) H1) ∨
  (∃ a xs, x = .ref a ∧ SqT K H1 a xs ∧ ∀ p, H1 p = none → Q (.ref p) (upd H1 p (.tup xs.reverse)))
theorem getD_rev (l : List Nat) : ((List.range l.length).map fun k => l.toArray.getD (l.length - 1 - k) 0) = l.reverse := by
  apply List.ext_getElem
  · simp
  · intro i h1 h2
    have hi : i < l.length := by simpa using h1
    simp [Array.getD, show l.length - 1 - i < l.length by omega]
section
variable {prog : Program} {w : World} {A : Around} {E : Value → Shared → Prop} {s : Shared}
open HT in
theorem applied_rev {sl : Addr} {vl vu vs : Value} {n : Nat} {Q : Int × Int × Nat → Shared → Prop} (hs : s.heap.IsSliceOf sl vl vu vs) (pl : IsPart vl none) (pu : IsPart vu none) (ps : IsPart vs (some (-1)))
    (h : Q ((n : Int) - 1, -1, n) s) : wpAny (model prog w) A (Builtin.Slice.sliceApplied (.ref sl) (pure (n : Int))) Q E s := by
  obtain ⟨os, hos, hcs, hds⟩ := id hs
  unfold Builtin.Slice.sliceApplied Builtin.Slice.sliceFields
  refine wpAny_bind (wpAny_bind (wpAny_field hos hds (x := vl) rfl (wpAny_bind (wpAny_field hos hds (x := vu) rfl (wpAny_bind (wpAny_field hos hds (x := vs) rfl (wpAny_pure ?_)))))))
  refine wpAny_bind (slicePart_ ps ?_)
  show wpAny _ _ (if ((-1 : Int) == 0) = true then _ else _) _ _ s
  rw [if_neg (by decide)]
  refine wpAny_bind (slicePart_ pl (wpAny_bind (slicePart_ pu (wpAny_bind (wpAny_pure ?_)))))
  have e1 : Builtin.Slice.sliceAdjust none none (-1) (n : Int) = ((n : Int) - 1, -1) := rfl
  show wpAny _ _ (match Builtin.Slice.sliceAdjust none none (-1) (n : Int) with | (lo, hi) => pure (lo, (-1 : Int), Builtin.Slice.slicePlaces lo hi (-1))) _ _ s
  rw [e1]
  have e2 : Builtin.Slice.slicePlaces ((n : Int) - 1) (-1) (-1) = n := by
    unfold Builtin.Slice.slicePlaces
    rw [if_neg (by decide)]
    by_cases h0 : (n : Int) - 1 > -1
    · rw [if_pos h0]
      have : ((n : Int) - 1 - -1 - 1) / (- -1) = (n : Int) - 1 := by
        rw [show (- -1 : Int) = 1 from by decide, Int.ediv_one]
        omega
      rw [this]
      omega
    · rw [if_neg h0]
      omega
  show wpAny _ _ (pure ((n : Int) - 1, (-1 : Int), Builtin.Slice.slicePlaces ((n : Int) - 1) (-1) (-1))) _ _ s
  rw [e2]
  exact wpAny_pure h
theorem fmap_congr {α β : Type} {f g : α → Option β} : ∀ {l : List α}, (∀ a ∈ l, f a = g a) → l.filterMap f = l.filterMap g
  | [], _ => rfl
  | a :: r, h => by
    rw [List.filterMap_cons, List.filterMap_cons, h a List.mem_cons_self, fmap_congr fun b hb => h b (List.mem_cons_of_mem _ hb)]
theorem pick_rev (xs : Array Value) : ((List.range xs.size).filterMap fun (m : Nat) => xs[((xs.size : Int) - 1 + (m : Int) * -1).toNat]?).toArray = xs.toList.reverse.toArray := by
  have e : ∀ m ∈ List.range xs.size, xs[((xs.size : Int) - 1 + (m : Int) * -1).toNat]? = ((fun k => xs[k]?) ∘ fun k => xs.size - 1 - k) m := by
    intro m hm
    have : m < xs.size := List.mem_range.mp hm
    show _ = xs[xs.size - 1 - m]?
    congr 1
    omega
  rw [fmap_congr e, ← List.filterMap_map, PySem.W.krv_range, List.filterMap_reverse, PySem.W.krv_all]
open HT in
theorem getItem_tuple_rev {t sl : Addr} {items : Array Value} {vl vu vs : Value} {Q : Value → Shared → Prop} (ht : IsTup s.heap t items) (hs : s.heap.IsSliceOf sl vl vu vs) (pl : IsPart vl none) (pu : IsPart vu none) (ps : IsPart vs (some (-1)))
    (h : Q (.ref s.heap.objs.size) { s with heap := s.heap.push { cls := .type "tuple", data := .seq items.toList.reverse.toArray } })
    (hsz : items.size ≤ sizeLine) : wpAny (model prog w) A (getItem (.ref t) (.ref sl)) Q E s := by
  have fits : sizeOk (.seq items.toList.reverse.toArray) := by
    show items.toList.reverse.toArray.size ≤ sizeLine
    rw [List.size_toArray, List.length_reverse, Array.length_toList]
    exact hsz
  obtain ⟨os, hos, hcs, hds⟩ := id hs
  have isS : s.TypeIs (.ref sl) "slice" := ⟨os, hos, hcs⟩
  unfold getItem
  try with_reducible refine wpAny_holding ?_
  first | refine wpAny_bind (wpAny_pure ?_) | skip
  refine wpAny_bind (wpAny_sequenceKey ht.typeIs (by decide) ?_)
  refine wpAny_bind (wpAny_callSpecial?_slot (name := Str.ofString "__getitem__") ht.typeIs PyProof.Rows.slot_tuple_getitem
    (wpAny_call_entry PyProof.Rows.slot_tuple_getitem ht.typeIs entry_tuple_getitem ?_ (args_tuple_getitem _ _)))
  show wpAny _ _ (Builtin.Tuple.tupleItemsOf (.ref t) >>= _) _ _ s
  refine wpAny_bind (tupleItemsOf_ ht ?_)
  refine wpAny_bind (wpAny_typeOf isS ?_)
  rw [if_pos (by decide)]
  refine wpAny_bind (applied_rev hs pl pu ps ?_)
  have no : ¬ ((((items.size : Int) - 1 == 0) && (-1 : Int) == 1 && items.size == items.size) = true) := by simp
  show wpAny _ _ (if (((items.size : Int) - 1 == 0) && (-1 : Int) == 1 && items.size == items.size) = true then _ else _) _ _ s
  rw [if_neg no, pick_rev]
  first
    | exact wpAny_bind (m := Builtin.Tuple.tupleExact _) (wpAny_newObj_type (wpAny_pure ⟨_, rfl, wpAny_pure h⟩) fits)
    | exact wpAny_bind (m := Builtin.Tuple.tupleExact _) (wpAny_newObj_type (wpAny_bind (wpAny_pure (wpAny_pure ⟨_, rfl, wpAny_pure h⟩))) fits)
    | exact wpAny_bind (wpAny_bind (m := Builtin.Tuple.tupleExact _) (wpAny_newObj_type (wpAny_pure (wpAny_pure ⟨_, rfl, wpAny_pure h⟩)) fits))
    | exact wpAny_bind (wpAny_bind (m := Builtin.Tuple.tupleExact _) (wpAny_newObj_type (wpAny_pure ⟨_, rfl, wpAny_pure h⟩) fits))
end
theorem pe_revU {X : Cx} {e : Expr} {te : TE} {k : Nat} {p1 p2 p3 pos : Pos} (he : PE X e te) :
    PE X (.Subscript e (.Slice none none (some (.UnaryOp .USub (.Constant (.int 1) k p1) p2)) p3) pos) (tRevU X.K te) := by
  constructor
  intro pins s σ H Q I h
  refine Subscript_ (thn (he.run pins s σ H _ I h) ?_)
  rintro v s1 ⟨x, H1, I1, r1, q1⟩
  have st : PO X (some (.UnaryOp .USub (.Constant (.int 1) k p1) p2)) (tPart (tUn (rU fun i => .int (-i)) (tC (.int 1)))) := po_some (pe_un un_neg pe_int)
  refine wpAny_Slice (thn (po_none.run pins s1 σ H1 (fun o H2 => o = none ∧ H2 = H1) I1 ⟨rfl, rfl⟩) ?_)
  rintro vl s2 ⟨o2, H2, I2, pl, rfl, rfl⟩
  refine thn (po_none.run pins s2 σ H2 (fun o H3 => o = none ∧ H3 = H2) I2 ⟨rfl, rfl⟩) ?_
  rintro vu s3 ⟨o3, H3, I3, pu, rfl, rfl⟩
  refine thn (st.run pins s3 σ H3 (fun o H4 => o = some (-1) ∧ H4 = H3) I3 ⟨1, rfl, -1, rfl, rfl, rfl⟩) ?_
  rintro vs s4 ⟨o4, H4, I4, ps, rfl, rfl⟩
  have I5 : Inv X pins σ H4 { s4 with heap := s4.heap.push { cls := .type "slice", data := .fields #[vl, vu, vs] } } := I4.kept (t' := s4.toks) fun b ob q => Heap.get?_push_of_some _ q
  rcases q1 with ⟨l, rfl, hz, q⟩ | ⟨a, xs, rfl, hx, q⟩
  · obtain ⟨t, rfl⟩ := r1
    refine tail_any (ops := [.str (tx l) t, .ref s4.heap.objs.size]) (typeIs_str _ _ _) F.slot_str_getitem.lookup ?_ (by with_unfolding_all rfl)
    obtain ⟨l1, rfl, e1⟩ := IsPart.raw pl
    obtain ⟨u1, rfl, e2⟩ := IsPart.raw pu
    obtain ⟨w1, rfl, e3⟩ := IsPart.raw ps
    obtain rfl : l1 = none := by cases l1 with | none => rfl | some _ => cases e1
    obtain rfl : u1 = none := by cases u1 with | none => rfl | some _ => cases e2
    obtain ⟨i, tk, rfl⟩ : ∃ i tk, w1 = some (i, tk) := by cases w1 with | none => cases e3 | some p => exact ⟨p.1, p.2, rfl⟩
    obtain rfl : i = -1 := Option.some.inj e3
    refine wpAny_getItem_str_slice (l := none) (u := none) (st := some (-1, tk)) ⟨_, Heap.get?_push_size _ rfl, rfl, rfl⟩ rfl ?_
    have ee : (tx l.reverse) = ⟨((Builtin.Str.strSliceIndices none none (-1) (tx l).length).filterMap ((tx l).cps[·]?)).toArray⟩ := by
      rw [PyProof.Rows.picked_rev, PyProof.Rows.filterMap_get, List.map_map]
      · rw [tx_len, ← getD_rev l]
        rfl
      · intro i hi
        obtain ⟨k, hk, rfl⟩ := List.mem_map.mp hi
        have hk' : k < (tx l).length := List.mem_range.mp hk
        show (tx l).length - 1 - k < (tx l).length
        omega
    have hl : (tx l.reverse).length ≤ sizeLine := by
      rw [tx_len, List.length_reverse, sizeLine_eq]
      exact hz
    unfold sliceMade
    have no : ¬ ((((some ((-1 : Int), tk)).map (·.1)).getD 1 == 1 && (slicePicked (tx l) none none (some (-1, tk))).length == (tx l).length) = true) := by
      have : (((some ((-1 : Int), tk)).map (·.1)).getD 1 == 1) = false := rfl
      rw [this]
      simp
    rw [if_neg no]
    have em : slicePicked (tx l) none none (some (-1, tk)) = Builtin.Str.strSliceIndices none none (-1) (tx l).length := rfl
    rw [em, ← ee]
    exact ⟨hl, .str _, H4, I5.tok _, ⟨_, rfl⟩, q⟩
  · cases r1
    obtain ⟨its, r, ht, hz⟩ := I5.tuple hx
    refine tail_any (ops := [.ref a, .ref s4.heap.objs.size]) ht.typeIs (PyProof.Rows.slot_tuple_getitem.lookup) ?_ (by with_unfolding_all rfl)
    have hl := r.length
    refine getItem_tuple_rev ht (Heap.IsSliceOf.new _ vl vu vs) pl pu ps ?_ (by rw [List.size_toArray]; omega)
    refine ⟨.ref _, _, I5.laid (t' := s4.toks) (o := .tup xs.reverse) (fun b ob q => Heap.get?_push_of_some _ q) (Nat.le_refl _) ?_, rfl, q _ (I5.hok.fresh (Nat.le_refl _))⟩
    exact ⟨by rw [List.length_reverse]; exact hz, _, r.reverse, IsTup.new _ _⟩
end SL
set_option Elab.async false
set_option linter.all false
set_option maxRecDepth 100000
set_option maxHeartbeats 4000000
/-! SlC: for i, c in enumerate(text). -/
namespace SL
open PySem PySem.Spec PyProof.Rows L2
/-- the signs of a text, each in a new pair with its place -/
def Ites (z : Str) : It :=
  ⟨fun i _ => i < z.cps.size, fun i H v H' => ∃ T c, v = .ref T ∧ H T = none ∧ H' = upd H T (.tup [.int (i : Nat), .str ⟨#[c]⟩]) ∧ z.cps[i]? = some c, fun i _ => i = z.cps.size⟩
theorem drawn {X : Cx} (hh : X.A.in1.handled = none) (it : Addr) (z : Str) (t : Tok) (ty : String) (hty : ty = "str_ascii_iterator" ∨ ty = "str_iterator") :
    Draws X.prog X.w X.A.in1 it [it] z.cps.size (SignAt z) (fun i h => h.IsStrIter it ty z t i) := by
  rcases hty with e | e
  · rw [e]
    exact Draws.strAscii hh it z t
  · rw [e]
    exact Draws.strWide hh it z t
theorem turn_enumS {P : Program} {w : World} {K : PySem.W.Frag} {elts : List Expr} {kk : Nat} {tpos : Pos} (z : Str) (t : Tok) (ty : String) (hty : ty = "str_ascii_iterator" ∨ ty = "str_iterator") (e it : Addr) :
    Turn P w K (.Tuple elts kk tpos) (Ites z) [e, it] e (fun i h => (∃ old, IsEnum h e it ((i : Nat) : Int) old) ∧ h.IsStrIter it ty z t i ∧ e ≠ it) where
  mem := by simp
  obj := fun i h st b hb => by
    obtain ⟨⟨old, he⟩, ⟨o, ho, hc, hd⟩, _⟩ := st
    have two : b = e ∨ b = it := by simpa using hb
    cases two with
    | inl q => rw [q]; exact ⟨_, he, fun v y => nomatch y⟩
    | inr q => rw [q]; exact ⟨o, ho, fun v y => by rw [hd] at y; cases y⟩
  keep := fun i h h' st k => by
    obtain ⟨⟨old, he⟩, ⟨o, ho, hc, hd⟩, hne⟩ := st
    exact ⟨⟨old, k e (by simp) _ he⟩, ⟨o, k it (by simp) o ho, hc, hd⟩, hne⟩
  item := by
    intro X hP hw hK hc i pins s σ H E I hf st hg
    subst hP hw hK
    obtain ⟨⟨old, he⟩, hit, hne⟩ := st
    have hel : e < s.heap.objs.size := Heap.lt_size he
    have hil : it < s.heap.objs.size := by obtain ⟨_, q, _⟩ := hit; exact Heap.lt_size q
    have dr := drawn (X := X) (I.ok.hd hc) it z t ty hty
    refine wpAny_pyNext_enum_itemD dr he hit hg hne (by simpa using hne) ?_
    intro x h' tk hx ho hit' hT hsz hk
    obtain ⟨c, u, hcx, rfl⟩ := hx
    refine ⟨_, rfl, wpAny_letOwnedTupleGo_enum (s := { s with heap := h', toks := tk + 1 }) ho ?_⟩
    intro h'' he' sb
    have hT2 : h''.get? s.heap.objs.size = some { cls := .type "tuple", data := .seq #[.int i tk, .str ⟨#[c]⟩ u] } := (sb.2 _ (Nat.ne_of_gt hel)).trans hT
    have new : ObjOk X.prog X.w (upd H s.heap.objs.size (.tup [.int (i : Nat), .str ⟨#[c]⟩])) h'' s.heap.objs.size (.tup [.int (i : Nat), .str ⟨#[c]⟩]) :=
      ⟨by show 2 ≤ sizeLine; decide, [.int i tk, .str ⟨#[c]⟩ u], .cons ⟨_, rfl⟩ (.cons ⟨_, rfl⟩ .nil), ⟨_, hT2, rfl, _, rfl⟩⟩
    have I1 : Inv X pins σ (upd H s.heap.objs.size (.tup [.int (i : Nat), .str ⟨#[c]⟩])) { s with heap := h'', toks := tk + 1 } :=
      I.turnedNew (ch := [e, it]) (fun b ob hb q => (sb.2 b (fun y => hb (by simp [y]))).trans (hk b ob (fun y => hb (by simp [y])) (fun y => hb (by simp [y])) q)) hf (Nat.le_refl _) new
    refine ⟨.ref s.heap.objs.size, _, I1, rfl, ⟨_, c, rfl, I.hok.fresh (Nat.le_refl _), rfl, hcx⟩, ⟨⟨.str ⟨#[c]⟩ u, ?_⟩, ?_, hne⟩, fun b hb => ?_⟩
    · have e1 : ((i + 1 : Nat) : Int) = (i : Int) + 1 := by omega
      rw [e1]
      exact he'
    · obtain ⟨o, ho2, hc2, hd2⟩ := hit'
      exact ⟨o, (sb.2 it (Ne.symm hne)).trans ho2, hc2, hd2⟩
    · have lt : b < s.heap.objs.size := by
        have two : b = e ∨ b = it := by simpa using hb
        cases two with
        | inl q => rw [q]; exact hel
        | inr q => rw [q]; exact hil
      rw [upd_ne (Nat.ne_of_lt lt)]
      exact (hf b hb).1
  done := by
    intro X hP hw hK hc i pins s σ H E I hf st hg
    subst hP hw hK
    obtain ⟨⟨old, he⟩, hit, hne⟩ := st
    obtain ⟨f0, f1, f2, f3, f4, f5⟩ := hf it (by simp)
    have dr := drawn (X := X) (I.ok.hd hc) it z t ty hty
    have hi : i = z.cps.size := hg
    subst hi
    refine wpAny_pyNext_enum_endD dr he hit ?_
    intro h' eb
    exact ⟨rfl, I.turned (t' := s.toks) (fun b o hb q => eb b o hb q) f0 f1 f3 f4 f5⟩
  self := fun A i s Q E st h => by
    obtain ⟨⟨_, he⟩, _⟩ := st
    exact wpAny_pyIter_enum he h
def iEnumS (ta : TA) : TI := fun σ H R => ta σ H fun vs H1 => ∃ z, vs = [.str z] ∧ R (Ites z) H1
theorem pi_enumS {X : Cx} {e : Expr} {ta : TA} {p pos tpos : Pos} {elts : List Expr} {kk : Nat} (hg : Gl X "enumerate") (hm : X.mg "enumerate" = none) (ha : PA X [e] ta) (hs : starEach [e] X.env = [(false, eval e X.env)] := by rfl) :
    PI X (.Tuple elts kk tpos) (.Call (.Name "enumerate" p) [e] [] pos) (iEnumS ta) := by
  constructor
  intro pins s σ H R I h
  refine Call_ (ld_blt I hg hm boot_enumerate (PyProof.Rows.callWith_type1 (thn (ha.run pos pins s σ H _ I h) ?_) hs rfl))
  rintro us s1 ⟨vs, H1, I1, r1, z, rfl, q⟩
  obtain ⟨u, rfl, ru⟩ : ∃ u, us = [u] ∧ RelV (.str z) u := by
    cases r1 with
    | cons r rr =>
      cases rr
      exact ⟨_, rfl, r⟩
  obtain ⟨t, rfl⟩ := ru
  refine call_enumerate_str ?_
  intro h' he hit hsz hk
  refine wpAny_pyIter_enum he ?_
  have I2 : Inv X pins σ H1 { s1 with heap := h' } := I1.kept (t' := s1.toks) hk
  have hty : strIterType z = "str_ascii_iterator" ∨ strIterType z = "str_iterator" := by
    unfold strIterType
    split <;> simp
  refine ⟨s1.heap.objs.size + 1, [s1.heap.objs.size + 1, s1.heap.objs.size], _, _, H1, rfl, I2, turn_enumS z t _ hty (s1.heap.objs.size + 1) s1.heap.objs.size, ⟨⟨.none, he⟩, hit, Nat.succ_ne_self _⟩, fun b hb => ?_, q⟩
  have two : b = s1.heap.objs.size + 1 ∨ b = s1.heap.objs.size := by simpa using hb
  have hle : s1.heap.objs.size ≤ b := by
    cases two with
    | inl y => rw [y]; exact Nat.le_add_right _ _
    | inr y => rw [y]; exact Nat.le_refl _
  exact I1.fpOk hle (I1.hok.fresh hle)
end SL
set_option Elab.async false
set_option linter.all false
set_option maxRecDepth 100000
set_option maxHeartbeats 4000000
/-! SlD: operators whatever the values are, and each reading's step (w_..), to be taken from the left. -/
namespace SL
open PySem PySem.Spec PyProof.Rows L2
abbrev SSt := L2.St

/-! ### heaps -/
/-- all but p stands -/
def Fr (p : Addr) (H H' : Hp) : Prop := ∀ b o, H b = some o → b ≠ p → H' b = some o
theorem Fr.refl (p : Addr) (H : Hp) : Fr p H H := fun _ _ h _ => h
theorem Fr.trans {p : Addr} {H H1 H2 : Hp} (a : Fr p H H1) (b : Fr p H1 H2) : Fr p H H2 := fun c o h n => b c o (a c o h n) n
theorem Fr.of {p : Addr} {H H' : Hp} (a : Same H H') : Fr p H H' := fun c o h _ => a c o h
theorem Fr.put {p : Addr} {H H' : Hp} {o : HO} (a : Fr p H H') : Fr p H (upd H' p o) := fun c u h n => by rw [upd_ne n]; exact a c u h n
theorem Fr.new {p q : Addr} {H H' : Hp} {o : HO} (a : Fr p H H') (hq : H' q = none) (hp : ∃ u, H p = some u) : Fr p H (upd H' q o) := fun c u h n => by
  have n2 : c ≠ q := ne_of_none (a c u h n) hq
  rw [upd_ne n2]
  exact a c u h n
theorem Same.new {q : Addr} {H H' : Hp} {o : HO} (a : Same H H') (hq : H' q = none) : Same H (upd H' q o) := fun c u h => by
  rw [upd_ne (ne_of_none (a c u h) hq)]
  exact a c u h
theorem same_new {q : Addr} {H : Hp} {o : HO} (hq : H q = none) : Same H (upd H q o) := Same.new (Same.refl H) hq
/-- a new list that grows -/
theorem Same.grow {q : Addr} {H H' : Hp} {o : HO} (a : Same H H') (hq : H q = none) : Same H (upd H' q o) := fun c u h => by
  rw [upd_ne (ne_of_none h hq)]
  exact a c u h
theorem Same.none {H H' : Hp} {q : Addr} (a : Same H H') (hq : H' q = none) : H q = none := a.free hq
theorem rd_new {H : Hp} {a p : Addr} {o u : HO} (hp : H p = none) (h : Rd H a u) : Rd (upd H p o) a u := by
  rcases h with h | ⟨x, h⟩
  · exact .inl (by rw [upd_ne (ne_of_none h hp)]; exact h)
  · exact .inr ⟨x, by rw [upd_ne (ne_of_none h hp)]; exact h⟩
theorem sql_new {K : PySem.W.Frag} {H : Hp} {a p : Addr} {o : HO} {xs : List V} (hp : H p = none) (h : SqL K H a xs) : SqL K (upd H p o) a xs := by
  rcases h with h | h
  · exact .inl (rd_new hp h)
  · exact .inr h
theorem sqt_new {K : PySem.W.Frag} {H : Hp} {a p : Addr} {o : HO} {xs : List V} (hp : H p = none) (h : SqT K H a xs) : SqT K (upd H p o) a xs := by
  rcases h with h | h
  · exact .inl (rd_new hp h)
  · exact .inr h
theorem sql_upd {K : PySem.W.Frag} {H : Hp} {a p : Addr} {o : HO} {xs : List V} (n : a ≠ p) (h : SqL K H a xs) : SqL K (upd H p o) a xs := by
  rcases h with (h | ⟨x, h⟩) | h
  · exact .inl (.inl (by rw [upd_ne n]; exact h))
  · exact .inl (.inr ⟨x, by rw [upd_ne n]; exact h⟩)
  · exact .inr h
theorem sqt_upd {K : PySem.W.Frag} {H : Hp} {a p : Addr} {o : HO} {xs : List V} (n : a ≠ p) (h : SqT K H a xs) : SqT K (upd H p o) a xs := by
  rcases h with (h | ⟨x, h⟩) | h
  · exact .inl (.inl (by rw [upd_ne n]; exact h))
  · exact .inl (.inr ⟨x, by rw [upd_ne n]; exact h⟩)
  · exact .inr h
theorem Same.seqT {K : PySem.W.Frag} {H H' : Hp} {a : Addr} {xs : List V} (e : Same H H') (h : SqT K H a xs) : SqT K H' a xs := by
  rcases h with (h | ⟨o, h⟩) | h
  · exact .inl (.inl (e _ _ h))
  · exact .inl (.inr ⟨o, e _ _ h⟩)
  · exact .inr h

/-! ### operators -/
def rAddU (K : PySem.W.Frag) : R2 := fun x y H Q => (∃ i j, x = .int i ∧ y = .int j ∧ Q (.int (i + j)) H) ∨ (∃ i j, x = .str i ∧ y = .str j ∧ i.length + j.length ≤ sizeLine ∧ Q (.str (i ++ j)) H) ∨ rCat x y H Q ∨ rCatA K x y H Q
theorem uAdd {X : Cx} : OpR X (binaryOp .Add) (rAddU X.K) := op_add.or (op_add_str.or (op_cat.or op_catA))
def rMulU : R2 := fun x y H Q => (∃ i j, x = .int i ∧ y = .int j ∧ CMul i j ∧ Q (.int (i * j)) H) ∨ rMulS x y H Q
theorem uMul {X : Cx} : OpR X (binaryOp .Mult) rMulU := op_mul.or op_mulS
def rSubU : R2 := fun x y H Q => ∃ i j, x = .int i ∧ y = .int j ∧ Q (.int (i - j)) H
theorem uSub {X : Cx} : OpR X (binaryOp .Sub) rSubU := op_sub
def rModU : R2 := fun x y H Q => ∃ i j, x = .int i ∧ y = .int j ∧ 0 < j ∧ Q (.int (i % j)) H
theorem uMod {X : Cx} : OpR X (binaryOp .Mod) rModU := op_mod
def rDivU : R2 := fun x y H Q => ∃ i j, x = .int i ∧ y = .int j ∧ CDiv i j ∧ Q (.int (i / j)) H
theorem uDiv {X : Cx} : OpR X (binaryOp .FloorDiv) rDivU := op_fdiv
def rPowU : R2 := fun x y H Q => ∃ i j, x = .int i ∧ y = .int j ∧ CPow i j ∧ Q (.int (i ^ j.toNat)) H
theorem uPow {X : Cx} : OpR X (binaryOp .Pow) rPowU := op_pow
def rLtU : R2 := fun x y H Q => ∃ i j, x = .int i ∧ y = .int j ∧ Q (.bl (decide (i < j))) H
theorem uLt {X : Cx} : OpR X (compareOp .Lt) rLtU := op_lt
def rLeU : R2 := fun x y H Q => ∃ i j, x = .int i ∧ y = .int j ∧ Q (.bl (decide (i ≤ j))) H
theorem uLe {X : Cx} : OpR X (compareOp .LtE) rLeU := op_le
def rGtU : R2 := fun x y H Q => ∃ i j, x = .int i ∧ y = .int j ∧ Q (.bl (decide (j < i))) H
theorem uGt {X : Cx} : OpR X (compareOp .Gt) rGtU := op_gt
def rGeU : R2 := fun x y H Q => ∃ i j, x = .int i ∧ y = .int j ∧ Q (.bl (decide (j ≤ i))) H
theorem uGe {X : Cx} : OpR X (compareOp .GtE) rGeU := op_ge
def rEqU (K : PySem.W.Frag) : R2 := fun x y H Q => rEq x y H Q ∨ rEqD K x y H Q
theorem uEq {X : Cx} {k : Nat} (hr : Room k X.A) : OpR X (compareOp .Eq) (rEqU X.K) := op_eq.or (op_eqD hr.units)
def rNeU (K : PySem.W.Frag) : R2 := fun x y H Q => rNe x y H Q ∨ rNeD K x y H Q
theorem uNe {X : Cx} {k : Nat} (hr : Room k X.A) : OpR X (compareOp .NotEq) (rNeU X.K) := op_ne.or (op_neD hr.units)
def rInU (K : PySem.W.Frag) : R2 := fun x y H Q => (∃ (c : Nat) (z : Str), x = .str ⟨#[c]⟩ ∧ y = .str z ∧ Q (.bl (decide (c ∈ z.cps.toList))) H) ∨ rIn K false x y H Q
theorem uIn {X : Cx} : OpR X (compareOp .In) (rInU X.K) := op_in_sign.or op_in_seq
def rSlU (K : PySem.W.Frag) : V → Option Int → Option Int → Hp → VK → Prop := fun x lo hi H Q => rSlL K x lo hi H Q ∨ rSlS x lo hi H Q ∨ rSlA K x lo hi H Q
theorem uSl {X : Cx} : SlR X (rSlU X.K) := sl_list.or (sl_str.or sl_tupA)
/-- a written text, by its signs -/
theorem pe_tx {X : Cx} {x : Str} {j : Nat} {pos : Pos} (l : List Nat) (h : x = tx l) : PE X (.Constant (.str x) j pos) (tC (.str (tx l))) := by
  rw [h]
  exact pe_str

/-! ### the steps -/
section
variable {K : PySem.W.Frag} {σ : SSt} {H : Hp} {Q : VK} {D : Ends} {ta tb tc te to : TE} {t tr tk : TA} {tt tu : TT} {t1 t2 : TS} {r : R2} {i j k : Int} {n m : Nat} {b c : Bool} {v w : V} {l z : List Nat} {p q a : Addr} {xs ys zs : List V} {sp : Sp} {E : SSt → XK}
theorem w_var (h : σ[n]? = some (some v)) (q : Q v H) : tVar n σ H Q := ⟨v, h, q⟩
theorem w_c (q : Q v H) : tC v σ H Q := q
theorem w_op (q : ta σ H fun x H1 => tb σ H1 fun y H2 => r x y H2 Q) : tOp r ta tb σ H Q := q
theorem w_un {u : V → Hp → VK → Prop} (q : ta σ H fun x H1 => u x H1 Q) : tUn u ta σ H Q := q
theorem w_neg (q : Q (.int (-i)) H) : rU (fun i => .int (-i)) (.int i) H Q := ⟨i, rfl, q⟩
theorem w_nil {Q : List V → Hp → Prop} (q : Q [] H) : tNil σ H Q := q
theorem w_cons {Q : List V → Hp → Prop} (q : ta σ H fun x H1 => tr σ H1 fun xs H2 => Q (x :: xs) H2) : tCons ta tr σ H Q := q
theorem w_call (q : t σ H fun vs H1 => sp vs H1 Q (E σ)) : tCallS sp E t σ H Q := q
theorem w_cb {u : List V → Hp → VK → Prop} (q : t σ H fun vs H1 => u vs H1 Q) : tCB u t σ H Q := q
theorem w_bm {T : String} {u : V → List V → Hp → VK → Prop} (q : to σ H fun x H1 => tyV K T x H1 ∧ t σ H1 fun xs H2 => u x xs H2 Q) : tBM K T u to t σ H Q := q
theorem w_bm0 {T : String} {u : V → List V → Hp → VK → Prop} (q : to σ H fun x H1 => tyV K T x H1 ∧ u x [] H1 Q) : tBM0 K T u to σ H Q := q
theorem w_m1 {u : V → List V → Hp → VK → Prop} (q : to σ H fun x H1 => (∃ a, x = .str a) ∧ te σ H1 fun y H2 => u x [y] H2 Q) : tM1 u to te σ H Q := q
theorem w_test {Q : Bool → Hp → Prop} (q : te σ H fun x H' => ∃ k, x = .bl k ∧ Q k H') : tTest te σ H Q := q
theorem w_B {Q : Bool → Hp → Prop} (q : te σ H fun x H' => ∃ k, x = .bl k ∧ Q k H') : tB te σ H Q := q
theorem w_k {Q : Bool → Prop} (q : Q b) : ∃ k, V.bl b = .bl k ∧ Q k := ⟨b, rfl, q⟩
theorem w_and {Q : Bool → Hp → Prop} (q : tt σ H fun c H1 => if c = true then tu σ H1 Q else Q false H1) : tAnd tt tu σ H Q := q
theorem w_or {Q : Bool → Hp → Prop} (q : tt σ H fun c H1 => if c = true then Q true H1 else tu σ H1 Q) : tOr tt tu σ H Q := q
theorem w_not {Q : Bool → Hp → Prop} (q : tt σ H fun c H1 => Q (!c) H1) : tNot tt σ H Q := q
theorem w_andV (q : ta σ H fun x H1 => ∃ c, x = .bl c ∧ if c = true then tb σ H1 Q else Q (.bl false) H1) : tAndV ta tb σ H Q := q
theorem w_orV (q : ta σ H fun x H1 => ∃ c, x = .bl c ∧ if c = true then Q (.bl true) H1 else tb σ H1 Q) : tOrV ta tb σ H Q := q
theorem w_notV (q : ta σ H fun x H1 => ∃ c, x = .bl c ∧ Q (.bl (!c)) H1) : tNotV ta σ H Q := q
theorem w_ifE (q : tt σ H fun c H1 => if c = true then ta σ H1 Q else tb σ H1 Q) : tIf tt ta tb σ H Q := q
theorem w_tup (q : t σ H fun xs H1 => xs.length ≤ sizeLine ∧ ∀ p, H1 p = none → Q (.ref p) (upd H1 p (.tup xs))) : tTup t σ H Q := q
theorem w_lst (q : t σ H fun xs H1 => xs.length ≤ sizeLine ∧ ∀ p, H1 p = none → Q (.ref p) (upd H1 p (.lst xs))) : tLst t σ H Q := q
theorem w_chain {r' : R2} (q : ta σ H fun x H1 => tb σ H1 fun y H2 => r x y H2 fun z H3 => ∃ k, z = .bl k ∧ (if k = true then tc σ H3 fun w' H4 => r' y w' H4 Q else Q (.bl false) H3)) : tChain r r' ta tb tc σ H Q := q
theorem w_sl {u : V → Option Int → Option Int → Hp → VK → Prop} {tl th : TO} (q : te σ H fun x H1 => tl σ H1 fun lo H2 => th σ H2 fun hi H3 => u x lo hi H3 Q) : tSl u te tl th σ H Q := q
theorem w_np {Q : Option Int → Hp → Prop} (q : Q none H) : tNoPart σ H Q := q
theorem w_part {Q : Option Int → Hp → Prop} (q : te σ H fun x H1 => ∃ i, x = .int i ∧ Q (some i) H1) : tPart te σ H Q := q
theorem w_i {Q : Int → Prop} (q : Q i) : ∃ k, V.int i = .int k ∧ Q k := ⟨i, rfl, q⟩
/-! statements -/
theorem w_seq (q : t1 { D with nx := t2 D } σ H) : tSeq t1 t2 D σ H := q
theorem w_next (q : D.nx σ H) : tNext D σ H := q
theorem w_brk (q : D.bk σ H) : tBreak D σ H := q
theorem w_cont (q : D.ct σ H) : tCont D σ H := q
theorem w_asg {g : TG} (q : te σ H fun x H1 => g x σ H1 D.nx) : tAsg te g D σ H := q
theorem w_name {Q : SSt → Hp → Prop} (q : Q (σ.set n (some v)) H) : gName n v σ H Q := q
theorem w_par {t : TA} (q : t σ H fun vs H1 => ∃ v w, vs = [v, w] ∧ D.nx ((σ.set n (some v)).set m (some w)) H1) : tPar n m t D σ H := q
theorem w_two {Q : V → V → Prop} (q : Q v w) : ∃ x y, [v, w] = [x, y] ∧ Q x y := ⟨v, w, rfl, q⟩
theorem w_ret (q : te σ H D.rt) : tRet te D σ H := q
theorem w_retN (q : D.rt .non H) : tRetN D σ H := q
theorem w_drop (q : te σ H fun _ H1 => D.nx σ H1) : tDrop te D σ H := q
theorem w_ifS (q : tt σ H fun b H1 => if b = true then t1 D σ H1 else t2 D σ H1) : tIfS tt t1 t2 D σ H := q
theorem w_gtup {tg : TGs} {Q : SSt → Hp → Prop} (q : ∃ a xs, v = .ref a ∧ SqT K H a xs ∧ xs.length = n ∧ tg xs σ H Q) : gTup K n tg v σ H Q := q
theorem w_gnil {Q : SSt → Hp → Prop} (q : Q σ H) : gNil [] σ H Q := ⟨rfl, q⟩
theorem w_gcons {g : TG} {gs : TGs} {Q : SSt → Hp → Prop} (q : g v σ H fun σ' H' => gs xs σ' H' Q) : gCons g gs (v :: xs) σ H Q := ⟨v, xs, rfl, q⟩
theorem w_sub {ti : TE} {s : TSet} {Q : SSt → Hp → Prop} (q : to σ H fun o H1 => ti σ H1 fun i H2 => s o i v H2 fun H3 => Q σ H3) : gSub to ti s v σ H Q := q
theorem w_aug {ti : TIp} (h : σ[n]? = some (some v)) (q : te σ H fun y H1 => ti v y H1 fun z H2 => D.nx (σ.set n (some z)) H2) : tAug n te ti D σ H := ⟨v, h, q⟩
/-! values -/
theorem w_addI (q : Q (.int (i + j)) H) : rAddU K (.int i) (.int j) H Q := .inl ⟨i, j, rfl, rfl, q⟩
theorem w_addS (q : Q (.str (tx (l ++ z))) H) (h : l.length + z.length ≤ 16777216) : rAddU K (.str (tx l)) (.str (tx z)) H Q :=
  .inr (.inl ⟨tx l, tx z, rfl, rfl, by rw [tx_len, tx_len, sizeLine_eq]; exact h, by rw [tx_app]; exact q⟩)
theorem w_addL (h1 : H p = some (.lst xs)) (h2 : H q = some (.lst ys)) (h : xs.length + ys.length ≤ 16777216) (k : ∀ a, H a = none → Q (.ref a) (upd H a (.lst (xs ++ ys)))) : rAddU K (.ref p) (.ref q) H Q :=
  .inr (.inr (.inl ⟨p, q, xs, ys, rfl, rfl, h1, h2, by rw [sizeLine_eq]; exact h, k⟩))
theorem w_mulI (q : Q (.int (i * j)) H) (h : CMul i j) : rMulU (.int i) (.int j) H Q := .inl ⟨i, j, rfl, rfl, h, q⟩
theorem w_mulS (q : Q (.str (tx (List.replicate i.toNat l).flatten)) H) (h : i ≤ 1000000 ∧ -1000000 ≤ i ∧ l.length ≤ 1000000 ∧ l.length * i.toNat ≤ 16777216) : rMulU (.str (tx l)) (.int i) H Q :=
  .inr ⟨l, i, rfl, rfl, h.1, h.2.1, h.2.2.1, h.2.2.2, q⟩
theorem w_subI (q : Q (.int (i - j)) H) : rSubU (.int i) (.int j) H Q := ⟨i, j, rfl, rfl, q⟩
theorem w_modI (q : Q (.int (i % j)) H) (h : 0 < j) : rModU (.int i) (.int j) H Q := ⟨i, j, rfl, rfl, h, q⟩
theorem w_divI (q : Q (.int (i / j)) H) (h : 0 < j ∧ j < 1073741824) : rDivU (.int i) (.int j) H Q := ⟨i, j, rfl, rfl, h, q⟩
theorem w_powI (q : Q (.int (i ^ j.toNat)) H) (h : 0 ≤ j ∧ j ≤ 1000000 ∧ i.natAbs < 2 ^ 64) : rPowU (.int i) (.int j) H Q := ⟨i, j, rfl, rfl, h, q⟩
theorem w_lt (q : Q (.bl (decide (i < j))) H) : rLtU (.int i) (.int j) H Q := ⟨i, j, rfl, rfl, q⟩
theorem w_le (q : Q (.bl (decide (i ≤ j))) H) : rLeU (.int i) (.int j) H Q := ⟨i, j, rfl, rfl, q⟩
theorem w_gt (q : Q (.bl (decide (j < i))) H) : rGtU (.int i) (.int j) H Q := ⟨i, j, rfl, rfl, q⟩
theorem w_ge (q : Q (.bl (decide (j ≤ i))) H) : rGeU (.int i) (.int j) H Q := ⟨i, j, rfl, rfl, q⟩
theorem w_eqI (q : Q (.bl (decide (i = j))) H) : rEqU K (.int i) (.int j) H Q := .inl ⟨rfl, by
  have e : decide (V.int i = V.int j) = decide (i = j) := decide_eq_decide.mpr ⟨fun h => V.int.inj h, fun h => by rw [h]⟩
  rw [e]; exact q⟩
theorem w_neI (q : Q (.bl (!decide (i = j))) H) : rNeU K (.int i) (.int j) H Q := .inl ⟨rfl, by
  have e : decide (V.int i = V.int j) = decide (i = j) := decide_eq_decide.mpr ⟨fun h => V.int.inj h, fun h => by rw [h]⟩
  rw [e]; exact q⟩
theorem str_dec : decide (V.str (tx l) = V.str (tx z)) = decide (l = z) := decide_eq_decide.mpr ⟨fun h => tx_inj (V.str.inj h), fun h => by rw [h]⟩
theorem w_eqS (q : Q (.bl (decide (l = z))) H) : rEqU K (.str (tx l)) (.str (tx z)) H Q := .inl ⟨rfl, by rw [str_dec]; exact q⟩
theorem w_neS (q : Q (.bl (!decide (l = z))) H) : rNeU K (.str (tx l)) (.str (tx z)) H Q := .inl ⟨rfl, by rw [str_dec]; exact q⟩
theorem w_ixL (h : SqL K H p xs) (hi : atI xs i = some v) (q : Q v H) : rIx K (.ref p) (.int i) H Q := .inl ⟨p, xs, i, v, rfl, rfl, h, hi, q⟩
theorem w_ixT (h : SqT K H p xs) (hi : atI xs i = some v) (q : Q v H) : rIx K (.ref p) (.int i) H Q := .inr (.inl ⟨p, xs, i, v, rfl, rfl, h, hi, q⟩)
theorem w_ixS {c : Nat} (hi : atI l i = some c) (q : Q (.str (tx [c])) H) (h : l.length ≤ 16777216) : rIx K (.str (tx l)) (.int i) H Q :=
  .inr (.inr ⟨tx l, i, c, rfl, rfl, by rw [tx_len, sizeLine_eq]; exact h, hi, q⟩)
theorem w_lenS (q : Q (.int (l.length : Int)) H) (h : l.length ≤ 16777216) : (fun xs H Q => ∃ x n, xs = [x] ∧ LenV K x H n ∧ Q (.int (n : Nat)) H : List V → Hp → VK → Prop) [.str (tx l)] H Q :=
  ⟨_, l.length, rfl, ⟨by rw [tx_len, sizeLine_eq]; exact h, (tx_len l).symm⟩, q⟩
theorem w_lenL (h : SqL K H p xs) (q : Q (.int (xs.length : Int)) H) : (fun xs H Q => ∃ x n, xs = [x] ∧ LenV K x H n ∧ Q (.int (n : Nat)) H : List V → Hp → VK → Prop) [.ref p] H Q :=
  ⟨_, xs.length, rfl, .inl ⟨xs, h, rfl⟩, q⟩
theorem w_lenT (h : SqT K H p xs) (q : Q (.int (xs.length : Int)) H) : (fun xs H Q => ∃ x n, xs = [x] ∧ LenV K x H n ∧ Q (.int (n : Nat)) H : List V → Hp → VK → Prop) [.ref p] H Q :=
  ⟨_, xs.length, rfl, .inr ⟨xs, h, rfl⟩, q⟩
end
end SL
set_option Elab.async false
set_option linter.all false
set_option maxRecDepth 100000
set_option maxHeartbeats 4000000
/-! SlE: the defs of a text, the end of a law, built-ins whatever the values are. -/
namespace SL
open PySem PySem.Spec PyProof.Rows L2
/-- a def of the text stands under its name -/
structure DefAt (K : PySem.W.Frag) (mg : Str → Option Value) (x : Str) (st : Stmt) (ps : List Str) : Prop where
  ex : ∃ (f : Addr) (fd : FuncData), Fun K x x st f fd ∧ mg x = some (.ref f) ∧ ∀ (s : Shared) (us : List Value), us.length = ps.length → BindsTo s fd ⟨us, []⟩ (ps.zip us)
theorem DefAt.of {K : PySem.W.Frag} {mg : Str → Option Value} {x : Str} {st : Stmt} {ps : List Str} (f : Addr) (fd : FuncData) (F : Fun K x x st f fd) (hm : mg x = some (.ref f))
    (hb : ∀ (s : Shared) (us : List Value), us.length = ps.length → BindsTo s fd ⟨us, []⟩ (ps.zip us)) : DefAt K mg x st ps := ⟨⟨f, fd, F, hm, hb⟩⟩
abbrev E0s : SSt → XK := fun _ => E0
theorem noX {X : Cx} : ∀ σ, PassesAt (L2.CX X.prog X.w) X σ (E0s σ) := fun σ _ _ _ _ _ _ h => by
  obtain ⟨_, _, _, _, _, _, _, _, _, _, _, _, z⟩ := h
  exact z.elim
section
variable {P : Program} {w : World} {K : PySem.W.Frag} {mg : Str → Option Value} {base : Heap} {x : Str} {st : Stmt} {N ps : List Str} {k : Nat} {sp : Sp}
theorem fn0 {f : Addr} {fd : FuncData} (F : Fun K x x st f fd) (S : FnScope N ps (defScope st)) (len : ∀ vs H Q E, sp vs H Q E → vs.length = ps.length)
    (hbody : ∀ (cdv : Value) (f : Addr) (A : Around) (outer : List Env) (s : Shared) (H : Hp) (vs : List V) (Q : VK) (E : XK),
      Room k (A.deeper (envOfC x (defScope st) s.heap.objs.size f cdv)) → (A.deeper (envOfC x (defScope st) s.heap.objs.size f cdv)).guards = some [] → sp vs H Q E →
      ∃ t, PSs (cxOf (L2.CX P w) P w K mg base N x (defScope st) f cdv A outer s H E).nox (defBody st) t ∧ t { nx := fun _ H' => Q .non H', rt := Q } (start N vs) H) : FnG P w K mg base (k + 1) f fd ps sp :=
  fnG_of F S len fun cdv A outer s H vs Q E hr hg h => by
    obtain ⟨t, h1, h2⟩ := hbody cdv f A outer s H vs Q E hr hg h
    exact ⟨t, h1.nox, h2⟩
/-- a def that lets nothing out -/
theorem cal0 (D : DefAt K mg x st ps) (S : FnScope N ps (defScope st)) (len : ∀ vs H Q E, sp vs H Q E → vs.length = ps.length)
    (hbody : ∀ (cdv : Value) (f : Addr) (A : Around) (outer : List Env) (s : Shared) (H : Hp) (vs : List V) (Q : VK) (E : XK),
      Room k (A.deeper (envOfC x (defScope st) s.heap.objs.size f cdv)) → (A.deeper (envOfC x (defScope st) s.heap.objs.size f cdv)).guards = some [] → sp vs H Q E →
      ∃ t, PSs (cxOf (L2.CX P w) P w K mg base N x (defScope st) f cdv A outer s H E).nox (defBody st) t ∧ t { nx := fun _ H' => Q .non H', rt := Q } (start N vs) H) : Cal P w K mg base (k + 1) x ps sp := by
  obtain ⟨f, fd, F, hm, hb⟩ := D.ex
  exact ⟨f, fd, fn0 F S len hbody, hm, F.kp, hb⟩
/-- a def that may raise -/
theorem calX (D : DefAt K mg x st ps) (S : FnScope N ps (defScope st)) (len : ∀ vs H Q E, sp vs H Q E → vs.length = ps.length)
    (hbody : ∀ (cdv : Value) (f : Addr) (A : Around) (outer : List Env) (s : Shared) (H : Hp) (vs : List V) (Q : VK) (E : XK),
      Room k (A.deeper (envOfC x (defScope st) s.heap.objs.size f cdv)) → (A.deeper (envOfC x (defScope st) s.heap.objs.size f cdv)).guards = some [] → sp vs H Q E →
      ∃ t, PSs (cxOf (L2.CX P w) P w K mg base N x (defScope st) f cdv A outer s H E) (defBody st) t ∧ t { nx := fun _ H' => Q .non H', rt := Q } (start N vs) H) : Cal P w K mg base (k + 1) x ps sp := by
  obtain ⟨f, fd, F, hm, hb⟩ := D.ex
  exact ⟨f, fd, fnG_of F S len fun cdv A outer s H vs Q E hr hg h => hbody cdv f A outer s H vs Q E hr hg h, hm, F.kp, hb⟩
end

/-! ### the end of a law -/
/-- the law's call, from the heap behind the top; H tracks nothing but the script -/
theorem law_enter {P : Program} {w : World} {K : PySem.W.Frag} {mg mb : Str → Option Value} {k : Nat} {fa a : Addr} {fd : FuncData} {x : Str} {sp : Sp} {s₁ : Shared} {vs : List Value} {H : Hp}
    (KX : K.In s₁.heap) (hns : s₁.heap.Ns mainGlobals mg) (hb : s₁.heap.Ns builtinsNs mb) (hbb : ∀ x : Str, x ≠ "__name__" → mb x = bootBuiltins x) (hlim : s₁.heap.NoLimit) (hg : s₁.gens = #[])
    (ha : s₁.heap.get? a = some { cls := .type "list", data := .seq vs.toArray }) (hr : Room k callerA)
    (F : ∀ base : Heap, K.In base → base.Ns mainGlobals mg → FnG P w K mg base k fa fd [x] sp) (hbind : ∀ (s : Shared) (u : Value), BindsTo s fd ⟨[u], []⟩ [(x, u)])
    (hO : Only H) (hok : HOk P w H s₁.heap) (hA : ∀ b, H b ≠ none → b = a) (hK : H a ≠ none → K.lookup a = none)
    (hsp : sp [.ref a] H (fun v _ => v = .bl true) fun _ _ _ => False) :
    codeAny (model P w) callerA (.call (.ref fa) ⟨[.ref a], []⟩) (fun r s' => r = .ok (.ret (.bool true)) ∧ OldK s₁.heap s'.heap ∧ s'.os = s₁.os ∧ AllBare s'.gens) s₁ := by
  have only : ∀ b, H b = none ∨ b = a := fun b => by
    cases q : H b with
    | none => exact Or.inl rfl
    | some _ => exact Or.inr (hA b (by rw [q]; exact Option.some_ne_none _))
  have hid : ∀ {b : Addr} {o : Obj}, s₁.heap.get? b = some o → H b = none → (hidT s₁.heap H).get? b = some o := fun e n => hidT_get e n
  have notDict : ∀ {b : Addr} {o : Obj} {es : Array DictEntry} {ep : Nat}, s₁.heap.get? b = some o → o.data = .dict es ep → H b = none := fun {b o es ep} e d => by
    rcases only b with q | q
    · exact q
    · rw [q, ha] at e
      cases e
      cases (show Data.seq vs.toArray _ = Data.dict es ep from d)
  have keepNs : ∀ {b : Addr} {m : Str → Option Value}, s₁.heap.Ns b m → (hidT s₁.heap H).Ns b m := fun {b m} ⟨o, es, ep, e, d, r⟩ => ⟨o, es, ep, hid e (notDict e d), d, r⟩
  have kb : K.In (hidT s₁.heap H) := fun b o e => hid (KX b o e) (by
    rcases only b with q | q
    · exact q
    · cases z : H b with
      | none => rfl
      | some u =>
        rw [q] at z e
        rw [hK (by rw [z]; exact Option.some_ne_none _)] at e
        cases e)
  have lim : (hidT s₁.heap H).NoLimit := by
    obtain ⟨mc, h1, h2⟩ := hlim
    exact ⟨mc, keepNs h1, h2⟩
  have md : Mod K mg (hidT s₁.heap H) := ⟨kb, keepNs hns, ⟨mb, keepNs hb, hbb⟩, lim⟩
  have e0 : Env0 P w K mg (hidT s₁.heap H) callerA [] s₁ H :=
    ⟨rfl, md, fun b o e => of_hidT e, Nat.le_of_eq (hidT_size _ _), trivial, fun b z => absurd (show b ∈ ([] : List Addr) from z) List.not_mem_nil, hok, AllBare.of_eq hg⟩
  refine codeAny_mono ((F _ kb (keepNs hns)).run callerA [] s₁ H ⟨[.ref a], []⟩ [.ref a] [.ref a] _ _ hr rfl e0 (hbind s₁ (.ref a)) (.cons rfl .nil) hsp) ?_
  intro r s' h
  match r, h with
  | .error e, h =>
    obtain ⟨_, _, _, _, _, _, _, _, _, _, _, _, z⟩ := h
    exact z.elim
  | .ok (.ret u), ⟨v, H', os, bare, un, hok', r', q⟩ =>
    have q' : v = .bl true := q
    subst q'
    obtain rfl : u = Value.bool true := r'
    refine ⟨rfl, OldK.of_keep fun b o e => ?_, os, bare⟩
    cases z : H b with
    | none => exact un.keep b o e z (fun y => absurd (show b ∈ ([] : List Addr) from y) List.not_mem_nil) List.not_mem_nil
    | some u =>
      rcases hO b with y | ⟨ob, xs, y⟩
      · rw [z] at y
        cases y
      · obtain ⟨e1, _⟩ := hok b _ y
        obtain ⟨e2, _⟩ := hok' b _ (un.frzs b ob _ y)
        rw [e] at e1
        cases e1
        exact e2
theorem law_any {P : Program} {w : World} {K : PySem.W.Frag} {mg mb : Str → Option Value} {k : Nat} {fa a : Addr} {fd : FuncData} {x : Str} {sp : Sp} {s₁ : Shared} {vs : List Value} {ns : List Int}
    (KX : K.In s₁.heap) (hns : s₁.heap.Ns mainGlobals mg) (hb : s₁.heap.Ns builtinsNs mb) (hbb : ∀ x : Str, x ≠ "__name__" → mb x = bootBuiltins x) (hlim : s₁.heap.NoLimit) (hg : s₁.gens = #[])
    (ha : s₁.heap.get? a = some { cls := .type "list", data := .seq vs.toArray }) (hi : IntsAre vs ns) (hl : ns.length ≤ sizeLine) (hr : Room k callerA)
    (F : ∀ base : Heap, K.In base → base.Ns mainGlobals mg → FnG P w K mg base k fa fd [x] sp) (hbind : ∀ (s : Shared) (u : Value), BindsTo s fd ⟨[u], []⟩ [(x, u)])
    (hsp : ∀ H : Hp, Only H → SqL K H a (ns.map V.int) → sp [.ref a] H (fun v _ => v = .bl true) fun _ _ _ => False) :
    codeAny (model P w) callerA (.call (.ref fa) ⟨[.ref a], []⟩) (fun r s' => r = .ok (.ret (.bool true)) ∧ OldK s₁.heap s'.heap ∧ s'.os = s₁.os ∧ AllBare s'.gens) s₁ := by
  have rv := vals_ints hi
  have lenV := hi.length
  cases hk : K.lookup a with
  | some o =>
    have e := KX a o hk
    rw [ha] at e
    cases e
    have hO : Only (fun _ => none) := fun _ => Or.inl rfl
    refine law_enter (H := fun _ => none) KX hns hb hbb hlim hg ha hr F hbind hO (fun b u z => nomatch z) (fun b z => absurd rfl z) (fun z => absurd rfl z) (hsp _ hO (Or.inr ⟨_, vs.toArray, _, hk, rfl, rfl, rfl, ?_, by simpa using rv⟩))
    rw [List.size_toArray, lenV]
    exact hl
  | none =>
    have at_a : (fun b => if b = a then some (HO.frz { cls := .type "list", data := .seq vs.toArray } (.lst (ns.map V.int))) else none : Hp) a = some (HO.frz { cls := .type "list", data := .seq vs.toArray } (.lst (ns.map V.int))) := if_pos rfl
    have off_a : ∀ b, b ≠ a → (fun b => if b = a then some (HO.frz { cls := .type "list", data := .seq vs.toArray } (.lst (ns.map V.int))) else none : Hp) b = none := fun b hb => if_neg hb
    have hO : Only (fun b => if b = a then some (HO.frz { cls := .type "list", data := .seq vs.toArray } (.lst (ns.map V.int))) else none) := fun b => by
      by_cases hb : b = a
      · subst hb
        exact Or.inr ⟨_, _, at_a⟩
      · exact Or.inl (off_a b hb)
    refine law_enter KX hns hb hbb hlim hg ha hr F hbind hO (fun b u z => ?_) (fun b z => ?_) (fun _ => hk) (hsp _ hO (Or.inl (Or.inr ⟨_, at_a⟩)))
    · by_cases hb : b = a
      · subst hb
        have z2 := Option.some.inj (at_a.symm.trans z)
        subst z2
        exact ⟨ha, by rw [List.length_map]; exact hl, vs, _, rv, ha⟩
      · cases (off_a b hb).symm.trans z
    · by_cases hb : b = a
      · exact hb
      · exact absurd (off_a b hb) z
theorem walk_g {l : PySem.W.OpenLaw} {n k : Nat} {q : Program} {loose : List Str} {XP : (Str → Option Value) → Heap → Prop} {YP : World → Heap → Prop} {d : DefRec} {K : Params → PySem.W.Frag} {sp : PySem.W.Frag → Sp} {x : Str}
    (hn : l.most = some n) (hn2 : n ≤ sizeLine) (hdf : d.params.defaults = []) (hr : Room k callerA)
    (hY : ∀ (w : World) (h : Heap), YP w h → (K w.params).In h)
    (F : ∀ (w : World) (mg : Str → Option Value) (fa : Addr) (h : Heap), (K w.params).In h → h.Ns mainGlobals mg → mg d.name = some (.ref fa) →
      ∃ fd : FuncData, (∀ (s : Shared) (u : Value), BindsTo s fd ⟨[u], []⟩ [(x, u)]) ∧
        ∀ base : Heap, (K w.params).In base → base.Ns mainGlobals mg → FnG l.prog w (K w.params) mg base k fa fd [x] (sp (K w.params)))
    (hsp : ∀ (K : PySem.W.Frag) (H : Hp) (a : Addr) (ns : List Int), ns.length ≤ n → Only H → SqL K H a (ns.map V.int) → sp K [.ref a] H (fun v _ => v = .bl true) fun _ _ _ => False) :
    PySem.W.WalkO q loose XP YP l.row.toRowW d [] (fun f vs => PySem.call f vs) := by
  refine Att.attach_call hn hdf ?_
  intro w s₀ s₁ mg mb fa o pm cd doc a vs ns G Y ho hd hcd hmg hobj hints hlen hg
  have KX := hY w _ Y
  obtain ⟨fd, hb, hF⟩ := F w mg fa _ KX G.T.g hmg
  exact law_any KX G.T.g G.T.b G.T.builtins G.T.nolimit hg hobj hints (Nat.le_trans hlen hn2) hr hF hb fun H hO hS => hsp _ H a ns hlen hO hS

/-! ### built-ins -/
section
variable {X : Cx}
def rLenU (K : PySem.W.Frag) : List V → Hp → VK → Prop := fun xs H Q => ∃ x n, xs = [x] ∧ LenV K x H n ∧ Q (.int n) H
theorem uLen : CallR X (.builtin "len") (rLenU X.K) := call_len
def rAbsU : List V → Hp → VK → Prop := fun xs H Q => ∃ i, xs = [.int i] ∧ Q (.int (if i < 0 then -i else i)) H
theorem uAbs : CallR X (.builtin "abs") rAbsU := call_abs
def rIntU : List V → Hp → VK → Prop := fun xs H Q => (∃ i, xs = [.int i] ∧ Q (.int i) H) ∨ ∃ k, xs = [.bl k] ∧ Q (.int (if k then 1 else 0)) H
theorem uInt : CallR X (.type "int") rIntU := call_int1
theorem uIsi : CallR X (.builtin "isinstance") (rIsi X.K) := call_isi
theorem uIsiT : CallR X (.builtin "isinstance") (rIsiT X.K) := call_isiT
def rMin2U : List V → Hp → VK → Prop := fun xs H Q => ∃ i j, xs = [.int i, .int j] ∧ Q (.int (if j < i then j else i)) H
theorem uMin2 (hc : X.calm = true) : CallR X (.builtin "min") rMin2U := call_min2 hc
def rMax2U : List V → Hp → VK → Prop := fun xs H Q => ∃ i j, xs = [.int i, .int j] ∧ Q (.int (if j > i then j else i)) H
theorem uMax2 (hc : X.calm = true) : CallR X (.builtin "max") rMax2U := call_max2 hc
def rMin3U : List V → Hp → VK → Prop := fun xs H Q => ∃ i j k, xs = [.int i, .int j, .int k] ∧ Q (.int (min (min i j) k)) H
theorem uMin3 (hc : X.calm = true) : CallR X (.builtin "min") rMin3U := call_min3I hc
def rListU (K : PySem.W.Frag) : List V → Hp → VK → Prop := fun xs H Q => ∃ p ys, xs = [.ref p] ∧ (SqL K H p ys ∨ SqT K H p ys) ∧ ∀ l, H l = none → Q (.ref l) (upd H l (.lst ys))
theorem uList : CallR X (.type "list") (rListU X.K) := call_list_of
def rReprI : List V → Hp → VK → Prop := fun xs H Q => ∃ i, xs = [.int i] ∧ i.natAbs.log2 < 1920 ∧ Q (.str (toString i)) H
theorem uReprI : CallR X (.builtin "repr") rReprI := SkE.call_repr_int
section
variable {K : PySem.W.Frag} {H : Hp} {Q : VK} {i j k : Int} {v : V} {b : Bool} {l : List Nat} {p : Addr} {xs : List V} {ns : List Int} {n : String}
theorem w_lenS' (q : Q (.int (l.length : Int)) H) (h : l.length ≤ 16777216) : rLenU K [.str (tx l)] H Q := ⟨_, l.length, rfl, ⟨by rw [tx_len, sizeLine_eq]; exact h, (tx_len l).symm⟩, q⟩
theorem w_lenL' (h : SqL K H p xs) (q : Q (.int (xs.length : Int)) H) : rLenU K [.ref p] H Q := ⟨_, xs.length, rfl, .inl ⟨xs, h, rfl⟩, q⟩
theorem w_lenT' (h : SqT K H p xs) (q : Q (.int (xs.length : Int)) H) : rLenU K [.ref p] H Q := ⟨_, xs.length, rfl, .inr ⟨xs, h, rfl⟩, q⟩
theorem w_abs (q : Q (.int (if i < 0 then -i else i)) H) : rAbsU [.int i] H Q := ⟨i, rfl, q⟩
theorem w_int (q : Q (.int i) H) : rIntU [.int i] H Q := .inl ⟨i, rfl, q⟩
theorem w_intB (q : Q (.int (if b then 1 else 0)) H) : rIntU [.bl b] H Q := .inr ⟨b, rfl, q⟩
theorem w_min2 (q : Q (.int (if j < i then j else i)) H) : rMin2U [.int i, .int j] H Q := ⟨i, j, rfl, q⟩
theorem w_max2 (q : Q (.int (if j > i then j else i)) H) : rMax2U [.int i, .int j] H Q := ⟨i, j, rfl, q⟩
theorem w_min3 (q : Q (.int (min (min i j) k)) H) : rMin3U [.int i, .int j, .int k] H Q := ⟨i, j, k, rfl, q⟩
theorem w_listL (h : SqL K H p xs) (q : ∀ l, H l = none → Q (.ref l) (upd H l (.lst xs))) : rListU K [.ref p] H Q := ⟨p, xs, rfl, .inl h, q⟩
theorem w_listT (h : SqT K H p xs) (q : ∀ l, H l = none → Q (.ref l) (upd H l (.lst xs))) : rListU K [.ref p] H Q := ⟨p, xs, rfl, .inr h, q⟩
theorem w_reprI (q : Q (.str (toString i)) H) (h : i.natAbs < 2 ^ 1000) : rReprI [.int i] H Q := ⟨i, rfl, by
  by_cases h0 : i.natAbs = 0
  · rw [h0]; decide
  · exact Nat.lt_trans ((Nat.log2_lt h0).mpr h) (by decide), q⟩
theorem w_sum (h : SqL K H p (ns.map V.int)) (q : Q (.int ns.sum) H) : rSum K [.ref p] H Q := ⟨p, ns, rfl, h, q⟩
theorem w_isiS (q : Q (.bl (n == "str")) H) (h : n = "str" ∨ n = "int" ∨ n = "bool" ∨ n = "list" ∨ n = "tuple") : rIsi K [.str (tx l), .ty n] H Q := by
  refine ⟨_, _, .type "str", .type n, n == "str", rfl, .ty n, .base (.str _), kit_ty ?_, q⟩
  rcases h with rfl | rfl | rfl | rfl | rfl <;> decide +kernel
theorem w_isiI (q : Q (.bl (n == "int")) H) (h : n = "str" ∨ n = "int" ∨ n = "bool" ∨ n = "list" ∨ n = "tuple") : rIsi K [.int i, .ty n] H Q := by
  refine ⟨_, _, .type "int", .type n, n == "int", rfl, .ty n, .base (.int _), kit_ty ?_, q⟩
  rcases h with rfl | rfl | rfl | rfl | rfl <;> decide +kernel
theorem w_isiT (h0 : H p = some (.tup xs)) (q : Q (.bl (n == "tuple")) H) (h : n = "str" ∨ n = "int" ∨ n = "bool" ∨ n = "list" ∨ n = "tuple") : rIsi K [.ref p, .ty n] H Q := by
  refine ⟨_, _, .type "tuple", .type n, n == "tuple", rfl, .ty n, .base (.tup h0), kit_ty ?_, q⟩
  rcases h with rfl | rfl | rfl | rfl | rfl <;> decide +kernel
theorem w_isiL (h0 : H p = some (.lst xs)) (q : Q (.bl (n == "list")) H) (h : n = "str" ∨ n = "int" ∨ n = "bool" ∨ n = "list" ∨ n = "tuple") : rIsi K [.ref p, .ty n] H Q := by
  refine ⟨_, _, .type "list", .type n, n == "list", rfl, .ty n, .base (.lst h0), kit_ty ?_, q⟩
  rcases h with rfl | rfl | rfl | rfl | rfl <;> decide +kernel
end
end
end SL
set_option Elab.async false
set_option linter.all false
set_option maxRecDepth 100000
set_option maxHeartbeats 4000000
/-! SlF: slices by their parts, items by their places, ways to say what stands where. -/
namespace SL
open PySem PySem.Spec PyProof.Rows L2
theorem sIx_to (n d : Nat) {i : Int} (h : 0 ≤ i) : HT.sIx n d (some i) = min i.toNat n := by
  obtain ⟨k, rfl⟩ := Int.eq_ofNat_of_zero_le h
  exact HT.sIx_nat n d k
theorem sIx_no (n d : Nat) : HT.sIx n d none = d := HT.sIx_none n d
section
variable {α : Type}
theorem take_min (xs : List α) (k : Nat) : xs.take (min k xs.length) = xs.take k := by
  by_cases h : k ≤ xs.length
  · rw [Nat.min_eq_left h]
  · rw [Nat.min_eq_right (by omega), List.take_length, List.take_of_length_le (by omega)]
theorem drop_min (xs : List α) (k : Nat) : xs.drop (min k xs.length) = xs.drop k := by
  by_cases h : k ≤ xs.length
  · rw [Nat.min_eq_left h]
  · rw [Nat.min_eq_right (by omega), List.drop_length, List.drop_of_length_le (by omega)]
theorem part_to (xs : List α) {i : Int} (h : 0 ≤ i) : (xs.drop (HT.sIx xs.length 0 none)).take (HT.sIx xs.length xs.length (some i) - HT.sIx xs.length 0 none) = xs.take i.toNat := by
  rw [sIx_no, sIx_to _ _ h, List.drop_zero, Nat.sub_zero, take_min]
theorem part_from (xs : List α) {i : Int} (h : 0 ≤ i) : (xs.drop (HT.sIx xs.length 0 (some i))).take (HT.sIx xs.length xs.length none - HT.sIx xs.length 0 (some i)) = xs.drop i.toNat := by
  rw [sIx_no, sIx_to _ _ h, drop_min]
  by_cases hk : i.toNat ≤ xs.length
  · rw [Nat.min_eq_left hk, ← List.length_drop, List.take_length]
  · rw [List.drop_of_length_le (by omega), List.take_nil]
theorem part_all (xs : List α) : (xs.drop (HT.sIx xs.length 0 none)).take (HT.sIx xs.length xs.length none - HT.sIx xs.length 0 none) = xs := by
  rw [sIx_no, sIx_no, List.drop_zero, Nat.sub_zero, List.take_length]
end
theorem cutV_to (xs : List V) {i : Int} (h : 0 ≤ i) : cutV xs none (some i) = xs.take i.toNat := part_to xs h
theorem cutV_from (xs : List V) {i : Int} (h : 0 ≤ i) : cutV xs (some i) none = xs.drop i.toNat := part_from xs h
theorem cutS_to (l : List Nat) {i : Int} (h : 0 ≤ i) : cutS (tx l) none (some i) = tx (l.take i.toNat) := by
  unfold cutS
  rw [tx_len]
  show tx _ = _
  rw [part_to l h]
theorem cutS_from (l : List Nat) {i : Int} (h : 0 ≤ i) : cutS (tx l) (some i) none = tx (l.drop i.toNat) := by
  unfold cutS
  rw [tx_len]
  show tx _ = _
  rw [part_from l h]
section
variable {K : PySem.W.Frag} {H : Hp} {Q : VK} {i j : Int} {l : List Nat} {p : Addr} {xs : List V}
theorem w_sSt (q : Q (.str (tx (l.take i.toNat))) H) (h : 0 ≤ i ∧ l.length ≤ 16777216) : rSlU K (.str (tx l)) none (some i) H Q :=
  .inr (.inl ⟨_, rfl, by rw [tx_len, sizeLine_eq]; exact h.2, by rw [cutS_to l h.1]; exact q⟩)
theorem w_sSf (q : Q (.str (tx (l.drop i.toNat))) H) (h : 0 ≤ i ∧ l.length ≤ 16777216) : rSlU K (.str (tx l)) (some i) none H Q :=
  .inr (.inl ⟨_, rfl, by rw [tx_len, sizeLine_eq]; exact h.2, by rw [cutS_from l h.1]; exact q⟩)
theorem w_sLt (h1 : SqL K H p xs) (h : 0 ≤ i) (q : ∀ a, H a = none → Q (.ref a) (upd H a (.lst (xs.take i.toNat)))) : rSlU K (.ref p) none (some i) H Q :=
  .inl ⟨p, xs, rfl, h1, by rw [cutV_to xs h]; exact q⟩
theorem w_sLf (h1 : SqL K H p xs) (h : 0 ≤ i) (q : ∀ a, H a = none → Q (.ref a) (upd H a (.lst (xs.drop i.toNat)))) : rSlU K (.ref p) (some i) none H Q :=
  .inl ⟨p, xs, rfl, h1, by rw [cutV_from xs h]; exact q⟩
theorem w_revS (q : Q (.str (tx l.reverse)) H) (h : l.length ≤ 16777216) : (∃ m : List Nat, V.str (tx l) = .str (tx m) ∧ m.length ≤ 16777216 ∧ Q (.str (tx m.reverse)) H) ∨
    (∃ a ys, V.str (tx l) = .ref a ∧ SqT K H a ys ∧ ∀ p, H p = none → Q (.ref p) (upd H p (.tup ys.reverse))) := .inl ⟨l, rfl, h, q⟩
theorem w_revU {te : TE} {σ : SSt} (q : te σ H fun x H1 => (∃ l : List Nat, x = .str (tx l) ∧ l.length ≤ 16777216 ∧ Q (.str (tx l.reverse)) H1) ∨
  (∃ a xs, x = .ref a ∧ SqT K H1 a xs ∧ ∀ p, H1 p = none → Q (.ref p) (upd H1 p (.tup xs.reverse)))) : tRevU K te σ H Q := q
theorem fr_get {p b : Addr} {H' : Hp} {o : HO} (f : Fr p H H') (g : H b = some o) (n : b ≠ p) : H' b = some o := f b o g n
theorem same_get {b : Addr} {H' : Hp} {o : HO} (f : Same H H') (g : H b = some o) : H' b = some o := f b o g
theorem none_same {b : Addr} {H' : Hp} (f : Same H H') (g : H' b = none) : H b = none := f.free g
theorem fr_sql {b : Addr} {H' : Hp} (f : Fr b H H') (h : SqL K H p xs) (n : p ≠ b) : SqL K H' p xs := by
  rcases h with (h | ⟨o, h⟩) | h
  · exact .inl (.inl (f _ _ h n))
  · exact .inl (.inr ⟨o, f _ _ h n⟩)
  · exact .inr h
theorem fr_sqt {b : Addr} {H' : Hp} (f : Fr b H H') (h : SqT K H p xs) (n : p ≠ b) : SqT K H' p xs := by
  rcases h with (h | ⟨o, h⟩) | h
  · exact .inl (.inl (f _ _ h n))
  · exact .inl (.inr ⟨o, f _ _ h n⟩)
  · exact .inr h
theorem atI_n {α : Type} {xs : List α} {n : Nat} {v : α} (h : xs[n]? = some v) : atI xs (n : Int) = some v := atI_nat h
theorem atI_i {α : Type} {xs : List α} {i : Int} {v : α} (h0 : 0 ≤ i) (h : xs[i.toNat]? = some v) : atI xs i = some v := by
  obtain ⟨k, rfl⟩ := Int.eq_ofNat_of_zero_le h0
  exact atI_nat h
end
theorem int_at {ns : List Int} {k : Nat} (h : k < ns.length) : (ns.map V.int)[k]? = some (.int ns[k]) := by
  rw [List.getElem?_map, List.getElem?_eq_getElem h]
  rfl
theorem w_modN {i j : Int} {H : Hp} {Q : VK} (h : 0 < j) (q : ∀ r : Int, r = i % j → 0 ≤ r → r < j → Q (.int r) H) : rModU (.int i) (.int j) H Q :=
  ⟨i, j, rfl, rfl, h, q _ rfl (Int.emod_nonneg i (by omega)) (Int.emod_lt_of_pos i h)⟩
theorem w_setL {H : Hp} {p : Addr} {xs : List V} {k : Int} {v : V} {Q : Hp → Prop} {j : Nat} (h : H p = some (.lst xs)) (hj : ixN xs.length k = some j) (q : Q (upd H p (.lst (xs.set j v)))) : rSetL (.ref p) (.int k) v H Q :=
  ⟨p, xs, k, j, rfl, rfl, h, hj, q⟩
theorem w_ip {i j : Int} {f : Int → Int → Int} {H : Hp} {Q : VK} (q : Q (.int (f i j)) H) : ipI f (.int i) (.int j) H Q := ⟨i, j, rfl, rfl, q⟩
/-- the box that draws are taken from -/
def Box (H : Hp) (p : Addr) (c : Nat) : Prop := ∃ (g : Int) (b : Bool) (m : Int) (d : Nat), H p = some (.lst [.int g, .bl b, .int m, .int d]) ∧ 0 ≤ g ∧ 0 ≤ m ∧ m < 2147483648 ∧ d ≤ c
theorem Box.le {H : Hp} {p : Addr} {c d : Nat} (h : Box H p c) (e : c ≤ d) : Box H p d := by
  obtain ⟨g, b, m, n, h1, h2, h3, h4, h5⟩ := h
  exact ⟨g, b, m, n, h1, h2, h3, h4, Nat.le_trans h5 e⟩
theorem Box.has {H : Hp} {p : Addr} {c : Nat} (h : Box H p c) : ∃ o, H p = some o := by
  obtain ⟨g, b, m, n, h1, _⟩ := h
  exact ⟨_, h1⟩
theorem Box.ne {H : Hp} {p q : Addr} {c : Nat} (h : Box H p c) (hq : H q = none) : p ≠ q := by
  obtain ⟨g, b, m, n, h1, _⟩ := h
  exact ne_of_none h1 hq
theorem Box.same {H H' : Hp} {p : Addr} {c : Nat} (h : Box H p c) (s : Same H H') : Box H' p c := by
  obtain ⟨g, b, m, n, h1, h2⟩ := h
  exact ⟨g, b, m, n, s _ _ h1, h2⟩
theorem Box.upd {H : Hp} {p q : Addr} {c : Nat} {o : HO} (h : Box H p c) (n : p ≠ q) : Box (upd H q o) p c := by
  obtain ⟨g, b, m, d, h1, h2⟩ := h
  exact ⟨g, b, m, d, by rw [upd_ne n]; exact h1, h2⟩
/-- both ways of a test -/
theorem w_if {b : Bool} {A B : Prop} (h1 : b = true → A) (h2 : b = false → B) : if b = true then A else B := by
  cases b with
  | true => exact iteT (h1 rfl)
  | false => exact iteF (h2 rfl)
theorem cxK {CX : CXT} {P : Program} {w : World} {K : PySem.W.Frag} {mg : Str → Option Value} {base : Heap} {N : List Str} {q : Str} {sc : Scope} {f : Addr} {cd : Value} {A : Around} {outer : List Env} {s : Shared} {H : Hp} {E : XK} :
    (cxOf CX P w K mg base N q sc f cd A outer s H E).K = K := rfl
theorem ends_rt {a : SSt → Hp → Prop} {b : VK} {c d : SSt → Hp → Prop} : (Ends.mk a b c d).rt = b := rfl
theorem ends_nx {a : SSt → Hp → Prop} {b : VK} {c d : SSt → Hp → Prop} : (Ends.mk a b c d).nx = a := rfl
theorem w_enx {a : SSt → Hp → Prop} {b : VK} {c d : SSt → Hp → Prop} {σ : SSt} {H : Hp} (q : a σ H) : (Ends.mk a b c d).nx σ H := q
theorem w_ert {a : SSt → Hp → Prop} {b : VK} {c d : SSt → Hp → Prop} {v : V} {H : Hp} (q : b v H) : (Ends.mk a b c d).rt v H := q
theorem w_ebk {a : SSt → Hp → Prop} {b : VK} {c d : SSt → Hp → Prop} {σ : SSt} {H : Hp} (q : c σ H) : (Ends.mk a b c d).bk σ H := q
theorem w_ect {a : SSt → Hp → Prop} {b : VK} {c d : SSt → Hp → Prop} {σ : SSt} {H : Hp} (q : d σ H) : (Ends.mk a b c d).ct σ H := q
theorem cut1 (ns : List Int) : (ns.map V.int).take (1 : Int).toNat = (ns.take 1).map V.int := by rw [List.map_take]; rfl
end SL
set_option Elab.async false
set_option linter.all false
set_option maxRecDepth 100000
set_option maxHeartbeats 4000000
/-! SlG: walks: texts, ranges, lists; the steps at a for and at a comprehension. -/
namespace SL
open PySem PySem.Spec PyProof.Rows L2
section
variable {K : PySem.W.Frag} {σ : SSt} {H : Hp} {Q : VK} {D : Ends} {ta te : TE} {t : TA} {tb : TS} {g : TG} {tt : TT} {wi : TI} {vs : List Nat} {R : It → Hp → Prop} {i j : Int} {p : Addr} {xs : List V} {l : List Nat}
theorem w_for (q : wi σ H fun J H1 => ∃ W : Nat → Nat → SSt → Hp → Prop, (∃ m, W 0 m σ H1) ∧ ∀ i m σ H, W i m σ H →
    (J.stop i H ∧ D.nx σ H) ∨ (J.go i H ∧ ∃ N : SSt → Hp → Prop, (∀ σ' H', N σ' H' → ∃ m', m' < m ∧ W (i + 1) m' σ' H') ∧ ∀ x H', J.yld i H x H' → g x σ H' fun σ2 H2 => tb { D with nx := N, ct := N, bk := D.nx } σ2 H2)) : tFor wi g tb D σ H := q
theorem w_lc (q : wi σ H fun J H1 => ∀ D, H1 D = none → ∃ W : Nat → Nat → Hp → Prop, (∃ m, W 0 m (upd H1 D (.lst []))) ∧ ∀ i m H, W i m H →
    (J.stop i H ∧ Q (.ref D) H) ∨ (J.go i H ∧ ∃ Nx : Hp → Prop, (∀ H', Nx H' → ∃ m', m' < m ∧ W (i + 1) m' H') ∧ ∀ x H', J.yld i H x H' → g x (wipe σ vs) H' fun σ2 H2 => wipe σ2 vs = wipe σ vs ∧ tt σ2 H2 fun b H3 =>
      if b = true then te σ2 H3 fun y H4 => ∃ acc, H4 D = some (.lst acc) ∧ acc.length < sizeLine ∧ Nx (upd H4 D (.lst (acc ++ [y]))) else Nx H3)) : tLc wi g tt te vs σ H Q := q
theorem w_yes {Q : Bool → Hp → Prop} (q : Q true H) : tYes σ H Q := q
theorem w_il (q : te σ H fun x H1 => ∃ a, x = .ref a ∧ (∃ xs, SqL K H1 a xs) ∧ R (Itl K a) H1) : iList K te σ H R := q
theorem w_it (q : te σ H fun x H1 => ∃ a, x = .ref a ∧ (∃ xs, SqT K H1 a xs) ∧ R (Itt K a) H1) : iTup K te σ H R := q
theorem w_isx (q : te σ H fun v H1 => ∃ x, v = .str x ∧ R (Its x) H1) : iStr te σ H R := q
theorem w_ir1 (q : t σ H fun vs H1 => ∃ j : Int, vs = [.int j] ∧ -(2 ^ 62) ≤ j ∧ j < 2 ^ 62 ∧ R (Itr 0 j.toNat) H1) : iRng1 t σ H R := q
theorem w_ir2 (q : t σ H fun vs H1 => ∃ i j : Int, vs = [.int i, .int j] ∧ (-(2 ^ 62) ≤ i ∧ i < 2 ^ 62 ∧ -(2 ^ 62) ≤ j ∧ j < 2 ^ 62) ∧ R (Itr i (j - i).toNat) H1) : iRng2 t σ H R := q
theorem w_ies (q : t σ H fun vs H1 => ∃ z, vs = [.str z] ∧ R (Ites z) H1) : iEnumS t σ H R := q
theorem w_r1 {R : Int → Prop} (q : R j) (h : -4611686018427387904 ≤ j ∧ j < 4611686018427387904) : ∃ k : Int, [V.int j] = [.int k] ∧ -2 ^ 62 ≤ k ∧ k < 2 ^ 62 ∧ R k := ⟨j, rfl, by omega, by omega, q⟩
theorem w_r2 {R : Int → Int → Prop} (q : R i j) (h : (-4611686018427387904 ≤ i ∧ i < 4611686018427387904) ∧ -4611686018427387904 ≤ j ∧ j < 4611686018427387904) :
    ∃ a b : Int, [V.int i, V.int j] = [.int a, .int b] ∧ (-2 ^ 62 ≤ a ∧ a < 2 ^ 62 ∧ -2 ^ 62 ≤ b ∧ b < 2 ^ 62) ∧ R a b := ⟨i, j, rfl, ⟨by omega, by omega, by omega, by omega⟩, q⟩
theorem w_s1 {R : Str → Prop} {z : Str} (q : R z) : ∃ x, V.str z = .str x ∧ R x := ⟨z, rfl, q⟩
theorem w_s1l {R : Str → Prop} {z : Str} (q : R z) : ∃ x, [V.str z] = [.str x] ∧ R x := ⟨z, rfl, q⟩
theorem w_l1 {R : Addr → Prop} (h : SqL K H p xs) (q : R p) : ∃ a, V.ref p = .ref a ∧ (∃ xs, SqL K H a xs) ∧ R a := ⟨p, rfl, ⟨xs, h⟩, q⟩
theorem w_t1 {R : Addr → Prop} (h : SqT K H p xs) (q : R p) : ∃ a, V.ref p = .ref a ∧ (∃ xs, SqT K H a xs) ∧ R a := ⟨p, rfl, ⟨xs, h⟩, q⟩
theorem w_app (h : H p = some (.lst xs)) {v : V} (q : Q .non (upd H p (.lst (xs ++ [v])))) (hz : xs.length < 16777216) : rAppend (.ref p) [v] H Q := ⟨p, xs, v, rfl, rfl, h, by rw [sizeLine_eq]; exact hz, q⟩
theorem w_isL (h : SqL K H p xs) {B : Prop} (q : B) : tyV K "list" (.ref p) H ∧ B := ⟨.inl ⟨rfl, xs, h⟩, q⟩
theorem w_minL {ns : List Int} (h : SqL K H p (ns.map V.int)) (hz : 0 < ns.length) (q : ∀ m, m ∈ ns → (∀ y, y ∈ ns → m ≤ y) → Q (.int m) H) : rMin K [.ref p] H Q := ⟨p, ns, rfl, h, hz, q⟩
theorem w_allL {bs : List Bool} (h : SqL K H p (bs.map V.bl)) (q : Q (.bl (bs.all id)) H) : rAll K [.ref p] H Q := ⟨p, bs, rfl, h, q⟩
theorem w_anyL {bs : List Bool} (h : SqL K H p (bs.map V.bl)) (q : Q (.bl (bs.any id)) H) : rAny K [.ref p] H Q := ⟨p, bs, rfl, h, q⟩
theorem w_inC {c : Nat} (q : Q (.bl (decide (c ∈ l))) H) : rInU K (.str (tx [c])) (.str (tx l)) H Q := .inl ⟨c, tx l, rfl, rfl, by
  have e : (tx l).cps.toList = l := rfl
  rw [e]
  exact q⟩
end
/-- a comprehension over the signs of a text -/
theorem lc_tx {l : List Nat} {g : TG} {tt : TT} {te : TE} {vs : List Nat} {σ : SSt} {H1 : Hp} {D : Addr} {Qd : Hp → Prop} (Pv : Nat → Hp → Prop) (h0 : Pv 0 (upd H1 D (.lst [])))
    (hs : ∀ i c H, l[i]? = some c → Pv i H → g (.str (tx [c])) (wipe σ vs) H fun σ2 H2 => wipe σ2 vs = wipe σ vs ∧ tt σ2 H2 fun b H3 =>
      if b = true then te σ2 H3 fun y H4 => ∃ acc, H4 D = some (.lst acc) ∧ acc.length < sizeLine ∧ Pv (i + 1) (upd H4 D (.lst (acc ++ [y]))) else Pv (i + 1) H3) (hd : ∀ H, Pv l.length H → Qd H) :
    ∃ W : Nat → Nat → Hp → Prop, (∃ m, W 0 m (upd H1 D (.lst []))) ∧ ∀ i m H, W i m H →
      ((Its (tx l)).stop i H ∧ Qd H) ∨ ((Its (tx l)).go i H ∧ ∃ Nx : Hp → Prop, (∀ H', Nx H' → ∃ m', m' < m ∧ W (i + 1) m' H') ∧ ∀ x H', (Its (tx l)).yld i H x H' → g x (wipe σ vs) H' fun σ2 H2 => wipe σ2 vs = wipe σ vs ∧ tt σ2 H2 fun b H3 =>
        if b = true then te σ2 H3 fun y H4 => ∃ acc, H4 D = some (.lst acc) ∧ acc.length < sizeLine ∧ Nx (upd H4 D (.lst (acc ++ [y]))) else Nx H3) := by
  refine lc_it walk_str Pv h0 (fun _ _ _ _ => True.intro) ?_ (fun H h => hd H (by simpa using h))
  rintro i x H H' hi p ⟨rfl, c, hc, rfl⟩
  exact hs i c _ (by simpa using hc) p
/-- a for over the signs of a text -/
theorem for_tx {l : List Nat} {g : TG} {tb : TS} {D : Ends} {σ : SSt} {H : Hp} (Pv : Nat → SSt → Hp → Prop) (h0 : Pv 0 σ H)
    (hs : ∀ i c σ H, l[i]? = some c → Pv i σ H → g (.str (tx [c])) σ H fun σ2 H2 => tb { D with nx := Pv (i + 1), ct := Pv (i + 1), bk := D.nx } σ2 H2) (hd : ∀ σ H, Pv l.length σ H → D.nx σ H) :
    ∃ W : Nat → Nat → SSt → Hp → Prop, (∃ m, W 0 m σ H) ∧ ∀ i m σ H, W i m σ H →
      ((Its (tx l)).stop i H ∧ D.nx σ H) ∨ ((Its (tx l)).go i H ∧ ∃ N : SSt → Hp → Prop, (∀ σ' H', N σ' H' → ∃ m', m' < m ∧ W (i + 1) m' σ' H') ∧ ∀ x H', (Its (tx l)).yld i H x H' → g x σ H' fun σ2 H2 => tb { D with nx := N, ct := N, bk := D.nx } σ2 H2) := by
  refine for_it walk_str Pv h0 (fun _ _ _ _ _ => True.intro) ?_ (fun σ H h => hd σ H (by simpa using h))
  rintro i x σ H H' hi p ⟨rfl, c, hc, rfl⟩
  exact hs i c σ _ (by simpa using hc) p
/-- a for over enumerate of a text: each turn has a new pair at T -/
theorem for_etx {l : List Nat} {g : TG} {tb : TS} {D : Ends} {σ : SSt} {H : Hp} (Pv : Nat → SSt → Hp → Prop) (h0 : Pv 0 σ H)
    (hs : ∀ i c T σ H, l[i]? = some c → Pv i σ H → H T = none → g (.ref T) σ (upd H T (.tup [.int (i : Nat), .str (tx [c])])) fun σ2 H2 => tb { D with nx := Pv (i + 1), ct := Pv (i + 1), bk := D.nx } σ2 H2) (hd : ∀ σ H, Pv l.length σ H → D.nx σ H) :
    ∃ W : Nat → Nat → SSt → Hp → Prop, (∃ m, W 0 m σ H) ∧ ∀ i m σ H, W i m σ H →
      ((Ites (tx l)).stop i H ∧ D.nx σ H) ∨ ((Ites (tx l)).go i H ∧ ∃ N : SSt → Hp → Prop, (∀ σ' H', N σ' H' → ∃ m', m' < m ∧ W (i + 1) m' σ' H') ∧ ∀ x H', (Ites (tx l)).yld i H x H' → g x σ H' fun σ2 H2 => tb { D with nx := N, ct := N, bk := D.nx } σ2 H2) := by
  have w : Walk (Ites (tx l)) l.length (fun _ => True) (fun i H v H' => ∃ T c, v = .ref T ∧ H T = none ∧ H' = upd H T (.tup [.int (i : Nat), .str ⟨#[c]⟩]) ∧ (tx l).cps[i]? = some c) :=
    ⟨fun i H hi _ => by show i < (tx l).cps.size; simpa using hi, fun H _ => by show l.length = (tx l).cps.size; simp, fun i H x H' _ _ y => y⟩
  refine for_it w Pv h0 (fun _ _ _ _ _ => True.intro) ?_ hd
  rintro i x σ H H' hi p ⟨T, c, rfl, hT, rfl, hc⟩
  exact hs i c T σ H (by simpa using hc) p hT
/-! letters -/
def abc : List Nat := [97, 98, 99, 100, 101, 102, 103, 104, 105, 106, 107, 108, 109, 110, 111, 112, 113, 114, 115, 116, 117, 118, 119, 120, 121, 122]
theorem mem_abc {c : Nat} : c ∈ abc ↔ 97 ≤ c ∧ c ≤ 122 := by
  unfold abc
  simp only [List.mem_cons, List.not_mem_nil, or_false]
  omega
/-- all of them letters -/
def Let (l : List Nat) : Prop := ∀ c ∈ l, c ∈ abc
instance (l : List Nat) : Decidable (Let l) := inferInstanceAs (Decidable (∀ c ∈ l, c ∈ abc))
theorem all_let (l : List Nat) : (l.map fun c => decide (c ∈ abc)).all id = decide (Let l) := by
  by_cases h : Let l
  · rw [decide_eq_true h, List.all_eq_true]
    intro b hb
    obtain ⟨c, hc, rfl⟩ := List.mem_map.mp hb
    exact decide_eq_true (h c hc)
  · rw [decide_eq_false h, List.all_eq_false]
    have : ∃ c, c ∈ l ∧ ¬ c ∈ abc := by
      refine Classical.byContradiction fun n => h fun c hc => ?_
      exact Classical.byContradiction fun m => n ⟨c, hc, m⟩
    obtain ⟨c, hc, hn⟩ := this
    exact ⟨_, List.mem_map.mpr ⟨c, hc, rfl⟩, by simpa using hn⟩
theorem Let.nil : Let [] := fun _ h => absurd h List.not_mem_nil
theorem Let.app {l m : List Nat} (a : Let l) (b : Let m) : Let (l ++ m) := fun c h => (List.mem_append.mp h).elim (a c) (b c)
theorem Let.take {l : List Nat} (a : Let l) (n : Nat) : Let (l.take n) := fun c h => a c (List.mem_of_mem_take h)
theorem Let.drop {l : List Nat} (a : Let l) (n : Nat) : Let (l.drop n) := fun c h => a c (List.mem_of_mem_drop h)
theorem w_inT {K : PySem.W.Frag} {H : Hp} {Q : VK} {v : V} {p : Addr} {xs : List V} (h : SqT K H p xs) (hv : flatV v = true) (hx : xs.all flatV = true) (q : Q (.bl (inV v xs)) H) : rInU K v (.ref p) H Q :=
  .inr ⟨p, xs, rfl, .inr h, hv, hx, q⟩
theorem take_more {α : Type} {l : List α} {i : Nat} {x : α} (h : l[i]? = some x) : l.take (i + 1) = l.take i ++ [x] := by
  rw [List.take_add_one, h]
  rfl
theorem get_of {α : Type} {l : List α} {i : Nat} (h : i < l.length) : l[i]? = some l[i] := List.getElem?_eq_getElem h
/-! ''.join of texts -/
theorem join_nil' : ∀ ls : List (List Nat), Str.join (tx []) (ls.map tx) = tx ls.flatten
  | [] => rfl
  | [x] => by
    show tx x = tx [x].flatten
    simp
  | x :: y :: r => by
    have ih := join_nil' (y :: r)
    show tx x ++ tx [] ++ Str.join (tx []) ((y :: r).map tx) = _
    rw [ih, tx_app, tx_app, List.append_nil]
    rfl
theorem join_nil (ls : List (List Nat)) : Txt.join (tx []) (ls.map tx) = tx ls.flatten := by
  unfold Txt.join
  rw [StrLaws.glued_eq_join, join_nil']
theorem join_sum (ls : List (List Nat)) : ((ls.map tx).map (·.length)).sum = ls.flatten.length := by
  induction ls with
  | nil => rfl
  | cons x r ih => rw [List.map_cons, List.map_cons, List.sum_cons, ih, tx_len, List.flatten_cons, List.length_append]
def rJoinU (K : PySem.W.Frag) : V → List V → Hp → VK → Prop := fun x xs H Q => ∃ a p, ∃ ys : List Str, x = .str a ∧ xs = [.ref p] ∧ (SqL K H p (ys.map V.str) ∨ SqT K H p (ys.map V.str)) ∧ (ys.map (·.length)).sum + ys.length * a.length ≤ 16777216 ∧ Q (.str (Txt.join a ys)) H
theorem uJoin {X : Cx} : MtR X "str.join" (rJoinU X.K) := mt_join
theorem w_join {K : PySem.W.Frag} {H : Hp} {Q : VK} {p : Addr} {ls : List (List Nat)} (h : SqL K H p (ls.map fun l => V.str (tx l))) (q : Q (.str (tx ls.flatten)) H) (hz : ls.flatten.length ≤ 16777216) : rJoinU K (.str (tx [])) [.ref p] H Q := by
  refine ⟨tx [], p, ls.map tx, rfl, rfl, .inl ?_, ?_, by rw [join_nil]; exact q⟩
  · rw [List.map_map]
    exact h
  · rw [join_sum, tx_len]
    simpa using hz
theorem w_isS {l : List Nat} {B : Prop} (q : B) : (∃ a, V.str (tx l) = .str a) ∧ B := ⟨⟨_, rfl⟩, q⟩
theorem w_lrg {H : Hp} {Q : VK} {σ : SSt} {te : TE} (q : te σ H fun x H1 => ∃ n, x = .int n ∧ (RgOk 0 n ∧ ∀ q, H1 q = none → Q (.ref q) (upd H1 q (.lst (rgV 0 n))))) : tLstRg (tRg1 te) σ H Q := q
theorem rgV_n (n : Nat) : rgV 0 (n : Int) = (List.range n).map fun i => V.int (i : Nat) := by
  unfold rgV
  rw [show ((n : Int) - 0).toNat = n by omega]
  apply List.map_congr_left
  intro i _
  rw [show (0 : Int) + (i : Int) = (i : Int) by omega]
end SL
set_option Elab.async false
set_option linter.all false
set_option maxRecDepth 100000
set_option maxHeartbeats 4000000
/-! SlH: the rules with K said aloud (a comprehension's element must not mention the block's context), constants, keyword calls. -/
namespace SL
open PySem PySem.Spec PyProof.Rows L2
section
variable (K : PySem.W.Frag) {X : Cx} {k : Nat}
theorem kAdd (h : X.K = K) : OpR X (binaryOp .Add) (rAddU K) := h ▸ uAdd
theorem kEq (h : X.K = K) (hr : Room k X.A) : OpR X (compareOp .Eq) (rEqU K) := h ▸ uEq hr
theorem kNe (h : X.K = K) (hr : Room k X.A) : OpR X (compareOp .NotEq) (rNeU K) := h ▸ uNe hr
theorem kIn (h : X.K = K) : OpR X (compareOp .In) (rInU K) := h ▸ uIn
theorem kSl (h : X.K = K) : SlR X (rSlU K) := h ▸ uSl
theorem kIx (h : X.K = K) : IxR X (rIx K) := h ▸ ix_seq
theorem kLen (h : X.K = K) : CallR X (.builtin "len") (rLenU K) := h ▸ uLen
theorem kIsi (h : X.K = K) : CallR X (.builtin "isinstance") (rIsi K) := h ▸ uIsi
theorem kIsiT (h : X.K = K) : CallR X (.builtin "isinstance") (rIsiT K) := h ▸ uIsiT
theorem kList (h : X.K = K) : CallR X (.type "list") (rListU K) := h ▸ uList
theorem kSum (h : X.K = K) (hc : X.calm = true) : CallR X (.builtin "sum") (rSum K) := h ▸ cr_sum hc
theorem kAny (h : X.K = K) (hc : X.calm = true) : CallR X (.builtin "any") (rAny K) := h ▸ cr_any hc
theorem kAll (h : X.K = K) (hc : X.calm = true) : CallR X (.builtin "all") (rAll K) := h ▸ cr_all hc
theorem kMin (h : X.K = K) (hc : X.calm = true) : CallR X (.builtin "min") (rMin K) := h ▸ cr_min hc
theorem kMax (h : X.K = K) (hc : X.calm = true) : CallR X (.builtin "max") (rMax K) := h ▸ cr_max hc
theorem kSorted (h : X.K = K) : CallR X (.builtin "sorted") (rSorted K) := h ▸ cr_sorted
theorem kJoin (h : X.K = K) : MtR X "str.join" (rJoinU K) := h ▸ uJoin
theorem kIndex (h : X.K = K) : MtR X "list.index" (rIndex K) := h ▸ mt_index
theorem kiList (h : X.K = K) {tg l : Expr} {tl : TE} (p : PE X l tl) : PI X tg l (iList K tl) := h ▸ pi_list p
theorem kiTup (h : X.K = K) {tg l : Expr} {tl : TE} (p : PE X l tl) : PI X tg l (iTup K tl) := h ▸ pi_tup p
theorem kRev (h : X.K = K) {e : Expr} {te : TE} {k : Nat} {p1 p2 p3 pos : Pos} (p : PE X e te) :
    PE X (e.Subscript (.Slice none none (some (.UnaryOp .USub (.Constant (.int 1) k p1) p2)) p3) pos) (tRevU K te) := h ▸ pe_revU p
theorem kTup (h : X.K = K) {pos : Pos} {es : List Expr} {k : Nat} {t : TGs} {n : Nat} (hc : X.calm = true) (p : PGs X es t) (h1 : (assignEach es X.env).length = n := by rfl)
    (h2 : List.findIdx? (fun x => x.fst) (assignEach es X.env) = none := by rfl) : PG X (.Tuple es k pos) (gTup K n t) := h ▸ pg_tup hc p h1 h2
theorem kBm (h : X.K = K) {o e : Expr} {es : List Expr} {to : TE} {t : TA} {name : Str} {apos cpos : Pos} {T id : String} {r : V → List V → Hp → VK → Prop}
    (h1 : PlainAttrs T) (h2 : Slot T name id) (h3 : typeOf (Value.builtin id) = pure (Value.type "method_descriptor")) (h4 : MtR X id r) (h5 : PE X o to) (h6 : PA X (e :: es) t)
    (h7 : attributeBase o name X.env (eval o X.env) = eval o X.env := by rfl)
    (h8 : ((((backTo cpos (starEach (e :: es) X.env)).all fun x => !x.fst) && (backToKw cpos (keywordEach [] X.env)).all fun x => x.fst.isSome) && decide (((e :: es).length + ([] : List Keyword).length + if ([] : List Keyword).isEmpty = true then 0 else 1) < 30)) = true := by rfl)
    (h9 : (apos.endLine == cpos.line) = true := by rfl) (h10 : starEach (e :: es) X.env = (false, eval e X.env) :: starEach es X.env := by rfl)
    (h11 : ((backTo cpos (starEach es X.env)).any fun x => x.fst) = false := by rfl) : PE X ((o.Attribute name apos).Call (e :: es) [] cpos) (tBM K T r to t) :=
  h ▸ pe_bm h1 h2 h3 h4 h5 h6 h7 h8 h9 h10 h11
end
/-- a text of the module, by its signs -/
theorem pe_gs {X : Cx} {x : Str} {l : List Nat} {pos : Pos} (hg : Gl X x) (h : ∃ t, X.mg x = some (.str (tx l) t)) (hdb : (x == ("__debug__" : Str)) = false := by decide) : PE X (.Name x pos) (tC (.str (tx l))) := by
  obtain ⟨t, h⟩ := h
  exact pe_glob hg h (by first | exact ⟨_, rfl⟩ | constructor) hdb
theorem pe_gi {X : Cx} {x : Str} {i : Int} {pos : Pos} (hg : Gl X x) (h : ∃ t, X.mg x = some (.int i t)) (hdb : (x == ("__debug__" : Str)) = false := by decide) : PE X (.Name x pos) (tC (.int i)) := by
  obtain ⟨t, h⟩ := h
  exact pe_glob hg h (by first | exact ⟨_, rfl⟩ | constructor) hdb
/-! keyword calls -/
/-- a def called by keywords alone: ks the names in the call's order, g how the values come to the parameters -/
structure CalW (P : Program) (w : World) (K : PySem.W.Frag) (mg : Str → Option Value) (base : Heap) (k : Nat) (x : Str) (ps ks : List Str) (g : {α : Type} → List α → List α) (sp : Sp) : Prop where
  ex : ∃ (f : Addr) (fd : FuncData), FnG P w K mg base k f fd ps sp ∧ mg x = some (.ref f) ∧ PySem.W.keepIn K (.ref f) = true ∧
    ∀ (s : Shared) (ws : List Value), ws.length = ks.length → BindsTo s fd ⟨[], ks.zip ws⟩ (ps.zip (g ws))
def tCallW (sp : Sp) (g : {α : Type} → List α → List α) (n : Nat) (E : SSt → XK) (t : TA) : TE := fun σ H Q => t σ H fun vs H1 => vs.length = n ∧ sp (g vs) H1 Q (E σ)
section
variable {X : Cx} {k j : Nat} {x : Str} {ps ks : List Str} {sp : Sp} {E : L2.St → XK} {p pos : Pos} {kws : List Keyword} {t : TA} {g : {α : Type} → List α → List α}
theorem pe_gw (c : CalW X.prog X.w X.K X.mg X.base k x ps ks g sp) (hr : Room j X.A) (hk : k ≤ j) (hgd : X.A.guards = some []) (hg : Gl X x) (hx : ∀ σ, PassesAt (L2.CX X.prog X.w) X σ (E σ)) (ha : PK X kws t)
    (hl : ∀ {vs : List V} {us : List Value}, vs.length = ks.length → Vals vs us → Vals (g vs) (g us))
    (hall : (backToKw pos (keywordEach kws X.env)).all (·.1.isSome) = true := by rfl) (hks : (backToKw pos (keywordEach kws X.env)).filterMap (·.1) = ks := by rfl)
    (hdb : (x == ("__debug__" : Str)) = false := by decide)
    (hpl : ((backTo pos (starEach [] X.env)).any (·.1) || (backToKw pos (keywordEach kws X.env)).any (·.1.isNone)) = false := by rfl) :
    PE X (.Call (.Name x p) [] kws pos) (tCallW sp g ks.length E t) := by
  obtain ⟨f, fd, F, hm, kp, hb⟩ := c.ex
  constructor
  intro pins s σ H Q I h
  refine wpAny_Call_Name_kw (ld_glob I hg hm ?_ hdb)
  refine PySem.W.callWith_KW0 (h₀ := X.base) I.ok.mod.kin kp hall ?_ hpl
  refine thn (ha.run pos pins s σ H _ I h) ?_
  rintro ws s1 ⟨vs, H1, I1, r, hn, q⟩
  refine ⟨I1.kIn, ?_⟩
  rw [hks]
  refine wpAny_call (codeAny_mono (F.run X.A X.stack s1 H1 ⟨[], ks.zip ws⟩ (g ws) (g vs) Q (E σ) (hr.mono hk) hgd (Inv.env0 I1) (hb s1 ws (by rw [← Paired.length r]; exact hn)) (hl hn r) q) ?_)
  intro rr s' hq
  match rr, hq with
  | .error ex, hq => exact hx σ pins H1 s1 ex s' I1 hq
  | .ok (.ret u), hq => exact Inv.after I1 hq
end
theorem w_callW {g : {α : Type} → List α → List α} {n : Nat} {sp : Sp} {E : SSt → XK} {t : TA} {σ : SSt} {H : Hp} {Q : VK} (q : t σ H fun vs H1 => vs.length = n ∧ sp (g vs) H1 Q (E σ)) : tCallW sp g n E t σ H Q := q
theorem w_same {s : String} {A B : Prop} (q : A) : if (s == s) = true then A else B := by
  rw [if_pos (by simp)]
  exact q
theorem w_diff {s t : String} {A B : Prop} (q : B) (h : (s == t) = false) : if (s == t) = true then A else B := by
  rw [if_neg (by rw [h]; decide)]
  exact q
theorem w_wp {σ τ : SSt} {vs : List Nat} {B : Prop} (h : wipe σ vs = wipe τ vs) (q : B) : wipe σ vs = wipe τ vs ∧ B := ⟨h, q⟩
theorem w_acc {H : Hp} {D : Addr} {acc : List V} {R : List V → Prop} (h : H D = some (.lst acc)) (q : R acc) (hz : acc.length < 16777216) : ∃ acc, H D = some (.lst acc) ∧ acc.length < sizeLine ∧ R acc :=
  ⟨acc, h, by rw [sizeLine_eq]; exact hz, q⟩
theorem lt_of_get {α : Type} {l : List α} {i : Nat} {c : α} (h : l[i]? = some c) : i < l.length := (List.getElem?_eq_some_iff.mp h).1
theorem w_ifT {b : Bool} {A B : Prop} (h : b = true) (q : A) : if b = true then A else B := by rw [if_pos h]; exact q
theorem w_ifF {b : Bool} {A B : Prop} (h : b = false) (q : B) : if b = true then A else B := by rw [if_neg (by rw [h]; decide)]; exact q
def rRev1 (K : PySem.W.Frag) (x : V) (H : Hp) (Q : VK) : Prop := (∃ l : List Nat, x = .str (tx l) ∧ l.length ≤ 16777216 ∧ Q (.str (tx l.reverse)) H) ∨
  (∃ a xs, x = .ref a ∧ SqT K H a xs ∧ ∀ p, H p = none → Q (.ref p) (upd H p (.tup xs.reverse)))
section
variable {K : PySem.W.Frag} {te : TE} {σ : SSt} {H : Hp} {Q : VK} {l : List Nat} {p : Addr} {xs : List V} {k : Nat}
theorem w_rev (q : te σ H fun x H1 => rRev1 K x H1 Q) : tRevU K te σ H Q := q
theorem w_rev1S (q : Q (.str (tx l.reverse)) H) (h : l.length ≤ 16777216) : rRev1 K (.str (tx l)) H Q := .inl ⟨l, rfl, h, q⟩
theorem w_rev1T (h : SqT K H p xs) (q : ∀ a, H a = none → Q (.ref a) (upd H a (.tup xs.reverse))) : rRev1 K (.ref p) H Q := .inr ⟨p, xs, rfl, h, q⟩
theorem w_sSfN (q : Q (.str (tx (l.drop k))) H) (h : l.length ≤ 16777216) : rSlU K (.str (tx l)) (some (k : Int)) none H Q := w_sSf q ⟨by omega, h⟩
theorem w_sStN (q : Q (.str (tx (l.take k))) H) (h : l.length ≤ 16777216) : rSlU K (.str (tx l)) none (some (k : Int)) H Q := w_sSt q ⟨by omega, h⟩
end
theorem in_pair {x y : List Nat} (h : x = [] ∨ y = []) : inV (V.str (tx [])) [V.str (tx x), V.str (tx y)] = true := by
  have e : eqV (V.str (tx [])) (V.str (tx [])) = true := by first | rfl | decide | decide +kernel
  rcases h with rfl | rfl
  · simp [inV, e]
  · simp [inV, e]
/-- a for over a range from 0 -/
theorem for_rg {j : Int} {n : Nat} {g : TG} {tb : TS} {D : Ends} {σ : SSt} {H : Hp} (hn : j.toNat = n) (Pv : Nat → SSt → Hp → Prop) (h0 : Pv 0 σ H)
    (hs : ∀ (i : Nat) σ H, i < n → Pv i σ H → g (.int (i : Int)) σ H fun σ2 H2 => tb { D with nx := Pv (i + 1), ct := Pv (i + 1), bk := D.nx } σ2 H2) (hd : ∀ σ H, Pv n σ H → D.nx σ H) :
    ∃ W : Nat → Nat → SSt → Hp → Prop, (∃ m, W 0 m σ H) ∧ ∀ i m σ H, W i m σ H →
      ((Itr 0 j.toNat).stop i H ∧ D.nx σ H) ∨ ((Itr 0 j.toNat).go i H ∧ ∃ N : SSt → Hp → Prop, (∀ σ' H', N σ' H' → ∃ m', m' < m ∧ W (i + 1) m' σ' H') ∧ ∀ x H', (Itr 0 j.toNat).yld i H x H' → g x σ H' fun σ2 H2 => tb { D with nx := N, ct := N, bk := D.nx } σ2 H2) := by
  subst hn
  refine for_it walk_range Pv h0 (fun _ _ _ _ _ => True.intro) ?_ hd
  rintro i x σ H H' hi p ⟨rfl, rfl⟩
  have e : (0 : Int) + (i : Int) = i := by omega
  show g (.int ((0 : Int) + (i : Int))) _ _ _
  rw [e]
  exact hs i σ _ hi p
/-- a for over a range -/
theorem for_rg2 {lo hi : Int} {n : Nat} {g : TG} {tb : TS} {D : Ends} {σ : SSt} {H : Hp} (hn : (hi - lo).toNat = n) (Pv : Nat → SSt → Hp → Prop) (h0 : Pv 0 σ H)
    (hs : ∀ (i : Nat) σ H, i < n → Pv i σ H → g (.int (lo + i)) σ H fun σ2 H2 => tb { D with nx := Pv (i + 1), ct := Pv (i + 1), bk := D.nx } σ2 H2) (hd : ∀ σ H, Pv n σ H → D.nx σ H) :
    ∃ W : Nat → Nat → SSt → Hp → Prop, (∃ m, W 0 m σ H) ∧ ∀ i m σ H, W i m σ H →
      ((Itr lo (hi - lo).toNat).stop i H ∧ D.nx σ H) ∨ ((Itr lo (hi - lo).toNat).go i H ∧ ∃ N : SSt → Hp → Prop, (∀ σ' H', N σ' H' → ∃ m', m' < m ∧ W (i + 1) m' σ' H') ∧ ∀ x H', (Itr lo (hi - lo).toNat).yld i H x H' → g x σ H' fun σ2 H2 => tb { D with nx := N, ct := N, bk := D.nx } σ2 H2) := by
  subst hn
  refine for_it walk_range Pv h0 (fun _ _ _ _ _ => True.intro) ?_ hd
  rintro i x σ H H' hi p ⟨rfl, rfl⟩
  exact hs i σ _ hi p
/-- a comprehension over a range from 0 -/
theorem lc_rg {j : Int} {n : Nat} {g : TG} {tt : TT} {te : TE} {vs : List Nat} {σ : SSt} {H1 : Hp} {D : Addr} {Qd : Hp → Prop} (hn : j.toNat = n) (Pv : Nat → Hp → Prop) (h0 : Pv 0 (upd H1 D (.lst [])))
    (hs : ∀ (i : Nat) H, i < n → Pv i H → g (.int (i : Int)) (wipe σ vs) H fun σ2 H2 => wipe σ2 vs = wipe σ vs ∧ tt σ2 H2 fun b H3 =>
      if b = true then te σ2 H3 fun y H4 => ∃ acc, H4 D = some (.lst acc) ∧ acc.length < sizeLine ∧ Pv (i + 1) (upd H4 D (.lst (acc ++ [y]))) else Pv (i + 1) H3) (hd : ∀ H, Pv n H → Qd H) :
    ∃ W : Nat → Nat → Hp → Prop, (∃ m, W 0 m (upd H1 D (.lst []))) ∧ ∀ i m H, W i m H →
      ((Itr 0 j.toNat).stop i H ∧ Qd H) ∨ ((Itr 0 j.toNat).go i H ∧ ∃ Nx : Hp → Prop, (∀ H', Nx H' → ∃ m', m' < m ∧ W (i + 1) m' H') ∧ ∀ x H', (Itr 0 j.toNat).yld i H x H' → g x (wipe σ vs) H' fun σ2 H2 => wipe σ2 vs = wipe σ vs ∧ tt σ2 H2 fun b H3 =>
        if b = true then te σ2 H3 fun y H4 => ∃ acc, H4 D = some (.lst acc) ∧ acc.length < sizeLine ∧ Nx (upd H4 D (.lst (acc ++ [y]))) else Nx H3) := by
  subst hn
  refine lc_it walk_range Pv h0 (fun _ _ _ _ => True.intro) ?_ hd
  rintro i x H H' hi p ⟨rfl, rfl⟩
  have e : (0 : Int) + (i : Int) = i := by omega
  show g (.int ((0 : Int) + (i : Int))) _ _ _
  rw [e]
  exact hs i _ hi p
/-- a cut: what stands after the first statement -/
theorem w_seqI {t1 t2 : TS} {D : Ends} {σ : SSt} {H : Hp} (I : SSt → Hp → Prop) (k : ∀ σ H, I σ H → t2 D σ H) (q : ∀ N : SSt → Hp → Prop, (∀ σ H, I σ H → N σ H) → t1 { D with nx := N } σ H) : tSeq t1 t2 D σ H := q _ k
section
variable {t2 : TS} {D : Ends} {σ : SSt} {H : Hp} {te : TE} {g : TG} {n m : Nat} {t : TA} {ti : TIp} {wi : TI} {tb : TS}
theorem w_seqA (q : tAsg te g { D with nx := t2 D } σ H) : tSeq (tAsg te g) t2 D σ H := q
theorem w_seqD (q : tDrop te { D with nx := t2 D } σ H) : tSeq (tDrop te) t2 D σ H := q
theorem w_seqP (q : tPar n m t { D with nx := t2 D } σ H) : tSeq (tPar n m t) t2 D σ H := q
theorem w_seqG (q : tAug n te ti { D with nx := t2 D } σ H) : tSeq (tAug n te ti) t2 D σ H := q
end
theorem w_gT {K : PySem.W.Frag} {n : Nat} {tg : TGs} {p : Addr} {σ : SSt} {H : Hp} {Q : SSt → Hp → Prop} {xs : List V} (h : SqT K H p xs) (q : tg xs σ H Q) (hn : xs.length = n) : gTup K n tg (.ref p) σ H Q := ⟨p, xs, rfl, h, hn, q⟩
def rIsU : R2 := fun x y H Q => y = .non ∧ Q (.bl (decide (x = .non))) H
def rIsNotU : R2 := fun x y H Q => y = .non ∧ Q (.bl (!decide (x = .non))) H
theorem uIs {X : Cx} : OpR X (compareOp .Is) rIsU := op_isN
theorem uIsNot {X : Cx} : OpR X (compareOp .IsNot) rIsNotU := op_notN
section
variable {H : Hp} {Q : VK} {i : Int} {z : Str} {p : Addr} {b : Bool}
theorem w_isnN (q : Q (.bl true) H) : rIsU .non .non H Q := ⟨rfl, by rw [decide_eq_true rfl]; exact q⟩
theorem w_isnI (q : Q (.bl false) H) : rIsU (.int i) .non H Q := ⟨rfl, by rw [decide_eq_false (by simp)]; exact q⟩
theorem w_isnS (q : Q (.bl false) H) : rIsU (.str z) .non H Q := ⟨rfl, by rw [decide_eq_false (by simp)]; exact q⟩
theorem w_isnR (q : Q (.bl false) H) : rIsU (.ref p) .non H Q := ⟨rfl, by rw [decide_eq_false (by simp)]; exact q⟩
theorem w_isnB (q : Q (.bl false) H) : rIsU (.bl b) .non H Q := ⟨rfl, by rw [decide_eq_false (by simp)]; exact q⟩
theorem w_isoN (q : Q (.bl false) H) : rIsNotU .non .non H Q := ⟨rfl, by rw [decide_eq_true rfl]; exact q⟩
theorem w_isoI (q : Q (.bl true) H) : rIsNotU (.int i) .non H Q := ⟨rfl, by rw [decide_eq_false (by simp)]; exact q⟩
theorem w_isoS (q : Q (.bl true) H) : rIsNotU (.str z) .non H Q := ⟨rfl, by rw [decide_eq_false (by simp)]; exact q⟩
theorem w_isoR (q : Q (.bl true) H) : rIsNotU (.ref p) .non H Q := ⟨rfl, by rw [decide_eq_false (by simp)]; exact q⟩
theorem w_isoB (q : Q (.bl true) H) : rIsNotU (.bl b) .non H Q := ⟨rfl, by rw [decide_eq_false (by simp)]; exact q⟩
end
theorem kLst (K : PySem.W.Frag) {X : Cx} (h : X.K = K) {pos : Pos} {es : List Expr} {k : Nat} {t : TGs} {n : Nat} (hc : X.calm = true) (p : PGs X es t) (h1 : (assignEach es X.env).length = n := by rfl)
    (h2 : List.findIdx? (fun x => x.fst) (assignEach es X.env) = none := by rfl) : PG X (.Tuple es k pos) (gLst K n t) := h ▸ pg_lst hc p h1 h2
theorem w_gL {K : PySem.W.Frag} {n : Nat} {tg : TGs} {p : Addr} {σ : SSt} {H : Hp} {Q : SSt → Hp → Prop} {xs : List V} (h : SqL K H p xs) (q : tg xs σ H Q) (hn : xs.length = n) : gLst K n tg (.ref p) σ H Q := ⟨p, xs, rfl, h, hn, q⟩
theorem atI_last {α : Type} {xs : List α} {v : α} (h : xs[xs.length - 1]? = some v) : atI xs (-1) = some v := by
  have hl := (List.getElem?_eq_some_iff.mp h).1
  unfold atI ixN
  rw [if_neg (by omega)]
  rw [if_pos (by omega)]
  rw [Option.bind_some, show ((-1 : Int) + xs.length).toNat = xs.length - 1 by omega]
  exact h
theorem box_le {H : Hp} {p : Addr} {c d : Nat} (h : Box H p c) (e : c ≤ d := by omega) : Box H p d := h.le e
theorem all_take {α : Type} {l : List α} : l.take l.length = l := List.take_length
end SL
set_option Elab.async false
set_option linter.all false
set_option maxRecDepth 100000
set_option maxHeartbeats 4000000
/-! SlI: more about heaps and texts. -/
namespace SL
open PySem PySem.Spec PyProof.Rows L2
theorem Fr.nil {p D : Addr} {H H1 : Hp} (f : Fr p H H1) (hD : H1 D = none) (n : p ≠ D) : H D = none := by
  cases h : H D with
  | none => rfl
  | some o => rw [f D o h (Ne.symm n)] at hD; cases hD
theorem Fr.grow {p D : Addr} {H H1 H' : Hp} {o : HO} (f0 : Fr p H H1) (hD : H1 D = none) (n : p ≠ D) (f : Fr p H H') : Fr p H (upd H' D o) := fun b u h nb => by
  rw [upd_ne (ne_of_none h (Fr.nil f0 hD n))]
  exact f b u h nb
theorem rep_len (n : Nat) (l : List Nat) : (List.replicate n l).flatten.length = n * l.length := by
  induction n with
  | zero => simp
  | succ n ih => rw [List.replicate_succ, List.flatten_cons, List.length_append, ih, Nat.succ_mul]; omega
theorem rep_let {n : Nat} {l : List Nat} (h : Let l) : Let (List.replicate n l).flatten := by
  induction n with
  | zero => exact fun _ h => absurd h (by simp)
  | succ n ih => rw [List.replicate_succ, List.flatten_cons]; exact h.app ih
theorem Let.one {l : List Nat} {k : Nat} {c : Nat} (h : Let l) (hk : l[k]? = some c) : Let [c] := fun d hd => by
  rw [List.mem_singleton.mp hd]
  exact h c (List.mem_of_getElem? hk)
theorem bit_is (b : Bool) : ∃ u : Nat, (if b = true then (1 : Int) else 0) = u ∧ u ≤ 1 := by
  cases b
  · exact ⟨0, rfl, by omega⟩
  · exact ⟨1, rfl, by omega⟩
theorem two_at {α : Type} {a b : α} {k : Nat} (h : k < 2) : [a, b][k]? = some (if k = 0 then a else b) := by
  match k, h with
  | 0, _ => rfl
  | 1, _ => rfl
theorem w_mulSN {l : List Nat} {u : Nat} {H : Hp} {Q : VK} (q : Q (.str (tx (List.replicate u l).flatten)) H) (h : u ≤ 1000000 ∧ l.length ≤ 1000000 ∧ l.length * u ≤ 16777216) : rMulU (.str (tx l)) (.int (u : Int)) H Q :=
  w_mulS (by rw [Int.toNat_natCast]; exact q) ⟨by omega, by omega, h.2.1, by rw [Int.toNat_natCast]; exact h.2.2⟩
theorem ex_get {α : Type} {l : List α} {k : Nat} (h : k < l.length) : ∃ c, l[k]? = some c := ⟨_, get_of h⟩
theorem take_rest {α : Type} (l : List α) (i : Nat) : l.take i ++ l.drop (l.take i).length = l := by
  rw [List.length_take]
  by_cases h : i ≤ l.length
  · rw [Nat.min_eq_left h, List.take_append_drop]
  · rw [Nat.min_eq_right (by omega), List.drop_length, List.append_nil, List.take_of_length_le (by omega)]
theorem Let.left {l m : List Nat} (h : Let (l ++ m)) : Let l := fun c hc => h c (List.mem_append_left m hc)
theorem Let.right {l m : List Nat} (h : Let (l ++ m)) : Let m := fun c hc => h c (List.mem_append_right l hc)
theorem w_eqStr {K : PySem.W.Frag} {H : Hp} {Q : VK} {x y : Str} (q : Q (.bl (decide (x = y))) H) : rEqU K (.str x) (.str y) H Q := .inl ⟨rfl, by
  have e : decide (V.str x = V.str y) = decide (x = y) := decide_eq_decide.mpr ⟨fun h => V.str.inj h, fun h => by rw [h]⟩
  rw [e]; exact q⟩
theorem same_box {p : Addr} {H H1 H2 : Hp} (a : Same H H1) (hp : H p = Option.none) (f : Fr p H1 H2) : Same H H2 := fun b o h => f b o (a b o h) (ne_of_none h hp)
theorem calW_of {P : Program} {w : World} {K : PySem.W.Frag} {mg : Str → Option Value} {base : Heap} {x : Str} {st : Stmt} {ps ks : List Str} {k : Nat} {sp : Sp} {g : {α : Type} → List α → List α} (D : DefAt K mg x st ps)
    (F : ∀ f fd, Fun K x x st f fd → FnG P w K mg base k f fd ps sp) (hb : ∀ f fd, Fun K x x st f fd → ∀ (s : Shared) (ws : List Value), ws.length = ks.length → BindsTo s fd ⟨[], ks.zip ws⟩ (ps.zip (g ws))) :
    CalW P w K mg base k x ps ks g sp := by
  obtain ⟨f, fd, Fn, hm, _⟩ := D.ex
  exact ⟨f, fd, F f fd Fn, hm, Fn.kp, hb f fd Fn⟩
theorem cal_of {P : Program} {w : World} {K : PySem.W.Frag} {mg : Str → Option Value} {base : Heap} {x : Str} {st : Stmt} {ps : List Str} {k : Nat} {sp : Sp} (D : DefAt K mg x st ps)
    (F : ∀ f fd, Fun K x x st f fd → FnG P w K mg base k f fd ps sp) : Cal P w K mg base k x ps sp := by
  obtain ⟨f, fd, Fn, hm, hb⟩ := D.ex
  exact ⟨f, fd, F f fd Fn, hm, Fn.kp, hb⟩
theorem rev4 {vs : List V} {us : List Value} (hn : vs.length = 4) (r : Vals vs us) : Vals vs.reverse us.reverse := by
  match vs, us, r with
  | [a, b, c, d], [a', b', c', d'], .cons r1 (.cons r2 (.cons r3 (.cons r4 .nil))) => exact .cons r4 (.cons r3 (.cons r2 (.cons r1 .nil)))
end SL
set_option Elab.async false
set_option linter.all false
set_option maxRecDepth 100000
set_option maxHeartbeats 4000000
/-! SlJ: startswith; equality of nested data. -/
namespace SL
open PySem PySem.Spec PyProof.Rows L2
theorem starts_is (l m : List Nat) : Txt.startswith (tx l) (tx m) = decide (l.take m.length = m) := by
  unfold Txt.startswith
  rw [StrLaws.subAt_eq, tx_len, tx_len]
  show (decide (0 + m.length ≤ l.length) && ((l.drop 0).take m.length == m)) = _
  rw [List.drop_zero]
  by_cases h : l.take m.length = m
  · have hl : m.length ≤ l.length := by
      have := congrArg List.length h
      rw [List.length_take] at this
      omega
    rw [decide_eq_true h, h]
    simp
    exact hl
  · rw [decide_eq_false h]
    have : (l.take m.length == m) = false := by simpa using h
    rw [this, Bool.and_false]
def rStartsU : V → List V → Hp → VK → Prop := fun x xs H Q => ∃ a b, x = .str a ∧ xs = [.str b] ∧ Q (.bl (Txt.startswith a b)) H
theorem uStarts {X : Cx} : MtR X "str.startswith" rStartsU := mt_startswith
theorem w_starts {l m : List Nat} {H : Hp} {Q : VK} (q : Q (.bl (decide (l.take m.length = m))) H) : rStartsU (.str (tx l)) [.str (tx m)] H Q := ⟨tx l, tx m, rfl, rfl, by rw [starts_is]; exact q⟩
/-- signs -/
def Sgn (l : List Nat) : Prop := ∀ c ∈ l, c < 1114112
theorem Let.sgn {l : List Nat} (h : Let l) : Sgn l := fun c hc => by
  have := mem_abc.mp (h c hc)
  omega
theorem Sgn.ok {l : List Nat} (h : Sgn l) : PyData.strOk (tx l) = true := by
  show l.toArray.all (fun c => decide (c < 0x110000)) = true
  unfold Sgn at h
  simpa using h
/-- pairs of texts -/
theorem dp_pair {K : PySem.W.Frag} {H : Hp} {p : Addr} {x y : Str} (h : SqT K H p [.str x, .str y]) : Dp K H (.ref p) (.tuple [.str x, .str y]) :=
  .tup h (.cons (.str _) (.cons (.str _) .nil))
theorem shaped_pair {x y : List Nat} (hx : Sgn x) (hy : Sgn y) : SeqAt.shaped (.tuple [.str (tx x), .str (tx y)]) = true := by
  simp [SeqAt.shaped, PyData.canLay0, PyData.canLayAll0, PyData.depth, PyData.depthAll, hx.ok, hy.ok]
theorem w_neP {K : PySem.W.Frag} {H : Hp} {Q : VK} {p q : Addr} {x y : List Nat} (h1 : SqT K H p [.str (tx x), .str (tx y)]) (h2 : SqT K H q [.str (tx x), .str (tx y)]) (hx : Sgn x) (hy : Sgn y) (k : Q (.bl false) H) : rNeU K (.ref p) (.ref q) H Q :=
  .inr ⟨_, _, dp_pair h1, dp_pair h2, shaped_pair hx hy, shaped_pair hx hy, by
    have e : PyData.eqv (.tuple [.str (tx x), .str (tx y)]) (.tuple [.str (tx x), .str (tx y)]) = true := by simp [PyData.eqv, PyData.eqvAll]
    rw [e]
    exact k⟩
theorem min_max (b : Int) (l : Nat) (hb : 2 ≤ b ∧ b ≤ 100) : ∃ n : Nat, (if (if (l : Int) < b then (l : Int) else b) > 2 then (if (l : Int) < b then (l : Int) else b) else 2) = n ∧ n ≤ 100 := by
  obtain ⟨c, rfl⟩ := Int.eq_ofNat_of_zero_le (show (0 : Int) ≤ b by omega)
  have : ∃ x : Nat, (if (l : Int) < c then (l : Int) else c) = x ∧ x ≤ 100 := by
    split
    · exact ⟨l, rfl, by omega⟩
    · exact ⟨c, rfl, by omega⟩
  obtain ⟨x, hx, hx2⟩ := this
  rw [hx]
  split
  · exact ⟨x, rfl, hx2⟩
  · exact ⟨2, rfl, by omega⟩
end SL
set_option Elab.async false
set_option linter.all false
set_option maxRecDepth 100000
set_option maxHeartbeats 4000000
/-! SlX: an own error with one field, whose class stands over an own class over Exception, and whose __init__ calls that class's own. (Turned from the worked proof of an own error.) -/
namespace PySem
namespace XIn
open PySem.W PySem.Calls PyProof.Rows PySem.HandSPX
def aI (p1 p2 : Pos) : Arguments := { posonlyargs := [], args := [{ arg := "self", annotation := none, pos := p1 }, { arg := "given", annotation := none, pos := p2 }], vararg := none, kwonlyargs := [], kw_defaults := [], kwarg := none, defaults := [] }
def bI (m : Str) (j : Nat) (q1 q2 q3 q4 q5 q6 q7 q8 q9 q10 : Pos) : List Stmt :=
  [.Expr (.Call (.Attribute (.Name "CodecError" q1) "__init__" q2) [.Name "self" q3, .Constant (.str m) j q4] [] q5) q6, .Assign [.Attribute (.Name "self" q7) "given" q8] (.Name "given" q9) q10]
def sI : Scope := { kind := .function, names := [(PySem.Str.ofString "self", .local), (PySem.Str.ofString "given", .local), (PySem.Str.ofString "CodecError", .globalImplicit)], isGenerator := false, isCoroutine := false, more := [] }
/-- what the written part says of the class at C, of the one under it at B, and of its __init__ at fI -/
structure ErrTxt (K : Frag) (mg : Str → Option Value) (x : Str) (C B fI : Addr) : Prop where
  gC : mg x = some (.ref C)
  gB : mg "CodecError" = some (.ref B)
  cls : ∃ nm q N bs sn sub ab col dd k0 k1 k2 k3 k5, K.lookup C = some (excClassObj nm q C N bs (.ref B :: ESX.exTail) true sn sub ab col dd k0 k1 k2 k3 k5 "Exception.__new__")
  sa : findIn K (.ref C) "__setattr__" = some (some (.builtin "object.__setattr__"))
  ga : findIn K (.ref C) "__getattribute__" = some (some (.builtin "BaseException.__getattribute__"))
  gg : findIn K (.ref C) "__getattr__" = some none
  noN : findIn K (.ref C) "given" = some none
  iC : findIn K (.ref C) "__init__" = some (some (.ref fI))
  tC : typeIn K (.ref fI) = some (.type "function")
  kC : keepIn K (.ref C) = true
  exC : subIn K (.ref C) (.type "BaseException") = some true
  tyC : typeIn K (.ref C) = some (.type "type")
  hdC : hasDictIn K C = true
  te : exmOne K (.ref C) (.ref C) = some true
  sp : specialIn K (.ref B) "__getattribute__" = some (some (.builtin "type.__getattribute__"))
  rd : readsIn K B (.type "type") = true
  fc : findCls K (.ref B) (.type "type") "__init__" = some (.val (.builtin "Exception.__init__"))
  fn : ∃ (oc : Value) (od : Option Addr) (doc pm : Value) (an : Option Addr) (cdv ct : Value) (osl : Array (Option Value)) (p1 p2 q1 q2 q3 q4 q5 q6 q7 q8 q9 q10 : Pos) (q m : Str) (j : Nat),
    K.lookup fI = some ⟨oc, od, .func (fnOf "__init__" q (aI p1 p2) (bI m j q1 q2 q3 q4 q5 q6 q7 q8 q9 q10) sI .none .none doc pm an cdv ct), osl⟩ ∧ codeIn K cdv q = true ∧
    ∀ env : Env, ∃ pl : Sem Bool, eval (.Call (.Attribute (.Name "CodecError" q1) "__init__" q2) [.Name "self" q3, .Constant (.str m) j q4] [] q5) env = (do
      let ov ← eval (.Name "CodecError" q1) env
      standAt q2.atName
      let (f, first) ← holding [ov] (getMethod ov "__init__" pl)
      callWith q5 f first (backTo q5 (starEach [.Name "self" q3, .Constant (.str m) j q4] env)) (backToKw q5 (keywordEach [] env)))
theorem one_fits (v : Value) : [v].length ≤ sizeLine := by
  rw [sizeLine_eq]
  exact (by decide : 1 ≤ 16777216)
theorem tail_is (B : Addr) (X : String) : (Value.ref B :: ESX.exTail).contains (.type X) = ESX.exTail.contains (.type X) := by
  rw [List.contains_cons]
  rfl
theorem in_but {K : Frag} {h h' : Heap} {x : Addr} (X : K.In h) (hx : K.lookup x = none) (k : ∀ b o, b ≠ x → h.get? b = some o → h'.get? b = some o) : K.In h' := fun a o e =>
  k a o (fun z => by rw [z, hx] at e; cases e) (X a o e)
theorem ldC {M : Model} {s : Shared} {name : Str} {scope : Scope} {L a : Addr} {cd : Value} {m : Str → Option Value} {x : Str} {pos : Pos} {v : Value} {Q : Value → Shared → Prop} {A : Around} {E : Value → Shared → Prop} (hn : s.heap.Ns L m) (hv : m x = some v) (h : Q v s)
    (hk : scope.kind = .function := by rfl) (hl : (envOfC name scope L a cd).kindOf x = some .local := by rfl) (hd : (x == ("__debug__" : Str)) = false := by decide) :
    wpAny M A (eval (.Name x pos) (envOfC name scope L a cd)) Q E s := wpAny_Name (wpAny_loadName_local hk hl hn hv h) hd
/-! self.name = v on such an exception that has no dict yet -/
section
open Builtin Builtin.ObjectAttr
theorem osa_two {prog : Program} {w : World} {A : Around} {R : Result → Shared → Prop} {hp : Heap} {g : Array GenState} {d : Drawn} {t : Nat} {os : OsState} {K : W.Frag} {name : Str} {tk : Tok} {v : Value} {x C B : Addr} {fv : Array Value} {cd : ClassData}
    (X : K.In hp) (hx : hp.get? x = some { cls := .ref C, data := .fields fv }) (hcd : W.clsIn K C = some cd) (hm : cd.mro = .ref C :: .ref B :: ESX.exTail) (hh : cd.hasDict = true) (ha : W.findIn K (.ref C) name = some none)
    (hq : ∀ h' tk' dx, (∀ b o, b ≠ x → hp.get? b = some o → h'.get? b = some o) → hp.objs.size ≤ dx → dx ≠ x → h'.get? x = some { cls := .ref C, dict := some dx, data := .fields fv } →
      h'.Ns1 dx (fun y => if y = name then some v else none) → R (.ok (.ret .none)) ⟨h', g, d, tk', os⟩) :
    codeAny (model prog w) A (.call (.builtin "object.__setattr__") ⟨[.ref x, .str name tk, v], []⟩) R ⟨hp, g, d, t, os⟩ := by
  have I : W.InstAt hp x { cls := .ref C, data := .fields fv } C none := ⟨hx, rfl, rfl, trivial⟩
  have far : x ≠ hp.objs.size := Nat.ne_of_lt (Heap.lt_size hx)
  have hob : cd.mro.contains (.type "object") = true := by
    have e : ESX.exTail.contains (.type "object") = true := by decide +kernel
    rw [hm, List.contains_cons, List.contains_cons, e]
    simp
  have ofObj : W.Looks (model prog w) hp (isInstance (.ref x) (.type "object")) true :=
    I.type.andThen (W.looks_mroIn X (by unfold W.mroIn; rw [hcd, Option.bind_some, hm, if_neg (by simp), ← hm, hob]))
  have SO := F.store_object
  refine codeAny_call_builtin SO.slot.plain SO.entry (@W.check_slot (model prog w) _ _ ⟨hp, g, d, t, os⟩ "object.__setattr__" "object" "__setattr__" (.ref x) [.str name tk, v] [] _ SO.kind SO.split ofObj (SO.args (.ref x) (.str name tk) v) ?_)
  have chain : W.Looks (model prog w) hp (mroOf (.ref C)) cd.mro := (W.looks_clsIn X hcd).andThen .now
  have noTaker : W.Looks (model prog w) hp (storeTaker? none) none := .now
  have ofC : W.Looks (model prog w) hp (classData C) cd := W.looks_clsIn X hcd
  have goes : refuseLoop (.ref x) "__setattr__" cd.mro = pure () := by
    rw [hm, refuseLoop_ref, refuseLoop_ref]
    exact F.store_Exception.passes _
  rw [W.osa_eq, refuse_eq]
  refine wpAny_bind (wpAny_bind (I.type.at (wpAny_bind (chain.at ?_))))
  rw [goes]
  refine wpAny_pure (wpAny_bind (I.type.at (wpAny_bind ((W.looks_findIn X ha).at (wpAny_bind (noTaker.at ?_))))))
  show wpAny _ _ (storeInOwnDict (.ref x) (.ref C) (.str name tk) name v false) _ _ _
  obtain ⟨nm, bs, mro, ns, qn, hd, sn, sb, ab, col, del⟩ := cd
  dsimp only at hh
  subst hh
  unfold storeInOwnDict ownDictForStores
  repeat (first | with_reducible refine HandSPX.store_in_new ?_ ?_ | with_reducible refine wpAny_loadPart_at hx ?_ | with_reducible refine ofC.at ?_ | wp_step)
  · exact ⟨_, #[], _, (Heap.get?_update_ne _ _ _ _ far.symm).trans (Heap.get?_push_at rfl rfl), rfl, fun e he => absurd he (by simp), fun _ => rfl⟩
  · intro h' tk' hn' hs
    have hx₁ : (hp.push { cls := .type "dict", data := .dict #[] }).get? x = some { cls := .ref C, data := .fields fv } := Heap.get?_push_of_some _ hx
    refine hq h' tk' hp.objs.size (fun b o hb ho => ?_) (Nat.le_refl _) far.symm ?_ hn'
    · exact (hs.2 b (Nat.ne_of_lt (Heap.lt_size ho))).trans ((Heap.get?_update_ne _ _ _ _ hb).trans (Heap.get?_push_of_some _ ho))
    · exact (hs.2 x far).trans (Heap.get?_update_self _ hx₁ rfl)
end
/-- what __init__ leaves of a fresh exception at x -/
structure InitEnd (h h' : Heap) (x C dx : Addr) (v : Value) : Prop where
  keep : ∀ b o, b ≠ x → h.get? b = some o → h'.get? b = some o
  obj : ∃ t1 : Addr, h'.get? x = some ({ cls := .ref C, dict := some dx, data := .fields #[.ref t1, .none, .none, .none, .bool false, .none] } : Obj)
  dbig : h.objs.size ≤ dx
  dne : dx ≠ x
  ns : h'.Ns1 dx (fun y => if y = "given" then some v else none)
/-- a made one -/
structure OwnMade (h h' : Heap) (e C d : Addr) (v : Value) : Prop where
  keep : ∀ b o, h.get? b = some o → h'.get? b = some o
  new : h.objs.size ≤ e
  obj : ∃ oe vs, h'.get? e = some oe ∧ oe.cls = .ref C ∧ oe.dict = some d ∧ oe.data = .fields vs ∧ vs[1]? = some .none
  dbig : h.objs.size ≤ d
  dne : d ≠ e
  ns : h'.Ns1 d (fun y => if y = "given" then some v else none)
section
variable {prog : Program} {w : World} {A : Around} {E : Value → Shared → Prop} {R : Result → Shared → Prop} {s : Shared} {K : Frag} {mg : Str → Option Value} {n : Str} {C B fI : Addr}
theorem err_init (T : ErrTxt K mg n C B fI) {x t0 : Addr} {v : Value} (X : K.In s.heap) (hG : s.heap.Ns mainGlobals mg) (hlim : s.heap.NoLimit) (hx : s.heap.get? x = some (excO C t0)) (hnx : K.lookup x = none) (hroom : A.depth < recursionLimit)
    (hq : ∀ h' tk dx, InitEnd s.heap h' x C dx v → R (.ok (.ret .none)) { s with heap := h', toks := tk }) :
    codeAny (model prog w) A (.call (.ref fI) ⟨[.ref x, v], []⟩) R s := by
  obtain ⟨oc, od, doc, pm, an, cdv, ct, osl, p1, p2, q1, q2, q3, q4, q5, q6, q7, q8, q9, q10, qn, m, j, ho, hcd, hev⟩ := T.fn
  obtain ⟨nm, q, N, bs, sn, sub, ab, col, dd, k0, k1, k2, k3, k5, hC⟩ := T.cls
  have hcl : clsIn K C = some { name := nm, bases := bs, mro := .ref C :: .ref B :: ESX.exTail, ns := N, qualname := q, hasDict := true, slotNames := sn, subclasses := sub, abstract := ab, collection := col, hasDel := false } := by unfold clsIn; rw [hC] <;> rfl
  refine Att.call_fn (binds := [("self", .ref x), ("given", v)]) X hlim ho hcd hroom (BindsTo.of_eq (by first | rfl | with_unfolding_all rfl)) (by first | rfl | decide | with_unfolding_all rfl) (fun s₁ IC => ?_) rfl rfl rfl
  obtain ⟨h₁, tk₁, rfl⟩ := IC.toInCall.same
  have k : ∀ b o, s.heap.get? b = some o → h₁.get? b = some o := IC.toInCall.keep
  have hn := IC.toInCall.ns
  have hxL : s.heap.objs.size ≠ x := Nat.ne_of_gt (Heap.lt_size hx)
  have X₁ : K.In h₁ := X.keeps k
  have hx₁ := k _ _ hx
  have z : s.heap.objs.size < h₁.objs.size := hn.lt
  show wpAny _ _ (execs _ _) _ _ _
  obtain ⟨pl, hev⟩ := hev (envOfC qn sI s.heap.objs.size fI cdv)
  refine wpAny_execs_cons (wpAny_Expr_any (methodCall_KW ?_ hev) (by first | rfl | simp [interactive]) (by first | rfl | with_unfolding_all rfl))
  refine Name_function_global rfl (by first | rfl | with_unfolding_all rfl | kernel_rfl) (loadGlobal_global (mg := mg) (hG.keeps k) T.gB ?_)
  refine method_cls X₁ T.sp (cls_value X₁ T.rd T.fc (by decide +kernel) ?_)
  refine callWith_method1 (args_cons (ldC (v := .ref x) hn (by first | rfl | with_unfolding_all rfl | kernel_rfl) (args_cons (Constant_str (args_nil ?_)))))
  refine wpAny_call (init_base F.excBase_Exception (tail_is B) (X₁ _ _ hC) hx₁ (one_fits _) fun h₂ t₂ k₂ hx₂ => ?_)
  have X₂ : K.In h₂ := in_but X₁ hnx k₂
  have hn₂ := hn.at fun o q => k₂ _ o hxL q
  refine wpAny_execs_cons (plainObj_wpAny_Assign_Attribute ?_)
  refine ldC (v := v) hn₂ (by first | rfl | with_unfolding_all rfl | kernel_rfl) (ldC (v := .ref x) hn₂ (by first | rfl | with_unfolding_all rfl | kernel_rfl) ?_)
  refine set_plain X₂ (ox := excO C t₂) (od := none) ⟨hx₂, rfl, rfl, trivial⟩ T.sa ?_
  refine osa_two X₂ hx₂ hcl rfl rfl T.noN (fun h₃ tk₃ dx k₃ dn dne hx₃ hn₃ => ?_)
  show wpAny _ _ (execs _ _) _ _ _
  have z2 : s.heap.objs.size < h₂.objs.size := hn₂.lt
  exact wpAny_execs_nil (hq h₃ tk₃ dx ⟨fun b o hb e => k₃ b o hb (k₂ b o hb (k b o e)), ⟨_, hx₃⟩, Nat.le_of_lt (Nat.lt_of_lt_of_le z2 dn), dne, hn₃⟩)
theorem err_made (T : ErrTxt K mg n C B fI) {v : Value} (X : K.In s.heap) (hG : s.heap.Ns mainGlobals mg) (hlim : s.heap.NoLimit) (hroom : A.depth + 1 < recursionLimit)
    (hq : ∀ h' tk e d, OwnMade s.heap h' e C d v → R (.ok (.ret (.ref e))) { s with heap := h', toks := tk }) :
    codeAny (model prog w) A (.call (.ref C) ⟨[v], []⟩) R s := by
  obtain ⟨nm, q, N, bs, sn, sub, ab, col, dd, k0, k1, k2, k3, k5, hC⟩ := T.cls
  obtain ⟨hp, g, dr, tk, os⟩ := s
  have k : ∀ b o, hp.get? b = some o → ((hp.push (kdv_tup [v])).push (excO C hp.objs.size)).get? b = some o := fun b o e => Heap.get?_push_of_some _ (Heap.get?_push_of_some _ e)
  have hget : ((hp.push (kdv_tup [v])).push (excO C hp.objs.size)).get? (hp.objs.size + 1) = some (excO C hp.objs.size) := by heap_get
  have hnx : K.lookup (hp.objs.size + 1) = none := by
    cases e : K.lookup (hp.objs.size + 1) with
    | none => rfl
    | some o =>
      have z : hp.get? (hp.objs.size + 1) = some o := X _ _ e
      exact absurd (Nat.lt_of_succ_lt (Heap.lt_size z)) (Nat.lt_irrefl _)
  refine call_own F.excBase_Exception (tail_is B) (X _ _ hC) (looks_findIn X T.iC) (fun self => bind_fn X self T.tC) (one_fits v) ?_
  refine err_init (s := ⟨(hp.push (kdv_tup [v])).push (excO C hp.objs.size), g, dr, tk, os⟩) T (X.keeps k) (hG.keeps k) (hlim.keeps k) hget hnx ?_ fun h' tk' dx ⟨k', ⟨t1, hx⟩, dn, dne, hns⟩ => ?_
  · show A.depth + 1 < recursionLimit
    exact hroom
  · have old : ∀ b o, hp.get? b = some o → h'.get? b = some o := fun b o e => k' b o (Nat.ne_of_lt (Nat.lt_succ_of_lt (Heap.lt_size e))) (k b o e)
    have z : hp.objs.size + 1 + 1 ≤ dx := by
      first
        | (simpa only [Heap.size_push] using dn)
        | exact dn
        | (have q := dn; rw [Heap.size_push, Heap.size_push] at q; exact q)
    exact ⟨rfl, hq h' tk' (hp.objs.size + 1) dx ⟨old, Nat.le_succ _, ⟨_, _, hx, rfl, rfl, rfl, rfl⟩, Nat.le_trans (Nat.le_trans (Nat.le_succ _) (Nat.le_succ _)) z, dne, hns⟩⟩
end
end XIn
end PySem

namespace SL
open PySem PySem.Spec PyProof.Rows L2
/-- the exception's own dict -/
abbrev xdG (v : V) : HO := .xd [(("given" : Str), v)]
theorem relO_given {v : V} {u : Value} (r : RelV v u) (f : Str) : RelO (List.lookup f [(("given" : Str), v)]) (if f = "given" then some u else none) := by
  by_cases hw : f = "given"
  · subst hw
    rw [if_pos rfl]
    have q : List.lookup ("given" : Str) [(("given" : Str), v)] = some v := by simp [List.lookup]
    rw [q]
    exact r
  · rw [if_neg hw]
    have qw : (f == ("given" : Str)) = false := by simpa using hw
    have q2 : List.lookup f [(("given" : Str), v)] = none := by simp [List.lookup, qw]
    rw [q2]
    trivial
/-- X(e): the made error -/
def tMkE (C : Addr) (ta : TA) : SSt → Hp → XK → Prop := fun σ H Q => ta σ H fun vs H1 => ∃ v, vs = [v] ∧ ∀ d, H1 d = none → Q (.ref C) (some d) (upd H1 d (xdG v))
theorem pmk_err {X : Cx} {C B fI : Addr} {x : Str} {a : Expr} {ta : TA} {p pos : Pos} {k : Nat} (T : PySem.XIn.ErrTxt X.K X.mg x C B fI) (hr : Room (k + 1) X.A) (ha : PA X [a] ta) (hg : Gl X x) (hdb : (x == ("__debug__" : Str)) = false := by decide)
    (he : starEach (a :: []) X.env = (false, eval a X.env) :: starEach [] X.env := by rfl) (hpl : (backTo pos (starEach [] X.env)).any (·.1) = false := by rfl) :
    PMk X (.Call (.Name x p) [a] [] pos) (tMkE C ta) := by
  intro pins s σ H Q I h
  refine wpAny_Call_Name_kw (ld_glob I hg T.gC ?_ hdb)
  refine PySem.W.callWith_K (h₀ := X.base) I.ok.mod.kin T.kC (thn (ha.run pos pins s σ H _ I h) fun us s1 hh => ?_) he hpl
  obtain ⟨vs, H1, I1, r1, v, ev, q1⟩ := hh
  subst ev
  refine ⟨I1.kIn, ?_⟩
  cases r1 with
  | cons rv rn =>
    rename_i v' us'
    cases rn
    show wpAny _ _ (call (.ref C) [v']) _ _ _
    have hlim := I1.nolimit
    have hG := I1.ok.mod.glob.keeps I1.bk
    obtain ⟨hp, g, dr, tk, os⟩ := s1
    refine wpAny_call (PySem.XIn.err_made T I1.kIn hG hlim (by have := hr.dp; omega) fun h' tk' e d M => ?_)
    show MkP X pins σ Q (.ref e) ⟨h', g, dr, tk', os⟩
    obtain ⟨oe, fv, hoe, hc, hd, hdat, h1⟩ := M.obj
    have hns := M.ns
    obtain ⟨G', g1, g2⟩ := restrict h' fun b => decide (b ≠ e)
    have gk : ∀ b, b ≠ e → G'.get? b = h'.get? b := fun b hb => g1 b (decide_eq_true hb)
    have ge : G'.get? e = none := g2 e (by simp)
    have old : ∀ b o, hp.get? b = some o → G'.get? b = some o := fun b o q => (gk b (Nat.ne_of_lt (Nat.lt_of_lt_of_le (Heap.lt_size q) M.new))).trans (M.keep b o q)
    have ob : ObjOk X.prog X.w (upd H1 d (xdG v)) G' d (xdG v) := ⟨_, hns.at (fun o q => (gk d M.dne).trans q), fun f => relO_given rv f⟩
    have J : Inv X pins σ (upd H1 d (xdG v)) ⟨G', g, dr, tk', os⟩ := I1.laid (t' := tk') old M.dbig ob
    refine ⟨e, oe, fv, ⟨G', g, dr, tk', os⟩, _, .ref C, some d, rfl, J, fun b o q => ?_, ge, hoe, ⟨hc, hd⟩, hdat, h1, ?_, rfl, I1.bare, raises_own T.exC T.tyC, q1 d (I1.hok.fresh M.dbig)⟩
    · by_cases hb : b = e
      · have q' : G'.get? b = some o := q
        rw [hb, ge] at q'; cases q'
      · exact (gk b hb).symm.trans q
    · rw [upd_ne (Ne.symm M.dne)]
      exact I1.hok.fresh M.new
/-- raise X(e) -/
def tRz (C : Addr) (W : WX) (ta : TA) : TS := fun _ σ H => ta σ H fun vs H1 => ∃ v, vs = [v] ∧ ∀ d, H1 d = none → W (.ref C) (some d) σ (upd H1 d (xdG v))
theorem ps_rz {X : Cx} {C B fI : Addr} {x : Str} {a : Expr} {ta : TA} {W : WX} {p pos pos2 : Pos} {k : Nat} (hc : X.calm = true) (tk : Takes X W) (T : PySem.XIn.ErrTxt X.K X.mg x C B fI) (hr : Room (k + 1) X.A) (hg : Gl X x) (ha : PA X [a] ta) (hdb : (x == ("__debug__" : Str)) = false := by decide)
    (he : starEach (a :: []) X.env = (false, eval a X.env) :: starEach [] X.env := by rfl) (hpl : (backTo pos (starEach [] X.env)).any (·.1) = false := by rfl) :
    PS X (.Raise (some (.Call (.Name x p) [a] [] pos)) none pos2) (tRz C W ta) := ps_raise hc tk (pmk_err T hr ha hg hdb he hpl)
theorem w_rz {C : Addr} {W : WX} {ta : TA} {D : Ends} {σ : SSt} {H : Hp} (q : ta σ H fun vs H1 => ∃ v, vs = [v] ∧ ∀ d, H1 d = none → W (.ref C) (some d) σ (upd H1 d (xdG v))) : tRz C W ta D σ H := q
theorem w_one {Q : V → Prop} {v : V} (q : Q v) : ∃ x, [v] = [x] ∧ Q x := ⟨v, rfl, q⟩
theorem xf_of {K : PySem.W.Frag} {mg : Str → Option Value} {x : Str} {C B fI : Addr} (T : PySem.XIn.ErrTxt K mg x C B fI) : XfC K C := ⟨T.ga, T.gg, T.exC, T.hdC⟩
/-- try: body, except X as n: suite -/
def tTryA (K : PySem.W.Frag) (c : Value) (i : Nat) (ts : Addr → Value → Option Addr → TS) (Wout : WX) (tb : WX → TS) : TS := fun D σ H => tb (wAs K c i ts Wout D) D σ H
theorem ps_tryA (K : PySem.W.Frag) {X : Cx} {x n : Str} {c : Value} {i : Nat} {body suite : List Stmt} {b₀ : Stmt} {np pos pos' : Pos} {tb : WX → TS} {ts : Addr → Value → Option Addr → TS} {Wout : WX} (hK : X.K = K)
    (hs : X.stack = X.env :: X.outer) (hf : X.env.frame = some X.env.locals) (hN : X.N.Nodup) (hi : X.N[i]? = some n) (hln : X.env.kindOf n = some .local) (hc : Names X x c) (tk : Takes X Wout)
    (hb : ∀ (W : WX) (pn : List (Addr × Obj)) (xe : Value → Shared → Prop), Takes (X.tr pn xe) W → PassesOwn (model X.prog X.w) X.A X.env xe → PSs (X.tr pn xe) body (tb W))
    (hsu : ∀ (a : Addr) (oe : Obj) (cls : Value) (d : Option Addr) (pn : List (Addr × Obj)), Zc cls d oe → (∃ vs, oe.data = .fields vs) → PSs (X.suite a ((a, oe) :: pn)) (b₀ :: suite) (ts a cls d)) :
    PS X (.Try body [.ExceptHandler (some (.Name x np)) (some n) (b₀ :: suite) pos'] [] [] pos) (tTryA K c i ts Wout tb) := hK ▸ ps_try_as hs hf hN hi hln hc tk hb hsu
theorem w_tryA {K : PySem.W.Frag} {c : Value} {i : Nat} {ts : Addr → Value → Option Addr → TS} {Wout : WX} {tb : WX → TS} {D : Ends} {σ : SSt} {H : Hp} (q : tb (wAs K c i ts Wout D) D σ H) : tTryA K c i ts Wout tb D σ H := q
/-- the clause takes it -/
theorem wAs_of {K : PySem.W.Frag} {c cls : Value} {i : Nat} {ts : Addr → Value → Option Addr → TS} {Wout : WX} {D : Ends} {d : Option Addr} {σ : SSt} {H : Hp} (h : PySem.W.exmOne K cls c = some true)
    (q : ∀ a, H a = none → ts a cls d { nx := fun σ' H' => D.nx (σ'.set i none) H', rt := D.rt, bk := fun σ' H' => D.bk (σ'.set i none) H', ct := fun σ' H' => D.ct (σ'.set i none) H' } (σ.set i (some (.ref a))) H) : wAs K c i ts Wout D cls d σ H :=
  ⟨true, h, fun _ => q, fun h => nomatch h⟩
/-- e.given in the suite, e the caught error at a -/
def tGiv (C a : Addr) (cls : Value) (d : Option Addr) (i : Nat) : TE := fun σ H Q => σ[i]? = some (some (.ref a)) ∧ cls = .ref C ∧ ∃ (b : Addr) (v : V), d = some b ∧ H b = some (xdG v) ∧ Q v H
theorem pe_giv {X : Cx} {x : Str} {a C B fI : Addr} {oe : Obj} {cls : Value} {d : Option Addr} {pn : List (Addr × Obj)} {e : Expr} {i : Nat} {pos : Pos} (T : PySem.XIn.ErrTxt X.K X.mg x C B fI)
    (hz : Zc cls d oe) (hf : ∃ vs, oe.data = .fields vs) (he : PE (X.suite a ((a, oe) :: pn)) e (tVar i)) (hb : attributeBase e "given" X.env (eval e X.env) = eval e X.env := by rfl) :
    PE (X.suite a ((a, oe) :: pn)) (.Attribute e "given" pos) (tGiv C a cls d i) := by
  refine ⟨fun pins s σ H Q I h => (pe_xf (xf_of T) T.noN hz hf he hb).run pins s σ H Q I ?_⟩
  obtain ⟨h1, h2, b, v, h3, h4, q⟩ := h
  exact ⟨.ref a, h1, rfl, h2, b, _, v, h3, h4, by simp [List.lookup], q⟩
theorem w_giv {C a d : Addr} {i : Nat} {σ : SSt} {H : Hp} {Q : VK} {v : V} (h : σ[i]? = some (some (.ref a))) (hd : H d = some (xdG v)) (q : Q v H) : tGiv C a (.ref C) (some d) i σ H Q := ⟨h, rfl, d, v, rfl, hd, q⟩
theorem noXt {X : Cx} : ∀ σ, PassesAt (L2.CX X.prog X.w) X σ (E0s σ) := noX
/-- what a def lets out is its own wish -/
theorem tk_def {P : Program} {w : World} {K : PySem.W.Frag} {mg : Str → Option Value} {base : Heap} {N : List Str} {q : Str} {sc : Scope} {f : Addr} {cd : Value} {A : Around} {outer : List Env} {s : Shared} {H : Hp} {E : XK} :
    Takes (cxOf (L2.CX P w) P w K mg base N q sc f cd A outer s H E) (fun cls d _ H => E cls d H) := takes_of rfl rfl rfl rfl
theorem po_def {P : Program} {w : World} {K : PySem.W.Frag} {mg : Str → Option Value} {base : Heap} {N : List Str} {q : Str} {sc : Scope} {f : Addr} {cd : Value} {A : Around} {outer : List Env} {s : Shared} {H : Hp} {E : XK} :
    PassesOwn (model P w) (cxOf (L2.CX P w) P w K mg base N q sc f cd A outer s H E).A (cxOf (L2.CX P w) P w K mg base N q sc f cd A outer s H E).env (cxOf (L2.CX P w) P w K mg base N q sc f cd A outer s H E).xe := passes_of rfl
/-- how a class of errors is named -/
theorem names_err {X : Cx} {x : Str} {C B fI : Addr} (T : PySem.XIn.ErrTxt X.K X.mg x C B fI) (hg : Gl X x) (hdb : (x == ("__debug__" : Str)) = false := by decide) : Names X x (.ref C) := ⟨hg, hdb, .inl T.gC⟩
end SL
set_option Elab.async false
set_option linter.all false
set_option maxRecDepth 100000
set_option maxHeartbeats 4000000
/-! SlR: repr of data: nested lists and tuples of None, bools, ints and texts; an empty dict. -/
namespace SL
open PySem PySem.Spec PyProof.Rows L2
/-- may be written out -/
def ShowOk (d : PyData) : Prop := d.showable = true ∧ d.hasDict = false ∧ d.depth ≤ 60 ∧ d.shown.length ≤ 16777216
def rReprD (K : PySem.W.Frag) : List V → Hp → VK → Prop := fun xs H Q => ∃ x, xs = [x] ∧ ((∃ d, Dp K H x d ∧ ShowOk d ∧ Q (.str d.shown) H) ∨ (∃ a, x = .ref a ∧ H a = some (.dK []) ∧ Q (.str (PyData.dict []).shown) H))
theorem uReprD {X : Cx} {k : Nat} (hr : Room k X.A) (hg : X.A.guards = some []) : CallR X (.builtin "repr") (rReprD X.K) := by
  intro pins s σ H xs us Q I r h
  obtain ⟨x, rfl, h⟩ := h
  obtain ⟨u, rfl, ru⟩ := vals1 r
  have hu := hr.units
  have fin : ∀ {d : PyData} {as : List Addr} {a : Addr}, u = .ref a → Reads s.heap u d as → d.showable = true → (d.hasDict = true → sysModules ∉ as) → d.depth ≤ 60 → d.shown.length ≤ 16777216 → Q (.str d.shown) H →
      wpAny (model X.prog X.w) X.A (call (.builtin "repr") [u]) (EP X pins σ Q) X.xe s := by
    intro d as a e rd sh hs hd hz q
    subst e
    refine repr_of_reads' rd sh hs hg (by omega) (fun _ _ e => e) (fun h' t tk k => ⟨.str d.shown, H, I.kept k, ⟨_, rfl⟩, q⟩) (by rw [sizeLine_eq]; exact hz)
  rcases h with ⟨d, hd, ⟨s1, s2, s3, s4⟩, q⟩ | ⟨a, rfl, ha, q⟩
  · cases hd with
    | non =>
      cases (show u = Value.none from ru)
      exact PySem.P.repr_of_none ⟨.str _, H, I.tok _, ⟨_, rfl⟩, q⟩
    | bl b =>
      cases (show u = Value.bool b from ru)
      refine PySem.P.repr_of_bool ⟨.str _, H, I.tok _, ⟨_, rfl⟩, ?_⟩
      first | exact q | (cases b <;> exact q)
    | int i =>
      obtain ⟨t, rfl⟩ := ru
      refine PySem.P.repr_of_int (by simpa [PyData.showable] using s1) ⟨.str _, H, I.tok _, ⟨_, rfl⟩, q⟩
    | str y =>
      obtain ⟨t, rfl⟩ := ru
      exact PySem.P.repr_of_str ⟨.str _, H, I.tok _, ⟨_, rfl⟩, q⟩ (by rw [sizeLine_eq]; exact s4)
    | lst h1 h2 =>
      obtain ⟨as, rd⟩ := Dp.reads I _ _ u (.lst h1 h2) ru
      exact fin (show u = Value.ref _ from ru) rd s1 (fun z => by rw [s2] at z; cases z) s3 s4 q
    | tup h1 h2 =>
      obtain ⟨as, rd⟩ := Dp.reads I _ _ u (.tup h1 h2) ru
      exact fin (show u = Value.ref _ from ru) rd s1 (fun z => by rw [s2] at z; cases z) s3 s4 q
  · obtain ⟨_, ns, vs, kv, o, es, ep, e1, ⟨e2, e3, _, e4, _⟩⟩ := (show ObjOk X.prog X.w H s.heap a (.dK []) from I.hok a _ ha)
    have hvs : vs = [] := by
      cases kv
      rfl
    subst hvs
    have hes : es.toList = [] := by
      have := e4
      unfold Pairs at this
      cases h : es.toList with
      | nil => rfl
      | cons x r => rw [h] at this; cases this
    have rd : Reads s.heap u (.dict []) ([a] ++ []) := by
      rw [show u = Value.ref a from ru]
      have hd : Reads s.heap (.ref a) (.dict []) (a :: [] ++ []) := Reads.dict e1 (by first | exact e2.1 | exact e2.cls | exact e2) e3 (by rw [hes]; exact .nil) (by rw [hes]; exact .nil)
      exact hd
    refine fin (d := .dict []) (show u = Value.ref a from ru) rd (by rfl) (fun _ hm => ?_) (by decide) (by decide) q
    rw [List.append_nil, List.mem_singleton] at hm
    rw [← hm] at ns
    simp at ns
theorem kReprD (K : PySem.W.Frag) {X : Cx} {k : Nat} (h : X.K = K) (hr : Room k X.A) (hg : X.A.guards = some []) : CallR X (.builtin "repr") (rReprD K) := h ▸ uReprD hr hg
/-- a value that can be written out, and what is written -/
def Shown (K : PySem.W.Frag) (H : Hp) (v : V) (t : Str) : Prop := (∃ d, Dp K H v d ∧ ShowOk d ∧ t = d.shown) ∨ (∃ a, v = .ref a ∧ H a = some (.dK []) ∧ t = (PyData.dict []).shown)
theorem w_reprD {K : PySem.W.Frag} {H : Hp} {Q : VK} {v : V} {t : Str} (h : Shown K H v t) (q : Q (.str t) H) : rReprD K [v] H Q := by
  rcases h with ⟨d, h1, h2, rfl⟩ | ⟨a, h1, h2, rfl⟩
  · exact ⟨v, rfl, .inl ⟨d, h1, h2, q⟩⟩
  · exact ⟨v, rfl, .inr ⟨a, h1, h2, q⟩⟩
/-! errors by their names -/
def errAt (mg : Str → Option Value) (x : Str) : Addr := match mg x with | some (.ref C) => C | _ => 0
def ErrAt (K : PySem.W.Frag) (mg : Str → Option Value) (x : Str) : Prop := ∃ B fI, PySem.XIn.ErrTxt K mg x (errAt mg x) B fI
theorem ErrAt.of {K : PySem.W.Frag} {mg : Str → Option Value} {x : Str} {C B fI : Addr} (T : PySem.XIn.ErrTxt K mg x C B fI) : ErrAt K mg x := by
  have e : errAt mg x = C := by unfold errAt; rw [T.gC]
  exact ⟨B, fI, e.symm ▸ T⟩
theorem ErrAt.te {K : PySem.W.Frag} {mg : Str → Option Value} {x : Str} (T : ErrAt K mg x) : PySem.W.exmOne K (.ref (errAt mg x)) (.ref (errAt mg x)) = some true := by
  obtain ⟨B, fI, T⟩ := T
  exact T.te
theorem ps_rzA (mg : Str → Option Value) {X : Cx} {x : Str} {a : Expr} {ta : TA} {W : WX} {p pos pos2 : Pos} {k : Nat} (T : ErrAt X.K X.mg x) (hm : X.mg = mg) (hc : X.calm = true) (tk : Takes X W) (hr : Room (k + 1) X.A) (hg : Gl X x) (ha : PA X [a] ta) (hdb : (x == ("__debug__" : Str)) = false := by decide)
    (he : starEach (a :: []) X.env = (false, eval a X.env) :: starEach [] X.env := by rfl) (hpl : (backTo pos (starEach [] X.env)).any (·.1) = false := by rfl) :
    PS X (.Raise (some (.Call (.Name x p) [a] [] pos)) none pos2) (tRz (errAt mg x) W ta) := by
  subst hm
  obtain ⟨B, fI, T⟩ := T
  exact ps_rz hc tk T hr hg ha hdb he hpl
theorem pe_givA (mg : Str → Option Value) {X : Cx} {x : Str} {a : Addr} {oe : Obj} {cls : Value} {d : Option Addr} {pn : List (Addr × Obj)} {e : Expr} {i : Nat} {pos : Pos} (T : ErrAt X.K X.mg x) (hm : X.mg = mg)
    (hz : Zc cls d oe) (hf : ∃ vs, oe.data = .fields vs) (he : PE (X.suite a ((a, oe) :: pn)) e (tVar i)) (hb : attributeBase e "given" X.env (eval e X.env) = eval e X.env := by rfl) :
    PE (X.suite a ((a, oe) :: pn)) (.Attribute e "given" pos) (tGiv (errAt mg x) a cls d i) := by
  subst hm
  obtain ⟨B, fI, T⟩ := T
  exact pe_giv T hz hf he hb
theorem names_errA (mg : Str → Option Value) {X : Cx} {x : Str} (T : ErrAt X.K X.mg x) (hm : X.mg = mg) (hg : Gl X x) (hdb : (x == ("__debug__" : Str)) = false := by decide) : Names X x (.ref (errAt mg x)) := by
  subst hm
  obtain ⟨B, fI, T⟩ := T
  exact names_err T hg hdb
end SL
namespace SL
/-- an error of a class is what the clause of this class takes (the worked proof's row) -/
theorem exm_self {K : PySem.W.Frag} {S : PySem.Addr} (h1 : PySem.W.subIn K (.ref S) (.type "BaseException") = some true) (h2 : PySem.W.isClsIn K S = true) (h3 : PySem.W.typeIn K (.ref S) = some (.type "type")) (h4 : PySem.W.subIn K (.ref S) (.ref S) = some true) :
    PySem.W.exmOne K (.ref S) (.ref S) = some true := by
  have e1 : (PySem.W.subIn K (.ref S) (.type "BaseException") == some true) = true := by rw [h1] <;> rfl
  have e2 : ((PySem.W.clsIn K S).isSome && PySem.W.typeIn K (.ref S) == some (.type "type")) = true := by
    have h2' : (PySem.W.clsIn K S).isSome = true := h2
    rw [h2', h3] <;> rfl
  show (if (PySem.W.subIn K (.ref S) (.type "BaseException") == some true) = true then (if ((PySem.W.clsIn K S).isSome && PySem.W.typeIn K (.ref S) == some (.type "type")) = true then PySem.W.subIn K (.ref S) (.ref S) else none) else none) = some true
  rw [if_pos e1, if_pos e2]
  exact h4
end SL
set_option Elab.async false
set_option linter.all false
set_option maxRecDepth 100000
set_option maxHeartbeats 4000000
/-! SlS: values of any kind, as texts and lags are asked of them. -/
namespace SL
open PySem PySem.Spec PyProof.Rows L2
/-- the names of the kinds of values -/
def Kind (t : String) : Prop := t = "int" ∨ t = "bool" ∨ t = "NoneType" ∨ t = "list" ∨ t = "tuple" ∨ t = "dict" ∨ t = "str"
def KindX (t : String) : Prop := t = "int" ∨ t = "bool" ∨ t = "str" ∨ t = "list" ∨ t = "tuple"
theorem kit_kind {K : PySem.W.Frag} {t n : String} (ht : Kind t) (hn : KindX n) : PySem.W.kitOne K (.type t) (.type n) = some (t == n || (t == "bool" && n == "int")) := by
  rcases ht with rfl | rfl | rfl | rfl | rfl | rfl | rfl <;> rcases hn with rfl | rfl | rfl | rfl | rfl <;> exact kit_ty (by decide +kernel)
theorem w_isiK {K : PySem.W.Frag} {H : Hp} {Q : VK} {v : V} {t n : String} (h : TyX K H v (.type t)) (ht : Kind t) (hn : KindX n) (q : Q (.bl (t == n || (t == "bool" && n == "int"))) H) : rIsi K [v, .ty n] H Q :=
  ⟨v, _, .type t, .type n, _, rfl, .ty n, h, kit_kind ht hn, q⟩
/-- how the kind stays -/
theorem tyx_mono {K : PySem.W.Frag} {H H' : Hp} {v : V} {t : Value} (s : Same H H') (h : TyX K H v t) : TyX K H' v t := by
  cases h with
  | base b => cases b with
    | non => exact .base .non
    | bl b => exact .base (.bl b)
    | int i => exact .base (.int i)
    | str x => exact .base (.str x)
    | flt x => exact .base (.flt x)
    | lst e => exact .base (.lst (s _ _ e))
    | tup e => exact .base (.tup (s _ _ e))
    | frz e => exact .base (.frz (s _ _ e))
    | dK e => exact .base (.dK (s _ _ e))
    | dT e => exact .base (.dT (s _ _ e))
    | ins e cl ha hn htk hm => exact .base (.ins (s _ _ e) cl ha hn htk hm)
  | byt b => exact .byt b
  | set e => exact .set (s _ _ e)
  | kList e c => exact .kList e c
  | kTuple e c => exact .kTuple e c
  | kDict e c => exact .kDict e c
  | fTuple e => exact .fTuple (s _ _ e)
  | fDict e => exact .fDict (s _ _ e)
/-- what is_text answers of v -/
def IsTx (K : PySem.W.Frag) (H : Hp) (v : V) (b : Bool) : Prop := (∃ l, v = .str (tx l) ∧ l.length ≤ 100000 ∧ b = decide (Let l)) ∨ (b = false ∧ ∃ t, TyX K H v (.type t) ∧ Kind t ∧ t ≠ "str")
theorem IsTx.mono {K : PySem.W.Frag} {H H' : Hp} {v : V} {b : Bool} (s : Same H H') (h : IsTx K H v b) : IsTx K H' v b := by
  rcases h with h | ⟨h1, t, h2, h3⟩
  · exact .inl h
  · exact .inr ⟨h1, t, tyx_mono s h2, h3⟩
/-- what is_lag answers of v -/
def IsLg (K : PySem.W.Frag) (H : Hp) (v : V) (b : Bool) : Prop := (b = false ∧ ∃ t, TyX K H v (.type t) ∧ Kind t ∧ t ≠ "tuple") ∨
  (∃ p xs, v = .ref p ∧ H p = some (.tup xs) ∧ ((b = false ∧ xs.length ≠ 2) ∨ (∃ x y, xs = [x, y] ∧ b = false ∧ IsTx K H x false) ∨ (∃ l y, xs = [.str (tx l), y] ∧ b = false ∧ l.length ≤ 100000 ∧ Let l ∧ IsTx K H y false) ∨
    (∃ l m, xs = [.str (tx l), .str (tx m)] ∧ l.length ≤ 100000 ∧ m.length ≤ 100000 ∧ Let l ∧ Let m ∧ b = decide (l = [] ∨ m = []))))
theorem IsLg.mono {K : PySem.W.Frag} {H H' : Hp} {v : V} {b : Bool} (s : Same H H') (h : IsLg K H v b) : IsLg K H' v b := by
  rcases h with ⟨h1, t, h2, h3⟩ | ⟨p, xs, h1, h2, h3⟩
  · exact .inl ⟨h1, t, tyx_mono s h2, h3⟩
  · refine .inr ⟨p, xs, h1, s _ _ h2, ?_⟩
    rcases h3 with h3 | ⟨x, y, e, hb, hx⟩ | ⟨l, y, e, hb, z, hl, hy⟩ | h3
    · exact .inl h3
    · exact .inr (.inl ⟨x, y, e, hb, hx.mono s⟩)
    · exact .inr (.inr (.inl ⟨l, y, e, hb, z, hl, hy.mono s⟩))
    · exact .inr (.inr (.inr h3))
/-- a small lag -/
def IsSmall (K : PySem.W.Frag) (H : Hp) (v : V) (x y : List Nat) : Prop := ∃ p, v = .ref p ∧ H p = some (.tup [.str (tx x), .str (tx y)]) ∧ x.length ≤ 10000 ∧ y.length ≤ 10000 ∧ Let x ∧ Let y
theorem in_pair2 {x y : List Nat} : inV (V.str (tx [])) [V.str (tx x), V.str (tx y)] = decide (x = [] ∨ y = []) := by
  by_cases h : x = [] ∨ y = []
  · rw [in_pair h, decide_eq_true h]
  · rw [decide_eq_false h]
    have e : ∀ z : List Nat, z ≠ [] → eqV (V.str (tx z)) (V.str (tx [])) = false := fun z hz => by
      cases z with
      | nil => exact absurd rfl hz
      | cons a r => first | rfl | simp [eqV] | (simp [eqV, tx])
    have h1 : x ≠ [] := fun z => h (.inl z)
    have h2 : y ≠ [] := fun z => h (.inr z)
    simp [inV, e x h1, e y h2]
end SL
set_option Elab.async false
set_option linter.all false
set_option maxRecDepth 100000
set_option maxHeartbeats 4000000
/-! SlV: data that a heap holds, read as plain data. -/
namespace SL
open PySem PySem.Spec PyProof.Rows L2
mutual
inductive Dv (H : Hp) : V → PyData → Prop
  | non : Dv H .non .none
  | bl (b : Bool) : Dv H (.bl b) (.bool b)
  | int (i : Int) : Dv H (.int i) (.int i)
  | str (l : List Nat) : Dv H (.str (tx l)) (.str (tx l))
  | lst {a : Addr} {xs : List V} {ds : List PyData} : H a = some (.lst xs) → DvAll H xs ds → Dv H (.ref a) (.list ds)
  | tup {a : Addr} {xs : List V} {ds : List PyData} : H a = some (.tup xs) → DvAll H xs ds → Dv H (.ref a) (.tuple ds)
  | emp {a : Addr} : H a = some (.dK []) → Dv H (.ref a) (.dict [])
inductive DvAll (H : Hp) : List V → List PyData → Prop
  | nil : DvAll H [] []
  | cons {v : V} {vs : List V} {d : PyData} {ds : List PyData} : Dv H v d → DvAll H vs ds → DvAll H (v :: vs) (d :: ds)
end
mutual
theorem Dv.mono {H H' : Hp} (s : Same H H') : ∀ (d : PyData) (v : V), Dv H v d → Dv H' v d
  | .none, _, h => by cases h; exact .non
  | .bool b, _, h => by cases h; exact .bl b
  | .int i, _, h => by cases h; exact .int i
  | .str x, _, h => by
    cases h
    exact .str _
  | .list ds, _, h => by
    cases h with
    | lst h1 h2 => exact .lst (s _ _ h1) (DvAll.mono s ds _ h2)
  | .tuple ds, _, h => by
    cases h with
    | tup h1 h2 => exact .tup (s _ _ h1) (DvAll.mono s ds _ h2)
  | .dict ks, _, h => by
    cases h with
    | emp h1 => exact .emp (s _ _ h1)
theorem DvAll.mono {H H' : Hp} (s : Same H H') : ∀ (ds : List PyData) (vs : List V), DvAll H vs ds → DvAll H' vs ds
  | [], _, h => by cases h; exact .nil
  | d :: ds, _, h => by
    cases h with
    | cons h1 h2 => exact .cons (Dv.mono s d _ h1) (DvAll.mono s ds _ h2)
end
mutual
theorem Dv.dp {K : PySem.W.Frag} {H : Hp} : ∀ (d : PyData) (v : V), Dv H v d → d.hasDict = false → Dp K H v d
  | .none, _, h, _ => by cases h; exact .non
  | .bool b, _, h, _ => by cases h; exact .bl b
  | .int i, _, h, _ => by cases h; exact .int i
  | .str x, _, h, _ => by
    cases h
    exact .str _
  | .list ds, _, h, z => by
    cases h with
    | lst h1 h2 => exact .lst (SqL.of h1) (DvAll.dp ds _ h2 (by simpa [PyData.hasDict] using z))
  | .tuple ds, _, h, z => by
    cases h with
    | tup h1 h2 => exact .tup (SqT.of h1) (DvAll.dp ds _ h2 (by simpa [PyData.hasDict] using z))
  | .dict ks, _, _, z => by simp [PyData.hasDict] at z
theorem DvAll.dp {K : PySem.W.Frag} {H : Hp} : ∀ (ds : List PyData) (vs : List V), DvAll H vs ds → PyData.hasDictAll ds = false → DpAll K H vs ds
  | [], _, h, _ => by cases h; exact .nil
  | d :: ds, _, h, z => by
    cases h with
    | cons h1 h2 =>
      simp [PyData.hasDictAll] at z
      exact .cons (Dv.dp d _ h1 z.1) (DvAll.dp ds _ h2 z.2)
end
/-- can be written out -/
def okD (d : PyData) : Bool := (match d with | .dict [] => true | d => d.showable && !d.hasDict) && decide (d.depth ≤ 60) && decide (d.shown.length ≤ 16777216)
theorem Dv.shown {K : PySem.W.Frag} {H : Hp} {v : V} {d : PyData} (h : Dv H v d) (ok : okD d = true) : Shown K H v d.shown := by
  unfold okD at ok
  rw [Bool.and_eq_true, Bool.and_eq_true, decide_eq_true_eq, decide_eq_true_eq] at ok
  obtain ⟨⟨o1, o2⟩, o3⟩ := ok
  by_cases hd : d = .dict []
  · subst hd
    cases h with
    | emp h1 => exact .inr ⟨_, rfl, h1, rfl⟩
  · have o1' : d.showable = true ∧ d.hasDict = false := by
      cases d with
      | dict ks =>
        cases ks with
        | nil => exact absurd rfl hd
        | cons a r => simpa using o1
      | _ => simpa using o1
    exact .inl ⟨d, Dv.dp d v h o1'.2, ⟨o1'.1, o1'.2, o2, o3⟩, rfl⟩
/-- the kind -/
def kindD : PyData → String
  | .none => "NoneType" | .bool _ => "bool" | .int _ => "int" | .str _ => "str" | .list _ => "list" | .tuple _ => "tuple" | .dict _ => "dict"
theorem kind_ok (d : PyData) : Kind (kindD d) := by
  unfold Kind kindD
  cases d <;> simp
theorem Dv.ty {K : PySem.W.Frag} {H : Hp} {v : V} {d : PyData} (h : Dv H v d) : TyX K H v (.type (kindD d)) := by
  cases h with
  | non => exact .base .non
  | bl b => exact .base (.bl b)
  | int i => exact .base (.int i)
  | str l => exact .base (.str _)
  | lst h1 _ => exact .base (.lst h1)
  | tup h1 _ => exact .base (.tup h1)
  | emp h1 => exact .base (.dK h1)
/-- what is_text says of data, of lengths that are small -/
def txB : PyData → Bool
  | .str x => decide (Let x.cps.toList)
  | _ => false
def smS : PyData → Bool
  | .str x => decide (x.cps.toList.length ≤ 1000)
  | _ => true
theorem Dv.tx {K : PySem.W.Frag} {H : Hp} {v : V} {d : PyData} (h : Dv H v d) (s : smS d = true) : IsTx K H v (txB d) := by
  by_cases hk : kindD d = "str"
  · cases h with
    | str l => exact .inl ⟨l, rfl, by have := of_decide_eq_true s; have e : (SL.tx l).cps.toList = l := rfl; rw [e] at this; omega, rfl⟩
    | _ => exact absurd hk (by simp [kindD])
  · refine .inr ⟨?_, kindD d, h.ty, kind_ok d, hk⟩
    cases d <;> first | rfl | exact absurd rfl hk
/-- what is_lag says of data -/
def lgB : PyData → Bool
  | .tuple [a, b] => txB a && txB b && (a.shown == (PyData.str (SL.tx [])).shown || b.shown == (PyData.str (SL.tx [])).shown)
  | _ => false
def smL : PyData → Bool
  | .tuple [a, b] => smS a && smS b
  | _ => true
/-- what is no lag: by its parts -/
def noLg : PyData → Bool
  | .tuple [a, b] => !txB a || !txB b || (match a, b with | .str x, .str y => !x.cps.toList.isEmpty && !y.cps.toList.isEmpty | _, _ => true)
  | _ => true
theorem Dv.lg {K : PySem.W.Frag} {H : Hp} {v : V} {d : PyData} (h : Dv H v d) (s : smL d = true) (n : noLg d = true) : IsLg K H v false := by
  by_cases hk : kindD d = "tuple"
  · cases h with
    | @tup a xs ds h1 h2 =>
      refine .inr ⟨a, xs, rfl, h1, ?_⟩
      match xs, ds, h2 with
      | [], [], _ => exact .inl ⟨rfl, by simp⟩
      | [x], [d], _ => exact .inl ⟨rfl, by simp⟩
      | [x, y], [d, e], .cons hx (.cons hy .nil) =>
        have s' : smS d = true ∧ smS e = true := by simpa [smL] using s
        have tx1 := hx.tx (K := K) s'.1
        have ty1 := hy.tx (K := K) s'.2
        cases hd : txB d with
        | false =>
          rw [hd] at tx1
          exact .inr (.inl ⟨x, y, rfl, rfl, tx1⟩)
        | true =>
          cases hx with
          | str l =>
            have hl : Let l := of_decide_eq_true hd
            have zl : l.length ≤ 1000 := of_decide_eq_true s'.1
            cases he : txB e with
            | false =>
              rw [he] at ty1
              exact .inr (.inr (.inl ⟨l, y, rfl, rfl, by omega, hl, ty1⟩))
            | true =>
              cases hy with
              | str m =>
                have hm : Let m := of_decide_eq_true he
                have zm : m.length ≤ 1000 := of_decide_eq_true s'.2
                refine .inr (.inr (.inr ⟨l, m, rfl, by omega, by omega, hl, hm, ?_⟩))
                have n' : (l.isEmpty = false ∧ m.isEmpty = false) := by
                  have : (!txB (.str (SL.tx l)) || !txB (.str (SL.tx m)) || (!l.isEmpty && !m.isEmpty)) = true := n
                  rw [hd, he] at this
                  simpa using this
                symm
                rw [decide_eq_false_iff_not]
                rintro (rfl | rfl)
                · simp at n'
                · simp at n'
              | _ => simp [txB] at he
          | _ => simp [txB] at hd
      | x :: y :: z :: r, d :: e :: g :: q, _ => exact .inl ⟨rfl, by simp⟩
    | _ => exact absurd hk (by simp [kindD])
  · exact .inl ⟨rfl, kindD d, h.ty, kind_ok d, hk⟩
/-- all but those of l -/
def hide (l : List Addr) (H : Hp) : Hp := fun b => if b ∈ l then none else H b
theorem hide_get {l : List Addr} {e : Addr} {H : Hp} {o : HO} (h : H e = some o) (n : e ∉ l) : hide l H e = some o := by unfold hide; rw [if_neg n]; exact h
theorem hide_to {l : List Addr} {H H' : Hp} (f : ∀ b o, H b = some o → b ∉ l → H' b = some o) : Same (hide l H) H' := fun b o h => by
  unfold hide at h
  by_cases e : b ∈ l
  · rw [if_pos e] at h; cases h
  · rw [if_neg e] at h; exact f b o h e
theorem not_in {l : List Addr} {H H' : Hp} {e : Addr} (h : ∀ c ∈ l, H c ≠ none) (s : Same H H') (n : H' e = none) : e ∉ l := fun m => by
  have z := h e m
  cases q : H e with
  | none => exact z q
  | some o => rw [s _ _ q] at n; cases n
theorem dv_in {l : List Addr} {H : Hp} {c : Addr} {d : PyData} (h : Dv (hide l H) (.ref c) d) : c ∉ l := fun m => by
  have e : hide l H c = none := by unfold hide; rw [if_pos m]
  cases h with
  | lst h1 _ => rw [e] at h1; cases h1
  | tup h1 _ => rw [e] at h1; cases h1
  | emp h1 => rw [e] at h1; cases h1
theorem DvAll.len {H : Hp} : ∀ {vs : List V} {ds : List PyData}, DvAll H vs ds → vs.length = ds.length
  | [], [], _ => rfl
  | _ :: _, _ :: _, .cons _ r => by rw [List.length_cons, List.length_cons, r.len]
theorem same_upd {q : Addr} {H H' : Hp} {o : HO} (s : Same H H') : Same (upd H q o) (upd H' q o) := fun b u h => by
  by_cases e : b = q
  · subst e; rw [upd_same] at h ⊢; exact h
  · rw [upd_ne e] at h ⊢; exact s b u h
end SL
namespace SL
open PySem PySem.Spec PyProof.Rows L2
theorem fin_new {H : Hp} {e : Addr} {o : HO} {R : Hp → Prop} (k : ∀ F, Same (upd H e o) F → F e = some o → R F) : R (upd H e o) := k _ (Same.refl _) upd_same
end SL
namespace SL
open PySem PySem.Spec PyProof.Rows L2
def natL (ks : List Nat) : List V := ks.map fun k : Nat => V.int (k : Int)
theorem dp_nats {K : PySem.W.Frag} {H : Hp} : ∀ ks : List Nat, DpAll K H (natL ks) (ks.map fun k : Nat => PyData.int (k : Int))
  | [] => .nil
  | k :: r => .cons (.int _) (dp_nats r)
theorem lay_nats : ∀ ks : List Nat, PyData.canLayAll0 (ks.map fun k : Nat => PyData.int (k : Int)) = true
  | [] => by simp [PyData.canLayAll0]
  | k :: r => by
    have := lay_nats r
    simp [PyData.canLayAll0, PyData.canLay0, this]
theorem deep_nats : ∀ ks : List Nat, PyData.depthAll (ks.map fun k : Nat => PyData.int (k : Int)) = 0
  | [] => by simp [PyData.depthAll]
  | k :: r => by
    have := deep_nats r
    simp [PyData.depthAll, PyData.depth, this]
theorem w_eqNil {K : PySem.W.Frag} {H : Hp} {Q : VK} {r p : Addr} {ks : List Nat} (h1 : H r = some (.lst (natL ks))) (h2 : H p = some (.lst [])) (q : Q (.bl (decide (ks = []))) H) : rEqU K (.ref r) (.ref p) H Q := by
  refine .inr ⟨.list (ks.map fun k : Nat => PyData.int (k : Int)), .list [], .lst (SqL.of h1) (dp_nats ks), .lst (SqL.of h2) .nil, ?_, by simp [SeqAt.shaped, PyData.canLay0, PyData.canLayAll0, PyData.depth, PyData.depthAll], ?_⟩
  · simp [SeqAt.shaped, PyData.canLay0, PyData.depth, lay_nats, deep_nats]
  · have e : PyData.eqv (.list (ks.map fun k : Nat => PyData.int (k : Int))) (.list []) = decide (ks = []) := by
      cases ks with
      | nil => simp [PyData.eqv, PyData.eqvAll]
      | cons k r => simp [PyData.eqv, PyData.eqvAll]
    rw [e]
    exact q
end SL
set_option Elab.async false
set_option linter.all false
set_option maxRecDepth 100000
set_option maxHeartbeats 4000000
/-! SlY: try with several except clauses that name their error. -/
namespace SL
open PySem PySem.Spec PyProof.Rows L2
/-- behind a clause its name is gone -/
def unD (i : Nat) (D : Ends) : Ends := { nx := fun σ' H' => D.nx (σ'.set i none) H', rt := D.rt, bk := fun σ' H' => D.bk (σ'.set i none) H', ct := fun σ' H' => D.ct (σ'.set i none) H' }
abbrev Clause := Value × Nat × (Addr → Value → Option Addr → TS)
/-- what the clauses together wish of an error of the body -/
def wNamed (K : PySem.W.Frag) (Wout : WX) (D : Ends) : List Clause → WX
  | [] => Wout
  | (c, i, ts) :: r => fun cls d σ H => ∃ b, PySem.W.exmOne K cls c = some b ∧ (b = true → ∀ a, H a = none → ts a cls d (unD i D) (σ.set i (some (.ref a))) H) ∧ (b = false → wNamed K Wout D r cls d σ H)
inductive NamedOk (X : Cx) : List ExceptHandler → List Clause → Prop
  | nil : NamedOk X [] []
  | cons {x n : Str} {c : Value} {i : Nat} {ts : Addr → Value → Option Addr → TS} {b₀ : Stmt} {suite : List Stmt} {np p : Pos} {hds : List ExceptHandler} {l : List Clause} (hc : Names X x c) (hi : X.N[i]? = some n) (hln : X.env.kindOf n = some .local)
      (hsu : ∀ (a : Addr) (oe : Obj) (cls : Value) (d : Option Addr) (pn : List (Addr × Obj)), Zc cls d oe → (∃ vs, oe.data = .fields vs) → PSs (X.suite a ((a, oe) :: pn)) (b₀ :: suite) (ts a cls d)) (r : NamedOk X hds l) :
      NamedOk X (.ExceptHandler (some (.Name x np)) (some n) (b₀ :: suite) p :: hds) ((c, i, ts) :: l)
def tNamed (K : PySem.W.Frag) (l : List Clause) (Wout : WX) (tb : WX → TS) : TS := fun D σ H => tb (wNamed K Wout D l) D σ H
section
variable {X : Cx} {Wout : WX}
/-- the clauses, one after the other, over an error that has landed -/
theorem clauses_run {pins : List (Addr × Obj)} {σ : L2.St} {H : Hp} {D : Ends} {cls : Value} {d : Option Addr} {a : Addr} {B : Heap} {sI s' : Shared} {h3 : Heap} (hN : X.N.Nodup) (tk : Takes X Wout) (hs : X.stack = X.env :: X.outer) (hf : X.env.frame = some X.env.locals)
    (J : Inv X pins σ H sI) (nb : ∀ b o, sI.heap.get? b = some o → b ∉ frs X.stack → B.get? b = some o) (up : sI.heap.UpToSlots h3) (fl : HandSPX.FlyingZ B (X.env :: X.outer) a (Zc cls d) h3) (na : H a = none) (os : s'.os = sI.os) (ag : AllBare s'.gens) :
    ∀ {hds : List ExceptHandler} {l : List Clause}, NamedOk X hds l → wNamed X.K Wout D l cls d σ H → wpAny (model X.prog X.w) X.A (handleBy (.ref a) X.env hds) (SP X pins D) X.xe { s' with heap := h3 } := by
  have ok := J.ok
  have J3 : Inv X pins σ H { s' with heap := h3 } := J.landed nb fl.1 up os ag
  obtain ⟨oe, vs, he, hz, hd⟩ := fl.there
  have offFrames : ∀ {h : Heap} {o : Obj} {vs : Array Value}, h.FunFrames B (X.env :: X.outer) → h.get? a = some o → o.data = .fields vs → a ∉ frs (X.env :: X.outer) := fun {h o vs} ff e dd m => by
    obtain ⟨_, o', e', no⟩ := ff.mem m
    rw [e] at e'
    cases e'
    exact no _ dd
  have off := offFrames fl.2.2.1 he hd
  have nL : a ≠ X.env.locals := fun z => off (List.mem_filterMap.mpr ⟨X.env, List.mem_cons_self, by rw [hf, z]⟩)
  have nF : a ∉ X.fs := fun m => by
    obtain ⟨e, me, q⟩ := List.mem_filterMap.mp m
    exact off (List.mem_filterMap.mpr ⟨e, List.mem_cons_of_mem _ me, q⟩)
  have S3 := J3.suite he hd na nL nF
  intro hds l ok2
  induction ok2 with
  | nil =>
    intro w
    refine wpAny_handleBy_nil ?_
    obtain ⟨_, _, _, oe', vs', T, _, _, he', _, hd', h1, _⟩ := id fl
    unfold PySem.passOn
    refine wpAny_bind (wpAny_field he' hd' h1 ?_)
    rw [if_neg (show ¬ ((Value.ref T == Value.none) = true) from by simp)]
    have on : wpAny (model X.prog X.w) X.A (setFlight (.ref a) X.env.frame) (fun _ s4 => wpAny (model X.prog X.w) X.A (throw (.ref a) : Sem Flow) (SP X pins D) X.xe s4) X.xe { s' with heap := h3 } := by
      rw [hf]
      refine HandSPX.setFlight_upZ fl fun h4 hh4 up4 => wpAny_throw (tk _ _ ?_)
      exact ⟨a, B, sI, pins, σ, H, cls, d, rfl, J, nb, up.trans up4, .inr (.inr (by rw [hs]; exact hh4)), na, os, ag, w⟩
    first
      | exact wpAny_bind (wpAny_pure (wpAny_bind on))
      | exact wpAny_bind on
  | @cons x n c i ts b₀ suite np p hds2 l2 hc hi hln hsu r ih =>
    intro w
    obtain ⟨b, hb1, yes, no⟩ := w
    refine wpAny_handleBy_cons (codeAny_handlers_test ?_) (by intro q; cases q)
    have ofCls : PySem.W.Looks (model X.prog X.w) h3 (typeOf (.ref a)) cls := fun A Q E s k q => wpAny_typeOf_ref (k _ _ he) (by rw [hz.1]; exact q)
    have test := PySem.W.exm_one (M := model X.prog X.w) (J3.kIn) ofCls hb1
    have named : ∀ {Q : Value → Shared → Prop} {E : Value → Shared → Prop}, Q c { s' with heap := h3 } → wpAny (model X.prog X.w) (X.A.mark (some (.ref a))) (eval (.Name x np) X.env) Q E { s' with heap := h3 } := fun {Q E} q => by
      obtain ⟨hg, hdbg, hm | ⟨hm, hv, hnn⟩⟩ := hc
      · exact ld_glob (X := X.suite a ((a, oe) :: (X.pn ++ pins))) S3 hg hm q hdbg
      · exact ld_blt (X := X.suite a ((a, oe) :: (X.pn ++ pins))) S3 hg hm hv q hnn hdbg
    refine named (test.here ?_)
    cases b with
    | false =>
      show wpAny _ X.A (handleBy (.ref a) X.env hds2) _ _ _
      exact ih (no rfl)
    | true =>
      refine codeAny_handlers_suite_as ?_
      refine HandSPX.lands_againZ fl fun h4 fl4 up4 => ?_
      have J4 : Inv X pins σ H { s' with heap := h4 } := J.landed nb fl4.1 (up.trans up4) os ag
      obtain ⟨oe4, vs4, he4, hz4, hd4⟩ := fl4.there
      have S4 := J4.suite he4 hd4 na nL nF
      refine store_ok (X := X.suite a ((a, oe4) :: (X.pn ++ pins))) (v := .ref a) S4 hN hi (.inl hln) rfl (fun s5 S5 => ?_) (.inr hln)
      refine wpAny_mono ((hsu a oe4 cls d (X.pn ++ pins) hz4 ⟨_, hd4⟩).run [] s5 _ H _ S5 (yes rfl a na)) (fun f s6 hsp => ?_) (fun _ _ z => False.elim z)
      have gone : ∀ {σ6 : L2.St} {H6 : Hp} {Q : Shared → Prop}, Inv (X.suite a ((a, oe4) :: (X.pn ++ pins))) [] σ6 H6 s6 → (∀ s7, Inv X pins (σ6.set i none) H6 s7 → Q s7) →
          wpAny (model X.prog X.w) X.A (do bindName X.env n .none; unbindBehindTheSuite X.env n p) (fun _ s7 => Q s7) X.xe s6 := fun {σ6 H6 Q} S6 hq => gone_ok (S6.unsuite ok) hN hi hln hq
      match f, hsp with
      | .next, ⟨σ6, H6, S6, q6⟩ => exact gone S6 fun s7 J7 => ⟨_, _, J7, q6⟩
      | .brk, ⟨σ6, H6, S6, q6⟩ => exact gone S6 fun s7 J7 => ⟨_, _, J7, q6⟩
      | .cont, ⟨σ6, H6, S6, q6⟩ => exact gone S6 fun s7 J7 => ⟨_, _, J7, q6⟩
      | .ret u, ⟨v6, σ6, H6, S6, r6, q6⟩ => exact gone S6 fun s7 J7 => ⟨_, _, _, J7, r6, q6⟩
theorem ps_named (K : PySem.W.Frag) {body : List Stmt} {h₀ : ExceptHandler} {hds : List ExceptHandler} {l : List Clause} {pos : Pos} {tb : WX → TS} (hK : X.K = K) (hs : X.stack = X.env :: X.outer) (hf : X.env.frame = some X.env.locals) (hN : X.N.Nodup) (tk : Takes X Wout)
    (hb : ∀ (W : WX) (pn : List (Addr × Obj)) (xe : Value → Shared → Prop), Takes (X.tr pn xe) W → PassesOwn (model X.prog X.w) X.A X.env xe → PSs (X.tr pn xe) body (tb W)) (hh : NamedOk X (h₀ :: hds) l) :
    PS X (.Try body (h₀ :: hds) [] [] pos) (tNamed K l Wout tb) := by
  subst hK
  refine ⟨fun pins s σ H D I h => ?_⟩
  have ok := I.ok
  have hfr : X.A.frames = some (X.env :: X.outer) := by rw [ok.frames, hs]
  refine wpAny_Try_except ?_
  refine wpAny_mono ((hb (wNamed X.K Wout D l) (X.pn ++ pins) (fun e s₁ => wpAny (model X.prog X.w) X.A (noteFrame e X.env) (fun _ s₂ => wpAny (model X.prog X.w) X.A (setFlight e none) (fun _ s₃ =>
    wpAny (model X.prog X.w) X.A (handleBy e X.env (h₀ :: hds)) (SP X pins D) X.xe s₃) X.xe s₂) X.xe s₁) (fun u s' xx => ?_) PassesOwn.looking).run [] s σ H D (I.toTry _) h) (fun f s1 hsp => ?_) (fun e s1 he => he)
  · obtain ⟨a, B, sI, pins', σ', H', cls, d, rfl, J', nb, up, sky, na, os, ag, w⟩ := xx
    have J : Inv X pins σ' H' sI := J'.ofTry ok
    have sky' : Sky B (X.env :: X.outer) a (Zc cls d) X.env.locals s'.heap := by rw [← hs]; exact sky
    show wpAny (model X.prog X.w) X.A (noteFrame (.ref a) X.env) _ _ _
    exact Sky.land Zc.steady hfr hf sky' fun h3 fl3 up3 => clauses_run hN tk hs hf J nb (up.trans up3) fl3 na os ag hh w
  · match f, hsp with
    | .next, ⟨σ', H', J', q⟩ => exact wpAny_execs_nil ⟨σ', H', J'.ofTry ok, q⟩
    | .brk, ⟨σ', H', J', q⟩ => exact ⟨σ', H', J'.ofTry ok, q⟩
    | .cont, ⟨σ', H', J', q⟩ => exact ⟨σ', H', J'.ofTry ok, q⟩
    | .ret u, ⟨v, σ', H', J', r, q⟩ => exact ⟨v, σ', H', J'.ofTry ok, r, q⟩
end
theorem w_named {K : PySem.W.Frag} {l : List Clause} {Wout : WX} {tb : WX → TS} {D : Ends} {σ : SSt} {H : Hp} (q : tb (wNamed K Wout D l) D σ H) : tNamed K l Wout tb D σ H := q
theorem wNamed_of {K : PySem.W.Frag} {c cls : Value} {i : Nat} {ts : Addr → Value → Option Addr → TS} {r : List Clause} {Wout : WX} {D : Ends} {d : Option Addr} {σ : SSt} {H : Hp} (h : PySem.W.exmOne K cls c = some true)
    (q : ∀ a, H a = none → ts a cls d (unD i D) (σ.set i (some (.ref a))) H) : wNamed K Wout D ((c, i, ts) :: r) cls d σ H := ⟨true, h, fun _ => q, fun h => nomatch h⟩
theorem wNamed_on {K : PySem.W.Frag} {c cls : Value} {i : Nat} {ts : Addr → Value → Option Addr → TS} {r : List Clause} {Wout : WX} {D : Ends} {d : Option Addr} {σ : SSt} {H : Hp} (h : PySem.W.exmOne K cls c = some false)
    (q : wNamed K Wout D r cls d σ H) : wNamed K Wout D ((c, i, ts) :: r) cls d σ H := ⟨false, h, fun z => absurd z (by decide), fun _ => q⟩
/-- an error of one class is not what the clause of another takes -/
theorem exm_other {K : PySem.W.Frag} {S R : Addr} (h1 : PySem.W.subIn K (.ref S) (.type "BaseException") = some true) (h1' : PySem.W.subIn K (.ref R) (.type "BaseException") = some true) (h2 : PySem.W.isClsIn K R = true) (h3 : PySem.W.typeIn K (.ref R) = some (.type "type")) (h4 : PySem.W.subIn K (.ref S) (.ref R) = some false) :
    PySem.W.exmOne K (.ref S) (.ref R) = some false := by
  have e1 : (PySem.W.subIn K (.ref R) (.type "BaseException") == some true) = true := by rw [h1'] <;> rfl
  have e2 : ((PySem.W.clsIn K R).isSome && PySem.W.typeIn K (.ref R) == some (.type "type")) = true := by
    have h2' : (PySem.W.clsIn K R).isSome = true := h2
    rw [h2', h3] <;> rfl
  show (if (PySem.W.subIn K (.ref R) (.type "BaseException") == some true) = true then (if ((PySem.W.clsIn K R).isSome && PySem.W.typeIn K (.ref R) == some (.type "type")) = true then PySem.W.subIn K (.ref S) (.ref R) else none) else none) = some false
  rw [if_pos e1, if_pos e2]
  exact h4
/-- no error of the one is an error of the other -/
def NotErr (K : PySem.W.Frag) (mg : Str → Option Value) (x y : Str) : Prop := PySem.W.exmOne K (.ref (errAt mg x)) (.ref (errAt mg y)) = some false
theorem NotErr.of {K : PySem.W.Frag} {mg : Str → Option Value} {x y : Str} {S R : Addr} (hx : mg x = some (.ref S)) (hy : mg y = some (.ref R)) (h : PySem.W.exmOne K (.ref S) (.ref R) = some false) : NotErr K mg x y := by
  have e1 : errAt mg x = S := by unfold errAt; rw [hx]
  have e2 : errAt mg y = R := by unfold errAt; rw [hy]
  unfold NotErr
  rw [e1, e2]
  exact h
end SL
set_option Elab.async false
set_option linter.all false
set_option maxRecDepth 100000
set_option maxHeartbeats 4000000
/-! SlU: unpacking a text. -/
namespace SL
open PySem PySem.Spec PyProof.Rows L2
def sgL (l : List Nat) : List V := l.map fun c => V.str (tx [c])
section
variable {prog : Program} {w : World} {A : Around} {E : Value → Shared → Prop} {l : List Nat} {I : Addr} {St : Nat → Heap → Prop}
theorem draw_tx (W : Walks prog w A I [I] [I] l.toArray.size (SignAt (tx l)) St) : ∀ (k i : Nat) (s : Shared) (Q : List Value → Shared → Prop), St i s.heap → i + k ≤ l.length →
    (∀ vs h' t', St (i + k) h' → (∀ b o, b ≠ I → s.heap.get? b = some o → h'.get? b = some o) → Vals (sgL ((l.drop i).take k)) vs → Q vs { s with heap := h', toks := t' }) → wpAny (model prog w) A (draw (.ref I) k) Q E s
  | 0, i, s, Q, st, _, hQ => by
    show wpAny _ _ (pure []) Q E s
    exact wpAny_pure (hQ [] s.heap s.toks st (fun _ _ _ h => h) .nil)
  | k + 1, i, s, Q, st, hle, hQ => by
    show wpAny _ _ (pyNext (.ref I) >>= _) Q E s
    refine wpAny_bind (W.item i s _ _ (by simp; omega) st fun v h1 t1 hv st1 k1 => ?_)
    obtain ⟨c, u, hc, rfl⟩ := hv
    refine wpAny_bind (wpAny_holding (draw_tx W k (i + 1) _ _ st1 (by omega) fun vs h2 t2 st2 k2 r => wpAny_pure ?_))
    have hc' : l[i]? = some c := by simpa using hc
    have hd : l.drop i = c :: l.drop (i + 1) := by
      obtain ⟨hi, e⟩ := List.getElem?_eq_some_iff.mp hc'
      rw [List.drop_eq_getElem_cons hi, e]
    refine hQ _ h2 t2 (by rw [show i + (k + 1) = i + 1 + k by omega]; exact st2) (fun b o n h => k2 b o n (k1 b o (by simpa using n) h)) ?_
    rw [hd, List.take_succ_cons]
    exact .cons ⟨u, rfl⟩ r
end
/-- (a, b, ..) = a text of that length -/
def gTxt (n : Nat) (t : TGs) : TG := fun v σ H Q => ∃ l : List Nat, v = .str (tx l) ∧ l.length = n ∧ t (sgL l) σ H Q
section
variable {X : Cx} {pos : Pos}
theorem pg_txt {es : List Expr} {k : Nat} {t : TGs} {n : Nat} (hc : X.calm = true) (h : PGs X es t)
    (hn : (assignEach es X.env).length = n := by rfl) (hst : (assignEach es X.env).findIdx? (·.1) = none := by rfl) : PG X (.Tuple es k pos) (gTxt n t) := by
  refine ⟨fun pins s σ H v u Q I r hw => ?_⟩
  obtain ⟨l, e1, hl, hw⟩ := hw
  subst e1
  obtain ⟨tk, rfl⟩ := r
  rw [PyProof.Rows.assign_Tuple]
  refine wpAny_bind (wpAny_standAt ?_)
  unfold unpack
  rw [hn, hst]
  have hh := I.ok.hd hc
  refine wpAny_bind (wpAny_holding ?_)
  unfold unpackItems
  refine wpAny_bind ?_
  unfold notIterableAtAll
  refine wpAny_bind (wpAny_specialOf (typeIs_str s (tx l) tk) F.slot_str_iter.lookup ?_)
  refine wpAny_pure ?_
  simp only [Bool.false_eq_true, if_false]
  refine wpAny_bind (wpAny_holding (wpAny_pyIter_str fun o St W st => ?_))
  have sz : ∀ b o', b ≠ s.heap.objs.size → (s.heap.push o).get? b = some o' → True := fun _ _ _ _ => trivial
  refine wpAny_bind (wpAny_holding (draw_tx (W _ hh) n 0 _ _ st (by omega) fun vs h1 t1 st1 k1 rv => ?_))
  have hv : vs.length = n := by
    have := Paired.length rv
    rw [← this]
    unfold sgL
    simp [hl]
  rw [if_neg (by omega)]
  have e0 : (0 : Nat) + n = (tx l).cps.size := by
    show 0 + n = l.toArray.size
    simp [hl]
  rw [e0] at st1
  refine wpAny_bind (wpAny_holding ((W _ hh).done _ _ _ st1 fun h2 t2 k2 => ?_))
  simp only [Option.isSome_none, Bool.false_eq_true, if_false]
  refine wpAny_pure ?_
  have I1 : Inv X pins σ H { s with heap := h2, toks := t2 } := I.kept fun b o' e => by
    have nb : b ≠ s.heap.objs.size := Nat.ne_of_lt (Heap.lt_size e)
    exact k2 b o' (by simpa using nb) (k1 b o' nb (Heap.get?_push_of_some _ e))
  have rv' : Vals (sgL l) vs := by
    have : (l.drop 0).take n = l := by rw [List.drop_zero, ← hl, List.take_length]
    rw [this] at rv
    exact rv
  exact h.run pins _ σ H (sgL l) _ Q I1 rv' hw
end
theorem w_gX {n : Nat} {tg : TGs} {l : List Nat} {σ : SSt} {H : Hp} {Q : SSt → Hp → Prop} (q : tg (sgL l) σ H Q) (hn : l.length = n) : gTxt n tg (.str (tx l)) σ H Q := ⟨l, rfl, hn, q⟩
theorem w_gX2 {tg : TGs} {a b : Nat} {σ : SSt} {H : Hp} {Q : SSt → Hp → Prop} (q : tg [V.str (tx [a]), V.str (tx [b])] σ H Q) : gTxt 2 tg (.str (tx [a, b])) σ H Q := ⟨[a, b], rfl, rfl, q⟩
theorem rep_one (n c : Nat) : (List.replicate n [c]).flatten = List.replicate n c := List.flatten_replicate_singleton
theorem let_rep {n c : Nat} (h : Let [c]) : Let (List.replicate n c) := fun d hd => by
  rw [(List.mem_replicate.mp hd).2]
  exact h c (List.mem_singleton.mpr rfl)
/-- the scope of a comprehension within a comprehension, from the def's scope -/
def relabelBy (sc0 scope : Scope) : Scope := { scope with names := scope.names.map fun (n, k) => if (k == .free && sc0.kind == .function && sc0.names.lookup n == some .cell) then (n, .cell) else (n, k) }
theorem relabel_eq (scope : Scope) (env : Env) (sc0 : Scope) (h : env.scope = sc0) : relabel scope env = relabelBy sc0 scope := by
  subst h
  rfl
theorem w_par3 {n m k : Nat} {t : TA} {D : Ends} {σ : SSt} {H : Hp} (q : t σ H fun vs H1 => ∃ u v w, vs = [u, v, w] ∧ D.nx (((σ.set n (some u)).set m (some v)).set k (some w)) H1) : tPar3 n m k t D σ H := q
theorem w_three {u v w : V} {Q : V → V → V → Prop} (q : Q u v w) : ∃ x y z, [u, v, w] = [x, y, z] ∧ Q x y z := ⟨u, v, w, rfl, q⟩
theorem w_seqP3 {n m k : Nat} {t : TA} {t2 : TS} {D : Ends} {σ : SSt} {H : Hp} (q : tPar3 n m k t { D with nx := t2 D } σ H) : tSeq (tPar3 n m k t) t2 D σ H := q
theorem part_two {α : Type} (xs : List α) {i j : Nat} (h1 : i ≤ xs.length) (h2 : j ≤ xs.length) : (xs.drop (HT.sIx xs.length 0 (some (i : Int)))).take (HT.sIx xs.length xs.length (some (j : Int)) - HT.sIx xs.length 0 (some (i : Int))) = (xs.drop i).take (j - i) := by
  rw [sIx_to _ _ (by omega), sIx_to _ _ (by omega), Int.toNat_natCast, Int.toNat_natCast, Nat.min_eq_left h1, Nat.min_eq_left h2]
theorem w_sLB {K : PySem.W.Frag} {H : Hp} {Q : VK} {p : Addr} {xs : List V} {i j : Nat} (h : SqL K H p xs) (h1 : i ≤ xs.length) (h2 : j ≤ xs.length) (q : ∀ a, H a = none → Q (.ref a) (upd H a (.lst ((xs.drop i).take (j - i))))) : rSlU K (.ref p) (some (i : Int)) (some (j : Int)) H Q :=
  .inl ⟨p, xs, rfl, h, by
    rw [show cutV xs (some (i : Int)) (some (j : Int)) = (xs.drop i).take (j - i) from part_two xs h1 h2]
    exact q⟩
theorem w_sSB {K : PySem.W.Frag} {H : Hp} {Q : VK} {l : List Nat} {i j : Nat} (h1 : i ≤ l.length) (h2 : j ≤ l.length) (z : l.length ≤ 16777216) (q : Q (.str (tx ((l.drop i).take (j - i)))) H) : rSlU K (.str (tx l)) (some (i : Int)) (some (j : Int)) H Q :=
  .inr (.inl ⟨_, rfl, by rw [tx_len, sizeLine_eq]; exact z, by
    have e : cutS (tx l) (some (i : Int)) (some (j : Int)) = tx ((l.drop i).take (j - i)) := by
      unfold cutS
      rw [tx_len]
      show tx _ = _
      rw [part_two l h1 h2]
    rw [e]
    exact q⟩)
theorem ixn {n j : Nat} (h : j < n) : ixN n (j : Int) = some j := by
  unfold ixN
  rw [if_pos (by omega), if_pos (by omega)]
  simp
theorem natL_at {ks : List Nat} {i k : Nat} (h : ks[i]? = some k) : (natL ks)[i]? = some (.int (k : Int)) := by
  unfold natL
  rw [List.getElem?_map, h]
  rfl
theorem natL_set (ks : List Nat) (i m : Nat) : (natL ks).set i (.int (m : Int)) = natL (ks.set i m) := by
  unfold natL
  rw [List.map_set]
theorem natL_len (ks : List Nat) : (natL ks).length = ks.length := by unfold natL; rw [List.length_map]
theorem w_neStr {K : PySem.W.Frag} {H : Hp} {Q : VK} {x : Str} (q : Q (.bl false) H) : rNeU K (.str x) (.str x) H Q := .inl ⟨rfl, by rw [decide_eq_true rfl]; exact q⟩
end SL
set_option Elab.async false
set_option linter.all false
set_option maxRecDepth 100000
set_option maxHeartbeats 4000000
/-! SlO: odd values: plain data that may be written out, lists of one thing that may grow; their copies. -/
namespace SL
open PySem PySem.Spec PyProof.Rows L2
theorem repr_short {l : List Nat} (h : Sgn l) : (PyData.shown (.str (tx l))).length ≤ 10 * l.length + 2 := by
  show (reprText (tx l)).length ≤ _
  have := StrLaws.reprText_len (tx l) (fun c hc => by have := h c hc; omega)
  rw [tx_len] at this
  exact this
theorem ok_str {l : List Nat} (h : Sgn l) (z : l.length ≤ 1000) : okD (.str (tx l)) = true := by
  have := repr_short h
  have e : (PyData.shown (.str (tx l))).length ≤ 16777216 := by omega
  simp [okD, PyData.showable, PyData.hasDict, PyData.depth, e]
theorem ok_listS {l m : List Nat} (h : Sgn l) (z : l.length ≤ 1000) (h2 : Sgn m) (z2 : m.length ≤ 1000) : okD (.list [.str (tx l), .str (tx m)]) = true := by
  have e1 := repr_short h
  have e2 := repr_short h2
  have e : (PyData.shown (.list [.str (tx l), .str (tx m)])).length ≤ 16777216 := by
    refine Nat.le_trans (listText_len_le _) ?_
    simp only [PyData.shownAll, List.map_cons, List.map_nil, List.sum_cons, List.sum_nil, List.length_cons, List.length_nil]
    omega
  simp [okD, PyData.showable, PyData.showableAll, PyData.hasDict, PyData.hasDictAll, PyData.depth, PyData.depthAll, e]
theorem ok_tupS {l m : List Nat} (h : Sgn l) (z : l.length ≤ 1000) (h2 : Sgn m) (z2 : m.length ≤ 1000) : okD (.tuple [.str (tx l), .str (tx m)]) = true := by
  have e1 := repr_short h
  have e2 := repr_short h2
  have e : (PyData.shown (.tuple [.str (tx l), .str (tx m)])).length ≤ 16777216 := by
    refine Nat.le_trans (tupleText_len_le _) ?_
    simp only [PyData.shownAll, List.map_cons, List.map_nil, List.sum_cons, List.sum_nil, List.length_cons, List.length_nil]
    omega
  simp [okD, PyData.showable, PyData.showableAll, PyData.hasDict, PyData.hasDictAll, PyData.depth, PyData.depthAll, e]
/-- something that holds no objects -/
inductive Atom : V → PyData → Prop
  | str (l : List Nat) : Atom (.str (tx l)) (.str (tx l))
  | int (i : Int) : Atom (.int i) (.int i)
  | non : Atom .non .none
  | bl (b : Bool) : Atom (.bl b) (.bool b)
theorem Atom.dv {H : Hp} {v : V} {d : PyData} (h : Atom v d) : Dv H v d := by
  cases h with
  | str l => exact .str l
  | int i => exact .int i
  | non => exact .non
  | bl b => exact .bl b
/-- an odd value; a list of it is of one thing, and z may be put behind it -/
def OddV (z : List Nat) (H : Hp) (v : V) : Prop := (∃ d, Dv H v d ∧ okD d = true ∧ (kindD d == "list") = false) ∨ (∃ a x d, v = .ref a ∧ H a = some (.lst [x]) ∧ Atom x d ∧ okD (.list [d, .str (tx z)]) = true)
theorem OddV.mono {z : List Nat} {H H' : Hp} {v : V} (s : Same H H') (h : OddV z H v) : OddV z H' v := by
  rcases h with ⟨d, h1, h2⟩ | ⟨a, x, d, e, h1, h2⟩
  · exact .inl ⟨d, Dv.mono s d v h1, h2⟩
  · exact .inr ⟨a, x, d, e, s _ _ h1, h2⟩
/-- v' is v or a copy of it, made behind H0 -/
def Cp (z : List Nat) (H0 H : Hp) (v v' : V) : Prop := (∃ d, Dv H0 v d ∧ okD d = true ∧ (kindD d == "list") = false ∧ v' = v) ∨ (∃ a x d r, v = .ref a ∧ H0 a = some (.lst [x]) ∧ Atom x d ∧ okD (.list [d, .str (tx z)]) = true ∧ v' = .ref r ∧ H0 r = none ∧ H r = some (.lst [x]))
theorem Cp.keep {z : List Nat} {H0 H H' : Hp} {v v' : V} (h : Cp z H0 H v v') (k : ∀ r o, v' = .ref r → H0 r = none → H r = some o → H' r = some o) : Cp z H0 H' v v' := by
  rcases h with h | ⟨a, x, d, r, h1, h2, h3, h4, h5, h6, h7⟩
  · exact .inl h
  · exact .inr ⟨a, x, d, r, h1, h2, h3, h4, h5, h6, k r _ h5 h6 h7⟩
theorem Cp.same {z : List Nat} {H0 H H' : Hp} {v v' : V} (h : Cp z H0 H v v') (s : Same H H') : Cp z H0 H' v v' := h.keep fun r o _ _ h => s r o h
/-- list(value) if isinstance(value, list) else value -/
def spCopy (K : PySem.W.Frag) : Sp := fun vs H Q _ => ∃ v, vs = [v] ∧ ((∃ t, TyX K H v (.type t) ∧ Kind t ∧ t ≠ "list" ∧ Q v H) ∨ (∃ a xs, v = .ref a ∧ H a = some (.lst xs) ∧ ∀ r H', Same H H' → H r = none → H' r = some (.lst xs) → Q (.ref r) H'))
theorem copy_w {K : PySem.W.Frag} {z : List Nat} {H0 H : Hp} {v : V} {Q : VK} {E : XK} (h : OddV z H0 v) (s : Same H0 H) (q : ∀ v' H', Same H H' → Cp z H0 H' v v' → (∀ r, v' = .ref r → H0 r = none → H r = none) → Q v' H') : spCopy K [v] H Q E := by
  rcases h with ⟨d, h1, h2, h3⟩ | ⟨a, x, d, e, h1, h2, h3⟩
  · refine ⟨v, rfl, .inl ⟨kindD d, (Dv.mono s d v h1).ty, kind_ok d, by simpa using h3, ?_⟩⟩
    refine q v H (Same.refl _) (.inl ⟨d, h1, h2, h3, rfl⟩) fun r e n => ?_
    subst e
    cases h1 with
    | lst g _ => rw [g] at n; cases n
    | tup g _ => rw [g] at n; cases n
    | emp g => rw [g] at n; cases n
  · subst e
    refine ⟨_, rfl, .inr ⟨a, [x], rfl, s _ _ h1, fun r H' s' n g => ?_⟩⟩
    refine q (.ref r) H' s' (.inr ⟨a, x, d, r, rfl, h1, h2, h3, rfl, ?_, g⟩) fun r' e _ => ?_
    · exact Same.none s n
    · cases e; exact n
theorem cp_tx {K : PySem.W.Frag} {z : List Nat} {H0 H : Hp} {v v' : V} (h : Cp z H0 H v v') (s : Same H0 H) (t : IsTx K H0 v false) : IsTx K H v' false := by
  rcases h with ⟨d, h1, h2, h3, rfl⟩ | ⟨a, x, d, r, h1, h2, h3, h4, rfl, h6, h7⟩
  · exact t.mono s
  · exact .inr ⟨rfl, "list", .base (.lst h7), by unfold Kind; simp, by decide⟩
/-- what a refusal needs of the value: it may be written out, when z is behind it too -/
theorem Cp.show {z : List Nat} {H0 H : Hp} {v v' : V} (h : Cp z H0 H v v') (s : Same H0 H) : (∃ d, Dv H v' d ∧ okD d = true ∧ (kindD d == "list") = false) ∨ (∃ r x d, v' = .ref r ∧ H0 r = none ∧ H r = some (.lst [x]) ∧ Dv (upd H r (.lst ([x] ++ [.str (tx z)]))) (.ref r) (.list [d, .str (tx z)]) ∧ okD (.list [d, .str (tx z)]) = true) := by
  rcases h with ⟨d, h1, h2, h3, rfl⟩ | ⟨a, x, d, r, h1, h2, h3, h4, rfl, h6, h7⟩
  · exact .inl ⟨d, Dv.mono s d _ h1, h2, h3⟩
  · exact .inr ⟨r, x, d, rfl, h6, h7, .lst upd_same (.cons h3.dv (.cons (.str _) .nil)), h4⟩
end SL
set_option Elab.async false
set_option linter.all false
set_option maxHeartbeats 1000000
/-! Lev: the distance of two lists by the table of all beginnings, and its band. Plain Lean. -/
namespace Lv
/-- one letter beside another -/
def un (x y : List Nat) (i j : Nat) : Nat := if x.getD i 0 = y.getD j 0 then 0 else 1
theorem un_le (x y : List Nat) (i j : Nat) : un x y i j ≤ 1 := by unfold un; split <;> omega
/-- the table: beginnings of i and of j letters -/
def dl (x y : List Nat) : Nat → Nat → Nat
  | 0, j => j
  | i + 1, 0 => i + 1
  | i + 1, j + 1 => min (min (dl x y i j + un x y i j) (dl x y (i + 1) j + 1)) (dl x y i (j + 1) + 1)
termination_by i j => i + j
theorem un_eq {x y : List Nat} {i j c d : Nat} (h1 : x[i]? = some c) (h2 : y[j]? = some d) : (if (!decide ([c] = [d])) = true then (1 : Int) else 0) = (un x y i j : Nat) := by
  unfold un
  rw [List.getD_eq_getElem?_getD, List.getD_eq_getElem?_getD, h1, h2]
  by_cases h : c = d
  · simp [h]
  · simp [h]
theorem dl_0 (x y : List Nat) (j : Nat) : dl x y 0 j = j := by rw [dl]
theorem dl_r0 (x y : List Nat) (i : Nat) : dl x y i 0 = i := by cases i <;> rw [dl]
theorem dl_s (x y : List Nat) (i j : Nat) : dl x y (i + 1) (j + 1) = min (min (dl x y i j + un x y i j) (dl x y (i + 1) j + 1)) (dl x y i (j + 1) + 1) := by rw [dl]
theorem dl_low (x y : List Nat) : ∀ i j, i ≤ dl x y i j + j ∧ j ≤ dl x y i j + i
  | 0, j => by rw [dl_0]; omega
  | i + 1, 0 => by rw [dl_r0]; omega
  | i + 1, j + 1 => by
    have h1 := dl_low x y i j
    have h2 := dl_low x y (i + 1) j
    have h3 := dl_low x y i (j + 1)
    rw [dl_s]
    omega
termination_by i j => i + j
theorem dl_up (x y : List Nat) : ∀ i j, dl x y i j ≤ max i j
  | 0, j => by rw [dl_0]; omega
  | i + 1, 0 => by rw [dl_r0]; omega
  | i + 1, j + 1 => by
    have h1 := dl_up x y i j
    have h := un_le x y i j
    rw [dl_s]
    omega
termination_by i j => i + j
theorem dl_col (x y : List Nat) (i j : Nat) : dl x y i (j + 1) ≤ dl x y i j + 1 := by
  cases i with
  | zero => rw [dl_0, dl_0]; omega
  | succ i => rw [dl_s]; omega
theorem dl_row (x y : List Nat) (i j : Nat) : dl x y (i + 1) j ≤ dl x y i j + 1 := by
  cases j with
  | zero => rw [dl_r0, dl_r0]; omega
  | succ j => rw [dl_s]; omega
theorem dl_rowB (x y : List Nat) (i : Nat) : ∀ j, dl x y i j ≤ dl x y (i + 1) j + 1
  | 0 => by rw [dl_r0, dl_r0]; omega
  | j + 1 => by
    have h1 := dl_rowB x y i j
    have h2 := dl_col x y i j
    rw [dl_s]
    omega
theorem dl_colB (x y : List Nat) (j : Nat) : ∀ i, dl x y i j ≤ dl x y i (j + 1) + 1
  | 0 => by rw [dl_0, dl_0]; omega
  | i + 1 => by
    have h1 := dl_colB x y j i
    have h2 := dl_row x y i j
    rw [dl_s]
    omega
theorem dl_same {x y : List Nat} {i j : Nat} (h : x.getD i 0 = y.getD j 0) : dl x y (i + 1) (j + 1) = dl x y i j := by
  have h1 := dl_rowB x y i j
  have h2 := dl_colB x y j i
  have e : un x y i j = 0 := by unfold un; rw [if_pos h]
  rw [dl_s, e]
  omega
theorem dl_sym (x y : List Nat) : ∀ i j, dl x y i j = dl y x j i
  | 0, j => by rw [dl_0, dl_r0]
  | i + 1, 0 => by rw [dl_r0, dl_0]
  | i + 1, j + 1 => by
    have e : un x y i j = un y x j i := by
      unfold un
      by_cases h : x.getD i 0 = y.getD j 0
      · rw [if_pos h, if_pos h.symm]
      · rw [if_neg h, if_neg fun z => h z.symm]
    rw [dl_s, dl_s, dl_sym x y i j, dl_sym x y (i + 1) j, dl_sym x y i (j + 1), e]
    omega
termination_by i j => i + j
theorem dl_part {x y u v : List Nat} : ∀ i j, (∀ k, k < i → x.getD k 0 = u.getD k 0) → (∀ k, k < j → y.getD k 0 = v.getD k 0) → dl x y i j = dl u v i j
  | 0, j, _, _ => by rw [dl_0, dl_0]
  | i + 1, 0, _, _ => by rw [dl_r0, dl_r0]
  | i + 1, j + 1, hx, hy => by
    have e : un x y i j = un u v i j := by
      unfold un
      rw [hx i (by omega), hy j (by omega)]
    rw [dl_s, dl_s, dl_part i j (fun k h => hx k (by omega)) (fun k h => hy k (by omega)), dl_part (i + 1) j hx (fun k h => hy k (by omega)), dl_part i (j + 1) (fun k h => hx k (by omega)) hy, e]
termination_by i j => i + j
theorem un_cons (c d : Nat) (x y : List Nat) (i j : Nat) : un (c :: x) (d :: y) (i + 1) (j + 1) = un x y i j := by unfold un; rw [List.getD_cons_succ, List.getD_cons_succ]
theorem dl_head (c : Nat) (x y : List Nat) : ∀ i j, dl (c :: x) (c :: y) (i + 1) (j + 1) = dl x y i j
  | 0, 0 => by rw [dl_0, dl_same (x := c :: x) (y := c :: y) (i := 0) (j := 0) rfl, dl_0]
  | 0, j + 1 => by
    have h1 := dl_head c x y 0 j
    rw [dl_0] at h1
    rw [dl_0, dl_s (c :: x) (c :: y) 0 (j + 1), h1, dl_0, dl_0]
    have := un_le (c :: x) (c :: y) 0 (j + 1)
    omega
  | i + 1, 0 => by
    have h1 := dl_head c x y i 0
    rw [dl_r0] at h1
    have u := un_le (c :: x) (c :: y) (i + 1) 0
    rw [dl_r0, dl_s (c :: x) (c :: y) (i + 1) 0, h1, dl_r0, dl_r0]
    omega
  | i + 1, j + 1 => by
    rw [dl_s (c :: x) (c :: y) (i + 1) (j + 1), dl_s x y i j, dl_head c x y i j, dl_head c x y (i + 1) j, dl_head c x y i (j + 1), un_cons]
termination_by i j => i + j
theorem dl_put (c : Nat) (x y : List Nat) : ∀ i j, dl x (c :: y) i (j + 1) ≤ dl x y i j + 1
  | 0, j => by rw [dl_0, dl_0]; omega
  | i + 1, 0 => by
    have h1 := dl_row x (c :: y) i (0 + 1)
    have h2 := dl_put c x y i 0
    rw [dl_r0] at h2
    rw [dl_r0]
    omega
  | i + 1, j + 1 => by
    have h1 := dl_put c x y i j
    have h2 := dl_put c x y (i + 1) j
    have h3 := dl_put c x y i (j + 1)
    have e : un x (c :: y) i (j + 1) = un x y i j := by unfold un; rw [List.getD_cons_succ]
    rw [dl_s x (c :: y) i (j + 1), dl_s x y i j, e]
    omega
termination_by i j => i + j

/-- the distance -/
def lev (x y : List Nat) : Nat := dl x y x.length y.length
theorem lev_sym (x y : List Nat) : lev x y = lev y x := dl_sym x y _ _
theorem lev_low (x y : List Nat) : x.length ≤ lev x y + y.length ∧ y.length ≤ lev x y + x.length := dl_low x y _ _
theorem lev_up (x y : List Nat) : lev x y ≤ max x.length y.length := dl_up x y _ _
theorem lev_head (c : Nat) (x y : List Nat) : lev (c :: x) (c :: y) = lev x y := dl_head c x y _ _
theorem lev_heads (z x y : List Nat) : lev (z ++ x) (z ++ y) = lev x y := by
  induction z with
  | nil => rfl
  | cons c z ih => rw [List.cons_append, List.cons_append, lev_head, ih]
theorem lev_tail (c : Nat) (x y : List Nat) : lev (x ++ [c]) (y ++ [c]) = lev x y := by
  unfold lev
  rw [List.length_append, List.length_append]
  show dl _ _ (x.length + 1) (y.length + 1) = _
  rw [dl_same (by simp [List.getD_eq_getElem?_getD])]
  refine dl_part _ _ (fun k h => ?_) (fun k h => ?_)
  · simp [List.getD_eq_getElem?_getD, List.getElem?_append_left h]
  · simp [List.getD_eq_getElem?_getD, List.getElem?_append_left h]
theorem lev_tails (z x y : List Nat) : lev (x ++ z) (y ++ z) = lev x y := by
  induction z generalizing x y with
  | nil => rw [List.append_nil, List.append_nil]
  | cons c z ih =>
    have e1 : x ++ c :: z = (x ++ [c]) ++ z := by simp
    have e2 : y ++ c :: z = (y ++ [c]) ++ z := by simp
    rw [e1, e2, ih, lev_tail]
theorem lev_put (c : Nat) (x y : List Nat) : lev x (c :: y) ≤ lev x y + 1 := dl_put c x y _ _
theorem lev_sub {x y : List Nat} (h : List.Sublist x y) : lev x y ≤ y.length - x.length := by
  induction h with
  | slnil => unfold lev; rw [List.length_nil, dl_0]; omega
  | @cons l1 l2 a s ih =>
    have h1 := lev_put a l1 l2
    have h2 := s.length_le
    rw [List.length_cons]
    omega
  | @cons_cons l1 l2 a s ih =>
    rw [lev_head, List.length_cons, List.length_cons]
    omega
theorem lev_sub_eq {x y : List Nat} (h : List.Sublist x y) : lev x y = y.length - x.length := by
  have h1 := lev_sub h
  have h2 := lev_low x y
  omega
theorem lev_self (x : List Nat) : lev x x = 0 := by
  have := lev_sub (List.Sublist.refl x)
  omega

/-! the band: k is the place in it -/
def bval (x y : List Nat) (most i k : Nat) : Int := if most ≤ i + k ∧ i + k ≤ most + y.length then ((min (dl x y i (i + k - most)) (most + 1) : Nat) : Int) else (most : Int) + 1
def bandL (x y : List Nat) (most i : Nat) : List Int := (List.range (2 * most + 1)).map (bval x y most i)
theorem bandL_len (x y : List Nat) (most i : Nat) : (bandL x y most i).length = 2 * most + 1 := by unfold bandL; rw [List.length_map, List.length_range]
theorem bandL_at (x y : List Nat) {most i k : Nat} (h : k < 2 * most + 1) : (bandL x y most i)[k]? = some (bval x y most i k) := by
  unfold bandL
  rw [List.getElem?_map, List.getElem?_range h]
  rfl
theorem bval_0 (x y : List Nat) (most k : Nat) (hk : k ≤ 2 * most) : bval x y most 0 k = if most ≤ k ∧ k ≤ most + y.length then (k : Int) - most else (most : Int) + 1 := by
  unfold bval
  rw [Nat.zero_add, dl_0]
  split <;> omega
theorem bstep {x y : List Nat} {most i k : Nat} {m : Int} (h0 : m ≤ most + 1)
    (h1 : most < i + 1 + k → i + 1 + k ≤ most + y.length → m ≤ bval x y most i k + un x y i (i + k - most))
    (h2 : most < i + 1 + k → i + 1 + k ≤ most + y.length → 0 < k → m ≤ bval x y most (i + 1) (k - 1) + 1)
    (h3 : most ≤ i + 1 + k → i + 1 + k ≤ most + y.length → k < 2 * most → m ≤ bval x y most i (k + 1) + 1)
    (hm : m = most + 1 ∨ (most < i + 1 + k ∧ i + 1 + k ≤ most + y.length ∧ m = bval x y most i k + un x y i (i + k - most)) ∨
      (most < i + 1 + k ∧ i + 1 + k ≤ most + y.length ∧ 0 < k ∧ m = bval x y most (i + 1) (k - 1) + 1) ∨ (most ≤ i + 1 + k ∧ i + 1 + k ≤ most + y.length ∧ k < 2 * most ∧ m = bval x y most i (k + 1) + 1))
    (hk : k ≤ 2 * most) : m = bval x y most (i + 1) k := by
  by_cases ho : most ≤ i + 1 + k ∧ i + 1 + k ≤ most + y.length
  · obtain ⟨ha, hb⟩ := ho
    have e0 : bval x y most (i + 1) k = ((min (dl x y (i + 1) (i + 1 + k - most)) (most + 1) : Nat) : Int) := by
      unfold bval
      rw [if_pos ⟨ha, hb⟩]
    have e3 : bval x y most i (k + 1) = ((min (dl x y i (i + 1 + k - most)) (most + 1) : Nat) : Int) := by
      unfold bval
      rw [if_pos (by omega), show i + (k + 1) - most = i + 1 + k - most by omega]
    by_cases hz : i + 1 + k = most
    · rw [show i + 1 + k - most = 0 by omega, dl_r0] at e0 e3
      have g3 := h3 (by omega) hb
      rw [e3] at g3 hm
      rw [e0]
      omega
    · obtain ⟨j, hj⟩ : ∃ j, i + 1 + k - most = j + 1 := ⟨i + k - most, by omega⟩
      rw [hj, dl_s] at e0
      rw [hj] at e3
      have e1 : bval x y most i k = ((min (dl x y i j) (most + 1) : Nat) : Int) := by
        unfold bval
        rw [if_pos (by omega), show i + k - most = j by omega]
      have ej : i + k - most = j := by omega
      have g1 := h1 (by omega) hb
      have g2 := h2 (by omega) hb
      have g3 := h3 (by omega) hb
      have l2 := dl_low x y (i + 1) j
      have l3 := dl_low x y i (j + 1)
      have u := un_le x y i j
      rw [e1, ej] at g1 hm
      rw [e3] at g3 hm
      by_cases hk0 : 0 < k
      · have e2 : bval x y most (i + 1) (k - 1) = ((min (dl x y (i + 1) j) (most + 1) : Nat) : Int) := by
          unfold bval
          rw [if_pos (by omega), show i + 1 + (k - 1) - most = j by omega]
        rw [e2] at g2 hm
        rw [e0]
        omega
      · rw [e0]
        omega
  · have e0 : bval x y most (i + 1) k = (most : Int) + 1 := by
      unfold bval
      rw [if_neg ho]
    rw [e0]
    omega
/-- what the last row tells -/
theorem band_end (x y : List Nat) {most : Nat} (h : x.length ≤ y.length) (hm : y.length ≤ most + x.length) : bval x y most x.length (y.length - x.length + most) = ((min (lev x y) (most + 1) : Nat) : Int) := by
  unfold bval lev
  rw [if_pos (by omega), show x.length + (y.length - x.length + most) - most = y.length by omega]
/-- both ends cut away -/
theorem lev_cutT {x y : List Nat} {j : Nat} (h : x.reverse.take j = y.reverse.take j) : lev (x.take (x.length - j)) (y.take (y.length - j)) = lev x y := by
  have e : x.drop (x.length - j) = y.drop (y.length - j) := by
    rw [List.take_reverse, List.take_reverse] at h
    exact List.reverse_inj.mp h
  have h1 : lev (x.take (x.length - j) ++ x.drop (x.length - j)) (y.take (y.length - j) ++ y.drop (y.length - j)) = lev (x.take (x.length - j)) (y.take (y.length - j)) := by
    rw [← e]
    exact lev_tails _ _ _
  rw [List.take_append_drop, List.take_append_drop] at h1
  exact h1.symm
theorem lev_cutH {x y : List Nat} {k : Nat} (h : x.take k = y.take k) : lev (x.drop k) (y.drop k) = lev x y := by
  have h1 : lev (x.take k ++ x.drop k) (y.take k ++ y.drop k) = lev (x.drop k) (y.drop k) := by
    rw [← h]
    exact lev_heads _ _ _
  rw [List.take_append_drop, List.take_append_drop] at h1
  exact h1.symm
end Lv
set_option Elab.async false
set_option linter.all false
set_option maxHeartbeats 1000000
/-! Lev2: the distance's triangle and what it says of joined rows. Plain Lean. -/
namespace Lv
theorem un_tri (x y z : List Nat) (i j k : Nat) : un x z i k ≤ un x y i j + un y z j k := by
  unfold un
  by_cases h1 : x.getD i 0 = y.getD j 0
  · by_cases h2 : y.getD j 0 = z.getD k 0
    · rw [if_pos (h1.trans h2)]; omega
    · rw [if_neg h2]; split <;> omega
  · rw [if_neg h1]; split <;> omega
theorem dl_tri (x y z : List Nat) : ∀ i j k, dl x z i k ≤ dl x y i j + dl y z j k
  | 0, j, k => by
    have h := dl_low y z j k
    rw [dl_0, dl_0]
    omega
  | i + 1, j, 0 => by
    have h := dl_low x y (i + 1) j
    rw [dl_r0, dl_r0]
    omega
  | i + 1, 0, k + 1 => by
    have h := dl_up x z (i + 1) (k + 1)
    rw [dl_r0, dl_0]
    omega
  | i + 1, j + 1, k + 1 => by
    have t1 := dl_tri x y z i j k
    have t2 := dl_tri x y z i (j + 1) (k + 1)
    have t3 := dl_tri x y z (i + 1) (j + 1) k
    have t4 := dl_tri x y z (i + 1) j (k + 1)
    have t5 := dl_tri x y z (i + 1) j k
    have t6 := dl_tri x y z i j (k + 1)
    have u := un_tri x y z i j k
    have e1 := dl_s x y i j
    have e2 := dl_s y z j k
    have e3 := dl_s x z i k
    omega
termination_by i j k => i + j + k
theorem lev_tri (x y z : List Nat) : lev x z ≤ lev x y + lev y z := dl_tri x y z _ _ _
/-- one gap more -/
theorem gap_add {A B b0 b1 u v : List Nat} {t : Nat} (hb : b0 = [] ∨ b1 = []) (h : lev (A ++ b1) (B ++ b0) ≤ t) : lev (A ++ u) (B ++ v) ≤ t + lev (b0 ++ u) (b1 ++ v) := by
  rcases hb with rfl | rfl
  · have h1 := lev_tri (A ++ u) (A ++ (b1 ++ v)) (B ++ v)
    have h2 := lev_heads A u (b1 ++ v)
    have h3 := lev_tails v (A ++ b1) B
    rw [List.append_assoc] at h3
    rw [List.append_nil] at h
    rw [List.nil_append]
    omega
  · have h1 := lev_tri (A ++ u) (B ++ (b0 ++ u)) (B ++ v)
    have h2 := lev_heads B (b0 ++ u) v
    have h3 := lev_tails u A (B ++ b0)
    rw [List.append_assoc] at h3
    rw [List.append_nil] at h
    rw [List.nil_append]
    omega
end Lv
set_option Elab.async false
set_option linter.all false
set_option maxRecDepth 100000
set_option maxHeartbeats 4000000
/-! SlP: small data; odd values that are such; comparing with []. -/
namespace SL
open PySem PySem.Spec PyProof.Rows L2
structure Sm (n k : Nat) (d : PyData) : Prop where
  sh : d.showable = true
  nd : d.hasDict = false
  ly : d.canLay0 = true
  dp : d.depth ≤ k
  ln : d.shown.length ≤ n
theorem Sm.le {n k m j : Nat} {d : PyData} (h : Sm n k d) (e : n ≤ m) (f : k ≤ j) : Sm m j d := ⟨h.sh, h.nd, h.ly, Nat.le_trans h.dp f, Nat.le_trans h.ln e⟩
theorem Sm.okD {n k : Nat} {d : PyData} (h : Sm n k d) (e : n ≤ 16777216 := by omega) (f : k ≤ 60 := by omega) : okD d = true := by
  have z := h.ln
  have y := h.dp
  have x := h.nd
  have w := h.sh
  cases d with
  | dict ks => simp [PyData.hasDict] at x
  | _ =>
    unfold SL.okD
    simp only [w, x, Bool.not_false, Bool.and_self, Bool.true_and, Bool.and_eq_true, decide_eq_true_eq]
    exact ⟨by omega, by omega⟩
theorem Sm.shaped {n k : Nat} {d : PyData} (h : Sm n k d) (f : k ≤ 64 := by omega) : SeqAt.shaped d = true := by
  unfold SeqAt.shaped
  rw [h.ly, Bool.true_and]
  exact decide_eq_true (Nat.le_trans h.dp f)
theorem sm_str {l : List Nat} {n : Nat} (h : Sgn l) (z : 10 * l.length + 2 ≤ n) : Sm n 0 (.str (tx l)) :=
  ⟨rfl, rfl, by simp only [PyData.canLay0]; exact h.ok, by simp [PyData.depth], Nat.le_trans (repr_short h) z⟩
theorem sm_non : Sm 4 0 .none := ⟨rfl, rfl, rfl, by decide, by decide +kernel⟩
theorem sm_list1 {n k : Nat} {d : PyData} (h : Sm n k d) : Sm (n + 10) (k + 1) (.list [d]) := by
  refine ⟨by simp [PyData.showable, PyData.showableAll, h.sh], by simp [PyData.hasDict, PyData.hasDictAll, h.nd], by simp [PyData.canLay0, PyData.canLayAll0, h.ly], ?_, ?_⟩
  · have := h.dp
    simp [PyData.depth, PyData.depthAll]
    omega
  · refine Nat.le_trans (listText_len_le _) ?_
    have := h.ln
    simp only [PyData.shownAll, List.map_cons, List.map_nil, List.sum_cons, List.sum_nil, List.length_cons, List.length_nil]
    omega
theorem sm_list2 {n k m j : Nat} {d e : PyData} (h : Sm n k d) (h2 : Sm m j e) : Sm (n + m + 10) (max k j + 1) (.list [d, e]) := by
  refine ⟨by simp [PyData.showable, PyData.showableAll, h.sh, h2.sh], by simp [PyData.hasDict, PyData.hasDictAll, h.nd, h2.nd], by simp [PyData.canLay0, PyData.canLayAll0, h.ly, h2.ly], ?_, ?_⟩
  · have := h.dp
    have := h2.dp
    simp [PyData.depth, PyData.depthAll]
    omega
  · refine Nat.le_trans (listText_len_le _) ?_
    have := h.ln
    have := h2.ln
    simp only [PyData.shownAll, List.map_cons, List.map_nil, List.sum_cons, List.sum_nil, List.length_cons, List.length_nil]
    omega
theorem sm_tup1 {n k : Nat} {d : PyData} (h : Sm n k d) : Sm (n + 10) (k + 1) (.tuple [d]) := by
  refine ⟨by simp [PyData.showable, PyData.showableAll, h.sh], by simp [PyData.hasDict, PyData.hasDictAll, h.nd], by simp [PyData.canLay0, PyData.canLayAll0, h.ly], ?_, ?_⟩
  · have := h.dp
    simp [PyData.depth, PyData.depthAll]
    omega
  · refine Nat.le_trans (tupleText_len_le _) ?_
    have := h.ln
    simp only [PyData.shownAll, List.map_cons, List.map_nil, List.sum_cons, List.sum_nil, List.length_cons, List.length_nil]
    omega
theorem sm_tup2 {n k m j : Nat} {d e : PyData} (h : Sm n k d) (h2 : Sm m j e) : Sm (n + m + 10) (max k j + 1) (.tuple [d, e]) := by
  refine ⟨by simp [PyData.showable, PyData.showableAll, h.sh, h2.sh], by simp [PyData.hasDict, PyData.hasDictAll, h.nd, h2.nd], by simp [PyData.canLay0, PyData.canLayAll0, h.ly, h2.ly], ?_, ?_⟩
  · have := h.dp
    have := h2.dp
    simp [PyData.depth, PyData.depthAll]
    omega
  · refine Nat.le_trans (tupleText_len_le _) ?_
    have := h.ln
    have := h2.ln
    simp only [PyData.shownAll, List.map_cons, List.map_nil, List.sum_cons, List.sum_nil, List.length_cons, List.length_nil]
    omega
theorem sm_tup3 {n k m j a b : Nat} {d e f : PyData} (h : Sm n k d) (h2 : Sm m j e) (h3 : Sm a b f) : Sm (n + m + a + 10) (max k (max j b) + 1) (.tuple [d, e, f]) := by
  refine ⟨by simp [PyData.showable, PyData.showableAll, h.sh, h2.sh, h3.sh], by simp [PyData.hasDict, PyData.hasDictAll, h.nd, h2.nd, h3.nd], by simp [PyData.canLay0, PyData.canLayAll0, h.ly, h2.ly, h3.ly], ?_, ?_⟩
  · have := h.dp
    have := h2.dp
    have := h3.dp
    simp [PyData.depth, PyData.depthAll]
    omega
  · refine Nat.le_trans (tupleText_len_le _) ?_
    have := h.ln
    have := h2.ln
    have := h3.ln
    simp only [PyData.shownAll, List.map_cons, List.map_nil, List.sum_cons, List.sum_nil, List.length_cons, List.length_nil]
    omega
/-- an odd value that is small data; a list of it is not empty -/
def Ov (n k : Nat) (H : Hp) (v : V) : Prop := ∃ d, Dv H v d ∧ Sm n k d ∧ ∀ ds, d = .list ds → 0 < ds.length ∧ ds.length ≤ 10
theorem Ov.mono {n k : Nat} {H H' : Hp} {v : V} (s : Same H H') (h : Ov n k H v) : Ov n k H' v := by
  obtain ⟨d, h1, h2⟩ := h
  exact ⟨d, Dv.mono s d v h1, h2⟩
theorem Ov.le {n k m j : Nat} {H : Hp} {v : V} (h : Ov n k H v) (e : n ≤ m) (f : k ≤ j) : Ov m j H v := by
  obtain ⟨d, h1, h2, h3⟩ := h
  exact ⟨d, h1, h2.le e f, h3⟩
/-- v' is v or, of a list, a copy of it made behind H0 -/
def Cv (n k : Nat) (H0 H : Hp) (v v' : V) : Prop := (∃ d, Dv H0 v d ∧ Sm n k d ∧ (kindD d == "list") = false ∧ v' = v) ∨ (∃ r xs ds, v' = .ref r ∧ H0 r = none ∧ H r = some (.lst xs) ∧ DvAll H0 xs ds ∧ Sm n k (.list ds) ∧ 0 < ds.length ∧ ds.length ≤ 10)
theorem Cv.same {n k : Nat} {H0 H H' : Hp} {v v' : V} (h : Cv n k H0 H v v') (s : Same H H') : Cv n k H0 H' v v' := by
  rcases h with h | ⟨r, xs, ds, h1, h2, h3, h4⟩
  · exact .inl h
  · exact .inr ⟨r, xs, ds, h1, h2, s _ _ h3, h4⟩
theorem copy_v {K : PySem.W.Frag} {n k : Nat} {H0 H : Hp} {v : V} {Q : VK} {E : XK} (h : Ov n k H0 v) (s : Same H0 H) (q : ∀ v' H', Same H H' → Cv n k H0 H' v v' → Q v' H') : spCopy K [v] H Q E := by
  obtain ⟨d, h1, h2, h3⟩ := h
  by_cases hk : (kindD d == "list") = false
  · exact ⟨v, rfl, .inl ⟨kindD d, (Dv.mono s d v h1).ty, kind_ok d, by simpa using hk, q v H (Same.refl _) (.inl ⟨d, h1, h2, hk, rfl⟩)⟩⟩
  · cases h1 with
    | @lst a xs ds g1 g2 =>
      refine ⟨_, rfl, .inr ⟨a, xs, rfl, s _ _ g1, fun r H' s' n0 g => ?_⟩⟩
      obtain ⟨z1, z2⟩ := h3 ds rfl
      exact q (.ref r) H' s' (.inr ⟨r, xs, ds, rfl, Same.none s n0, g, g2, h2, z1, z2⟩)
    | _ => exact absurd rfl hk
theorem cv_tx {K : PySem.W.Frag} {n k : Nat} {H0 H : Hp} {v v' : V} (h : Cv n k H0 H v v') (s : Same H0 H) (t : IsTx K H0 v false) : IsTx K H v' false := by
  rcases h with ⟨d, h1, h2, h3, rfl⟩ | ⟨r, xs, ds, rfl, h2, h3, _⟩
  · exact t.mono s
  · exact .inr ⟨rfl, "list", .base (.lst h3), by unfold SL.Kind; simp, by decide⟩
theorem cv_lg {K : PySem.W.Frag} {n k : Nat} {H0 H : Hp} {v v' : V} (h : Cv n k H0 H v v') (s : Same H0 H) (t : IsLg K H0 v false) : IsLg K H v' false := by
  rcases h with ⟨d, h1, h2, h3, rfl⟩ | ⟨r, xs, ds, rfl, h2, h3, _⟩
  · exact t.mono s
  · exact .inl ⟨rfl, "list", .base (.lst h3), by unfold SL.Kind; simp, by decide⟩
theorem dpall_of {K : PySem.W.Frag} {H : Hp} {v : V} {d : PyData} (h : Dv H v d) (z : d.hasDict = false) : DpAll K H [v] [d] := .cons (Dv.dp d v h z) .nil
/-- [v] == [] -/
theorem w_eqNilD {K : PySem.W.Frag} {H : Hp} {Q : VK} {r e : Addr} {v : V} {d : PyData} {n k : Nat} (h1 : H r = some (.lst [v])) (hv : Dv H v d) (sm : Sm n k d) (f : k ≤ 60) (h2 : H e = some (.lst [])) (q : Q (.bl false) H) : rEqU K (.ref r) (.ref e) H Q :=
  .inr ⟨.list [d], .list [], .lst (SqL.of h1) (dpall_of hv sm.nd), .lst (SqL.of h2) .nil, (sm_list1 sm).shaped (by omega), by decide +kernel, by
    have e : PyData.eqv (.list [d]) (.list []) = false := by simp [PyData.eqv, PyData.eqvAll]
    rw [e]
    exact q⟩
/-- [] != [] -/
theorem w_neNil {K : PySem.W.Frag} {H : Hp} {Q : VK} {r e : Addr} (h1 : H r = some (.lst [])) (h2 : H e = some (.lst [])) (q : Q (.bl false) H) : rNeU K (.ref r) (.ref e) H Q :=
  .inr ⟨.list [], .list [], .lst (SqL.of h1) .nil, .lst (SqL.of h2) .nil, by decide +kernel, by decide +kernel, by
    have e : PyData.eqv (.list []) (.list []) = true := by simp [PyData.eqv, PyData.eqvAll]
    rw [e]
    exact q⟩
theorem hideF {p : Addr} {A B : Hp} (f : SL.Fr p A B) : Same (hide [p] A) B := hide_to fun b o h n => f b o h (by simpa using n)
theorem hideH {p : Addr} {A B : Hp} (f : SL.Fr p A B) : Same (hide [p] A) (hide [p] B) := fun b o h => by
  have n : b ∉ [p] := fun m => by unfold hide at h; rw [if_pos m] at h; cases h
  exact hide_get (hideF f _ _ h) n
end SL
set_option Elab.async false
set_option linter.all false
set_option maxRecDepth 100000
set_option maxHeartbeats 4000000
/-! SlN: any plain data beside texts: ==, in, kinds; lists and tuples of small data. -/
namespace SL
open PySem PySem.Spec PyProof.Rows L2
/-- x in a list or a tuple of data -/
def rInP (K : PySem.W.Frag) : R2 := fun x y H Q => ∃ d ds, Dp K H x d ∧ (Dp K H y (.list ds) ∨ Dp K H y (.tuple ds)) ∧ SeqAt.shaped d = true ∧ SeqAt.shaped (.list ds) = true ∧ Q (.bl (ds.any fun z => PyData.eqv z d)) H
theorem uInP {X : Cx} {k : Nat} (hr : Room k X.A) : OpR X (compareOp .In) (rInP X.K) := by
  intro pins s σ H x y v u Q I rx ry h
  obtain ⟨d, ds, hd, he, sd, se, q⟩ := h
  have hu : X.A.units + 65 < cLine := by have := hr.un; omega
  obtain ⟨as, r1⟩ := Dp.reads I d x v hd rx
  rcases he with he | he
  · obtain ⟨bs, r2⟩ := Dp.reads I (.list ds) y u he ry
    exact SeqAt.in_list_reads r2 r1 (SeqAt.canLay_of_shaped se) (SeqAt.canLay_of_shaped sd) (room_in_shaped sd hu) ⟨.bl _, H, I, rfl, q⟩
  · obtain ⟨bs, r2⟩ := Dp.reads I (.tuple ds) y u he ry
    exact SeqAt.in_tuple_reads r2 r1 (SeqAt.canLay_of_shaped se) (SeqAt.canLay_of_shaped sd) (room_in_shaped sd hu) ⟨.bl _, H, I, rfl, q⟩
def rInZ (K : PySem.W.Frag) : R2 := fun x y H Q => rInU K x y H Q ∨ rInP K x y H Q
theorem kInZ (K : PySem.W.Frag) {X : Cx} {k : Nat} (h : X.K = K) (hr : Room k X.A) : OpR X (compareOp .In) (rInZ K) := h ▸ uIn.or (uInP hr)
/-- is d this text -/
def isS (d : PyData) (l : List Nat) : Bool := match d with | .str x => decide (x = tx l) | _ => false
theorem tx_cps (l : List Nat) : (tx l).cps.toList = l := by simp [tx]
theorem isS_tx (k l : List Nat) : isS (.str (tx k)) l = decide (k = l) := by
  show decide (tx k = tx l) = decide (k = l)
  by_cases h : k = l
  · subst h; rw [decide_eq_true rfl, decide_eq_true rfl]
  · rw [decide_eq_false h, decide_eq_false fun e => h (by have := congrArg (fun z : Str => z.cps.toList) e; simpa only [tx_cps] using this)]
theorem isS_of {d : PyData} {l : List Nat} (h : isS d l = true) : d = .str (tx l) := by
  unfold isS at h
  cases d with
  | str x => rw [of_decide_eq_true h]
  | _ => simp at h
theorem eqv_strL (l : List Nat) (d : PyData) : PyData.eqv (.str (tx l)) d = isS d l := by
  unfold isS
  cases d with
  | str x =>
    rw [PyData.eqv]
    by_cases h : x = tx l
    · subst h; simp
    · show (tx l == x) = decide (x = tx l)
      rw [decide_eq_false h]
      exact beq_eq_false_iff_ne.mpr (Ne.symm h)
  | _ => rw [PyData.eqv]
theorem eqv_strR (l : List Nat) (d : PyData) : PyData.eqv d (.str (tx l)) = isS d l := by
  unfold isS
  cases d with
  | str x =>
    rw [PyData.eqv]
    by_cases h : x = tx l
    · subst h; simp
    · show (x == tx l) = decide (x = tx l)
      rw [decide_eq_false h]
      exact beq_eq_false_iff_ne.mpr h
  | _ => rw [PyData.eqv]
theorem shaped_str (l : List Nat) (h : Sgn l) : SeqAt.shaped (.str (tx l)) = true := (sm_str (n := 10 * l.length + 2) h (Nat.le_refl _)).shaped (by omega)
section
variable {K : PySem.W.Frag} {H : Hp} {Q : VK} {v w : V} {d e : PyData} {n k m j : Nat}
/-- any data beside a text -/
theorem w_eqDS {l : List Nat} (h : Dv H v d) (sm : Sm n k d) (f : k ≤ 60) (hl : Sgn l) (q : Q (.bl (isS d l)) H) : rEqU K v (.str (tx l)) H Q :=
  .inr ⟨d, .str (tx l), Dv.dp d v h sm.nd, .str _, sm.shaped (by omega), shaped_str l hl, by rw [eqv_strR]; exact q⟩
theorem w_neDS {l : List Nat} (h : Dv H v d) (sm : Sm n k d) (f : k ≤ 60) (hl : Sgn l) (q : Q (.bl (!isS d l)) H) : rNeU K v (.str (tx l)) H Q :=
  .inr ⟨d, .str (tx l), Dv.dp d v h sm.nd, .str _, sm.shaped (by omega), shaped_str l hl, by rw [eqv_strR]; exact q⟩
/-- two data -/
theorem w_eqDD (h : Dv H v d) (sm : Sm n k d) (f : k ≤ 60) (h2 : Dv H w e) (sm2 : Sm m j e) (f2 : j ≤ 60) (q : Q (.bl (PyData.eqv d e)) H) : rEqU K v w H Q :=
  .inr ⟨d, e, Dv.dp d v h sm.nd, Dv.dp e w h2 sm2.nd, sm.shaped (by omega), sm2.shaped (by omega), q⟩
theorem w_neDD (h : Dv H v d) (sm : Sm n k d) (f : k ≤ 60) (h2 : Dv H w e) (sm2 : Sm m j e) (f2 : j ≤ 60) (q : Q (.bl (!PyData.eqv d e)) H) : rNeU K v w H Q :=
  .inr ⟨d, e, Dv.dp d v h sm.nd, Dv.dp e w h2 sm2.nd, sm.shaped (by omega), sm2.shaped (by omega), q⟩
/-- any data in a written list or tuple of texts -/
theorem w_inDS {p : Addr} {ls : List (List Nat)} (h : Dv H v d) (sm : Sm n k d) (f : k ≤ 60) (hp : H p = some (.lst (ls.map fun l => V.str (tx l))) ∨ H p = some (.tup (ls.map fun l => V.str (tx l)))) (hs : ∀ l ∈ ls, Sgn l) (hsh : SeqAt.shaped (.list (ls.map fun l => PyData.str (tx l))) = true) (q : Q (.bl (ls.any fun l => isS d l)) H) : rInZ K v (.ref p) H Q := by
  have all : ∀ ls : List (List Nat), DpAll K H (ls.map fun l => V.str (tx l)) (ls.map fun l => PyData.str (tx l)) := by
    intro ls
    induction ls with
    | nil => exact .nil
    | cons a r ih => exact .cons (.str _) ih
  refine .inr ⟨d, ls.map fun l => PyData.str (tx l), Dv.dp d v h sm.nd, ?_, sm.shaped (by omega), hsh, ?_⟩
  · rcases hp with hp | hp
    · exact .inl (.lst (SqL.of hp) (all ls))
    · exact .inr (.tup (SqT.of hp) (all ls))
  · rw [List.any_map]
    have e : ((fun z => PyData.eqv z d) ∘ fun l => PyData.str (tx l)) = fun l => isS d l := by
      funext l
      exact eqv_strL l d
    rw [e]
    exact q
theorem w_isiD {t : String} (h : Dv H v d) (hn : KindX t) (q : Q (.bl (kindD d == t || (kindD d == "bool" && t == "int"))) H) : rIsi K [v, .ty t] H Q := w_isiK h.ty (kind_ok d) hn q
end
theorem kind_tup {d : PyData} (h : (kindD d == "tuple" || (kindD d == "bool" && "tuple" == "int")) = true) : ∃ ds, d = .tuple ds := by
  cases d <;> first | exact ⟨_, rfl⟩ | (simp [kindD] at h)
theorem kind_str {d : PyData} (h : (kindD d == "str" || (kindD d == "bool" && "str" == "int")) = true) : ∃ x, d = .str x := by
  cases d <;> first | exact ⟨_, rfl⟩ | (simp [kindD] at h)
theorem foldl_repr_ge1 (q : Nat) : ∀ (l : List Nat) (acc : Array Nat), acc.size + l.length ≤ (l.foldl (fun out c => out ++ (Builtin.Str.reprChar q c).toArray) acc).size
  | [], acc => by simp
  | c :: r, acc => by
    have ih := foldl_repr_ge1 q r (acc ++ (Builtin.Str.reprChar q c).toArray)
    have h1 : 1 ≤ (Builtin.Str.reprChar q c).length := by
      unfold Builtin.Str.reprChar
      dsimp only
      repeat' split
      all_goals simp only [List.length_append, List.length_cons, List.length_nil]
      all_goals omega
    simp only [List.foldl_cons, List.length_cons]
    simp only [Array.size_append, List.size_toArray] at ih
    omega
theorem repr_ge (l : List Nat) : l.length + 2 ≤ (PyData.shown (.str (tx l))).length := by
  show l.length + 2 ≤ (((tx l).cps.foldl (fun out c => out ++ (Builtin.Str.reprChar (reprQuote (tx l)) c).toArray) #[reprQuote (tx l)]).push (reprQuote (tx l))).size
  rw [Array.size_push, ← Array.foldl_toList]
  have := foldl_repr_ge1 (reprQuote (tx l)) (tx l).cps.toList #[reprQuote (tx l)]
  have e : (tx l).cps.toList = l := by simp [tx]
  rw [e] at this
  have e1 : (#[reprQuote (tx l)] : Array Nat).size = 1 := rfl
  rw [e]
  omega
theorem Sm.strL {n k : Nat} {l : List Nat} (h : Sm n k (.str (tx l))) : l.length ≤ n := by
  have := repr_ge l
  have := h.ln
  omega
/-! tuples and lists of small data -/
def SmAll (n k : Nat) (ds : List PyData) : Prop := ∀ d ∈ ds, Sm n k d
theorem smAll_parts {n k : Nat} : ∀ {ds : List PyData}, SmAll n k ds → PyData.showableAll ds = true ∧ PyData.hasDictAll ds = false ∧ PyData.canLayAll0 ds = true ∧ PyData.depthAll ds ≤ k
  | [], _ => ⟨by simp [PyData.showableAll], by simp [PyData.hasDictAll], by simp [PyData.canLayAll0], by simp [PyData.depthAll]⟩
  | d :: r, h => by
    have h1 := h d (by simp)
    obtain ⟨a, b, c, e⟩ := smAll_parts (ds := r) fun x hx => h x (by simp [hx])
    have := h1.dp
    exact ⟨by simp [PyData.showableAll, h1.sh, a], by simp [PyData.hasDictAll, h1.nd, b], by simp [PyData.canLayAll0, h1.ly, c], by simp only [PyData.depthAll]; omega⟩
theorem smAll_len {n k : Nat} : ∀ {ds : List PyData}, SmAll n k ds → ((PyData.shownAll ds).map (·.length)).sum ≤ ds.length * n ∧ (PyData.shownAll ds).length = ds.length
  | [], _ => by simp [PyData.shownAll]
  | d :: r, h => by
    obtain ⟨i1, i2⟩ := smAll_len (ds := r) fun x hx => h x (by simp [hx])
    have := (h d (by simp)).ln
    simp only [List.map_cons, PyData.shownAll, List.sum_cons, List.length_cons, Nat.succ_mul]
    omega
theorem sm_tupAll {n k : Nat} {ds : List PyData} (h : SmAll n k ds) : Sm (ds.length * (n + 2) + 3) (k + 1) (.tuple ds) := by
  obtain ⟨a, b, c, e⟩ := smAll_parts h
  obtain ⟨i1, i2⟩ := smAll_len h
  refine ⟨by simp only [PyData.showable]; exact a, by simp only [PyData.hasDict]; exact b, by simp only [PyData.canLay0]; exact c, by simp only [PyData.depth]; omega, ?_⟩
  refine Nat.le_trans (tupleText_len_le _) ?_
  rw [i2]
  have : ds.length * (n + 2) = ds.length * n + 2 * ds.length := by rw [Nat.mul_add]; omega
  omega
theorem sm_listAll {n k : Nat} {ds : List PyData} (h : SmAll n k ds) : Sm (ds.length * (n + 2) + 3) (k + 1) (.list ds) := by
  obtain ⟨a, b, c, e⟩ := smAll_parts h
  obtain ⟨i1, i2⟩ := smAll_len h
  refine ⟨by simp only [PyData.showable]; exact a, by simp only [PyData.hasDict]; exact b, by simp only [PyData.canLay0]; exact c, by simp only [PyData.depth]; omega, ?_⟩
  refine Nat.le_trans (listText_len_le _) ?_
  rw [i2]
  have : ds.length * (n + 2) = ds.length * n + 2 * ds.length := by rw [Nat.mul_add]; omega
  omega
/-- what lies in d -/
def subs : PyData → List PyData
  | .tuple ds => ds
  | .list ds => ds
  | _ => []
/-- small, and all in it, f deep -/
def Hr (n k : Nat) : Nat → PyData → Prop
  | 0, d => Sm n k d
  | f + 1, d => Sm n k d ∧ ∀ e ∈ subs d, Hr n k f e
theorem Hr.sm {n k : Nat} : ∀ {f : Nat} {d : PyData}, Hr n k f d → Sm n k d
  | 0, _, h => h
  | _ + 1, _, h => h.1
theorem Hr.le {n k m j : Nat} (e : n ≤ m) (e2 : k ≤ j) : ∀ {f : Nat} {d : PyData}, Hr n k f d → Hr m j f d
  | 0, _, h => Sm.le h e e2
  | _ + 1, _, h => ⟨h.1.le e e2, fun x hx => (h.2 x hx).le e e2⟩
theorem hr_atom {n k : Nat} {d : PyData} (h : Sm n k d) (a : subs d = []) : ∀ f, Hr n k f d
  | 0 => h
  | f + 1 => ⟨h, fun e he => by rw [a] at he; cases he⟩
theorem hr_tup {n k f m : Nat} {ds : List PyData} (h : ∀ e ∈ ds, Hr n k f e) (z : ds.length * (n + 2) + 3 ≤ m) (hm : n ≤ m := by omega) : Hr m (k + 1) (f + 1) (.tuple ds) :=
  ⟨(sm_tupAll fun e he => (h e he).sm).le z (Nat.le_refl _), fun e he => (h e he).le hm (by omega)⟩
theorem hr_list {n k f m : Nat} {ds : List PyData} (h : ∀ e ∈ ds, Hr n k f e) (z : ds.length * (n + 2) + 3 ≤ m) (hm : n ≤ m := by omega) : Hr m (k + 1) (f + 1) (.list ds) :=
  ⟨(sm_listAll fun e he => (h e he).sm).le z (Nat.le_refl _), fun e he => (h e he).le hm (by omega)⟩
/-! rows of data: parts, one behind the other -/
theorem DvAll.app {H : Hp} : ∀ {xs ys : List V} {ds es : List PyData}, DvAll H xs ds → DvAll H ys es → DvAll H (xs ++ ys) (ds ++ es)
  | _, _, _, _, .nil, h => h
  | _, _, _, _, .cons a r, h => .cons a (DvAll.app r h)
theorem DvAll.take {H : Hp} : ∀ {xs : List V} {ds : List PyData} (n : Nat), DvAll H xs ds → DvAll H (xs.take n) (ds.take n)
  | _, _, 0, _ => by rw [List.take_zero, List.take_zero]; exact .nil
  | _, _, n + 1, .nil => by rw [List.take_nil, List.take_nil]; exact .nil
  | _, _, n + 1, .cons a r => by rw [List.take_succ_cons, List.take_succ_cons]; exact .cons a (r.take n)
theorem DvAll.drop {H : Hp} : ∀ {xs : List V} {ds : List PyData} (n : Nat), DvAll H xs ds → DvAll H (xs.drop n) (ds.drop n)
  | _, _, 0, h => h
  | _, _, n + 1, .nil => by rw [List.drop_nil, List.drop_nil]; exact .nil
  | _, _, n + 1, .cons a r => by rw [List.drop_succ_cons, List.drop_succ_cons]; exact r.drop n
theorem DvAll.get {H : Hp} : ∀ {xs : List V} {ds : List PyData} {i : Nat} {d : PyData}, DvAll H xs ds → ds[i]? = some d → ∃ v, xs[i]? = some v ∧ Dv H v d
  | _, _, 0, _, .cons a _, e => ⟨_, rfl, by cases e; exact a⟩
  | _, _, i + 1, _, .cons _ r, e => DvAll.get (i := i) r e
  | _, _, _, _, .nil, e => by simp at e
theorem DvAll.get' {H : Hp} : ∀ {xs : List V} {ds : List PyData} {i : Nat} {v : V}, DvAll H xs ds → xs[i]? = some v → ∃ d, ds[i]? = some d ∧ Dv H v d
  | _, _, 0, _, .cons a _, e => ⟨_, rfl, by cases e; exact a⟩
  | _, _, i + 1, _, .cons _ r, e => DvAll.get' (i := i) r e
  | _, _, _, _, .nil, e => by simp at e
/-- a list of data beside [] -/
theorem w_neNilDs {K : PySem.W.Frag} {H : Hp} {Q : VK} {r e : Addr} {vs : List V} {ds : List PyData} {n k : Nat} (h1 : H r = some (.lst vs)) (hv : DvAll H vs ds) (sm : SmAll n k ds) (f : k ≤ 60) (h2 : H e = some (.lst [])) (q : Q (.bl (!decide (ds = []))) H) : rNeU K (.ref r) (.ref e) H Q :=
  .inr ⟨.list ds, .list [], .lst (SqL.of h1) (DvAll.dp _ _ hv (smAll_parts sm).2.1), .lst (SqL.of h2) .nil, (sm_listAll sm).shaped (by omega), by decide +kernel, by
    have e : PyData.eqv (.list ds) (.list []) = decide (ds = []) := by
      cases ds <;> simp [PyData.eqv, PyData.eqvAll]
    rw [e]
    exact q⟩
/-! reversed lists, tuples of lists -/
theorem kRevL (K : PySem.W.Frag) {X : Cx} (h : X.K = K) {e : Expr} {te : TE} {k : Nat} {p1 p2 p3 pos : Pos} (p : PE X e te) :
    PE X (e.Subscript (.Slice none none (some (.UnaryOp .USub (.Constant (.int 1) k p1) p2)) p3) pos) (tRevL K te) := h ▸ pe_revL p
theorem w_revL {K : PySem.W.Frag} {te : TE} {σ : SSt} {H : Hp} {Q : VK} (q : te σ H fun x H1 => ∃ a xs, x = V.ref a ∧ SqL K H1 a xs ∧ ∀ p, H1 p = none → Q (.ref p) (upd H1 p (.lst xs.reverse))) : tRevL K te σ H Q := q
theorem w_revL1 {K : PySem.W.Frag} {H : Hp} {Q : VK} {p : Addr} {xs : List V} (h : SqL K H p xs) (q : ∀ r, H r = none → Q (.ref r) (upd H r (.lst xs.reverse))) : ∃ a xs, V.ref p = V.ref a ∧ SqL K H a xs ∧ ∀ p, H p = none → Q (.ref p) (upd H p (.lst xs.reverse)) := ⟨p, xs, rfl, h, q⟩
def rTupU (K : PySem.W.Frag) : List V → Hp → VK → Prop := fun xs H Q => ∃ p ys, xs = [.ref p] ∧ ((SqL K H p ys ∧ ∀ l, H l = none → Q (.ref l) (upd H l (.tup ys))) ∨ (SqT K H p ys ∧ Q (.ref p) H))
theorem kTupOf (K : PySem.W.Frag) {X : Cx} (h : X.K = K) : CallR X (.type "tuple") (rTupU K) := h ▸ call_tuple_of
theorem w_tupL {K : PySem.W.Frag} {H : Hp} {Q : VK} {p : Addr} {xs : List V} (h : SqL K H p xs) (q : ∀ l, H l = none → Q (.ref l) (upd H l (.tup xs))) : rTupU K [.ref p] H Q := ⟨p, xs, rfl, .inl ⟨h, q⟩⟩
/-- two pairs of whole numbers -/
theorem w_neII {K : PySem.W.Frag} {H : Hp} {Q : VK} {p q : Addr} {a b c d : Int} (h1 : H p = some (.tup [.int a, .int b])) (h2 : H q = some (.tup [.int c, .int d])) (k : Q (.bl (!(decide (a = c) && decide (b = d)))) H) : rNeU K (.ref p) (.ref q) H Q := by
  have sh : ∀ x y : Int, SeqAt.shaped (.tuple [.int x, .int y]) = true := fun x y => by simp [SeqAt.shaped, PyData.canLay0, PyData.canLayAll0, PyData.depth, PyData.depthAll]
  refine .inr ⟨.tuple [.int a, .int b], .tuple [.int c, .int d], .tup (SqT.of h1) (.cons (.int _) (.cons (.int _) .nil)), .tup (SqT.of h2) (.cons (.int _) (.cons (.int _) .nil)), sh _ _, sh _ _, ?_⟩
  have e : PyData.eqv (.tuple [.int a, .int b]) (.tuple [.int c, .int d]) = (decide (a = c) && decide (b = d)) := by
    simp only [PyData.eqv, PyData.eqvAll, Bool.and_true]
    have f : ∀ x y : Int, (x == y) = decide (x = y) := fun x y => by by_cases h : x = y <;> simp [h]
    rw [f, f]
  rw [e]
  exact k
/-! not in, parts of tuples -/
theorem kNotIn (K : PySem.W.Frag) {X : Cx} (h : X.K = K) : OpR X (compareOp .NotIn) (rIn K true) := h ▸ op_notIn_seq
theorem inV_ints (i : Int) (ns : List Int) : inV (.int i) (ns.map V.int) = decide (i ∈ ns) := by
  unfold inV
  rw [List.any_map]
  induction ns with
  | nil => simp
  | cons a r ih =>
    rw [List.any_cons, ih]
    have e : ((fun y => eqV y (.int i)) ∘ V.int) a = (a == i) := rfl
    rw [e]
    by_cases h : i = a
    · subst h; simp
    · have h2 : (a == i) = false := beq_eq_false_iff_ne.mpr (Ne.symm h)
      rw [h2, Bool.false_or]
      simp [h]
theorem flat_ints (ns : List Int) : (ns.map V.int).all flatV = true := by
  induction ns with
  | nil => rfl
  | cons a r ih => rw [List.map_cons, List.all_cons, ih]; rfl
theorem w_notInI {K : PySem.W.Frag} {H : Hp} {Q : VK} {p : Addr} {i : Int} {ns : List Int} (h : H p = some (.tup (ns.map V.int))) (q : Q (.bl (!decide (i ∈ ns))) H) : rIn K true (.int i) (.ref p) H Q :=
  ⟨p, ns.map V.int, rfl, .inr (SqT.of h), rfl, flat_ints ns, by rw [inV_ints]; exact q⟩
theorem w_sTup {K : PySem.W.Frag} {H : Hp} {Q : VK} {p : Addr} {xs : List V} {lo hi : Option Int} (h : H p = some (.tup xs)) (q : ∀ r H', Same H H' → H' r = some (.tup (cutV xs lo hi)) → Q (.ref r) H') : rSlU K (.ref p) lo hi H Q := by
  refine .inr (.inr ⟨p, xs, rfl, SqT.of h, fun hw => ?_, fun _ r hr => q r _ (same_new hr) upd_same⟩)
  refine q p H (Same.refl _) ?_
  rw [h]
  unfold cutV
  rw [hw.1, hw.2, List.drop_zero, Nat.sub_zero, List.take_length]
/-! the texts of one letter -/
def letD : PyData → Bool
  | .str s => decide (s.cps.toList.length = 1) && decide (Let s.cps.toList)
  | _ => false
theorem letD_tx (l : List Nat) : letD (.str (tx l)) = (decide (l.length = 1) && decide (Let l)) := by
  show (decide ((tx l).cps.toList.length = 1) && decide (Let (tx l).cps.toList)) = _
  rw [tx_cps]
theorem letD_of {H : Hp} {v : V} {d : PyData} (h : Dv H v d) (e : letD d = true) : ∃ a, v = .str (tx [a]) ∧ d = .str (tx [a]) ∧ Let [a] := by
  cases h with
  | str l =>
    rw [letD_tx, Bool.and_eq_true, decide_eq_true_eq, decide_eq_true_eq] at e
    match l, e with
    | [a], e => exact ⟨a, rfl, rfl, e.2⟩
  | _ => cases e
theorem sm_smS {H : Hp} {v : V} {d : PyData} {k : Nat} (h : Dv H v d) (sm : Sm 1000 k d) : smS d = true := by
  cases h with
  | str l =>
    show decide ((tx l).cps.toList.length ≤ 1000) = true
    rw [tx_cps]
    exact decide_eq_true sm.strL
  | _ => rfl
theorem txB_tx (l : List Nat) : txB (.str (tx l)) = decide (Let l) := by
  show decide (Let (tx l).cps.toList) = _
  rw [tx_cps]
theorem shownAll_len : ∀ ds : List PyData, (PyData.shownAll ds).length = ds.length
  | [] => rfl
  | d :: r => by rw [PyData.shownAll, List.length_cons, List.length_cons, shownAll_len r]
theorem piled_ge : ∀ ts : List Str, 2 * ts.length ≤ piled ts
  | [] => Nat.zero_le _
  | t :: r => by
    have := piled_ge r
    simp only [piled, List.map_cons, List.sum_cons, List.length_cons] at this ⊢
    omega
theorem Sm.tupL {n k : Nat} {ds : List PyData} (h : Sm n k (.tuple ds)) : ds.length ≤ n := by
  cases ds with
  | nil => exact Nat.zero_le _
  | cons d r =>
    have h1 : (tupleText (PyData.shownAll (d :: r))).length ≤ n := h.ln
    have h2 := join_length_add (PyData.shownAll (d :: r)) (by rw [PyData.shownAll]; exact List.cons_ne_nil _ _)
    have h3 := piled_ge (PyData.shownAll (d :: r))
    rw [shownAll_len] at h3
    unfold tupleText at h1
    rw [strLen_append, strLen_append] at h1
    simp only [List.length_cons] at h3 ⊢
    have h4 : 1 ≤ (("(" : Str)).length := by decide
    omega
end SL
set_option Elab.async false
set_option linter.all false
set_option maxRecDepth 100000
set_option maxHeartbeats 4000000
/-! SlM: tuple * int from 1 on; tuples and lists joined. -/
namespace SL
open PySem PySem.Spec PyProof.Rows L2
open AutoSeq1 (wpAny_loadPart')
theorem tuple_mul1 (l : Addr) (items : Array Value) (n : Nat) (dd : Option Addr) (sl : Array (Option Value)) (u : Tok) :
    Meets (Builtin.«tuple.__mul__» ⟨[.ref l, .int 1 u], []⟩) (fun _ R s => s.heap.get? l = some { cls := .type "tuple", dict := dd, data := .seq items n, slots := sl } ∧ R (.ok (.ret (Value.ref l))) s) :=
  .of_wp fun prog w A R s h => by
    obtain ⟨hp, g, d, tk, os⟩ := s
    obtain ⟨hl, h⟩ := h
    have f1 := AutoSeq1.idx_int
    have c0 : (decide ((1 : Int) < -(2 ^ 63)) || decide ((1 : Int) ≥ 2 ^ 63)) = false := by decide
    have c1 : (items.isEmpty || (1 : Int) == 1) = true := by simp
    wp_walk using wpAny_loadPart' hl
    exact ⟨_, rfl, h⟩
def rRepT1 (K : PySem.W.Frag) : R2 := fun x y H Q => ∃ l xs, x = .ref l ∧ y = .int 1 ∧ SqT K H l xs ∧ Q (.ref l) H
theorem op_repT1 {X : Cx} : OpR X (binaryOp .Mult) (rRepT1 X.K) := by
  intro pins s σ H x y v u Q I rx ry h
  obtain ⟨l, xs, rfl, rfl, hT, q⟩ := h
  cases rx
  obtain ⟨t, rfl⟩ := ry
  obtain ⟨its, r, ⟨⟨cls, dd, data, sl⟩, ho, hc, n, hd⟩, hs⟩ := I.tuple hT
  simp only at hc hd
  subst hc hd
  exact wpAny_binaryOp_repeat_ref (T := "tuple") (U := "int") (by decide) ⟨_, ho, rfl⟩ (fun s' => typeIs_int s' 1 t) noFill_tuple_mul F.fills_int_mul F.slot_int_rmul repeat_tuple F.slot_int_index.lookup
    (call_meets F.slot_int_rmul (typeIs_int s 1 t) F.entry_int_rmul (F.args_int_rmul_2 _ _) (int_rmul_tuple 1 t l its.toArray n dd sl)
      ⟨ho, rfl, ⟨_, ho, rfl⟩, call_meets F.slot_tuple_mul ⟨_, ho, rfl⟩ F.entry_tuple_mul (F.args_tuple_mul_2 _ _) (tuple_mul1 l its.toArray n dd sl t) ⟨ho, ⟨.ref l, H, I, rfl, q⟩⟩⟩)
def rMulT (K : PySem.W.Frag) : R2 := fun x y H Q => rRepT1 K x y H Q ∨ rRepT K x y H Q
theorem kMulT (K : PySem.W.Frag) {X : Cx} (h : X.K = K) : OpR X (binaryOp .Mult) (rMulT K) := h ▸ op_repT1.or op_repT
/-- tuple * n, n from 1 on -/
theorem w_mulT {K : PySem.W.Frag} {H : Hp} {Q : VK} {p : Addr} {xs : List V} {k : Int} {n : Nat} (e : k = (n : Int)) (h : H p = some (.tup xs)) (hx : xs ≠ []) (hn : 1 ≤ n ∧ n ≤ 1000) (hz : xs.length ≤ 1000) (q : ∀ r H', Same H H' → H' r = some (.tup (List.replicate n xs).flatten) → Q (.ref r) H') : rMulT K (.ref p) (.int k) H Q := by
  subst e
  by_cases h1 : n = 1
  · subst h1
    refine .inl ⟨p, xs, rfl, rfl, SqT.of h, q p H (Same.refl _) ?_⟩
    rw [h]
    simp
  · refine .inr ⟨p, (n : Int), xs, rfl, rfl, SqT.of h, hx, by omega, by omega, hz, fun r hr => ?_⟩
    rw [Int.toNat_natCast]
    exact q r _ (same_new hr) upd_same
/-- tuple + tuple -/
theorem w_catT {K : PySem.W.Frag} {H : Hp} {Q : VK} {a b : Addr} {xs ys : List V} (h1 : H a = some (.tup xs)) (h2 : H b = some (.tup ys)) (hz : xs.length + ys.length ≤ 16777216) (q : ∀ r H', Same H H' → H' r = some (.tup (xs ++ ys)) → Q (.ref r) H') : rAddU K (.ref a) (.ref b) H Q := by
  refine .inr (.inr (.inr ⟨a, b, xs, ys, rfl, rfl, SqT.of h1, SqT.of h2, by rw [sizeLine_eq]; exact hz, fun e => ?_, fun _ e => ?_, fun _ _ r hr => q r _ (same_new hr) upd_same⟩))
  · subst e; exact q b H (Same.refl _) h2
  · subst e; exact q a H (Same.refl _) (by rw [List.append_nil]; exact h1)
/-- list + list -/
theorem w_catL {K : PySem.W.Frag} {H : Hp} {Q : VK} {a b : Addr} {xs ys : List V} (h1 : H a = some (.lst xs)) (h2 : H b = some (.lst ys)) (hz : xs.length + ys.length ≤ 16777216) (q : ∀ r H', Same H H' → H r = none → H' r = some (.lst (xs ++ ys)) → Q (.ref r) H') : rAddU K (.ref a) (.ref b) H Q :=
  .inr (.inr (.inl ⟨a, b, xs, ys, rfl, rfl, h1, h2, by rw [sizeLine_eq]; exact hz, fun r hr => q r _ (same_new hr) hr upd_same⟩))
/-- a part of a list -/
theorem w_sLst {K : PySem.W.Frag} {H : Hp} {Q : VK} {p : Addr} {xs : List V} {lo hi : Option Int} (h : H p = some (.lst xs)) (q : ∀ r H', Same H H' → H r = none → H' r = some (.lst (cutV xs lo hi)) → Q (.ref r) H') : rSlU K (.ref p) lo hi H Q :=
  .inl ⟨p, xs, rfl, SqL.of h, fun r hr => q r _ (same_new hr) hr upd_same⟩
theorem dv_cut {H : Hp} {xs : List V} {ds : List PyData} (h : DvAll H xs ds) (lo hi : Option Int) : DvAll H (cutV xs lo hi) ((ds.drop (HT.sIx xs.length 0 lo)).take (HT.sIx xs.length xs.length hi - HT.sIx xs.length 0 lo)) := (h.drop _).take _
/-! small data, by trying -/
def smB (d : PyData) : Bool := d.showable && !d.hasDict && d.canLay0 && decide (d.depth ≤ 6) && decide (d.shown.length ≤ 1000)
theorem smB_of {d : PyData} (h : smB d = true) : Sm 1000 6 d := by
  unfold smB at h
  simp only [Bool.and_eq_true, Bool.not_eq_true', decide_eq_true_eq] at h
  exact ⟨h.1.1.1.1, h.1.1.1.2, h.1.1.2, h.1.2, h.2⟩
end SL
set_option Elab.async false
set_option linter.all false
set_option maxRecDepth 100000
set_option maxHeartbeats 4000000
/-! SlK: repr of data with dicts in it. -/
namespace SL
open PySem PySem.Spec PyProof.Rows L2
def kP : Key → PyData
  | .inl i => .int i
  | .inr x => .str x
mutual
inductive Dw (K : PySem.W.Frag) (H : Hp) : V → PyData → Prop
  | non : Dw K H .non .none
  | bl (b : Bool) : Dw K H (.bl b) (.bool b)
  | int (i : Int) : Dw K H (.int i) (.int i)
  | str (x : Str) : Dw K H (.str x) (.str x)
  | lst {a : Addr} {xs : List V} {ds : List PyData} : H a = some (.lst xs) → DwAll K H xs ds → Dw K H (.ref a) (.list ds)
  | tup {a : Addr} {xs : List V} {ds : List PyData} : SqT K H a xs → DwAll K H xs ds → Dw K H (.ref a) (.tuple ds)
  | dK {a : Addr} {kvs : List (Key × V)} {ds : List PyData} : H a = some (.dK kvs) → DwAll K H (kvs.map (·.2)) ds → Dw K H (.ref a) (.dict ((kvs.map fun p => kP p.1).zip ds))
  | dT {a : Addr} {kvs : List (List Key × V)} {ds : List PyData} : H a = some (.dT kvs) → DwAll K H (kvs.map (·.2)) ds → Dw K H (.ref a) (.dict ((kvs.map fun p => .tuple (p.1.map kP)).zip ds))
inductive DwAll (K : PySem.W.Frag) (H : Hp) : List V → List PyData → Prop
  | nil : DwAll K H [] []
  | cons {v : V} {vs : List V} {d : PyData} {ds : List PyData} : Dw K H v d → DwAll K H vs ds → DwAll K H (v :: vs) (d :: ds)
end
theorem DwAll.len {K : PySem.W.Frag} {H : Hp} : ∀ {vs : List V} {ds : List PyData}, DwAll K H vs ds → vs.length = ds.length
  | _, _, .nil => rfl
  | _, _, .cons _ r => by rw [List.length_cons, List.length_cons, DwAll.len r]
section
variable {X : Cx} {pins : List (Addr × Obj)} {σ : L2.St} {H : Hp} {s : Shared}
theorem zip_fst {α β : Type} : ∀ {l : List α} {m : List β}, l.length = m.length → (l.zip m).map (·.1) = l
  | [], _, _ => rfl
  | a :: l, [], h => by cases h
  | a :: l, b :: m, h => by rw [List.zip_cons_cons, List.map_cons, zip_fst (by simpa using h)]
theorem zip_snd {α β : Type} : ∀ {l : List α} {m : List β}, l.length = m.length → (l.zip m).map (·.2) = m
  | [], [], _ => rfl
  | [], b :: m, h => by cases h
  | a :: l, [], h => by cases h
  | a :: l, b :: m, h => by rw [List.zip_cons_cons, List.map_cons, zip_snd (by simpa using h)]
theorem is_val {k : Key} {u : Value} (h : (mixKind X.prog X.w).is k u = true) : RelV (kV k) u := by
  cases k with
  | inl i => exact Value.isInt_shape h
  | inr x => exact Value.isStrOf_shape h
theorem rd_pv : ∀ {kvs : List (Key × V)} {vs : List (Key × Value)} {es : List DictEntry}, KV kvs vs → Pairs (mixKind X.prog X.w) es vs → Vals (kvs.map (·.2)) (es.map (·.val))
  | [], _, _, r, p => by
    cases r
    cases p
    exact .nil
  | _ :: _, _, _, r, p => by
    cases r with
    | cons r1 r2 =>
      cases p with
      | cons p1 p2 p3 =>
        refine Paired.cons ?_ (rd_pv r2 p3)
        have e2 := r1.2
        rw [← p2] at e2
        exact e2
theorem rd_tv {H : Hp} : ∀ {kvs : List (List Key × V)} {xs : List (List Key × Addr × Value)}, Paired (fun (p : List Key × V) (q : List Key × Addr × Value) => p.1 = q.1 ∧ H q.2.1 = some (.tup (p.1.map kV)) ∧ RelV p.2 q.2.2) kvs xs →
    Vals (kvs.map (·.2)) ((xs.map (entryOfKey (tupleKind (mixKind X.prog X.w)))).map (·.val))
  | [], _, r => by
    cases r
    exact .nil
  | p :: ps, _, r => by
    cases r with
    | cons r1 r2 => exact Paired.cons r1.2.2 (rd_tv r2)
/-- u may be written out as d, in the heap h -/
def Wr (P : Program) (w : World) (h : Heap) (u : Value) (d : PyData) : Prop := ∃ as bs, Reads h u d as ∧ ReadAtMost h d.depth bs ∧ ReprK P w bs h d.depth u d.shown ∧ ∀ a, u = .ref a → d.shown.length ≤ sizeLine → ∃ T i, ShowsBy P w h a d T i
def WrAll (P : Program) (w : World) (h : Heap) (us : List Value) (ds : List PyData) : Prop := ∃ as bs, ReadsAll h us ds as ∧ ReadAtMost h (PyData.depthAll ds) bs ∧ ReprAllK P w bs h (PyData.depthAll ds) us (PyData.shownAll ds)
section
variable {P : Program} {w : World} {h : Heap}
theorem wrAll_nil : WrAll P w h [] [] := ⟨[], [], .nil, fun _ m => (by cases m), .nil⟩
theorem wrAll_cons {u : Value} {us : List Value} {d : PyData} {ds : List PyData} (a : Wr P w h u d) (b : WrAll P w h us ds) : WrAll P w h (u :: us) (d :: ds) := by
  obtain ⟨as1, bs1, r1, m1, k1, _⟩ := a
  obtain ⟨as2, bs2, r2, m2, k2⟩ := b
  have l1 : d.depth ≤ PyData.depthAll (d :: ds) := by rw [PyData.depthAll]; omega
  have l2 : PyData.depthAll ds ≤ PyData.depthAll (d :: ds) := by rw [PyData.depthAll]; omega
  refine ⟨as1 ++ as2, bs1 ++ bs2, .cons r1 r2, (m1.mono l1).append (m2.mono l2), ?_⟩
  rw [PyData.shownAll]
  exact .cons ((k1.more fun _ z => List.mem_append_left _ z).level_le l1) (k2.more_le (fun _ z => List.mem_append_right _ z) l2)
theorem wr_lst {a : Addr} {o : Obj} {its : List Value} {n : Nat} {ds : List PyData} (ho : h.get? a = some o) (hc : o.cls = .type "list") (hd : o.data = .seq its.toArray n) (x : WrAll P w h its ds) : Wr P w h (.ref a) (.list ds) := by
  obtain ⟨as, bs, r, m, k⟩ := x
  have e : (PyData.list ds).depth = PyData.depthAll ds + 1 := by rw [PyData.depth]
  have rr : Reads h (.ref a) (.list ds) _ := .list ho hc hd r
  have na := not_mem_of_deeper rr (show PyData.depthAll ds < _ by rw [e]; omega) m
  refine ⟨_, a :: bs, rr, ReadAtMost.cons rr (show PyData.depthAll ds ≤ _ by rw [e]; omega) m, ?_, fun b eb z => ?_⟩
  · rw [e, PyData.shown]
    cases its with
    | nil =>
      cases r
      rw [show listText (PyData.shownAll []) = ("[]" : Str) by decide +kernel]
      exact ReprK.listEmpty ho hc hd
    | cons y its => exact ReprK.list ho hc hd na (by simpa using k.length_eq) fun i z q => k.item i z (by simpa using q)
  · cases eb
    refine ⟨_, _, F.slot_list_repr.toG, F.slot_list_str, F.slot_list_format, fun s f => ⟨o, f _ _ ho, hc⟩, fun A E s Q g u f q => ?_⟩
    rw [e] at u
    rw [PyData.shown] at q z
    cases its with
    | nil =>
      cases r
      rw [show listText (PyData.shownAll []) = ("[]" : Str) by decide +kernel] at q
      exact call_list_repr_empty ⟨o, f _ _ ho, hc⟩ (f _ _ ho) hd (q s.heap _ _ fun _ _ e => e)
    | cons y its => exact call_list_reprK ho hc hd na (by simpa using k.length_eq) (fun i z q => k.item i z (by simpa using q)) g (fun b _ => Clear.nil b) u f q z
theorem wr_tup {a : Addr} {o : Obj} {its : Array Value} {n : Nat} {ds : List PyData} (ho : h.get? a = some o) (hc : o.cls = .type "tuple") (hd : o.data = .seq its n) (x : WrAll P w h its.toList ds) : Wr P w h (.ref a) (.tuple ds) := by
  obtain ⟨as, bs, r, m, k⟩ := x
  have e : (PyData.tuple ds).depth = PyData.depthAll ds + 1 := by rw [PyData.depth]
  have rr : Reads h (.ref a) (.tuple ds) _ := .tuple ho hc hd r
  have na := not_mem_of_deeper rr (show PyData.depthAll ds < _ by rw [e]; omega) m
  refine ⟨_, a :: bs, rr, ReadAtMost.cons rr (show PyData.depthAll ds ≤ _ by rw [e]; omega) m, ?_, fun b eb z => ?_⟩
  · rw [e, PyData.shown]
    exact ReprK.tuple ho hc hd na k
  · cases eb
    refine ⟨_, _, F.slot_tuple_repr, F.slot_tuple_str, F.slot_tuple_format, fun s f => ⟨o, f _ _ ho, hc⟩, fun A E s Q g u f q => ?_⟩
    rw [e] at u
    rw [PyData.shown] at q z
    exact call_tuple_reprK ho hc hd na k g (fun b _ => Clear.nil b) u f q z
theorem wr_dic {a : Addr} {o : Obj} {es : Array DictEntry} {n : Nat} {kvs : List (PyData × PyData)} (ns : (a == sysModules) = false) (ho : h.get? a = some o) (hc : o.cls = .type "dict") (hd : o.data = .dict es n)
    (x : WrAll P w h (es.toList.map (·.key)) (kvs.map (·.1))) (y : WrAll P w h (es.toList.map (·.val)) (kvs.map (·.2))) : Wr P w h (.ref a) (.dict kvs) := by
  obtain ⟨as1, bs1, r1, m1, k1⟩ := x
  obtain ⟨as2, bs2, r2, m2, k2⟩ := y
  have e : (PyData.dict kvs).depth = PyData.depthKv kvs + 1 := by rw [PyData.depth]
  have rr : Reads h (.ref a) (.dict kvs) _ := .dict ho hc hd r1 r2
  have l1 := PyData.depthAll_keys_le kvs
  have l2 := PyData.depthAll_vals_le kvs
  have m := (m1.mono l1).append (m2.mono l2)
  have na := not_mem_of_deeper rr (show PyData.depthKv kvs < _ by rw [e]; omega) m
  have K := ReprEntriesK.of_two _ _ _ (k1.more_le (fun _ z => List.mem_append_left bs2 z) l1) (k2.more_le (fun _ z => List.mem_append_right bs1 z) l2)
  refine ⟨_, a :: (bs1 ++ bs2), rr, ReadAtMost.cons rr (show PyData.depthKv kvs ≤ _ by rw [e]; omega) m, ?_, fun b eb z => ?_⟩
  · rw [e, PyData.shown, PyData.shownKv_eq]
    exact ReprK.dict ho hc hd ns na K
  · cases eb
    refine ⟨_, _, F.slot_dict_repr, F.slot_dict_str, F.slot_dict_format, fun s f => ⟨o, f _ _ ho, hc⟩, fun A E s Q g u f q => ?_⟩
    rw [e] at u
    rw [PyData.shown, PyData.shownKv_eq] at q z
    exact call_dict_reprK ho hc hd ns na K g (fun b _ => Clear.nil b) u f q z
end
theorem wr_key {k : Key} {u : Value} {P : Program} {w : World} {h : Heap} (r : RelV (kV k) u) (hs : (kP k).showable = true) (hz : (kP k).shown.length ≤ sizeLine) : Wr P w h u (kP k) := by
  cases k with
  | inl i =>
    obtain ⟨t, rfl⟩ := r
    refine ⟨_, [], Reads.int i t, fun _ m => (by cases m), ?_, fun _ e => (by cases e)⟩
    show ReprK P w [] h _ (.int i t) (PyData.shown (.int i))
    rw [PyData.shown]
    exact .of_is (ReprIs.int t (by simpa [kP, PyData.showable] using hs)) _ _ _
  | inr x =>
    obtain ⟨t, rfl⟩ := r
    refine ⟨_, [], Reads.str x t, fun _ m => (by cases m), ?_, fun _ e => (by cases e)⟩
    show ReprK P w [] h _ (.str x t) (PyData.shown (.str x))
    have hz : (PyData.shown (.str x)).length ≤ sizeLine := hz
    rw [PyData.shown] at hz ⊢
    exact .of_is (ReprIs.str x t hz) _ _ _
theorem all_len {ds : List PyData} {d : PyData} {n : Nat} (h : ∀ t ∈ PyData.shownAll (d :: ds), t.length ≤ n) : d.shown.length ≤ n ∧ ∀ t ∈ PyData.shownAll ds, t.length ≤ n := by
  rw [PyData.shownAll] at h
  exact ⟨h _ List.mem_cons_self, fun t z => h t (List.mem_cons_of_mem _ z)⟩
theorem all_show {ds : List PyData} {d : PyData} (h : PyData.showableAll (d :: ds) = true) : d.showable = true ∧ PyData.showableAll ds = true := by
  rw [PyData.showableAll, Bool.and_eq_true] at h
  exact h
theorem wr_keys {P : Program} {w : World} {h : Heap} : ∀ {ks : List Key} {us : List Value}, Vals (ks.map kV) us → PyData.showableAll (ks.map kP) = true → (∀ t ∈ PyData.shownAll (ks.map kP), t.length ≤ sizeLine) → WrAll P w h us (ks.map kP)
  | [], _, r, _, _ => by
    cases r
    exact wrAll_nil
  | k :: ks, _, r, s, z => by
    cases r with
    | cons r1 r2 =>
      have s' := all_show s
      have z' := all_len z
      exact wrAll_cons (wr_key r1 s'.1 z'.1) (wr_keys r2 s'.2 z'.2)
theorem wr_pk {h : Heap} : ∀ {kvs : List (Key × V)} {vs : List (Key × Value)} {es : List DictEntry}, KV kvs vs → Pairs (mixKind X.prog X.w) es vs → PyData.showableAll (kvs.map fun p => kP p.1) = true → (∀ t ∈ PyData.shownAll (kvs.map fun p => kP p.1), t.length ≤ sizeLine) →
    WrAll X.prog X.w h (es.map (·.key)) (kvs.map fun p => kP p.1)
  | [], _, _, r, p, _, _ => by
    cases r
    cases p
    exact wrAll_nil
  | _ :: _, _, _, r, p, s, z => by
    cases r with
    | cons r1 r2 =>
      cases p with
      | cons p1 p2 p3 =>
        have s' := all_show s
        have z' := all_len z
        refine wrAll_cons (wr_key (is_val (X := X) ?_) s'.1 z'.1) (wr_pk r2 p3 s'.2 z'.2)
        rw [r1.1]
        exact p1
theorem wr_tk (I : Inv X pins σ H s) : ∀ {kvs : List (List Key × V)} {xs : List (List Key × Addr × Value)}, Paired (fun (p : List Key × V) (q : List Key × Addr × Value) => p.1 = q.1 ∧ H q.2.1 = some (.tup (p.1.map kV)) ∧ RelV p.2 q.2.2) kvs xs →
    PyData.showableAll (kvs.map fun p => .tuple (p.1.map kP)) = true → (∀ t ∈ PyData.shownAll (kvs.map fun p => .tuple (p.1.map kP)), t.length ≤ sizeLine) →
    WrAll X.prog X.w s.heap ((xs.map (entryOfKey (tupleKind (mixKind X.prog X.w)))).map (·.key)) (kvs.map fun p => .tuple (p.1.map kP))
  | [], _, r, _, _ => by
    cases r
    exact wrAll_nil
  | p :: ps, _, r, sh, z => by
    cases r with
    | cons r1 r2 =>
      obtain ⟨h1, h2, h3⟩ := r1
      have s' := all_show sh
      have z' := all_len z
      obtain ⟨its, rv, ⟨o, ho, hc, n, hd⟩, _⟩ := I.tuple (.inl (.inl h2))
      have z1 := z'.1
      have s1 := s'.1
      rw [PyData.shown] at z1
      rw [PyData.showable] at s1
      exact wrAll_cons (wr_tup ho hc hd (wr_keys rv s1 fun t ht => Nat.le_trans (tupleText_mem_le ht) z1)) (wr_tk I r2 s'.2 z'.2)
mutual
theorem Dw.wr (I : Inv X pins σ H s) : ∀ {v : V} {d : PyData} {u : Value}, Dw X.K H v d → RelV v u → d.showable = true → d.shown.length ≤ sizeLine → Wr X.prog X.w s.heap u d
  | _, _, _, .non, r, _, _ => by
    cases r
    refine ⟨_, [], Reads.none, fun _ m => (by cases m), ?_, fun _ e => (by cases e)⟩
    rw [PyData.shown]
    exact .of_is ReprIs.none _ _ _
  | _, _, _, .bl b, r, _, _ => by
    cases r
    refine ⟨_, [], Reads.bool b, fun _ m => (by cases m), ?_, fun _ e => (by cases e)⟩
    rw [PyData.shown]
    exact .of_is (ReprIs.bool b) _ _ _
  | _, _, _, .int i, r, hs, hz => wr_key (k := .inl i) r hs hz
  | _, _, _, .str x, r, hs, hz => wr_key (k := .inr x) r hs hz
  | _, _, _, .lst hl ha, r, hs, hz => by
    cases r
    obtain ⟨its, rv, ⟨o, n, ho, hc, _, hd⟩, _⟩ := I.list (.inl (.inl hl))
    rw [PyData.shown] at hz
    rw [PyData.showable] at hs
    exact wr_lst ho hc hd (Dw.wrAll I ha rv hs fun t ht => Nat.le_trans (listText_mem_le ht) hz)
  | _, _, _, .tup hl ha, r, hs, hz => by
    cases r
    obtain ⟨its, rv, ⟨o, ho, hc, n, hd⟩, _⟩ := I.tuple hl
    rw [PyData.shown] at hz
    rw [PyData.showable] at hs
    exact wr_tup ho hc hd (Dw.wrAll I ha rv hs fun t ht => Nat.le_trans (tupleText_mem_le ht) hz)
  | _, _, _, .dK (a := a) (kvs := kvs) (ds := ds) hl ha, r, hs, hz => by
    cases r
    obtain ⟨_, ns, vs, kv, o, es, ep, e1, ⟨e2, e3, _, e4, _⟩⟩ := (show ObjOk X.prog X.w H s.heap a (.dK kvs) from I.hok a _ hl)
    have hl : (kvs.map fun p => kP p.1).length = ds.length := by rw [← ha.len, List.length_map, List.length_map]
    rw [PyData.shown] at hz
    rw [PyData.showable] at hs
    obtain ⟨s1, s2⟩ := PyData.showableKv_split _ hs
    refine wr_dic ns e1 (by first | exact e2.1 | exact e2.cls | exact e2) e3 ?_ ?_
    · have z1 : ∀ t ∈ PyData.shownAll _, t.length ≤ sizeLine := fun t ht => by
        obtain ⟨p, hp, hq⟩ := PyData.shownKv_key_le _ t ht
        exact Nat.le_trans hq (Nat.le_trans (dictText_mem_le hp) hz)
      rw [zip_fst hl] at s1 z1 ⊢
      exact wr_pk kv e4 s1 z1
    · have z1 : ∀ t ∈ PyData.shownAll _, t.length ≤ sizeLine := fun t ht => by
        obtain ⟨p, hp, hq⟩ := PyData.shownKv_val_le _ t ht
        exact Nat.le_trans hq (Nat.le_trans (dictText_mem_le hp) hz)
      rw [zip_snd hl] at s2 z1 ⊢
      exact Dw.wrAll I ha (rd_pv kv e4) s2 z1
  | _, _, _, .dT (a := a) (kvs := kvs) (ds := ds) hl ha, r, hs, hz => by
    cases r
    obtain ⟨_, ns, xs, kv, o, es, ep, e1, e2, e3, e4, _⟩ := (show ObjOk X.prog X.w H s.heap a (.dT kvs) from I.hok a _ hl)
    have hl : (kvs.map fun p => PyData.tuple (p.1.map kP)).length = ds.length := by rw [← ha.len, List.length_map, List.length_map]
    rw [PyData.shown] at hz
    rw [PyData.showable] at hs
    obtain ⟨s1, s2⟩ := PyData.showableKv_split _ hs
    refine wr_dic ns e1 (by first | exact e2.1 | exact e2.cls | exact e2) e3 ?_ ?_
    · have z1 : ∀ t ∈ PyData.shownAll _, t.length ≤ sizeLine := fun t ht => by
        obtain ⟨p, hp, hq⟩ := PyData.shownKv_key_le _ t ht
        exact Nat.le_trans hq (Nat.le_trans (dictText_mem_le hp) hz)
      rw [zip_fst hl] at s1 z1 ⊢
      rw [e4]
      exact wr_tk I kv s1 z1
    · have z1 : ∀ t ∈ PyData.shownAll _, t.length ≤ sizeLine := fun t ht => by
        obtain ⟨p, hp, hq⟩ := PyData.shownKv_val_le _ t ht
        exact Nat.le_trans hq (Nat.le_trans (dictText_mem_le hp) hz)
      rw [zip_snd hl] at s2 z1 ⊢
      rw [e4]
      exact Dw.wrAll I ha (rd_tv (X := X) kv) s2 z1
theorem Dw.wrAll (I : Inv X pins σ H s) : ∀ {vs : List V} {ds : List PyData} {us : List Value}, DwAll X.K H vs ds → Vals vs us → PyData.showableAll ds = true → (∀ t ∈ PyData.shownAll ds, t.length ≤ sizeLine) → WrAll X.prog X.w s.heap us ds
  | _, _, _, .nil, r, _, _ => by
    cases r
    exact wrAll_nil
  | _, _, _, .cons h1 h2, r, hs, hz => by
    cases r with
    | cons r1 r2 =>
      have s' := all_show hs
      have z' := all_len hz
      exact wrAll_cons (Dw.wr I h1 r1 s'.1 z'.1) (Dw.wrAll I h2 r2 s'.2 z'.2)
end
end
def ShowOkW (d : PyData) : Prop := d.showable = true ∧ d.depth ≤ 60 ∧ d.shown.length ≤ 16777216
def rReprW (K : PySem.W.Frag) : List V → Hp → VK → Prop := fun xs H Q => ∃ x d, xs = [x] ∧ Dw K H x d ∧ ShowOkW d ∧ Q (.str d.shown) H
theorem uReprU {X : Cx} (hu : X.A.units + 64 < cLine) (hg : X.A.guards = some []) : CallR X (.builtin "repr") (rReprW X.K) := by
  intro pins s σ H xs us Q I r h
  obtain ⟨x, d, rfl, hd, ⟨s1, s3, s4⟩, q⟩ := h
  obtain ⟨u, rfl, ru⟩ := vals1 r
  have fin : ∀ {d : PyData} {a : Addr}, u = .ref a → Dw X.K H x d → d.showable = true → d.depth ≤ 60 → d.shown.length ≤ 16777216 → Q (.str d.shown) H →
      wpAny (model X.prog X.w) X.A (call (.builtin "repr") [u]) (EP X pins σ Q) X.xe s := by
    intro d a e dw sh hd hz q
    have z : d.shown.length ≤ sizeLine := by rw [sizeLine_eq]; exact hz
    obtain ⟨_, _, _, _, _, sb⟩ := Dw.wr I dw ru sh z
    obtain ⟨T, i, S⟩ := sb a e z
    subst e
    refine call_repr_slot (by omega) (S.typeIs s fun _ _ e => e) S.slotRepr (S.call X.A.in1 X.xe s _ hg ?_ (fun _ _ e => e) fun h' t tk k => ⟨_, _, rfl, ⟨.str d.shown, H, I.kept k, ⟨_, rfl⟩, q⟩⟩)
    show X.A.units + 1 + d.depth < cLine
    omega
  have hd' := hd
  cases hd with
  | non =>
    cases (show u = Value.none from ru)
    exact PySem.P.repr_of_none ⟨.str _, H, I.tok _, ⟨_, rfl⟩, q⟩
  | bl b =>
    cases (show u = Value.bool b from ru)
    refine PySem.P.repr_of_bool ⟨.str _, H, I.tok _, ⟨_, rfl⟩, ?_⟩
    first | exact q | (cases b <;> exact q)
  | int i =>
    obtain ⟨t, rfl⟩ := ru
    refine PySem.P.repr_of_int (by simpa [PyData.showable] using s1) ⟨.str _, H, I.tok _, ⟨_, rfl⟩, q⟩
  | str y =>
    obtain ⟨t, rfl⟩ := ru
    exact PySem.P.repr_of_str ⟨.str _, H, I.tok _, ⟨_, rfl⟩, q⟩ (by rw [sizeLine_eq]; exact s4)
  | lst h1 h2 =>
    exact fin (show u = Value.ref _ from ru) hd' s1 s3 s4 q
  | tup h1 h2 =>
    exact fin (show u = Value.ref _ from ru) hd' s1 s3 s4 q
  | dK h1 h2 =>
    exact fin (show u = Value.ref _ from ru) hd' s1 s3 s4 q
  | dT h1 h2 =>
    exact fin (show u = Value.ref _ from ru) hd' s1 s3 s4 q
theorem uReprW {X : Cx} {k : Nat} (hr : Room k X.A) (hg : X.A.guards = some []) : CallR X (.builtin "repr") (rReprW X.K) := uReprU (by have := hr.un; omega) hg
theorem kReprW (K : PySem.W.Frag) {X : Cx} {k : Nat} (h : X.K = K) (hr : Room k X.A) (hg : X.A.guards = some []) : CallR X (.builtin "repr") (rReprW K) := h ▸ uReprW hr hg
/-- in an except suite -/
theorem kReprS (K : PySem.W.Frag) {X : Cx} {a : Addr} {pn : List (Addr × Obj)} {k : Nat} (h : X.K = K) (hr : Room k X.A) (hg : X.A.guards = some []) : CallR (X.suite a pn) (.builtin "repr") (rReprW K) := h ▸ uReprU (X := X.suite a pn) (by have := hr.un; show X.A.units + 64 < cLine; omega) hg
theorem kEqS (K : PySem.W.Frag) {X : Cx} {a : Addr} {pn : List (Addr × Obj)} {k : Nat} (h : X.K = K) (hr : Room k X.A) : OpR (X.suite a pn) (compareOp .Eq) (rEqU K) := h ▸ op_eq.or (op_eqD (X := X.suite a pn) hr.units)
theorem kNeS (K : PySem.W.Frag) {X : Cx} {a : Addr} {pn : List (Addr × Obj)} {k : Nat} (h : X.K = K) (hr : Room k X.A) : OpR (X.suite a pn) (compareOp .NotEq) (rNeU K) := h ▸ op_ne.or (op_neD (X := X.suite a pn) hr.units)
end SL
set_option Elab.async false
set_option linter.all false
set_option maxRecDepth 100000
set_option maxHeartbeats 4000000
/-! SlEq: a dict beside a text. -/
namespace SL
open PySem PySem.Spec PyProof.Rows L2
open PySem.AutoSeq1 (wpAny_loadPart')
open PySem.MeetsSeq
theorem dict_eq_str (l : Addr) (es : Array DictEntry) (n : Nat) (dd : Option Addr) (sl : Array (Option Value)) (b : Str) (u : Tok) :
    Meets (Builtin.«dict.__eq__» ⟨[.ref l, .str b u], []⟩) (fun _ R s => s.heap.get? l = some { cls := .type "dict", dict := dd, data := .dict es n, slots := sl } ∧ R (.ok (.ret .notImplemented)) s) :=
  .of_wp fun prog w A R s h => by
    obtain ⟨hp, g, d, tk, os⟩ := s
    obtain ⟨hl, h⟩ := h
    have f1 := F.sub_str_dict
    wp_walk using wpAny_loadPart' hl, wpAny_load hl
    exact ⟨_, rfl, h⟩
theorem str_eq_dict (b : Str) (u : Tok) (l : Addr) (c : Value) (es : Array DictEntry) (n : Nat) (dd : Option Addr) (sl : Array (Option Value)) :
    Meets (Builtin.«str.__eq__» ⟨[.str b u, .ref l], []⟩) (fun _ R s => s.heap.get? l = some { cls := c, dict := dd, data := .dict es n, slots := sl } ∧ R (.ok (.ret .notImplemented)) s) :=
  .of_wp fun prog w A R s h => by
    obtain ⟨hp, g, d, tk, os⟩ := s
    obtain ⟨hl, h⟩ := h
    wp_walk using wpAny_loadPart' hl, wpAny_load hl
    exact ⟨_, rfl, h⟩
theorem dict_ne_str (l : Addr) (es : Array DictEntry) (n : Nat) (dd : Option Addr) (sl : Array (Option Value)) (b : Str) (u : Tok) :
    Meets (Builtin.«dict.__ne__» ⟨[.ref l, .str b u], []⟩) (fun _ R s => s.heap.get? l = some { cls := .type "dict", dict := dd, data := .dict es n, slots := sl } ∧ R (.ok (.ret .notImplemented)) s) :=
  .of_wp fun prog w A R s h => by
    obtain ⟨hp, g, d, tk, os⟩ := s
    obtain ⟨hl, h⟩ := h
    have f1 := F.sub_str_dict
    wp_walk using wpAny_loadPart' hl, wpAny_load hl
    exact ⟨_, rfl, h⟩
theorem str_ne_dict (b : Str) (u : Tok) (l : Addr) (c : Value) (es : Array DictEntry) (n : Nat) (dd : Option Addr) (sl : Array (Option Value)) :
    Meets (Builtin.«str.__ne__» ⟨[.str b u, .ref l], []⟩) (fun _ R s => s.heap.get? l = some { cls := c, dict := dd, data := .dict es n, slots := sl } ∧ R (.ok (.ret .notImplemented)) s) :=
  .of_wp fun prog w A R s h => by
    obtain ⟨hp, g, d, tk, os⟩ := s
    obtain ⟨hl, h⟩ := h
    wp_walk using wpAny_loadPart' hl, wpAny_load hl
    exact ⟨_, rfl, h⟩
def IsDc (H : Hp) (a : Addr) : Prop := (∃ kvs, H a = some (.dK kvs)) ∨ ∃ kvs, H a = some (.dT kvs)
def rEqDS : R2 := fun x y H Q => ∃ a z, x = .ref a ∧ y = .str z ∧ IsDc H a ∧ Q (.bl false) H
def rNeDS : R2 := fun x y H Q => ∃ a z, x = .ref a ∧ y = .str z ∧ IsDc H a ∧ Q (.bl true) H
theorem dc_obj {X : Cx} {pins : List (Addr × Obj)} {σ : L2.St} {H : Hp} {s : Shared} {a : Addr} (I : Inv X pins σ H s) (h : IsDc H a) : ∃ es n dd sl, s.heap.get? a = some { cls := .type "dict", dict := dd, data := .dict es n, slots := sl } := by
  rcases h with ⟨kvs, h⟩ | ⟨kvs, h⟩
  · obtain ⟨_, _, vs, kv, o, es, ep, e1, ⟨e2, e3, _⟩⟩ := (show ObjOk X.prog X.w H s.heap a (.dK kvs) from I.hok a _ h)
    obtain ⟨cls, dd, data, sl⟩ := o
    have hc : cls = .type "dict" := by first | exact e2.1 | exact e2.cls | exact e2
    have hd : data = .dict es ep := e3
    subst hc
    subst hd
    exact ⟨es, ep, dd, sl, e1⟩
  · obtain ⟨_, _, xs, kv, o, es, ep, e1, e2, e3, _⟩ := (show ObjOk X.prog X.w H s.heap a (.dT kvs) from I.hok a _ h)
    obtain ⟨cls, dd, data, sl⟩ := o
    have hc : cls = .type "dict" := by first | exact e2.1 | exact e2.cls | exact e2
    have hd : data = .dict es ep := e3
    subst hc
    subst hd
    exact ⟨es, ep, dd, sl, e1⟩
theorem op_eqDS {X : Cx} (hu : X.A.units < cLine) : OpR X (compareOp .Eq) rEqDS := by
  intro pins s σ H x y v u Q I rx ry h
  obtain ⟨a, z, rfl, rfl, hd, q⟩ := h
  cases (show v = Value.ref a from rx)
  obtain ⟨t, rfl⟩ := ry
  obtain ⟨es, n, dd, sl, ho⟩ := dc_obj I hd
  have k : EP X pins σ Q (.bool false) s := ⟨.bl false, H, I, rfl, q⟩
  refine SeqAt.rc_eq_decline_or (k := false) ⟨_, ho, rfl⟩ (typeIs_str s z t) (by decide) F.sub_str_dict F.slot_dict_eq F.slot_str_eq_refl ?_ ?_ ?_ (.inr hu) k
  · exact fun _ hq => call_meets F.slot_dict_eq ⟨_, ho, rfl⟩ F.entry_dict_eq (F.args_dict_eq_2 _ _) (dict_eq_str a es n dd sl z t) ⟨ho, hq⟩
  · exact fun _ hq => call_meets F.slot_str_eq_refl (typeIs_str s z t) F.entry_str_eq (F.args_str_eq_2 _ _) (str_eq_dict z t a (.type "dict") es n dd sl) ⟨ho, hq⟩
  · exact fun _ hq => wpAny_of_eq (rfl : isSame (.ref a) (.str z t) = pure false) hq
theorem op_neDS {X : Cx} (hu : X.A.units < cLine) : OpR X (compareOp .NotEq) rNeDS := by
  intro pins s σ H x y v u Q I rx ry h
  obtain ⟨a, z, rfl, rfl, hd, q⟩ := h
  cases (show v = Value.ref a from rx)
  obtain ⟨t, rfl⟩ := ry
  obtain ⟨es, n, dd, sl, ho⟩ := dc_obj I hd
  have k : EP X pins σ Q (.bool true) s := ⟨.bl true, H, I, rfl, q⟩
  refine SeqAt.rc_ne_decline_or (k := false) ⟨_, ho, rfl⟩ (typeIs_str s z t) (by decide) F.sub_str_dict F.slot_dict_ne F.slot_str_ne_refl ?_ ?_ ?_ (.inr hu) k
  · exact fun _ hq => call_meets F.slot_dict_ne ⟨_, ho, rfl⟩ F.entry_dict_ne (F.args_dict_ne_2 _ _) (dict_ne_str a es n dd sl z t) ⟨ho, hq⟩
  · exact fun _ hq => call_meets F.slot_str_ne_refl (typeIs_str s z t) F.entry_str_ne (F.args_str_ne_2 _ _) (str_ne_dict z t a (.type "dict") es n dd sl) ⟨ho, hq⟩
  · exact fun _ hq => wpAny_of_eq (rfl : isSame (.ref a) (.str z t) = pure false) hq
def rEqM (K : PySem.W.Frag) : R2 := fun x y H Q => rEqU K x y H Q ∨ rEqDS x y H Q
def rNeM (K : PySem.W.Frag) : R2 := fun x y H Q => rNeU K x y H Q ∨ rNeDS x y H Q
theorem kEqM (K : PySem.W.Frag) {X : Cx} {k : Nat} (h : X.K = K) (hr : Room k X.A) : OpR X (compareOp .Eq) (rEqM K) := h ▸ (uEq hr).or (op_eqDS hr.units0)
theorem kNeM (K : PySem.W.Frag) {X : Cx} {k : Nat} (h : X.K = K) (hr : Room k X.A) : OpR X (compareOp .NotEq) (rNeM K) := h ▸ (uNe hr).or (op_neDS hr.units0)
theorem kEqMS (K : PySem.W.Frag) {X : Cx} {a : Addr} {pn : List (Addr × Obj)} {k : Nat} (h : X.K = K) (hr : Room k X.A) : OpR (X.suite a pn) (compareOp .Eq) (rEqM K) := h ▸ (op_eq.or (op_eqD (X := X.suite a pn) hr.units)).or (op_eqDS (X := X.suite a pn) hr.units0)
theorem kNeMS (K : PySem.W.Frag) {X : Cx} {a : Addr} {pn : List (Addr × Obj)} {k : Nat} (h : X.K = K) (hr : Room k X.A) : OpR (X.suite a pn) (compareOp .NotEq) (rNeM K) := h ▸ (op_ne.or (op_neD (X := X.suite a pn) hr.units)).or (op_neDS (X := X.suite a pn) hr.units0)
end SL
set_option Elab.async false
set_option linter.all false
set_option maxHeartbeats 1000000
/-! Wd: lags behind words. Plain Lean. -/
namespace Wd
/-- the lag behind two texts -/
def bh (x y : List Nat) : Option (List Nat × List Nat) := if x.take y.length = y then some (x.drop y.length, []) else if y.take x.length = x then some ([], y.drop x.length) else none
theorem take_app (c x : List Nat) (n : Nat) : (c ++ x).take (c.length + n) = c ++ x.take n := by
  induction c with
  | nil => simp
  | cons a c ih => rw [List.cons_append, List.length_cons, show c.length + 1 + n = (c.length + n) + 1 by omega, List.take_succ_cons, ih, List.cons_append]
theorem drop_app (c x : List Nat) (n : Nat) : (c ++ x).drop (c.length + n) = x.drop n := by
  induction c with
  | nil => simp
  | cons a c ih => rw [List.cons_append, List.length_cons, show c.length + 1 + n = (c.length + n) + 1 by omega, List.drop_succ_cons, ih]
theorem bh_app (c x y : List Nat) : bh (c ++ x) (c ++ y) = bh x y := by
  unfold bh
  rw [List.length_append, List.length_append, take_app, take_app, drop_app, drop_app]
  simp only [List.append_cancel_left_eq]
theorem bh_some {x y u v : List Nat} (h : bh x y = some (u, v)) : ∃ c, x = c ++ u ∧ y = c ++ v ∧ (u = [] ∨ v = []) := by
  unfold bh at h
  by_cases h1 : x.take y.length = y
  · rw [if_pos h1] at h
    cases h
    exact ⟨y, by have := List.take_append_drop y.length x; rw [h1] at this; exact this.symm, by simp, .inr rfl⟩
  · rw [if_neg h1] at h
    by_cases h2 : y.take x.length = x
    · rw [if_pos h2] at h
      cases h
      exact ⟨x, by simp, by have := List.take_append_drop x.length y; rw [h2] at this; exact this.symm, .inl rfl⟩
    · rw [if_neg h2] at h
      cases h
theorem bh_more {x y u v : List Nat} (a b : List Nat) (h : bh x y = some (u, v)) : bh (x ++ a) (y ++ b) = bh (u ++ a) (v ++ b) := by
  obtain ⟨c, rfl, rfl, _⟩ := bh_some h
  rw [List.append_assoc, List.append_assoc, bh_app]
theorem bh_turn (x y : List Nat) : bh y x = (bh x y).map fun p => (p.2, p.1) := by
  unfold bh
  by_cases h1 : x.take y.length = y
  · by_cases h2 : y.take x.length = x
    · have l1 := congrArg List.length h1
      have l2 := congrArg List.length h2
      rw [List.length_take] at l1 l2
      have e : x.length = y.length := by omega
      rw [if_pos h2, if_pos h1]
      have d1 : y.drop x.length = [] := List.drop_of_length_le (by omega)
      have d2 : x.drop y.length = [] := List.drop_of_length_le (by omega)
      simp [d1, d2]
    · rw [if_neg h2, if_pos h1, if_pos h1]
      rfl
  · by_cases h2 : y.take x.length = x
    · rw [if_pos h2, if_neg h1, if_pos h2]
      rfl
    · rw [if_neg h2, if_neg h1, if_neg h1, if_neg h2]
      rfl
theorem bh_len {x y u v : List Nat} (h : bh x y = some (u, v)) : u.length ≤ x.length ∧ v.length ≤ y.length := by
  obtain ⟨c, rfl, rfl, _⟩ := bh_some h
  simp
end Wd
set_option Elab.async false
set_option linter.all false
set_option maxHeartbeats 1000000
/-! Rot: texts written round and round, their periods and roots. Plain Lean. -/
namespace Rt
/-- the letter at i of the text written again and again -/
def cy (w : List Nat) (i : Nat) : Nat := w.getD (i % w.length) 0
theorem cy_lt {w : List Nat} {i : Nat} (h : i < w.length) : cy w i = w.getD i 0 := by unfold cy; rw [Nat.mod_eq_of_lt h]
theorem eq_of_cy {u v : List Nat} (h : u.length = v.length) (e : ∀ i, i < u.length → cy u i = cy v i) : u = v := by
  apply List.ext_getElem h
  intro i h1 h2
  have := e i h1
  rw [cy_lt h1, cy_lt h2] at this
  simpa [List.getD_eq_getElem?_getD, h1, h2] using this
theorem cy_add (w : List Nat) (i k : Nat) : cy w (i + w.length * k) = cy w i := by unfold cy; rw [Nat.add_mul_mod_self_left]
theorem cy_len (w : List Nat) (i : Nat) : cy w (i + w.length) = cy w i := by unfold cy; rw [Nat.add_mod_right]
def rot (k : Nat) (w : List Nat) : List Nat := w.drop k ++ w.take k
theorem rot_len {w : List Nat} {k : Nat} (hk : k ≤ w.length) : (rot k w).length = w.length := by
  unfold rot
  rw [List.length_append, List.length_drop, List.length_take]
  omega
theorem rot_cy {w : List Nat} {k : Nat} (hn : 0 < w.length) (hk : k ≤ w.length) (i : Nat) : cy (rot k w) i = cy w (i + k) := by
  unfold cy
  rw [rot_len hk]
  have hj : i % w.length < w.length := Nat.mod_lt _ hn
  have e : (i + k) % w.length = (i % w.length + k) % w.length := by rw [Nat.mod_add_mod]
  rw [e]
  generalize i % w.length = j at hj
  unfold rot
  rw [List.getD_eq_getElem?_getD, List.getD_eq_getElem?_getD, List.getElem?_append]
  by_cases h : j < w.length - k
  · rw [if_pos (by rw [List.length_drop]; exact h), List.getElem?_drop, Nat.mod_eq_of_lt (by omega), Nat.add_comm k j]
  · rw [if_neg (by rw [List.length_drop]; exact h), List.length_drop, List.getElem?_take, if_pos (by omega)]
    have e2 : (j + k) % w.length = j - (w.length - k) := by
      rw [Nat.mod_eq_sub_mod (by omega), Nat.mod_eq_of_lt (by omega)]
      omega
    rw [e2]
/-- after k letters it goes on as from the start -/
def Per (w : List Nat) (k : Nat) : Prop := ∀ i, cy w (i + k) = cy w i
theorem per_len (w : List Nat) : Per w w.length := cy_len w
theorem per_0 (w : List Nat) : Per w 0 := fun _ => rfl
theorem Per.add {w : List Nat} {a b : Nat} (h : Per w a) (k : Per w b) : Per w (a + b) := fun i => by rw [← Nat.add_assoc, k, h]
theorem Per.mul {w : List Nat} {a : Nat} (h : Per w a) : ∀ q, Per w (a * q)
  | 0 => per_0 w
  | q + 1 => by rw [Nat.mul_succ]; exact (h.mul q).add h
theorem Per.sub {w : List Nat} {a b : Nat} (h : Per w a) (k : Per w b) (l : b ≤ a) : Per w (a - b) := fun i => by
  rw [← k (i + (a - b)), show i + (a - b) + b = i + a by omega, h]
theorem Per.mod {w : List Nat} {a b : Nat} (h : Per w a) (k : Per w b) : Per w (a % b) := by
  have e : a % b = a - b * (a / b) := by have := Nat.div_add_mod a b; omega
  rw [e]
  exact h.sub (k.mul _) (Nat.mul_div_le a b)
theorem rot_fix {w : List Nat} {k : Nat} (hn : 0 < w.length) (hk : k ≤ w.length) : rot k w = w ↔ Per w k := by
  constructor
  · intro h i
    rw [← rot_cy hn hk, h]
  · intro h
    exact eq_of_cy (rot_len hk) fun i _ => by rw [rot_cy hn hk, h]
theorem least {P : Nat → Prop} {n : Nat} (h : P n) : ∃ m, m ≤ n ∧ P m ∧ ∀ k, k < m → ¬ P k := by
  induction n using Nat.strongRecOn with
  | ind n ih =>
    by_cases e : ∃ k, k < n ∧ P k
    · obtain ⟨k, h1, h2⟩ := e
      obtain ⟨m, m1, m2, m3⟩ := ih k h1 h2
      exact ⟨m, by omega, m2, m3⟩
    · exact ⟨n, Nat.le_refl _, h, fun k hk hp => e ⟨k, hk, hp⟩⟩
/-- r is the length of w's root -/
structure IsR (w : List Nat) (r : Nat) : Prop where
  pos : 0 < r
  le : r ≤ w.length
  per : Per w r
  dvd : ∀ k, Per w k → r ∣ k
theorem IsR.uniq {w : List Nat} {r s : Nat} (h : IsR w r) (k : IsR w s) : r = s := Nat.dvd_antisymm (h.dvd _ k.per) (k.dvd _ h.per)
theorem isR_of {w : List Nat} {r : Nat} (h0 : 0 < r) (h1 : r ≤ w.length) (h2 : Per w r) (h3 : ∀ k, 0 < k → k < r → ¬ Per w k) : IsR w r :=
  ⟨h0, h1, h2, fun k hk => by
    have h4 := hk.mod h2
    by_cases e : k % r = 0
    · exact Nat.dvd_of_mod_eq_zero e
    · exact absurd h4 (h3 _ (by omega) (Nat.mod_lt _ h0))⟩
theorem exR (w : List Nat) (hn : 0 < w.length) : ∃ r, IsR w r := by
  obtain ⟨m, h1, h2, h3⟩ := least (P := fun k => 0 < k ∧ Per w k) (n := w.length) ⟨hn, per_len w⟩
  exact ⟨m, isR_of h2.1 h1 h2.2 fun k k0 km hp => h3 k km ⟨k0, hp⟩⟩
theorem IsR.min {w : List Nat} {r : Nat} (h : IsR w r) {k : Nat} (k0 : 0 < k) (hk : Per w k) : r ≤ k := Nat.le_of_dvd k0 (h.dvd k hk)
/-! rounds of a piece -/
def rds (q : Nat) (p : List Nat) : List Nat := (List.replicate q p).flatten
theorem rds_len (q : Nat) (p : List Nat) : (rds q p).length = q * p.length := SL.rep_len q p
theorem rds_succ (q : Nat) (p : List Nat) : rds (q + 1) p = p ++ rds q p := by unfold rds; rw [List.replicate_succ, List.flatten_cons]
theorem rds_at (p : List Nat) : ∀ (q i : Nat), i < q * p.length → (rds q p).getD i 0 = p.getD (i % p.length) 0
  | 0, i, h => by omega
  | q + 1, i, h => by
    rw [rds_succ]
    rw [List.getD_eq_getElem?_getD, List.getElem?_append]
    by_cases e : i < p.length
    · rw [if_pos e, ← List.getD_eq_getElem?_getD, Nat.mod_eq_of_lt e]
    · rw [if_neg e, ← List.getD_eq_getElem?_getD, rds_at p q (i - p.length) (by rw [Nat.succ_mul] at h; omega), Nat.mod_eq_sub_mod (a := i) (by omega)]
theorem rds_cy {p : List Nat} {q : Nat} (hq : 0 < q) (hp : 0 < p.length) (i : Nat) : cy (rds q p) i = cy p i := by
  have hz : 0 < q * p.length := Nat.mul_pos hq hp
  show (rds q p).getD (i % (rds q p).length) 0 = _
  rw [rds_len, rds_at p q _ (Nat.mod_lt _ hz)]
  unfold cy
  rw [Nat.mod_mul_left_mod]
theorem take_cy {w : List Nat} {r : Nat} (h0 : 0 < r) (hr : r ≤ w.length) (h : Per w r) (i : Nat) : cy (w.take r) i = cy w i := by
  have e : (w.take r).length = r := by rw [List.length_take]; omega
  have hj : i % r < r := Nat.mod_lt _ h0
  have h1 : cy w i = cy w (i % r) := by
    have := (h.mul (i / r)) (i % r)
    rw [← this, Nat.mod_add_div]
  have h2 : cy w (i % r) = w.getD (i % r) 0 := cy_lt (Nat.lt_of_lt_of_le hj hr)
  rw [h1, h2]
  unfold cy
  rw [e, List.getD_eq_getElem?_getD, List.getD_eq_getElem?_getD, List.getElem?_take, if_pos hj]
/-- a part of the text is its rounds, just where this part is a period that divides the length -/
theorem rounds_iff {w : List Nat} {s : Nat} (hs : 0 < s) (hn : 0 < w.length) (hd : s ∣ w.length) : rds (w.length / s) (w.take s) = w ↔ Per w s := by
  have hle : s ≤ w.length := Nat.le_of_dvd hn hd
  have ht : (w.take s).length = s := by rw [List.length_take]; omega
  have hq : 0 < w.length / s := Nat.div_pos hle hs
  constructor
  · intro h i
    rw [← h, rds_cy hq (by omega), rds_cy hq (by omega)]
    have := cy_len (w.take s) i
    rw [ht] at this
    exact this
  · intro h
    refine eq_of_cy ?_ fun i _ => ?_
    · rw [rds_len, ht]
      exact Nat.div_mul_cancel hd
    · rw [rds_cy hq (by omega), take_cy hs hle h]
theorem IsR.rounds {w : List Nat} {r : Nat} (h : IsR w r) : rds (w.length / r) (w.take r) = w :=
  (rounds_iff h.pos (Nat.lt_of_lt_of_le h.pos h.le) (h.dvd _ (per_len w))).mpr h.per
/-- the law's root: the least size that divides the length and of which the text is rounds -/
theorem root_first {w : List Nat} {r : Nat} (h : IsR w r) : w.length % r = 0 ∧ rds (w.length / r) (w.take r) = w ∧ ∀ s, 0 < s → s < r → ¬ (w.length % s = 0 ∧ rds (w.length / s) (w.take s) = w) := by
  have hn : 0 < w.length := Nat.lt_of_lt_of_le h.pos h.le
  refine ⟨Nat.mod_eq_zero_of_dvd (h.dvd _ (per_len w)), h.rounds, fun s s0 sr ⟨h1, h2⟩ => ?_⟩
  have hp := (rounds_iff s0 hn (Nat.dvd_of_mod_eq_zero h1)).mp h2
  have := h.min s0 hp
  omega
/-! turns -/
/-- one, turned by k, is other -/
def Trn (u v : List Nat) (k : Nat) : Prop := ∀ i, cy u (i + k) = cy v i
theorem trn_iff {u v : List Nat} {k : Nat} (hn : 0 < u.length) (hk : k ≤ u.length) (e : u.length = v.length) : rot k u = v ↔ Trn u v k := by
  constructor
  · intro h i
    rw [← h, rot_cy hn hk]
  · intro h
    exact eq_of_cy (by rw [rot_len hk, e]) fun i _ => by rw [rot_cy hn hk, h]
theorem Trn.sub {u v : List Nat} {k s : Nat} (h : Trn u v k) (p : Per u s) (l : s ≤ k) : Trn u v (k - s) := fun i => by
  rw [← h i, ← p (i + (k - s)), show i + (k - s) + s = i + k by omega]
theorem Trn.add {u v : List Nat} {k s : Nat} (h : Trn u v k) (p : Per u s) : Trn u v (k + s) := fun i => by
  rw [← h i, ← p (i + k), Nat.add_assoc]
theorem Trn.mod {u v : List Nat} {k s : Nat} (h : Trn u v k) (p : Per u s) : Trn u v (k % s) := by
  have e : k % s = k - s * (k / s) := by have := Nat.div_add_mod k s; omega
  rw [e]
  exact h.sub (p.mul _) (Nat.mul_div_le k s)
theorem Trn.diff {u v : List Nat} {k j : Nat} (h : Trn u v k) (g : Trn u v j) (l : j ≤ k) (n : ∃ q, k ≤ u.length * q) : Per u (k - j) := fun i => by
  -- from i on: i stands j behind some place
  obtain ⟨q, hq⟩ := n
  have e1 : cy u i = cy u (i + u.length * q) := (cy_add u i q).symm
  have e2 : cy u (i + (k - j)) = cy u (i + (k - j) + u.length * q) := (cy_add u _ q).symm
  rw [e1, e2]
  have a1 : i + u.length * q = (i + u.length * q - j) + j := by omega
  have a2 : i + (k - j) + u.length * q = (i + u.length * q - j) + k := by omega
  rw [a1, a2, h, g]
theorem trn_same {u v : List Nat} {r k j : Nat} (hr : IsR u r) (h : Trn u v k) (g : Trn u v j) (hk : k < r) (hj : j < r) : k = j := by
  have hn : 0 < u.length := Nat.lt_of_lt_of_le hr.pos hr.le
  rcases Nat.le_total j k with l | l
  · have p := h.diff g l ⟨1, by have := hr.le; omega⟩
    have d := hr.dvd _ p
    have := Nat.eq_zero_of_dvd_of_lt d (by omega)
    omega
  · have p := g.diff h l ⟨1, by have := hr.le; omega⟩
    have d := hr.dvd _ p
    have := Nat.eq_zero_of_dvd_of_lt d (by omega)
    omega
end Rt
set_option Elab.async false
set_option linter.all false
set_option maxRecDepth 100000
set_option maxHeartbeats 4000000
/-! SlQ: find on texts, list of a text, pop, index, isinstance of a caught error, a dict of one entry and its repr. -/
namespace SL
open PySem PySem.Spec PyProof.Rows L2 Rt
/-! ### find -/
def rFindU : V → List V → Hp → VK → Prop := fun x xs H Q => ∃ a b, x = .str a ∧ xs = [.str b] ∧ Q (.int (Txt.find a b)) H
theorem uFind {X : Cx} : MtR X "str.find" rFindU := mt_find
def rFind3U : V → List V → Hp → VK → Prop := fun x xs H Q => ∃ (a b : Str) (i : Int), x = .str a ∧ xs = [.str b, .int i] ∧ Q (.int (Txt.find3 a b i)) H
theorem uFind3 {X : Cx} : MtR X "str.find" rFind3U := mt_find3
theorem at_iff (l m : List Nat) (i : Nat) : StrLaws.At (tx l) (tx m) (tx l).length i ↔ i + m.length ≤ l.length ∧ (l.drop i).take m.length = m := by
  unfold StrLaws.At
  rw [StrLaws.subAt_eq, tx_len, tx_len]
  constructor
  · rintro ⟨h1, h2⟩
    exact ⟨h1, by simpa using h2⟩
  · rintro ⟨h1, h2⟩
    exact ⟨h1, by simpa using h2⟩
theorem find3_is (l m : List Nat) (lo : Nat) : (Txt.find3 (tx l) (tx m) (lo : Int) = -1 ∧ ∀ i, lo ≤ i → ¬ (i + m.length ≤ l.length ∧ (l.drop i).take m.length = m)) ∨
    ∃ i : Nat, Txt.find3 (tx l) (tx m) (lo : Int) = (i : Int) ∧ lo ≤ i ∧ (i + m.length ≤ l.length ∧ (l.drop i).take m.length = m) ∧ ∀ k, lo ≤ k → k < i → ¬ (k + m.length ≤ l.length ∧ (l.drop k).take m.length = m) := by
  have e : PySem.fromIndex (tx l).length (lo : Int) = lo := by
    unfold PySem.fromIndex
    rw [if_neg (by omega)]
    omega
  unfold Txt.find3
  rw [e]
  rcases StrLaws.occ_head_from (tx l) (tx m) lo 1 (Nat.le_refl 1) with ⟨h0, hn⟩ | ⟨i, r, h0, h1, h2, h3⟩
  · rw [h0]
    exact .inl ⟨rfl, fun i hi h => hn i hi ((at_iff l m i).mpr h)⟩
  · rw [h0]
    exact .inr ⟨i, rfl, h1, (at_iff l m i).mp h2, fun k k1 k2 h => h3 k k1 k2 ((at_iff l m k).mpr h)⟩
theorem find_is (l m : List Nat) : (Txt.find (tx l) (tx m) = -1 ∧ ∀ i, ¬ (i + m.length ≤ l.length ∧ (l.drop i).take m.length = m)) ∨
    ∃ i : Nat, Txt.find (tx l) (tx m) = (i : Int) ∧ (i + m.length ≤ l.length ∧ (l.drop i).take m.length = m) ∧ ∀ k, k < i → ¬ (k + m.length ≤ l.length ∧ (l.drop k).take m.length = m) := by
  rw [find_is_find3]
  rcases find3_is l m 0 with ⟨h1, h2⟩ | ⟨i, h1, h2, h3, h4⟩
  · exact .inl ⟨h1, fun i => h2 i (Nat.zero_le _)⟩
  · exact .inr ⟨i, h1, h3, fun k => h4 k (Nat.zero_le _)⟩
/-- a part of the text written twice -/
theorem twice_part {u : List Nat} {i : Nat} (hi : i ≤ u.length) : ((u ++ u).drop i).take u.length = rot i u := by
  unfold rot
  rw [List.drop_append_of_le_length hi, List.take_append, List.length_drop]
  rw [List.take_of_length_le (by rw [List.length_drop]; omega)]
  congr 2
  omega
/-- where the text is found again in itself written twice -/
theorem find_root {w : List Nat} (hn : 0 < w.length) : ∃ r : Nat, Txt.find3 (tx (w ++ w)) (tx w) 1 = (r : Int) ∧ IsR w r := by
  have zz : (w ++ w).length = w.length + w.length := List.length_append
  rcases find3_is (w ++ w) w 1 with ⟨h1, h2⟩ | ⟨i, h1, h2, ⟨h3, h4⟩, h5⟩
  · exact absurd ⟨by omega, by rw [twice_part (Nat.le_refl _)]; exact (rot_fix hn (Nat.le_refl _)).mpr (per_len w)⟩ (h2 w.length hn)
  · have hi : i ≤ w.length := by omega
    rw [twice_part hi] at h4
    refine ⟨i, h1, isR_of h2 hi ((rot_fix hn hi).mp h4) fun k k0 ki hp => ?_⟩
    exact h5 k k0 ki ⟨by omega, by rw [twice_part (by omega)]; exact (rot_fix hn (by omega)).mpr hp⟩
/-- the number of a turn -/
theorem find_turn {u v : List Nat} (hn : 0 < u.length) (e : u.length = v.length) : (Txt.find (tx (u ++ u)) (tx v) = -1 ∧ ∀ k, ¬ Trn u v k) ∨ ∃ i : Nat, Txt.find (tx (u ++ u)) (tx v) = (i : Int) ∧ Trn u v i ∧ ∀ r, IsR u r → i < r := by
  have zz : (u ++ u).length = u.length + u.length := List.length_append
  rcases find_is (u ++ u) v with ⟨h1, h2⟩ | ⟨i, h1, ⟨h3, h4⟩, h5⟩
  · refine .inl ⟨h1, fun k hk => ?_⟩
    have hm := hk.mod (per_len u)
    have hl : k % u.length < u.length := Nat.mod_lt _ hn
    exact h2 (k % u.length) ⟨by omega, by rw [← e, twice_part (by omega)]; exact (trn_iff hn (by omega) e).mpr hm⟩
  · have hi : i ≤ u.length := by omega
    rw [← e, twice_part hi] at h4
    have ht := (trn_iff hn hi e).mp h4
    refine .inr ⟨i, h1, ht, fun r hr => ?_⟩
    by_cases hc : i < r
    · exact hc
    · have := ht.sub hr.per (by omega)
      have hp := hr.pos
      exact absurd ⟨by omega, by rw [← e, twice_part (by omega)]; exact (trn_iff hn (by omega) e).mpr this⟩ (h5 (i - r) (by omega))
theorem find_nil : Txt.find (tx ([] ++ [])) (tx []) = 0 := by
  rcases find_is ([] ++ []) [] with ⟨h1, h2⟩ | ⟨i, h1, h2, h3⟩
  · exact absurd ⟨by simp, by simp⟩ (h2 0)
  · have : i = 0 := by have := h2.1; simp at this; exact this
    rw [h1, this]
    rfl
/-! ### list of a text -/
def rListS : List V → Hp → VK → Prop := fun xs H Q => ∃ l : List Nat, xs = [.str (tx l)] ∧ l.length ≤ 16777216 ∧ ∀ q, H q = none → Q (.ref q) (upd H q (.lst (sgL l)))
theorem uListS {X : Cx} (hc : X.calm = true) : CallR X (.type "list") rListS := by
  intro pins s σ H xs us Q I r h
  obtain ⟨l, rfl, hz, q⟩ := h
  obtain ⟨u, rfl, ru⟩ := vals1 r
  obtain ⟨t, rfl⟩ := ru
  refine PySem.call_list_str (I.ok.hd hc) (tx l) t (fun h' tk acc c' hk he hi => ?_) (by show l.toArray.size ≤ sizeLine; rw [sizeLine_eq]; simpa using hz)
  have hv : Vals (sgL l) acc.toList := by
    have el : acc.toList.length = l.length := by rw [Array.length_toList]; simpa using hi.1
    refine vals_of_at (by unfold sgL; rw [List.length_map, el]) fun j x u hx hu => ?_
    unfold sgL at hx
    rw [List.getElem?_map] at hx
    obtain ⟨c, t, hc', rfl⟩ := hi.2 j u (by rw [← hu, Array.getElem?_toList])
    have hc2 : l[j]? = some c := by simpa using hc'
    rw [hc2] at hx
    cases hx
    exact ⟨t, rfl⟩
  refine ⟨.ref s.heap.objs.size, upd H s.heap.objs.size (.lst (sgL l)), I.laid hk (Nat.le_refl _) (show ObjOk X.prog X.w _ _ _ (.lst (sgL l)) from ⟨?_, acc.toList, c', hv, ?_⟩), rfl, q _ (I.hok.fresh (Nat.le_refl _))⟩
  · unfold sgL
    rw [List.length_map, sizeLine_eq]
    exact hz
  · rw [Array.toArray_toList]
    exact he
theorem w_listS {l : List Nat} {H : Hp} {Q : VK} (hz : l.length ≤ 16777216) (q : ∀ a, H a = none → Q (.ref a) (upd H a (.lst (sgL l)))) : rListS [.str (tx l)] H Q := ⟨l, rfl, hz, q⟩
/-! ### pop at a place -/
theorem kPopAt {X : Cx} : MtR X "list.pop" rPopAt := mt_popAt
theorem w_pop {xs : List V} {k : Nat} {y : V} {p : Addr} {H : Hp} {Q : VK} (h : H p = some (.lst xs)) (hk : xs[k]? = some y) (hz : k < 1000000) (q : Q y (upd H p (.lst (xs.eraseIdx k)))) : rPopAt (.ref p) [.int (k : Int)] H Q := by
  refine ⟨p, xs, (k : Int), k, y, rfl, rfl, h, by omega, by omega, ?_, hk, q⟩
  have := (List.getElem?_eq_some_iff.mp hk).1
  unfold seqIndex?
  simp only [if_neg (show ¬ ((k : Int) < 0) by omega)]
  have e : (decide (0 ≤ (k : Int)) && decide ((k : Int) < (xs.length : Int))) = true := by simp; omega
  simp [this]
/-! ### isinstance of a caught error: its class stands over the other -/
section
variable {K : PySem.W.Frag} {x t : Value} {Hh : Heap → Prop}
theorem yes_ans {c : Value} (ty : ∀ (M : Model) (h : Heap), K.In h → Hh h → PySem.W.Looks M h (typeOf x) t) (e : PySem.W.kitOne K t c = some true) : PySem.Answers (fun s => K.In s.heap ∧ Hh s.heap) x c true := by
  intro dep tk prog w A R s hs
  obtain ⟨h0, g, d, tt, os⟩ := s
  obtain ⟨⟨X, p⟩, hq⟩ := hs
  have LT := ty (model prog w) h0 X p
  unfold PySem.W.kitOne at e
  unfold Builtin.«isinstance.nested»
  refine wpAny_bind (LT.at ?_)
  by_cases q : (t == c) = true
  · rw [if_pos q]
    first
      | exact wpAny_bind (wpAny_rule (hq tt))
      | exact wpAny_bind (wpAny_rule (wpAny_pure (hq tt)))
  · rw [if_neg q] at e
    rw [if_neg q]
    obtain ⟨hty, his, hsub⟩ := PySem.W.kit_cls (M := model prog w) X e
    have LI : PySem.W.Looks (model prog w) h0 (isInstance x c) true := LT.andThen hsub
    refine wpAny_bind (hty.at ?_)
    rw [if_pos (by decide)]
    k_delta "plainIsInstance"
    refine wpAny_bind (wpAny_bind (his.at ?_))
    simp only [Bool.not_true, Bool.false_eq_true, if_false]
    refine wpAny_bind (LI.at ?_)
    first
      | exact wpAny_pure (wpAny_pure (hq tt))
      | (simp only [if_true]; first | exact wpAny_pure (wpAny_pure (hq tt)) | exact wpAny_pure (hq tt) | exact wpAny_bind (wpAny_pure (wpAny_pure (hq tt))))
end
/-- isinstance(e, c), e a caught error whose class stands under c -/
def rIsE (K : PySem.W.Frag) (a : Addr) (cls : Value) : List V → Hp → VK → Prop := fun xs H Q => ∃ B : Addr, xs = [.ref a, .ref B] ∧ PySem.W.kitOne K cls (.ref B) = some true ∧ Q (.bl true) H
theorem call_isE {X : Cx} {a : Addr} {oe : Obj} {cls : Value} {d : Option Addr} {pn : List (Addr × Obj)} (hz : Zc cls d oe) : CallR (X.suite a ((a, oe) :: pn)) (.builtin "isinstance") (rIsE X.K a cls) := by
  intro pins s σ H xs us Q I r h
  obtain ⟨B, rfl, hk, q⟩ := h
  obtain ⟨u1, u2, rfl, r1, r2⟩ := vals2 r
  cases (show u1 = Value.ref a from r1)
  cases (show u2 = Value.ref B from r2)
  obtain ⟨ha, _⟩ := I.pin (a, oe) (List.mem_append_left _ List.mem_cons_self)
  have Z := yes_ans (K := X.K) (x := .ref a) (t := cls) (Hh := fun h => h.get? a = some oe) (c := .ref B) (fun M h _ he => fun A Q E s k q => wpAny_typeOf_ref (k _ _ he) (by rw [hz.1]; exact q)) hk
  exact PySem.call_isinstance (S := fun _ R s => (X.K.In s.heap ∧ s.heap.get? a = some oe) ∧ ∀ tk, R (.ok (.ret (.bool true))) { s with toks := tk })
    (fun prog w A R s hs => isinstance_outer (Z 0 _ prog w A R s hs) (fun z => nomatch z)) ⟨⟨I.kIn, ha⟩, fun tk => ⟨.bl true, H, I.tok tk, rfl, q⟩⟩
/-! ### a dict of one text and one int, and its repr -/
def oneD (l : List Nat) (i : Int) : PyData := .dict [(.str (tx l), .int i)]
def rReprO : List V → Hp → VK → Prop := fun xs H Q => ∃ (a : Addr) (l : List Nat) (i : Int), xs = [.ref a] ∧ H a = some (.dK [(.inr (tx l), .int i)]) ∧ i.natAbs.log2 < 1920 ∧ (oneD l i).shown.length ≤ 16777216 ∧ Q (.str (oneD l i).shown) H
theorem uReprO {X : Cx} {k : Nat} (hr : Room k X.A) (hg : X.A.guards = some []) : CallR X (.builtin "repr") rReprO := by
  intro pins s σ H xs us Q I r h
  obtain ⟨a, l, i, rfl, ha, hi, hz, q⟩ := h
  obtain ⟨u, rfl, ru⟩ := vals1 r
  cases (show u = Value.ref a from ru)
  have hu := hr.units
  obtain ⟨_, ns, vs, kv, o, es, ep, e1, ⟨e2, e3, _, e4, _⟩⟩ := (show ObjOk X.prog X.w H s.heap a (.dK [(.inr (tx l), .int i)]) from I.hok a _ ha)
  unfold KV at kv
  cases kv with
  | @cons pp qq ps qs hpq t =>
    cases t
    obtain ⟨h1, h2⟩ := hpq
    obtain ⟨t2, ht2⟩ := (show ∃ t, qq.2 = Value.int i t from h2)
    have e5 : PySem.Pairs (mixKind X.prog X.w) es.toList [qq] := e4
    generalize hes : es.toList = el at e5
    cases e5 with
    | @cons en kv' es' kvs' k1 k2 k3 =>
      cases k3
      have k1' : keyIs qq.1 en.key = true := k1
      rw [← h1] at k1'
      obtain ⟨t1, ht1⟩ : ∃ t, en.key = Value.str (tx l) t := by
        rcases keyIs_shape k1' with ⟨j, t, e, _⟩ | ⟨x, t, e, e'⟩
        · cases e
        · cases e; exact ⟨t, e'⟩
      have hd : Reads s.heap (.ref a) (oneD l i) (a :: ([] ++ []) ++ ([] ++ [])) := Reads.dict e1 (by first | exact e2.1 | exact e2.cls | exact e2) e3 (by rw [hes, List.map_cons, List.map_nil, ht1]; exact .cons (.str _ _) .nil) (by rw [hes, List.map_cons, List.map_nil, k2, ht2]; exact .cons (.int _ _) .nil)
      refine repr_of_reads' hd (by simp [oneD, PyData.showable, PyData.showableKv, hi]) (fun _ hm => ?_) hg (by simp [oneD, PyData.depth, PyData.depthKv]; omega) (fun _ _ e => e) (fun h' t tk kk => ⟨.str (oneD l i).shown, H, I.kept kk, ⟨_, rfl⟩, q⟩) (by rw [sizeLine_eq]; exact hz)
      simp at hm
      rw [← hm] at ns
      simp at ns
def rReprX (K : PySem.W.Frag) : List V → Hp → VK → Prop := fun xs H Q => rReprD K xs H Q ∨ rReprO xs H Q
theorem kReprX (K : PySem.W.Frag) {X : Cx} {k : Nat} (h : X.K = K) (hr : Room k X.A) (hg : X.A.guards = some []) : CallR X (.builtin "repr") (rReprX K) := (kReprD K h hr hg).or (uReprO hr hg)
/-- what may be written out, dicts of one entry too -/
def ShownX (K : PySem.W.Frag) (H : Hp) (v : V) (t : Str) : Prop := Shown K H v t ∨ ∃ (a : Addr) (l : List Nat), v = .ref a ∧ H a = some (.dK [(.inr (tx l), .int 1)]) ∧ Sgn l ∧ l.length ≤ 100 ∧ t = (oneD l 1).shown
theorem oneD_len {l : List Nat} (h : Sgn l) (z : l.length ≤ 100) : (oneD l 1).shown.length ≤ 16777216 := by
  have e1 := repr_short h
  have e2 : (PyData.shown (.int 1)).length = 1 := by decide +kernel
  unfold oneD
  simp only [PyData.shown, PyData.shownKv] at *
  unfold dictText
  simp only [strLen_append, Str.join]
  have a1 : ((("{" : String) : Str)).length = 1 := by decide +kernel
  have a2 : ((("}" : String) : Str)).length = 1 := by decide +kernel
  have a3 : (((": " : String) : Str)).length = 2 := by decide +kernel
  omega
theorem w_reprX {K : PySem.W.Frag} {H : Hp} {Q : VK} {v : V} {t : Str} (h : ShownX K H v t) (q : Q (.str t) H) : rReprX K [v] H Q := by
  rcases h with h | ⟨a, l, rfl, ha, hs, hz, rfl⟩
  · exact .inl (w_reprD h q)
  · exact .inr ⟨a, l, 1, rfl, ha, by decide, oneD_len hs hz, q⟩
theorem w_disp1 {tk tv : TE} {σ : SSt} {H : Hp} {Q : VK} (q : ∀ p, H p = none → tPairs [(tk, tv)] σ (upd H p (.dK [])) fun ps H2 => H2 p = some (.dK []) ∧ ∃ kvs : List (Key × V), ps = kvs.map (fun kv => (kV kv.1, kv.2)) ∧ kvs.length ≤ 15 ∧ Q (.ref p) (upd H2 p (.dK (mergeK [] kvs)))) : tDisp [(tk, tv)] σ H Q := q
theorem merge1 (k : Key) (v : V) : mergeK [] [(k, v)] = [(k, v)] := rfl
/-! ### bools -/
theorem w_neB {K : PySem.W.Frag} {H : Hp} {Q : VK} {a b : Bool} (q : Q (.bl (!decide (a = b))) H) : rNeU K (.bl a) (.bl b) H Q := .inl ⟨rfl, by
  have e : decide (V.bl a = V.bl b) = decide (a = b) := decide_eq_decide.mpr ⟨fun h => V.bl.inj h, fun h => by rw [h]⟩
  rw [e]; exact q⟩
/-! the class over the errors -/
theorem ErrAt.base {K : PySem.W.Frag} {mg : Str → Option Value} {x : Str} (T : ErrAt K mg x) : mg "CodecError" = some (.ref (errAt mg "CodecError")) := by
  obtain ⟨B, fI, T⟩ := T
  have e : errAt mg "CodecError" = B := by unfold errAt; rw [T.gB]
  rw [e]
  exact T.gB
def Under (K : PySem.W.Frag) (mg : Str → Option Value) (x : Str) : Prop := PySem.W.kitOne K (.ref (errAt mg x)) (.ref (errAt mg "CodecError")) = some true
theorem Under.of {K : PySem.W.Frag} {mg : Str → Option Value} {x : Str} {S R : Addr} (hx : mg x = some (.ref S)) (hy : mg "CodecError" = some (.ref R)) (h2 : PySem.W.isClsIn K R = true) (h3 : PySem.W.typeIn K (.ref R) = some (.type "type")) (h4 : PySem.W.subIn K (.ref S) (.ref R) = some true) : Under K mg x := by
  have e1 : errAt mg x = S := by unfold errAt; rw [hx]
  have e2 : errAt mg "CodecError" = R := by unfold errAt; rw [hy]
  unfold Under
  rw [e1, e2]
  unfold PySem.W.kitOne
  split
  · rfl
  · have e : ((PySem.W.clsIn K R).isSome && PySem.W.typeIn K (.ref R) == some (.type "type")) = true := by
      have h2' : (PySem.W.clsIn K R).isSome = true := h2
      rw [h2', h3] <;> rfl
    show (if ((PySem.W.clsIn K R).isSome && PySem.W.typeIn K (.ref R) == some (.type "type")) = true then PySem.W.subIn K (.ref S) (.ref R) else none) = some true
    rw [if_pos e]
    exact h4
theorem w_isE {K : PySem.W.Frag} {a C B : Addr} {H : Hp} {Q : VK} (h : PySem.W.kitOne K (.ref C) (.ref B) = some true) (q : Q (.bl true) H) : rIsE K a (.ref C) [.ref a, .ref B] H Q := ⟨B, rfl, h, q⟩
/-! ### lists of unlike lengths are not equal -/
def rEqLen : R2 := fun x y H Q => ∃ (a b : Addr) (xs ys : List V), x = .ref a ∧ y = .ref b ∧ H a = some (.lst xs) ∧ H b = some (.lst ys) ∧ xs.length ≠ ys.length ∧ Q (.bl false) H
theorem uEqLen {X : Cx} {k : Nat} (hr : Room k X.A) : OpR X (compareOp .Eq) rEqLen := by
  intro pins s σ H x y v u Q I rx ry h
  obtain ⟨a, b, xs, ys, rfl, rfl, ha, hb, hne, q⟩ := h
  cases (show v = Value.ref a from rx)
  cases (show u = Value.ref b from ry)
  obtain ⟨_, i1, m1, r1, e1⟩ := (show ObjOk X.prog X.w H s.heap a (.lst xs) from I.hok a _ ha)
  obtain ⟨_, i2, m2, r2, e2⟩ := (show ObjOk X.prog X.w H s.heap b (.lst ys) from I.hok b _ hb)
  have ta : s.TypeIs (.ref a) "list" := ⟨_, e1, rfl⟩
  have tb : s.TypeIs (.ref b) "list" := ⟨_, e2, rfl⟩
  have hz : (i1.toArray.size != i2.toArray.size) = true := by
    have l1 := r1.length
    have l2 := r2.length
    simp
    omega
  show wpAny (model X.prog X.w) X.A (richCompare .Eq (.ref a) (.ref b)) (EP X pins σ Q) X.xe s
  exact wpAny_richCompare_same_room (op := .Eq) ta tb F.slot_list_eq (call_meets F.slot_list_eq ta F.entry_list_eq (F.args_list_eq_2 _ _) (SeqAt.list_eq_lengthsAt a b i1.toArray i2.toArray m1 m2 none none #[] #[] hz)
    ⟨e1, e2, show Value.bool false ≠ Value.notImplemented ∧ _ from ⟨(fun x => nomatch x), ⟨.bl false, H, I, rfl, q⟩⟩⟩) (by have := hr.units; omega)
theorem w_eqLen {r e : Addr} {xs ys : List V} {H : Hp} {Q : VK} (h1 : H r = some (.lst xs)) (h2 : H e = some (.lst ys)) (n : xs.length ≠ ys.length) (q : Q (.bl false) H) : rEqLen (.ref r) (.ref e) H Q := ⟨r, e, xs, ys, rfl, rfl, h1, h2, n, q⟩
theorem w_eqInt1 {K : PySem.W.Frag} {H : Hp} {Q : VK} {r e : Addr} {i : Int} (h1 : H r = some (.lst [.int i])) (h2 : H e = some (.lst [.int i])) (q : Q (.bl true) H) : rEqU K (.ref r) (.ref e) H Q :=
  .inr ⟨.list [.int i], .list [.int i], .lst (SqL.of h1) (.cons (.int _) .nil), .lst (SqL.of h2) (.cons (.int _) .nil), by simp [SeqAt.shaped, PyData.canLay0, PyData.canLayAll0, PyData.depth, PyData.depthAll], by simp [SeqAt.shaped, PyData.canLay0, PyData.canLayAll0, PyData.depth, PyData.depthAll], by
    have e : PyData.eqv (.list [.int i]) (.list [.int i]) = true := by simp [PyData.eqv, PyData.eqvAll]
    rw [e]
    exact q⟩
theorem w_eqEE {K : PySem.W.Frag} {H : Hp} {Q : VK} {r e : Addr} (h1 : H r = some (.lst [])) (h2 : H e = some (.lst [])) (q : Q (.bl true) H) : rEqU K (.ref r) (.ref e) H Q :=
  .inr ⟨.list [], .list [], .lst (SqL.of h1) .nil, .lst (SqL.of h2) .nil, by decide +kernel, by decide +kernel, by
    have e : PyData.eqv (.list []) (.list []) = true := by simp [PyData.eqv, PyData.eqvAll]
    rw [e]
    exact q⟩
theorem w_last {K : PySem.W.Frag} {H : Hp} {Q : VK} {p : Addr} {x y : V} (h : SqL K H p [x, y]) (q : ∀ a, H a = none → Q (.ref a) (upd H a (.lst [y]))) : rSlU K (.ref p) (some (-1)) none H Q := .inl ⟨p, [x, y], rfl, h, q⟩
end SL
set_option Elab.async false
set_option linter.all false
set_option maxRecDepth 100000
set_option maxHeartbeats 4000000
/-! Pu1: plain data, what of it a heap holds; slots that own their list. -/
namespace Pu
open PySem PySem.Spec PyProof.Rows L2 SL

inductive D where
  | non | bl (b : Bool) | int (i : Int) | str (l : List Nat) | lst (xs : List D) | tup (xs : List D) | dic (kvs : List (D × D)) | obj (c : Str) (fs : List (Str × D)) | box | exc (a dd : Addr) (g : D) | lsA (a : Addr) (xs : List D)
  deriving Inhabited
structure Wd where
  K : PySem.W.Frag
  mg : Str → Option Value
  pb : Option Addr
def kD : Key → D
  | .inl i => .int i
  | .inr x => .str x.cps.toList
def tD (k : List Key) : D := .tup (k.map kD)
mutual
/-- in the heap M the value v is d -/
inductive Dn (W : Wd) (M : Hp) : V → D → Prop
  | non : Dn W M .non .non
  | bl (b : Bool) : Dn W M (.bl b) (.bl b)
  | int (i : Int) : Dn W M (.int i) (.int i)
  | str (l : List Nat) : Dn W M (.str (tx l)) (.str l)
  | lst {a : Addr} {vs : List V} {ds : List D} : M a = some (.lst vs) → DnAll W M vs ds → Dn W M (.ref a) (.lst ds)
  | tup {a : Addr} {vs : List V} {ds : List D} : SqT W.K M a vs → DnAll W M vs ds → Dn W M (.ref a) (.tup ds)
  | dK {a : Addr} {kvs : List (Key × V)} {ds : List (D × D)} : M a = some (.dK kvs) → DnKv W M (kvs.map fun p => (kD p.1, p.2)) ds → Dn W M (.ref a) (.dic ds)
  | dT {a : Addr} {kvs : List (List Key × V)} {ds : List (D × D)} : M a = some (.dT kvs) → DnKv W M (kvs.map fun p => (tD p.1, p.2)) ds → Dn W M (.ref a) (.dic ds)
  | obj {a C dx : Addr} {fs : List (Str × V)} {c : Str} {gs : List (Str × D)} : M a = some (.ins C dx fs) → W.mg c = some (.ref C) → DnFs W M fs gs → Dn W M (.ref a) (.obj c gs)
  | box {p : Addr} : W.pb = some p → Dn W M (.ref p) .box
  | exc {a dd : Addr} {v : V} {g : D} : M dd = some (xdG v) → Dn W M v g → Dn W M (.ref a) (.exc a dd g)
  | lsA {a : Addr} {vs : List V} {ds : List D} : M a = some (.lst vs) → DnAll W M vs ds → Dn W M (.ref a) (.lsA a ds)
inductive DnAll (W : Wd) (M : Hp) : List V → List D → Prop
  | nil : DnAll W M [] []
  | cons {v : V} {vs : List V} {d : D} {ds : List D} : Dn W M v d → DnAll W M vs ds → DnAll W M (v :: vs) (d :: ds)
inductive DnKv (W : Wd) (M : Hp) : List (D × V) → List (D × D) → Prop
  | nil : DnKv W M [] []
  | cons {k : D} {v : V} {vs : List (D × V)} {d : D} {ds : List (D × D)} : Dn W M v d → DnKv W M vs ds → DnKv W M ((k, v) :: vs) ((k, d) :: ds)
inductive DnFs (W : Wd) (M : Hp) : List (Str × V) → List (Str × D) → Prop
  | nil : DnFs W M [] []
  | cons {k : Str} {v : V} {vs : List (Str × V)} {d : D} {ds : List (Str × D)} : Dn W M v d → DnFs W M vs ds → DnFs W M ((k, v) :: vs) ((k, d) :: ds)
end
section
variable {W : Wd} {M M' : Hp}
mutual
theorem Dn.mono (s : Same M M') : ∀ (d : D) (v : V), Dn W M v d → Dn W M' v d
  | .non, _, h => by cases h; exact .non
  | .bl b, _, h => by cases h; exact .bl b
  | .int i, _, h => by cases h; exact .int i
  | .str l, _, h => by cases h; exact .str l
  | .lst ds, _, h => by
    cases h with
    | lst h1 h2 => exact .lst (s _ _ h1) (DnAll.mono s ds _ h2)
  | .tup ds, _, h => by
    cases h with
    | tup h1 h2 => exact .tup (Same.seqT s h1) (DnAll.mono s ds _ h2)
  | .dic ds, _, h => by
    cases h with
    | dK h1 h2 => exact .dK (s _ _ h1) (DnKv.mono s ds _ h2)
    | dT h1 h2 => exact .dT (s _ _ h1) (DnKv.mono s ds _ h2)
  | .obj c fs, _, h => by
    cases h with
    | obj h1 h2 h3 => exact .obj (s _ _ h1) h2 (DnFs.mono s fs _ h3)
  | .box, _, h => by
    cases h with
    | box h => exact .box h
  | .exc a dd g, _, h => by
    cases h with
    | exc h1 h2 => exact .exc (s _ _ h1) (Dn.mono s g _ h2)
  | .lsA a ds, _, h => by
    cases h with
    | lsA h1 h2 => exact .lsA (s _ _ h1) (DnAll.mono s ds _ h2)
theorem DnAll.mono (s : Same M M') : ∀ (ds : List D) (vs : List V), DnAll W M vs ds → DnAll W M' vs ds
  | [], _, h => by cases h; exact .nil
  | d :: ds, _, h => by
    cases h with
    | cons h1 h2 => exact .cons (Dn.mono s d _ h1) (DnAll.mono s ds _ h2)
theorem DnKv.mono (s : Same M M') : ∀ (ds : List (D × D)) (vs : List (D × V)), DnKv W M vs ds → DnKv W M' vs ds
  | [], _, h => by cases h; exact .nil
  | (k, d) :: ds, _, h => by
    cases h with
    | cons h1 h2 => exact .cons (Dn.mono s d _ h1) (DnKv.mono s ds _ h2)
theorem DnFs.mono (s : Same M M') : ∀ (ds : List (Str × D)) (vs : List (Str × V)), DnFs W M vs ds → DnFs W M' vs ds
  | [], _, h => by cases h; exact .nil
  | (k, d) :: ds, _, h => by
    cases h with
    | cons h1 h2 => exact .cons (Dn.mono s d _ h1) (DnFs.mono s ds _ h2)
end
theorem DnAll.len : ∀ {vs : List V} {ds : List D}, DnAll W M vs ds → vs.length = ds.length
  | _, _, .nil => rfl
  | _, _, .cons _ r => by rw [List.length_cons, List.length_cons, DnAll.len r]
theorem DnAll.app : ∀ {xs ys : List V} {ds es : List D}, DnAll W M xs ds → DnAll W M ys es → DnAll W M (xs ++ ys) (ds ++ es)
  | _, _, _, _, .nil, h => h
  | _, _, _, _, .cons a r, h => .cons a (DnAll.app r h)
theorem DnAll.take : ∀ {xs : List V} {ds : List D} (n : Nat), DnAll W M xs ds → DnAll W M (xs.take n) (ds.take n)
  | _, _, 0, _ => by rw [List.take_zero, List.take_zero]; exact .nil
  | _, _, n + 1, .nil => by rw [List.take_nil, List.take_nil]; exact .nil
  | _, _, n + 1, .cons a r => by rw [List.take_succ_cons, List.take_succ_cons]; exact .cons a (r.take n)
theorem DnAll.drop : ∀ {xs : List V} {ds : List D} (n : Nat), DnAll W M xs ds → DnAll W M (xs.drop n) (ds.drop n)
  | _, _, 0, h => h
  | _, _, n + 1, .nil => by rw [List.drop_nil, List.drop_nil]; exact .nil
  | _, _, n + 1, .cons a r => by rw [List.drop_succ_cons, List.drop_succ_cons]; exact r.drop n
theorem DnAll.get : ∀ {xs : List V} {ds : List D} {i : Nat} {d : D}, DnAll W M xs ds → ds[i]? = some d → ∃ v, xs[i]? = some v ∧ Dn W M v d
  | _, _, 0, _, .cons a _, e => ⟨_, rfl, by cases e; exact a⟩
  | _, _, i + 1, _, .cons _ r, e => DnAll.get (i := i) r e
  | _, _, _, _, .nil, e => by simp at e
theorem DnAll.get' : ∀ {xs : List V} {ds : List D} {i : Nat} {v : V}, DnAll W M xs ds → xs[i]? = some v → ∃ d, ds[i]? = some d ∧ Dn W M v d
  | _, _, 0, _, .cons a _, e => ⟨_, rfl, by cases e; exact a⟩
  | _, _, i + 1, _, .cons _ r, e => DnAll.get' (i := i) r e
  | _, _, _, _, .nil, e => by simp at e
theorem DnAll.rev : ∀ {vs : List V} {ds : List D}, DnAll W M vs ds → DnAll W M vs.reverse ds.reverse
  | _, _, .nil => .nil
  | _, _, .cons a r => by rw [List.reverse_cons, List.reverse_cons]; exact (DnAll.rev r).app (.cons a .nil)
theorem DnAll.set : ∀ {xs : List V} {ds : List D} {v : V} {d : D} (n : Nat), DnAll W M xs ds → Dn W M v d → DnAll W M (xs.set n v) (ds.set n d)
  | _, _, _, _, _, .nil, _ => .nil
  | _, _, _, _, 0, .cons a r, h => .cons h r
  | _, _, _, _, n + 1, .cons a r, h => .cons a (r.set n h)
theorem DnAll.mem : ∀ {vs : List V} {ds : List D} {d : D}, DnAll W M vs ds → d ∈ ds → ∃ v ∈ vs, Dn W M v d
  | _, _, _, .cons a r, h => by
    rcases List.mem_cons.mp h with rfl | h
    · exact ⟨_, List.mem_cons_self, a⟩
    · obtain ⟨v, h1, h2⟩ := DnAll.mem r h
      exact ⟨v, List.mem_cons_of_mem _ h1, h2⟩
  | _, _, _, .nil, h => by cases h
theorem DnKv.app : ∀ {xs ys : List (D × V)} {ds es : List (D × D)}, DnKv W M xs ds → DnKv W M ys es → DnKv W M (xs ++ ys) (ds ++ es)
  | _, _, _, _, .nil, h => h
  | _, _, _, _, .cons a r, h => .cons a (DnKv.app r h)
theorem DnKv.len : ∀ {vs : List (D × V)} {ds : List (D × D)}, DnKv W M vs ds → vs.length = ds.length
  | _, _, .nil => rfl
  | _, _, .cons _ r => by rw [List.length_cons, List.length_cons, DnKv.len r]
end

/-! ### heaps without some of their addresses -/
noncomputable def Off (S : Addr → Prop) (H : Hp) : Hp := fun b => open Classical in if S b then none else H b
section
variable {S S' : Addr → Prop} {H H' : Hp} {b : Addr} {o : HO}
theorem off_get (h : H b = some o) (n : ¬ S b) : Off S H b = some o := by unfold Off; rw [if_neg n]; exact h
theorem off_some (h : Off S H b = some o) : H b = some o ∧ ¬ S b := by
  unfold Off at h
  by_cases n : S b
  · rw [if_pos n] at h; cases h
  · rw [if_neg n] at h; exact ⟨h, n⟩
theorem off_none (h : H b = none) : Off S H b = none := by
  unfold Off
  by_cases n : S b
  · rw [if_pos n]
  · rw [if_neg n]; exact h
theorem off_hid (h : S b) : Off S H b = none := by unfold Off; rw [if_pos h]
theorem off_same : Same (Off S H) H := fun _ _ h => (off_some h).1
theorem off_to (f : ∀ b o, ¬ S' b → H b = some o → ¬ S b ∧ H' b = some o) : Same (Off S' H) (Off S H') := fun b o h => by
  obtain ⟨h1, h2⟩ := off_some h
  obtain ⟨h3, h4⟩ := f b o h2 h1
  exact off_get h4 h3
theorem off_le (f : ∀ b, S b → S' b) : Same (Off S' H) (Off S H) := off_to fun b o n h => ⟨fun m => n (f b m), h⟩
theorem off_ext (s : Same H H') : Same (Off S H) (Off S H') := off_to fun b o n h => ⟨n, s _ _ h⟩
end
abbrev Own := Nat → Option Addr
def no : Own := fun _ => none
def Hid (W : Wd) (o : Own) : Addr → Prop := fun b => W.pb = some b ∨ ∃ i, o i = some b
noncomputable def Hv (W : Wd) (o : Own) (H : Hp) : Hp := Off (Hid W o) H
/-- all but the box stands -/
def St (W : Wd) (H H' : Hp) : Prop := ∀ b u, W.pb ≠ some b → H b = some u → H' b = some u
section
variable {W : Wd} {H H' H2 : Hp} {o o' : Own} {a b : Addr} {u : HO} {c c' : Nat}
theorem St.refl : St W H H := fun _ _ _ h => h
theorem St.trans (s : St W H H') (t : St W H' H2) : St W H H2 := fun b u n h => t b u n (s b u n h)
theorem St.of (s : Same H H') : St W H H' := fun b u _ h => s b u h
theorem St.hv (s : St W H H') : Same (Hv W o H) (Hv W o H') := off_to fun b u n h => ⟨n, s b u (fun e => n (.inl e)) h⟩
theorem St.none (s : St W H H') (n : W.pb ≠ some b) (h : H' b = none) : H b = none := by
  cases e : H b with
  | none => rfl
  | some u => rw [s b u n e] at h; cases h
theorem St.to (s : Same (Hv W no H) (Hv W no H')) : St W H H' := fun b u n h => by
  have h1 : ¬ Hid W no b := fun m => by
    rcases m with m | ⟨_, m⟩
    · exact n m
    · cases m
  exact (off_some (s b u (off_get h h1))).1
theorem hv_le (f : ∀ i a, o' i = some a → o i = some a) : Same (Hv W o H) (Hv W o' H) := off_le fun b m => by
  rcases m with m | ⟨i, m⟩
  · exact .inl m
  · exact .inr ⟨i, f i b m⟩
theorem hv_no : Same (Hv W o H) (Hv W no H) := hv_le fun _ _ e => by cases e
theorem hv_same : Same (Hv W o H) H := off_same
def BoxO (W : Wd) (H : Hp) (c : Nat) : Prop := ∀ p, W.pb = some p → Box H p c
theorem BoxO.same (h : BoxO W H c) (s : Same H H') : BoxO W H' c := fun p e => (h p e).same s
theorem BoxO.ne (h : BoxO W H c) (n : H a = Option.none) : W.pb ≠ some a := fun e => (h a e).ne n rfl
theorem dn_ext {v : V} {d : D} (h : Dn W (Hv W o H) v d) (s : St W H H') : Dn W (Hv W o H') v d := h.mono s.hv _ _
theorem dnall_ext {v : List V} {d : List D} (h : DnAll W (Hv W o H) v d) (s : St W H H') : DnAll W (Hv W o H') v d := h.mono s.hv _ _
theorem SqL.up {S : Addr → Prop} {K : PySem.W.Frag} {xs : List V} (h : SqL K (Off S H) a xs) : SqL K H a xs := Same.seq off_same h
end

/-! ### slots -/
inductive Sl where
  | no | v (d : D) | own (d : D)
abbrev PEnv := List Sl
/-- what an owned address holds -/
inductive OwnC (W : Wd) (M : Hp) : Option HO → D → Prop
  | lst {vs : List V} {ds : List D} : DnAll W M vs ds → OwnC W M (some (.lst vs)) (.lst ds)
  | dK {kvs : List (Key × V)} {ds : List (D × D)} : DnKv W M (kvs.map fun p => (kD p.1, p.2)) ds → OwnC W M (some (.dK kvs)) (.dic ds)
  | dT {kvs : List (List Key × V)} {ds : List (D × D)} : DnKv W M (kvs.map fun p => (tD p.1, p.2)) ds → OwnC W M (some (.dT kvs)) (.dic ds)
theorem OwnC.mono {W : Wd} {M M' : Hp} {x : Option HO} {d : D} (s : Same M M') (h : OwnC W M x d) : OwnC W M' x d := by
  cases h with
  | lst h => exact .lst (h.mono s)
  | dK h => exact .dK (h.mono s)
  | dT h => exact .dT (h.mono s)
theorem OwnC.has {W : Wd} {M : Hp} {x : Option HO} {d : D} (h : OwnC W M x d) : ∃ u, x = some u := by cases h <;> exact ⟨_, rfl⟩
/-- owned content seen as data -/
theorem OwnC.dn {W : Wd} {M : Hp} {a : Addr} {d : D} (h : OwnC W M (M a) d) : Dn W M (.ref a) d := by
  generalize e : M a = x at h
  cases h with
  | lst h => exact .lst e h
  | dK h => exact .dK e h
  | dT h => exact .dT e h
/-- what stood at the entry, what callers own -/
structure Bs where
  h : Hp
  s : Addr → Prop
/-- the slots σ and the heap H are the pure slots ρ; B: the entry; o: who owns what (behind the slots: owned by callers or by what runs) -/
structure Rel (W : Wd) (B : Bs) (o : Own) (H : Hp) (σ : SSt) (ρ : PEnv) (c : Nat) : Prop where
  len : σ.length = ρ.length
  base : Same B.h (Hv W no H)
  keep : ∀ b, B.s b → ∃ i, ρ.length ≤ i ∧ o i = some b
  slot : ∀ (i : Nat) (d : D), ρ[i]? = some (Sl.v d) → ∃ v, σ[i]? = some (some v) ∧ Dn W (Hv W o H) v d
  own : ∀ (i : Nat) (d : D), ρ[i]? = some (Sl.own d) → ∃ a, o i = some a ∧ σ[i]? = some (some (.ref a)) ∧ OwnC W (Hv W o H) (H a) d
  inj : ∀ (i j : Nat) (a : Addr), o i = some a → o j = some a → i = j
  fr : ∀ (i : Nat) (a : Addr), o i = some a → W.pb ≠ some a ∧ (∃ u, H a = some u) ∧ (((∃ d, ρ[i]? = some (Sl.own d)) ∧ B.h a = none) ∨ (ρ.length ≤ i ∧ B.s a))
  bd : ∃ N, ∀ i, N ≤ i → o i = none
  box : BoxO W H c
section
variable {W : Wd} {B : Bs} {H H' : Hp} {o : Own} {σ : SSt} {ρ : PEnv} {c c' : Nat}
theorem Rel.ext (R : Rel W B o H σ ρ c) (s : St W H H') (b : BoxO W H' c') : Rel W B o H' σ ρ c' where
  len := R.len
  base := R.base.trans s.hv
  keep := R.keep
  slot := fun i d e => by
    obtain ⟨v, h1, h2⟩ := R.slot i d e
    exact ⟨v, h1, dn_ext h2 s⟩
  own := fun i d e => by
    obtain ⟨a, h1, h2, h3⟩ := R.own i d e
    obtain ⟨u, hu⟩ := h3.has
    have g := s a u (R.fr i a h1).1 hu
    rw [hu] at h3
    exact ⟨a, h1, h2, by rw [g]; exact h3.mono s.hv⟩
  inj := R.inj
  fr := fun i a e => by
    obtain ⟨h2, ⟨u, h3⟩, h4⟩ := R.fr i a e
    exact ⟨h2, ⟨u, s a u h2 h3⟩, h4⟩
  bd := R.bd
  box := b
theorem Rel.same (R : Rel W B o H σ ρ c) (s : Same H H') : Rel W B o H' σ ρ c := R.ext (.of s) (R.box.same s)
theorem Rel.hid (R : Rel W B o H σ ρ c) {a : Addr} (h : H a = none) : ¬ Hid W o a := fun m => by
  rcases m with m | ⟨i, m⟩
  · exact R.box.ne h m
  · obtain ⟨_, ⟨u, h3⟩, _⟩ := R.fr i a m
    rw [h] at h3
    cases h3
/-- a new object, seen -/
theorem Rel.new (R : Rel W B o H σ ρ c) {a : Addr} {u : HO} (h : H a = none) : Hv W o (upd H a u) a = some u := off_get upd_same (R.hid h)
/-- what is seen at the entry is seen later -/
theorem Rel.seen (R : Rel W B o H σ ρ c) : Same (Off B.s B.h) (Hv W o H) := fun b u e => by
  obtain ⟨e, ns⟩ := off_some e
  obtain ⟨g1, g2⟩ := off_some (R.base b u e)
  refine off_get g1 fun m => ?_
  rcases m with m | ⟨i, m⟩
  · exact g2 (.inl m)
  · rcases (R.fr i b m).2.2 with h | h
    · rw [h.2] at e; cases e
    · exact ns h.2
end
/-- slot i no longer owns -/
def drop (n : Nat) (o : Own) (i : Nat) : Own := fun j => if j = i ∧ i < n then none else o j
/-- slot i owns a -/
def put (n : Nat) (o : Own) (i : Nat) (a : Addr) : Own := fun j => if j = i ∧ i < n then some a else o j
section
variable {W : Wd} {B : Bs} {H H' : Hp} {o : Own} {σ : SSt} {ρ : PEnv} {c c' i n : Nat} {v : V} {d : D} {a : Addr} {x : HO}
theorem drop_le (j : Nat) (b : Addr) (h : drop n o i j = some b) : o j = some b := by
  unfold drop at h
  split at h
  · cases h
  · exact h
theorem set_get {α : Type} {l : List α} {i j : Nat} {x y : α} (h : (l.set i x)[j]? = some y) : (i = j ∧ i < l.length ∧ x = y) ∨ ((i ≠ j ∨ l.length ≤ i) ∧ l[j]? = some y) := by
  by_cases e : i = j
  · subst e
    by_cases hi : i < l.length
    · rw [List.getElem?_set_self hi] at h
      exact .inl ⟨rfl, hi, Option.some.inj h⟩
    · rw [List.getElem?_eq_none (by simpa using hi)] at h
      cases h
  · rw [List.getElem?_set_ne e] at h
    exact .inr ⟨.inl e, h⟩
theorem set_at {α : Type} {l : List α} {i : Nat} {x : α} (h : i < l.length) : (l.set i x)[i]? = some x := List.getElem?_set_self h
theorem set_off {α : Type} {l : List α} {i j : Nat} {x : α} (h : i ≠ j) : (l.set i x)[j]? = l[j]? := List.getElem?_set_ne h
/-- slot i is given a value -/
theorem Rel.setv (R : Rel W B o H σ ρ c) (dn : Dn W (Hv W o H) v d) : Rel W B (drop ρ.length o i) H (σ.set i (some v)) (ρ.set i (Sl.v d)) c where
  len := by rw [List.length_set, List.length_set, R.len]
  base := R.base
  keep := fun b hb => by
    obtain ⟨j, h1, h2⟩ := R.keep b hb
    refine ⟨j, by rw [List.length_set]; exact h1, ?_⟩
    unfold drop
    rw [if_neg (by omega)]
    exact h2
  slot := fun j e h => by
    rcases set_get h with ⟨rfl, hl, e1⟩ | ⟨n, h⟩
    · cases e1
      exact ⟨v, set_at (by rw [R.len]; exact hl), dn.mono (hv_le drop_le) _ _⟩
    · obtain ⟨u, h1, h2⟩ := R.slot j e h
      have lj := (List.getElem?_eq_some_iff.mp h).1
      exact ⟨u, by rw [set_off (by omega)]; exact h1, h2.mono (hv_le drop_le) _ _⟩
  own := fun j e h => by
    rcases set_get h with ⟨rfl, hl, e1⟩ | ⟨n, h⟩
    · cases e1
    · obtain ⟨u, h1, h2, h3⟩ := R.own j e h
      have lj := (List.getElem?_eq_some_iff.mp h).1
      refine ⟨u, ?_, by rw [set_off (by omega)]; exact h2, h3.mono (hv_le drop_le)⟩
      unfold drop
      rw [if_neg (by omega)]
      exact h1
  inj := fun j k b h1 h2 => R.inj j k b (drop_le _ _ h1) (drop_le _ _ h2)
  fr := fun j b h => by
    obtain ⟨h2, h3, h4⟩ := R.fr j b (drop_le _ _ h)
    refine ⟨h2, h3, ?_⟩
    rcases h4 with ⟨⟨e, h4⟩, h5⟩ | h4
    · left
      have lj := (List.getElem?_eq_some_iff.mp h4).1
      have : i ≠ j := fun z => by
        subst z
        unfold drop at h
        rw [if_pos ⟨rfl, lj⟩] at h
        cases h
      exact ⟨⟨e, by rw [set_off this]; exact h4⟩, h5⟩
    · exact .inr (by rw [List.length_set]; exact h4)
  bd := by
    obtain ⟨N, hN⟩ := R.bd
    refine ⟨N, fun j hj => ?_⟩
    unfold drop
    split
    · rfl
    · exact hN j hj
  box := R.box
/-- slot i is given a new object of its own -/
theorem Rel.setown (R : Rel W B o H σ ρ c) (n0 : H a = none) (s : St W H H') (b : BoxO W H' c') (oc : OwnC W (Off (fun b => Hid W o b ∨ b = a) H') (H' a) d) :
    Rel W B (put ρ.length o i a) H' (σ.set i (some (.ref a))) (ρ.set i (Sl.own d)) c' := by
  have R' := R.ext s b
  have na : W.pb ≠ some a := R.box.ne n0
  have no_a : ∀ j, o j ≠ some a := fun j e => by
    obtain ⟨_, ⟨u, h3⟩, _⟩ := R.fr j a e
    rw [n0] at h3
    cases h3
  obtain ⟨ua, hua⟩ := oc.has
  have vis : Same (Hv W o H) (Hv W (put ρ.length o i a) H') := off_to fun e u n g => by
    refine ⟨fun m => ?_, s e u (fun z => n (.inl z)) g⟩
    rcases m with m | ⟨j, m⟩
    · exact n (.inl m)
    · unfold put at m
      split at m
      · cases m
        rw [n0] at g
        cases g
      · exact n (.inr ⟨j, m⟩)
  have vis2 : Same (Off (fun b => Hid W o b ∨ b = a) H') (Hv W (put ρ.length o i a) H') := off_le fun e m => by
    rcases m with m | ⟨j, m⟩
    · exact .inl (.inl m)
    · unfold put at m
      split at m
      · cases m; exact .inr rfl
      · exact .inl (.inr ⟨j, m⟩)
  refine ⟨by rw [List.length_set, List.length_set, R.len], R'.base, fun e he => ?_, fun j e h => ?_, fun j e h => ?_, fun j k e h1 h2 => ?_, fun j e h => ?_, ?_, b⟩
  · obtain ⟨j, h1, h2⟩ := R.keep e he
    refine ⟨j, by rw [List.length_set]; exact h1, ?_⟩
    unfold put
    rw [if_neg (by omega)]
    exact h2
  · rcases set_get h with ⟨rfl, hl, e1⟩ | ⟨n, h⟩
    · cases e1
    · obtain ⟨u, h1, h2⟩ := R.slot j e h
      have lj := (List.getElem?_eq_some_iff.mp h).1
      exact ⟨u, by rw [set_off (by omega)]; exact h1, h2.mono vis _ _⟩
  · rcases set_get h with ⟨rfl, hl, e1⟩ | ⟨n, h⟩
    · cases e1
      refine ⟨a, ?_, set_at (by rw [R.len]; exact hl), oc.mono vis2⟩
      unfold put
      rw [if_pos ⟨rfl, hl⟩]
    · obtain ⟨u, h1, h2, h3⟩ := R.own j e h
      have lj := (List.getElem?_eq_some_iff.mp h).1
      obtain ⟨w, hw⟩ := h3.has
      have g := s u w (R.fr j u h1).1 hw
      rw [hw] at h3
      refine ⟨u, ?_, by rw [set_off (by omega)]; exact h2, by rw [g]; exact h3.mono vis⟩
      unfold put
      rw [if_neg (by omega)]
      exact h1
  · unfold put at h1 h2
    split at h1
    · rename_i z1
      split at h2
      · rename_i z2
        omega
      · cases h1
        exact absurd h2 (no_a _)
    · split at h2
      · cases h2
        exact absurd h1 (no_a _)
      · exact R.inj j k e h1 h2
  · unfold put at h
    split at h
    · rename_i z
      cases h
      refine ⟨na, ⟨ua, hua⟩, .inl ⟨⟨d, by rw [z.1]; exact set_at z.2⟩, ?_⟩⟩
      cases q : B.h a with
      | none => rfl
      | some u =>
        have := (off_some (R.base a u q)).1
        rw [n0] at this
        cases this
    · rename_i z
      obtain ⟨h2, h3, h4⟩ := R'.fr j e h
      refine ⟨h2, h3, ?_⟩
      rcases h4 with ⟨⟨e2, h4⟩, h5⟩ | h4
      · have lj := (List.getElem?_eq_some_iff.mp h4).1
        exact .inl ⟨⟨e2, by rw [set_off (by omega)]; exact h4⟩, h5⟩
      · exact .inr (by rw [List.length_set]; exact h4)
  · obtain ⟨N, hN⟩ := R.bd
    refine ⟨max N ρ.length, fun j hj => ?_⟩
    unfold put
    rw [if_neg (by omega)]
    exact hN j (by omega)
/-- what slot i owns is changed -/
theorem Rel.putc {d0 : D} (R : Rel W B o H σ ρ c) (hi : ρ[i]? = some (Sl.own d0)) (ho : o i = some a) (oc : OwnC W (Hv W o H) (some x) d) : Rel W B o (upd H a x) σ (ρ.set i (Sl.own d)) c := by
  have f := R.fr i a ho
  have vis : ∀ b u, b ≠ a → H b = some u → upd H a x b = some u := fun b u n h => by rw [upd_ne n]; exact h
  have sm : Same (Hv W o H) (Hv W o (upd H a x)) := off_to fun b u n h => ⟨n, vis b u (fun e => n (.inr ⟨i, by rw [e]; exact ho⟩)) h⟩
  have li := (List.getElem?_eq_some_iff.mp hi).1
  have ba : B.h a = none := by
    rcases f.2.2 with f | f
    · exact f.2
    · omega
  refine ⟨by rw [List.length_set]; exact R.len, fun b u h => ?_, fun b hb => ?_, fun j e h => ?_, fun j e h => ?_, R.inj, fun j b h => ?_, R.bd, fun p e => ?_⟩
  · obtain ⟨h1, h2⟩ := off_some (R.base b u h)
    refine off_get (vis b u (fun z => ?_) h1) h2
    rw [z, ba] at h
    cases h
  · obtain ⟨j, h1, h2⟩ := R.keep b hb
    exact ⟨j, by rw [List.length_set]; exact h1, h2⟩
  · rcases set_get h with ⟨rfl, hl, e1⟩ | ⟨n, h⟩
    · cases e1
    · obtain ⟨u, h1, h2⟩ := R.slot j e h
      exact ⟨u, h1, h2.mono sm _ _⟩
  · rcases set_get h with ⟨rfl, hl, e1⟩ | ⟨n, h⟩
    · cases e1
      obtain ⟨b, h1, h2, h3⟩ := R.own i d0 hi
      rw [ho] at h1
      cases h1
      exact ⟨a, ho, h2, by rw [upd_same]; exact oc.mono sm⟩
    · obtain ⟨b, h1, h2, h3⟩ := R.own j e h
      have hne : b ≠ a := fun z => by
        subst z
        have := R.inj j i b h1 ho
        omega
      exact ⟨b, h1, h2, by rw [upd_ne hne]; exact h3.mono sm⟩
  · obtain ⟨h2, ⟨u, h3⟩, h4⟩ := R.fr j b h
    refine ⟨h2, ?_, ?_⟩
    · by_cases z : b = a
      · subst z; exact ⟨x, upd_same⟩
      · exact ⟨u, vis b u z h3⟩
    · rcases h4 with ⟨⟨e2, h4⟩, h5⟩ | h4
      · by_cases z : i = j
        · subst z; exact .inl ⟨⟨d, set_at li⟩, h5⟩
        · exact .inl ⟨⟨e2, by rw [set_off z]; exact h4⟩, h5⟩
      · exact .inr (by rw [List.length_set]; exact h4)
  · exact (R.box p e).upd (fun z => f.1 (by rw [← z]; exact e))
/-- something owned behind the slots is changed -/
theorem Rel.puta (R : Rel W B o H σ ρ c) (hn : ρ.length ≤ i) (ho : o i = some a) (ba : B.h a = none) : Rel W B o (upd H a x) σ ρ c := by
  have f := R.fr i a ho
  have vis : ∀ b u, b ≠ a → H b = some u → upd H a x b = some u := fun b u n h => by rw [upd_ne n]; exact h
  have sm : Same (Hv W o H) (Hv W o (upd H a x)) := off_to fun b u n h => ⟨n, vis b u (fun e => n (.inr ⟨i, by rw [e]; exact ho⟩)) h⟩
  refine ⟨R.len, fun b u h => ?_, R.keep, fun j e h => ?_, fun j e h => ?_, R.inj, fun j b h => ?_, R.bd, fun p e => ?_⟩
  · obtain ⟨h1, h2⟩ := off_some (R.base b u h)
    refine off_get (vis b u (fun z => ?_) h1) h2
    rw [z, ba] at h
    cases h
  · obtain ⟨u, h1, h2⟩ := R.slot j e h
    exact ⟨u, h1, h2.mono sm _ _⟩
  · obtain ⟨b, h1, h2, h3⟩ := R.own j e h
    have lj := (List.getElem?_eq_some_iff.mp h).1
    have hne : b ≠ a := fun z => by
      subst z
      have := R.inj j i b h1 ho
      omega
    exact ⟨b, h1, h2, by rw [upd_ne hne]; exact h3.mono sm⟩
  · obtain ⟨h2, ⟨u, h3⟩, h4⟩ := R.fr j b h
    refine ⟨h2, ?_, h4⟩
    by_cases z : b = a
    · subst z; exact ⟨x, upd_same⟩
    · exact ⟨u, vis b u z h3⟩
  · exact (R.box p e).upd (fun z => f.1 (by rw [← z]; exact e))
/-- a new object, owned behind the slots -/
theorem Rel.adda (R : Rel W B o H σ ρ c) (n0 : H a = none) : B.h a = none ∧ ∃ n, ρ.length ≤ n ∧ o n = none ∧ Rel W ⟨B.h, fun b => B.s b ∨ b = a⟩ (fun j => if j = n then some a else o j) (upd H a x) σ ρ c ∧ ∀ b, Hid W (fun j => if j = n then some a else o j) b ↔ Hid W o b ∨ b = a := by
  obtain ⟨N, hN⟩ := R.bd
  have ba : B.h a = none := by
    cases q : B.h a with
    | none => rfl
    | some u =>
      have := (off_some (R.base a u q)).1
      rw [n0] at this
      cases this
  refine ⟨ba, max N ρ.length, by omega, hN _ (by omega), ?_, ?_⟩
  · have R' := R.same (same_new (o := x) n0)
    have na : W.pb ≠ some a := R.box.ne n0
    have no_a : ∀ j, o j ≠ some a := fun j e => by
      obtain ⟨_, ⟨u, h3⟩, _⟩ := R.fr j a e
      rw [n0] at h3
      cases h3
    have vis : Same (Hv W o H) (Hv W (fun j => if j = max N ρ.length then some a else o j) (upd H a x)) := off_to fun e u n g => by
      refine ⟨fun m => ?_, (same_new n0) _ _ g⟩
      rcases m with m | ⟨j, m⟩
      · exact n (.inl m)
      · dsimp only at m
        split at m
        · cases m
          rw [n0] at g
          cases g
        · exact n (.inr ⟨j, m⟩)
    refine ⟨R.len, R'.base, fun b hb => ?_, fun j e h => ?_, fun j e h => ?_, fun j k e h1 h2 => ?_, fun j e h => ?_, ⟨max N ρ.length + 1, fun j hj => ?_⟩, R'.box⟩
    · rcases hb with hb | rfl
      · obtain ⟨j, h1, h2⟩ := R.keep b hb
        refine ⟨j, h1, ?_⟩
        have : j ≠ max N ρ.length := fun z => by rw [z, hN _ (by omega)] at h2; cases h2
        rw [if_neg this]
        exact h2
      · exact ⟨max N ρ.length, by omega, if_pos rfl⟩
    · obtain ⟨u, h1, h2⟩ := R.slot j e h
      exact ⟨u, h1, h2.mono vis _ _⟩
    · obtain ⟨b, h1, h2, h3⟩ := R.own j e h
      have lj := (List.getElem?_eq_some_iff.mp h).1
      have hne : b ≠ a := fun z => no_a j (by rw [← z]; exact h1)
      refine ⟨b, ?_, h2, by rw [upd_ne hne]; exact h3.mono vis⟩
      rw [if_neg (by omega)]
      exact h1
    · split at h1
      · split at h2
        · omega
        · cases h1
          exact absurd h2 (no_a _)
      · split at h2
        · cases h2
          exact absurd h1 (no_a _)
        · exact R.inj j k e h1 h2
    · split at h
      · rename_i z
        cases h
        exact ⟨na, ⟨x, upd_same⟩, .inr ⟨by omega, .inr rfl⟩⟩
      · obtain ⟨h2, h3, h4⟩ := R'.fr j e h
        exact ⟨h2, h3, h4.imp id fun h => ⟨h.1, .inl h.2⟩⟩
    · rw [if_neg (by omega)]
      exact hN j (by omega)
  · intro b
    constructor
    · rintro (m | ⟨j, m⟩)
      · exact .inl (.inl m)
      · dsimp only at m
        split at m
        · cases m; exact .inr rfl
        · exact .inl (.inr ⟨j, m⟩)
    · rintro ((m | ⟨j, m⟩) | rfl)
      · exact .inl m
      · refine .inr ⟨j, ?_⟩
        have : j ≠ max N ρ.length := fun z => by rw [z, hN _ (by omega)] at m; cases m
        dsimp only
        rw [if_neg this]
        exact m
      · exact .inr ⟨max N ρ.length, by dsimp only; rw [if_pos rfl]⟩
/-- slot i's object is no longer its own -/
theorem Rel.share (R : Rel W B o H σ ρ c) (hi : ρ[i]? = some (Sl.own d)) : Rel W B (drop ρ.length o i) H σ (ρ.set i (Sl.v d)) c := by
  obtain ⟨a, h1, h2, h3⟩ := R.own i d hi
  have li := (List.getElem?_eq_some_iff.mp hi).1
  have e : σ.set i (some (.ref a)) = σ := by
    apply List.ext_getElem?
    intro j
    by_cases z : i = j
    · subst z; rw [h2]; exact set_at (by rw [R.len]; exact li)
    · exact set_off z
  obtain ⟨u, hu⟩ := h3.has
  have nh : ¬ Hid W (drop ρ.length o i) a := fun m => by
    rcases m with m | ⟨j, m⟩
    · exact (R.fr i a h1).1 m
    · have := R.inj j i a (drop_le _ _ m) h1
      subst this
      unfold drop at m
      rw [if_pos ⟨rfl, li⟩] at m
      cases m
  have dn : Dn W (Hv W (drop ρ.length o i) H) (.ref a) d := by
    refine OwnC.dn ?_
    have z : Hv W (drop ρ.length o i) H a = H a := by rw [hu]; exact off_get hu nh
    rw [z]
    exact h3.mono (hv_le drop_le)
  have R2 := R.setv (i := i) (v := .non) (d := .non) .non
  refine ⟨by rw [List.length_set]; exact R.len, R.base, fun b hb => by obtain ⟨j, k1, k2⟩ := R2.keep b hb; exact ⟨j, by rw [List.length_set] at k1 ⊢; exact k1, k2⟩, fun j x h => ?_, fun j x h => ?_, R2.inj, fun j b h => ?_, R2.bd, R.box⟩
  · rcases set_get h with ⟨rfl, hl, e1⟩ | ⟨n, h⟩
    · cases e1
      exact ⟨_, h2, dn⟩
    · obtain ⟨v, k1, k2⟩ := R.slot j x h
      exact ⟨v, k1, k2.mono (hv_le drop_le) _ _⟩
  · rcases set_get h with ⟨rfl, hl, e1⟩ | ⟨n, h⟩
    · cases e1
    · obtain ⟨b, k1, k2, k3⟩ := R.own j x h
      have lj := (List.getElem?_eq_some_iff.mp h).1
      refine ⟨b, ?_, k2, k3.mono (hv_le drop_le)⟩
      unfold drop
      rw [if_neg (by omega)]
      exact k1
  · obtain ⟨k2, k3, k4⟩ := R2.fr j b h
    refine ⟨k2, k3, ?_⟩
    rcases k4 with ⟨⟨x, k4⟩, k5⟩ | k4
    · rcases set_get k4 with ⟨rfl, hl, e1⟩ | ⟨n, k4⟩
      · cases e1
      · have : i ≠ j := fun z => by
          subst z
          unfold drop at h
          rw [if_pos ⟨rfl, li⟩] at h
          cases h
        exact .inl ⟨⟨x, by rw [set_off this]; exact k4⟩, k5⟩
    · exact .inr (by rw [List.length_set] at k4 ⊢; exact k4)
/-- a later entry, and back -/
theorem Rel.at (R : Rel W B o H σ ρ c) : Rel W ⟨Off (fun b => Hid W o b ∧ ¬ B.s b) H, B.s⟩ o H σ ρ c where
  len := R.len
  base := off_to fun b u n h => by
    refine ⟨fun m => ?_, h⟩
    rcases m with m | ⟨_, m⟩
    · refine n ⟨.inl m, fun z => ?_⟩
      obtain ⟨i, _, h2⟩ := R.keep b z
      exact (R.fr i b h2).1 m
    · cases m
  keep := R.keep
  slot := R.slot
  own := R.own
  inj := R.inj
  fr := fun i a h => by
    obtain ⟨h2, h3, h4⟩ := R.fr i a h
    refine ⟨h2, h3, ?_⟩
    rcases h4 with z | h4
    rotate_left
    · exact .inr h4
    have hh : Hid W o a := .inr ⟨i, h⟩
    have nq : ¬ B.s a := fun q => by
      obtain ⟨j, k1, k2⟩ := R.keep a q
      have := R.inj i j a h k2
      subst this
      obtain ⟨⟨d, z1⟩, _⟩ := z
      have := (List.getElem?_eq_some_iff.mp z1).1
      omega
    exact .inl ⟨z.1, off_hid (S := fun b => Hid W o b ∧ ¬ B.s b) ⟨hh, nq⟩⟩
  bd := R.bd
  box := R.box
theorem Rel.atSeen (R : Rel W B o H σ ρ c) : Same (Hv W o H) (Off B.s (Off (fun b => Hid W o b ∧ ¬ B.s b) H)) := fun b u h => by
  obtain ⟨h1, h2⟩ := off_some h
  refine off_get (off_get h1 fun z => h2 z.1) fun z => h2 ?_
  obtain ⟨j, k1, k2⟩ := R.keep b z
  exact .inr ⟨j, k2⟩
theorem Rel.atBase (R : Rel W B o H σ ρ c) : Same B.h (Off (fun b => Hid W o b ∧ ¬ B.s b) H) := fun b u h => by
  obtain ⟨h1, h2⟩ := off_some (R.base b u h)
  refine off_get h1 fun z => ?_
  rcases z.1 with m | ⟨i, m⟩
  · exact h2 (.inl m)
  · rcases (R.fr i b m).2.2 with k | k
    · rw [k.2] at h; cases h
    · exact z.2 k.2
theorem Rel.back {B' : Bs} (R : Rel W B' o H σ ρ c) (s : Same B.h B'.h) (e : B'.s = B.s) : Rel W B o H σ ρ c where
  len := R.len
  base := s.trans R.base
  keep := by rw [← e]; exact R.keep
  slot := R.slot
  own := R.own
  inj := R.inj
  fr := fun i a h => by
    obtain ⟨h2, h3, h4⟩ := R.fr i a h
    exact ⟨h2, h3, h4.imp (fun z => ⟨z.1, s.free z.2⟩) (by rw [← e]; exact id)⟩
  bd := R.bd
  box := R.box
end
/-- data that may be owned by a slot: to be read at once -/
def DB (W : Wd) (o : Own) (H : Hp) (v : V) (d : D) : Prop := Dn W (Hv W o H) v d ∨ ∃ a i, v = .ref a ∧ o i = some a ∧ W.pb ≠ some a ∧ OwnC W (Hv W o H) (H a) d
section
variable {W : Wd} {H H' : Hp} {o : Own} {v : V} {d : D}
theorem DB.ext (h : DB W o H v d) (s : St W H H') : DB W o H' v d := by
  rcases h with h | ⟨a, i, rfl, h1, h2, h3⟩
  · exact .inl (dn_ext h s)
  · obtain ⟨u, hu⟩ := h3.has
    have g := s a u h2 hu
    rw [hu] at h3
    exact .inr ⟨a, i, rfl, h1, h2, by rw [g]; exact h3.mono s.hv⟩
theorem DB.lst {ds : List D} (h : DB W o H v (.lst ds)) : ∃ a vs, v = .ref a ∧ H a = some (.lst vs) ∧ DnAll W (Hv W o H) vs ds := by
  rcases h with h | ⟨a, i, rfl, h1, h2, h3⟩
  · cases h with
    | lst h1 h2 => exact ⟨_, _, rfl, (off_some h1).1, h2⟩
  · generalize e : H a = x at h3
    cases h3 with
    | lst h => exact ⟨a, _, rfl, e, h⟩
theorem DB.tup {ds : List D} (h : DB W o H v (.tup ds)) : ∃ a vs, v = .ref a ∧ SqT W.K H a vs ∧ DnAll W (Hv W o H) vs ds := by
  rcases h with h | ⟨a, i, rfl, h1, h2, h3⟩
  · cases h with
    | tup h1 h2 => exact ⟨_, _, rfl, Same.seqT off_same h1, h2⟩
  · generalize e : H a = x at h3
    cases h3
theorem DB.str {l : List Nat} (h : DB W o H v (.str l)) : v = .str (tx l) := by
  rcases h with h | ⟨a, i, rfl, h1, h2, h3⟩
  · cases h; rfl
  · generalize e : H a = x at h3
    cases h3
theorem DB.int {i : Int} (h : DB W o H v (.int i)) : v = .int i := by
  rcases h with h | ⟨a, j, rfl, h1, h2, h3⟩
  · cases h; rfl
  · generalize e : H a = x at h3
    cases h3
theorem DB.bl {b : Bool} (h : DB W o H v (.bl b)) : v = .bl b := by
  rcases h with h | ⟨a, j, rfl, h1, h2, h3⟩
  · cases h; rfl
  · generalize e : H a = x at h3
    cases h3
theorem DB.non (h : DB W o H v .non) : v = .non := by
  rcases h with h | ⟨a, j, rfl, h1, h2, h3⟩
  · cases h; rfl
  · generalize e : H a = x at h3
    cases h3
theorem DB.dic {ds : List (D × D)} (h : DB W o H v (.dic ds)) : ∃ a, v = .ref a ∧ ((∃ kvs, H a = some (.dK kvs) ∧ DnKv W (Hv W o H) (kvs.map fun p => (kD p.1, p.2)) ds) ∨ ∃ kvs, H a = some (.dT kvs) ∧ DnKv W (Hv W o H) (kvs.map fun p => (tD p.1, p.2)) ds) := by
  rcases h with h | ⟨a, j, rfl, h1, h2, h3⟩
  · cases h with
    | dK h1 h2 => exact ⟨_, rfl, .inl ⟨_, (off_some h1).1, h2⟩⟩
    | dT h1 h2 => exact ⟨_, rfl, .inr ⟨_, (off_some h1).1, h2⟩⟩
  · generalize e : H a = x at h3
    cases h3 with
    | dK h => exact ⟨a, rfl, .inl ⟨_, e, h⟩⟩
    | dT h => exact ⟨a, rfl, .inr ⟨_, e, h⟩⟩
/-- in the whole heap it is data -/
theorem DB.dn (h : DB W o H v d) : Dn W H v d := by
  rcases h with h | ⟨a, i, rfl, h1, h2, h3⟩
  · exact h.mono hv_same _ _
  · exact OwnC.dn (h3.mono hv_same)
end
end Pu
set_option Elab.async false
set_option linter.all false
set_option maxRecDepth 100000
set_option maxHeartbeats 4000000
/-! Pu2: pure readings of expressions, and that they are right. -/
namespace Pu
open PySem PySem.Spec PyProof.Rows L2 SL
abbrev PQ := D → Nat → Prop
abbrev PXc := Nat → Str → D → Prop
abbrev FX := PEnv → Nat → PQ → PXc → Prop
abbrev FA := PEnv → Nat → (List D → Nat → Prop) → PXc → Prop
abbrev FT := PEnv → Nat → (Bool → Nat → Prop) → PXc → Prop
abbrev FO := PEnv → Nat → (Option Int → Nat → Prop) → PXc → Prop
def wpO {α : Type} (o : Option α) (Q : α → Prop) : Prop := ∃ z, o = some z ∧ Q z
theorem wpO_some {α : Type} {z : α} {Q : α → Prop} : wpO (some z) Q = Q z := propext ⟨fun ⟨_, e, h⟩ => by cases e; exact h, fun h => ⟨z, rfl, h⟩⟩
theorem wpO_of {α : Type} {o : Option α} {z : α} {Q : α → Prop} (e : o = some z) (h : Q z) : wpO o Q := ⟨z, e, h⟩
/-- what is wished of an error that leaves from here -/
def XR (W : Wd) (B : Bs) (o : Own) (σ : SSt) (ρ : PEnv) (E : WX) (X : PXc) : Prop :=
  ∀ H c x d v dd, Rel W B o H σ ρ c → X c x d → Hv W o H dd = some (xdG v) → Dn W (Hv W o H) v d → E (.ref (errAt W.mg x)) (some dd) σ H
def LE (W : Wd) (E : WX) (te : TE) (f : FX) : Prop := ∀ (B : Bs) (o : Own) (H : Hp) (σ : SSt) (ρ : PEnv) (c : Nat) (Q : VK) (Q' : PQ) (X : PXc), Rel W B o H σ ρ c → XR W B o σ ρ E X → f ρ c Q' X →
  (∀ d c' v H', Q' d c' → St W H H' → BoxO W H' c' → Dn W (Hv W o H') v d → Q v H') → te σ H Q
def LB (W : Wd) (E : WX) (te : TE) (f : FX) : Prop := ∀ (B : Bs) (o : Own) (H : Hp) (σ : SSt) (ρ : PEnv) (c : Nat) (Q : VK) (Q' : PQ) (X : PXc), Rel W B o H σ ρ c → XR W B o σ ρ E X → f ρ c Q' X →
  (∀ d c' v H', Q' d c' → St W H H' → BoxO W H' c' → DB W o H' v d → Q v H') → te σ H Q
def LF (W : Wd) (E : WX) (te : TE) (f : FX) : Prop := ∀ (B : Bs) (o : Own) (H : Hp) (σ : SSt) (ρ : PEnv) (c : Nat) (Q : VK) (Q' : PQ) (X : PXc), Rel W B o H σ ρ c → XR W B o σ ρ E X → f ρ c Q' X →
  (∀ d c' a H', Q' d c' → H a = none → St W H H' → BoxO W H' c' → OwnC W (Off (fun b => Hid W o b ∨ b = a) H') (H' a) d → Q (.ref a) H') → te σ H Q
def LA (W : Wd) (E : WX) (ta : TA) (f : FA) : Prop := ∀ (B : Bs) (o : Own) (H : Hp) (σ : SSt) (ρ : PEnv) (c : Nat) (Q : List V → Hp → Prop) (Q' : List D → Nat → Prop) (X : PXc), Rel W B o H σ ρ c → XR W B o σ ρ E X → f ρ c Q' X →
  (∀ ds c' vs H', Q' ds c' → St W H H' → BoxO W H' c' → DnAll W (Hv W o H') vs ds → Q vs H') → ta σ H Q
inductive DBs (W : Wd) (o : Own) (H : Hp) : List V → List D → Prop
  | nil : DBs W o H [] []
  | cons {v : V} {vs : List V} {d : D} {ds : List D} : DB W o H v d → DBs W o H vs ds → DBs W o H (v :: vs) (d :: ds)
/-- arguments that are read at once -/
def LAB (W : Wd) (E : WX) (ta : TA) (f : FA) : Prop := ∀ (B : Bs) (o : Own) (H : Hp) (σ : SSt) (ρ : PEnv) (c : Nat) (Q : List V → Hp → Prop) (Q' : List D → Nat → Prop) (X : PXc), Rel W B o H σ ρ c → XR W B o σ ρ E X → f ρ c Q' X →
  (∀ ds c' vs H', Q' ds c' → St W H H' → BoxO W H' c' → DBs W o H' vs ds → Q vs H') → ta σ H Q
def LT (W : Wd) (E : WX) (tt : TT) (f : FT) : Prop := ∀ (B : Bs) (o : Own) (H : Hp) (σ : SSt) (ρ : PEnv) (c : Nat) (Q : Bool → Hp → Prop) (Q' : Bool → Nat → Prop) (X : PXc), Rel W B o H σ ρ c → XR W B o σ ρ E X → f ρ c Q' X →
  (∀ b c' H', Q' b c' → St W H H' → BoxO W H' c' → Q b H') → tt σ H Q
def LO (W : Wd) (E : WX) (tt : TO) (f : FO) : Prop := ∀ (B : Bs) (o : Own) (H : Hp) (σ : SSt) (ρ : PEnv) (c : Nat) (Q : Option Int → Hp → Prop) (Q' : Option Int → Nat → Prop) (X : PXc), Rel W B o H σ ρ c → XR W B o σ ρ E X → f ρ c Q' X →
  (∀ b c' H', Q' b c' → St W H H' → BoxO W H' c' → Q b H') → tt σ H Q
section
variable {W : Wd} {E : WX} {te ta tb tc : TE} {f fa fb fc : FX} {tas : TA} {fas : FA} {tt tu : TT} {ft fu : FT}
theorem LE.lb (h : LE W E te f) : LB W E te f := fun B o H σ ρ c Q Q' X R x hf k => h B o H σ ρ c Q Q' X R x hf fun d c' v H' q s b dn => k d c' v H' q s b (.inl dn)
theorem own_new {o : Own} {H H' : Hp} {a : Addr} (h : H a = none) (s : St W H H') : Same (Hv W o H) (Off (fun b => Hid W o b ∨ b = a) H') := off_to fun b u n g =>
  ⟨fun m => m.elim n fun e => (by rw [e, h] at g; cases g), s b u (fun e => n (.inl e)) g⟩
theorem LF.le (h : LF W E te f) : LE W E te f := fun B o H σ ρ c Q Q' X R x hf k => h B o H σ ρ c Q Q' X R x hf fun d c' a H' q n s b oc => by
  refine k d c' _ H' q s b (OwnC.dn ?_)
  obtain ⟨u, hu⟩ := oc.has
  have e : Hv W o H' a = H' a := by rw [hu]; exact off_get hu (R.hid n)
  rw [e]
  exact oc.mono (off_le fun b m => .inl m)
/-! slots, constants -/
def fV (i : Nat) : FX := fun ρ c Q _ => match ρ[i]? with | some (Sl.v d) => Q d c | _ => False
def fB (i : Nat) : FX := fun ρ c Q _ => match ρ[i]? with | some (Sl.v d) => Q d c | some (Sl.own d) => Q d c | _ => False
def fC (d : D) : FX := fun _ c Q _ => Q d c
theorem le_v (i : Nat) : LE W E (tVar i) (fV i) := fun B o H σ ρ c Q Q' X R x hf k => by
  unfold fV at hf
  split at hf
  · rename_i d e
    obtain ⟨v, h1, h2⟩ := R.slot i d e
    exact ⟨v, h1, k d c v H hf St.refl R.box h2⟩
  · exact hf.elim
theorem lb_v (i : Nat) : LB W E (tVar i) (fB i) := fun B o H σ ρ c Q Q' X R x hf k => by
  unfold fB at hf
  split at hf
  · rename_i d e
    obtain ⟨v, h1, h2⟩ := R.slot i d e
    exact ⟨v, h1, k d c v H hf St.refl R.box (.inl h2)⟩
  · rename_i d e
    obtain ⟨a, h1, h2, h3⟩ := R.own i d e
    exact ⟨.ref a, h2, k d c _ H hf St.refl R.box (.inr ⟨a, i, rfl, h1, (R.fr i a h1).1, h3⟩)⟩
  · exact hf.elim
/-- a constant -/
inductive CD : V → D → Prop
  | non : CD .non .non
  | bl (b : Bool) : CD (.bl b) (.bl b)
  | int (i : Int) : CD (.int i) (.int i)
  | str (l : List Nat) : CD (.str (tx l)) (.str l)
theorem CD.dn {v : V} {d : D} {M : Hp} (h : CD v d) : Dn W M v d := by cases h <;> constructor
theorem le_c {v : V} {d : D} (h : CD v d) : LE W E (tC v) (fC d) := fun B o H σ ρ c Q Q' X R x hf k => k d c v H hf St.refl R.box h.dn
/-! operators -/
def LO2 (W : Wd) (r : R2) (g : D → D → Option D) : Prop := ∀ (o : Own) (H : Hp) x y d e z (Q : VK), (∀ a, H a = none → ¬ Hid W o a) → DB W o H x d → DB W o H y e → g d e = some z → (∀ v H', Same H H' → Dn W (Hv W o H') v z → Q v H') → r x y H Q
def LOF (W : Wd) (r : R2) (g : D → D → Option D) : Prop := ∀ (o : Own) (H : Hp) x y d e z (Q : VK), (∀ a, H a = none → ¬ Hid W o a) → DB W o H x d → DB W o H y e → g d e = some z → (∀ a H', H a = none → Same H H' → OwnC W (Off (fun b => Hid W o b ∨ b = a) H') (H' a) z → Q (.ref a) H') → r x y H Q
def fO2 (g : D → D → Option D) (fa fb : FX) : FX := fun ρ c Q X => fa ρ c (fun x c1 => fb ρ c1 (fun y c2 => wpO (g x y) fun z => Q z c2) X) X
theorem le_o2 {r : R2} {g : D → D → Option D} (ho : LO2 W r g) (ha : LB W E ta fa) (hb : LB W E tb fb) : LE W E (tOp r ta tb) (fO2 g fa fb) := fun B o H σ ρ c Q Q' X R x hf k => by
  refine ha B o H σ ρ c _ _ X R x hf fun d c1 v H1 q s b dn => ?_
  have R1 := R.ext s b
  refine hb B o H1 σ ρ c1 _ _ X R1 x q fun e c2 w H2 q2 s2 b2 dn2 => ?_
  obtain ⟨z, hz, q3⟩ := q2
  exact ho o H2 v w d e z Q (fun a h => (R1.ext s2 b2).hid h) (dn.ext s2) dn2 hz fun u H3 s3 dn3 => k z c2 u H3 q3 (s.trans (s2.trans (.of s3))) (b2.same s3) dn3
theorem lf_o2 {r : R2} {g : D → D → Option D} (ho : LOF W r g) (ha : LB W E ta fa) (hb : LB W E tb fb) : LF W E (tOp r ta tb) (fO2 g fa fb) := fun B o H σ ρ c Q Q' X R x hf k => by
  refine ha B o H σ ρ c _ _ X R x hf fun d c1 v H1 q s b dn => ?_
  have R1 := R.ext s b
  refine hb B o H1 σ ρ c1 _ _ X R1 x q fun e c2 w H2 q2 s2 b2 dn2 => ?_
  obtain ⟨z, hz, q3⟩ := q2
  have R2 := R1.ext s2 b2
  exact ho o H2 v w d e z Q (fun a h => R2.hid h) (dn.ext s2) dn2 hz fun a H3 n s3 oc => k z c2 a H3 q3 ((s.trans s2).none (R2.box.ne n) n) (s.trans (s2.trans (.of s3))) (b2.same s3) oc
def LO1 (W : Wd) (r : V → Hp → VK → Prop) (g : D → Option D) : Prop := ∀ (o : Own) (H : Hp) x d z (Q : VK), (∀ a, H a = none → ¬ Hid W o a) → DB W o H x d → g d = some z → (∀ v H', Same H H' → Dn W (Hv W o H') v z → Q v H') → r x H Q
def fO1 (g : D → Option D) (fa : FX) : FX := fun ρ c Q X => fa ρ c (fun x c1 => wpO (g x) fun z => Q z c1) X
theorem le_o1 {r : V → Hp → VK → Prop} {g : D → Option D} (ho : LO1 W r g) (ha : LB W E ta fa) : LE W E (tUn r ta) (fO1 g fa) := fun B o H σ ρ c Q Q' X R x hf k => by
  refine ha B o H σ ρ c _ _ X R x hf fun d c1 v H1 q s b dn => ?_
  obtain ⟨z, hz, q3⟩ := q
  exact ho o H1 v d z Q (fun a h => (R.ext s b).hid h) dn hz fun u H3 s3 dn3 => k z c1 u H3 q3 (s.trans (.of s3)) (b.same s3) dn3
def gNeg : D → Option D | .int i => some (.int (-i)) | _ => none
theorem lo_neg : LO1 W (rU fun i => .int (-i)) gNeg := fun o H x d z Q hh dx e k => by
  unfold gNeg at e
  split at e
  · cases e
    cases dx.int
    exact ⟨_, rfl, k _ _ (Same.refl _) (.int _)⟩
  · cases e
/-! truth values -/
def bD : D → Option Bool | .bl b => some b | _ => none
theorem bD_of {d : D} {b : Bool} (h : bD d = some b) : d = .bl b := by
  unfold bD at h
  split at h
  · cases h; rfl
  · cases h
def fNotV (fa : FX) : FX := fun ρ c Q X => fa ρ c (fun x c1 => wpO (bD x) fun b => Q (.bl (!b)) c1) X
theorem le_notV (ha : LE W E ta fa) : LE W E (tNotV ta) (fNotV fa) := fun B o H σ ρ c Q Q' X R x hf k => by
  refine ha B o H σ ρ c _ _ X R x hf fun d c1 v H1 q s b dn => ?_
  obtain ⟨z, hz, q3⟩ := q
  obtain rfl := bD_of hz
  cases dn
  exact ⟨_, rfl, k _ _ _ _ q3 s b (.bl _)⟩
def fAndV (fa fb : FX) : FX := fun ρ c Q X => fa ρ c (fun x c1 => wpO (bD x) fun b => if b = true then fb ρ c1 Q X else Q (.bl false) c1) X
theorem le_andV (ha : LE W E ta fa) (hb : LE W E tb fb) : LE W E (tAndV ta tb) (fAndV fa fb) := fun B o H σ ρ c Q Q' X R x hf k => by
  refine ha B o H σ ρ c _ _ X R x hf fun d c1 v H1 q s b dn => ?_
  obtain ⟨z, hz, q3⟩ := q
  obtain rfl := bD_of hz
  cases dn
  refine ⟨_, rfl, ?_⟩
  cases z with
  | true =>
    rw [if_pos rfl] at q3 ⊢
    exact hb B o H1 σ ρ c1 Q Q' X (R.ext s b) x q3 fun e c2 w H2 q2 s2 b2 dn2 => k e c2 w H2 q2 (s.trans s2) b2 dn2
  | false =>
    rw [if_neg (by decide)] at q3 ⊢
    exact k _ _ _ _ q3 s b (.bl _)
def fOrV (fa fb : FX) : FX := fun ρ c Q X => fa ρ c (fun x c1 => wpO (bD x) fun b => if b = true then Q (.bl true) c1 else fb ρ c1 Q X) X
theorem le_orV (ha : LE W E ta fa) (hb : LE W E tb fb) : LE W E (tOrV ta tb) (fOrV fa fb) := fun B o H σ ρ c Q Q' X R x hf k => by
  refine ha B o H σ ρ c _ _ X R x hf fun d c1 v H1 q s b dn => ?_
  obtain ⟨z, hz, q3⟩ := q
  obtain rfl := bD_of hz
  cases dn
  refine ⟨_, rfl, ?_⟩
  cases z with
  | true =>
    rw [if_pos rfl] at q3 ⊢
    exact k _ _ _ _ q3 s b (.bl _)
  | false =>
    rw [if_neg (by decide)] at q3 ⊢
    exact hb B o H1 σ ρ c1 Q Q' X (R.ext s b) x q3 fun e c2 w H2 q2 s2 b2 dn2 => k e c2 w H2 q2 (s.trans s2) b2 dn2
def fChain (g g' : D → D → Option D) (fa fb fc : FX) : FX := fun ρ c Q X => fa ρ c (fun x c1 => fb ρ c1 (fun y c2 => wpO (g x y) fun z => wpO (bD z) fun b => if b = true then fc ρ c2 (fun w c3 => wpO (g' y w) fun u => Q u c3) X else Q (.bl false) c2) X) X
theorem le_chain {r r' : R2} {g g' : D → D → Option D} (ho : LO2 W r g) (ho' : LO2 W r' g') (ha : LB W E ta fa) (hb : LB W E tb fb) (hc : LB W E tc fc) : LE W E (tChain r r' ta tb tc) (fChain g g' fa fb fc) := fun B o H σ ρ c Q Q' X R x hf k => by
  refine ha B o H σ ρ c _ _ X R x hf fun d c1 v H1 q s b dn => ?_
  have R1 := R.ext s b
  refine hb B o H1 σ ρ c1 _ _ X R1 x q fun e c2 w H2 q2 s2 b2 dn2 => ?_
  have R2 := R1.ext s2 b2
  obtain ⟨z, hz, z2, hz2, q3⟩ := q2
  obtain rfl := bD_of hz2
  refine ho o H2 v w d e _ _ (fun a h => R2.hid h) (dn.ext s2) dn2 hz fun u H3 s3 dn3 => ?_
  have R3 := R2.ext (.of s3) (b2.same s3)
  cases dn3
  refine ⟨_, rfl, ?_⟩
  cases z2 with
  | true =>
    rw [if_pos rfl] at q3 ⊢
    refine hc B o H3 σ ρ c2 _ _ X R3 x q3 fun e4 c4 w4 H4 q4 s4 b4 dn4 => ?_
    obtain ⟨z5, hz5, q5⟩ := q4
    exact ho' o H4 w w4 e e4 z5 Q (fun a h => (R3.ext s4 b4).hid h) ((dn2.ext (.of s3)).ext s4) dn4 hz5 fun u H5 s5 dn5 => k z5 c4 u H5 q5 (s.trans (s2.trans ((St.of s3).trans (s4.trans (.of s5))))) (b4.same s5) dn5
  | false =>
    rw [if_neg (by decide)] at q3 ⊢
    exact k _ _ _ _ q3 (s.trans (s2.trans (.of s3))) (b2.same s3) (.bl _)
def fIf (ft : FT) (fa fb : FX) : FX := fun ρ c Q X => ft ρ c (fun b c1 => if b = true then fa ρ c1 Q X else fb ρ c1 Q X) X
theorem le_if (ht : LT W E tt ft) (ha : LE W E ta fa) (hb : LE W E tb fb) : LE W E (tIf tt ta tb) (fIf ft fa fb) := fun B o H σ ρ c Q Q' X R x hf k => by
  refine ht B o H σ ρ c _ _ X R x hf fun z c1 H1 q s b => ?_
  cases z with
  | true =>
    rw [if_pos rfl] at q ⊢
    exact ha B o H1 σ ρ c1 Q Q' X (R.ext s b) x q fun e c2 w H2 q2 s2 b2 dn2 => k e c2 w H2 q2 (s.trans s2) b2 dn2
  | false =>
    rw [if_neg (by decide)] at q ⊢
    exact hb B o H1 σ ρ c1 Q Q' X (R.ext s b) x q fun e c2 w H2 q2 s2 b2 dn2 => k e c2 w H2 q2 (s.trans s2) b2 dn2
/-! tests -/
def fTv (fa : FX) : FT := fun ρ c Q X => fa ρ c (fun x c1 => wpO (bD x) fun b => Q b c1) X
theorem lt_B (ha : LE W E ta fa) : LT W E (tB ta) (fTv fa) := fun B o H σ ρ c Q Q' X R x hf k => by
  refine ha B o H σ ρ c _ _ X R x hf fun d c1 v H1 q s b dn => ?_
  obtain ⟨z, hz, q3⟩ := q
  obtain rfl := bD_of hz
  cases dn
  exact ⟨_, rfl, k _ _ _ q3 s b⟩
theorem lt_test (ha : LE W E ta fa) : LT W E (tTest ta) (fTv fa) := lt_B ha
def fTand (ft fu : FT) : FT := fun ρ c Q X => ft ρ c (fun b c1 => if b = true then fu ρ c1 Q X else Q false c1) X
theorem lt_and (ht : LT W E tt ft) (hu : LT W E tu fu) : LT W E (tAnd tt tu) (fTand ft fu) := fun B o H σ ρ c Q Q' X R x hf k => by
  refine ht B o H σ ρ c _ _ X R x hf fun z c1 H1 q s b => ?_
  cases z with
  | true =>
    rw [if_pos rfl] at q ⊢
    exact hu B o H1 σ ρ c1 Q Q' X (R.ext s b) x q fun e c2 H2 q2 s2 b2 => k e c2 H2 q2 (s.trans s2) b2
  | false =>
    rw [if_neg (by decide)] at q ⊢
    exact k _ _ _ q s b
def fTor (ft fu : FT) : FT := fun ρ c Q X => ft ρ c (fun b c1 => if b = true then Q true c1 else fu ρ c1 Q X) X
theorem lt_or (ht : LT W E tt ft) (hu : LT W E tu fu) : LT W E (tOr tt tu) (fTor ft fu) := fun B o H σ ρ c Q Q' X R x hf k => by
  refine ht B o H σ ρ c _ _ X R x hf fun z c1 H1 q s b => ?_
  cases z with
  | true =>
    rw [if_pos rfl] at q ⊢
    exact k _ _ _ q s b
  | false =>
    rw [if_neg (by decide)] at q ⊢
    exact hu B o H1 σ ρ c1 Q Q' X (R.ext s b) x q fun e c2 H2 q2 s2 b2 => k e c2 H2 q2 (s.trans s2) b2
def fTnot (ft : FT) : FT := fun ρ c Q X => ft ρ c (fun b c1 => Q (!b) c1) X
theorem lt_not (ht : LT W E tt ft) : LT W E (tNot tt) (fTnot ft) := fun B o H σ ρ c Q Q' X R x hf k => ht B o H σ ρ c _ _ X R x hf fun z c1 H1 q s b => k _ _ _ q s b
def fYes : FT := fun _ c Q _ => Q true c
theorem lt_yes : LT W E tYes fYes := fun B o H σ ρ c Q Q' X R x hf k => k true c H hf St.refl R.box
/-! arguments -/
def fNil : FA := fun _ c Q _ => Q [] c
def fCons (fa : FX) (fr : FA) : FA := fun ρ c Q X => fa ρ c (fun x c1 => fr ρ c1 (fun xs c2 => Q (x :: xs) c2) X) X
theorem la_nil : LA W E tNil fNil := fun B o H σ ρ c Q Q' X R x hf k => k [] c [] H hf St.refl R.box .nil
theorem la_cons (ha : LE W E ta fa) (hr : LA W E tas fas) : LA W E (tCons ta tas) (fCons fa fas) := fun B o H σ ρ c Q Q' X R x hf k => by
  refine ha B o H σ ρ c _ _ X R x hf fun d c1 v H1 q s b dn => ?_
  refine hr B o H1 σ ρ c1 _ _ X (R.ext s b) x q fun e c2 w H2 q2 s2 b2 dn2 => ?_
  exact k _ c2 _ H2 q2 (s.trans s2) b2 (.cons (dn_ext dn s2) dn2)
theorem lab_nil : LAB W E tNil fNil := fun B o H σ ρ c Q Q' X R x hf k => k [] c [] H hf St.refl R.box .nil
theorem lab_cons (ha : LB W E ta fa) (hr : LAB W E tas fas) : LAB W E (tCons ta tas) (fCons fa fas) := fun B o H σ ρ c Q Q' X R x hf k => by
  refine ha B o H σ ρ c _ _ X R x hf fun d c1 v H1 q s b dn => ?_
  refine hr B o H1 σ ρ c1 _ _ X (R.ext s b) x q fun e c2 w H2 q2 s2 b2 dn2 => ?_
  exact k _ c2 _ H2 q2 (s.trans s2) b2 (.cons (dn.ext s2) dn2)
/-! displays -/
def fTup (fs : FA) : FX := fun ρ c Q X => fs ρ c (fun xs c1 => xs.length ≤ 16777216 ∧ Q (.tup xs) c1) X
theorem le_tup (ha : LA W E tas fas) : LE W E (tTup tas) (fTup fas) := fun B o H σ ρ c Q Q' X R x hf k => by
  refine ha B o H σ ρ c _ _ X R x hf fun ds c1 vs H1 q s b dn => ?_
  have R1 := R.ext s b
  refine ⟨by rw [dn.len, sizeLine_eq]; exact q.1, fun p hp => ?_⟩
  have sn : Same H1 (upd H1 p (.tup vs)) := same_new hp
  exact k _ c1 _ _ q.2 (s.trans (.of sn)) (b.same sn) (.tup (SqT.of (R1.new hp)) (dnall_ext dn (.of sn)))
def fLst (fs : FA) : FX := fun ρ c Q X => fs ρ c (fun xs c1 => xs.length ≤ 16777216 ∧ Q (.lst xs) c1) X
theorem lf_lst (ha : LA W E tas fas) : LF W E (tLst tas) (fLst fas) := fun B o H σ ρ c Q Q' X R x hf k => by
  refine ha B o H σ ρ c _ _ X R x hf fun ds c1 vs H1 q s b dn => ?_
  have R1 := R.ext s b
  refine ⟨by rw [dn.len, sizeLine_eq]; exact q.1, fun p hp => ?_⟩
  have sn : Same H1 (upd H1 p (.lst vs)) := same_new hp
  refine k _ c1 _ _ q.2 (s.none (b.ne hp) hp) (s.trans (.of sn)) (b.same sn) ?_
  rw [upd_same]
  exact .lst (dn.mono (own_new hp (.of sn)))
def fDNew : FX := fun _ c Q _ => Q (.dic []) c
theorem lf_dnew : LF W E tDNewK fDNew := fun B o H σ ρ c Q Q' X R x hf k => fun p hp => by
  have sn : Same H (upd H p (.dK [])) := same_new hp
  refine k _ c _ _ hf hp (.of sn) (R.box.same sn) ?_
  rw [upd_same]
  exact .dK .nil
/-! calls of built-ins, methods -/
def LC (W : Wd) (r : List V → Hp → VK → Prop) (g : List D → Option D) : Prop := ∀ (o : Own) (H : Hp) vs ds z (Q : VK), (∀ a, H a = none → ¬ Hid W o a) → DBs W o H vs ds → g ds = some z → (∀ v H', Same H H' → Dn W (Hv W o H') v z → Q v H') → r vs H Q
def LCF (W : Wd) (r : List V → Hp → VK → Prop) (g : List D → Option D) : Prop := ∀ (o : Own) (H : Hp) vs ds z (Q : VK), (∀ a, H a = none → ¬ Hid W o a) → DBs W o H vs ds → g ds = some z → (∀ a H', H a = none → Same H H' → OwnC W (Off (fun b => Hid W o b ∨ b = a) H') (H' a) z → Q (.ref a) H') → r vs H Q
def fCB (g : List D → Option D) (fs : FA) : FX := fun ρ c Q X => fs ρ c (fun xs c1 => wpO (g xs) fun z => Q z c1) X
theorem le_cb {r : List V → Hp → VK → Prop} {g : List D → Option D} (ho : LC W r g) (ha : LAB W E tas fas) : LE W E (tCB r tas) (fCB g fas) := fun B o H σ ρ c Q Q' X R x hf k => by
  refine ha B o H σ ρ c _ _ X R x hf fun ds c1 vs H1 q s b dn => ?_
  obtain ⟨z, hz, q3⟩ := q
  exact ho o H1 vs ds z Q (fun a h => (R.ext s b).hid h) dn hz fun u H3 s3 dn3 => k z c1 u H3 q3 (s.trans (.of s3)) (b.same s3) dn3
theorem lf_cb {r : List V → Hp → VK → Prop} {g : List D → Option D} (ho : LCF W r g) (ha : LAB W E tas fas) : LF W E (tCB r tas) (fCB g fas) := fun B o H σ ρ c Q Q' X R x hf k => by
  refine ha B o H σ ρ c _ _ X R x hf fun ds c1 vs H1 q s b dn => ?_
  obtain ⟨z, hz, q3⟩ := q
  have R1 := R.ext s b
  exact ho o H1 vs ds z Q (fun a h => R1.hid h) dn hz fun a H3 n s3 oc => k z c1 a H3 q3 (s.none (b.ne n) n) (s.trans (.of s3)) (b.same s3) oc
/-- a method of a text -/
def LM1 (W : Wd) (r : V → List V → Hp → VK → Prop) (g : D → D → Option D) : Prop := ∀ (o : Own) (H : Hp) x y d e z (Q : VK), DB W o H x d → DB W o H y e → g d e = some z → (∀ v H', Same H H' → Dn W (Hv W o H') v z → Q v H') → r x [y] H Q
def isSt : D → Bool | .str _ => true | _ => false
def fM1 (g : D → D → Option D) (fa fb : FX) : FX := fun ρ c Q X => fa ρ c (fun x c1 => isSt x = true ∧ fb ρ c1 (fun y c2 => wpO (g x y) fun z => Q z c2) X) X
theorem le_m1 {r : V → List V → Hp → VK → Prop} {g : D → D → Option D} (ho : LM1 W r g) (ha : LE W E ta fa) (hb : LB W E tb fb) : LE W E (tM1 r ta tb) (fM1 g fa fb) := fun B o H σ ρ c Q Q' X R x hf k => by
  refine ha B o H σ ρ c _ _ X R x hf fun d c1 v H1 q s b dn => ?_
  have R1 := R.ext s b
  refine ⟨?_, hb B o H1 σ ρ c1 _ _ X R1 x q.2 fun e c2 w H2 q2 s2 b2 dn2 => ?_⟩
  · cases dn with
    | str l => exact ⟨_, rfl⟩
    | _ => exact absurd q.1 (by simp [isSt])
  obtain ⟨z, hz, q3⟩ := q2
  exact ho o H2 v w d e z Q (.inl (dn_ext dn s2)) dn2 hz fun u H3 s3 dn3 => k z c2 u H3 q3 (s.trans (s2.trans (.of s3))) (b2.same s3) dn3
/-! slices -/
def LSl (W : Wd) (r : V → Option Int → Option Int → Hp → VK → Prop) (g : D → Option Int → Option Int → Option D) : Prop := ∀ (o : Own) (H : Hp) x d lo hi z (Q : VK), (∀ a, H a = none → ¬ Hid W o a) → DB W o H x d → g d lo hi = some z → (∀ v H', Same H H' → Dn W (Hv W o H') v z → Q v H') → r x lo hi H Q
def fNoPart : FO := fun _ c Q _ => Q none c
def iD : D → Option Int | .int i => some i | _ => none
theorem iD_of {d : D} {b : Int} (h : iD d = some b) : d = .int b := by
  unfold iD at h
  split at h
  · cases h; rfl
  · cases h
def fPart (fa : FX) : FO := fun ρ c Q X => fa ρ c (fun x c1 => wpO (iD x) fun i => Q (some i) c1) X
theorem lo_none : LO W E tNoPart fNoPart := fun B o H σ ρ c Q Q' X R x hf k => k none c H hf St.refl R.box
theorem lo_some (ha : LE W E ta fa) : LO W E (tPart ta) (fPart fa) := fun B o H σ ρ c Q Q' X R x hf k => by
  refine ha B o H σ ρ c _ _ X R x hf fun d c1 v H1 q s b dn => ?_
  obtain ⟨z, hz, q3⟩ := q
  obtain rfl := iD_of hz
  cases dn
  exact ⟨_, rfl, k _ _ _ q3 s b⟩
def fSl (g : D → Option Int → Option Int → Option D) (fa : FX) (fl fh : FO) : FX := fun ρ c Q X => fa ρ c (fun x c1 => fl ρ c1 (fun lo c2 => fh ρ c2 (fun hi c3 => wpO (g x lo hi) fun z => Q z c3) X) X) X
theorem le_sl {r : V → Option Int → Option Int → Hp → VK → Prop} {g : D → Option Int → Option Int → Option D} {tl th : TO} {fl fh : FO} (ho : LSl W r g) (ha : LB W E ta fa) (hl : LO W E tl fl) (hh : LO W E th fh) : LE W E (L2.tSl r ta tl th) (fSl g fa fl fh) := fun B o H σ ρ c Q Q' X R x hf k => by
  refine ha B o H σ ρ c _ _ X R x hf fun d c1 v H1 q s b dn => ?_
  have R1 := R.ext s b
  refine hl B o H1 σ ρ c1 _ _ X R1 x q fun lo c2 H2 q2 s2 b2 => ?_
  have R2 := R1.ext s2 b2
  refine hh B o H2 σ ρ c2 _ _ X R2 x q2 fun hi c3 H3 q3 s3 b3 => ?_
  obtain ⟨z, hz, q4⟩ := q3
  exact ho o H3 v d lo hi z Q (fun a h => (R2.ext s3 b3).hid h) ((dn.ext s2).ext s3) hz fun u H4 s4 dn4 => k z c3 u H4 q4 (s.trans (s2.trans (s3.trans (.of s4)))) (b3.same s4) dn4
/-! calls of own defs -/
abbrev PFn := List D → Nat → PQ → PXc → Prop
/-- what callers own -/
structure OwnOk (W : Wd) (o : Own) (H : Hp) : Prop where
  inj : ∀ (i j : Nat) (a : Addr), o i = some a → o j = some a → i = j
  fr : ∀ (i : Nat) (a : Addr), o i = some a → W.pb ≠ some a ∧ ∃ u, H a = some u
  bd : ∃ N, ∀ i, N ≤ i → o i = none
theorem Rel.ok {B : Bs} {o : Own} {H : Hp} {σ : SSt} {ρ : PEnv} {c : Nat} (R : Rel W B o H σ ρ c) : OwnOk W o H := ⟨R.inj, fun i a h => ⟨(R.fr i a h).1, (R.fr i a h).2.1⟩, R.bd⟩
/-- a promise that speaks of data alone -/
def spOf (K : PySem.W.Frag) (mg : Str → Option Value) (F : PFn) : Sp := fun vs H Q E => ∃ (pb : Option Addr) (o : Own) (ds : List D) (c : Nat) (Q' : PQ) (X : PXc), OwnOk ⟨K, mg, pb⟩ o H ∧ DnAll ⟨K, mg, pb⟩ (Hv ⟨K, mg, pb⟩ o H) vs ds ∧ BoxO ⟨K, mg, pb⟩ H c ∧ F ds c Q' X ∧
  (∀ d c' v H', Q' d c' → St ⟨K, mg, pb⟩ H H' → BoxO ⟨K, mg, pb⟩ H' c' → Dn ⟨K, mg, pb⟩ (Hv ⟨K, mg, pb⟩ o H') v d → Q v H') ∧
  (∀ c' x d v dd H', X c' x d → St ⟨K, mg, pb⟩ H H' → BoxO ⟨K, mg, pb⟩ H' c' → Hv ⟨K, mg, pb⟩ o H' dd = some (xdG v) → Dn ⟨K, mg, pb⟩ (Hv ⟨K, mg, pb⟩ o H') v d → E (.ref (errAt mg x)) (some dd) H')
def fCall (F : PFn) (fs : FA) : FX := fun ρ c Q X => fs ρ c (fun ds c1 => F ds c1 Q X) X
theorem le_call {F : PFn} {Ec : SSt → XK} (hE : ∀ σ cls d H, E cls d σ H → Ec σ cls d H) (ha : LA W E tas fas) : LE W E (tCallS (spOf W.K W.mg F) Ec tas) (fCall F fas) := fun B o H σ ρ c Q Q' X R x hf k => by
  refine ha B o H σ ρ c _ _ X R x hf fun ds c1 vs H1 q s b dn => ?_
  have R1 := R.ext s b
  refine ⟨W.pb, o, ds, c1, Q', X, R1.ok, dn, b, q, fun d c' v H' q2 s2 b2 dn2 => k d c' v H' q2 (s.trans s2) b2 dn2, fun c' n d v dd H' q2 s2 b2 g dn2 => ?_⟩
  exact hE _ _ _ _ (x H' c' n d v dd (R1.ext s2 b2) q2 g dn2)
end
end Pu
set_option Elab.async false
set_option linter.all false
set_option maxRecDepth 100000
set_option maxHeartbeats 4000000
/-! Pu3: operators and built-ins over plain data. -/
namespace Pu
open PySem PySem.Spec PyProof.Rows L2 SL
mutual
def toP : D → PyData
  | .non => .none
  | .bl b => .bool b
  | .int i => .int i
  | .str l => .str (tx l)
  | .lst xs => .list (toPs xs)
  | .tup xs => .tuple (toPs xs)
  | .dic kvs => .dict (toPk kvs)
  | .obj _ _ => .none
  | .box => .none
  | .exc _ _ _ => .none
  | .lsA _ xs => .list (toPs xs)
def toPs : List D → List PyData
  | [] => []
  | d :: r => toP d :: toPs r
def toPk : List (D × D) → List (PyData × PyData)
  | [] => []
  | (k, d) :: r => (toP k, toP d) :: toPk r
end
theorem toPs_map : ∀ ds : List D, toPs ds = ds.map toP
  | [] => by simp [toPs]
  | d :: r => by simp [toPs, toPs_map r]
/-- plain, at most n deep -/
def okE : Nat → D → Bool
  | _, .non => true
  | _, .bl _ => true
  | _, .int _ => true
  | _, .str l => l.all fun c => decide (c < 1114112)
  | n + 1, .lst xs => xs.all (okE n)
  | n + 1, .tup xs => xs.all (okE n)
  | _, _ => false
theorem okE_str {n : Nat} {l : List Nat} : okE n (.str l) = l.all fun c => decide (c < 1114112) := by cases n <;> rfl
theorem okE_int {n : Nat} {i : Int} : okE n (.int i) = true := by cases n <;> rfl
theorem okE_non {n : Nat} : okE n .non = true := by cases n <;> rfl
theorem okE_bl {n : Nat} {b : Bool} : okE n (.bl b) = true := by cases n <;> rfl
theorem okE_lst {n : Nat} {xs : List D} : okE (n + 1) (.lst xs) = xs.all (okE n) := rfl
theorem okE_tup {n : Nat} {xs : List D} : okE (n + 1) (.tup xs) = xs.all (okE n) := rfl
theorem okE_up : ∀ {n m : Nat} {d : D}, okE n d = true → n ≤ m → okE m d = true
  | 0, m, d, h, _ => by
    cases d with
    | lst xs => cases h
    | tup xs => cases h
    | non => exact okE_non
    | bl b => exact okE_bl
    | int i => exact okE_int
    | str l => rw [okE_str] at h ⊢; exact h
    | _ => cases h
  | n + 1, m, d, h, hm => by
    obtain ⟨m, rfl⟩ : ∃ k, m = k + 1 := ⟨m - 1, by omega⟩
    cases d with
    | lst xs =>
      rw [okE_lst] at h ⊢
      exact List.all_eq_true.mpr fun x hx => okE_up (List.all_eq_true.mp h x hx) (by omega)
    | tup xs =>
      rw [okE_tup] at h ⊢
      exact List.all_eq_true.mpr fun x hx => okE_up (List.all_eq_true.mp h x hx) (by omega)
    | non => exact okE_non
    | bl b => exact okE_bl
    | int i => exact okE_int
    | str l => rw [okE_str] at h ⊢; exact h
    | _ => cases h
structure Pl (n : Nat) (p : PyData) : Prop where
  ly : p.canLay0 = true
  dp : p.depth ≤ n
  nd : p.hasDict = false
theorem pls {n : Nat} : ∀ {ps : List PyData}, (∀ p ∈ ps, Pl n p) → PyData.canLayAll0 ps = true ∧ PyData.depthAll ps ≤ n ∧ PyData.hasDictAll ps = false
  | [], _ => by simp [PyData.canLayAll0, PyData.depthAll, PyData.hasDictAll]
  | p :: r, h => by
    obtain ⟨a, b, c⟩ := pls (ps := r) fun x hx => h x (List.mem_cons_of_mem _ hx)
    have q := h p List.mem_cons_self
    have := q.dp
    refine ⟨by simp [PyData.canLayAll0, q.ly, a], by simp only [PyData.depthAll]; omega, by simp [PyData.hasDictAll, q.nd, c]⟩
theorem pl_of : ∀ (n : Nat) (d : D), okE n d = true → Pl n (toP d)
  | n, .non, _ => ⟨by simp [toP, PyData.canLay0], by simp [toP, PyData.depth], by simp [toP, PyData.hasDict]⟩
  | n, .bl b, _ => ⟨by simp [toP, PyData.canLay0], by simp [toP, PyData.depth], by simp [toP, PyData.hasDict]⟩
  | n, .int i, _ => ⟨by simp [toP, PyData.canLay0], by simp [toP, PyData.depth], by simp [toP, PyData.hasDict]⟩
  | n, .str l, h => by
    rw [okE_str] at h
    refine ⟨?_, by simp [toP, PyData.depth], by simp [toP, PyData.hasDict]⟩
    simp only [toP, PyData.canLay0]
    exact Sgn.ok fun c hc => by simpa using List.all_eq_true.mp h c hc
  | n + 1, .lst xs, h => by
    rw [okE_lst] at h
    obtain ⟨a, b, c⟩ := pls (n := n) (ps := toPs xs) (by
      rw [toPs_map]
      intro p hp
      obtain ⟨x, hx, rfl⟩ := List.mem_map.mp hp
      exact pl_of n x (List.all_eq_true.mp h x hx))
    exact ⟨by simp only [toP, PyData.canLay0]; exact a, by simp only [toP, PyData.depth]; omega, by simp only [toP, PyData.hasDict]; exact c⟩
  | n + 1, .tup xs, h => by
    rw [okE_tup] at h
    obtain ⟨a, b, c⟩ := pls (n := n) (ps := toPs xs) (by
      rw [toPs_map]
      intro p hp
      obtain ⟨x, hx, rfl⟩ := List.mem_map.mp hp
      exact pl_of n x (List.all_eq_true.mp h x hx))
    exact ⟨by simp only [toP, PyData.canLay0]; exact a, by simp only [toP, PyData.depth]; omega, by simp only [toP, PyData.hasDict]; exact c⟩
  | 0, .lst xs, h => by cases h
  | 0, .tup xs, h => by cases h
  | 0, .dic _, h => by cases h
  | n + 1, .dic _, h => by cases h
  | 0, .obj _ _, h => by cases h
  | n + 1, .obj _ _, h => by cases h
  | 0, .box, h => by cases h
  | n + 1, .box, h => by cases h
  | 0, .exc _ _ _, h => by cases h
  | n + 1, .exc _ _ _, h => by cases h
  | 0, .lsA _ _, h => by cases h
  | n + 1, .lsA _ _, h => by cases h
theorem Pl.shaped {n : Nat} {p : PyData} (h : Pl n p) (z : n ≤ 64) : SeqAt.shaped p = true := by
  unfold SeqAt.shaped
  rw [h.ly, Bool.true_and]
  exact decide_eq_true (Nat.le_trans h.dp z)
mutual
theorem Dn.dp {W : Wd} {M : Hp} : ∀ (d : D) (v : V) (n : Nat), Dn W M v d → okE n d = true → Dp W.K M v (toP d)
  | .non, _, _, h, _ => by cases h; exact .non
  | .bl b, _, _, h, _ => by cases h; exact .bl b
  | .int i, _, _, h, _ => by cases h; exact .int i
  | .str l, _, _, h, _ => by cases h; exact .str _
  | .lst xs, _, n, h, z => by
    cases h with
    | lst h1 h2 =>
      cases n with
      | zero => cases z
      | succ n => exact .lst (SqL.of h1) (DnAll.dp xs _ n h2 z)
  | .tup xs, _, n, h, z => by
    cases h with
    | tup h1 h2 =>
      cases n with
      | zero => cases z
      | succ n => exact .tup h1 (DnAll.dp xs _ n h2 z)
  | .dic _, _, n, _, z => by cases n <;> cases z
  | .obj _ _, _, n, _, z => by cases n <;> cases z
  | .box, _, n, _, z => by cases n <;> cases z
  | .exc _ _ _, _, n, _, z => by cases n <;> cases z
  | .lsA _ _, _, n, _, z => by cases n <;> cases z
theorem DnAll.dp {W : Wd} {M : Hp} : ∀ (ds : List D) (vs : List V) (n : Nat), DnAll W M vs ds → ds.all (okE n) = true → DpAll W.K M vs (toPs ds)
  | [], _, _, h, _ => by cases h; exact .nil
  | d :: ds, _, n, h, z => by
    cases h with
    | cons h1 h2 =>
      rw [List.all_cons, Bool.and_eq_true] at z
      exact .cons (Dn.dp d _ n h1 z.1) (DnAll.dp ds _ n h2 z.2)
end
/-- may be written out, at most n deep -/
def okW : Nat → D → Bool
  | _, .non => true
  | _, .bl _ => true
  | _, .int _ => true
  | _, .str l => l.all fun c => decide (c < 1114112)
  | n + 1, .lst xs => xs.all (okW n)
  | n + 1, .tup xs => xs.all (okW n)
  | n + 1, .lsA _ xs => xs.all (okW n)
  | n + 1, .dic kvs => kvs.all fun p => okW n p.1 && okW n p.2
  | _, _ => false
theorem okW_of : ∀ {n : Nat} {d : D}, okE n d = true → okW n d = true
  | n, .non, _ => by cases n <;> rfl
  | n, .bl _, _ => by cases n <;> rfl
  | n, .int _, _ => by cases n <;> rfl
  | n, .str l, h => by rw [okE_str] at h; cases n <;> exact h
  | n + 1, .lst xs, h => List.all_eq_true.mpr fun x hx => okW_of (List.all_eq_true.mp h x hx)
  | n + 1, .tup xs, h => List.all_eq_true.mpr fun x hx => okW_of (List.all_eq_true.mp h x hx)
  | 0, .lst _, h => by cases h
  | 0, .tup _, h => by cases h
  | 0, .dic _, h => by cases h
  | n + 1, .dic _, h => by cases h
  | 0, .obj _ _, h => by cases h
  | n + 1, .obj _ _, h => by cases h
  | 0, .box, h => by cases h
  | n + 1, .box, h => by cases h
  | 0, .exc _ _ _, h => by cases h
  | n + 1, .exc _ _ _, h => by cases h
  | 0, .lsA _ _, h => by cases h
  | n + 1, .lsA _ _, h => by cases h
theorem dps_le {n : Nat} : ∀ {ps : List PyData}, (∀ p ∈ ps, p.depth ≤ n) → PyData.depthAll ps ≤ n
  | [], _ => by simp [PyData.depthAll]
  | p :: r, h => by
    have a := dps_le (ps := r) fun x hx => h x (List.mem_cons_of_mem _ hx)
    have b := h p List.mem_cons_self
    simp only [PyData.depthAll]; omega
theorem dpk_le {n : Nat} : ∀ {ps : List (D × D)}, (∀ p ∈ ps, (toP p.1).depth ≤ n ∧ (toP p.2).depth ≤ n) → PyData.depthKv (toPk ps) ≤ n
  | [], _ => by simp [toPk, PyData.depthKv]
  | p :: r, h => by
    have a := dpk_le (ps := r) fun x hx => h x (List.mem_cons_of_mem _ hx)
    have b := h p List.mem_cons_self
    simp only [toPk, PyData.depthKv]; omega
theorem dp_okW : ∀ (n : Nat) (d : D), okW n d = true → (toP d).depth ≤ n
  | n, .non, _ => by simp [toP, PyData.depth]
  | n, .bl b, _ => by simp [toP, PyData.depth]
  | n, .int i, _ => by simp [toP, PyData.depth]
  | n, .str l, _ => by simp [toP, PyData.depth]
  | n + 1, .lst xs, h => by
    have := dps_le (n := n) (ps := toPs xs) (by
      rw [toPs_map]
      intro p hp
      obtain ⟨x, hx, rfl⟩ := List.mem_map.mp hp
      exact dp_okW n x (List.all_eq_true.mp h x hx))
    simp only [toP, PyData.depth]; omega
  | n + 1, .tup xs, h => by
    have := dps_le (n := n) (ps := toPs xs) (by
      rw [toPs_map]
      intro p hp
      obtain ⟨x, hx, rfl⟩ := List.mem_map.mp hp
      exact dp_okW n x (List.all_eq_true.mp h x hx))
    simp only [toP, PyData.depth]; omega
  | n + 1, .lsA _ xs, h => by
    have := dps_le (n := n) (ps := toPs xs) (by
      rw [toPs_map]
      intro p hp
      obtain ⟨x, hx, rfl⟩ := List.mem_map.mp hp
      exact dp_okW n x (List.all_eq_true.mp h x hx))
    simp only [toP, PyData.depth]; omega
  | n + 1, .dic kvs, h => by
    have := dpk_le (n := n) (ps := kvs) fun p hp => by
      have z := List.all_eq_true.mp h p hp
      rw [Bool.and_eq_true] at z
      exact ⟨dp_okW n _ z.1, dp_okW n _ z.2⟩
    simp only [toP, PyData.depth]; omega
  | 0, .lst _, h => by cases h
  | 0, .tup _, h => by cases h
  | 0, .dic _, h => by cases h
  | 0, .obj _ _, h => by cases h
  | n + 1, .obj _ _, h => by cases h
  | 0, .box, h => by cases h
  | n + 1, .box, h => by cases h
  | 0, .exc _ _ _, h => by cases h
  | n + 1, .exc _ _ _, h => by cases h
  | 0, .lsA _ _, h => by cases h
theorem toP_kD (k : Key) : toP (kD k) = kP k := by
  cases k with
  | inl i => simp [kD, kP, toP]
  | inr x => simp [kD, kP, toP, tx_list]
theorem toPs_kD (k : List Key) : toPs (k.map kD) = k.map kP := by
  rw [toPs_map, List.map_map]
  exact List.map_congr_left fun x _ => toP_kD x
theorem toP_tD (k : List Key) : toP (tD k) = .tuple (k.map kP) := by
  unfold tD
  rw [toP, toPs_kD]
mutual
theorem Dn.dw {W : Wd} {M : Hp} : ∀ (d : D) (v : V) (n : Nat), Dn W M v d → okW n d = true → Dw W.K M v (toP d)
  | .non, _, _, h, _ => by cases h; exact .non
  | .bl b, _, _, h, _ => by cases h; exact .bl b
  | .int i, _, _, h, _ => by cases h; exact .int i
  | .str l, _, _, h, _ => by cases h; exact .str _
  | .lst xs, _, n, h, z => by
    cases h with
    | lst h1 h2 =>
      cases n with
      | zero => cases z
      | succ n => exact .lst h1 (DnAll.dw xs _ n h2 z)
  | .tup xs, _, n, h, z => by
    cases h with
    | tup h1 h2 =>
      cases n with
      | zero => cases z
      | succ n => exact .tup h1 (DnAll.dw xs _ n h2 z)
  | .lsA _ xs, _, n, h, z => by
    cases h with
    | lsA h1 h2 =>
      cases n with
      | zero => cases z
      | succ n => exact .lst h1 (DnAll.dw xs _ n h2 z)
  | .dic ds, _, n, h, z => by
    cases n with
    | zero => cases z
    | succ n =>
      cases h with
      | @dK a kvs _ h1 h2 =>
        obtain ⟨e, w⟩ := DnKv.dw ds _ n h2 z
        have e : toPk ds = ((kvs.map fun p => kP p.1).zip (toPs (ds.map (·.2)))) := by
          rw [e, List.map_map]
          exact congrArg (fun l => List.zip l _) (List.map_congr_left fun p _ => toP_kD p.1)
        rw [toP, e]
        refine .dK h1 ?_
        rw [List.map_map] at w
        exact w
      | @dT a kvs _ h1 h2 =>
        obtain ⟨e, w⟩ := DnKv.dw ds _ n h2 z
        have e : toPk ds = ((kvs.map fun p => PyData.tuple (p.1.map kP)).zip (toPs (ds.map (·.2)))) := by
          rw [e, List.map_map]
          exact congrArg (fun l => List.zip l _) (List.map_congr_left fun p _ => toP_tD p.1)
        rw [toP, e]
        refine .dT h1 ?_
        rw [List.map_map] at w
        exact w
  | .obj _ _, _, n, _, z => by cases n <;> cases z
  | .box, _, n, _, z => by cases n <;> cases z
  | .exc _ _ _, _, n, _, z => by cases n <;> cases z
theorem DnAll.dw {W : Wd} {M : Hp} : ∀ (ds : List D) (vs : List V) (n : Nat), DnAll W M vs ds → ds.all (okW n) = true → DwAll W.K M vs (toPs ds)
  | [], _, _, h, _ => by cases h; exact .nil
  | d :: ds, _, n, h, z => by
    cases h with
    | cons h1 h2 =>
      rw [List.all_cons, Bool.and_eq_true] at z
      exact .cons (Dn.dw d _ n h1 z.1) (DnAll.dw ds _ n h2 z.2)
theorem DnKv.dw {W : Wd} {M : Hp} : ∀ (ds : List (D × D)) (vs : List (D × V)) (n : Nat), DnKv W M vs ds → ds.all (fun p => okW n p.1 && okW n p.2) = true → toPk ds = (vs.map fun p => toP p.1).zip (toPs (ds.map (·.2))) ∧ DwAll W.K M (vs.map (·.2)) (toPs (ds.map (·.2)))
  | [], _, _, h, _ => by cases h; exact ⟨rfl, .nil⟩
  | (k, d) :: ds, _, n, h, z => by
    cases h with
    | cons h1 h2 =>
      rw [List.all_cons, Bool.and_eq_true, Bool.and_eq_true] at z
      obtain ⟨e, w⟩ := DnKv.dw ds _ n h2 z.2
      refine ⟨?_, .cons (Dn.dw d _ n h1 z.1.2) w⟩
      rw [toPk, e]
      rfl
end
section
variable {W : Wd}
/-! + -/
def gAdd : D → D → Option D
  | .int a, .int b => some (.int (a + b))
  | .str a, .str b => if a.length + b.length ≤ 16777216 then some (.str (a ++ b)) else none
  | .tup a, .tup b => if a.length + b.length ≤ 16777216 then some (.tup (a ++ b)) else none
  | .lst a, .lst b => if a.length + b.length ≤ 16777216 then some (.lst (a ++ b)) else none
  | _, _ => none
theorem ite_some {α : Type} {p : Prop} [Decidable p] {x y : α} (h : (if p then some x else none) = some y) : p ∧ x = y := by
  split at h
  · rename_i q; cases h; exact ⟨q, rfl⟩
  · cases h
/-- what is seen of a new list -/
theorem own_lst {o : Own} {H : Hp} {a : Addr} {vs : List V} {ds : List D} (n : H a = none) (h : DnAll W (Hv W o H) vs ds) : OwnC W (Off (fun b => Hid W o b ∨ b = a) (upd H a (.lst vs))) (upd H a (.lst vs) a) (.lst ds) := by
  rw [upd_same]
  exact .lst (h.mono (own_new n (.of (same_new n))))
theorem dn_lst {o : Own} {H : Hp} {a : Addr} {vs : List V} {ds : List D} (n : H a = none) (nh : ¬ Hid W o a) (h : DnAll W (Hv W o H) vs ds) : Dn W (Hv W o (upd H a (.lst vs))) (.ref a) (.lst ds) :=
  .lst (off_get upd_same nh) (h.mono (off_ext (same_new n)) _ _)
theorem dn_tup {o : Own} {H : Hp} {a : Addr} {vs : List V} {ds : List D} (n : H a = none) (nh : ¬ Hid W o a) (h : DnAll W (Hv W o H) vs ds) : Dn W (Hv W o (upd H a (.tup vs))) (.ref a) (.tup ds) :=
  .tup (SqT.of (off_get upd_same nh)) (h.mono (off_ext (same_new n)) _ _)
theorem lo_add : LO2 W (rAddU W.K) gAdd := fun o H x y d e z Q hh dx dy g k => by
  unfold gAdd at g
  split at g
  · cases g; cases dx.int; cases dy.int
    exact w_addI (k _ _ (Same.refl _) (.int _))
  · obtain ⟨hz, rfl⟩ := ite_some g
    cases dx.str; cases dy.str
    exact w_addS (k _ _ (Same.refl _) (.str _)) hz
  · obtain ⟨hz, rfl⟩ := ite_some g
    obtain ⟨a, vs, rfl, h1, h2⟩ := dx.tup
    obtain ⟨b, ws, rfl, h3, h4⟩ := dy.tup
    refine .inr (.inr (.inr ⟨a, b, vs, ws, rfl, rfl, h1, h3, by rw [h2.len, h4.len, sizeLine_eq]; exact hz, fun e => ?_, fun e1 e2 => ?_, fun e1 e2 p hp => ?_⟩))
    · subst e
      cases h2
      rcases dy with dy | ⟨_, i, e, h1, h5, h6⟩
      · exact k _ _ (Same.refl _) dy
      · generalize H _ = q at h6; cases h6
    · subst e2
      cases h4
      rw [List.append_nil] at k
      rcases dx with dx | ⟨_, i, e, h1, h5, h6⟩
      · exact k _ _ (Same.refl _) dx
      · generalize H _ = q at h6; cases h6
    · exact k _ _ (same_new hp) (dn_tup hp (hh p hp) (h2.app h4))
  · obtain ⟨hz, rfl⟩ := ite_some g
    obtain ⟨a, vs, rfl, h1, h2⟩ := dx.lst
    obtain ⟨b, ws, rfl, h3, h4⟩ := dy.lst
    exact .inr (.inr (.inl ⟨a, b, vs, ws, rfl, rfl, h1, h3, by rw [h2.len, h4.len, sizeLine_eq]; exact hz, fun p hp => k _ _ (same_new hp) (dn_lst hp (hh p hp) (h2.app h4))⟩))
  · cases g
def gAddL : D → D → Option D
  | .lst a, .lst b => if a.length + b.length ≤ 16777216 then some (.lst (a ++ b)) else none
  | _, _ => none
theorem lof_add : LOF W (rAddU W.K) gAddL := fun o H x y d e z Q hh dx dy g k => by
  unfold gAddL at g
  split at g
  · obtain ⟨hz, rfl⟩ := ite_some g
    obtain ⟨a, vs, rfl, h1, h2⟩ := dx.lst
    obtain ⟨b, ws, rfl, h3, h4⟩ := dy.lst
    exact .inr (.inr (.inl ⟨a, b, vs, ws, rfl, rfl, h1, h3, by rw [h2.len, h4.len, sizeLine_eq]; exact hz, fun p hp => k _ _ hp (same_new hp) (own_lst hp (h2.app h4))⟩))
  · cases g
/-! numbers -/
def gI (f : Int → Int → D) : D → D → Option D
  | .int a, .int b => some (f a b)
  | _, _ => none
def gSubI := gI fun a b => .int (a - b)
def gLt := gI fun a b => .bl (decide (a < b))
def gLe := gI fun a b => .bl (decide (a ≤ b))
def gGt := gI fun a b => .bl (decide (b < a))
def gGe := gI fun a b => .bl (decide (b ≤ a))
theorem gI_of {f : Int → Int → D} {d e z : D} (h : gI f d e = some z) : ∃ a b, d = .int a ∧ e = .int b ∧ z = f a b := by
  unfold gI at h
  split at h
  · cases h; exact ⟨_, _, rfl, rfl, rfl⟩
  · cases h
theorem lo_sub : LO2 W rSubU gSubI := fun o H x y d e z Q hh dx dy g k => by
  obtain ⟨a, b, rfl, rfl, rfl⟩ := gI_of g
  cases dx.int; cases dy.int
  exact w_subI (k _ _ (Same.refl _) (.int _))
theorem lo_lt : LO2 W rLtU gLt := fun o H x y d e z Q hh dx dy g k => by
  obtain ⟨a, b, rfl, rfl, rfl⟩ := gI_of g
  cases dx.int; cases dy.int
  exact w_lt (k _ _ (Same.refl _) (.bl _))
theorem lo_le : LO2 W rLeU gLe := fun o H x y d e z Q hh dx dy g k => by
  obtain ⟨a, b, rfl, rfl, rfl⟩ := gI_of g
  cases dx.int; cases dy.int
  exact w_le (k _ _ (Same.refl _) (.bl _))
theorem lo_gt : LO2 W rGtU gGt := fun o H x y d e z Q hh dx dy g k => by
  obtain ⟨a, b, rfl, rfl, rfl⟩ := gI_of g
  cases dx.int; cases dy.int
  exact w_gt (k _ _ (Same.refl _) (.bl _))
theorem lo_ge : LO2 W rGeU gGe := fun o H x y d e z Q hh dx dy g k => by
  obtain ⟨a, b, rfl, rfl, rfl⟩ := gI_of g
  cases dx.int; cases dy.int
  exact w_ge (k _ _ (Same.refl _) (.bl _))
def gMod : D → D → Option D
  | .int a, .int b => if 0 < b then some (.int (a % b)) else none
  | _, _ => none
theorem lo_mod : LO2 W rModU gMod := fun o H x y d e z Q hh dx dy g k => by
  unfold gMod at g
  split at g
  · obtain ⟨hz, rfl⟩ := ite_some g
    cases dx.int; cases dy.int
    exact w_modI (k _ _ (Same.refl _) (.int _)) hz
  · cases g
def gDiv : D → D → Option D
  | .int a, .int b => if 0 < b ∧ b < 1073741824 then some (.int (a / b)) else none
  | _, _ => none
theorem lo_div : LO2 W rDivU gDiv := fun o H x y d e z Q hh dx dy g k => by
  unfold gDiv at g
  split at g
  · obtain ⟨hz, rfl⟩ := ite_some g
    cases dx.int; cases dy.int
    exact w_divI (k _ _ (Same.refl _) (.int _)) hz
  · cases g
def gPow : D → D → Option D
  | .int a, .int b => if 0 ≤ b ∧ b ≤ 1000000 ∧ a.natAbs < 2 ^ 64 then some (.int (a ^ b.toNat)) else none
  | _, _ => none
theorem lo_pow : LO2 W rPowU gPow := fun o H x y d e z Q hh dx dy g k => by
  unfold gPow at g
  split at g
  · obtain ⟨hz, rfl⟩ := ite_some g
    cases dx.int; cases dy.int
    exact w_powI (k _ _ (Same.refl _) (.int _)) hz
  · cases g
instance (i j : Int) : Decidable (CMul i j) := by unfold CMul; infer_instance
/-- any * -/
def rMulA (K : PySem.W.Frag) : R2 := fun x y H Q => rMulU x y H Q ∨ rRep x y H Q ∨ rMulT K x y H Q
theorem kMulA (K : PySem.W.Frag) {X : Cx} (h : X.K = K) : OpR X (binaryOp .Mult) (rMulA K) := uMul.or (op_rep.or (kMulT K h))
theorem DnAll.rep {M : Hp} {vs : List V} {ds : List D} (h : DnAll W M vs ds) : ∀ n : Nat, DnAll W M (List.replicate n vs).flatten (List.replicate n ds).flatten
  | 0 => .nil
  | n + 1 => by rw [List.replicate_succ, List.replicate_succ, List.flatten_cons, List.flatten_cons]; exact h.app (h.rep n)
def gMul : D → D → Option D
  | .int a, .int b => if CMul a b then some (.int (a * b)) else none
  | .str l, .int i => if i ≤ 1000000 ∧ -1000000 ≤ i ∧ l.length ≤ 1000000 ∧ l.length * i.toNat ≤ 16777216 then some (.str (List.replicate i.toNat l).flatten) else none
  | .tup xs, .int i => if 1 ≤ i ∧ i ≤ 1000 ∧ 0 < xs.length ∧ xs.length ≤ 1000 then some (.tup (List.replicate i.toNat xs).flatten) else none
  | .lst xs, .int i => if 0 ≤ i ∧ i ≤ 1000000 ∧ xs.length * i.toNat ≤ 16777216 then some (.lst (List.replicate i.toNat xs).flatten) else none
  | _, _ => none
theorem lo_mul : LO2 W (rMulA W.K) gMul := fun o H x y d e z Q hh dx dy g k => by
  unfold gMul at g
  split at g
  · obtain ⟨hz, rfl⟩ := ite_some g
    cases dx.int; cases dy.int
    exact .inl (w_mulI (k _ _ (Same.refl _) (.int _)) hz)
  · obtain ⟨hz, rfl⟩ := ite_some g
    cases dx.str; cases dy.int
    exact .inl (w_mulS (k _ _ (Same.refl _) (.str _)) hz)
  · obtain ⟨hz, rfl⟩ := ite_some g
    have dx' := dx
    obtain ⟨a, vs, rfl, h1, h2⟩ := dx.tup
    cases dy.int
    rename_i xs i
    by_cases e1 : i = 1
    · subst e1
      refine .inr (.inr (.inl ⟨a, vs, rfl, rfl, h1, k _ _ (Same.refl _) ?_⟩))
      rcases dx' with dx' | ⟨_, j, e, h3, h5, h6⟩
      · simpa using dx'
      · generalize H _ = q at h6; cases h6
    · refine .inr (.inr (.inr ⟨a, i, vs, rfl, rfl, h1, ?_, by omega, by omega, by rw [h2.len]; omega, fun p hp => k _ _ (same_new hp) (dn_tup hp (hh p hp) (h2.rep _))⟩))
      intro e
      subst e
      have := h2.len
      simp at this
      omega
  · obtain ⟨hz, rfl⟩ := ite_some g
    obtain ⟨a, vs, rfl, h1, h2⟩ := dx.lst
    cases dy.int
    exact .inr (.inl ⟨a, _, vs, rfl, rfl, h1, by omega, by omega, by rw [h2.len, sizeLine_eq]; exact hz.2.2, fun p hp => k _ _ (same_new hp) (dn_lst hp (hh p hp) (h2.rep _))⟩)
  · cases g
/-- list * int -/
def gRep : D → D → Option D
  | .lst xs, .int i => if 0 ≤ i ∧ i ≤ 1000000 ∧ xs.length * i.toNat ≤ 16777216 then some (.lst (List.replicate i.toNat xs).flatten) else none
  | _, _ => none
theorem lof_rep : LOF W (rMulA W.K) gRep := fun o H x y d e z Q hh dx dy g k => by
  unfold gRep at g
  split at g
  · obtain ⟨hz, rfl⟩ := ite_some g
    obtain ⟨a, vs, rfl, h1, h2⟩ := dx.lst
    cases dy.int
    refine .inr (.inl ⟨a, _, vs, rfl, rfl, h1, by omega, by omega, by rw [h2.len, sizeLine_eq]; exact hz.2.2, fun p hp => ?_⟩)
    exact k _ _ hp (same_new hp) (own_lst hp (h2.rep _))
  · cases g
/-! ==, in, is -/
def eqD (x y : D) : Bool := PyData.eqv (toP x) (toP y)
def gEq (x y : D) : Option D := if (okE 60 x && okE 60 y) = true then some (.bl (eqD x y)) else none
def gNe (x y : D) : Option D := if (okE 60 x && okE 60 y) = true then some (.bl (!eqD x y)) else none
theorem DB.pl {o : Own} {H : Hp} {v : V} {d : D} (h : DB W o H v d) (z : okE 60 d = true) : Dp W.K H v (toP d) := h.dn.dp d v 60 z
theorem lo_eq : LO2 W (rEqU W.K) gEq := fun o H x y d e z Q hh dx dy g k => by
  obtain ⟨hz, rfl⟩ := ite_some g
  rw [Bool.and_eq_true] at hz
  exact .inr ⟨_, _, dx.pl hz.1, dy.pl hz.2, (pl_of 60 d hz.1).shaped (by omega), (pl_of 60 e hz.2).shaped (by omega), k _ _ (Same.refl _) (.bl _)⟩
theorem lo_ne : LO2 W (rNeU W.K) gNe := fun o H x y d e z Q hh dx dy g k => by
  obtain ⟨hz, rfl⟩ := ite_some g
  rw [Bool.and_eq_true] at hz
  exact .inr ⟨_, _, dx.pl hz.1, dy.pl hz.2, (pl_of 60 d hz.1).shaped (by omega), (pl_of 60 e hz.2).shaped (by omega), k _ _ (Same.refl _) (.bl _)⟩
def inD (x : D) (ys : List D) : Bool := ys.any fun y => eqD y x
def gIn (x : D) : D → Option D
  | .lst ys => if (okE 60 x && ys.all (okE 60)) = true then some (.bl (inD x ys)) else none
  | .tup ys => if (okE 60 x && ys.all (okE 60)) = true then some (.bl (inD x ys)) else none
  | .str l => match x with | .str [c] => some (.bl (decide (c ∈ l))) | _ => none
  | _ => none
theorem any_toPs (x : D) (ys : List D) : ((toPs ys).any fun z => PyData.eqv z (toP x)) = inD x ys := by
  rw [toPs_map, List.any_map]
  rfl
theorem lo_in : LO2 W (rInZ W.K) gIn := fun o H x y d e z Q hh dx dy g k => by
  unfold gIn at g
  split at g
  · obtain ⟨hz, rfl⟩ := ite_some g
    rw [Bool.and_eq_true] at hz
    rename_i ys
    have p1 := pl_of 60 d hz.1
    have p2 := pl_of 61 (.lst ys) hz.2
    refine .inr ⟨toP d, toPs ys, dx.pl hz.1, .inl ?_, p1.shaped (by omega), ?_, ?_⟩
    · exact dy.dn.dp (.lst ys) _ 61 hz.2
    · exact p2.shaped (by omega)
    · rw [any_toPs]
      exact k _ _ (Same.refl _) (.bl _)
  · obtain ⟨hz, rfl⟩ := ite_some g
    rw [Bool.and_eq_true] at hz
    rename_i ys
    have p1 := pl_of 60 d hz.1
    have p2 := pl_of 61 (.lst ys) hz.2
    refine .inr ⟨toP d, toPs ys, dx.pl hz.1, .inr ?_, p1.shaped (by omega), ?_, ?_⟩
    · exact dy.dn.dp (.tup ys) _ 61 hz.2
    · exact p2.shaped (by omega)
    · rw [any_toPs]
      exact k _ _ (Same.refl _) (.bl _)
  · split at g
    · cases g
      cases dx.str; cases dy.str
      exact .inl (w_inC (k _ _ (Same.refl _) (.bl _)))
    · cases g
  · cases g
def isN : D → Bool
  | .non => true
  | _ => false
def gIs (x : D) : D → Option D
  | .non => some (.bl (isN x))
  | _ => none
def gIsN (x : D) : D → Option D
  | .non => some (.bl (!isN x))
  | _ => none
theorem is_non {o : Own} {H : Hp} {v : V} {d : D} (h : DB W o H v d) : decide (v = .non) = isN d := by
  rcases h with h | ⟨a, i, rfl, h1, h2, h3⟩
  · cases h <;> rfl
  · generalize H a = q at h3
    have e : isN d = false := by cases h3 <;> rfl
    rw [e]
    rfl
theorem lo_is : LO2 W rIsU gIs := fun o H x y d e z Q hh dx dy g k => by
  unfold gIs at g
  split at g
  · cases g
    cases dy.non
    refine ⟨rfl, ?_⟩
    rw [is_non dx]
    exact k _ _ (Same.refl _) (.bl _)
  · cases g
theorem lo_isN : LO2 W rIsNotU gIsN := fun o H x y d e z Q hh dx dy g k => by
  unfold gIsN at g
  split at g
  · cases g
    cases dy.non
    refine ⟨rfl, ?_⟩
    rw [is_non dx]
    exact k _ _ (Same.refl _) (.bl _)
  · cases g
/-! places -/
def gIx : D → D → Option D
  | .lst xs, .int i => atI xs i
  | .tup xs, .int i => atI xs i
  | .str l, .int i => if l.length ≤ 16777216 then (atI l i).map fun c => .str [c] else none
  | _, _ => none
theorem ixn_len {α β : Type} {xs : List α} {ys : List β} (h : xs.length = ys.length) (i : Int) : ixN xs.length i = ixN ys.length i := by rw [h]
theorem at_dn {M : Hp} {vs : List V} {ds : List D} {i : Int} {d : D} (h : DnAll W M vs ds) (e : atI ds i = some d) : ∃ v, atI vs i = some v ∧ Dn W M v d := by
  unfold atI at e ⊢
  rw [ixn_len h.len]
  cases q : ixN ds.length i with
  | none => rw [q] at e; cases e
  | some j =>
    rw [q] at e
    exact h.get e
theorem lo_ix : LO2 W (rIx W.K) gIx := fun o H x y d e z Q hh dx dy g k => by
  unfold gIx at g
  split at g
  · obtain ⟨a, vs, rfl, h1, h2⟩ := dx.lst
    cases dy.int
    obtain ⟨v, hv, dv⟩ := at_dn h2 g
    exact w_ixL (SqL.of h1) hv (k _ _ (Same.refl _) dv)
  · obtain ⟨a, vs, rfl, h1, h2⟩ := dx.tup
    cases dy.int
    obtain ⟨v, hv, dv⟩ := at_dn h2 g
    exact w_ixT h1 hv (k _ _ (Same.refl _) dv)
  · split at g
    · rename_i hz
      cases dx.str; cases dy.int
      rename_i l i
      cases q : atI l i with
      | none => rw [q] at g; cases g
      | some c =>
        rw [q] at g
        cases g
        exact w_ixS q (k _ _ (Same.refl _) (.str _)) hz
    · cases g
  · cases g
/-! parts -/
def cutL {α : Type} (xs : List α) (lo hi : Option Int) : List α := (xs.drop (HT.sIx xs.length 0 lo)).take (HT.sIx xs.length xs.length hi - HT.sIx xs.length 0 lo)
def gSl : D → Option Int → Option Int → Option D
  | .lst xs, lo, hi => some (.lst (cutL xs lo hi))
  | .tup xs, lo, hi => some (.tup (cutL xs lo hi))
  | .str l, lo, hi => if l.length ≤ 16777216 then some (.str (cutL l lo hi)) else none
  | _, _, _ => none
theorem cut_dn {M : Hp} {vs : List V} {ds : List D} (h : DnAll W M vs ds) (lo hi : Option Int) : DnAll W M (cutV vs lo hi) (cutL ds lo hi) := by
  unfold cutV cutL
  rw [h.len]
  exact (h.drop _).take _
theorem cutL_all {α : Type} {xs : List α} {lo hi : Option Int} (h : HT.sIx xs.length 0 lo = 0 ∧ HT.sIx xs.length xs.length hi = xs.length) : cutL xs lo hi = xs := by
  unfold cutL
  rw [h.1, h.2, List.drop_zero, Nat.sub_zero, List.take_length]
theorem lo_sl : LSl W (rSlU W.K) gSl := fun o H x d lo hi z Q hh dx g k => by
  unfold gSl at g
  split at g
  · cases g
    obtain ⟨a, vs, rfl, h1, h2⟩ := dx.lst
    exact .inl ⟨a, vs, rfl, SqL.of h1, fun p hp => k _ _ (same_new hp) (dn_lst hp (hh p hp) (cut_dn h2 _ _))⟩
  · cases g
    have dx' := dx
    obtain ⟨a, vs, rfl, h1, h2⟩ := dx.tup
    refine .inr (.inr ⟨a, vs, rfl, h1, fun e => k _ _ (Same.refl _) ?_, fun e p hp => k _ _ (same_new hp) (dn_tup hp (hh p hp) (cut_dn h2 _ _))⟩)
    rw [h2.len] at e
    rw [cutL_all e]
    rcases dx' with dx' | ⟨_, i, e, h1, h5, h6⟩
    · exact dx'
    · generalize H _ = q at h6; cases h6
  · obtain ⟨hz, rfl⟩ := ite_some g
    cases dx.str
    rename_i l
    refine .inr (.inl ⟨tx l, rfl, by rw [tx_len, sizeLine_eq]; exact hz, ?_⟩)
    have e : cutS (tx l) lo hi = tx (cutL l lo hi) := by
      unfold cutS cutL
      rw [tx_len]
    rw [e]
    exact k _ _ (Same.refl _) (.str _)
  · cases g
def gSlL : D → Option Int → Option Int → Option D
  | .lst xs, lo, hi => some (.lst (cutL xs lo hi))
  | _, _, _ => none
theorem lf_slL {E : WX} {ta : TE} {fa : FX} {tl th : TO} {fl fh : FO} (ha : LB W E ta fa) (hl : LO W E tl fl) (hh : LO W E th fh) : LF W E (L2.tSl (rSlU W.K) ta tl th) (fSl gSlL fa fl fh) := fun B o H σ ρ c Q Q' X R x hf k => by
  refine ha B o H σ ρ c _ _ X R x hf fun d c1 v H1 q s b dn => ?_
  have R1 := R.ext s b
  refine hl B o H1 σ ρ c1 _ _ X R1 x q fun lo c2 H2 q2 s2 b2 => ?_
  have R2 := R1.ext s2 b2
  refine hh B o H2 σ ρ c2 _ _ X R2 x q2 fun hi c3 H3 q3 s3 b3 => ?_
  have R3 := R2.ext s3 b3
  obtain ⟨z, hz, q4⟩ := q3
  unfold gSlL at hz
  split at hz
  · cases hz
    obtain ⟨a, vs, rfl, h1, h2⟩ := DB.lst ((dn.ext s2).ext s3)
    refine .inl ⟨a, vs, rfl, SqL.of h1, fun p hp => ?_⟩
    have S := s.trans (s2.trans s3)
    exact k _ c3 p _ q4 (S.none (b3.ne hp) hp) (S.trans (.of (same_new hp))) (b3.same (same_new hp)) (own_lst hp (cut_dn h2 _ _))
  · cases hz
/-- [::-1] -/
def gRev : D → Option D
  | .str l => if l.length ≤ 16777216 then some (.str l.reverse) else none
  | .tup xs => some (.tup xs.reverse)
  | _ => none
theorem le_revU {E : WX} {ta : TE} {fa : FX} (ha : LB W E ta fa) : LE W E (tRevU W.K ta) (fO1 gRev fa) := fun B o H σ ρ c Q Q' X R x hf k => by
  refine ha B o H σ ρ c _ _ X R x hf fun d c1 v H1 q s b dn => ?_
  have R1 := R.ext s b
  obtain ⟨z, hz, q3⟩ := q
  unfold gRev at hz
  split at hz
  · obtain ⟨hl, rfl⟩ := ite_some hz
    cases dn.str
    exact .inl ⟨_, rfl, hl, k _ _ _ _ q3 s b (.str _)⟩
  · cases hz
    obtain ⟨a, vs, rfl, h1, h2⟩ := dn.tup
    exact .inr ⟨a, vs, rfl, h1, fun p hp => k _ _ _ _ q3 (s.trans (.of (same_new hp))) (b.same (same_new hp)) (dn_tup hp (R1.hid hp) h2.rev)⟩
  · cases hz
def gRevL : D → Option D
  | .lst xs => some (.lst xs.reverse)
  | _ => none
theorem lf_revL {E : WX} {ta : TE} {fa : FX} (ha : LB W E ta fa) : LF W E (tRevL W.K ta) (fO1 gRevL fa) := fun B o H σ ρ c Q Q' X R x hf k => by
  refine ha B o H σ ρ c _ _ X R x hf fun d c1 v H1 q s b dn => ?_
  have R1 := R.ext s b
  obtain ⟨z, hz, q3⟩ := q
  unfold gRevL at hz
  split at hz
  · cases hz
    obtain ⟨a, vs, rfl, h1, h2⟩ := dn.lst
    exact ⟨a, vs, rfl, SqL.of h1, fun p hp => k _ _ p _ q3 (s.none (b.ne hp) hp) (s.trans (.of (same_new hp))) (b.same (same_new hp)) (own_lst hp h2.rev)⟩
  · cases hz
end
end Pu
set_option Elab.async false
set_option linter.all false
set_option maxRecDepth 100000
set_option maxHeartbeats 4000000
/-! Pu4: pure readings of targets, statements, loops, comprehensions, defs. -/
namespace Pu
open PySem PySem.Spec PyProof.Rows L2 SL
abbrev FG := D → PEnv → Nat → (PEnv → Nat → Prop) → Prop
abbrev FGs := List D → PEnv → Nat → (PEnv → Nat → Prop) → Prop
/-- what a store leaves as it was -/
structure Kept (W : Wd) (p : Bool) (ts : List Nat) (o o' : Own) (H H' : Hp) (σ σ' : SSt) : Prop where
  pure : p = true → H' = H
  len : σ'.length = σ.length
  off : ∀ j, j ∉ ts → σ'[j]? = σ[j]?
  ow : ∀ j, j ∉ ts → o' j = o j
  sees : Same (Hv W o H) (Hv W o' H')
  beh : ∀ i a, σ.length ≤ i → o i = some a → o' i = some a ∧ H' a = H a
def LG (W : Wd) (E : WX) (g : TG) (f : FG) (p : Bool) (ts : List Nat) : Prop := ∀ (B : Bs) (o : Own) (H : Hp) (σ : SSt) (ρ : PEnv) (c : Nat) (v : V) (d : D) (Q : SSt → Hp → Prop) (Q' : PEnv → Nat → Prop), Rel W B o H σ ρ c → Dn W (Hv W o H) v d → f d ρ c Q' →
  (∀ o' H' σ' ρ' c', Q' ρ' c' → Rel W B o' H' σ' ρ' c' → Kept W p ts o o' H H' σ σ' → Q σ' H') → g v σ H Q
def LGs (W : Wd) (E : WX) (g : TGs) (f : FGs) (p : Bool) (ts : List Nat) : Prop := ∀ (B : Bs) (o : Own) (H : Hp) (σ : SSt) (ρ : PEnv) (c : Nat) (vs : List V) (ds : List D) (Q : SSt → Hp → Prop) (Q' : PEnv → Nat → Prop), Rel W B o H σ ρ c → DnAll W (Hv W o H) vs ds → f ds ρ c Q' →
  (∀ o' H' σ' ρ' c', Q' ρ' c' → Rel W B o' H' σ' ρ' c' → Kept W p ts o o' H H' σ σ' → Q σ' H') → g vs σ H Q
section
variable {W : Wd} {E : WX} {te ti : TE} {f fi fa fb : FX} {tas : TA} {fas : FA} {g : TG} {fg : FG} {gs : TGs} {fgs : FGs} {ts us : List Nat} {tt : TT} {ft : FT} {i j n : Nat} {p p2 : Bool}
theorem Kept.refl {o : Own} {H : Hp} {σ : SSt} : Kept W p ts o o H H σ σ := ⟨fun _ => rfl, rfl, fun _ _ => rfl, fun _ _ => rfl, Same.refl _, fun _ _ _ h => ⟨h, rfl⟩⟩
theorem Kept.trans {o o1 o2 : Own} {H H1 H2 : Hp} {σ σ1 σ2 : SSt} (a : Kept W p ts o o1 H H1 σ σ1) (b : Kept W p2 us o1 o2 H1 H2 σ1 σ2) : Kept W (p && p2) (ts ++ us) o o2 H H2 σ σ2 where
  pure := fun h => by
    rw [Bool.and_eq_true] at h
    rw [b.pure h.2, a.pure h.1]
  len := b.len.trans a.len
  off := fun j h => by
    rw [List.mem_append, not_or] at h
    rw [b.off j h.2, a.off j h.1]
  ow := fun j h => by
    rw [List.mem_append, not_or] at h
    rw [b.ow j h.2, a.ow j h.1]
  sees := a.sees.trans b.sees
  beh := fun i x h e => by
    obtain ⟨e1, h1⟩ := a.beh i x h e
    obtain ⟨e2, h2⟩ := b.beh i x (by rw [a.len]; exact h) e1
    exact ⟨e2, h2.trans h1⟩
def gN (i : Nat) : FG := fun d ρ c k => k (ρ.set i (Sl.v d)) c
theorem lg_n (i : Nat) : LG W E (gName i) (gN i) true [i] := fun B o H σ ρ c v d Q Q' R dn hf k => by
  refine k _ H _ _ c hf (R.setv dn) ⟨fun _ => rfl, by rw [List.length_set], fun j h => set_off (fun e => h (by rw [e]; exact List.mem_singleton_self _)), fun j h => (by unfold drop; rw [if_neg (fun z => h (by rw [z.1]; exact List.mem_singleton_self _))]), hv_le drop_le, fun j a h e => ⟨?_, rfl⟩⟩
  unfold drop
  rw [if_neg (by have := R.len; omega)]
  exact e
def gsNil : FGs := fun ds ρ c k => match ds with | [] => k ρ c | _ => False
def gsCons (fg : FG) (fgs : FGs) : FGs := fun ds ρ c k => match ds with | d :: r => fg d ρ c (fun ρ' c' => fgs r ρ' c' k) | _ => False
theorem lgs_nil : LGs W E gNil gsNil true [] := fun B o H σ ρ c vs ds Q Q' R dn hf k => by
  cases dn with
  | nil => exact ⟨rfl, k o H σ ρ c hf R Kept.refl⟩
  | cons _ _ => exact hf.elim
theorem lgs_cons (hg : LG W E g fg p ts) (hr : LGs W E gs fgs p2 us) : LGs W E (gCons g gs) (gsCons fg fgs) (p && p2) (ts ++ us) := fun B o H σ ρ c vs ds Q Q' R dn hf k => by
  cases dn with
  | nil => exact hf.elim
  | cons h1 h2 =>
    refine ⟨_, _, rfl, hg B o H σ ρ c _ _ _ _ R h1 hf fun o1 H1 σ1 ρ1 c1 q1 R1 K1 => ?_⟩
    exact hr B o1 H1 σ1 ρ1 c1 _ _ _ _ R1 (h2.mono K1.sees _ _) q1 fun o2 H2 σ2 ρ2 c2 q2 R2 K2 => k o2 H2 σ2 ρ2 c2 q2 R2 (K1.trans K2)
def gT (n : Nat) (fgs : FGs) : FG := fun d ρ c k => match d with | .tup ds => ds.length = n ∧ fgs ds ρ c k | _ => False
def gL (n : Nat) (fgs : FGs) : FG := fun d ρ c k => match d with | .lst ds => ds.length = n ∧ fgs ds ρ c k | _ => False
def gTx (n : Nat) (fgs : FGs) : FG := fun d ρ c k => match d with | .str l => l.length = n ∧ fgs (l.map fun x => .str [x]) ρ c k | _ => False
theorem lg_t (hr : LGs W E gs fgs p us) : LG W E (gTup W.K n gs) (gT n fgs) p us := fun B o H σ ρ c v d Q Q' R dn hf k => by
  unfold gT at hf
  split at hf
  · cases dn with
    | tup h1 h2 => exact ⟨_, _, rfl, Same.seqT off_same h1, h2.len.trans hf.1, hr B o H σ ρ c _ _ Q Q' R h2 hf.2 k⟩
  · exact hf.elim
theorem lg_l (hr : LGs W E gs fgs p us) : LG W E (gLst W.K n gs) (gL n fgs) p us := fun B o H σ ρ c v d Q Q' R dn hf k => by
  unfold gL at hf
  split at hf
  · cases dn with
    | lst h1 h2 => exact ⟨_, _, rfl, SqL.of (off_some h1).1, h2.len.trans hf.1, hr B o H σ ρ c _ _ Q Q' R h2 hf.2 k⟩
  · exact hf.elim
theorem dn_sgL {M : Hp} : ∀ l : List Nat, DnAll W M (sgL l) (l.map fun x => .str [x])
  | [] => .nil
  | a :: r => .cons (.str [a]) (dn_sgL r)
theorem lg_tx (hr : LGs W E gs fgs p us) : LG W E (gTxt n gs) (gTx n fgs) p us := fun B o H σ ρ c v d Q Q' R dn hf k => by
  unfold gTx at hf
  split at hf
  · cases dn with
    | str l => exact ⟨_, rfl, hf.1, hr B o H σ ρ c _ _ Q Q' R (dn_sgL _) hf.2 k⟩
  · exact hf.elim
/-- xs[k] = .. of a list that slot i owns -/
def gSet (i : Nat) (fi : FX) : FG := fun d ρ c k => match ρ[i]? with
  | some (Sl.own (.lst xs)) => fi ρ c (fun kd c' => wpO (iD kd) fun z => wpO (ixN xs.length z) fun j => k (ρ.set i (Sl.own (.lst (xs.set j d)))) c') (fun _ _ _ => False)
  | _ => False
theorem xr_no {B : Bs} {o : Own} {σ : SSt} {ρ : PEnv} : XR W B o σ ρ E (fun _ _ _ => False) := fun _ _ _ _ _ _ _ h => h.elim
theorem set_same {α : Type} {l : List α} {x : α} (h : l[i]? = some x) : l.set i x = l := by
  apply List.ext_getElem?
  intro j
  by_cases z : i = j
  · subst z; rw [h]; exact set_at (List.getElem?_eq_some_iff.mp h).1
  · exact set_off z
theorem lg_set (hi : LE W E ti fi) : LG W E (gSub (tVar i) ti rSetL) (gSet i fi) false [] := fun B o H σ ρ c v d Q Q' R dn hf k => by
  unfold gSet at hf
  split at hf
  · rename_i xs e
    obtain ⟨a, h1, h2, h3⟩ := R.own i _ e
    generalize hx : H a = ob at h3
    cases h3 with
    | @lst vs _ h3 =>
      refine ⟨.ref a, h2, hi B o H σ ρ c _ _ _ R xr_no hf fun kd c1 w H1 q s b dk => ?_⟩
      obtain ⟨z, hz, j, hj, q⟩ := q
      obtain rfl := iD_of hz
      cases dk
      have R1 := R.ext s b
      have g1 := s a _ (R.fr i a h1).1 hx
      refine ⟨a, vs, z, j, rfl, rfl, g1, by rw [← hj]; exact ixn_len h3.len z, ?_⟩
      have sees : Same (Hv W o H) (Hv W o (upd H1 a (.lst (vs.set j v)))) := off_to fun b u n h => by
        refine ⟨n, ?_⟩
        rw [upd_ne (fun e => n (.inr ⟨i, by rw [e]; exact h1⟩))]
        exact s b u (fun e => n (.inl e)) h
      refine k o _ σ _ c1 q (R1.putc e h1 (.lst ((dnall_ext h3 s).set j (dn_ext dn s)))) ⟨fun h => (by cases h), rfl, fun _ _ => rfl, fun _ _ => rfl, sees, fun l x hl ho => ⟨ho, ?_⟩⟩
      have ne : x ≠ a := fun e2 => by
        subst e2
        have := R.inj l i x ho h1
        have li := (List.getElem?_eq_some_iff.mp e).1
        have := R.len
        omega
      rw [upd_ne ne]
      obtain ⟨u, hu⟩ := (R.fr l x ho).2.1
      rw [hu]
      exact s x u (R.fr l x ho).1 hu
  · exact hf.elim

/-! ### statements -/
structure PEnds where
  nx : PEnv → Nat → Prop
  rt : D → Nat → Prop
  bk : PEnv → Nat → Prop
  ct : PEnv → Nat → Prop
  ex : PEnv → PXc
  ro : D → Nat → Prop := fun _ _ => False
/-- a new object that is handed out -/
structure NewO (W : Wd) (B : Bs) (o : Own) (H : Hp) (a : Addr) (d : D) : Prop where
  bh : B.h a = none
  bs : ¬ B.s a
  pb : W.pb ≠ some a
  oc : OwnC W (Off (fun b => Hid W o b ∨ b = a) H) (H a) d
abbrev FS := PEnds → PEnv → Nat → Prop
structure ER (W : Wd) (B : Bs) (E : WX) (D : Ends) (P : PEnds) : Prop where
  nx : ∀ o H σ ρ c, Rel W B o H σ ρ c → P.nx ρ c → D.nx σ H
  rt : ∀ o H σ ρ c v d, Rel W B o H σ ρ c → Dn W (Hv W o H) v d → P.rt d c → D.rt v H
  bk : ∀ o H σ ρ c, Rel W B o H σ ρ c → P.bk ρ c → D.bk σ H
  ct : ∀ o H σ ρ c, Rel W B o H σ ρ c → P.ct ρ c → D.ct σ H
  ex : ∀ o σ ρ, XR W B o σ ρ E (P.ex ρ)
  ro : ∀ o H σ ρ c a d, Rel W B o H σ ρ c → NewO W B o H a d → P.ro d c → D.rt (.ref a) H
def LS (W : Wd) (E : WX) (t : TS) (f : FS) : Prop := ∀ (B : Bs) (o : Own) (H : Hp) (σ : SSt) (ρ : PEnv) (c : Nat) (D : Ends) (P : PEnds), Rel W B o H σ ρ c → ER W B E D P → f P ρ c → t D σ H
theorem ER.back {B B' : Bs} {D : Ends} {P : PEnds} (e : ER W B E D P) (s : Same B.h B'.h) (es : B'.s = B.s) : ER W B' E D P :=
  ⟨fun o H σ ρ c R => e.nx o H σ ρ c (R.back s es), fun o H σ ρ c v d R => e.rt o H σ ρ c v d (R.back s es), fun o H σ ρ c R => e.bk o H σ ρ c (R.back s es), fun o H σ ρ c R => e.ct o H σ ρ c (R.back s es),
    fun o σ ρ H c x d v dd R => e.ex o σ ρ H c x d v dd (R.back s es),
    fun o H σ ρ c a d R n => e.ro o H σ ρ c a d (R.back s es) ⟨Same.none s n.bh, by rw [← es]; exact n.bs, n.pb, n.oc⟩⟩
def fSeq (f1 f2 : FS) : FS := fun P ρ c => f1 { P with nx := f2 P } ρ c
theorem ls_seq {t1 t2 : TS} {f1 f2 : FS} (h1 : LS W E t1 f1) (h2 : LS W E t2 f2) : LS W E (tSeq t1 t2) (fSeq f1 f2) := fun B o H σ ρ c D P R e hf =>
  h1 B o H σ ρ c _ { P with nx := f2 P } R ⟨fun o H σ ρ c R q => h2 B o H σ ρ c D P R e q, e.rt, e.bk, e.ct, e.ex, e.ro⟩ hf
def fNext : FS := fun P ρ c => P.nx ρ c
theorem ls_next : LS W E tNext fNext := fun B o H σ ρ c D P R e hf => e.nx o H σ ρ c R hf
def fBrk : FS := fun P ρ c => P.bk ρ c
theorem ls_brk : LS W E tBreak fBrk := fun B o H σ ρ c D P R e hf => e.bk o H σ ρ c R hf
def fCont : FS := fun P ρ c => P.ct ρ c
theorem ls_cont : LS W E tCont fCont := fun B o H σ ρ c D P R e hf => e.ct o H σ ρ c R hf
def fAsg (f : FX) (fg : FG) : FS := fun P ρ c => f ρ c (fun d c' => fg d ρ c' P.nx) (P.ex ρ)
theorem ls_asg (he : LE W E te f) (hg : LG W E g fg p ts) : LS W E (tAsg te g) (fAsg f fg) := fun B o H σ ρ c D P R e hf =>
  he B o H σ ρ c _ _ _ R (e.ex o σ ρ) hf fun d c1 v H1 q s b dn => hg B o H1 σ ρ c1 v d _ _ (R.ext s b) dn q fun o2 H2 σ2 ρ2 c2 q2 R2 _ => e.nx o2 H2 σ2 ρ2 c2 R2 q2
/-- x = a new list or dict, x's own from now on -/
def fOwn (i : Nat) (f : FX) : FS := fun P ρ c => f ρ c (fun d c' => P.nx (ρ.set i (Sl.own d)) c') (P.ex ρ)
theorem ls_own (he : LF W E te f) : LS W E (tAsg te (gName i)) (fOwn i f) := fun B o H σ ρ c D P R e hf =>
  he B o H σ ρ c _ _ _ R (e.ex o σ ρ) hf fun d c1 a H1 q n s b oc => e.nx _ H1 _ _ c1 (R.setown n s b oc) q
def fDrop (f : FX) : FS := fun P ρ c => f ρ c (fun _ c' => P.nx ρ c') (P.ex ρ)
theorem ls_drop (he : LE W E te f) : LS W E (tDrop te) (fDrop f) := fun B o H σ ρ c D P R e hf =>
  he B o H σ ρ c _ _ _ R (e.ex o σ ρ) hf fun d c1 v H1 q s b dn => e.nx o H1 σ ρ c1 (R.ext s b) q
/-- xs.append(e) of a list that slot i owns -/
def fApp (i : Nat) (f : FX) : FS := fun P ρ c => match ρ[i]? with
  | some (Sl.own (.lst xs)) => f ρ c (fun d c' => xs.length < 16777216 ∧ P.nx (ρ.set i (Sl.own (.lst (xs ++ [d])))) c') (P.ex ρ)
  | _ => False
theorem ls_app (he : LE W E te f) : LS W E (tDrop (tBM W.K "list" rAppend (tVar i) (tCons te tNil))) (fApp i f) := fun B o H σ ρ c D P R e hf => by
  unfold fApp at hf
  split at hf
  · rename_i xs ei
    obtain ⟨a, h1, h2, h3⟩ := R.own i _ ei
    generalize hx : H a = ob at h3
    cases h3 with
    | @lst vs _ h3 =>
      refine ⟨.ref a, h2, .inl ⟨rfl, vs, SqL.of hx⟩, he B o H σ ρ c _ _ _ R (e.ex o σ ρ) hf fun d c1 v H1 q s b dn => ?_⟩
      have g1 := s a _ (R.fr i a h1).1 hx
      refine ⟨a, vs, v, rfl, rfl, g1, by rw [h3.len, sizeLine_eq]; exact q.1, ?_⟩
      exact e.nx o _ σ _ c1 ((R.ext s b).putc ei h1 (.lst ((dnall_ext h3 s).app (.cons dn .nil)))) q.2
  · exact hf.elim
def fIfS (ft : FT) (f1 f2 : FS) : FS := fun P ρ c => ft ρ c (fun b c' => if b = true then f1 P ρ c' else f2 P ρ c') (P.ex ρ)
theorem ls_if {t1 t2 : TS} {f1 f2 : FS} (ht : LT W E tt ft) (h1 : LS W E t1 f1) (h2 : LS W E t2 f2) : LS W E (tIfS tt t1 t2) (fIfS ft f1 f2) := fun B o H σ ρ c D P R e hf => by
  refine ht B o H σ ρ c _ _ _ R (e.ex o σ ρ) hf fun z c1 H1 q s b => ?_
  cases z with
  | true =>
    rw [if_pos rfl] at q ⊢
    exact h1 B o H1 σ ρ c1 D P (R.ext s b) e q
  | false =>
    rw [if_neg (by decide)] at q ⊢
    exact h2 B o H1 σ ρ c1 D P (R.ext s b) e q
def fRet (f : FX) : FS := fun P ρ c => f ρ c P.rt (P.ex ρ)
theorem ls_ret (he : LE W E te f) : LS W E (tRet te) (fRet f) := fun B o H σ ρ c D P R e hf =>
  he B o H σ ρ c _ _ _ R (e.ex o σ ρ) hf fun d c1 v H1 q s b dn => e.rt o H1 σ ρ c1 v d (R.ext s b) dn q
/-- a new list is returned -/
def fRetO (f : FX) : FS := fun P ρ c => f ρ c P.ro (P.ex ρ)
theorem ls_retO (he : LF W E te f) : LS W E (tRet te) (fRetO f) := fun B o H σ ρ c D P R e hf =>
  he B o H σ ρ c _ _ _ R (e.ex o σ ρ) hf fun d c1 a H1 q n s b oc => e.ro o H1 σ ρ c1 a d (R.ext s b) ⟨Same.none R.base (off_none n), fun m => (by
    obtain ⟨i, _, h⟩ := R.keep a m
    obtain ⟨_, ⟨u, hu⟩, _⟩ := R.fr i a h
    rw [n] at hu
    cases hu), R.box.ne n, oc⟩ q
def fRetOv (i : Nat) : FS := fun P ρ c => match ρ[i]? with | some (Sl.own d) => P.ro d c | _ => False
theorem ls_retOv (i : Nat) : LS W E (tRet (tVar i)) (fRetOv i) := fun B o H σ ρ c D P R e hf => by
  unfold fRetOv at hf
  split at hf
  · rename_i d ei
    obtain ⟨a, h1, h2, h3⟩ := R.own i d ei
    have li := (List.getElem?_eq_some_iff.mp ei).1
    obtain ⟨f1, f2, f3⟩ := R.fr i a h1
    have bh : B.h a = none := by
      rcases f3 with f3 | f3
      · exact f3.2
      · omega
    refine ⟨.ref a, h2, e.ro o H σ ρ c a d R ⟨bh, fun m => ?_, f1, h3.mono (off_le fun b m => ?_)⟩ hf⟩
    · obtain ⟨j, lj, hj⟩ := R.keep a m
      have := R.inj i j a h1 hj
      omega
    · rcases m with m | rfl
      · exact m
      · exact .inr ⟨i, h1⟩
  · exact hf.elim
def fRetN : FS := fun P _ c => P.rt .non c
theorem ls_retN : LS W E tRetN fRetN := fun B o H σ ρ c D P R e hf => e.rt o H σ ρ c .non .non R .non hf
def fPar (i j : Nat) (fs : FA) : FS := fun P ρ c => fs ρ c (fun ds c' => match ds with | [d, e] => P.nx ((ρ.set i (Sl.v d)).set j (Sl.v e)) c' | _ => False) (P.ex ρ)
theorem ls_par (ha : LA W E tas fas) : LS W E (tPar i j tas) (fPar i j fas) := fun B o H σ ρ c D P R e hf => by
  refine ha B o H σ ρ c _ _ _ R (e.ex o σ ρ) hf fun ds c1 vs H1 q s b dn => ?_
  split at q
  · cases dn with
    | cons d1 r => cases r with
      | cons d2 r => cases r with
        | nil =>
          have R1 := (R.ext s b).setv (i := i) d1
          exact ⟨_, _, rfl, e.nx _ H1 _ _ c1 (R1.setv (i := j) (d2.mono (hv_le drop_le) _ _)) q⟩
  · exact q.elim
def fPar3 (i j l : Nat) (fs : FA) : FS := fun P ρ c => fs ρ c (fun ds c' => match ds with | [d, e, u] => P.nx (((ρ.set i (Sl.v d)).set j (Sl.v e)).set l (Sl.v u)) c' | _ => False) (P.ex ρ)
theorem ls_par3 {l : Nat} (ha : LA W E tas fas) : LS W E (tPar3 i j l tas) (fPar3 i j l fas) := fun B o H σ ρ c D P R e hf => by
  refine ha B o H σ ρ c _ _ _ R (e.ex o σ ρ) hf fun ds c1 vs H1 q s b dn => ?_
  split at q
  · cases dn with
    | cons d1 r => cases r with
      | cons d2 r => cases r with
        | cons d3 r => cases r with
          | nil =>
            have R1 := (R.ext s b).setv (i := i) d1
            have R2 := R1.setv (i := j) (d2.mono (hv_le drop_le) _ _)
            exact ⟨_, _, _, rfl, e.nx _ H1 _ _ c1 (R2.setv (i := l) ((d3.mono (hv_le drop_le) _ _).mono (hv_le (by rw [List.length_set]; exact drop_le)) _ _)) q⟩
  · exact q.elim
def fAug (i : Nat) (op : Int → Int → Int) (f : FX) : FS := fun P ρ c => match ρ[i]? with
  | some (Sl.v (.int x)) => f ρ c (fun d c' => wpO (iD d) fun y => P.nx (ρ.set i (Sl.v (.int (op x y)))) c') (P.ex ρ)
  | _ => False
theorem ls_aug {op : Int → Int → Int} (he : LE W E te f) : LS W E (tAug i te (ipI op)) (fAug i op f) := fun B o H σ ρ c D P R e hf => by
  unfold fAug at hf
  split at hf
  · rename_i x ei
    obtain ⟨v, h1, h2⟩ := R.slot i _ ei
    cases h2
    refine ⟨_, h1, he B o H σ ρ c _ _ _ R (e.ex o σ ρ) hf fun d c1 v H1 q s b dn => ?_⟩
    obtain ⟨y, hy, q⟩ := q
    obtain rfl := iD_of hy
    cases dn
    exact ⟨_, _, rfl, rfl, e.nx _ H1 _ _ c1 ((R.ext s b).setv (.int _)) q⟩
  · exact hf.elim
/-- what slot i owns is shared from here on -/
def shr (i : Nat) (ρ : PEnv) : PEnv := match ρ[i]? with | some (Sl.own d) => ρ.set i (Sl.v d) | _ => ρ
def fShare (i : Nat) (f : FS) : FS := fun P ρ c => f P (shr i ρ) c
theorem ls_share {t : TS} {fs : FS} (i : Nat) (h : LS W E t fs) : LS W E t (fShare i fs) := fun B o H σ ρ c D P R e hf => by
  unfold fShare shr at hf
  split at hf
  · rename_i d ei
    exact h B _ H σ _ c D P (R.share ei) e hf
  · exact h B o H σ ρ c D P R e hf
def fRz (x : Str) (fs : FA) : FS := fun P ρ c => fs ρ c (fun ds c' => match ds with | [d] => P.ex ρ c' x d | _ => False) (P.ex ρ)
theorem ls_rz {x : Str} (ha : LA W E tas fas) : LS W E (tRz (errAt W.mg x) E tas) (fRz x fas) := fun B o H σ ρ c D P R e hf => by
  refine ha B o H σ ρ c _ _ _ R (e.ex o σ ρ) hf fun ds c1 vs H1 q s b dn => ?_
  split at q
  · cases dn with
    | cons d1 r => cases r with
      | nil =>
        refine ⟨_, rfl, fun d hd => ?_⟩
        have R1 := R.ext s b
        exact e.ex o σ ρ _ c1 x _ _ d (R1.same (same_new hd)) q (R1.new hd) (dn_ext d1 (.of (same_new hd)))
  · exact q.elim
/-! ### what loops walk -/
abbrev FI := PEnv → Nat → (List D → Nat → Prop) → PXc → Prop
def IOk (W : Wd) (M : Hp) (J : It) (ds : List D) : Prop := ∃ (G : Hp → Prop) (Y : Nat → Hp → V → Hp → Prop), Walk J ds.length G Y ∧ (∀ H, Same M H → G H) ∧
  (∀ i d x H H', ds[i]? = some d → Same M H → Y i H x H' → Same H H' ∧ ∀ M', Same M M' → (∀ b u, H b = none → H' b = some u → M' b = some u) → Dn W M' x d)
def LI (W : Wd) (E : WX) (wi : TI) (f : FI) : Prop := ∀ (B : Bs) (o : Own) (H : Hp) (σ : SSt) (ρ : PEnv) (c : Nat) (R : It → Hp → Prop) (Q' : List D → Nat → Prop) (X : PXc), Rel W B o H σ ρ c → XR W B o σ ρ E X → f ρ c Q' X →
  (∀ ds c' J H', Q' ds c' → St W H H' → BoxO W H' c' → IOk W (Hv W o H') J ds → R J H') → wi σ H R
def lD : D → Option (List D) | .lst xs => some xs | _ => none
def tDs : D → Option (List D) | .tup xs => some xs | _ => none
def sDs : D → Option (List D) | .str l => some (l.map fun c => .str [c]) | _ => none
def fIter (p : D → Option (List D)) (f : FX) : FI := fun ρ c Q X => f ρ c (fun d c' => wpO (p d) fun ds => Q ds c') X
theorem li_list (he : LE W E te f) : LI W E (iList W.K te) (fIter lD f) := fun B o H σ ρ c R Q' X Re x hf k => by
  refine he B o H σ ρ c _ _ X Re x hf fun d c1 v H1 q s b dn => ?_
  obtain ⟨ds, hd, q⟩ := q
  unfold lD at hd
  split at hd
  · cases hd
    cases dn with
    | @lst a vs _ h1 h2 =>
      refine ⟨a, rfl, ⟨vs, SqL.of (off_some h1).1⟩, k ds c1 _ H1 q s b ?_⟩
      refine ⟨_, _, h2.len ▸ walk_list (xs := vs), fun H' sm => SqL.of (sm _ _ h1), fun i d x H' H'' e sm y => ?_⟩
      obtain ⟨rfl, hy⟩ := y
      obtain ⟨d', e', dn'⟩ := h2.get' hy
      rw [e] at e'
      cases e'
      exact ⟨Same.refl _, fun M' sm' _ => dn'.mono sm' _ _⟩
  · cases hd
theorem li_tup (he : LE W E te f) : LI W E (iTup W.K te) (fIter tDs f) := fun B o H σ ρ c R Q' X Re x hf k => by
  refine he B o H σ ρ c _ _ X Re x hf fun d c1 v H1 q s b dn => ?_
  obtain ⟨ds, hd, q⟩ := q
  unfold tDs at hd
  split at hd
  · cases hd
    cases dn with
    | @tup a vs _ h1 h2 =>
      refine ⟨a, rfl, ⟨vs, Same.seqT off_same h1⟩, k ds c1 _ H1 q s b ?_⟩
      refine ⟨_, _, h2.len ▸ walk_tup (xs := vs), fun H' sm => Same.seqT sm h1, fun i d x H' H'' e sm y => ?_⟩
      obtain ⟨rfl, hy⟩ := y
      obtain ⟨d', e', dn'⟩ := h2.get' hy
      rw [e] at e'
      cases e'
      exact ⟨Same.refl _, fun M' sm' _ => dn'.mono sm' _ _⟩
  · cases hd
theorem li_str (he : LE W E te f) : LI W E (iStr te) (fIter sDs f) := fun B o H σ ρ c R Q' X Re x hf k => by
  refine he B o H σ ρ c _ _ X Re x hf fun d c1 v H1 q s b dn => ?_
  obtain ⟨ds, hd, q⟩ := q
  unfold sDs at hd
  split at hd
  · rename_i l
    cases hd
    cases dn
    have e0 : (l.map fun c => D.str [c]).length = (tx l).cps.size := by simp
    have w : Walk (Its (tx l)) (l.map fun c => D.str [c]).length _ _ := e0 ▸ walk_str (z := tx l)
    refine ⟨_, rfl, k _ c1 _ H1 q s b ⟨_, _, w, fun H' sm => trivial, fun i d x H' H'' e sm y => ?_⟩⟩
    obtain ⟨rfl, ch, hy, rfl⟩ := y
    rw [List.getElem?_map] at e
    have hl : l[i]? = some ch := by simpa using hy
    rw [hl] at e
    cases e
    exact ⟨Same.refl _, fun M' sm' _ => .str [ch]⟩
  · cases hd
def rgD (lo : Int) (n : Nat) : List D := (List.range n).map fun i : Nat => .int (lo + i)
theorem rgD_len (lo : Int) (n : Nat) : (rgD lo n).length = n := by unfold rgD; rw [List.length_map, List.length_range]
def fRg1 (fs : FA) : FI := fun ρ c Q X => fs ρ c (fun ds c' => match ds with | [.int j] => (-4611686018427387904 ≤ j ∧ j < 4611686018427387904) ∧ Q (rgD 0 j.toNat) c' | _ => False) X
def fRg2 (fs : FA) : FI := fun ρ c Q X => fs ρ c (fun ds c' => match ds with | [.int i, .int j] => (-4611686018427387904 ≤ i ∧ i < 4611686018427387904 ∧ -4611686018427387904 ≤ j ∧ j < 4611686018427387904) ∧ Q (rgD i (j - i).toNat) c' | _ => False) X
theorem iok_rg {M : Hp} {lo : Int} {n : Nat} : IOk W M (Itr lo n) (rgD lo n) := by
  have w : Walk (Itr lo n) (rgD lo n).length (fun _ => True) (YFn fun i => .int (lo + i)) := by rw [rgD_len]; exact walk_range
  refine ⟨_, _, w, fun H' sm => trivial, fun i d x H' H'' e sm y => ?_⟩
  obtain ⟨rfl, rfl⟩ := y
  have hi : i < n := by have := (List.getElem?_eq_some_iff.mp e).1; rw [rgD_len] at this; exact this
  unfold rgD at e
  rw [List.getElem?_map, List.getElem?_range hi] at e
  cases e
  exact ⟨Same.refl _, fun _ _ _ => .int _⟩
theorem li_rg1 (ha : LA W E tas fas) : LI W E (iRng1 tas) (fRg1 fas) := fun B o H σ ρ c R Q' X Re x hf k => by
  refine ha B o H σ ρ c _ _ X Re x hf fun ds c1 vs H1 q s b dn => ?_
  split at q
  · cases dn with
    | cons d1 r => cases r with
      | nil =>
        cases d1
        exact ⟨_, rfl, by omega, by omega, k _ c1 _ H1 q.2 s b iok_rg⟩
  · exact q.elim
theorem li_rg2 (ha : LA W E tas fas) : LI W E (iRng2 tas) (fRg2 fas) := fun B o H σ ρ c R Q' X Re x hf k => by
  refine ha B o H σ ρ c _ _ X Re x hf fun ds c1 vs H1 q s b dn => ?_
  split at q
  · cases dn with
    | cons d1 r => cases r with
      | cons d2 r => cases r with
        | nil =>
          cases d1; cases d2
          exact ⟨_, _, rfl, ⟨by omega, by omega, by omega, by omega⟩, k _ c1 _ H1 q.2 s b iok_rg⟩
  · exact q.elim
/-! ### for, while -/
/-- a loop, by an invariant over the turn -/
def fLoop (fg : FG) (fb : FS) (ds : List D) (P : PEnds) (ρ : PEnv) (c : Nat) : Prop := ∃ I : Nat → PEnv → Nat → Prop, I 0 ρ c ∧
  (∀ i d ρ c, ds[i]? = some d → I i ρ c → fg d ρ c (fun ρ' c' => fb { P with nx := I (i + 1), ct := I (i + 1), bk := P.nx } ρ' c')) ∧ ∀ ρ c, I ds.length ρ c → P.nx ρ c
/-- a loop, turn by turn -/
def loopR (fg : FG) (fb : FS) : List D → PEnds → PEnv → Nat → Prop
  | [], P, ρ, c => P.nx ρ c
  | d :: ds, P, ρ, c => fg d ρ c (fun ρ' c' => fb { P with nx := loopR fg fb ds P, ct := loopR fg fb ds P, bk := P.nx } ρ' c')
theorem get_drop {α : Type} {l : List α} {i : Nat} (h : i < l.length) : l.drop i = l[i] :: l.drop (i + 1) := List.drop_eq_getElem_cons h
theorem loop_of {fb : FS} {ds : List D} {P : PEnds} {ρ : PEnv} {c : Nat} (h : loopR fg fb ds P ρ c) : fLoop fg fb ds P ρ c := by
  refine ⟨fun i ρ c => loopR fg fb (ds.drop i) P ρ c, h, fun i d ρ c e h => ?_, fun ρ c h => ?_⟩
  · obtain ⟨hl, rfl⟩ := List.getElem?_eq_some_iff.mp e
    dsimp only at h
    rw [get_drop hl] at h
    exact h
  · dsimp only at h
    rw [List.drop_length] at h
    exact h
def fFor (fi : FI) (fg : FG) (fb : FS) : FS := fun P ρ c => fi ρ c (fun ds c' => fLoop fg fb ds P ρ c') (P.ex ρ)
theorem ls_for {wi : TI} {fi : FI} {tb : TS} {fb : FS} (hi : LI W E wi fi) (hg : LG W E g fg p ts) (hb : LS W E tb fb) : LS W E (tFor wi g tb) (fFor fi fg fb) := fun B o H σ ρ c D P R e hf => by
  refine hi B o H σ ρ c _ _ _ R (e.ex o σ ρ) hf fun ds c1 J H1 q s b iok => ?_
  have R1 := R.ext s b
  obtain ⟨G, Y, wk, hG, hY⟩ := iok
  obtain ⟨B1, hB1⟩ : ∃ B1 : Bs, B1 = ⟨Off (fun b => Hid W o b ∧ ¬ B.s b) H1, B.s⟩ := ⟨_, rfl⟩
  have e1 : ER W B1 E D P := e.back (by rw [hB1]; exact R1.atBase) (by rw [hB1])
  have RB : Rel W B1 o H1 σ ρ c1 := by rw [hB1]; exact R1.at
  have seen : Same (Hv W o H1) (Off B1.s B1.h) := by rw [hB1]; exact R1.atSeen
  obtain ⟨I, h0, hstep, hd⟩ := q
  refine ⟨fun i m σ H => m = ds.length - i ∧ i ≤ ds.length ∧ ∃ o ρ c, Rel W B1 o H σ ρ c ∧ I i ρ c, ⟨_, rfl, Nat.zero_le _, o, ρ, c1, RB, h0⟩, ?_⟩
  rintro i m σ2 H2 ⟨rfl, hi, o2, ρ2, c2, R2, q2⟩
  have sm := seen.trans R2.seen
  have sm2 := sm.trans (hv_same (W := W) (o := o2) (H := H2))
  by_cases hlt : i < ds.length
  · refine .inr ⟨wk.goes i H2 hlt (hG _ sm2), fun σ' H' => ∃ o ρ c, Rel W B1 o H' σ' ρ c ∧ I (i + 1) ρ c, fun σ' H' z => ⟨ds.length - (i + 1), by omega, rfl, hlt, z⟩, fun x H' y => ?_⟩
    have q2 := hstep i ds[i] ρ2 c2 (List.getElem?_eq_getElem hlt) q2
    obtain ⟨s3, dn⟩ := hY i ds[i] x H2 H' (List.getElem?_eq_getElem hlt) sm2 (wk.yields i H2 x H' hlt (hG _ sm2) y)
    have R3 := R2.same s3
    have dn := dn (Hv W o2 H') (sm.trans (off_ext s3)) fun b u n h => off_get h (R2.hid n)
    refine hg B1 o2 H' σ2 ρ2 c2 x _ _ _ R3 dn q2 fun o4 H4 σ4 ρ4 c4 q4 R4 _ => ?_
    exact hb B1 o4 H4 σ4 ρ4 c4 _ { P with nx := I (i + 1), ct := I (i + 1), bk := P.nx } R4
      ⟨fun o H σ ρ c R q => ⟨o, ρ, c, R, q⟩, e1.rt, fun o H σ ρ c R q => e1.nx o H σ ρ c R q, fun o H σ ρ c R q => ⟨o, ρ, c, R, q⟩, e1.ex, e1.ro⟩ q4
  · have hz : i = ds.length := by omega
    subst hz
    exact .inl ⟨wk.stops H2 (hG _ sm2), e1.nx o2 H2 σ2 ρ2 c2 R2 (hd _ _ q2)⟩
def fWhile (ft : FT) (fb : FS) : FS := fun P ρ c => ∃ V : Nat → PEnv → Nat → Prop, (∃ m, V m ρ c) ∧ ∀ m ρ c, V m ρ c →
  ft ρ c (fun b c' => if b = true then fb { P with nx := fun ρ' c'' => ∃ m', m' < m ∧ V m' ρ' c'', ct := fun ρ' c'' => ∃ m', m' < m ∧ V m' ρ' c'', bk := P.nx } ρ c' else P.nx ρ c') (P.ex ρ)
theorem ls_while {tb : TS} {fb : FS} (ht : LT W E tt ft) (hb : LS W E tb fb) : LS W E (tWhile tt tb) (fWhile ft fb) := fun B o H σ ρ c D P R e hf => by
  obtain ⟨V, ⟨m, h0⟩, hs⟩ := hf
  refine ⟨fun m σ H => ∃ o ρ c, Rel W B o H σ ρ c ∧ V m ρ c, ⟨m, o, ρ, c, R, h0⟩, ?_⟩
  rintro m σ2 H2 ⟨o2, ρ2, c2, R2, q2⟩
  refine ht B o2 H2 σ2 ρ2 c2 _ _ _ R2 (e.ex _ _ _) (hs m ρ2 c2 q2) fun z c3 H3 q3 s b => ?_
  cases z with
  | true =>
    rw [if_pos rfl] at q3 ⊢
    refine ⟨fun σ' H' => ∃ o ρ c, Rel W B o H' σ' ρ c ∧ ∃ m', m' < m ∧ V m' ρ c, fun σ' H' ⟨o, ρ, c, R, m', h1, h2⟩ => ⟨m', h1, o, ρ, c, R, h2⟩, ?_⟩
    exact hb B o2 H3 σ2 ρ2 c3 _ { P with nx := fun ρ' c'' => ∃ m', m' < m ∧ V m' ρ' c'', ct := fun ρ' c'' => ∃ m', m' < m ∧ V m' ρ' c'', bk := P.nx } (R2.ext s b) ⟨fun o H σ ρ c R q => ⟨o, ρ, c, R, q⟩, e.rt, fun o H σ ρ c R q => e.nx o H σ ρ c R q, fun o H σ ρ c R q => ⟨o, ρ, c, R, q⟩, e.ex, e.ro⟩ q3
  | false =>
    rw [if_neg (by decide)] at q3 ⊢
    exact e.nx o2 H3 σ2 ρ2 c3 (R2.ext s b) q3
/-! ### comprehensions -/
def pw (ρ : PEnv) : List Nat → PEnv
  | [] => ρ
  | v :: vs => (pw ρ vs).set v Sl.no
def isOwn : Option Sl → Bool
  | some (Sl.own _) => true
  | _ => false
def nown (ρ : PEnv) (vs : List Nat) : Bool := vs.all fun v => !isOwn ρ[v]?
theorem pw_len (ρ : PEnv) : ∀ vs, (pw ρ vs).length = ρ.length
  | [] => rfl
  | v :: vs => by unfold pw; rw [List.length_set, pw_len ρ vs]
theorem pw_own {ρ : PEnv} {i : Nat} {d : D} : ∀ {vs : List Nat}, (pw ρ vs)[i]? = some (Sl.own d) → ρ[i]? = some (Sl.own d)
  | [], h => h
  | v :: vs, h => by
    unfold pw at h
    rcases set_get h with ⟨_, _, e⟩ | ⟨_, h⟩
    · cases e
    · exact pw_own h
theorem pw_no {ρ : PEnv} {i : Nat} {d : D} : ∀ {vs : List Nat}, i ∈ vs → (pw ρ vs)[i]? ≠ some (Sl.own d)
  | [], h => by cases h
  | v :: vs, h => fun e => by
    unfold pw at e
    rcases set_get e with ⟨_, _, e1⟩ | ⟨n, e1⟩
    · cases e1
    · rcases List.mem_cons.mp h with rfl | h
      · have := (List.getElem?_eq_some_iff.mp e1).1
        omega
      · exact pw_no h e1
theorem Rel.setno {B : Bs} {o : Own} {H : Hp} {σ : SSt} {ρ : PEnv} {c : Nat} (R : Rel W B o H σ ρ c) (hi : isOwn ρ[i]? = false) : Rel W B o H (σ.set i none) (ρ.set i Sl.no) c where
  len := by rw [List.length_set, List.length_set, R.len]
  base := R.base
  keep := fun b hb => by
    obtain ⟨j, h1, h2⟩ := R.keep b hb
    exact ⟨j, by rw [List.length_set]; exact h1, h2⟩
  slot := fun j e h => by
    rcases set_get h with ⟨rfl, hl, e1⟩ | ⟨n, h⟩
    · cases e1
    · obtain ⟨u, h1, h2⟩ := R.slot j e h
      have lj := (List.getElem?_eq_some_iff.mp h).1
      exact ⟨u, by rw [set_off (by omega)]; exact h1, h2⟩
  own := fun j e h => by
    rcases set_get h with ⟨rfl, hl, e1⟩ | ⟨n, h⟩
    · cases e1
    · obtain ⟨u, h1, h2, h3⟩ := R.own j e h
      have lj := (List.getElem?_eq_some_iff.mp h).1
      exact ⟨u, h1, by rw [set_off (by omega)]; exact h2, h3⟩
  inj := R.inj
  fr := fun j b h => by
    obtain ⟨h2, h3, h4⟩ := R.fr j b h
    refine ⟨h2, h3, ?_⟩
    rcases h4 with ⟨⟨e, h4⟩, h5⟩ | h4
    · have : i ≠ j := fun z => by
        subst z
        rw [h4] at hi
        cases hi
      exact .inl ⟨⟨e, by rw [set_off this]; exact h4⟩, h5⟩
    · exact .inr (by rw [List.length_set]; exact h4)
  bd := R.bd
  box := R.box
theorem Rel.wipe {B : Bs} {o : Own} {H : Hp} {σ : SSt} {ρ : PEnv} {c : Nat} (R : Rel W B o H σ ρ c) : ∀ {vs : List Nat}, nown ρ vs = true → Rel W B o H (wipe σ vs) (pw ρ vs) c
  | [], _ => R
  | v :: vs, h => by
    unfold nown at h
    rw [List.all_cons, Bool.and_eq_true] at h
    have ih := Rel.wipe R (vs := vs) h.2
    refine ih.setno ?_
    cases e : isOwn (pw ρ vs)[v]? with
    | false => rfl
    | true =>
      unfold isOwn at e
      split at e
      · rename_i d e2
        have := pw_own e2
        rw [this] at h
        simp [isOwn] at h
      · cases e
theorem wipe_get {σ : SSt} {j : Nat} : ∀ {vs : List Nat}, (L2.wipe σ vs)[j]? = if j ∈ vs then (if j < σ.length then some none else none) else σ[j]?
  | [] => by simp [L2.wipe]
  | v :: vs => by
    unfold L2.wipe
    by_cases e : v = j
    · subst e
      rw [if_pos List.mem_cons_self]
      by_cases hl : v < σ.length
      · rw [if_pos hl, List.getElem?_set_self (by rw [wipe_length]; exact hl)]
      · rw [if_neg hl, List.getElem?_eq_none (by rw [List.length_set, wipe_length]; omega)]
    · rw [List.getElem?_set_ne e, wipe_get (vs := vs)]
      have : (j ∈ v :: vs) ↔ j ∈ vs := by simp [Ne.symm e]
      by_cases m : j ∈ vs
      · rw [if_pos m, if_pos (this.mpr m)]
      · rw [if_neg m, if_neg (fun z => m (this.mp z))]
theorem wipe_back {σ τ : SSt} {vs ts : List Nat} (hl : τ.length = (L2.wipe σ vs).length) (ho : ∀ j, j ∉ ts → τ[j]? = (L2.wipe σ vs)[j]?) (hs : ∀ j ∈ ts, j ∈ vs) : L2.wipe τ vs = L2.wipe σ vs := by
  apply List.ext_getElem?
  intro j
  rw [wipe_get, wipe_get]
  rw [wipe_length] at hl
  by_cases m : j ∈ vs
  · rw [if_pos m, if_pos m, hl]
  · rw [if_neg m, if_neg m, ho j (fun z => m (hs j z)), wipe_get, if_neg m]
/-- a comprehension, by an invariant over the turn and what is found so far -/
def lcGo (fg : FG) (ft : FT) (fe : FX) (ρ : PEnv) (ds : List D) (c : Nat) (Q : PQ) : Prop := ∃ I : Nat → List D → Nat → Prop, I 0 [] c ∧
  (∀ i d acc c, ds[i]? = some d → I i acc c → fg d ρ c (fun ρ' c1 => ft ρ' c1 (fun b c2 => if b = true then fe ρ' c2 (fun y c3 => acc.length < 16777216 ∧ I (i + 1) (acc ++ [y]) c3) (fun _ _ _ => False) else I (i + 1) acc c2) (fun _ _ _ => False))) ∧
  ∀ acc c, I ds.length acc c → Q (.lst acc) c
def fLc (fi : FI) (fg : FG) (ft : FT) (fe : FX) (vs : List Nat) : FX := fun ρ c Q X => nown ρ vs = true ∧ fi ρ c (fun ds c1 => lcGo fg ft fe (pw ρ vs) ds c1 Q) X
def W0 : WX := fun _ _ _ _ => False
/-- as LI, for a comprehension: own lists may be walked too -/
def IOk2 (W : Wd) (M1 M : Hp) (J : It) (ds : List D) : Prop := ∃ (G : Hp → Prop) (Y : Nat → Hp → V → Hp → Prop), Walk J ds.length G Y ∧ (∀ H, Same M1 H → G H) ∧
  (∀ i d x H H', ds[i]? = some d → Same M1 H → Y i H x H' → Same H H' ∧ ∀ M', Same M M' → (∀ b u, H b = none → H' b = some u → M' b = some u) → Dn W M' x d)
def LIc (W : Wd) (E : WX) (wi : TI) (f : FI) : Prop := ∀ (B : Bs) (o : Own) (H : Hp) (σ : SSt) (ρ : PEnv) (c : Nat) (R : It → Hp → Prop) (Q' : List D → Nat → Prop) (X : PXc), Rel W B o H σ ρ c → XR W B o σ ρ E X → f ρ c Q' X →
  (∀ ds c' J H', Q' ds c' → St W H H' → BoxO W H' c' → IOk2 W (Hv W no H') (Hv W o H') J ds → R J H') → wi σ H R
theorem LI.c {wi : TI} {fi : FI} (h : LI W E wi fi) : LIc W E wi fi := fun B o H σ ρ c R Q' X Re x hf k => h B o H σ ρ c R Q' X Re x hf fun ds c' J H' q s b iok => by
  obtain ⟨G, Y, wk, hG, hY⟩ := iok
  exact k ds c' J H' q s b ⟨G, Y, wk, fun H2 sm => hG H2 (hv_no.trans sm), fun i d x H2 H3 e sm y => hY i d x H2 H3 e (hv_no.trans sm) y⟩
def fIterO (i : Nat) : FI := fun ρ c Q _ => match ρ[i]? with | some (Sl.own (.lst xs)) => Q xs c | some (Sl.v (.lst xs)) => Q xs c | _ => False
theorem lic_own (i : Nat) : LIc W E (iList W.K (tVar i)) (fIterO i) := fun B o H σ ρ c R Q' X Re x hf k => by
  unfold fIterO at hf
  split at hf
  · rename_i xs ei
    obtain ⟨a, h1, h2, h3⟩ := Re.own i _ ei
    generalize hx : H a = ob at h3
    cases h3 with
    | @lst vs _ h3 =>
      have f := Re.fr i a h1
      have ga : Hv W no H a = some (.lst vs) := off_get hx fun m => by
        rcases m with m | ⟨_, m⟩
        · exact f.1 m
        · cases m
      refine ⟨.ref a, h2, a, rfl, ⟨vs, SqL.of hx⟩, k xs c _ H hf St.refl Re.box ?_⟩
      refine ⟨_, _, h3.len ▸ walk_list (xs := vs), fun H' sm => SqL.of (sm _ _ ga), fun i d x H' H'' e sm y => ?_⟩
      obtain ⟨rfl, hy⟩ := y
      obtain ⟨d', e', dn'⟩ := h3.get' hy
      rw [e] at e'
      cases e'
      exact ⟨Same.refl _, fun M' sm' _ => dn'.mono sm' _ _⟩
  · rename_i xs ei
    have := LI.c (W := W) (E := E) (li_list (le_v i)) B o H σ ρ c R Q' X Re x (by
      unfold fIter fV
      rw [ei]
      exact ⟨xs, rfl, hf⟩) k
    exact this
  · exact hf.elim
theorem lf_lc {wi : TI} {fi : FI} {vs : List Nat} (hi : LIc W E wi fi) (hg : LG W W0 g fg true ts) (ht : LT W W0 tt ft) (he : LE W W0 te f) (hs : ∀ j ∈ ts, j ∈ vs) : LF W E (tLc wi g tt te vs) (fLc fi fg ft f vs) := fun B o H σ ρ c Q Q' X R x hf k => by
  obtain ⟨hno, hf⟩ := hf
  refine hi B o H σ ρ c _ _ X R x hf fun ds c1 J H1 q s b iok => ?_
  intro Dd hD
  have R1 := R.ext s b
  obtain ⟨G, Y, wk, hG, hY⟩ := iok
  obtain ⟨ba, n, hn, on, RB, hid⟩ := (R1.at.wipe hno).adda (x := .lst []) hD
  have seen : Same (Hv W o H1) (Off (fun b' => B.s b' ∨ b' = Dd) (Off (fun b => Hid W o b ∧ ¬ B.s b) H1)) := fun b u h => by
    obtain ⟨g1, g2⟩ := off_some h
    refine off_get (off_get g1 fun z => g2 z.1) fun z => ?_
    rcases z with z | rfl
    · obtain ⟨j, _, k2⟩ := R.keep b z
      exact g2 (.inr ⟨j, k2⟩)
    · rw [hD] at g1; cases g1
  dsimp only at RB hid ba
  obtain ⟨B1, hB1⟩ : ∃ B1 : Bs, B1 = ⟨Off (fun b => Hid W o b ∧ ¬ B.s b) H1, fun b => B.s b ∨ b = Dd⟩ := ⟨_, rfl⟩
  rw [← hB1] at RB
  have seen : Same (Hv W o H1) (Off B1.s B1.h) := by rw [hB1]; exact seen
  have ba : B1.h Dd = none := by rw [hB1]; exact ba
  obtain ⟨o1, ho1⟩ : ∃ o1 : Own, o1 = fun j => if j = n then some Dd else o j := ⟨_, rfl⟩
  rw [← ho1] at RB hid
  have oD : o1 n = some Dd := by rw [ho1]; exact if_pos rfl
  obtain ⟨I, h0, hstep, hd⟩ := q
  refine ⟨fun i m H => m = ds.length - i ∧ i ≤ ds.length ∧ ∃ c acc ws, Rel W B1 o1 H (L2.wipe σ vs) (pw ρ vs) c ∧ St W H1 H ∧ H Dd = some (.lst ws) ∧ DnAll W (Hv W o1 H) ws acc ∧ I i acc c,
    ⟨_, rfl, Nat.zero_le _, c1, [], [], RB, .of (same_new hD), upd_same, .nil, h0⟩, ?_⟩
  rintro i m H2 ⟨rfl, hi, c2, acc, ws, R2, s2, g2, d2, q2⟩
  have sm := seen.trans R2.seen
  have sm2 : Same (Hv W no H1) H2 := (s2.hv (o := no)).trans hv_same
  have pD : W.pb ≠ some Dd := (R2.fr n Dd oD).1
  by_cases hlt : i < ds.length
  · refine .inr ⟨wk.goes i H2 hlt (hG _ sm2), fun H' => ∃ c acc ws, Rel W B1 o1 H' (L2.wipe σ vs) (pw ρ vs) c ∧ St W H1 H' ∧ H' Dd = some (.lst ws) ∧ DnAll W (Hv W o1 H') ws acc ∧ I (i + 1) acc c, fun H' z => ⟨ds.length - (i + 1), by omega, rfl, hlt, z⟩, fun x H' y => ?_⟩
    have q2 := hstep i ds[i] acc c2 (List.getElem?_eq_getElem hlt) q2
    obtain ⟨s3, dn⟩ := hY i ds[i] x H2 H' (List.getElem?_eq_getElem hlt) sm2 (wk.yields i H2 x H' hlt (hG _ sm2) y)
    have R3 := R2.same s3
    have dn := dn (Hv W o1 H') (sm.trans (off_ext s3)) fun b u n h => off_get h (R2.hid n)
    refine hg B1 o1 H' _ _ c2 x _ _ _ R3 dn q2 fun o4 H4 σ4 ρ4 c4 q4 R4 K4 => ?_
    obtain rfl := K4.pure rfl
    refine ⟨wipe_back K4.len K4.off hs, ht B1 o4 H4 σ4 ρ4 c4 _ _ _ R4 xr_no q4 fun z c5 H5 q5 s5 b5 => ?_⟩
    have R5 := R4.ext s5 b5
    have hn' : (L2.wipe σ vs).length ≤ n := by rw [wipe_length, R.len]; rw [pw_len] at hn; exact hn
    have o4n := (K4.beh n Dd hn' oD).1
    have gD5 := s5 Dd _ pD (s3 _ _ g2)
    have sees5 : Same (Hv W o1 H2) (Hv W o1 H5) := (off_ext s3).trans s5.hv
    have R5' : Rel W B1 o1 H5 (L2.wipe σ vs) (pw ρ vs) c5 := R3.ext s5 b5
    have S5 : St W H1 H5 := s2.trans ((St.of s3).trans s5)
    cases z with
    | false =>
      rw [if_neg (by decide)] at q5 ⊢
      exact ⟨c5, acc, ws, R5', S5, gD5, d2.mono sees5 _ _, q5⟩
    | true =>
      rw [if_pos rfl] at q5 ⊢
      refine he B1 o4 H5 σ4 ρ4 c5 _ _ _ R5 xr_no q5 fun y c6 v H6 q6 s6 b6 dn6 => ?_
      have gD6 := s6 Dd _ pD gD5
      refine ⟨ws, gD6, by rw [d2.len, sizeLine_eq]; exact q6.1, c6, acc ++ [y], ws ++ [v], ?_, ?_, upd_same, ?_, q6.2⟩
      · exact (R5'.ext s6 b6).puta (by rw [pw_len]; rw [pw_len] at hn; exact hn) oD ba
      · refine fun b u nb h => ?_
        have : b ≠ Dd := fun z => by subst z; rw [hD] at h; cases h
        rw [upd_ne this]
        exact s6 b u nb (S5 b u nb h)
      · have vis : Same (Hv W o1 H6) (Hv W o1 (upd H6 Dd (.lst (ws ++ [v])))) := off_to fun b u n h => by
          refine ⟨n, ?_⟩
          rw [upd_ne (fun e => n (.inr ⟨_, by rw [e]; exact oD⟩))]
          exact h
        have dv : Dn W (Hv W o1 H6) v y := dn6.mono (off_le fun b m => by
          rcases m with m | ⟨j, m⟩
          · exact .inl m
          · refine .inr ⟨j, ?_⟩
            by_cases hj : j ∈ ts
            · rcases (R3.fr j b m).2.2 with ⟨⟨e, z⟩, _⟩ | z
              · have hv := hs j hj
                exact absurd z (pw_no hv)
              · exact (K4.beh j b (by rw [wipe_length, R.len]; rw [pw_len] at z; exact z.1) m).1
            · rw [K4.ow j hj]; exact m) _ _
        exact ((d2.mono (sees5.trans s6.hv)).mono vis).app (.cons (dv.mono vis _ _) .nil)
  · have hz : i = ds.length := by omega
    subst hz
    refine .inl ⟨wk.stops H2 (hG _ sm2), k _ c2 Dd H2 (hd _ _ q2) (s.none pD hD) (s.trans s2) R2.box ?_⟩
    rw [g2]
    exact .lst (d2.mono (off_le fun b m => (hid b).mpr m))
end
end Pu
set_option Elab.async false
set_option linter.all false
set_option maxRecDepth 100000
set_option maxHeartbeats 4000000
/-! Pu5: defs whose promises speak of data alone; built-ins. -/
namespace Pu
open PySem PySem.Spec PyProof.Rows L2 SL
section
variable {P : Program} {w : World} {K : PySem.W.Frag} {mg : Str → Option Value} {base : Heap}
def endsP (Q : PQ) (X : PXc) : PEnds := { nx := fun _ c => Q .non c, rt := Q, bk := fun _ _ => False, ct := fun _ _ => False, ex := fun _ => X }
def startP (n : Nat) (ds : List D) : PEnv := ds.map Sl.v ++ List.replicate (n - ds.length) Sl.no
theorem rel_start {pb : Option Addr} {o : Own} {H : Hp} {vs : List V} {ds : List D} {c n : Nat} {N : List Str} (hn : N.length = n) (ok : OwnOk ⟨K, mg, pb⟩ o H) (dn : DnAll ⟨K, mg, pb⟩ (Hv ⟨K, mg, pb⟩ o H) vs ds) (b : BoxO ⟨K, mg, pb⟩ H c) :
    Rel ⟨K, mg, pb⟩ ⟨Hv ⟨K, mg, pb⟩ no H, fun b => ∃ i, o i = some b⟩ (fun i => if i < (startP n ds).length then none else o (i - (startP n ds).length)) H (L2.start N vs) (startP n ds) c := by
  obtain ⟨l, hl⟩ : ∃ l, l = (startP n ds).length := ⟨_, rfl⟩
  rw [← hl]
  have hid : ∀ b, Hid ⟨K, mg, pb⟩ (fun i => if i < l then none else o (i - l)) b ↔ Hid ⟨K, mg, pb⟩ o b := fun b => by
    constructor
    · rintro (m | ⟨i, m⟩)
      · exact .inl m
      · dsimp only at m
        split at m
        · cases m
        · exact .inr ⟨_, m⟩
    · rintro (m | ⟨i, m⟩)
      · exact .inl m
      · refine .inr ⟨i + l, ?_⟩
        dsimp only
        rw [if_neg (by omega), Nat.add_sub_cancel]
        exact m
  have sees : Same (Hv ⟨K, mg, pb⟩ o H) (Hv ⟨K, mg, pb⟩ (fun i => if i < l then none else o (i - l)) H) := off_le fun b m => (hid b).mp m
  have hlen := dn.len
  refine ⟨?_, Same.refl _, ?_, ?_, ?_, ?_, ?_, ?_, b⟩
  · unfold L2.start startP
    simp only [List.length_append, List.length_map, List.length_replicate]
    omega
  · rintro b ⟨i, h⟩
    refine ⟨i + l, by omega, ?_⟩
    rw [if_neg (by omega), Nat.add_sub_cancel]
    exact h
  · intro i d h
    unfold startP at h
    by_cases hi : i < ds.length
    · rw [List.getElem?_append_left (by simpa using hi), List.getElem?_map] at h
      cases e : ds[i]? with
      | none => rw [e] at h; cases h
      | some d' =>
        rw [e] at h
        cases h
        obtain ⟨v, hv, dv⟩ := dn.get e
        refine ⟨v, ?_, dv.mono sees _ _⟩
        unfold L2.start
        rw [List.getElem?_append_left (by rw [List.length_map]; omega), List.getElem?_map, hv]
        rfl
    · rw [List.getElem?_append_right (by simpa using hi)] at h
      have := List.mem_of_getElem? h
      rw [List.mem_replicate] at this
      cases this.2
  · intro i d h
    unfold startP at h
    have := List.mem_of_getElem? h
    rw [List.mem_append] at this
    rcases this with m | m
    · obtain ⟨_, _, e⟩ := List.mem_map.mp m
      cases e
    · rw [List.mem_replicate] at m
      cases m.2
  · intro i j a h1 h2
    split at h1
    · cases h1
    · split at h2
      · cases h2
      · have := ok.inj _ _ _ h1 h2
        omega
  · intro i a h
    split at h
    · cases h
    · have := ok.fr _ _ h
      exact ⟨this.1, this.2, .inr ⟨by omega, _, h⟩⟩
  · obtain ⟨N, hN⟩ := ok.bd
    refine ⟨N + l, fun i hi => ?_⟩
    rw [if_neg (by omega)]
    exact hN _ (by omega)
/-- a def, read as what it does with data -/
theorem body_pure {pb : Option Addr} {o : Own} {H : Hp} {vs : List V} {ds : List D} {c n : Nat} {N : List Str} {Q : VK} {E : XK} {Q' : PQ} {X : PXc} {ts : TS} {fs : FS} (hn : N.length = n) (ok : OwnOk ⟨K, mg, pb⟩ o H) (dn : DnAll ⟨K, mg, pb⟩ (Hv ⟨K, mg, pb⟩ o H) vs ds) (b : BoxO ⟨K, mg, pb⟩ H c)
    (hs : LS ⟨K, mg, pb⟩ (fun cls d _ H => E cls d H) ts fs) (hf : fs (endsP Q' X) (startP n ds) c)
    (hq : ∀ d c' v H', Q' d c' → St ⟨K, mg, pb⟩ H H' → BoxO ⟨K, mg, pb⟩ H' c' → Dn ⟨K, mg, pb⟩ (Hv ⟨K, mg, pb⟩ o H') v d → Q v H')
    (hx : ∀ c' x d v dd H', X c' x d → St ⟨K, mg, pb⟩ H H' → BoxO ⟨K, mg, pb⟩ H' c' → Hv ⟨K, mg, pb⟩ o H' dd = some (xdG v) → Dn ⟨K, mg, pb⟩ (Hv ⟨K, mg, pb⟩ o H') v d → E (.ref (errAt mg x)) (some dd) H') :
    ts { nx := fun _ H' => Q .non H', rt := Q } (L2.start N vs) H := by
  have R := rel_start (N := N) hn ok dn b
  have back : ∀ {o' : Own} {H' : Hp} {σ' : SSt} {ρ' : PEnv} {c' : Nat}, Rel ⟨K, mg, pb⟩ ⟨Hv ⟨K, mg, pb⟩ no H, fun b => ∃ i, o i = some b⟩ o' H' σ' ρ' c' → Same (Hv ⟨K, mg, pb⟩ o' H') (Hv ⟨K, mg, pb⟩ o H') := fun R' => off_le fun b m => by
    rcases m with m | ⟨i, m⟩
    · exact .inl m
    · obtain ⟨j, _, h⟩ := R'.keep b ⟨i, m⟩
      exact .inr ⟨j, h⟩
  refine hs _ _ H _ _ c _ (endsP Q' X) R ⟨fun o' H' σ' ρ' c' R' q => hq .non c' .non H' q (St.to R'.base) R'.box .non, fun o' H' σ' ρ' c' v d R' d' q => hq d c' v H' q (St.to R'.base) R'.box (d'.mono (back R') _ _), fun _ _ _ _ _ _ q => q.elim, fun _ _ _ _ _ _ q => q.elim, fun o' σ' ρ' H' c' x d v dd R' q g d' => hx c' x d v dd H' q (St.to R'.base) R'.box (back R' _ _ g) (d'.mono (back R') _ _), fun _ _ _ _ _ _ _ _ _ q => q.elim⟩ hf
theorem cal_pure {x : Str} {st : Stmt} {N ps : List Str} {k n : Nat} {F : PFn} {fs : FS} (Df : DefAt K mg x st ps) (S : FnScope N ps (defScope st)) (hn : N.length = n)
    (hb : ∀ (pb : Option Addr) (cdv : Value) (f : Addr) (A : Around) (outer : List Env) (s : Shared) (H : Hp) (E : XK),
      Room k (A.deeper (envOfC x (defScope st) s.heap.objs.size f cdv)) → (A.deeper (envOfC x (defScope st) s.heap.objs.size f cdv)).guards = some [] →
      ∃ ts, PSs (cxOf (L2.CX P w) P w K mg base N x (defScope st) f cdv A outer s H E) (defBody st) ts ∧ LS ⟨K, mg, pb⟩ (fun cls d _ H => E cls d H) ts fs)
    (len : ∀ ds c Q X, F ds c Q X → ds.length = ps.length)
    (hF : ∀ ds c Q X, F ds c Q X → fs (endsP Q X) (startP n ds) c) : Cal P w K mg base (k + 1) x ps (spOf K mg F) := by
  refine calX Df S ?_ ?_
  · rintro vs H Q E ⟨pb, o, ds, c, Q', X, ok, dn, b, hf, _⟩
    rw [dn.len]
    exact len _ _ _ _ hf
  · intro cdv f A outer s H vs Q E hr hgd h
    obtain ⟨pb, o, ds, c, Q', X, ok, dn, b, hf, hq, hx⟩ := h
    obtain ⟨ts, h1, h2⟩ := hb pb cdv f A outer s H E hr hgd
    exact ⟨ts, h1, body_pure hn ok dn b h2 (hF ds c Q' X hf) hq hx⟩
end
section
variable {W : Wd}
/-! built-ins -/
theorem dbs_one {o : Own} {H : Hp} {vs : List V} {d : D} (h : DBs W o H vs [d]) : ∃ v, vs = [v] ∧ DB W o H v d := by
  cases h with
  | cons h1 r => cases r; exact ⟨_, rfl, h1⟩
theorem dbs_two {o : Own} {H : Hp} {vs : List V} {d e : D} (h : DBs W o H vs [d, e]) : ∃ v w, vs = [v, w] ∧ DB W o H v d ∧ DB W o H w e := by
  cases h with
  | cons h1 r => cases r with
    | cons h2 r => cases r; exact ⟨_, _, rfl, h1, h2⟩
theorem dbs_three {o : Own} {H : Hp} {vs : List V} {d e f : D} (h : DBs W o H vs [d, e, f]) : ∃ u v w, vs = [u, v, w] ∧ DB W o H u d ∧ DB W o H v e ∧ DB W o H w f := by
  cases h with
  | cons h1 r => cases r with
    | cons h2 r => cases r with
      | cons h3 r => cases r; exact ⟨_, _, _, rfl, h1, h2, h3⟩
def gLen : List D → Option D
  | [.str l] => if l.length ≤ 16777216 then some (.int l.length) else none
  | [.lst xs] => some (.int xs.length)
  | [.tup xs] => some (.int xs.length)
  | _ => none
theorem lc_len : LC W (rLenU W.K) gLen := fun o H vs ds z Q hh dx g k => by
  unfold gLen at g
  split at g
  · obtain ⟨hz, rfl⟩ := ite_some g
    obtain ⟨v, rfl, d⟩ := dbs_one dx
    cases d.str
    exact w_lenS' (k _ _ (Same.refl _) (.int _)) hz
  · cases g
    obtain ⟨v, rfl, d⟩ := dbs_one dx
    obtain ⟨a, ws, rfl, h1, h2⟩ := d.lst
    exact w_lenL' (SqL.of h1) (k _ _ (Same.refl _) (by rw [h2.len]; exact .int _))
  · cases g
    obtain ⟨v, rfl, d⟩ := dbs_one dx
    obtain ⟨a, ws, rfl, h1, h2⟩ := d.tup
    exact w_lenT' h1 (k _ _ (Same.refl _) (by rw [h2.len]; exact .int _))
  · cases g
def gAbs : List D → Option D
  | [.int i] => some (.int (if i < 0 then -i else i))
  | _ => none
theorem lc_abs : LC W rAbsU gAbs := fun o H vs ds z Q hh dx g k => by
  unfold gAbs at g
  split at g
  · cases g
    obtain ⟨v, rfl, d⟩ := dbs_one dx
    cases d.int
    exact w_abs (k _ _ (Same.refl _) (.int _))
  · cases g
def gInt : List D → Option D
  | [.int i] => some (.int i)
  | [.bl b] => some (.int (if b then 1 else 0))
  | _ => none
theorem lc_int : LC W rIntU gInt := fun o H vs ds z Q hh dx g k => by
  unfold gInt at g
  split at g
  · cases g
    obtain ⟨v, rfl, d⟩ := dbs_one dx
    cases d.int
    exact w_int (k _ _ (Same.refl _) (.int _))
  · cases g
    obtain ⟨v, rfl, d⟩ := dbs_one dx
    cases d.bl
    exact w_intB (k _ _ (Same.refl _) (.int _))
  · cases g
def gMin2 : List D → Option D
  | [.int i, .int j] => some (.int (if j < i then j else i))
  | _ => none
theorem lc_min2 : LC W rMin2U gMin2 := fun o H vs ds z Q hh dx g k => by
  unfold gMin2 at g
  split at g
  · cases g
    obtain ⟨v, w, rfl, d, e⟩ := dbs_two dx
    cases d.int; cases e.int
    exact w_min2 (k _ _ (Same.refl _) (.int _))
  · cases g
def gMax2 : List D → Option D
  | [.int i, .int j] => some (.int (if j > i then j else i))
  | _ => none
theorem lc_max2 : LC W rMax2U gMax2 := fun o H vs ds z Q hh dx g k => by
  unfold gMax2 at g
  split at g
  · cases g
    obtain ⟨v, w, rfl, d, e⟩ := dbs_two dx
    cases d.int; cases e.int
    exact w_max2 (k _ _ (Same.refl _) (.int _))
  · cases g
def gMin3 : List D → Option D
  | [.int i, .int j, .int k] => some (.int (min (min i j) k))
  | _ => none
theorem lc_min3 : LC W rMin3U gMin3 := fun o H vs ds z Q hh dx g k => by
  unfold gMin3 at g
  split at g
  · cases g
    obtain ⟨u, v, w, rfl, d, e, f⟩ := dbs_three dx
    cases d.int; cases e.int; cases f.int
    exact w_min3 (k _ _ (Same.refl _) (.int _))
  · cases g
def intsD : List D → Option (List Int)
  | [] => some []
  | .int i :: r => (intsD r).map (i :: ·)
  | _ => none
theorem ints_dn {M : Hp} : ∀ {vs : List V} {ds : List D} {ns : List Int}, DnAll W M vs ds → intsD ds = some ns → vs = ns.map V.int
  | _, [], _, .nil, e => by cases e; rfl
  | _, d :: ds, ns, .cons h r, e => by
    unfold intsD at e
    split at e
    · rename_i x; cases x
    · rename_i i r' x
      cases x
      cases q : intsD ds with
      | none => rw [q] at e; cases e
      | some ms =>
        rw [q] at e
        cases e
        cases h
        rw [ints_dn r q]
        rfl
    · cases e
theorem intsD_map (ns : List Int) : intsD (ns.map D.int) = some ns := by
  induction ns with
  | nil => rfl
  | cons a r ih => rw [List.map_cons, intsD, ih]; rfl
def boolsD : List D → Option (List Bool)
  | [] => some []
  | .bl i :: r => (boolsD r).map (i :: ·)
  | _ => none
theorem bools_dn {M : Hp} : ∀ {vs : List V} {ds : List D} {ns : List Bool}, DnAll W M vs ds → boolsD ds = some ns → vs = ns.map V.bl
  | _, [], _, .nil, e => by cases e; rfl
  | _, d :: ds, ns, .cons h r, e => by
    unfold boolsD at e
    split at e
    · rename_i x; cases x
    · rename_i i r' x
      cases x
      cases q : boolsD ds with
      | none => rw [q] at e; cases e
      | some ms =>
        rw [q] at e
        cases e
        cases h
        rw [bools_dn r q]
        rfl
    · cases e
theorem boolsD_map {α : Type} (f : α → Bool) (ns : List α) : boolsD (ns.map fun a => D.bl (f a)) = some (ns.map f) := by
  induction ns with
  | nil => rfl
  | cons a r ih => rw [List.map_cons, boolsD, ih]; rfl
def gAll : List D → Option D
  | [.lst xs] => (boolsD xs).map fun bs => .bl (bs.all id)
  | _ => none
theorem lc_all : LC W (rAll W.K) gAll := fun o H vs ds z Q hh dx g k => by
  unfold gAll at g
  split at g
  · obtain ⟨v, rfl, d⟩ := dbs_one dx
    obtain ⟨a, ws, rfl, h1, h2⟩ := d.lst
    rename_i xs
    cases q : boolsD xs with
    | none => rw [q] at g; cases g
    | some bs =>
      rw [q] at g
      cases g
      rw [bools_dn h2 q] at h1
      exact w_allL (SqL.of h1) (k _ _ (Same.refl _) (.bl _))
  · cases g
def gAny : List D → Option D
  | [.lst xs] => (boolsD xs).map fun bs => .bl (bs.any id)
  | _ => none
theorem lc_any : LC W (rAny W.K) gAny := fun o H vs ds z Q hh dx g k => by
  unfold gAny at g
  split at g
  · obtain ⟨v, rfl, d⟩ := dbs_one dx
    obtain ⟨a, ws, rfl, h1, h2⟩ := d.lst
    rename_i xs
    cases q : boolsD xs with
    | none => rw [q] at g; cases g
    | some bs =>
      rw [q] at g
      cases g
      rw [bools_dn h2 q] at h1
      exact w_anyL (SqL.of h1) (k _ _ (Same.refl _) (.bl _))
  · cases g
def gSum : List D → Option D
  | [.lst xs] => (intsD xs).map fun ns => .int ns.sum
  | _ => none
theorem lc_sum : LC W (rSum W.K) gSum := fun o H vs ds z Q hh dx g k => by
  unfold gSum at g
  split at g
  · obtain ⟨v, rfl, d⟩ := dbs_one dx
    obtain ⟨a, ws, rfl, h1, h2⟩ := d.lst
    rename_i xs
    cases q : intsD xs with
    | none => rw [q] at g; cases g
    | some ns =>
      rw [q] at g
      cases g
      rw [ints_dn h2 q] at h1
      exact w_sum (SqL.of h1) (k _ _ (Same.refl _) (.int _))
  · cases g
/-- the least of some numbers -/
def minL : List Int → Int
  | [] => 0
  | [a] => a
  | a :: r => min a (minL r)
def maxL : List Int → Int
  | [] => 0
  | [a] => a
  | a :: r => max a (maxL r)
theorem minL_mem : ∀ {ns : List Int}, ns ≠ [] → minL ns ∈ ns ∧ ∀ y ∈ ns, minL ns ≤ y
  | [], h => absurd rfl h
  | [a], _ => ⟨by simp [minL], fun y hy => by rw [List.mem_singleton.mp hy]; exact Int.le_refl _⟩
  | a :: b :: r, _ => by
    obtain ⟨h1, h2⟩ := minL_mem (ns := b :: r) (by simp)
    show min a (minL (b :: r)) ∈ _ ∧ ∀ y ∈ a :: b :: r, min a (minL (b :: r)) ≤ y
    constructor
    · by_cases e : a ≤ minL (b :: r)
      · rw [show min a (minL (b :: r)) = a by omega]; exact List.mem_cons_self
      · rw [show min a (minL (b :: r)) = minL (b :: r) by omega]; exact List.mem_cons_of_mem _ h1
    · intro y hy
      rcases List.mem_cons.mp hy with rfl | hy
      · omega
      · have := h2 y hy; omega
theorem maxL_mem : ∀ {ns : List Int}, ns ≠ [] → maxL ns ∈ ns ∧ ∀ y ∈ ns, y ≤ maxL ns
  | [], h => absurd rfl h
  | [a], _ => ⟨by simp [maxL], fun y hy => by rw [List.mem_singleton.mp hy]; exact Int.le_refl _⟩
  | a :: b :: r, _ => by
    obtain ⟨h1, h2⟩ := maxL_mem (ns := b :: r) (by simp)
    show max a (maxL (b :: r)) ∈ _ ∧ ∀ y ∈ a :: b :: r, y ≤ max a (maxL (b :: r))
    constructor
    · by_cases e : maxL (b :: r) ≤ a
      · rw [show max a (maxL (b :: r)) = a by omega]; exact List.mem_cons_self
      · rw [show max a (maxL (b :: r)) = maxL (b :: r) by omega]; exact List.mem_cons_of_mem _ h1
    · intro y hy
      rcases List.mem_cons.mp hy with rfl | hy
      · omega
      · have := h2 y hy; omega
def gMin : List D → Option D
  | [.lst xs] => match intsD xs with | some (n :: ns) => some (.int (minL (n :: ns))) | _ => none
  | _ => none
def gMax : List D → Option D
  | [.lst xs] => match intsD xs with | some (n :: ns) => some (.int (maxL (n :: ns))) | _ => none
  | _ => none
theorem lc_min : LC W (rMin W.K) gMin := fun o H vs ds z Q hh dx g k => by
  unfold gMin at g
  split at g
  · obtain ⟨v, rfl, d⟩ := dbs_one dx
    obtain ⟨a, ws, rfl, h1, h2⟩ := d.lst
    split at g
    · rename_i n ns q
      cases g
      rw [ints_dn h2 q] at h1
      refine w_minL (SqL.of h1) (by simp) fun m hm hy => ?_
      obtain ⟨k1, k2⟩ := minL_mem (ns := n :: ns) (by simp)
      have : m = minL (n :: ns) := by
        have := hy _ k1
        have := k2 _ hm
        omega
      rw [this]
      exact k _ _ (Same.refl _) (.int _)
    · cases g
  · cases g
theorem lc_max : LC W (rMax W.K) gMax := fun o H vs ds z Q hh dx g k => by
  unfold gMax at g
  split at g
  · obtain ⟨v, rfl, d⟩ := dbs_one dx
    obtain ⟨a, ws, rfl, h1, h2⟩ := d.lst
    split at g
    · rename_i n ns q
      cases g
      rw [ints_dn h2 q] at h1
      refine ⟨a, n :: ns, rfl, SqL.of h1, by simp, fun m hm hy => ?_⟩
      obtain ⟨k1, k2⟩ := maxL_mem (ns := n :: ns) (by simp)
      have : m = maxL (n :: ns) := by
        have := hy _ k1
        have := k2 _ hm
        omega
      rw [this]
      exact k _ _ (Same.refl _) (.int _)
    · cases g
  · cases g
/-! isinstance of built-in classes -/
def kD' : D → String
  | .non => "NoneType" | .bl _ => "bool" | .int _ => "int" | .str _ => "str" | .lst _ => "list" | .tup _ => "tuple" | .dic _ => "dict" | .lsA _ _ => "list" | _ => ""
def isK (t : String) (d : D) : Bool := kD' d == t || (kD' d == "bool" && t == "int")
theorem tyx_of {H : Hp} {v : V} {d : D} (h : Dn W H v d) (hk : kD' d ≠ "") : TyX W.K H v (.type (kD' d)) := by
  cases h with
  | non => exact .base .non
  | bl b => exact .base (.bl b)
  | int i => exact .base (.int i)
  | str l => exact .base (.str _)
  | lst h1 _ => exact .base (.lst h1)
  | tup h1 _ =>
    rcases h1 with (h1 | ⟨o, h1⟩) | ⟨o, its, n, e, c, h1⟩
    · exact .base (.tup h1)
    · exact .fTuple h1
    · exact .kTuple e c
  | dK h1 _ => exact .base (.dK h1)
  | dT h1 _ => exact .base (.dT h1)
  | lsA h1 _ => exact .base (.lst h1)
  | _ => exact absurd rfl hk
theorem kindD_ok (d : D) (hk : kD' d ≠ "") : SL.Kind (kD' d) := by
  unfold SL.Kind
  cases d <;> first | (simp [kD']; done) | exact absurd rfl hk
def fIsi (t : String) (fa : FX) : FX := fun ρ c Q X => fa ρ c (fun d c' => kD' d ≠ "" ∧ Q (.bl (isK t d)) c') X
theorem le_isi {E : WX} {ta : TE} {fa : FX} {t : String} (ht : KindX t) (ha : LB W E ta fa) : LE W E (tCB (rIsi W.K) (tCons ta (tCons (tC (.ty t)) tNil))) (fIsi t fa) := fun B o H σ ρ c Q Q' X R x hf k => by
  refine ha B o H σ ρ c _ _ X R x hf fun d c1 v H1 q s b dn => ?_
  exact w_isiK (tyx_of dn.dn q.1) (kindD_ok d q.1) ht (k _ _ _ _ q.2 s b (.bl _))
/-! list(), tuple(), repr, join -/
def gList : List D → Option D
  | [.lst xs] => some (.lst xs)
  | [.tup xs] => some (.lst xs)
  | _ => none
theorem lcf_list : LCF W (rListU W.K) gList := fun o H vs ds z Q hh dx g k => by
  unfold gList at g
  split at g
  · cases g
    obtain ⟨v, rfl, d⟩ := dbs_one dx
    obtain ⟨a, ws, rfl, h1, h2⟩ := d.lst
    exact ⟨a, ws, rfl, .inl (SqL.of h1), fun l hl => k _ _ hl (same_new hl) (own_lst hl h2)⟩
  · cases g
    obtain ⟨v, rfl, d⟩ := dbs_one dx
    obtain ⟨a, ws, rfl, h1, h2⟩ := d.tup
    exact ⟨a, ws, rfl, .inr h1, fun l hl => k _ _ hl (same_new hl) (own_lst hl h2)⟩
  · cases g
def gTuple : List D → Option D
  | [.lst xs] => some (.tup xs)
  | [.tup xs] => some (.tup xs)
  | _ => none
theorem lc_tuple : LC W (rTupU W.K) gTuple := fun o H vs ds z Q hh dx g k => by
  unfold gTuple at g
  split at g
  · cases g
    obtain ⟨v, rfl, d⟩ := dbs_one dx
    obtain ⟨a, ws, rfl, h1, h2⟩ := d.lst
    exact w_tupL (SqL.of h1) fun l hl => k _ _ (same_new hl) (dn_tup hl (hh l hl) h2)
  · cases g
    obtain ⟨v, rfl, d⟩ := dbs_one dx
    have d' := d
    obtain ⟨a, ws, rfl, h1, h2⟩ := d.tup
    refine ⟨a, ws, rfl, .inr ⟨h1, k _ _ (Same.refl _) ?_⟩⟩
    rcases d' with d' | ⟨_, i, e, h3, h5, h6⟩
    · exact d'
    · generalize H _ = q at h6; cases h6
  · cases g
def okR (d : D) : Bool := okW 60 d && (toP d).showable && decide ((toP d).shown.length ≤ 16777216)
def reprD (d : D) : List Nat := (toP d).shown.cps.toList
def gRepr : List D → Option D
  | [d] => if okR d = true then some (.str (reprD d)) else none
  | _ => none
theorem lc_repr : LC W (rReprW W.K) gRepr := fun o H vs ds z Q hh dx g k => by
  unfold gRepr at g
  split at g
  · obtain ⟨hz, rfl⟩ := ite_some g
    obtain ⟨v, rfl, d⟩ := dbs_one dx
    unfold okR at hz
    rw [Bool.and_eq_true, Bool.and_eq_true, decide_eq_true_eq] at hz
    rename_i dd
    refine ⟨v, toP dd, rfl, d.dn.dw dd _ 60 hz.1.1, ⟨hz.1.2, dp_okW 60 dd hz.1.1, hz.2⟩, ?_⟩
    have e : (toP dd).shown = tx (reprD dd) := (tx_list _).symm
    rw [e]
    exact k _ _ (Same.refl _) (.str _)
  · cases g
def strsD : List D → Option (List (List Nat))
  | [] => some []
  | .str i :: r => (strsD r).map (i :: ·)
  | _ => none
theorem strs_dn {M : Hp} : ∀ {vs : List V} {ds : List D} {ns : List (List Nat)}, DnAll W M vs ds → strsD ds = some ns → vs = ns.map fun l => V.str (tx l)
  | _, [], _, .nil, e => by cases e; rfl
  | _, d :: ds, ns, .cons h r, e => by
    unfold strsD at e
    split at e
    · rename_i x; cases x
    · rename_i i r' x
      cases x
      cases q : strsD ds with
      | none => rw [q] at e; cases e
      | some ms =>
        rw [q] at e
        cases e
        cases h
        rw [strs_dn r q]
        rfl
    · cases e
theorem strsD_map {α : Type} (f : α → List Nat) (ns : List α) : strsD (ns.map fun a => D.str (f a)) = some (ns.map f) := by
  induction ns with
  | nil => rfl
  | cons a r ih => rw [List.map_cons, strsD, ih]; rfl
/-- "".join -/
def gJoin0 : D → D → Option D
  | .str [], .lst xs => match strsD xs with | some ls => if ls.flatten.length ≤ 16777216 then some (.str ls.flatten) else none | none => none
  | _, _ => none
theorem lm_join0 : LM1 W (rJoinU W.K) gJoin0 := fun o H x y d e z Q dx dy g k => by
  unfold gJoin0 at g
  split at g
  · split at g
    · rename_i ls q
      obtain ⟨hz, rfl⟩ := ite_some g
      cases dx.str
      obtain ⟨a, ws, rfl, h1, h2⟩ := dy.lst
      rw [strs_dn h2 q] at h1
      exact w_join (SqL.of h1) (k _ _ (Same.refl _) (.str _)) hz
    · cases g
  · cases g
end
end Pu
set_option Elab.async false
set_option linter.all false
set_option maxRecDepth 100000
set_option maxHeartbeats 4000000
/-! Pu6: several targets at once, new lists among them; calls by keywords; try. -/
namespace Pu
open PySem PySem.Spec PyProof.Rows L2 SL
section
variable {W : Wd} {B : Bs} {H H' : Hp} {o : Own} {σ : SSt} {ρ : PEnv} {c c' i n : Nat} {v : V} {d : D} {a : Addr} {x : HO}
def addO (o : Own) (n : Nat) (a : Addr) : Own := fun j => if j = n then some a else o j
theorem Rel.addb (R : Rel W B o H σ ρ c) (n0 : H a = none) (s : St W H H') (b : BoxO W H' c') (hx : H' a = some x) : B.h a = none ∧ ¬ B.s a ∧ ∃ n, ρ.length ≤ n ∧ o n = none ∧ Rel W ⟨B.h, fun b => B.s b ∨ b = a⟩ (addO o n a) H' σ ρ c' ∧ ∀ b, Hid W (addO o n a) b ↔ Hid W o b ∨ b = a := by
  obtain ⟨N, hN⟩ := R.bd
  have ba : B.h a = none := by
    cases q : B.h a with
    | none => rfl
    | some u =>
      have := (off_some (R.base a u q)).1
      rw [n0] at this
      cases this
  have no_a : ∀ j, o j ≠ some a := fun j e => by
    obtain ⟨_, ⟨u, h3⟩, _⟩ := R.fr j a e
    rw [n0] at h3
    cases h3
  refine ⟨ba, fun z => (by obtain ⟨j, _, h⟩ := R.keep a z; exact no_a j h), max N ρ.length, by omega, hN _ (by omega), ?_, ?_⟩
  · have R' := R.ext s b
    have na : W.pb ≠ some a := R.box.ne n0
    have vis : Same (Hv W o H) (Hv W (addO o (max N ρ.length) a) H') := off_to fun e u n g => by
      refine ⟨fun m => ?_, s e u (fun z => n (.inl z)) g⟩
      rcases m with m | ⟨j, m⟩
      · exact n (.inl m)
      · unfold addO at m
        split at m
        · cases m
          rw [n0] at g
          cases g
        · exact n (.inr ⟨j, m⟩)
    refine ⟨R.len, R'.base, fun b hb => ?_, fun j e h => ?_, fun j e h => ?_, fun j k e h1 h2 => ?_, fun j e h => ?_, ⟨max N ρ.length + 1, fun j hj => ?_⟩, R'.box⟩
    · rcases hb with hb | rfl
      · obtain ⟨j, h1, h2⟩ := R.keep b hb
        refine ⟨j, h1, ?_⟩
        have : j ≠ max N ρ.length := fun z => by rw [z, hN _ (by omega)] at h2; cases h2
        unfold addO
        rw [if_neg this]
        exact h2
      · exact ⟨max N ρ.length, by omega, if_pos rfl⟩
    · obtain ⟨u, h1, h2⟩ := R.slot j e h
      exact ⟨u, h1, h2.mono vis _ _⟩
    · obtain ⟨b, h1, h2, h3⟩ := R.own j e h
      have lj := (List.getElem?_eq_some_iff.mp h).1
      obtain ⟨w, hw⟩ := h3.has
      have g := s b w (R.fr j b h1).1 hw
      rw [hw] at h3
      refine ⟨b, ?_, h2, by rw [g]; exact h3.mono vis⟩
      unfold addO
      rw [if_neg (by omega)]
      exact h1
    · unfold addO at h1 h2
      split at h1
      · split at h2
        · omega
        · cases h1
          exact absurd h2 (no_a _)
      · split at h2
        · cases h2
          exact absurd h1 (no_a _)
        · exact R.inj j k e h1 h2
    · unfold addO at h
      split at h
      · rename_i z
        cases h
        exact ⟨na, ⟨x, hx⟩, .inr ⟨by omega, .inr rfl⟩⟩
      · obtain ⟨h2, h3, h4⟩ := R'.fr j e h
        exact ⟨h2, h3, h4.imp id fun h => ⟨h.1, .inl h.2⟩⟩
    · unfold addO
      rw [if_neg (by omega)]
      exact hN j (by omega)
  · intro b
    constructor
    · rintro (m | ⟨j, m⟩)
      · exact .inl (.inl m)
      · unfold addO at m
        split at m
        · cases m; exact .inr rfl
        · exact .inl (.inr ⟨j, m⟩)
    · rintro ((m | ⟨j, m⟩) | rfl)
      · exact .inl m
      · refine .inr ⟨j, ?_⟩
        have : j ≠ max N ρ.length := fun z => by rw [z, hN _ (by omega)] at m; cases m
        unfold addO
        rw [if_neg this]
        exact m
      · exact .inr ⟨max N ρ.length, if_pos rfl⟩
/-- what is owned behind the slots is let go -/
theorem Rel.forget {S : Addr → Prop} (R : Rel W ⟨B.h, S⟩ (addO o n a) H σ ρ c) (hn : ρ.length ≤ n) (on : o n = none) (hS : ∀ b, S b ↔ B.s b ∨ b = a) (na : ¬ B.s a) : Rel W B o H σ ρ c := by
  have le : ∀ j b, o j = some b → addO o n a j = some b := fun j b h => by
    unfold addO
    rw [if_neg (fun z => by rw [z, on] at h; cases h)]
    exact h
  refine ⟨R.len, R.base, fun b hb => ?_, fun j e h => ?_, fun j e h => ?_, fun j k e h1 h2 => R.inj j k e (le _ _ h1) (le _ _ h2), fun j e h => ?_, ?_, R.box⟩
  · obtain ⟨j, h1, h2⟩ := R.keep b ((hS b).mpr (.inl hb))
    refine ⟨j, h1, ?_⟩
    unfold addO at h2
    split at h2
    · cases h2
      exact absurd hb na
    · exact h2
  · obtain ⟨u, h1, h2⟩ := R.slot j e h
    exact ⟨u, h1, h2.mono (hv_le le) _ _⟩
  · obtain ⟨b, h1, h2, h3⟩ := R.own j e h
    have lj := (List.getElem?_eq_some_iff.mp h).1
    refine ⟨b, ?_, h2, h3.mono (hv_le le)⟩
    unfold addO at h1
    rw [if_neg (by omega)] at h1
    exact h1
  · obtain ⟨h1, h2, h3⟩ := R.fr j e (le _ _ h)
    refine ⟨h1, h2, h3.imp id fun z => ⟨z.1, ?_⟩⟩
    rcases (hS e).mp z.2 with z | rfl
    · exact z
    · obtain ⟨k, k1, k2⟩ := R.keep e z.2
      have e1 : addO o n e n = some e := if_pos rfl
      have := R.inj j n e (le _ _ h) e1
      subst this
      rw [on] at h
      cases h
  · obtain ⟨N, hN⟩ := R.bd
    refine ⟨N, fun j hj => ?_⟩
    cases q : o j with
    | none => rfl
    | some u =>
      have := le _ _ q
      rw [hN j hj] at this
      cases this
/-- slot i takes over what is owned behind the slots -/
def adO (l : Nat) (o : Own) (i n : Nat) (a : Addr) : Own := fun j => if j = i ∧ i < l then some a else if j = n then none else o j
theorem Rel.adopt {h : Hp} {S S' : Addr → Prop} (R : Rel W ⟨h, S⟩ o H σ ρ c) (on : o n = some a) (hn : ρ.length ≤ n) (hS : ∀ b, S b ↔ S' b ∨ b = a) (na : ¬ S' a) (ba : h a = none) (oc : OwnC W (Hv W o H) (H a) d) :
    Rel W ⟨h, S'⟩ (adO ρ.length o i n a) H (σ.set i (some (.ref a))) (ρ.set i (Sl.own d)) c ∧ (∀ j b, adO ρ.length o i n a j = some b → ∃ k, o k = some b) ∧ ∀ j, ρ.length ≤ j → j ≠ n → adO ρ.length o i n a j = o j := by
  have le : ∀ j b, adO ρ.length o i n a j = some b → ∃ k, o k = some b := fun j b h => by
    unfold adO at h
    split at h
    · cases h; exact ⟨n, on⟩
    · split at h
      · cases h
      · exact ⟨j, h⟩
  have sm : Same (Hv W o H) (Hv W (adO ρ.length o i n a) H) := off_le fun b m => by
    rcases m with m | ⟨j, m⟩
    · exact .inl m
    · obtain ⟨k, hk⟩ := le j b m
      exact .inr ⟨k, hk⟩
  refine ⟨⟨by rw [List.length_set, List.length_set, R.len], R.base, fun b hb => ?_, fun j e h => ?_, fun j e h => ?_, fun j k e h1 h2 => ?_, fun j e h => ?_, ?_, R.box⟩, le, fun j h1 h2 => ?_⟩
  · obtain ⟨j, h1, h2⟩ := R.keep b ((hS b).mpr (.inl hb))
    refine ⟨j, by rw [List.length_set]; exact h1, ?_⟩
    unfold adO
    rw [if_neg (by omega), if_neg (fun z => ?_)]
    · exact h2
    · subst z
      rw [on] at h2
      cases h2
      exact na hb
  · rcases set_get h with ⟨rfl, hl, e1⟩ | ⟨n, h⟩
    · cases e1
    · obtain ⟨u, h1, h2⟩ := R.slot j e h
      have lj := (List.getElem?_eq_some_iff.mp h).1
      exact ⟨u, by rw [set_off (by omega)]; exact h1, h2.mono sm _ _⟩
  · rcases set_get h with ⟨rfl, hl, e1⟩ | ⟨nn, h⟩
    · cases e1
      refine ⟨a, ?_, set_at (by rw [R.len]; exact hl), oc.mono sm⟩
      unfold adO
      rw [if_pos ⟨rfl, hl⟩]
    · obtain ⟨b, h1, h2, h3⟩ := R.own j e h
      have lj := (List.getElem?_eq_some_iff.mp h).1
      refine ⟨b, ?_, by rw [set_off (by omega)]; exact h2, h3.mono sm⟩
      unfold adO
      rw [if_neg (by omega), if_neg (by omega)]
      exact h1
  · unfold adO at h1 h2
    split at h1
    · split at h2
      · omega
      · split at h2
        · cases h2
        · cases h1
          have := R.inj _ _ _ h2 on
          omega
    · split at h1
      · cases h1
      · split at h2
        · cases h2
          have := R.inj _ _ _ h1 on
          omega
        · split at h2
          · cases h2
          · exact R.inj j k e h1 h2
  · unfold adO at h
    split at h
    · rename_i z
      cases h
      obtain ⟨h1, h2, _⟩ := R.fr n a on
      exact ⟨h1, h2, .inl ⟨⟨d, by rw [z.1]; exact set_at z.2⟩, ba⟩⟩
    · split at h
      · cases h
      · rename_i z1 z2
        obtain ⟨h1, h2, h3⟩ := R.fr j e h
        refine ⟨h1, h2, ?_⟩
        rcases h3 with ⟨⟨u, h3⟩, h4⟩ | h3
        · have lj := (List.getElem?_eq_some_iff.mp h3).1
          exact .inl ⟨⟨u, by rw [set_off (by omega)]; exact h3⟩, h4⟩
        · refine .inr ⟨by rw [List.length_set]; exact h3.1, ?_⟩
          rcases (hS e).mp h3.2 with q | rfl
          · exact q
          · exact absurd (R.inj _ _ _ h on) z2
  · obtain ⟨N, hN⟩ := R.bd
    refine ⟨max N ρ.length, fun j hj => ?_⟩
    unfold adO
    rw [if_neg (by omega)]
    split
    · rfl
    · exact hN j (by omega)
  · unfold adO
    rw [if_neg (by omega), if_neg h2]
/-- values for targets; the flagged ones are new and are to be owned -/
inductive PArg (W : Wd) (o : Own) (H : Hp) (l : Nat) : List Addr → List Bool → List V → List D → Prop
  | nil : PArg W o H l [] [] [] []
  | v {v : V} {d : D} {A : List Addr} {fl : List Bool} {vs : List V} {ds : List D} : Dn W (Hv W o H) v d → PArg W o H l A fl vs ds → PArg W o H l A (false :: fl) (v :: vs) (d :: ds)
  | own {n : Nat} {a : Addr} {d : D} {A : List Addr} {fl : List Bool} {vs : List V} {ds : List D} : o n = some a → l ≤ n → OwnC W (Hv W o H) (H a) d → PArg W o H l A fl vs ds → PArg W o H l (a :: A) (true :: fl) (.ref a :: vs) (d :: ds)
theorem PArg.mono {o' : Own} {l : Nat} {A : List Addr} {fl : List Bool} {vs : List V} {ds : List D} (h : PArg W o H l A fl vs ds) (sm : Same (Hv W o H) (Hv W o' H')) (hk : ∀ a ∈ A, ∀ i, l ≤ i → o i = some a → o' i = some a ∧ H' a = H a) : PArg W o' H' l A fl vs ds := by
  induction h with
  | nil => exact .nil
  | v h _ ih => exact .v (h.mono sm _ _) (ih hk)
  | own h1 h2 h3 _ ih =>
    obtain ⟨k1, k2⟩ := hk _ List.mem_cons_self _ h2 h1
    exact .own k1 h2 (by rw [k2]; exact h3.mono sm) (ih fun a ha => hk a (List.mem_cons_of_mem _ ha))
def LAO (W : Wd) (E : WX) (ta : TA) (f : FA) (fl : List Bool) : Prop := ∀ (B : Bs) (o : Own) (H : Hp) (σ : SSt) (ρ : PEnv) (c : Nat) (Q : List V → Hp → Prop) (Q' : List D → Nat → Prop) (X : PXc), Rel W B o H σ ρ c → XR W B o σ ρ E X → f ρ c Q' X →
  (∀ ds c' vs H' o' A, Q' ds c' → Rel W ⟨B.h, fun b => B.s b ∨ b ∈ A⟩ o' H' σ ρ c' → A.Nodup → (∀ a ∈ A, B.h a = none ∧ ¬ B.s a) → St W H H' → Same (Hv W o H) (Hv W o' H') → (∀ i a, ρ.length ≤ i → o i = some a → o' i = some a) → PArg W o' H' ρ.length A fl vs ds → Q vs H') → ta σ H Q
theorem Rel.congrS {h : Hp} {S S' : Addr → Prop} (R : Rel W ⟨h, S⟩ o H σ ρ c) (e : ∀ b, S b ↔ S' b) : Rel W ⟨h, S'⟩ o H σ ρ c := by
  have : S = S' := funext fun b => propext (e b)
  rw [← this]
  exact R
variable {E : WX} {te : TE} {f : FX} {tas : TA} {fas : FA} {fl : List Bool}
theorem lao_nil : LAO W E tNil fNil [] := fun B o H σ ρ c Q Q' X R x hf k =>
  k [] c [] H o [] hf (R.congrS (S := B.s) (by intro b; simp)) List.nodup_nil (fun _ h => by cases h) St.refl (Same.refl _) (fun _ _ _ h => h) .nil
theorem lao_v (he : LE W E te f) (hr : LAO W E tas fas fl) : LAO W E (tCons te tas) (fCons f fas) (false :: fl) := fun B o H σ ρ c Q Q' X R x hf k => by
  refine he B o H σ ρ c _ _ X R x hf fun d c1 v H1 q s b dn => ?_
  refine hr B o H1 σ ρ c1 _ _ X (R.ext s b) x q fun ds c2 vs H2 o2 A q2 R2 nd hA s2 sm hk pa => ?_
  exact k _ c2 _ H2 o2 A q2 R2 nd hA (s.trans s2) (s.hv.trans sm) hk (.v (dn.mono sm _ _) pa)
theorem lao_own (he : LF W E te f) (hr : LAO W E tas fas fl) : LAO W E (tCons te tas) (fCons f fas) (true :: fl) := fun B o H σ ρ c Q Q' X R x hf k => by
  refine he B o H σ ρ c _ _ X R x hf fun d c1 a H1 q n0 s b oc => ?_
  obtain ⟨u, hu⟩ := oc.has
  obtain ⟨ba, na, n, hn, on, R1, hid⟩ := R.addb n0 s b hu
  have pa : W.pb ≠ some a := R.box.ne n0
  have e1 : addO o n a n = some a := if_pos rfl
  have sub : Same (Hv W (addO o n a) H1) (Hv W o H1) := off_le fun b m => (hid b).mpr (.inl m)
  have x1 : XR W ⟨B.h, fun b => B.s b ∨ b = a⟩ (addO o n a) σ ρ E X := fun H2 c2 y d v dd R2 h1 h2 h3 =>
    x H2 c2 y d v dd (R2.forget hn on (fun b => Iff.rfl) na) h1 (off_le (fun b m => (hid b).mpr (.inl m)) _ _ h2) (h3.mono (off_le fun b m => (hid b).mpr (.inl m)) _ _)
  refine hr _ (addO o n a) H1 σ ρ c1 _ _ X R1 x1 q fun ds c2 vs H2 o2 A q2 R2 nd hA s2 sm hk pas => ?_
  have an : a ∉ A := fun m => (hA a m).2 (.inr rfl)
  have up : Same (Hv W o H) (Hv W (addO o n a) H1) := off_to fun b u2 m g => by
    refine ⟨fun z => ?_, s b u2 (fun z => m (.inl z)) g⟩
    rcases (hid b).mp z with z | rfl
    · exact m z
    · rw [n0] at g; cases g
  refine k _ c2 _ H2 o2 (a :: A) q2 (R2.congrS fun b => ?_) (List.nodup_cons.mpr ⟨an, nd⟩) (fun y hy => ?_) (s.trans s2) (up.trans sm) (fun i b hi e => hk i b hi ?_) ?_
  · simp only [List.mem_cons]
    constructor
    · rintro ((h | h) | h)
      · exact .inl h
      · exact .inr (.inl h)
      · exact .inr (.inr h)
    · rintro (h | h | h)
      · exact .inl (.inl h)
      · exact .inl (.inr h)
      · exact .inr h
  · rcases List.mem_cons.mp hy with rfl | hy
    · exact ⟨ba, na⟩
    · exact ⟨(hA y hy).1, fun z => (hA y hy).2 (.inl z)⟩
  · unfold addO
    rw [if_neg (fun z => by rw [z, on] at e; cases e)]
    exact e
  · have g2 := s2 a u pa hu
    rw [hu] at oc
    refine .own (hk n a hn e1) hn ?_ pas
    rw [g2]
    exact (oc.mono (off_le fun b m => (hid b).mp m)).mono sm
/-- slots, one behind the other -/
def setS (σ : SSt) : List Nat → List V → SSt
  | i :: js, v :: vs => setS (σ.set i (some v)) js vs
  | _, _ => σ
def setP (ρ : PEnv) : List Nat → List Bool → List D → PEnv
  | i :: js, b :: fl, d :: ds => setP (ρ.set i (if b then Sl.own d else Sl.v d)) js fl ds
  | _, _, _ => ρ
theorem set_par {l : Nat} : ∀ {js : List Nat} {A : List Addr} {fl : List Bool} {vs : List V} {ds : List D} {o : Own} {σ : SSt} {ρ : PEnv}, Rel W ⟨B.h, fun b => B.s b ∨ b ∈ A⟩ o H σ ρ c → l = ρ.length → A.Nodup → (∀ a ∈ A, B.h a = none ∧ ¬ B.s a) → PArg W o H l A fl vs ds → js.length = fl.length →
    ∃ o', Rel W B o' H (setS σ js vs) (setP ρ js fl ds) c
  | [], A, fl, vs, ds, o, σ, ρ, R, hl, nd, hA, pa, e => by
    cases fl with
    | cons => cases e
    | nil =>
      cases pa
      exact ⟨o, R.congrS (S' := B.s) (by intro b; simp)⟩
  | i :: js, A, fl, vs, ds, o, σ, ρ, R, hl, nd, hA, pa, e => by
    cases pa with
    | nil => cases e
    | v dn pa =>
      refine set_par (js := js) (R.setv (i := i) dn) (by rw [List.length_set]; exact hl) nd hA (pa.mono (hv_le drop_le) fun a ha j hj h => ⟨?_, rfl⟩) (by simpa using e)
      unfold drop
      rw [if_neg (by omega)]
      exact h
    | @own n a d A _ _ _ on hn oc pa =>
      obtain ⟨nd1, nd2⟩ := List.nodup_cons.mp nd
      have ha := hA a List.mem_cons_self
      obtain ⟨R2, le, beh⟩ := R.adopt (i := i) (S' := fun b => B.s b ∨ b ∈ A) on (by omega) (by
        intro b
        simp only [List.mem_cons]
        constructor
        · rintro (h | h | h)
          · exact .inl (.inl h)
          · exact .inr h
          · exact .inl (.inr h)
        · rintro ((h | h) | h)
          · exact .inl h
          · exact .inr (.inr h)
          · exact .inr (.inl h)) (fun z => z.elim ha.2 nd1) ha.1 oc
      have sm : Same (Hv W o H) (Hv W (adO ρ.length o i n a) H) := off_le fun b m => by
        rcases m with m | ⟨j, m⟩
        · exact .inl m
        · obtain ⟨k, hk⟩ := le j b m
          exact .inr ⟨k, hk⟩
      refine set_par (js := js) R2 (by rw [List.length_set]; exact hl) nd2 (fun y hy => hA y (List.mem_cons_of_mem _ hy)) (pa.mono sm fun b hb j hj h => ⟨?_, rfl⟩) (by simpa using e)
      rw [beh j (by omega) fun z => ?_]
      · exact h
      · subst z
        rw [on] at h
        cases h
        exact nd1 hb
def fParO (js : List Nat) (fl : List Bool) (fs : FA) : FS := fun P ρ c => fs ρ c (fun ds c' => ds.length = js.length ∧ P.nx (setP ρ js fl ds) c') (P.ex ρ)
theorem PArg.len {l : Nat} {A : List Addr} {vs : List V} {ds : List D} (h : PArg W o H l A fl vs ds) : vs.length = ds.length ∧ fl.length = ds.length := by
  induction h with
  | nil => exact ⟨rfl, rfl⟩
  | v _ _ ih => simp only [List.length_cons]; omega
  | own _ _ _ _ ih => simp only [List.length_cons]; omega
theorem ls_parO2 {i j : Nat} (ha : LAO W E tas fas fl) : LS W E (tPar i j tas) (fParO [i, j] fl fas) := fun B o H σ ρ c D P R e hf => by
  refine ha B o H σ ρ c _ _ _ R (e.ex o σ ρ) hf fun ds c1 vs H1 o1 A q R1 nd hA s sm hk pa => ?_
  have hl := pa.len
  obtain ⟨o2, R2⟩ := set_par (js := [i, j]) R1 rfl nd hA pa (by rw [hl.2, q.1])
  match vs, hl, R2 with
  | [v, w], _, R2 => exact ⟨v, w, rfl, e.nx _ H1 _ _ c1 R2 q.2⟩
  | [], hl, _ => simp [q.1] at hl
  | [_], hl, _ => simp [q.1] at hl
  | _ :: _ :: _ :: _, hl, _ => simp [q.1] at hl
theorem ls_parO3 {i j k : Nat} (ha : LAO W E tas fas fl) : LS W E (tPar3 i j k tas) (fParO [i, j, k] fl fas) := fun B o H σ ρ c D P R e hf => by
  refine ha B o H σ ρ c _ _ _ R (e.ex o σ ρ) hf fun ds c1 vs H1 o1 A q R1 nd hA s sm hk pa => ?_
  have hl := pa.len
  obtain ⟨o2, R2⟩ := set_par (js := [i, j, k]) R1 rfl nd hA pa (by rw [hl.2, q.1])
  match vs, hl, R2 with
  | [v, w, u], _, R2 => exact ⟨v, w, u, rfl, e.nx _ H1 _ _ c1 R2 q.2⟩
  | [], hl, _ => simp [q.1] at hl
  | [_], hl, _ => simp [q.1] at hl
  | [_, _], hl, _ => simp [q.1] at hl
  | _ :: _ :: _ :: _ :: _, hl, _ => simp [q.1] at hl
/-! a call by keywords -/
theorem le_callW {F : PFn} {Ec : SSt → XK} {g : {α : Type} → List α → List α} {n : Nat} (hg : ∀ (M : Hp) vs ds, DnAll W M vs ds → DnAll W M (g vs) (g ds)) (hE : ∀ σ cls d H, E cls d σ H → Ec σ cls d H) (ha : LA W E tas fas) :
    LE W E (tCallW (spOf W.K W.mg F) g n Ec tas) (fCall (fun ds c Q X => ds.length = n ∧ F (g ds) c Q X) fas) := fun B o H σ ρ c Q Q' X R x hf k => by
  refine ha B o H σ ρ c _ _ X R x hf fun ds c1 vs H1 q s b dn => ?_
  have R1 := R.ext s b
  refine ⟨by rw [dn.len]; exact q.1, W.pb, o, g ds, c1, Q', X, R1.ok, hg _ _ _ dn, b, q.2, fun d c' v H' q2 s2 b2 dn2 => k d c' v H' q2 (s.trans s2) b2 dn2, fun c' n d v dd H' q2 s2 b2 g dn2 => ?_⟩
  exact hE _ _ _ _ (x H' c' n d v dd (R1.ext s2 b2) q2 g dn2)
/-! try: body, except X as n: suite -/
def fTry (x : Str) (oth : List Str) (i : Nat) (fb : FS) (fs : Addr → Addr → FS) : FS := fun P ρ c =>
  fb { P with ex := fun ρ' c' y d => (y = x ∧ ∀ a dd, fs a dd { P with nx := fun ρ2 c2 => P.nx (ρ2.set i Sl.no) c2, bk := fun ρ2 c2 => P.bk (ρ2.set i Sl.no) c2, ct := fun ρ2 c2 => P.ct (ρ2.set i Sl.no) c2 } (ρ'.set i (Sl.v (.exc a dd d))) c') ∨ (y ≠ x ∧ y ∈ oth ∧ P.ex ρ' c' y d) } ρ c
theorem Rel.unset (R : Rel W B o H σ ρ c) : ∃ o', Rel W B o' H (σ.set i none) (ρ.set i Sl.no) c := by
  have R1 := R.setv (i := i) (v := .non) (d := .non) .non
  have h0 : isOwn (ρ.set i (Sl.v D.non))[i]? = false := by
    by_cases h : i < ρ.length
    · rw [set_at h]; rfl
    · rw [List.getElem?_eq_none (by rw [List.length_set]; omega)]; rfl
  have R2 := R1.setno (i := i) h0
  rw [List.set_set, List.set_set] at R2
  exact ⟨_, R2⟩
theorem ls_try {x : Str} {oth : List Str} {ts : Addr → Value → Option Addr → TS} {tb : WX → TS} {fb : FS} {fs : Addr → Addr → FS} (T : ErrAt W.K W.mg x) (hno : ∀ y ∈ oth, y ≠ x → NotErr W.K W.mg y x)
    (hb : ∀ E', LS W E' (tb E') fb) (hs : ∀ a dd, LS W E (ts a (.ref (errAt W.mg x)) (some dd)) (fs a dd)) : LS W E (tTryA W.K (.ref (errAt W.mg x)) i ts E tb) (fTry x oth i fb fs) := fun B o H σ ρ c D P R e hf => by
  unfold fTry at hf
  refine hb _ B o H σ ρ c D _ R ?_ hf
  refine ⟨e.nx, e.rt, e.bk, e.ct, fun o2 σ2 ρ2 H2 c2 y d v dd R2 q g dn => ?_, e.ro⟩
  rcases q with ⟨rfl, q⟩ | ⟨ny, my, q⟩
  · refine wAs_of T.te fun a ha => ?_
    have R3 := R2.setv (i := i) (v := .ref a) (d := .exc a dd d) (.exc g dn)
    refine hs a dd B _ H2 _ _ c2 _ _ R3 ?_ (q a dd)
    refine ⟨fun o3 H3 σ3 ρ3 c3 R3 q3 => ?_, e.rt, fun o3 H3 σ3 ρ3 c3 R3 q3 => ?_, fun o3 H3 σ3 ρ3 c3 R3 q3 => ?_, e.ex, e.ro⟩
    · obtain ⟨o4, R4⟩ := R3.unset (i := i)
      exact e.nx _ _ _ _ _ R4 q3
    · obtain ⟨o4, R4⟩ := R3.unset (i := i)
      exact e.bk _ _ _ _ _ R4 q3
    · obtain ⟨o4, R4⟩ := R3.unset (i := i)
      exact e.ct _ _ _ _ _ R4 q3
  · exact ⟨false, hno y my ny, fun h => (by cases h), fun _ => e.ex o2 σ2 ρ2 H2 c2 y d v dd R2 q g dn⟩
def fGiv (a dd : Addr) (i : Nat) : FX := fun ρ c Q _ => match ρ[i]? with | some (Sl.v (.exc b e g)) => a = b ∧ dd = e ∧ Q g c | _ => False
theorem le_giv {x : Str} {a dd : Addr} : LE W E (tGiv (errAt W.mg x) a (.ref (errAt W.mg x)) (some dd) i) (fGiv a dd i) := fun B o H σ ρ c Q Q' X R _ hf k => by
  unfold fGiv at hf
  split at hf
  · rename_i b e g h
    obtain ⟨rfl, rfl, q⟩ := hf
    obtain ⟨v, h1, h2⟩ := R.slot i _ h
    cases h2 with
    | exc g1 g2 => exact ⟨h1, rfl, dd, _, rfl, (off_some g1).1, k g c _ H q St.refl R.box g2⟩
  · exact hf.elim
end
end Pu
set_option Elab.async false
set_option linter.all false
set_option maxRecDepth 100000
set_option maxHeartbeats 4000000
/-! Pu7: how the pure readings unfold; not in; draws; list(range(..)). -/
namespace Pu
open PySem PySem.Spec PyProof.Rows L2 SL
section
variable {W : Wd} {E : WX}
def rNotInP (K : PySem.W.Frag) : R2 := fun x y H Q => ∃ d ds, Dp K H x d ∧ (Dp K H y (.list ds) ∨ Dp K H y (.tuple ds)) ∧ SeqAt.shaped d = true ∧ SeqAt.shaped (.list ds) = true ∧ Q (.bl (!ds.any fun z => PyData.eqv z d)) H
theorem uNotInP {X : Cx} {k : Nat} (hr : Room k X.A) : OpR X (compareOp .NotIn) (rNotInP X.K) := by
  intro pins s σ H x y v u Q I rx ry h
  obtain ⟨d, ds, hd, he, sd, se, q⟩ := h
  have hu : X.A.units + 65 < cLine := by have := hr.un; omega
  obtain ⟨as, r1⟩ := Dp.reads I d x v hd rx
  rcases he with he | he
  · obtain ⟨bs, r2⟩ := Dp.reads I (.list ds) y u he ry
    exact SeqAt.notIn_list_reads r2 r1 (SeqAt.canLay_of_shaped se) (SeqAt.canLay_of_shaped sd) (room_in_shaped sd hu) ⟨.bl _, H, I, rfl, q⟩
  · obtain ⟨bs, r2⟩ := Dp.reads I (.tuple ds) y u he ry
    exact SeqAt.notIn_tuple_reads r2 r1 (SeqAt.canLay_of_shaped se) (SeqAt.canLay_of_shaped sd) (room_in_shaped sd hu) ⟨.bl _, H, I, rfl, q⟩
theorem kNotInP (K : PySem.W.Frag) {X : Cx} {k : Nat} (h : X.K = K) (hr : Room k X.A) : OpR X (compareOp .NotIn) (rNotInP K) := h ▸ uNotInP hr
def gNotIn (x : D) : D → Option D
  | .lst ys => if (okE 60 x && ys.all (okE 60)) = true then some (.bl (!inD x ys)) else none
  | .tup ys => if (okE 60 x && ys.all (okE 60)) = true then some (.bl (!inD x ys)) else none
  | _ => none
theorem lo_notin : LO2 W (rNotInP W.K) gNotIn := fun o H x y d e z Q hh dx dy g k => by
  unfold gNotIn at g
  split at g
  · obtain ⟨hz, rfl⟩ := ite_some g
    rw [Bool.and_eq_true] at hz
    rename_i ys
    have p1 := pl_of 60 d hz.1
    have p2 := pl_of 61 (.lst ys) hz.2
    refine ⟨toP d, toPs ys, dx.pl hz.1, .inl ?_, p1.shaped (by omega), ?_, ?_⟩
    · exact dy.dn.dp (.lst ys) _ 61 hz.2
    · exact p2.shaped (by omega)
    · rw [any_toPs]
      exact k _ _ (Same.refl _) (.bl _)
  · obtain ⟨hz, rfl⟩ := ite_some g
    rw [Bool.and_eq_true] at hz
    rename_i ys
    have p1 := pl_of 60 d hz.1
    have p2 := pl_of 61 (.lst ys) hz.2
    refine ⟨toP d, toPs ys, dx.pl hz.1, .inr ?_, p1.shaped (by omega), ?_, ?_⟩
    · exact dy.dn.dp (.tup ys) _ 61 hz.2
    · exact p2.shaped (by omega)
    · rw [any_toPs]
      exact k _ _ (Same.refl _) (.bl _)
  · cases g
/-! flat == -/
def gEq2 : D → D → Option D
  | .int a, .int b => some (.bl (decide (a = b)))
  | .str a, .str b => some (.bl (decide (a = b)))
  | x, y => gEq x y
def gNe2 : D → D → Option D
  | .int a, .int b => some (.bl (!decide (a = b)))
  | .str a, .str b => some (.bl (!decide (a = b)))
  | x, y => gNe x y
theorem lo_eq2 : LO2 W (rEqU W.K) gEq2 := fun o H x y d e z Q hh dx dy g k => by
  unfold gEq2 at g
  split at g
  · cases g; cases dx.int; cases dy.int
    exact w_eqI (k _ _ (Same.refl _) (.bl _))
  · cases g; cases dx.str; cases dy.str
    exact w_eqS (k _ _ (Same.refl _) (.bl _))
  · exact lo_eq o H x y d e z Q hh dx dy g k
theorem lo_ne2 : LO2 W (rNeU W.K) gNe2 := fun o H x y d e z Q hh dx dy g k => by
  unfold gNe2 at g
  split at g
  · cases g; cases dx.int; cases dy.int
    exact w_neI (k _ _ (Same.refl _) (.bl _))
  · cases g; cases dx.str; cases dy.str
    exact w_neS (k _ _ (Same.refl _) (.bl _))
  · exact lo_ne o H x y d e z Q hh dx dy g k
/-! list(range(..)) -/
theorem rg_at {lo : Int} {n i : Nat} {d : D} (h : (rgD lo n)[i]? = some d) : i < n ∧ d = .int (lo + i) := by
  have hi := (List.getElem?_eq_some_iff.mp h).1
  rw [rgD_len] at hi
  refine ⟨hi, ?_⟩
  unfold rgD at h
  rw [List.getElem?_map, List.getElem?_range hi] at h
  exact (Option.some.inj h).symm
theorem rgV_dn {M : Hp} (lo : Int) (n : Nat) : DnAll W M ((List.range n).map fun i : Nat => V.int (lo + i)) (rgD lo n) := by
  unfold rgD
  induction (List.range n) with
  | nil => exact .nil
  | cons a r ih => exact .cons (.int _) ih
def fLrg1 (fa : FX) : FX := fun ρ c Q X => fa ρ c (fun d c1 => wpO (iD d) fun j => (-1000000 ≤ j ∧ j ≤ 1000000) ∧ Q (.lst (rgD 0 j.toNat)) c1) X
def fLrg2 (fa fb : FX) : FX := fun ρ c Q X => fa ρ c (fun d c1 => fb ρ c1 (fun e c2 => wpO (iD d) fun i => wpO (iD e) fun j => (-1000000 ≤ i ∧ i ≤ 1000000 ∧ -1000000 ≤ j ∧ j ≤ 1000000) ∧ Q (.lst (rgD i (j - i).toNat)) c2) X) X
theorem rg_ok {i j : Int} (h : -1000000 ≤ i ∧ i ≤ 1000000 ∧ -1000000 ≤ j ∧ j ≤ 1000000) : RgOk i j := by
  unfold RgOk
  refine ⟨?_, ?_, ?_, ?_⟩ <;> omega
theorem rgV_eq (i j : Int) : rgV i j = (List.range (j - i).toNat).map fun k : Nat => V.int (i + k) := by
  unfold rgV
  rfl
theorem lf_lrg1 {ta : TE} {fa : FX} (ha : LB W E ta fa) : LF W E (tLstRg (tRg1 ta)) (fLrg1 fa) := fun B o H σ ρ c Q Q' X R x hf k => by
  refine ha B o H σ ρ c _ _ X R x hf fun d c1 v H1 q s b dn => ?_
  obtain ⟨j, hj, hb, q⟩ := q
  obtain rfl := iD_of hj
  cases dn.int
  refine ⟨j, rfl, rg_ok (by omega), fun p hp => k _ c1 p _ q (s.none (b.ne hp) hp) (s.trans (.of (same_new hp))) (b.same (same_new hp)) ?_⟩
  rw [rgV_eq]
  have e : j - 0 = j := by omega
  rw [e]
  exact own_lst hp (rgV_dn 0 _)
theorem lf_lrg2 {ta tb : TE} {fa fb : FX} (ha : LB W E ta fa) (hb : LB W E tb fb) : LF W E (tLstRg (tRg2 ta tb)) (fLrg2 fa fb) := fun B o H σ ρ c Q Q' X R x hf k => by
  refine ha B o H σ ρ c _ _ X R x hf fun d c1 v H1 q s b dn => ?_
  refine hb B o H1 σ ρ c1 _ _ X (R.ext s b) x q fun e c2 v2 H2 q2 s2 b2 dn2 => ?_
  obtain ⟨i, hi, j, hj, hb, q5⟩ := q2
  obtain rfl := iD_of hi
  obtain rfl := iD_of hj
  cases dn.int
  cases dn2.int
  have S := s.trans s2
  refine ⟨i, j, rfl, rfl, rg_ok hb, fun p hp => k _ c2 p _ q5 (S.none (b2.ne hp) hp) (S.trans (.of (same_new hp))) (b2.same (same_new hp)) ?_⟩
  rw [rgV_eq]
  exact own_lst hp (rgV_dn i _)
/-! draws -/
/-- a draw below n -/
def FTake : PFn := fun ds c Q _ => ∃ n : Int, ds = [.box, .int n] ∧ 0 < n ∧ n < 1073741824 ∧ c ≤ 100000000 ∧ ∀ k : Nat, (k : Int) < n → Q (.int k) (c + 1)
/-! simp's rows -/
/-- if, its ways not looked into -/
def cnd (b : Bool) (A B : Unit → Prop) : Prop := if b = true then A () else B ()
theorem cnd_t {A B : Unit → Prop} : cnd true A B = A () := rfl
theorem cnd_f {A B : Unit → Prop} : cnd false A B = B () := rfl
theorem cnd_of {b : Bool} {A B : Unit → Prop} (h1 : b = true → A ()) (h2 : b = false → B ()) : cnd b A B := by
  cases b with
  | true => exact h1 rfl
  | false => exact h2 rfl
theorem cnd_T {b : Bool} {A B : Unit → Prop} (h : b = true) (q : A ()) : cnd b A B := by rw [h]; exact q
theorem cnd_F {b : Bool} {A B : Unit → Prop} (h : b = false) (q : B ()) : cnd b A B := by rw [h]; exact q
def rg1 (ds : List D) (K : Int → Prop) : Prop := match ds with | [.int j] => K j | _ => False
def rg2 (ds : List D) (K : Int → Int → Prop) : Prop := match ds with | [.int i, .int j] => K i j | _ => False
def one1 (ds : List D) (K : D → Prop) : Prop := match ds with | [d] => K d | _ => False
def par2 (ds : List D) (K : D → D → Prop) : Prop := match ds with | [d, e] => K d e | _ => False
def par3 (ds : List D) (K : D → D → D → Prop) : Prop := match ds with | [d, e, u] => K d e u | _ => False
theorem rg1_eq {j : Int} {K : Int → Prop} : rg1 [.int j] K = K j := rfl
theorem rg2_eq {i j : Int} {K : Int → Int → Prop} : rg2 [.int i, .int j] K = K i j := rfl
theorem one1_eq {d : D} {K : D → Prop} : one1 [d] K = K d := rfl
theorem par2_eq {d e : D} {K : D → D → Prop} : par2 [d, e] K = K d e := rfl
theorem par3_eq {d e u : D} {K : D → D → D → Prop} : par3 [d, e, u] K = K d e u := rfl
variable {ρ : PEnv} {c : Nat} {Q : PQ} {X : PXc} {P : PEnds}
theorem fV_eq {i : Nat} : fV i ρ c Q X = match ρ[i]? with | some (Sl.v d) => Q d c | _ => False := rfl
theorem fB_eq {i : Nat} : fB i ρ c Q X = match ρ[i]? with | some (Sl.v d) => Q d c | some (Sl.own d) => Q d c | _ => False := rfl
theorem fC_eq {d : D} : fC d ρ c Q X = Q d c := rfl
theorem fO2_eq {g : D → D → Option D} {fa fb : FX} : fO2 g fa fb ρ c Q X = fa ρ c (fun x c1 => fb ρ c1 (fun y c2 => wpO (g x y) fun z => Q z c2) X) X := rfl
theorem fO1_eq {g : D → Option D} {fa : FX} : fO1 g fa ρ c Q X = fa ρ c (fun x c1 => wpO (g x) fun z => Q z c1) X := rfl
theorem fNotV_eq {fa : FX} : fNotV fa ρ c Q X = fa ρ c (fun x c1 => wpO (bD x) fun b => Q (.bl (!b)) c1) X := rfl
theorem fAndV_eq {fa fb : FX} : fAndV fa fb ρ c Q X = fa ρ c (fun x c1 => wpO (bD x) fun b => cnd b (fun _ => fb ρ c1 Q X) (fun _ => Q (.bl false) c1)) X := rfl
theorem fOrV_eq {fa fb : FX} : fOrV fa fb ρ c Q X = fa ρ c (fun x c1 => wpO (bD x) fun b => cnd b (fun _ => Q (.bl true) c1) (fun _ => fb ρ c1 Q X)) X := rfl
theorem fChain_eq {g g' : D → D → Option D} {fa fb fc : FX} : fChain g g' fa fb fc ρ c Q X = fa ρ c (fun x c1 => fb ρ c1 (fun y c2 => wpO (g x y) fun z => wpO (bD z) fun b => cnd b (fun _ => fc ρ c2 (fun w c3 => wpO (g' y w) fun u => Q u c3) X) (fun _ => Q (.bl false) c2)) X) X := rfl
theorem fIf_eq {ft : FT} {fa fb : FX} : fIf ft fa fb ρ c Q X = ft ρ c (fun b c1 => cnd b (fun _ => fa ρ c1 Q X) (fun _ => fb ρ c1 Q X)) X := rfl
theorem fTv_eq {fa : FX} {Q : Bool → Nat → Prop} : fTv fa ρ c Q X = fa ρ c (fun x c1 => wpO (bD x) fun b => Q b c1) X := rfl
theorem fTand_eq {ft fu : FT} {Q : Bool → Nat → Prop} : fTand ft fu ρ c Q X = ft ρ c (fun b c1 => cnd b (fun _ => fu ρ c1 Q X) (fun _ => Q false c1)) X := rfl
theorem fTor_eq {ft fu : FT} {Q : Bool → Nat → Prop} : fTor ft fu ρ c Q X = ft ρ c (fun b c1 => cnd b (fun _ => Q true c1) (fun _ => fu ρ c1 Q X)) X := rfl
theorem fTnot_eq {ft : FT} {Q : Bool → Nat → Prop} : fTnot ft ρ c Q X = ft ρ c (fun b c1 => Q (!b) c1) X := rfl
theorem fYes_eq {Q : Bool → Nat → Prop} : fYes ρ c Q X = Q true c := rfl
theorem fNil_eq {Q : List D → Nat → Prop} : fNil ρ c Q X = Q [] c := rfl
theorem fCons_eq {fa : FX} {fr : FA} {Q : List D → Nat → Prop} : fCons fa fr ρ c Q X = fa ρ c (fun x c1 => fr ρ c1 (fun xs c2 => Q (x :: xs) c2) X) X := rfl
theorem fTup_eq {fs : FA} : fTup fs ρ c Q X = fs ρ c (fun xs c1 => xs.length ≤ 16777216 ∧ Q (.tup xs) c1) X := rfl
theorem fLst_eq {fs : FA} : fLst fs ρ c Q X = fs ρ c (fun xs c1 => xs.length ≤ 16777216 ∧ Q (.lst xs) c1) X := rfl
theorem fDNew_eq : fDNew ρ c Q X = Q (.dic []) c := rfl
theorem fCB_eq {g : List D → Option D} {fs : FA} : fCB g fs ρ c Q X = fs ρ c (fun xs c1 => wpO (g xs) fun z => Q z c1) X := rfl
theorem fM1_eq {g : D → D → Option D} {fa fb : FX} : fM1 g fa fb ρ c Q X = fa ρ c (fun x c1 => isSt x = true ∧ fb ρ c1 (fun y c2 => wpO (g x y) fun z => Q z c2) X) X := rfl
theorem fNoPart_eq {Q : Option Int → Nat → Prop} : fNoPart ρ c Q X = Q none c := rfl
theorem fPart_eq {fa : FX} {Q : Option Int → Nat → Prop} : fPart fa ρ c Q X = fa ρ c (fun x c1 => wpO (iD x) fun i => Q (some i) c1) X := rfl
theorem fSl_eq {g : D → Option Int → Option Int → Option D} {fa : FX} {fl fh : FO} : fSl g fa fl fh ρ c Q X = fa ρ c (fun x c1 => fl ρ c1 (fun lo c2 => fh ρ c2 (fun hi c3 => wpO (g x lo hi) fun z => Q z c3) X) X) X := rfl
theorem fCall_eq {F : PFn} {fs : FA} : fCall F fs ρ c Q X = fs ρ c (fun ds c1 => F ds c1 Q X) X := rfl
theorem fIsi_eq {t : String} {fa : FX} : fIsi t fa ρ c Q X = fa ρ c (fun d c' => kD' d ≠ "" ∧ Q (.bl (isK t d)) c') X := rfl
theorem fLc_eq {fi : FI} {fg : FG} {ft : FT} {fe : FX} {vs : List Nat} : fLc fi fg ft fe vs ρ c Q X = (nown ρ vs = true ∧ fi ρ c (fun ds c1 => lcGo fg ft fe (pw ρ vs) ds c1 Q) X) := rfl
theorem fIter_eq {p : D → Option (List D)} {f : FX} {Q : List D → Nat → Prop} : fIter p f ρ c Q X = f ρ c (fun d c' => wpO (p d) fun ds => Q ds c') X := rfl
theorem fRg1_eq {fs : FA} {Q : List D → Nat → Prop} : fRg1 fs ρ c Q X = fs ρ c (fun ds c' => rg1 ds fun j => (-4611686018427387904 ≤ j ∧ j < 4611686018427387904) ∧ Q (rgD 0 j.toNat) c') X := rfl
theorem fRg2_eq {fs : FA} {Q : List D → Nat → Prop} : fRg2 fs ρ c Q X = fs ρ c (fun ds c' => rg2 ds fun i j => (-4611686018427387904 ≤ i ∧ i < 4611686018427387904 ∧ -4611686018427387904 ≤ j ∧ j < 4611686018427387904) ∧ Q (rgD i (j - i).toNat) c') X := rfl
theorem fGiv_eq {a dd : Addr} {i : Nat} : fGiv a dd i ρ c Q X = match ρ[i]? with | some (Sl.v (.exc b e g)) => a = b ∧ dd = e ∧ Q g c | _ => False := rfl
variable {k : PEnv → Nat → Prop} {d : D}
theorem gN_eq {i : Nat} : gN i d ρ c k = k (ρ.set i (Sl.v d)) c := rfl
theorem gsNil_eq : gsNil [] ρ c k = k ρ c := rfl
theorem gsCons_eq {fg : FG} {fgs : FGs} {r : List D} : gsCons fg fgs (d :: r) ρ c k = fg d ρ c (fun ρ' c' => fgs r ρ' c' k) := rfl
theorem gT_eq {n : Nat} {fgs : FGs} {ds : List D} : gT n fgs (.tup ds) ρ c k = (ds.length = n ∧ fgs ds ρ c k) := rfl
theorem gL_eq {n : Nat} {fgs : FGs} {ds : List D} : gL n fgs (.lst ds) ρ c k = (ds.length = n ∧ fgs ds ρ c k) := rfl
theorem gTx_eq {n : Nat} {fgs : FGs} {l : List Nat} : gTx n fgs (.str l) ρ c k = (l.length = n ∧ fgs (l.map fun x => .str [x]) ρ c k) := rfl
theorem gSet_eq {i : Nat} {fi : FX} : gSet i fi d ρ c k = match ρ[i]? with
  | some (Sl.own (.lst xs)) => fi ρ c (fun kd c' => wpO (iD kd) fun z => wpO (ixN xs.length z) fun j => k (ρ.set i (Sl.own (.lst (xs.set j d)))) c') (fun _ _ _ => False)
  | _ => False := rfl
theorem fSeq_eq {f1 f2 : FS} : fSeq f1 f2 P ρ c = f1 { P with nx := f2 P } ρ c := rfl
theorem p_seq {f1 f2 : FS} (q : ∀ N, N = f2 P → f1 { P with nx := N } ρ c) : fSeq f1 f2 P ρ c := q _ rfl
theorem p_while {ft : FT} {fb : FS} (V : Nat → PEnv → Nat → Prop) (h0 : ∃ m, V m ρ c) (hs : ∀ m ρ c, V m ρ c → ft ρ c (fun b c' => cnd b (fun _ => fb { P with nx := fun ρ' c'' => ∃ m', m' < m ∧ V m' ρ' c'', ct := fun ρ' c'' => ∃ m', m' < m ∧ V m' ρ' c'', bk := P.nx } ρ c') (fun _ => P.nx ρ c')) (P.ex ρ)) : fWhile ft fb P ρ c := ⟨V, h0, hs⟩
theorem p_back {N M : PEnv → Nat → Prop} (h : N = M) (q : M ρ c) : N ρ c := by rw [h]; exact q
theorem fNext_eq : fNext P ρ c = P.nx ρ c := rfl
theorem fBrk_eq : fBrk P ρ c = P.bk ρ c := rfl
theorem fCont_eq : fCont P ρ c = P.ct ρ c := rfl
theorem fAsg_eq {f : FX} {fg : FG} : fAsg f fg P ρ c = f ρ c (fun d c' => fg d ρ c' P.nx) (P.ex ρ) := rfl
theorem fOwn_eq {i : Nat} {f : FX} : fOwn i f P ρ c = f ρ c (fun d c' => P.nx (ρ.set i (Sl.own d)) c') (P.ex ρ) := rfl
theorem fDrop_eq {f : FX} : fDrop f P ρ c = f ρ c (fun _ c' => P.nx ρ c') (P.ex ρ) := rfl
theorem fApp_eq {i : Nat} {f : FX} : fApp i f P ρ c = match ρ[i]? with
  | some (Sl.own (.lst xs)) => f ρ c (fun d c' => xs.length < 16777216 ∧ P.nx (ρ.set i (Sl.own (.lst (xs ++ [d])))) c') (P.ex ρ)
  | _ => False := rfl
theorem fIfS_eq {ft : FT} {f1 f2 : FS} : fIfS ft f1 f2 P ρ c = ft ρ c (fun b c' => cnd b (fun _ => f1 P ρ c') (fun _ => f2 P ρ c')) (P.ex ρ) := rfl
theorem fRet_eq {f : FX} : fRet f P ρ c = f ρ c P.rt (P.ex ρ) := rfl
theorem fRetN_eq : fRetN P ρ c = P.rt .non c := rfl
theorem fPar_eq {i j : Nat} {fs : FA} : fPar i j fs P ρ c = fs ρ c (fun ds c' => par2 ds fun d e => P.nx ((ρ.set i (Sl.v d)).set j (Sl.v e)) c') (P.ex ρ) := rfl
theorem fPar3_eq {i j l : Nat} {fs : FA} : fPar3 i j l fs P ρ c = fs ρ c (fun ds c' => par3 ds fun d e u => P.nx (((ρ.set i (Sl.v d)).set j (Sl.v e)).set l (Sl.v u)) c') (P.ex ρ) := rfl
theorem fParO_eq {js : List Nat} {fl : List Bool} {fs : FA} : fParO js fl fs P ρ c = fs ρ c (fun ds c' => ds.length = js.length ∧ P.nx (setP ρ js fl ds) c') (P.ex ρ) := rfl
theorem fAug_eq {i : Nat} {op : Int → Int → Int} {f : FX} : fAug i op f P ρ c = match ρ[i]? with
  | some (Sl.v (.int x)) => f ρ c (fun d c' => wpO (iD d) fun y => P.nx (ρ.set i (Sl.v (.int (op x y)))) c') (P.ex ρ)
  | _ => False := rfl
theorem shr_eq {i : Nat} : shr i ρ = match ρ[i]? with | some (Sl.own d) => ρ.set i (Sl.v d) | _ => ρ := rfl
theorem fShare_eq {i : Nat} {f : FS} : fShare i f P ρ c = f P (shr i ρ) c := rfl
theorem fLrg1_eq {fa : FX} : fLrg1 fa ρ c Q X = fa ρ c (fun d c1 => wpO (iD d) fun j => (-1000000 ≤ j ∧ j ≤ 1000000) ∧ Q (.lst (rgD 0 j.toNat)) c1) X := rfl
theorem fLrg2_eq {fa fb : FX} : fLrg2 fa fb ρ c Q X = fa ρ c (fun d c1 => fb ρ c1 (fun e c2 => wpO (iD d) fun i => wpO (iD e) fun j => (-1000000 ≤ i ∧ i ≤ 1000000 ∧ -1000000 ≤ j ∧ j ≤ 1000000) ∧ Q (.lst (rgD i (j - i).toNat)) c2) X) X := rfl
theorem fRz_eq {x : Str} {fs : FA} : fRz x fs P ρ c = fs ρ c (fun ds c' => one1 ds fun d => P.ex ρ c' x d) (P.ex ρ) := rfl
theorem fFor_eq {fi : FI} {fg : FG} {fb : FS} : fFor fi fg fb P ρ c = fi ρ c (fun ds c' => fLoop fg fb ds P ρ c') (P.ex ρ) := rfl
theorem fTry_eq {x : Str} {oth : List Str} {i : Nat} {fb : FS} {fs : Addr → Addr → FS} : fTry x oth i fb fs P ρ c =
  fb { P with ex := fun ρ' c' y d => (y = x ∧ ∀ a dd, fs a dd { P with nx := fun ρ2 c2 => P.nx (ρ2.set i Sl.no) c2, bk := fun ρ2 c2 => P.bk (ρ2.set i Sl.no) c2, ct := fun ρ2 c2 => P.ct (ρ2.set i Sl.no) c2 } (ρ'.set i (Sl.v (.exc a dd d))) c') ∨ (y ≠ x ∧ y ∈ oth ∧ P.ex ρ' c' y d) } ρ c := rfl
theorem endsP_nx {Q : PQ} {ρ : PEnv} {c : Nat} : (endsP Q X).nx ρ c = Q .non c := rfl
theorem wpO_ite {α : Type} {p : Prop} [Decidable p] {z : α} {Q : α → Prop} : wpO (if p then some z else none) Q = (p ∧ Q z) := propext ⟨fun ⟨y, e, h⟩ => by
  obtain ⟨q, rfl⟩ := ite_some e
  exact ⟨q, h⟩, fun ⟨q, h⟩ => ⟨z, if_pos q, h⟩⟩
theorem gEq2_ii {a b : Int} : gEq2 (.int a) (.int b) = some (.bl (decide (a = b))) := rfl
theorem gEq2_ss {a b : List Nat} : gEq2 (.str a) (.str b) = some (.bl (decide (a = b))) := rfl
theorem gNe2_ii {a b : Int} : gNe2 (.int a) (.int b) = some (.bl (!decide (a = b))) := rfl
theorem gNe2_ss {a b : List Nat} : gNe2 (.str a) (.str b) = some (.bl (!decide (a = b))) := rfl
theorem gI_ii {f : Int → Int → D} {a b : Int} : gI f (.int a) (.int b) = some (f a b) := rfl
section
variable {Pg : Program} {w : World} {K : PySem.W.Frag} {mg : Str → Option Value} {base : Heap} {x : Str} {k : Nat} {ps : List Str} {sp sp' : Sp}
theorem cal_imp (C : Cal Pg w K mg base k x ps sp) (h : ∀ vs H Q E, sp' vs H Q E → sp vs H Q E) : Cal Pg w K mg base k x ps sp' := by
  obtain ⟨f, fd, F, h1, h2, h3⟩ := C.ex
  exact ⟨f, fd, F.imp h, h1, h2, h3⟩
theorem take_pure {spT : Sp} (h : ∀ (p : Addr) (n : Int) (c : Nat) (H : Hp) (Q : VK) (E : XK), Box H p c → c ≤ 100000000 → 0 < n → n < 1073741824 → (∀ r H', 0 ≤ r → r < n → Box H' p (c + 1) → SL.Fr p H H' → Q (.int r) H') → spT [.ref p, .int n] H Q E) :
    ∀ vs H Q E, spOf K mg FTake vs H Q E → spT vs H Q E := by
  rintro vs H Q E ⟨pb, o, ds, c, Q', X, ok, dn, b, ⟨n, rfl, h1, h2, h3, q⟩, hq, _⟩
  cases dn with
  | cons d1 r => cases r with
    | cons d2 r => cases r with
      | nil =>
        cases d2
        cases d1 with
        | @box p e =>
          refine h p n c H Q E (b p e) h3 h1 h2 fun r H' r0 r1 b' f => ?_
          obtain ⟨k, rfl⟩ := Int.eq_ofNat_of_zero_le r0
          refine hq _ (c + 1) _ H' (q k r1) (fun b u nb g => f b u g (fun z => nb (by rw [z]; exact e))) (fun p' e' => ?_) (.int _)
          have e : pb = some p := e
          have e' : pb = some p' := e'
          rw [e] at e'
          cases e'
          exact b'
end
theorem tk_of {n : Int} {N : Nat} (e : n = (N : Int)) (hN : 0 < N ∧ N < 1073741824 ∧ c ≤ 100000000) (q : ∀ k : Nat, k < N → Q (.int k) (c + 1)) : FTake [.box, .int n] c Q X := by
  subst e
  exact ⟨_, rfl, by omega, by omega, hN.2.2, fun k hk => q k (by omega)⟩
section
variable {a b i j n : Int} {l m : List Nat} {xs ys : List D} {x y d : D} {K : D → Prop} {lo hi : Option Int} {k : Nat} {v : D} {ch : Nat}
theorem gAdd_ii : gAdd (.int a) (.int b) = some (.int (a + b)) := rfl
theorem gAdd_ss : wpO (gAdd (.str l) (.str m)) K = (l.length + m.length ≤ 16777216 ∧ K (.str (l ++ m))) := wpO_ite
theorem gAdd_tt : wpO (gAdd (.tup xs) (.tup ys)) K = (xs.length + ys.length ≤ 16777216 ∧ K (.tup (xs ++ ys))) := wpO_ite
theorem gAdd_ll : wpO (gAdd (.lst xs) (.lst ys)) K = (xs.length + ys.length ≤ 16777216 ∧ K (.lst (xs ++ ys))) := wpO_ite
theorem gAddL_ll : wpO (gAddL (.lst xs) (.lst ys)) K = (xs.length + ys.length ≤ 16777216 ∧ K (.lst (xs ++ ys))) := wpO_ite
theorem gLen_s : wpO (gLen [.str l]) K = (l.length ≤ 16777216 ∧ K (.int l.length)) := wpO_ite
theorem gLen_l : gLen [.lst xs] = some (.int xs.length) := rfl
theorem gLen_t : gLen [.tup xs] = some (.int xs.length) := rfl
theorem gSl_s : wpO (gSl (.str l) lo hi) K = (l.length ≤ 16777216 ∧ K (.str (cutL l lo hi))) := wpO_ite
theorem gSl_l : gSl (.lst xs) lo hi = some (.lst (cutL xs lo hi)) := rfl
theorem gSl_t : gSl (.tup xs) lo hi = some (.tup (cutL xs lo hi)) := rfl
theorem gSlL_l : gSlL (.lst xs) lo hi = some (.lst (cutL xs lo hi)) := rfl
theorem gMul_ii : wpO (gMul (.int a) (.int b)) K = (CMul a b ∧ K (.int (a * b))) := wpO_ite
theorem gMul_si : wpO (gMul (.str l) (.int i)) K = ((i ≤ 1000000 ∧ -1000000 ≤ i ∧ l.length ≤ 1000000 ∧ l.length * i.toNat ≤ 16777216) ∧ K (.str (List.replicate i.toNat l).flatten)) := wpO_ite
theorem gMul_ti : wpO (gMul (.tup xs) (.int i)) K = ((1 ≤ i ∧ i ≤ 1000 ∧ 0 < xs.length ∧ xs.length ≤ 1000) ∧ K (.tup (List.replicate i.toNat xs).flatten)) := wpO_ite
theorem gMul_li : wpO (gMul (.lst xs) (.int i)) K = ((0 ≤ i ∧ i ≤ 1000000 ∧ xs.length * i.toNat ≤ 16777216) ∧ K (.lst (List.replicate i.toNat xs).flatten)) := wpO_ite
theorem gRep_li : wpO (gRep (.lst xs) (.int i)) K = ((0 ≤ i ∧ i ≤ 1000000 ∧ xs.length * i.toNat ≤ 16777216) ∧ K (.lst (List.replicate i.toNat xs).flatten)) := wpO_ite
theorem gMod_ii : wpO (gMod (.int a) (.int b)) K = (0 < b ∧ K (.int (a % b))) := wpO_ite
theorem gDiv_ii : wpO (gDiv (.int a) (.int b)) K = ((0 < b ∧ b < 1073741824) ∧ K (.int (a / b))) := wpO_ite
theorem gPow_ii : wpO (gPow (.int a) (.int b)) K = ((0 ≤ b ∧ b ≤ 1000000 ∧ a.natAbs < 2 ^ 64) ∧ K (.int (a ^ b.toNat))) := wpO_ite
theorem gRev_s : wpO (gRev (.str l)) K = (l.length ≤ 16777216 ∧ K (.str l.reverse)) := wpO_ite
theorem gRev_t : gRev (.tup xs) = some (.tup xs.reverse) := rfl
theorem gRevL_l : gRevL (.lst xs) = some (.lst xs.reverse) := rfl
theorem gNeg_i : gNeg (.int i) = some (.int (-i)) := rfl
theorem gIs_n : gIs d .non = some (.bl (isN d)) := rfl
theorem gIsN_n : gIsN d .non = some (.bl (!isN d)) := rfl
theorem isN_non : isN (.non) = true := rfl
theorem isN_bl {b : Bool} : isN (.bl b) = false := rfl
theorem isN_int : isN (.int i) = false := rfl
theorem isN_str : isN (.str l) = false := rfl
theorem isN_lst : isN (.lst xs) = false := rfl
theorem isN_tup : isN (.tup xs) = false := rfl
theorem isN_dic {kv : List (D × D)} : isN (.dic kv) = false := rfl
theorem isN_obj {cc : Str} {fs : List (Str × D)} : isN (.obj cc fs) = false := rfl
theorem gAbs_i : gAbs [.int i] = some (.int (if i < 0 then -i else i)) := rfl
theorem gInt_i : gInt [.int i] = some (.int i) := rfl
theorem gInt_b {b : Bool} : gInt [.bl b] = some (.int (if b then 1 else 0)) := rfl
theorem gMin2_i : gMin2 [.int i, .int j] = some (.int (if j < i then j else i)) := rfl
theorem gMax2_i : gMax2 [.int i, .int j] = some (.int (if j > i then j else i)) := rfl
theorem gMin3_i : gMin3 [.int i, .int j, .int n] = some (.int (min (min i j) n)) := rfl
theorem gIn_s : gIn (.str [ch]) (.str l) = some (.bl (decide (ch ∈ l))) := rfl
theorem gIn_l : wpO (gIn x (.lst ys)) K = ((okE 60 x && ys.all (okE 60)) = true ∧ K (.bl (inD x ys))) := wpO_ite
theorem gIn_t : wpO (gIn x (.tup ys)) K = ((okE 60 x && ys.all (okE 60)) = true ∧ K (.bl (inD x ys))) := wpO_ite
theorem gNotIn_l : wpO (gNotIn x (.lst ys)) K = ((okE 60 x && ys.all (okE 60)) = true ∧ K (.bl (!inD x ys))) := wpO_ite
theorem gNotIn_t : wpO (gNotIn x (.tup ys)) K = ((okE 60 x && ys.all (okE 60)) = true ∧ K (.bl (!inD x ys))) := wpO_ite
theorem gEq_of : wpO (gEq x y) K = ((okE 60 x && okE 60 y) = true ∧ K (.bl (eqD x y))) := wpO_ite
theorem gNe_of : wpO (gNe x y) K = ((okE 60 x && okE 60 y) = true ∧ K (.bl (!eqD x y))) := wpO_ite
theorem gEq2_non_non : gEq2 (.non) (.non) = gEq (.non) (.non) := rfl
theorem gNe2_non_non : gNe2 (.non) (.non) = gNe (.non) (.non) := rfl
theorem gEq2_non_bl {b' : Bool} : gEq2 (.non) (.bl b') = gEq (.non) (.bl b') := rfl
theorem gNe2_non_bl {b' : Bool} : gNe2 (.non) (.bl b') = gNe (.non) (.bl b') := rfl
theorem gEq2_non_int : gEq2 (.non) (.int j) = gEq (.non) (.int j) := rfl
theorem gNe2_non_int : gNe2 (.non) (.int j) = gNe (.non) (.int j) := rfl
theorem gEq2_non_str : gEq2 (.non) (.str m) = gEq (.non) (.str m) := rfl
theorem gNe2_non_str : gNe2 (.non) (.str m) = gNe (.non) (.str m) := rfl
theorem gEq2_non_lst : gEq2 (.non) (.lst ys) = gEq (.non) (.lst ys) := rfl
theorem gNe2_non_lst : gNe2 (.non) (.lst ys) = gNe (.non) (.lst ys) := rfl
theorem gEq2_non_tup : gEq2 (.non) (.tup ys) = gEq (.non) (.tup ys) := rfl
theorem gNe2_non_tup : gNe2 (.non) (.tup ys) = gNe (.non) (.tup ys) := rfl
theorem gEq2_bl_non {b : Bool} : gEq2 (.bl b) (.non) = gEq (.bl b) (.non) := rfl
theorem gNe2_bl_non {b : Bool} : gNe2 (.bl b) (.non) = gNe (.bl b) (.non) := rfl
theorem gEq2_bl_bl {b : Bool} {b' : Bool} : gEq2 (.bl b) (.bl b') = gEq (.bl b) (.bl b') := rfl
theorem gNe2_bl_bl {b : Bool} {b' : Bool} : gNe2 (.bl b) (.bl b') = gNe (.bl b) (.bl b') := rfl
theorem gEq2_bl_int {b : Bool} : gEq2 (.bl b) (.int j) = gEq (.bl b) (.int j) := rfl
theorem gNe2_bl_int {b : Bool} : gNe2 (.bl b) (.int j) = gNe (.bl b) (.int j) := rfl
theorem gEq2_bl_str {b : Bool} : gEq2 (.bl b) (.str m) = gEq (.bl b) (.str m) := rfl
theorem gNe2_bl_str {b : Bool} : gNe2 (.bl b) (.str m) = gNe (.bl b) (.str m) := rfl
theorem gEq2_bl_lst {b : Bool} : gEq2 (.bl b) (.lst ys) = gEq (.bl b) (.lst ys) := rfl
theorem gNe2_bl_lst {b : Bool} : gNe2 (.bl b) (.lst ys) = gNe (.bl b) (.lst ys) := rfl
theorem gEq2_bl_tup {b : Bool} : gEq2 (.bl b) (.tup ys) = gEq (.bl b) (.tup ys) := rfl
theorem gNe2_bl_tup {b : Bool} : gNe2 (.bl b) (.tup ys) = gNe (.bl b) (.tup ys) := rfl
theorem gEq2_int_non : gEq2 (.int i) (.non) = gEq (.int i) (.non) := rfl
theorem gNe2_int_non : gNe2 (.int i) (.non) = gNe (.int i) (.non) := rfl
theorem gEq2_int_bl {b' : Bool} : gEq2 (.int i) (.bl b') = gEq (.int i) (.bl b') := rfl
theorem gNe2_int_bl {b' : Bool} : gNe2 (.int i) (.bl b') = gNe (.int i) (.bl b') := rfl
theorem gEq2_int_str : gEq2 (.int i) (.str m) = gEq (.int i) (.str m) := rfl
theorem gNe2_int_str : gNe2 (.int i) (.str m) = gNe (.int i) (.str m) := rfl
theorem gEq2_int_lst : gEq2 (.int i) (.lst ys) = gEq (.int i) (.lst ys) := rfl
theorem gNe2_int_lst : gNe2 (.int i) (.lst ys) = gNe (.int i) (.lst ys) := rfl
theorem gEq2_int_tup : gEq2 (.int i) (.tup ys) = gEq (.int i) (.tup ys) := rfl
theorem gNe2_int_tup : gNe2 (.int i) (.tup ys) = gNe (.int i) (.tup ys) := rfl
theorem gEq2_str_non : gEq2 (.str l) (.non) = gEq (.str l) (.non) := rfl
theorem gNe2_str_non : gNe2 (.str l) (.non) = gNe (.str l) (.non) := rfl
theorem gEq2_str_bl {b' : Bool} : gEq2 (.str l) (.bl b') = gEq (.str l) (.bl b') := rfl
theorem gNe2_str_bl {b' : Bool} : gNe2 (.str l) (.bl b') = gNe (.str l) (.bl b') := rfl
theorem gEq2_str_int : gEq2 (.str l) (.int j) = gEq (.str l) (.int j) := rfl
theorem gNe2_str_int : gNe2 (.str l) (.int j) = gNe (.str l) (.int j) := rfl
theorem gEq2_str_lst : gEq2 (.str l) (.lst ys) = gEq (.str l) (.lst ys) := rfl
theorem gNe2_str_lst : gNe2 (.str l) (.lst ys) = gNe (.str l) (.lst ys) := rfl
theorem gEq2_str_tup : gEq2 (.str l) (.tup ys) = gEq (.str l) (.tup ys) := rfl
theorem gNe2_str_tup : gNe2 (.str l) (.tup ys) = gNe (.str l) (.tup ys) := rfl
theorem gEq2_lst_non : gEq2 (.lst xs) (.non) = gEq (.lst xs) (.non) := rfl
theorem gNe2_lst_non : gNe2 (.lst xs) (.non) = gNe (.lst xs) (.non) := rfl
theorem gEq2_lst_bl {b' : Bool} : gEq2 (.lst xs) (.bl b') = gEq (.lst xs) (.bl b') := rfl
theorem gNe2_lst_bl {b' : Bool} : gNe2 (.lst xs) (.bl b') = gNe (.lst xs) (.bl b') := rfl
theorem gEq2_lst_int : gEq2 (.lst xs) (.int j) = gEq (.lst xs) (.int j) := rfl
theorem gNe2_lst_int : gNe2 (.lst xs) (.int j) = gNe (.lst xs) (.int j) := rfl
theorem gEq2_lst_str : gEq2 (.lst xs) (.str m) = gEq (.lst xs) (.str m) := rfl
theorem gNe2_lst_str : gNe2 (.lst xs) (.str m) = gNe (.lst xs) (.str m) := rfl
theorem gEq2_lst_lst : gEq2 (.lst xs) (.lst ys) = gEq (.lst xs) (.lst ys) := rfl
theorem gNe2_lst_lst : gNe2 (.lst xs) (.lst ys) = gNe (.lst xs) (.lst ys) := rfl
theorem gEq2_lst_tup : gEq2 (.lst xs) (.tup ys) = gEq (.lst xs) (.tup ys) := rfl
theorem gNe2_lst_tup : gNe2 (.lst xs) (.tup ys) = gNe (.lst xs) (.tup ys) := rfl
theorem gEq2_tup_non : gEq2 (.tup xs) (.non) = gEq (.tup xs) (.non) := rfl
theorem gNe2_tup_non : gNe2 (.tup xs) (.non) = gNe (.tup xs) (.non) := rfl
theorem gEq2_tup_bl {b' : Bool} : gEq2 (.tup xs) (.bl b') = gEq (.tup xs) (.bl b') := rfl
theorem gNe2_tup_bl {b' : Bool} : gNe2 (.tup xs) (.bl b') = gNe (.tup xs) (.bl b') := rfl
theorem gEq2_tup_int : gEq2 (.tup xs) (.int j) = gEq (.tup xs) (.int j) := rfl
theorem gNe2_tup_int : gNe2 (.tup xs) (.int j) = gNe (.tup xs) (.int j) := rfl
theorem gEq2_tup_str : gEq2 (.tup xs) (.str m) = gEq (.tup xs) (.str m) := rfl
theorem gNe2_tup_str : gNe2 (.tup xs) (.str m) = gNe (.tup xs) (.str m) := rfl
theorem gEq2_tup_lst : gEq2 (.tup xs) (.lst ys) = gEq (.tup xs) (.lst ys) := rfl
theorem gNe2_tup_lst : gNe2 (.tup xs) (.lst ys) = gNe (.tup xs) (.lst ys) := rfl
theorem gEq2_tup_tup : gEq2 (.tup xs) (.tup ys) = gEq (.tup xs) (.tup ys) := rfl
theorem gNe2_tup_tup : gNe2 (.tup xs) (.tup ys) = gNe (.tup xs) (.tup ys) := rfl
theorem nk_non : (kD' (.non) ≠ "") = True := by simp [kD']
theorem isK_non_int : isK "int" (.non) = false := rfl
theorem isK_non_bool : isK "bool" (.non) = false := rfl
theorem isK_non_str : isK "str" (.non) = false := rfl
theorem isK_non_list : isK "list" (.non) = false := rfl
theorem isK_non_tuple : isK "tuple" (.non) = false := rfl
theorem nk_bl {b : Bool} : (kD' (.bl b) ≠ "") = True := by simp [kD']
theorem isK_bl_int {b : Bool} : isK "int" (.bl b) = true := rfl
theorem isK_bl_bool {b : Bool} : isK "bool" (.bl b) = true := rfl
theorem isK_bl_str {b : Bool} : isK "str" (.bl b) = false := rfl
theorem isK_bl_list {b : Bool} : isK "list" (.bl b) = false := rfl
theorem isK_bl_tuple {b : Bool} : isK "tuple" (.bl b) = false := rfl
theorem nk_int : (kD' (.int i) ≠ "") = True := by simp [kD']
theorem isK_int_int : isK "int" (.int i) = true := rfl
theorem isK_int_bool : isK "bool" (.int i) = false := rfl
theorem isK_int_str : isK "str" (.int i) = false := rfl
theorem isK_int_list : isK "list" (.int i) = false := rfl
theorem isK_int_tuple : isK "tuple" (.int i) = false := rfl
theorem nk_str : (kD' (.str l) ≠ "") = True := by simp [kD']
theorem isK_str_int : isK "int" (.str l) = false := rfl
theorem isK_str_bool : isK "bool" (.str l) = false := rfl
theorem isK_str_str : isK "str" (.str l) = true := rfl
theorem isK_str_list : isK "list" (.str l) = false := rfl
theorem isK_str_tuple : isK "tuple" (.str l) = false := rfl
theorem nk_lst : (kD' (.lst xs) ≠ "") = True := by simp [kD']
theorem isK_lst_int : isK "int" (.lst xs) = false := rfl
theorem isK_lst_bool : isK "bool" (.lst xs) = false := rfl
theorem isK_lst_str : isK "str" (.lst xs) = false := rfl
theorem isK_lst_list : isK "list" (.lst xs) = true := rfl
theorem isK_lst_tuple : isK "tuple" (.lst xs) = false := rfl
theorem nk_tup : (kD' (.tup xs) ≠ "") = True := by simp [kD']
theorem isK_tup_int : isK "int" (.tup xs) = false := rfl
theorem isK_tup_bool : isK "bool" (.tup xs) = false := rfl
theorem isK_tup_str : isK "str" (.tup xs) = false := rfl
theorem isK_tup_list : isK "list" (.tup xs) = false := rfl
theorem isK_tup_tuple : isK "tuple" (.tup xs) = true := rfl
theorem nk_dic {kv : List (D × D)} : (kD' (.dic kv) ≠ "") = True := by simp [kD']
theorem isK_dic_int {kv : List (D × D)} : isK "int" (.dic kv) = false := rfl
theorem isK_dic_bool {kv : List (D × D)} : isK "bool" (.dic kv) = false := rfl
theorem isK_dic_str {kv : List (D × D)} : isK "str" (.dic kv) = false := rfl
theorem isK_dic_list {kv : List (D × D)} : isK "list" (.dic kv) = false := rfl
theorem isK_dic_tuple {kv : List (D × D)} : isK "tuple" (.dic kv) = false := rfl
theorem gIx_n (h : xs[k]? = some v) : gIx (.lst xs) (.int (k : Nat)) = some v := atI_n h
theorem gIxt_n (h : xs[k]? = some v) : gIx (.tup xs) (.int (k : Nat)) = some v := atI_n h
theorem gIx_a (h : atI xs i = some v) : gIx (.lst xs) (.int i) = some v := h
theorem gIxt_a (h : atI xs i = some v) : gIx (.tup xs) (.int i) = some v := h
theorem gIxs_a (h : atI l i = some ch) : wpO (gIx (.str l) (.int i)) K = (l.length ≤ 16777216 ∧ K (.str [ch])) := by
  have e : gIx (.str l) (.int i) = if l.length ≤ 16777216 then some (D.str [ch]) else none := by
    show (if l.length ≤ 16777216 then (atI l i).map (fun c => D.str [c]) else none) = _
    rw [h]
    rfl
  rw [e, wpO_ite]
theorem cutL_to {α : Type} {l : List α} {k : Nat} : cutL l none (some (k : Int)) = l.take k := by
  unfold cutL
  rw [part_to l (by omega), Int.toNat_natCast]
theorem cutL_from {α : Type} {l : List α} {k : Nat} : cutL l (some (k : Int)) none = l.drop k := by
  unfold cutL
  rw [part_from l (by omega), Int.toNat_natCast]
theorem cutL_to1 {α : Type} {l : List α} {k : Nat} : cutL l none (some ((k : Int) + 1)) = l.take (k + 1) := cutL_to (k := k + 1)
theorem cutL_from1 {α : Type} {l : List α} {k : Nat} : cutL l (some ((k : Int) + 1)) none = l.drop (k + 1) := cutL_from (k := k + 1)
theorem cutL_f1 {α : Type} {l : List α} : cutL l (some 1) none = l.drop 1 := cutL_from (k := 1)
theorem cutL_t1 {α : Type} {l : List α} : cutL l none (some 1) = l.take 1 := cutL_to (k := 1)
theorem cutL_t2 {α : Type} {l : List α} : cutL l none (some 2) = l.take 2 := cutL_to (k := 2)
theorem cutL_to' {α : Type} {l : List α} (h : 0 ≤ i) : cutL l none (some i) = l.take i.toNat := by
  unfold cutL
  rw [part_to l h]
theorem cutL_from' {α : Type} {l : List α} (h : 0 ≤ i) : cutL l (some i) none = l.drop i.toNat := by
  unfold cutL
  rw [part_from l h]
theorem cutL_no {α : Type} {l : List α} : cutL l none none = l := by
  unfold cutL
  rw [part_all l]
theorem gJoin_of {ls : List (List Nat)} (h : strsD xs = some ls) (hz : ls.flatten.length ≤ 16777216) : gJoin0 (.str []) (.lst xs) = some (.str ls.flatten) := by
  show (match strsD xs with | some ls => if ls.flatten.length ≤ 16777216 then some (D.str ls.flatten) else none | none => none) = _
  rw [h]
  exact if_pos hz
theorem nk_lsA {aa : Addr} : (kD' (.lsA aa xs) ≠ "") = True := by simp [kD']
theorem isK_lsA_int {aa : Addr} : isK "int" (.lsA aa xs) = false := rfl
theorem isK_lsA_bool {aa : Addr} : isK "bool" (.lsA aa xs) = false := rfl
theorem isK_lsA_str {aa : Addr} : isK "str" (.lsA aa xs) = false := rfl
theorem isK_lsA_list {aa : Addr} : isK "list" (.lsA aa xs) = true := rfl
theorem isK_lsA_tuple {aa : Addr} : isK "tuple" (.lsA aa xs) = false := rfl
theorem iD_i : iD (.int i) = some i := rfl
theorem bD_b {b : Bool} : bD (.bl b) = some b := rfl
theorem isSt_s : isSt (.str l) = true := rfl
theorem lD_l : lD (.lst xs) = some xs := rfl
theorem tDs_t : tDs (.tup xs) = some xs := rfl
theorem sDs_s : sDs (.str l) = some (l.map fun c => .str [c]) := rfl
end
end
end Pu
set_option Elab.async false
set_option linter.all false
set_option maxRecDepth 100000
set_option maxHeartbeats 4000000
/-! Pu8: enumerate; comprehensions by functions; calls from where heaps are spoken of. -/
namespace Pu
open PySem PySem.Spec PyProof.Rows L2 SL
section
variable {W : Wd} {E : WX} {tas : TA} {fas : FA}
def enD (ds : List D) : List D := ds.zipIdx.map fun p => .tup [.int (p.2 : Nat), p.1]
theorem enD_len (ds : List D) : (enD ds).length = ds.length := by unfold enD; rw [List.length_map, List.length_zipIdx]
theorem enD_at {ds : List D} {i : Nat} {d : D} (h : (enD ds)[i]? = some d) : ∃ e, ds[i]? = some e ∧ d = .tup [.int (i : Nat), e] := by
  unfold enD at h
  rw [List.getElem?_map, List.getElem?_zipIdx] at h
  cases q : ds[i]? with
  | none => rw [q] at h; cases h
  | some e =>
    rw [q] at h
    have := Option.some.inj h
    refine ⟨e, rfl, ?_⟩
    rw [← this]
    simp
def fEnS (fs : FA) : FI := fun ρ c Q X => fs ρ c (fun ds c' => match ds with | [.str l] => Q (enD (l.map fun c => .str [c])) c' | _ => False) X
theorem li_enumS (ha : LA W E tas fas) : LI W E (iEnumS tas) (fEnS fas) := fun B o H σ ρ c R Q' X Re x hf k => by
  refine ha B o H σ ρ c _ _ X Re x hf fun ds c1 vs H1 q s b dn => ?_
  split at q
  · rename_i l
    cases dn with
    | cons d1 r => cases r with
      | nil =>
        cases d1
        refine ⟨tx l, rfl, k _ c1 _ H1 q s b ?_⟩
        have e0 : (enD (l.map fun c => D.str [c])).length = (tx l).cps.size := by rw [enD_len, List.length_map]; simp
        have w : Walk (Ites (tx l)) (enD (l.map fun c => D.str [c])).length (fun _ => True) (Ites (tx l)).yld := by
          rw [e0]
          exact ⟨fun i H hi _ => hi, fun H _ => rfl, fun i H x H' hi _ y => y⟩
        refine ⟨_, _, w, fun H' sm => trivial, fun i d x H' H'' e sm y => ?_⟩
        obtain ⟨T, ch, rfl, hT, rfl, hc⟩ := y
        obtain ⟨d', e', rfl⟩ := enD_at e
        rw [List.getElem?_map] at e'
        have hl : l[i]? = some ch := by simpa using hc
        rw [hl] at e'
        cases e'
        exact ⟨same_new hT, fun M' sm' vis => .tup (SqT.of (vis T _ hT upd_same)) (.cons (.int _) (.cons (.str [ch]) .nil))⟩
  · exact q.elim
def fEnL (fs : FA) : FI := fun ρ c Q X => fs ρ c (fun ds c' => match ds with | [.lst xs] => Q (enD xs) c' | _ => False) X
def en1 (ds : List D) (K : List D → Prop) : Prop := match ds with | [.str l] => K (l.map fun c => .str [c]) | [.lst xs] => K xs | _ => False
theorem en1_s {l : List Nat} {K : List D → Prop} : en1 [.str l] K = K (l.map fun c => .str [c]) := rfl
theorem en1_l {xs : List D} {K : List D → Prop} : en1 [.lst xs] K = K xs := rfl
theorem fEnS_eq {fs : FA} {ρ : PEnv} {c : Nat} {Q : List D → Nat → Prop} {X : PXc} : fEnS fs ρ c Q X = fs ρ c (fun ds c' => match ds with | [.str l] => Q (enD (l.map fun c => .str [c])) c' | _ => False) X := rfl
end
/-! == by forms -/
def eqDs (xs ys : List D) : Bool := PyData.eqvAll (toPs xs) (toPs ys)
section
variable {a b : Int} {l m : List Nat} {xs ys : List D} {x y : D} {p q : Bool}
theorem int_beq (a b : Int) : (a == b) = decide (a = b) := by by_cases h : a = b <;> simp [h]
theorem eqD_int_int : eqD (.int a) (.int b) = decide (a = b) := by
  show PyData.eqv (.int a) (.int b) = _
  rw [PyData.eqv]
  exact int_beq a b
theorem eqD_str_str : eqD (.str l) (.str m) = decide (l = m) := by
  show PyData.eqv (.str (tx l)) (.str (tx m)) = _
  rw [PyData.eqv]
  by_cases h : l = m
  · subst h; simp
  · rw [decide_eq_false h]
    exact beq_eq_false_iff_ne.mpr fun e => h (tx_inj e)
theorem eqD_tup_tup : eqD (.tup xs) (.tup ys) = eqDs xs ys := by
  show PyData.eqv (.tuple _) (.tuple _) = _
  rw [PyData.eqv]
  rfl
theorem eqD_lst_lst : eqD (.lst xs) (.lst ys) = eqDs xs ys := by
  show PyData.eqv (.list _) (.list _) = _
  rw [PyData.eqv]
  rfl
theorem eqD_bl_bl : eqD (.bl p) (.bl q) = (p == q) := by
  show PyData.eqv (.bool p) (.bool q) = _
  rw [PyData.eqv]
theorem eqDs_cc : eqDs (x :: xs) (y :: ys) = (eqD x y && eqDs xs ys) := by
  unfold eqDs eqD
  rw [toPs, toPs, PyData.eqvAll]
theorem eqDs_nn : eqDs [] [] = true := by unfold eqDs; rw [toPs, PyData.eqvAll]
theorem eqDs_nc : eqDs [] (y :: ys) = false := by unfold eqDs; rw [toPs, toPs, PyData.eqvAll]
theorem eqDs_cn : eqDs (x :: xs) [] = false := by unfold eqDs; rw [toPs, toPs, PyData.eqvAll]

theorem eqD_non_non : eqD (.non) (.non) = true := by
  show PyData.eqv (.none) (.none) = _
  rw [PyData.eqv]
theorem eqD_non_bl : eqD (.non) (.bl q) = false := by
  show PyData.eqv (.none) (.bool _) = _
  rw [PyData.eqv]
theorem eqD_non_int : eqD (.non) (.int b) = false := by
  show PyData.eqv (.none) (.int _) = _
  rw [PyData.eqv]
theorem eqD_non_str : eqD (.non) (.str m) = false := by
  show PyData.eqv (.none) (.str _) = _
  rw [PyData.eqv]
theorem eqD_non_lst : eqD (.non) (.lst ys) = false := by
  show PyData.eqv (.none) (.list _) = _
  rw [PyData.eqv]
theorem eqD_non_tup : eqD (.non) (.tup ys) = false := by
  show PyData.eqv (.none) (.tuple _) = _
  rw [PyData.eqv]
theorem eqD_bl_non : eqD (.bl p) (.non) = false := by
  show PyData.eqv (.bool _) (.none) = _
  rw [PyData.eqv]
theorem eqD_bl_str : eqD (.bl p) (.str m) = false := by
  show PyData.eqv (.bool _) (.str _) = _
  rw [PyData.eqv]
theorem eqD_bl_lst : eqD (.bl p) (.lst ys) = false := by
  show PyData.eqv (.bool _) (.list _) = _
  rw [PyData.eqv]
theorem eqD_bl_tup : eqD (.bl p) (.tup ys) = false := by
  show PyData.eqv (.bool _) (.tuple _) = _
  rw [PyData.eqv]
theorem eqD_int_non : eqD (.int a) (.non) = false := by
  show PyData.eqv (.int _) (.none) = _
  rw [PyData.eqv]
theorem eqD_int_str : eqD (.int a) (.str m) = false := by
  show PyData.eqv (.int _) (.str _) = _
  rw [PyData.eqv]
theorem eqD_int_lst : eqD (.int a) (.lst ys) = false := by
  show PyData.eqv (.int _) (.list _) = _
  rw [PyData.eqv]
theorem eqD_int_tup : eqD (.int a) (.tup ys) = false := by
  show PyData.eqv (.int _) (.tuple _) = _
  rw [PyData.eqv]
theorem eqD_str_non : eqD (.str l) (.non) = false := by
  show PyData.eqv (.str _) (.none) = _
  rw [PyData.eqv]
theorem eqD_str_bl : eqD (.str l) (.bl q) = false := by
  show PyData.eqv (.str _) (.bool _) = _
  rw [PyData.eqv]
theorem eqD_str_int : eqD (.str l) (.int b) = false := by
  show PyData.eqv (.str _) (.int _) = _
  rw [PyData.eqv]
theorem eqD_str_lst : eqD (.str l) (.lst ys) = false := by
  show PyData.eqv (.str _) (.list _) = _
  rw [PyData.eqv]
theorem eqD_str_tup : eqD (.str l) (.tup ys) = false := by
  show PyData.eqv (.str _) (.tuple _) = _
  rw [PyData.eqv]
theorem eqD_lst_non : eqD (.lst xs) (.non) = false := by
  show PyData.eqv (.list _) (.none) = _
  rw [PyData.eqv]
theorem eqD_lst_bl : eqD (.lst xs) (.bl q) = false := by
  show PyData.eqv (.list _) (.bool _) = _
  rw [PyData.eqv]
theorem eqD_lst_int : eqD (.lst xs) (.int b) = false := by
  show PyData.eqv (.list _) (.int _) = _
  rw [PyData.eqv]
theorem eqD_lst_str : eqD (.lst xs) (.str m) = false := by
  show PyData.eqv (.list _) (.str _) = _
  rw [PyData.eqv]
theorem eqD_lst_tup : eqD (.lst xs) (.tup ys) = false := by
  show PyData.eqv (.list _) (.tuple _) = _
  rw [PyData.eqv]
theorem eqD_tup_non : eqD (.tup xs) (.non) = false := by
  show PyData.eqv (.tuple _) (.none) = _
  rw [PyData.eqv]
theorem eqD_tup_bl : eqD (.tup xs) (.bl q) = false := by
  show PyData.eqv (.tuple _) (.bool _) = _
  rw [PyData.eqv]
theorem eqD_tup_int : eqD (.tup xs) (.int b) = false := by
  show PyData.eqv (.tuple _) (.int _) = _
  rw [PyData.eqv]
theorem eqD_tup_str : eqD (.tup xs) (.str m) = false := by
  show PyData.eqv (.tuple _) (.str _) = _
  rw [PyData.eqv]
theorem eqD_tup_lst : eqD (.tup xs) (.lst ys) = false := by
  show PyData.eqv (.tuple _) (.list _) = _
  rw [PyData.eqv]
theorem gEq2_any (hx : okE 60 x = true) (hy : okE 60 y = true) : gEq2 x y = some (.bl (eqD x y)) := by
  unfold gEq2
  split
  · rw [eqD_int_int]
  · rw [eqD_str_str]
  · unfold gEq
    rw [if_pos (by rw [hx, hy]; rfl)]
theorem gNe2_any (hx : okE 60 x = true) (hy : okE 60 y = true) : gNe2 x y = some (.bl (!eqD x y)) := by
  unfold gNe2
  split
  · rw [eqD_int_int]
  · rw [eqD_str_str]
  · unfold gNe
    rw [if_pos (by rw [hx, hy]; rfl)]
theorem inD_nil : inD x [] = false := rfl
theorem inD_cons : inD x (y :: ys) = (eqD y x || inD x ys) := rfl
end
section
variable {fg : FG} {fe : FX} {ft : FT} {ds : List D} {ρ : PEnv} {c : Nat} {Q : PQ}
theorem take_mapD {f : D → D} {i : Nat} {d : D} (h : ds[i]? = some d) : (ds.take (i + 1)).map f = (ds.take i).map f ++ [f d] := by
  rw [take_more h, List.map_append]
  rfl
/-- [f x for x in xs] -/
theorem lc_fun (f : D → D) (hz : ds.length ≤ 16777216) (h : ∀ (i : Nat) (d : D) (K : PQ), ds[i]? = some d → K (f d) c → fg d ρ c (fun ρ' c1 => fe ρ' c1 K (fun _ _ _ => False))) (q : Q (.lst (ds.map f)) c) : lcGo fg fYes fe ρ ds c Q := by
  refine ⟨fun i acc c' => acc = (ds.take i).map f ∧ c' = c, ⟨rfl, rfl⟩, ?_, ?_⟩
  · rintro i d acc c' hd ⟨rfl, rfl⟩
    have hi := (List.getElem?_eq_some_iff.mp hd).1
    refine h i d _ hd ⟨?_, ?_, rfl⟩
    · rw [List.length_map, List.length_take]; omega
    · rw [take_mapD hd]
  · rintro acc c' ⟨rfl, rfl⟩
    rw [List.take_length]
    exact q
/-- [f x for x in xs if p x] -/
theorem lc_fil (p : D → Bool) (f : D → D) (hz : ds.length ≤ 16777216)
    (h : ∀ (i : Nat) (d : D) (K1 : PQ) (K2 : Nat → Prop), ds[i]? = some d → (p d = true → K1 (f d) c) → (p d = false → K2 c) → fg d ρ c (fun ρ' c1 => ft ρ' c1 (fun b c2 => cnd b (fun _ => fe ρ' c2 K1 (fun _ _ _ => False)) (fun _ => K2 c2)) (fun _ _ _ => False)))
    (q : Q (.lst ((ds.filter p).map f)) c) : lcGo fg ft fe ρ ds c Q := by
  refine ⟨fun i acc c' => acc = ((ds.take i).filter p).map f ∧ c' = c, ⟨rfl, rfl⟩, ?_, ?_⟩
  · rintro i d acc c' hd ⟨rfl, rfl⟩
    have hi := (List.getElem?_eq_some_iff.mp hd).1
    have hl : (((ds.take i).filter p).map f).length < 16777216 := by
      have := List.length_filter_le p (ds.take i)
      rw [List.length_map]
      rw [List.length_take] at this
      omega
    refine h i d (fun y c3 => (((ds.take i).filter p).map f).length < 16777216 ∧ ((ds.take i).filter p).map f ++ [y] = ((ds.take (i + 1)).filter p).map f ∧ c3 = c') (fun c2 => ((ds.take i).filter p).map f = ((ds.take (i + 1)).filter p).map f ∧ c2 = c') hd (fun e => ⟨hl, ?_, rfl⟩) (fun e => ⟨?_, rfl⟩)
    · rw [take_more hd, List.filter_append, List.map_append]
      simp [e]
    · rw [take_more hd, List.filter_append, List.map_append]
      simp [e]
  · rintro acc c' ⟨rfl, rfl⟩
    rw [List.take_length]
    exact q
/-- n drawn items -/
theorem lc_draw {n : Nat} (p : Nat → D → Prop) (w : Nat) (hn : ds.length = n) (hz : n ≤ 1000000)
    (h : ∀ (i : Nat) (d : D) (c' : Nat) (K : PQ), ds[i]? = some d → c' ≤ c + w * i → (∀ y c2, p i y → c2 ≤ c' + w → K y c2) → fg d ρ c' (fun ρ' c1 => fe ρ' c1 K (fun _ _ _ => False)))
    (q : ∀ (acc : List D) (c' : Nat), acc.length = n → (∀ (i : Nat) (y : D), acc[i]? = some y → p i y) → c' ≤ c + w * n → Q (.lst acc) c') : lcGo fg fYes fe ρ ds c Q := by
  refine ⟨fun i acc c' => acc.length = i ∧ (∀ (j : Nat) (y : D), acc[j]? = some y → p j y) ∧ c' ≤ c + w * i, ⟨rfl, fun j y e => by simp at e, by omega⟩, ?_, ?_⟩
  · rintro i d acc c' hd ⟨rfl, hp, hc⟩
    have hi := (List.getElem?_eq_some_iff.mp hd).1
    refine h _ d c' _ hd hc fun y c2 hy hc2 => ⟨by omega, by rw [List.length_append]; rfl, fun j z e => ?_, ?_⟩
    · by_cases hj : j < acc.length
      · rw [List.getElem?_append_left hj] at e
        exact hp j z e
      · rw [List.getElem?_append_right (by omega)] at e
        have : j - acc.length = 0 := by
          have := (List.getElem?_eq_some_iff.mp e).1
          simp at this
          omega
        rw [this] at e
        cases e
        rw [show j = acc.length by omega]
        exact hy
    · rw [Nat.mul_add]; omega
  · rintro acc c' ⟨hl, hp, hc⟩
    exact q acc c' (by omega) hp (by rw [← hn]; exact hc)
end
theorem cutL_mem {α : Type} {l : List α} {lo hi : Option Int} {e : α} (h : e ∈ cutL l lo hi) : e ∈ l := List.mem_of_mem_drop (List.mem_of_mem_take h)
theorem cutL_len {α : Type} {l : List α} {lo hi : Option Int} : (cutL l lo hi).length ≤ l.length := by
  unfold cutL
  rw [List.length_take, List.length_drop]
  omega
/-- one of a written list -/
theorem pick_lst {xs : List D} {k : Nat} {Kq : D → Prop} (p : D → Prop) (hk : k < xs.length) (hp : ∀ e ∈ xs, p e) (q : ∀ d, p d → Kq d) : wpO (gIx (.lst xs) (.int (k : Nat))) Kq :=
  wpO_of (gIx_n (List.getElem?_eq_getElem hk)) (q _ (hp _ (List.getElem_mem hk)))
section
variable {K : PySem.W.Frag} {mg : Str → Option Value} {F : PFn} {vs : List V} {ds : List D} {H : Hp} {Q : VK} {E : XK} {p : Addr} {c : Nat}
/-- a pure def called where heaps are spoken of, with the box at p -/
theorem call_box (b : Box H p c) (dn : DnAll ⟨K, mg, some p⟩ (Hv ⟨K, mg, some p⟩ no H) vs ds) (Q' : PQ) (hF : F ds c Q' (fun _ _ _ => False))
    (q : ∀ d c' v H', Q' d c' → SL.Fr p H H' → Box H' p c' → Dn ⟨K, mg, some p⟩ (Hv ⟨K, mg, some p⟩ no H') v d → Q v H') : spOf K mg F vs H Q E := by
  refine ⟨some p, no, ds, c, Q', _, ⟨fun _ _ _ h => by (cases h), fun _ _ h => by (cases h), ⟨0, fun _ _ => rfl⟩⟩, dn, fun p' e => ?_, hF, fun d c' v H' q' s b' dn' => ?_, fun _ _ _ _ _ _ h => h.elim⟩
  · have e : some p = some p' := e
    cases e
    exact b
  · exact q d c' v H' q' (fun x u h n => s x u (fun e => n (Option.some.inj e).symm) h) (b' p rfl) dn'
theorem dn_box {M : Hp} : Dn ⟨K, mg, some p⟩ M (.ref p) .box := .box rfl
end
end Pu
set_option Elab.async false
set_option linter.all false
set_option maxRecDepth 100000
set_option maxHeartbeats 4000000
/-! Pu9: a pure def at its address (for calls by keywords too). -/
namespace Pu
open PySem PySem.Spec PyProof.Rows L2 SL
section
variable {P : Program} {w : World} {K : PySem.W.Frag} {mg : Str → Option Value} {base : Heap}
theorem fn_pure {x : Str} {st : Stmt} {N ps : List Str} {k n : Nat} {F : PFn} {fs : FS} (S : FnScope N ps (defScope st)) (hn : N.length = n)
    (hb : ∀ (pb : Option Addr) (cdv : Value) (f : Addr) (A : Around) (outer : List Env) (s : Shared) (H : Hp) (E : XK),
      Room k (A.deeper (envOfC x (defScope st) s.heap.objs.size f cdv)) → (A.deeper (envOfC x (defScope st) s.heap.objs.size f cdv)).guards = some [] →
      ∃ ts, PSs (cxOf (L2.CX P w) P w K mg base N x (defScope st) f cdv A outer s H E) (defBody st) ts ∧ LS ⟨K, mg, pb⟩ (fun cls d _ H => E cls d H) ts fs)
    (len : ∀ ds c Q X, F ds c Q X → ds.length = ps.length)
    (hF : ∀ ds c Q X, F ds c Q X → fs (endsP Q X) (startP n ds) c) : ∀ f fd, Fun K x x st f fd → FnG P w K mg base (k + 1) f fd ps (spOf K mg F) := by
  intro f fd Fn
  refine fnG_of Fn S ?_ ?_
  · rintro vs H Q E ⟨pb, o, ds, c, Q', X, ok, dn, b, hf, _⟩
    rw [dn.len]
    exact len _ _ _ _ hf
  · intro cdv A outer s H vs Q E hr hgd h
    obtain ⟨pb, o, ds, c, Q', X, ok, dn, b, hf, hq, hx⟩ := h
    obtain ⟨ts, h1, h2⟩ := hb pb cdv f A outer s H E hr hgd
    exact ⟨ts, h1, body_pure hn ok dn b h2 (hF ds c Q' X hf) hq hx⟩
end
/-- a try that takes every error of its body -/
theorem ls_try0 {W : Wd} {E Wout : WX} {i : Nat} {x : Str} {ts : Addr → Value → Option Addr → TS} {tb : WX → TS} {fb : FS} {fs : Addr → Addr → FS} (T : ErrAt W.K W.mg x)
    (hb : ∀ E', LS W E' (tb E') fb) (hs : ∀ a dd, LS W E (ts a (.ref (errAt W.mg x)) (some dd)) (fs a dd)) : LS W E (tTryA W.K (.ref (errAt W.mg x)) i ts Wout tb) (fTry x [] i fb fs) := fun B o H σ ρ c D P R e hf => by
  unfold fTry at hf
  refine hb _ B o H σ ρ c D _ R ?_ hf
  refine ⟨e.nx, e.rt, e.bk, e.ct, fun o2 σ2 ρ2 H2 c2 y d v dd R2 q g dn => ?_, e.ro⟩
  rcases q with ⟨rfl, q⟩ | ⟨ny, my, q⟩
  · refine wAs_of T.te fun a ha => ?_
    have R3 := R2.setv (i := i) (v := .ref a) (d := .exc a dd d) (.exc g dn)
    refine hs a dd B _ H2 _ _ c2 _ _ R3 ?_ (q a dd)
    refine ⟨fun o3 H3 σ3 ρ3 c3 R3 q3 => ?_, e.rt, fun o3 H3 σ3 ρ3 c3 R3 q3 => ?_, fun o3 H3 σ3 ρ3 c3 R3 q3 => ?_, e.ex, e.ro⟩
    · obtain ⟨o4, R4⟩ := R3.unset (i := i)
      exact e.nx _ _ _ _ _ R4 q3
    · obtain ⟨o4, R4⟩ := R3.unset (i := i)
      exact e.bk _ _ _ _ _ R4 q3
    · obtain ⟨o4, R4⟩ := R3.unset (i := i)
      exact e.ct _ _ _ _ _ R4 q3
  · cases my
/-- a try: its ends as one opaque thing -/
theorem p_try {x : Str} {oth : List Str} {i : Nat} {fb : FS} {fs : Addr → Addr → FS} {P : PEnds} {ρ : PEnv} {c : Nat}
    (q : ∀ P' : PEnds, P'.nx = P.nx → P'.rt = P.rt → P'.bk = P.bk → P'.ct = P.ct → P'.ro = P.ro →
      (∀ ρ' c' d, (∀ a dd, fs a dd { P with nx := fun ρ2 c2 => P.nx (ρ2.set i Sl.no) c2, bk := fun ρ2 c2 => P.bk (ρ2.set i Sl.no) c2, ct := fun ρ2 c2 => P.ct (ρ2.set i Sl.no) c2 } (ρ'.set i (Sl.v (.exc a dd d))) c') → P'.ex ρ' c' x d) →
      (∀ ρ' c' y d, y ≠ x → y ∈ oth → P.ex ρ' c' y d → P'.ex ρ' c' y d) → fb P' ρ c) : fTry x oth i fb fs P ρ c :=
  q _ rfl rfl rfl rfl rfl (fun _ _ _ h => .inl ⟨rfl, h⟩) fun _ _ _ _ n m h => .inr ⟨n, m, h⟩
theorem eq_strD {k : D} {l : List Nat} (h : eqD (.str l) k = true) : k = .str l := by
  cases k with
  | str m => rw [eqD_str_str, decide_eq_true_eq] at h; rw [h]
  | non => rw [eqD_str_non] at h; cases h
  | bl b => rw [eqD_str_bl] at h; cases h
  | int b => rw [eqD_str_int] at h; cases h
  | lst b => rw [eqD_str_lst] at h; cases h
  | tup b => rw [eqD_str_tup] at h; cases h
  | _ => simp [eqD, toP, PyData.eqv] at h
theorem eqD_comm_str {k : D} {l : List Nat} : eqD k (.str l) = eqD (.str l) k := by
  cases k with
  | str m => rw [eqD_str_str, eqD_str_str]; exact decide_eq_decide.mpr ⟨Eq.symm, Eq.symm⟩
  | _ => simp [eqD, toP, PyData.eqv]
theorem cnd_andD {a b : Bool} {q : D → Prop} (h : q (.bl (a && b))) : cnd a (fun _ => q (.bl b)) fun _ => q (.bl false) := by cases a <;> exact h
theorem hk_rev {W : Wd} : ∀ (M : Hp) (vs : List V) (ds : List D), DnAll W M vs ds → DnAll W M vs.reverse ds.reverse := fun _ _ _ h => h.rev
end Pu
set_option Elab.async false
set_option linter.all false
set_option maxRecDepth 100000
set_option maxHeartbeats 4000000
/-! Pu10: calls that hand out a new object; comprehensions with two fors; keyword calls in any order; what may be written out. -/
namespace Pu
open PySem PySem.Spec PyProof.Rows L2 SL
/-! new objects handed out -/
/-- a promise whose answer is a new object -/
def spOfN (K : PySem.W.Frag) (mg : Str → Option Value) (F : PFn) : Sp := fun vs H Q E => ∃ (pb : Option Addr) (o : Own) (ds : List D) (c : Nat) (Q' : PQ) (X : PXc), OwnOk ⟨K, mg, pb⟩ o H ∧ DnAll ⟨K, mg, pb⟩ (Hv ⟨K, mg, pb⟩ o H) vs ds ∧ BoxO ⟨K, mg, pb⟩ H c ∧ F ds c Q' X ∧
  (∀ d c' a H', Q' d c' → H a = none → St ⟨K, mg, pb⟩ H H' → BoxO ⟨K, mg, pb⟩ H' c' → OwnC ⟨K, mg, pb⟩ (Off (fun b => Hid ⟨K, mg, pb⟩ o b ∨ b = a) H') (H' a) d → Q (.ref a) H') ∧
  (∀ c' x d v dd H', X c' x d → St ⟨K, mg, pb⟩ H H' → BoxO ⟨K, mg, pb⟩ H' c' → Hv ⟨K, mg, pb⟩ o H' dd = some (xdG v) → Dn ⟨K, mg, pb⟩ (Hv ⟨K, mg, pb⟩ o H') v d → E (.ref (errAt mg x)) (some dd) H')
def endsN (Q : PQ) (X : PXc) : PEnds := { nx := fun _ _ => False, rt := fun _ _ => False, bk := fun _ _ => False, ct := fun _ _ => False, ex := fun _ => X, ro := Q }
section
variable {P : Program} {w : World} {K : PySem.W.Frag} {mg : Str → Option Value} {base : Heap}
theorem body_pureN {pb : Option Addr} {o : Own} {H : Hp} {vs : List V} {ds : List D} {c n : Nat} {N : List Str} {Q : VK} {E : XK} {Q' : PQ} {X : PXc} {ts : TS} {fs : FS} (hn : N.length = n) (ok : OwnOk ⟨K, mg, pb⟩ o H) (dn : DnAll ⟨K, mg, pb⟩ (Hv ⟨K, mg, pb⟩ o H) vs ds) (b : BoxO ⟨K, mg, pb⟩ H c)
    (hs : LS ⟨K, mg, pb⟩ (fun cls d _ H => E cls d H) ts fs) (hf : fs (endsN Q' X) (startP n ds) c)
    (hq : ∀ d c' a H', Q' d c' → H a = none → St ⟨K, mg, pb⟩ H H' → BoxO ⟨K, mg, pb⟩ H' c' → OwnC ⟨K, mg, pb⟩ (Off (fun b => Hid ⟨K, mg, pb⟩ o b ∨ b = a) H') (H' a) d → Q (.ref a) H')
    (hx : ∀ c' x d v dd H', X c' x d → St ⟨K, mg, pb⟩ H H' → BoxO ⟨K, mg, pb⟩ H' c' → Hv ⟨K, mg, pb⟩ o H' dd = some (xdG v) → Dn ⟨K, mg, pb⟩ (Hv ⟨K, mg, pb⟩ o H') v d → E (.ref (errAt mg x)) (some dd) H') :
    ts { nx := fun _ H' => Q .non H', rt := Q } (L2.start N vs) H := by
  have R := rel_start (N := N) hn ok dn b
  have sub : ∀ {o' : Own} {H' : Hp} {σ' : SSt} {ρ' : PEnv} {c' : Nat}, Rel ⟨K, mg, pb⟩ ⟨Hv ⟨K, mg, pb⟩ no H, fun b => ∃ i, o i = some b⟩ o' H' σ' ρ' c' → ∀ b, Hid ⟨K, mg, pb⟩ o b → Hid ⟨K, mg, pb⟩ o' b := fun R' b m => by
    rcases m with m | ⟨i, m⟩
    · exact .inl m
    · obtain ⟨j, _, h⟩ := R'.keep b ⟨i, m⟩
      exact .inr ⟨j, h⟩
  refine hs _ _ H _ _ c _ (endsN Q' X) R ⟨fun _ _ _ _ _ _ q => q.elim, fun _ _ _ _ _ _ _ _ _ q => q.elim, fun _ _ _ _ _ _ q => q.elim, fun _ _ _ _ _ _ q => q.elim,
    fun o' σ' ρ' H' c' x d v dd R' q g d' => hx c' x d v dd H' q (St.to R'.base) R'.box (off_le (sub R') _ _ g) (d'.mono (off_le (sub R')) _ _),
    fun o' H' σ' ρ' c' a d R' n q => hq d c' a H' q ?_ (St.to R'.base) R'.box (n.oc.mono (off_le fun b m => m.imp (sub R' b) id))⟩ hf
  cases e : H a with
  | none => rfl
  | some u =>
    have h1 : ¬ Hid ⟨K, mg, pb⟩ no a := fun m => by
      rcases m with m | ⟨_, m⟩
      · exact n.pb m
      · cases m
    have h2 : Hv ⟨K, mg, pb⟩ no H a = none := n.bh
    rw [show Hv ⟨K, mg, pb⟩ no H a = some u from off_get e h1] at h2
    cases h2
theorem fn_pureN {x : Str} {st : Stmt} {N ps : List Str} {k n : Nat} {F : PFn} {fs : FS} (S : FnScope N ps (defScope st)) (hn : N.length = n)
    (hb : ∀ (pb : Option Addr) (cdv : Value) (f : Addr) (A : Around) (outer : List Env) (s : Shared) (H : Hp) (E : XK),
      Room k (A.deeper (envOfC x (defScope st) s.heap.objs.size f cdv)) → (A.deeper (envOfC x (defScope st) s.heap.objs.size f cdv)).guards = some [] →
      ∃ ts, PSs (cxOf (L2.CX P w) P w K mg base N x (defScope st) f cdv A outer s H E) (defBody st) ts ∧ LS ⟨K, mg, pb⟩ (fun cls d _ H => E cls d H) ts fs)
    (len : ∀ ds c Q X, F ds c Q X → ds.length = ps.length)
    (hF : ∀ ds c Q X, F ds c Q X → fs (endsN Q X) (startP n ds) c) : ∀ f fd, Fun K x x st f fd → FnG P w K mg base (k + 1) f fd ps (spOfN K mg F) := by
  intro f fd Fn
  refine fnG_of Fn S ?_ ?_
  · rintro vs H Q E ⟨pb, o, ds, c, Q', X, ok, dn, b, hf, _⟩
    rw [dn.len]
    exact len _ _ _ _ hf
  · intro cdv A outer s H vs Q E hr hgd h
    obtain ⟨pb, o, ds, c, Q', X, ok, dn, b, hf, hq, hx⟩ := h
    obtain ⟨ts, h1, h2⟩ := hb pb cdv f A outer s H E hr hgd
    exact ⟨ts, h1, body_pureN hn ok dn b h2 (hF ds c Q' X hf) hq hx⟩
end
section
variable {W : Wd} {E : WX} {tas : TA} {fas : FA}
theorem lf_call {F : PFn} {Ec : SSt → XK} (hE : ∀ σ cls d H, E cls d σ H → Ec σ cls d H) (ha : LA W E tas fas) : LF W E (tCallS (spOfN W.K W.mg F) Ec tas) (fCall F fas) := fun B o H σ ρ c Q Q' X R x hf k => by
  refine ha B o H σ ρ c _ _ X R x hf fun ds c1 vs H1 q s b dn => ?_
  have R1 := R.ext s b
  refine ⟨W.pb, o, ds, c1, Q', X, R1.ok, dn, b, q, fun d c' a H' q2 n s2 b2 oc => k d c' a H' q2 (s.none (b.ne n) n) (s.trans s2) b2 oc, fun c' n d v dd H' q2 s2 b2 g dn2 => ?_⟩
  exact hE _ _ _ _ (x H' c' n d v dd (R1.ext s2 b2) q2 g dn2)
/-- for each parameter the place of its value -/
def pick {α : Type} (js : List Nat) (l : List α) : List α := js.filterMap (l[·]?)
theorem hk_pick (js : List Nat) : ∀ (M : Hp) (vs : List V) (ds : List D), DnAll W M vs ds → DnAll W M (pick js vs) (pick js ds) := fun M vs ds h => by
  induction js with
  | nil => exact .nil
  | cons j js ih =>
    unfold pick
    cases e : ds[j]? with
    | none =>
      have : vs[j]? = none := by
        rw [List.getElem?_eq_none_iff] at e ⊢
        rw [h.len]
        exact e
      rw [List.filterMap_cons_none e, List.filterMap_cons_none this]
      exact ih
    | some d =>
      obtain ⟨v, hv, dv⟩ := h.get e
      rw [List.filterMap_cons_some e, List.filterMap_cons_some hv]
      exact .cons dv ih
theorem hl_pick {n : Nat} (js : List Nat) : ∀ {vs : List V} {us : List Value}, vs.length = n → Vals vs us → Vals (pick js vs) (pick js us) := fun {vs us} _ h => by
  have get : ∀ {vs : List V} {us : List Value} (j : Nat), Vals vs us → (vs[j]? = none ∧ us[j]? = none) ∨ ∃ v u, vs[j]? = some v ∧ us[j]? = some u ∧ RelV v u := by
    intro vs us j h
    induction h generalizing j with
    | nil => exact .inl ⟨rfl, rfl⟩
    | cons r _ ih =>
      cases j with
      | zero => exact .inr ⟨_, _, rfl, rfl, r⟩
      | succ j => exact ih j
  induction js with
  | nil => exact .nil
  | cons j js ih =>
    unfold pick
    rcases get j h with ⟨e1, e2⟩ | ⟨v, u, e1, e2, r⟩
    · rw [List.filterMap_cons_none e1, List.filterMap_cons_none e2]
      exact ih
    · rw [List.filterMap_cons_some e1, List.filterMap_cons_some e2]
      exact .cons r ih
theorem lf_callW {F : PFn} {Ec : SSt → XK} {g : {α : Type} → List α → List α} {n : Nat} (hg : ∀ (M : Hp) vs ds, DnAll W M vs ds → DnAll W M (g vs) (g ds)) (hE : ∀ σ cls d H, E cls d σ H → Ec σ cls d H) (ha : LA W E tas fas) :
    LF W E (tCallW (spOfN W.K W.mg F) g n Ec tas) (fCall (fun ds c Q X => ds.length = n ∧ F (g ds) c Q X) fas) := fun B o H σ ρ c Q Q' X R x hf k => by
  refine ha B o H σ ρ c _ _ X R x hf fun ds c1 vs H1 q s b dn => ?_
  have R1 := R.ext s b
  refine ⟨by rw [dn.len]; exact q.1, W.pb, o, g ds, c1, Q', X, R1.ok, hg _ _ _ dn, b, q.2, fun d c' a H' q2 n s2 b2 oc => k d c' a H' q2 (s.none (b.ne n) n) (s.trans s2) b2 oc, fun c' n d v dd H' q2 s2 b2 g dn2 => ?_⟩
  exact hE _ _ _ _ (x H' c' n d v dd (R1.ext s2 b2) q2 g dn2)
/-! comprehensions with two fors -/
def lc2Go (fg : FG) (fi1 : FI) (fg1 : FG) (ft : FT) (fe : FX) (vs1 : List Nat) (ρ : PEnv) (ds : List D) (c : Nat) (Q : PQ) : Prop := ∃ I : Nat → List D → Nat → Prop, I 0 [] c ∧
  (∀ i d acc c, ds[i]? = some d → I i acc c → fg d ρ c (fun ρ' c1 => fi1 ρ' c1 (fun es c2 => ∃ J : Nat → List D → Nat → Prop, nown ρ' vs1 = true ∧ J 0 acc c2 ∧
    (∀ j e acc c, es[j]? = some e → J j acc c → fg1 e (pw ρ' vs1) c (fun ρ'' c3 => ft ρ'' c3 (fun b c4 => cnd b (fun _ => fe ρ'' c4 (fun y c5 => acc.length < 16777216 ∧ J (j + 1) (acc ++ [y]) c5) (fun _ _ _ => False)) (fun _ => J (j + 1) acc c4)) (fun _ _ _ => False))) ∧
    ∀ acc c, J es.length acc c → I (i + 1) acc c) (fun _ _ _ => False))) ∧
  ∀ acc c, I ds.length acc c → Q (.lst acc) c
def fLc2 (fi : FI) (fg : FG) (fi1 : FI) (fg1 : FG) (ft : FT) (fe : FX) (vs vs1 : List Nat) : FX := fun ρ c Q X => nown ρ vs = true ∧ fi ρ c (fun ds c1 => lc2Go fg fi1 fg1 ft fe vs1 (pw ρ vs) ds c1 Q) X
theorem hid_back {o o' : Own} {B : Bs} {H H' : Hp} {σ σ' : SSt} {ρ : PEnv} {vs ts : List Nat} {c : Nat} (R : Rel W B o H σ (pw ρ vs) c) (K : Kept W true ts o o' H H' σ σ') (hs : ∀ j ∈ ts, j ∈ vs) : ∀ b, Hid W o b → Hid W o' b := fun b m => by
  rcases m with m | ⟨j, m⟩
  · exact .inl m
  · refine .inr ⟨j, ?_⟩
    by_cases hj : j ∈ ts
    · rcases (R.fr j b m).2.2 with ⟨⟨e, z⟩, _⟩ | z
      · exact absurd z (pw_no (hs j hj))
      · exact (K.beh j b (by rw [R.len]; exact z.1) m).1
    · rw [K.ow j hj]; exact m
variable {te : TE} {f : FX} {g g1 : TG} {fg fg1 : FG} {ts ts1 : List Nat} {tt : TT} {ft : FT}
theorem lf_lc2 {wi wi1 : TI} {fi fi1 : FI} {vs vs1 : List Nat} (hi : LIc W E wi fi) (hg : LG W W0 g fg true ts) (hi1 : LI W W0 wi1 fi1) (hg1 : LG W W0 g1 fg1 true ts1) (ht : LT W W0 tt ft) (he : LE W W0 te f) (hs : ∀ j ∈ ts, j ∈ vs) (hs1 : ∀ j ∈ ts1, j ∈ vs1) :
    LF W E (tLc2 wi g tYes wi1 g1 tt te vs vs1) (fLc2 fi fg fi1 fg1 ft f vs vs1) := fun B o H σ ρ c Q Q' X R x hf k => by
  obtain ⟨hno, hf⟩ := hf
  refine hi B o H σ ρ c _ _ X R x hf fun ds c1 J H1 q s b iok => ?_
  intro Dd hD
  have R1 := R.ext s b
  obtain ⟨G, Y, wk, hG, hY⟩ := iok
  obtain ⟨ba, n, hn, on, RB, hid⟩ := (R1.at.wipe hno).adda (x := .lst []) hD
  have seen : Same (Hv W o H1) (Off (fun b' => B.s b' ∨ b' = Dd) (Off (fun b => Hid W o b ∧ ¬ B.s b) H1)) := fun b u h => by
    obtain ⟨g1, g2⟩ := off_some h
    refine off_get (off_get g1 fun z => g2 z.1) fun z => ?_
    rcases z with z | rfl
    · obtain ⟨j, _, k2⟩ := R.keep b z
      exact g2 (.inr ⟨j, k2⟩)
    · rw [hD] at g1; cases g1
  dsimp only at RB hid ba
  obtain ⟨B1, hB1⟩ : ∃ B1 : Bs, B1 = ⟨Off (fun b => Hid W o b ∧ ¬ B.s b) H1, fun b => B.s b ∨ b = Dd⟩ := ⟨_, rfl⟩
  rw [← hB1] at RB
  have seen : Same (Hv W o H1) (Off B1.s B1.h) := by rw [hB1]; exact seen
  have ba : B1.h Dd = none := by rw [hB1]; exact ba
  obtain ⟨o1, ho1⟩ : ∃ o1 : Own, o1 = fun j => if j = n then some Dd else o j := ⟨_, rfl⟩
  rw [← ho1] at RB hid
  have oD : o1 n = some Dd := by rw [ho1]; exact if_pos rfl
  rw [pw_len] at hn
  obtain ⟨I, h0, hstep, hd⟩ := q
  refine ⟨fun i m H => m = ds.length - i ∧ i ≤ ds.length ∧ ∃ c acc ws, Rel W B1 o1 H (L2.wipe σ vs) (pw ρ vs) c ∧ St W H1 H ∧ H Dd = some (.lst ws) ∧ DnAll W (Hv W o1 H) ws acc ∧ I i acc c,
    ⟨_, rfl, Nat.zero_le _, c1, [], [], RB, .of (same_new hD), upd_same, .nil, h0⟩, ?_⟩
  rintro i m H2 ⟨rfl, hi, c2, acc, ws, R2, s2, g2, d2, q2⟩
  have sm := seen.trans R2.seen
  have sm2 : Same (Hv W no H1) H2 := (s2.hv (o := no)).trans hv_same
  have pD : W.pb ≠ some Dd := (R2.fr n Dd oD).1
  by_cases hlt : i < ds.length
  · refine .inr ⟨wk.goes i H2 hlt (hG _ sm2), fun H' => ∃ c acc ws, Rel W B1 o1 H' (L2.wipe σ vs) (pw ρ vs) c ∧ St W H1 H' ∧ H' Dd = some (.lst ws) ∧ DnAll W (Hv W o1 H') ws acc ∧ I (i + 1) acc c, fun H' z => ⟨ds.length - (i + 1), by omega, rfl, hlt, z⟩, fun x H' y => ?_⟩
    have q2 := hstep i ds[i] acc c2 (List.getElem?_eq_getElem hlt) q2
    obtain ⟨s3, dn⟩ := hY i ds[i] x H2 H' (List.getElem?_eq_getElem hlt) sm2 (wk.yields i H2 x H' hlt (hG _ sm2) y)
    have R3 := R2.same s3
    have dn := dn (Hv W o1 H') (sm.trans (off_ext s3)) fun b u n h => off_get h (R2.hid n)
    refine hg B1 o1 H' _ _ c2 x _ _ _ R3 dn q2 fun o4 H4 σ4 ρ4 c4 q4 R4 K4 => ?_
    obtain rfl := K4.pure rfl
    refine ⟨wipe_back K4.len K4.off hs, ?_⟩
    dsimp only [L2.tYes]
    rw [if_pos rfl]
    have h14 := hid_back R3 K4 hs
    refine hi1 B1 o4 H4 σ4 ρ4 c4 _ _ _ R4 xr_no q4 fun es c5 J1 H5 q5 s5 b5 iok1 => ?_
    obtain ⟨Jv, hno1, j0, jstep, jend⟩ := q5
    obtain ⟨G1, Y1, wk1, hG1, hY1⟩ := iok1
    have R5 := R4.ext s5 b5
    have R5o := R3.ext s5 b5
    have RW := R5.wipe hno1
    have hn' : (L2.wipe σ vs).length ≤ n := by rw [wipe_length, R.len]; exact hn
    have o4n := (K4.beh n Dd hn' oD).1
    have lρ4 : ρ4.length = ρ.length := by rw [← R4.len, K4.len, wipe_length, R.len]
    have gD5 := s5 Dd _ pD (s3 _ _ g2)
    have d5 := d2.mono ((off_ext s3).trans s5.hv)
    refine ⟨fun j k H => k = es.length - j ∧ j ≤ es.length ∧ ∃ c acc ws, Rel W B1 o4 H (L2.wipe σ4 vs1) (pw ρ4 vs1) c ∧ Rel W B1 o1 H (L2.wipe σ vs) (pw ρ vs) c ∧ St W H1 H ∧ Same (Hv W o4 H5) (Hv W o4 H) ∧ H Dd = some (.lst ws) ∧ DnAll W (Hv W o1 H) ws acc ∧ Jv j acc c,
      ⟨_, rfl, Nat.zero_le _, c5, acc, ws, RW, R5o, s2.trans ((St.of s3).trans s5), Same.refl _, gD5, d5, j0⟩, ?_⟩
    rintro j k2 H6 ⟨rfl, hj, c6, acc6, ws6, R6, R6o, s6, sm6, g6, d6, q6⟩
    have smv := sm6.trans (hv_same (W := W) (o := o4) (H := H6))
    by_cases hlt1 : j < es.length
    · refine .inr ⟨wk1.goes j H6 hlt1 (hG1 _ smv), fun H' => ∃ c acc ws, Rel W B1 o4 H' (L2.wipe σ4 vs1) (pw ρ4 vs1) c ∧ Rel W B1 o1 H' (L2.wipe σ vs) (pw ρ vs) c ∧ St W H1 H' ∧ Same (Hv W o4 H5) (Hv W o4 H') ∧ H' Dd = some (.lst ws) ∧ DnAll W (Hv W o1 H') ws acc ∧ Jv (j + 1) acc c,
        fun H' z => ⟨es.length - (j + 1), by omega, rfl, hlt1, z⟩, fun x H' y => ?_⟩
      have q6 := jstep j es[j] acc6 c6 (List.getElem?_eq_getElem hlt1) q6
      obtain ⟨s7, dn7⟩ := hY1 j es[j] x H6 H' (List.getElem?_eq_getElem hlt1) smv (wk1.yields j H6 x H' hlt1 (hG1 _ smv) y)
      have R7 := R6.same s7
      have R7o := R6o.same s7
      have dn7 := dn7 (Hv W o4 H') (sm6.trans (off_ext s7)) fun b u n h => off_get h (R6.hid n)
      refine hg1 B1 o4 H' _ _ c6 x _ _ _ R7 dn7 q6 fun o8 H8 σ8 ρ8 c8 q8 R8 K8 => ?_
      obtain rfl := K8.pure rfl
      refine ⟨wipe_back K8.len K8.off hs1, ht B1 o8 H8 σ8 ρ8 c8 _ _ _ R8 xr_no q8 fun z c9 H9 q9 s9 b9 => ?_⟩
      have R9 := R8.ext s9 b9
      have gD9 := s9 Dd _ pD (s7 _ _ g6)
      have R9i := R7.ext s9 b9
      have R9o := R7o.ext s9 b9
      have S9 : St W H1 H9 := s6.trans ((St.of s7).trans s9)
      have sm9 := sm6.trans ((off_ext s7).trans s9.hv)
      have d9 := d6.mono ((off_ext s7).trans s9.hv)
      cases z with
      | false =>
        rw [if_neg (by decide)]
        exact ⟨c9, acc6, ws6, R9i, R9o, S9, sm9, gD9, d9, q9⟩
      | true =>
        rw [if_pos rfl]
        refine he B1 o8 H9 σ8 ρ8 c9 _ _ _ R9 xr_no q9 fun y cA v HA qA sA bA dnA => ?_
        have gDA := sA Dd _ pD gD9
        have vis : ∀ {oo : Own}, oo n = some Dd → Same (Hv W oo HA) (Hv W oo (upd HA Dd (.lst (ws6 ++ [v])))) := fun {oo} e => off_to fun b u n h => by
          refine ⟨n, ?_⟩
          rw [upd_ne (fun z => n (.inr ⟨_, by rw [z]; exact e⟩))]
          exact h
        refine ⟨ws6, gDA, by rw [d6.len, sizeLine_eq]; exact qA.1, cA, acc6 ++ [y], ws6 ++ [v], ?_, ?_, ?_, ?_, upd_same, ?_, qA.2⟩
        · exact (R9i.ext sA bA).puta (by rw [pw_len, lρ4]; exact hn) o4n ba
        · exact (R9o.ext sA bA).puta (by rw [pw_len]; exact hn) oD ba
        · refine fun b u nb h => ?_
          have : b ≠ Dd := fun z => by subst z; rw [hD] at h; cases h
          rw [upd_ne this]
          exact sA b u nb (S9 b u nb h)
        · exact (sm9.trans sA.hv).trans (vis o4n)
        · have dv : Dn W (Hv W o1 HA) v y := dnA.mono (off_le fun b m => hid_back R7 K8 hs1 b (h14 b m)) _ _
          exact ((d9.mono sA.hv).mono (vis oD)).app (.cons (dv.mono (vis oD) _ _) .nil)
    · have hz : j = es.length := by omega
      subst hz
      exact .inl ⟨wk1.stops H6 (hG1 _ smv), c6, acc6, ws6, R6o, s6, g6, d6, jend _ _ q6⟩
  · have hz : i = ds.length := by omega
    subst hz
    refine .inl ⟨wk.stops H2 (hG _ sm2), k _ c2 Dd H2 (hd _ _ q2) (s.none pD hD) (s.trans s2) R2.box ?_⟩
    rw [g2]
    exact .lst (d2.mono (off_le fun b m => (hid b).mpr m))
/-- [F d e for d in ds for e in es d if p d e] -/
theorem lc2_fun {fi1 : FI} {fe : FX} {vs1 : List Nat} {ρ : PEnv} {ds : List D} {c : Nat} {Q : PQ} (es : D → List D) (p : D → D → Bool) (F : D → D → D) (G : D → PEnv → Prop) (hz : (ds.flatMap fun d => ((es d).filter (p d)).map (F d)).length ≤ 16777216)
    (h : ∀ (i : Nat) (d : D) (K : PEnv → List D → Nat → Prop), ds[i]? = some d → (∀ ρ', G d ρ' → K ρ' (es d) c) → fg d ρ c (fun ρ' c1 => fi1 ρ' c1 (K ρ') (fun _ _ _ => False)))
    (h1 : ∀ (i : Nat) (d : D) (ρ' : PEnv), ds[i]? = some d → G d ρ' → nown ρ' vs1 = true ∧ ∀ (j : Nat) (e : D) (K1 : PQ) (K2 : Nat → Prop), (es d)[j]? = some e → (p d e = true → K1 (F d e) c) → (p d e = false → K2 c) →
      fg1 e (pw ρ' vs1) c (fun ρ'' c3 => ft ρ'' c3 (fun b c4 => cnd b (fun _ => fe ρ'' c4 K1 (fun _ _ _ => False)) (fun _ => K2 c4)) (fun _ _ _ => False)))
    (q : Q (.lst (ds.flatMap fun d => ((es d).filter (p d)).map (F d))) c) : lc2Go fg fi1 fg1 ft fe vs1 ρ ds c Q := by
  obtain ⟨fl, hfl⟩ : ∃ fl : D → List D, fl = fun d => ((es d).filter (p d)).map (F d) := ⟨_, rfl⟩
  have hfd : ∀ d, fl d = ((es d).filter (p d)).map (F d) := fun d => by rw [hfl]
  rw [← hfl] at hz q
  refine ⟨fun i acc c' => acc = (ds.take i).flatMap fl ∧ c' = c, ⟨by simp, rfl⟩, ?_, ?_⟩
  · rintro i d acc c1 hd ⟨rfl, rfl⟩
    have hi := (List.getElem?_eq_some_iff.mp hd).1
    have hsum : ((ds.take i).flatMap fl).length + (fl d).length ≤ (ds.flatMap fl).length := by
      have e : ds.flatMap fl = (ds.take i).flatMap fl ++ (fl d ++ (ds.drop (i + 1)).flatMap fl) := by
        rw [← List.flatMap_cons, ← List.flatMap_append]
        congr 1
        have e2 : d :: ds.drop (i + 1) = ds.drop i := by
          obtain ⟨hi', rfl⟩ := List.getElem?_eq_some_iff.mp hd
          exact (List.drop_eq_getElem_cons hi').symm
        rw [e2, List.take_append_drop]
      rw [e, List.length_append, List.length_append]
      omega
    refine h i d _ hd fun ρ' g => ?_
    obtain ⟨n1, st⟩ := h1 i d ρ' hd g
    refine ⟨fun j acc c' => acc = (ds.take i).flatMap fl ++ (((es d).take j).filter (p d)).map (F d) ∧ c' = c1, n1, ⟨by simp, rfl⟩, ?_, ?_⟩
    · rintro j e acc c' he ⟨rfl, rfl⟩
      refine st j e _ _ he (fun hp => ?_) (fun hp => ?_)
      · have e1 : (((es d).take (j + 1)).filter (p d)).map (F d) = (((es d).take j).filter (p d)).map (F d) ++ [F d e] := by
          rw [take_more he, List.filter_append, List.map_append]
          simp [hp]
        refine ⟨?_, by rw [e1, List.append_assoc], rfl⟩
        have l1 : (((es d).take (j + 1)).filter (p d)).map (F d) = (fl d).take ((((es d).take (j + 1)).filter (p d)).map (F d)).length := by
          rw [hfd]
          have : ((es d).filter (p d)).map (F d) = (((es d).take (j + 1)).filter (p d)).map (F d) ++ (((es d).drop (j + 1)).filter (p d)).map (F d) := by
            rw [← List.map_append, ← List.filter_append, List.take_append_drop]
          rw [this, List.take_left]
        have l2 := congrArg List.length l1
        rw [List.length_take] at l2
        rw [e1] at l2
        rw [List.length_append, List.length_singleton] at l2
        rw [List.length_append]
        omega
      · refine ⟨?_, rfl⟩
        rw [take_more he, List.filter_append, List.map_append]
        simp [hp]
    · rintro acc c' ⟨rfl, rfl⟩
      refine ⟨?_, rfl⟩
      rw [take_more hd, List.flatMap_append, List.take_length]
      simp [hfd]
  · rintro acc c' ⟨rfl, rfl⟩
    rw [List.take_length]
    exact q
end
end Pu
set_option Elab.async false
set_option linter.all false
set_option maxRecDepth 100000
set_option maxHeartbeats 4000000
/-! Pu11: simp's rows for Pu10; how long what is written out may be. -/
namespace Pu
open PySem PySem.Spec PyProof.Rows L2 SL
section
variable {ρ : PEnv} {c : Nat} {Q : PQ} {X : PXc} {P : PEnds}
theorem fIterO_eq {i : Nat} {Q : List D → Nat → Prop} : fIterO i ρ c Q X = match ρ[i]? with | some (Sl.own (.lst xs)) => Q xs c | some (Sl.v (.lst xs)) => Q xs c | _ => False := rfl
theorem fLc2_eq {fi : FI} {fg : FG} {fi1 : FI} {fg1 : FG} {ft : FT} {fe : FX} {vs vs1 : List Nat} : fLc2 fi fg fi1 fg1 ft fe vs vs1 ρ c Q X = (nown ρ vs = true ∧ fi ρ c (fun ds c1 => lc2Go fg fi1 fg1 ft fe vs1 (pw ρ vs) ds c1 Q) X) := rfl
theorem fRetO_eq {f : FX} : fRetO f P ρ c = f ρ c P.ro (P.ex ρ) := rfl
theorem fRetOv_eq {i : Nat} : fRetOv i P ρ c = match ρ[i]? with | some (Sl.own d) => P.ro d c | _ => False := rfl
end
section
variable {x y z : D} {r : List D} {K : D → Prop}
theorem gIxt_0 : wpO (gIx (.tup (x :: r)) (.int 0)) K = K x := (congrArg (wpO · K) (gIxt_n (k := 0) (v := x) rfl)).trans wpO_some
theorem gIxt_1 : wpO (gIx (.tup (x :: y :: r)) (.int 1)) K = K y := (congrArg (wpO · K) (gIxt_n (k := 1) (v := y) rfl)).trans wpO_some
theorem gIxt_2 : wpO (gIx (.tup (x :: y :: z :: r)) (.int 2)) K = K z := (congrArg (wpO · K) (gIxt_n (k := 2) (v := z) rfl)).trans wpO_some
theorem gIx_0 : wpO (gIx (.lst (x :: r)) (.int 0)) K = K x := (congrArg (wpO · K) (gIx_n (k := 0) (v := x) rfl)).trans wpO_some
theorem gIx_1 : wpO (gIx (.lst (x :: y :: r)) (.int 1)) K = K y := (congrArg (wpO · K) (gIx_n (k := 1) (v := y) rfl)).trans wpO_some
theorem gIx_2 : wpO (gIx (.lst (x :: y :: z :: r)) (.int 2)) K = K z := (congrArg (wpO · K) (gIx_n (k := 2) (v := z) rfl)).trans wpO_some
end
/-! isinstance(e, CodecError), e a caught error -/
def fIsE (a dd : Addr) (i : Nat) : FX := fun ρ c Q _ => match ρ[i]? with | some (Sl.v (.exc b _ _)) => a = b ∧ Q (.bl true) c | _ => False
theorem fIsE_eq {a dd : Addr} {i : Nat} {ρ : PEnv} {c : Nat} {Q : PQ} {X : PXc} : fIsE a dd i ρ c Q X = match ρ[i]? with | some (Sl.v (.exc b _ _)) => a = b ∧ Q (.bl true) c | _ => False := rfl
theorem le_isE {W : Wd} {E : WX} {x : Str} {a dd : Addr} {i : Nat} (U : Under W.K W.mg x) : LE W E (tCB (rIsE W.K a (.ref (errAt W.mg x))) (tCons (tVar i) (tCons (tC (.ref (errAt W.mg "CodecError"))) tNil))) (fIsE a dd i) := fun B o H σ ρ c Q Q' X R _ hf k => by
  unfold fIsE at hf
  split at hf
  · rename_i b e g h
    obtain ⟨rfl, q⟩ := hf
    obtain ⟨v, h1, h2⟩ := R.slot i _ h
    cases h2
    exact ⟨_, h1, _, rfl, U, k _ _ _ _ q St.refl R.box (.bl _)⟩
  · exact hf.elim
/-! str(int) -/
section
variable {W : Wd}
def strI (i : Int) : List Nat := (Str.ofString (toString i)).cps.toList
def gStr : List D → Option D
  | [.int i] => if i.natAbs.log2 < 1920 then some (.str (strI i)) else none
  | _ => none
theorem gStr_i {i : Int} {K : D → Prop} : wpO (gStr [.int i]) K = (i.natAbs.log2 < 1920 ∧ K (.str (strI i))) := wpO_ite
theorem log2_small {i : Int} (h : i.natAbs < 2 ^ 1920) : i.natAbs.log2 < 1920 := by
  by_cases h0 : i.natAbs = 0
  · rw [h0]; decide
  · exact (Nat.log2_lt h0).mpr h
def rStrI : List V → Hp → VK → Prop := fun xs H Q => ∃ i : Int, xs = [.int i] ∧ i.natAbs.log2 < 1920 ∧ Q (.str (toString i)) H
theorem uStrI {X : Cx} : CallR X (.type "str") rStrI := call_str_int
theorem lc_str : LC W rStrI gStr := fun o H vs ds z Q hh dx g k => by
  unfold gStr at g
  split at g
  · obtain ⟨hz, rfl⟩ := ite_some g
    obtain ⟨v, rfl, d⟩ := dbs_one dx
    cases d.int
    refine ⟨_, rfl, hz, ?_⟩
    rename_i _ i
    have e2 : Str.ofString (toString i) = tx (strI i) := (tx_list _).symm
    rw [e2]
    exact k _ _ (Same.refl _) (.str _)
  · cases g
end
/-! is, is not of bools -/
section
variable {W : Wd}
def gIsB : D → D → Option D
  | .bl a, .bl b => some (.bl (decide (a = b)))
  | _, _ => none
def gIsNB : D → D → Option D
  | .bl a, .bl b => some (.bl (!decide (a = b)))
  | _, _ => none
theorem lo_isB : LO2 W rIsB gIsB := fun o H x y d e z Q hh dx dy g k => by
  unfold gIsB at g
  split at g
  · cases g; cases dx.bl; cases dy.bl
    exact ⟨_, _, rfl, rfl, k _ _ (Same.refl _) (.bl _)⟩
  · cases g
theorem lo_isNB : LO2 W rNotB gIsNB := fun o H x y d e z Q hh dx dy g k => by
  unfold gIsNB at g
  split at g
  · cases g; cases dx.bl; cases dy.bl
    exact ⟨_, _, rfl, rfl, k _ _ (Same.refl _) (.bl _)⟩
  · cases g
theorem gIsB_bb {a b : Bool} : gIsB (.bl a) (.bl b) = some (.bl (decide (a = b))) := rfl
theorem gIsNB_bb {a b : Bool} : gIsNB (.bl a) (.bl b) = some (.bl (!decide (a = b))) := rfl
end
/-! == with a dict beside a text -/
section
variable {W : Wd} {x y : D} {k : List (D × D)} {l : List Nat} {i : Int} {b : Bool} {xs : List D} {a : Addr}
def gEqM : D → D → Option D
  | .dic _, .str _ => some (.bl false)
  | x, y => gEq2 x y
def gNeM : D → D → Option D
  | .dic _, .str _ => some (.bl true)
  | x, y => gNe2 x y
theorem DB.dc {o : Own} {H : Hp} {v : V} {k : List (D × D)} (h : DB W o H v (.dic k)) : ∃ a, v = .ref a ∧ IsDc H a := by
  obtain ⟨a, e, h | h⟩ := h.dic
  · obtain ⟨kvs, h, _⟩ := h
    exact ⟨a, e, .inl ⟨kvs, h⟩⟩
  · obtain ⟨kvs, h, _⟩ := h
    exact ⟨a, e, .inr ⟨kvs, h⟩⟩
theorem lo_eqM : LO2 W (rEqM W.K) gEqM := fun o H x y d e z Q hh dx dy g k => by
  unfold gEqM at g
  split at g
  · cases g
    obtain ⟨a, rfl, h⟩ := dx.dc
    cases dy.str
    exact .inr ⟨a, _, rfl, rfl, h, k _ _ (Same.refl _) (.bl _)⟩
  · exact .inl (lo_eq2 o H x y d e z Q hh dx dy g k)
theorem lo_neM : LO2 W (rNeM W.K) gNeM := fun o H x y d e z Q hh dx dy g k => by
  unfold gNeM at g
  split at g
  · cases g
    obtain ⟨a, rfl, h⟩ := dx.dc
    cases dy.str
    exact .inr ⟨a, _, rfl, rfl, h, k _ _ (Same.refl _) (.bl _)⟩
  · exact .inl (lo_ne2 o H x y d e z Q hh dx dy g k)
theorem gEqM_non : gEqM .non y = gEq2 .non y := rfl
theorem gEqM_bl : gEqM (.bl b) y = gEq2 (.bl b) y := rfl
theorem gEqM_int : gEqM (.int i) y = gEq2 (.int i) y := rfl
theorem gEqM_str : gEqM (.str l) y = gEq2 (.str l) y := rfl
theorem gEqM_lst : gEqM (.lst xs) y = gEq2 (.lst xs) y := rfl
theorem gEqM_tup : gEqM (.tup xs) y = gEq2 (.tup xs) y := rfl
theorem gEqM_dic : gEqM (.dic k) (.str l) = some (.bl false) := rfl
theorem gNeM_non : gNeM .non y = gNe2 .non y := rfl
theorem gNeM_bl : gNeM (.bl b) y = gNe2 (.bl b) y := rfl
theorem gNeM_int : gNeM (.int i) y = gNe2 (.int i) y := rfl
theorem gNeM_str : gNeM (.str l) y = gNe2 (.str l) y := rfl
theorem gNeM_lst : gNeM (.lst xs) y = gNe2 (.lst xs) y := rfl
theorem gNeM_tup : gNeM (.tup xs) y = gNe2 (.tup xs) y := rfl
theorem gNeM_dic : gNeM (.dic k) (.str l) = some (.bl true) := rfl
theorem gEqM_any (hx : okE 60 x = true) (hy : okE 60 y = true) : gEqM x y = some (.bl (eqD x y)) := by
  have e : gEqM x y = gEq2 x y := by cases x <;> first | rfl | cases hx
  rw [e, gEq2_any hx hy]
theorem gNeM_any (hx : okE 60 x = true) (hy : okE 60 y = true) : gNeM x y = some (.bl (!eqD x y)) := by
  have e : gNeM x y = gNe2 x y := by cases x <;> first | rfl | cases hx
  rw [e, gNe2_any hx hy]
/-- may stand beside a text -/
def okS (d : D) : Bool := match d with
  | .dic _ => true
  | d => okE 60 d
theorem eqD_dic : eqD (.dic k) (.str l) = false := by simp [eqD, toP, PyData.eqv]
theorem gEqM_s (hx : okS x = true) (hl : okE 60 (.str l) = true) : gEqM x (.str l) = some (.bl (eqD x (.str l))) := by
  cases x with
  | dic k => rw [eqD_dic]; rfl
  | _ => exact gEqM_any hx hl
theorem gNeM_s (hx : okS x = true) (hl : okE 60 (.str l) = true) : gNeM x (.str l) = some (.bl (!eqD x (.str l))) := by
  cases x with
  | dic k => rw [eqD_dic]; rfl
  | _ => exact gNeM_any hx hl
end
/-- a statement that is not reached -/
def fNever : FS := fun _ _ _ => False
theorem ls_never {W : Wd} {E : WX} {t : TS} : LS W E t fNever := fun _ _ _ _ _ _ _ _ _ _ hf => hf.elim
/-- two promises of one def -/
def spOr (s t : Sp) : Sp := fun vs H Q E => s vs H Q E ∨ t vs H Q E
theorem fn_or {P : Program} {w : World} {K : PySem.W.Frag} {mg : Str → Option Value} {base : Heap} {k : Nat} {f : Addr} {fd : FuncData} {ps : List Str} {s t : Sp} (a : FnG P w K mg base k f fd ps s) (b : FnG P w K mg base k f fd ps t) : FnG P w K mg base k f fd ps (spOr s t) :=
  ⟨fun vs H Q E h => h.elim (a.len vs H Q E) (b.len vs H Q E), fun A outer st H args us vs Q E hr hg e0 hb hv hs => hs.elim (a.run A outer st H args us vs Q E hr hg e0 hb hv) (b.run A outer st H args us vs Q E hr hg e0 hb hv)⟩
mutual
/-- a bound of the length of what is written out -/
def rl : D → Nat
  | .non => 4
  | .bl _ => 5
  | .int i => if i.natAbs < 10 ^ 40 then 41 else 20000000
  | .str l => 10 * l.length + 2
  | .lst xs => rls xs + 3
  | .tup xs => rls xs + 3
  | .lsA _ xs => rls xs + 3
  | .dic kvs => rlk kvs + 3
  | .obj _ _ => 20000000
  | .box => 20000000
  | .exc _ _ _ => 20000000
def rls : List D → Nat
  | [] => 0
  | d :: r => rl d + 2 + rls r
def rlk : List (D × D) → Nat
  | [] => 0
  | (k, d) :: r => rl k + rl d + 4 + rlk r
end
theorem rls_append : ∀ xs ys : List D, rls (xs ++ ys) = rls xs + rls ys
  | [], ys => by simp [rls]
  | x :: xs, ys => by rw [List.cons_append, rls, rls, rls_append xs ys]; omega
theorem rls_le {n : Nat} : ∀ {xs : List D}, (∀ x ∈ xs, rl x ≤ n) → rls xs ≤ xs.length * (n + 2)
  | [], _ => by simp [rls]
  | x :: xs, h => by
    have a := rls_le (xs := xs) fun y hy => h y (List.mem_cons_of_mem _ hy)
    have b := h x List.mem_cons_self
    rw [rls, List.length_cons, Nat.succ_mul]
    omega
theorem rl_int {i : Int} (h : i.natAbs < 10 ^ 40) : rl (.int i) = 41 := by rw [rl, if_pos h]
theorem all_cons {x : PyData} {xs : List PyData} : PyData.showableAll (x :: xs) = (x.showable && PyData.showableAll xs) := by rw [PyData.showableAll]
mutual
theorem rl_of : ∀ (n : Nat) (d : D), okW n d = true → rl d ≤ 16777216 → (toP d).showable = true ∧ (toP d).shown.length ≤ rl d
  | _, .non, _, _ => by
    rw [toP, PyData.showable, PyData.shown, rl]
    exact ⟨rfl, by decide⟩
  | _, .bl b, _, _ => by
    rw [toP, PyData.showable, PyData.shown, rl]
    exact ⟨rfl, by cases b <;> decide⟩
  | _, .int i, _, z => by
    rw [rl] at z ⊢
    rw [toP, PyData.showable, PyData.shown]
    by_cases h : i.natAbs < 10 ^ 40
    · rw [if_pos h]
      refine ⟨decide_eq_true ?_, ?_⟩
      · by_cases h0 : i.natAbs = 0
        · rw [h0]; decide
        · have : i.natAbs < 2 ^ 1920 := Nat.lt_of_lt_of_le h (by decide +kernel)
          exact (Nat.log2_lt h0).mpr this
      · have := int_text_length_le10 (a := i) (k := 40) (by omega) h
        show (Str.ofString (toString i)).length ≤ 41
        rw [PySem.ofString_length]; exact this
    · rw [if_neg h] at z
      omega
  | n, .str l, h, _ => by
    have h : (l.all fun c => decide (c < 1114112)) = true := by cases n <;> exact h
    rw [toP, PyData.showable, PyData.shown, rl]
    refine ⟨rfl, ?_⟩
    have := StrLaws.reprText_len (tx l) (fun c hc => by
      have := List.all_eq_true.mp h c (by simpa using hc)
      have := of_decide_eq_true this
      omega)
    rw [tx_len] at this
    exact this
  | n + 1, .lst xs, h, z => by
    rw [rl] at z ⊢
    obtain ⟨a, b⟩ := rls_of n xs h (by omega)
    rw [toP, PyData.showable, PyData.shown]
    have := listText_len_le (PyData.shownAll (toPs xs))
    exact ⟨a, by omega⟩
  | n + 1, .tup xs, h, z => by
    rw [rl] at z ⊢
    obtain ⟨a, b⟩ := rls_of n xs h (by omega)
    rw [toP, PyData.showable, PyData.shown]
    have := tupleText_len_le (PyData.shownAll (toPs xs))
    exact ⟨a, by omega⟩
  | n + 1, .lsA _ xs, h, z => by
    rw [rl] at z ⊢
    obtain ⟨a, b⟩ := rls_of n xs h (by omega)
    rw [toP, PyData.showable, PyData.shown]
    have := listText_len_le (PyData.shownAll (toPs xs))
    exact ⟨a, by omega⟩
  | n + 1, .dic kvs, h, z => by
    rw [rl] at z ⊢
    obtain ⟨a, b⟩ := rlk_of n kvs h (by omega)
    rw [toP, PyData.showable, PyData.shown]
    have := dictText_len_le (PyData.shownKv (toPk kvs))
    exact ⟨a, by omega⟩
  | 0, .lst _, h, _ => by cases h
  | 0, .tup _, h, _ => by cases h
  | 0, .dic _, h, _ => by cases h
  | 0, .lsA _ _, h, _ => by cases h
  | 0, .obj _ _, h, _ => by cases h
  | n + 1, .obj _ _, h, _ => by cases h
  | 0, .box, h, _ => by cases h
  | n + 1, .box, h, _ => by cases h
  | 0, .exc _ _ _, h, _ => by cases h
  | n + 1, .exc _ _ _, h, _ => by cases h
theorem rls_of : ∀ (n : Nat) (xs : List D), xs.all (okW n) = true → rls xs ≤ 16777216 → PyData.showableAll (toPs xs) = true ∧ ((PyData.shownAll (toPs xs)).map (·.length)).sum + 2 * (PyData.shownAll (toPs xs)).length ≤ rls xs
  | _, [], _, _ => by
    rw [toPs, PyData.showableAll, PyData.shownAll, rls]
    exact ⟨rfl, by simp⟩
  | n, d :: r, h, z => by
    rw [List.all_cons, Bool.and_eq_true] at h
    rw [rls] at z ⊢
    obtain ⟨a, b⟩ := rl_of n d h.1 (by omega)
    obtain ⟨a2, b2⟩ := rls_of n r h.2 (by omega)
    rw [toPs, PyData.showableAll, PyData.shownAll, a, a2]
    refine ⟨rfl, ?_⟩
    rw [List.map_cons, List.sum_cons, List.length_cons]
    omega
theorem rlk_of : ∀ (n : Nat) (xs : List (D × D)), xs.all (fun p => okW n p.1 && okW n p.2) = true → rlk xs ≤ 16777216 → PyData.showableKv (toPk xs) = true ∧ ((PyData.shownKv (toPk xs)).map (·.length)).sum + 2 * (PyData.shownKv (toPk xs)).length ≤ rlk xs
  | _, [], _, _ => by
    rw [toPk, PyData.showableKv, PyData.shownKv, rlk]
    exact ⟨rfl, by simp⟩
  | n, (k, d) :: r, h, z => by
    rw [List.all_cons, Bool.and_eq_true, Bool.and_eq_true] at h
    rw [rlk] at z ⊢
    obtain ⟨a, b⟩ := rl_of n k h.1.1 (by omega)
    obtain ⟨a1, b1⟩ := rl_of n d h.1.2 (by omega)
    obtain ⟨a2, b2⟩ := rlk_of n r h.2 (by omega)
    rw [toPk, PyData.showableKv, PyData.shownKv, a, a1, a2]
    refine ⟨rfl, ?_⟩
    rw [List.map_cons, List.sum_cons, List.length_cons]
    have e : ((toP k).shown ++ ": " ++ (toP d).shown).length = (toP k).shown.length + 2 + (toP d).shown.length := by
      rw [strLen_append, strLen_append]; rfl
    rw [e]
    omega
end
theorem okR_of {d : D} (h : okW 60 d = true) (z : rl d ≤ 16777216) : okR d = true := by
  obtain ⟨a, b⟩ := rl_of 60 d h z
  unfold okR
  rw [h, a, decide_eq_true (Nat.le_trans b z)]
  rfl
/-- plain, may be written out with no more than n signs -/
structure Sh (n : Nat) (d : D) : Prop where
  w : okW 40 d = true
  z : rl d ≤ n
theorem okW_up : ∀ {n m : Nat} {d : D}, okW n d = true → n ≤ m → okW m d = true
  | 0, m, d, h, _ => by
    cases d with
    | non => cases m <;> rfl
    | bl b => cases m <;> rfl
    | int i => cases m <;> rfl
    | str l => cases m <;> exact h
    | _ => cases h
  | n + 1, m, d, h, hm => by
    obtain ⟨m, rfl⟩ : ∃ k, m = k + 1 := ⟨m - 1, by omega⟩
    cases d with
    | lst xs => exact List.all_eq_true.mpr fun x hx => okW_up (List.all_eq_true.mp h x hx) (by omega)
    | tup xs => exact List.all_eq_true.mpr fun x hx => okW_up (List.all_eq_true.mp h x hx) (by omega)
    | lsA _ xs => exact List.all_eq_true.mpr fun x hx => okW_up (List.all_eq_true.mp h x hx) (by omega)
    | dic kvs =>
      exact List.all_eq_true.mpr fun x hx => (by
        have z := List.all_eq_true.mp h x hx
        rw [Bool.and_eq_true] at z ⊢
        exact ⟨okW_up z.1 (by omega), okW_up z.2 (by omega)⟩)
    | non => rfl
    | bl b => rfl
    | int i => rfl
    | str l => exact h
    | _ => cases h
theorem Sh.r {n : Nat} {d : D} (h : Sh n d) (hz : n ≤ 16777216) : okR d = true := okR_of (okW_up h.w (by omega)) (Nat.le_trans h.z hz)
theorem gRepr_of {d : D} (h : okR d = true) : gRepr [d] = some (.str (reprD d)) := by
  show (if okR d = true then _ else _) = _
  rw [if_pos h]
theorem reprD_inj {d e : D} (h : toP d = toP e) : reprD d = reprD e := by unfold reprD; rw [h]
def tupD : D → List D
  | .tup xs => xs
  | _ => []
/-- a value that may be asked for, and written out -/
structure OddD (d : D) : Prop where
  k : kD' d ≠ ""
  l : (tupD d).length ≤ 100000
  e : (tupD d).all (okE 40) = true
  s : okS d = true
  w : okW 40 d = true
  z : rl d ≤ 2000
theorem rl_tup {xs : List D} : rl (.tup xs) = rls xs + 3 := by rw [rl]
theorem rl_lst {xs : List D} : rl (.lst xs) = rls xs + 3 := by rw [rl]
theorem rl_str {l : List Nat} : rl (.str l) = 10 * l.length + 2 := by rw [rl]
theorem rl_non : rl .non = 4 := by rw [rl]
theorem rl_bl {b : Bool} : rl (.bl b) = 5 := by rw [rl]
theorem rl_dic0 : rl (.dic []) = 3 := by rw [rl, rlk]
theorem rls_nil : rls [] = 0 := by rw [rls]
theorem rls_cons {d : D} {r : List D} : rls (d :: r) = rl d + 2 + rls r := by rw [rls]
theorem rl_nat {a : Nat} (h : a < 1000000) : rl (.int (a : Int)) = 41 := rl_int (by
  rw [Int.natAbs_natCast]
  exact Nat.lt_trans h (by decide))
theorem strI_ok : ∀ {a : Nat}, a < 5 → (strI (a : Int)).all (fun c => decide (c < 1114112)) = true ∧ (strI (a : Int)).length ≤ 5
  | 0, _ => by decide +kernel
  | 1, _ => by decide +kernel
  | 2, _ => by decide +kernel
  | 3, _ => by decide +kernel
  | 4, _ => by decide +kernel
  | n + 5, h => by omega
end Pu
set_option Elab.async false
set_option linter.all false
set_option maxRecDepth 100000
set_option maxHeartbeats 4000000
/-! Pu12: where heaps are spoken of and no box is at hand: calls of pure defs, what is written out. -/
namespace Pu
open PySem PySem.Spec PyProof.Rows L2 SL
section
variable {K : PySem.W.Frag} {mg : Str → Option Value}
abbrev W1 (K : PySem.W.Frag) (mg : Str → Option Value) : Wd := ⟨K, mg, none⟩
theorem hv_none {H : Hp} : Hv (W1 K mg) no H = H := by
  funext b
  unfold Hv Off
  rw [if_neg]
  rintro (m | ⟨_, m⟩) <;> cases m
theorem own_ok {pb : Option Addr} {H : Hp} : OwnOk ⟨K, mg, pb⟩ no H := ⟨fun _ _ _ h => (by cases h), fun _ _ h => (by cases h), ⟨0, fun _ _ => rfl⟩⟩
theorem box_none {H : Hp} {c : Nat} : BoxO (W1 K mg) H c := fun _ e => by cases e
theorem st_same {H H' : Hp} (s : St (W1 K mg) H H') : Same H H' := fun b u h => s b u (fun e => by cases e) h
theorem callP {F : PFn} {vs : List V} {ds : List D} {H : Hp} {Q : VK} {E : XK} (dn : DnAll (W1 K mg) H vs ds) (Q' : PQ) (hF : F ds 0 Q' (fun _ _ _ => False))
    (q : ∀ d c' v H', Q' d c' → Same H H' → Dn (W1 K mg) H' v d → Q v H') : spOf K mg F vs H Q E :=
  ⟨none, no, ds, 0, Q', _, own_ok, by rw [hv_none]; exact dn, box_none, hF, fun d c' v H' q' s _ dn' => q d c' v H' q' (st_same s) (by rw [hv_none] at dn'; exact dn'), fun _ _ _ _ _ _ h => h.elim⟩
theorem callN {F : PFn} {vs : List V} {ds : List D} {H : Hp} {Q : VK} {E : XK} (dn : DnAll (W1 K mg) H vs ds) (Q' : PQ) (hF : F ds 0 Q' (fun _ _ _ => False))
    (q : ∀ d c' a H', Q' d c' → H a = none → Same H H' → OwnC (W1 K mg) H' (H' a) d → Q (.ref a) H') : spOfN K mg F vs H Q E :=
  ⟨none, no, ds, 0, Q', _, own_ok, by rw [hv_none]; exact dn, box_none, hF, fun d c' a H' q' n s _ oc => q d c' a H' q' n (st_same s) (oc.mono off_same), fun _ _ _ _ _ _ h => h.elim⟩
theorem w_reprW {H : Hp} {Q : VK} {v : V} {d : D} (h : Dn (W1 K mg) H v d) (ok : okR d = true) (q : Q (.str (toP d).shown) H) : rReprW K [v] H Q := by
  unfold okR at ok
  rw [Bool.and_eq_true, Bool.and_eq_true, decide_eq_true_eq] at ok
  exact ⟨v, toP d, rfl, h.dw d v 60 ok.1.1, ⟨ok.1.2, dp_okW 60 d ok.1.1, ok.2⟩, q⟩
theorem ne_F {α : Type} [DecidableEq α] {x y : α} (h : x = y) : (!decide (x = y)) = false := by rw [decide_eq_true h]; rfl
mutual
/-- plain data is what it is in every world -/
theorem Dn.plain {W : Wd} {M : Hp} (e : W.K = K) : ∀ (d : D) (v : V) (n : Nat), Dn W M v d → okW n d = true → Dn (W1 K mg) M v d
  | .non, _, _, h, _ => by cases h; exact .non
  | .bl b, _, _, h, _ => by cases h; exact .bl b
  | .int i, _, _, h, _ => by cases h; exact .int i
  | .str l, _, _, h, _ => by cases h; exact .str l
  | .lst xs, _, n, h, z => by
    cases h with
    | lst h1 h2 =>
      cases n with
      | zero => cases z
      | succ n => exact .lst h1 (DnAll.plain e xs _ n h2 z)
  | .tup xs, _, n, h, z => by
    cases h with
    | tup h1 h2 =>
      cases n with
      | zero => cases z
      | succ n => exact .tup (e ▸ h1) (DnAll.plain e xs _ n h2 z)
  | .lsA _ xs, _, n, h, z => by
    cases h with
    | lsA h1 h2 =>
      cases n with
      | zero => cases z
      | succ n => exact .lsA h1 (DnAll.plain e xs _ n h2 z)
  | .dic ds, _, n, h, z => by
    cases n with
    | zero => cases z
    | succ n =>
      cases h with
      | dK h1 h2 => exact .dK h1 (DnKv.plain e ds _ n h2 z)
      | dT h1 h2 => exact .dT h1 (DnKv.plain e ds _ n h2 z)
  | .obj _ _, _, n, _, z => by cases n <;> cases z
  | .box, _, n, _, z => by cases n <;> cases z
  | .exc _ _ _, _, n, _, z => by cases n <;> cases z
theorem DnAll.plain {W : Wd} {M : Hp} (e : W.K = K) : ∀ (ds : List D) (vs : List V) (n : Nat), DnAll W M vs ds → ds.all (okW n) = true → DnAll (W1 K mg) M vs ds
  | [], _, _, h, _ => by cases h; exact .nil
  | d :: ds, _, n, h, z => by
    cases h with
    | cons h1 h2 =>
      rw [List.all_cons, Bool.and_eq_true] at z
      exact .cons (Dn.plain e d _ n h1 z.1) (DnAll.plain e ds _ n h2 z.2)
theorem DnKv.plain {W : Wd} {M : Hp} (e : W.K = K) : ∀ (ds : List (D × D)) (vs : List (D × V)) (n : Nat), DnKv W M vs ds → ds.all (fun p => okW n p.1 && okW n p.2) = true → DnKv (W1 K mg) M vs ds
  | [], _, _, h, _ => by cases h; exact .nil
  | (k, d) :: ds, _, n, h, z => by
    cases h with
    | cons h1 h2 =>
      rw [List.all_cons, Bool.and_eq_true, Bool.and_eq_true] at z
      exact .cons (Dn.plain e d _ n h1 z.1.2) (DnKv.plain e ds _ n h2 z.2)
end
/-- a promise of heaps, kept as one of data that gives back a flat thing -/
theorem sp_flat {s : Sp} {F : PFn} (h : ∀ (pb : Option Addr) (o : Own) (H : Hp) (vs : List V) (ds : List D) (c : Nat) (Q' : PQ) (X : PXc) (Q : VK) (E : XK), DnAll ⟨K, mg, pb⟩ (Hv ⟨K, mg, pb⟩ o H) vs ds → F ds c Q' X →
      (∀ v d H', CD v d → Q' d c → Same H H' → Q v H') → s vs H Q E) : ∀ vs H Q E, spOf K mg F vs H Q E → s vs H Q E := fun vs H Q E ⟨pb, o, ds, c, Q', X, ok, dn, b, hF, hq, hx⟩ =>
  h pb o H vs ds c Q' X Q E dn hF fun v d H' cd q s => hq d c v H' q (.of s) (b.same s) cd.dn
end
end Pu
set_option Elab.async false
set_option linter.all false
set_option maxRecDepth 100000
set_option maxHeartbeats 4000000
namespace K04
open PySem PySem.Spec PyProof.Rows L2 SL


def top (i : Nat) : Stmt := PySem.Challenge.pw_spoiltline_k04_kinds_and_passings.main.body.getD i (.Pass ⟨0, 0, 0, 0⟩)
abbrev s_InvalidPassing___init__ : Stmt := inClass (top 2) 0
abbrev N_InvalidPassing___init__ : List Str := ["self", "given"]
theorem sc_InvalidPassing___init__ : FnScope N_InvalidPassing___init__ ["self", "given"] (defScope s_InvalidPassing___init__) := ⟨rfl, rfl, rfl, by decide +kernel, rfl, by decide +kernel, by decide +kernel⟩
abbrev s_InvalidSigns___init__ : Stmt := inClass (top 3) 0
abbrev N_InvalidSigns___init__ : List Str := ["self", "given"]
theorem sc_InvalidSigns___init__ : FnScope N_InvalidSigns___init__ ["self", "given"] (defScope s_InvalidSigns___init__) := ⟨rfl, rfl, rfl, by decide +kernel, rfl, by decide +kernel, by decide +kernel⟩
abbrev s_is_integer : Stmt := top 6
abbrev N_is_integer : List Str := ["value"]
theorem sc_is_integer : FnScope N_is_integer ["value"] (defScope s_is_integer) := ⟨rfl, rfl, rfl, by decide +kernel, rfl, by decide +kernel, by decide +kernel⟩
abbrev s_is_index : Stmt := top 7
abbrev N_is_index : List Str := ["value", "many"]
theorem sc_is_index : FnScope N_is_index ["value", "many"] (defScope s_is_index) := ⟨rfl, rfl, rfl, by decide +kernel, rfl, by decide +kernel, by decide +kernel⟩
abbrev s_is_signs : Stmt := top 8
abbrev N_is_signs : List Str := ["value"]
theorem sc_is_signs : FnScope N_is_signs ["value"] (defScope s_is_signs) := ⟨rfl, rfl, rfl, by decide +kernel, rfl, by decide +kernel, by decide +kernel⟩
abbrev s_is_sign : Stmt := top 9
abbrev N_is_sign : List Str := ["value", "signs"]
theorem sc_is_sign : FnScope N_is_sign ["value", "signs"] (defScope s_is_sign) := ⟨rfl, rfl, rfl, by decide +kernel, rfl, by decide +kernel, by decide +kernel⟩
abbrev s_check_signs : Stmt := top 10
abbrev N_check_signs : List Str := ["signs"]
theorem sc_check_signs : FnScope N_check_signs ["signs"] (defScope s_check_signs) := ⟨rfl, rfl, rfl, by decide +kernel, rfl, by decide +kernel, by decide +kernel⟩
abbrev s_is_kind : Stmt := top 12
abbrev N_is_kind : List Str := ["value", "signs", "part"]
theorem sc_is_kind : FnScope N_is_kind ["value", "signs"] (defScope s_is_kind) := ⟨rfl, rfl, rfl, by decide +kernel, rfl, by decide +kernel, by decide +kernel⟩
abbrev s_all_kinds : Stmt := top 13
abbrev N_all_kinds : List Str := ["signs", "lost", "put", "a", "b"]
theorem sc_all_kinds : FnScope N_all_kinds ["signs"] (defScope s_all_kinds) := ⟨rfl, rfl, rfl, by decide +kernel, rfl, by decide +kernel, by decide +kernel⟩
abbrev s_is_same : Stmt := top 14
abbrev N_is_same : List Str := ["value", "signs"]
theorem sc_is_same : FnScope N_is_same ["value", "signs"] (defScope s_is_same) := ⟨rfl, rfl, rfl, by decide +kernel, rfl, by decide +kernel, by decide +kernel⟩
abbrev s_is_passing : Stmt := top 15
abbrev N_is_passing : List Str := ["value", "signs", "step"]
theorem sc_is_passing : FnScope N_is_passing ["value", "signs"] (defScope s_is_passing) := ⟨rfl, rfl, rfl, by decide +kernel, rfl, by decide +kernel, by decide +kernel⟩
abbrev s_check_passing : Stmt := top 16
abbrev N_check_passing : List Str := ["passing", "signs"]
theorem sc_check_passing : FnScope N_check_passing ["passing", "signs"] (defScope s_check_passing) := ⟨rfl, rfl, rfl, by decide +kernel, rfl, by decide +kernel, by decide +kernel⟩
abbrev s_sent : Stmt := top 17
abbrev N_sent : List Str := ["passing", "step"]
theorem sc_sent : FnScope N_sent ["passing"] (defScope s_sent) := ⟨rfl, rfl, rfl, by decide +kernel, rfl, by decide +kernel, by decide +kernel⟩
abbrev s_came : Stmt := top 18
abbrev N_came : List Str := ["passing", "step"]
theorem sc_came : FnScope N_came ["passing"] (defScope s_came) := ⟨rfl, rfl, rfl, by decide +kernel, rfl, by decide +kernel, by decide +kernel⟩
abbrev s_errors_in : Stmt := top 19
abbrev N_errors_in : List Str := ["passing", "step"]
theorem sc_errors_in : FnScope N_errors_in ["passing"] (defScope s_errors_in) := ⟨rfl, rfl, rfl, by decide +kernel, rfl, by decide +kernel, by decide +kernel⟩
abbrev s__law_cell : Stmt := top 21
abbrev N__law_cell : List Str := ["script", "k"]
theorem sc__law_cell : FnScope N__law_cell ["script", "k"] (defScope s__law_cell) := ⟨rfl, rfl, rfl, by decide +kernel, rfl, by decide +kernel, by decide +kernel⟩
abbrev s__law_box : Stmt := top 22
abbrev N__law_box : List Str := ["great"]
theorem sc__law_box : FnScope N__law_box ["great"] (defScope s__law_box) := ⟨rfl, rfl, rfl, by decide +kernel, rfl, by decide +kernel, by decide +kernel⟩
abbrev s__law_take : Stmt := top 23
abbrev N__law_take : List Str := ["box", "many", "mixed", "digit"]
theorem sc__law_take : FnScope N__law_take ["box", "many"] (defScope s__law_take) := ⟨rfl, rfl, rfl, by decide +kernel, rfl, by decide +kernel, by decide +kernel⟩
abbrev s__law_mixed : Stmt := top 24
abbrev N__law_mixed : List Str := ["box", "items", "left", "found"]
theorem sc__law_mixed : FnScope N__law_mixed ["box", "items"] (defScope s__law_mixed) := ⟨rfl, rfl, rfl, by decide +kernel, rfl, by decide +kernel, by decide +kernel⟩
abbrev s__law_is_signs : Stmt := top 25
abbrev N__law_is_signs : List Str := ["value"]
theorem sc__law_is_signs : FnScope N__law_is_signs ["value"] (defScope s__law_is_signs) := ⟨rfl, rfl, rfl, by decide +kernel, rfl, by decide +kernel, by decide +kernel⟩
abbrev s__law_is_sign : Stmt := top 26
abbrev N__law_is_sign : List Str := ["value", "signs"]
theorem sc__law_is_sign : FnScope N__law_is_sign ["value", "signs"] (defScope s__law_is_sign) := ⟨rfl, rfl, rfl, by decide +kernel, rfl, by decide +kernel, by decide +kernel⟩
abbrev s__law_is_kind : Stmt := top 27
abbrev N__law_is_kind : List Str := ["value", "signs"]
theorem sc__law_is_kind : FnScope N__law_is_kind ["value", "signs"] (defScope s__law_is_kind) := ⟨rfl, rfl, rfl, by decide +kernel, rfl, by decide +kernel, by decide +kernel⟩
abbrev s__law_is_passing : Stmt := top 28
abbrev N__law_is_passing : List Str := ["value", "signs", "step", "same"]
theorem sc__law_is_passing : FnScope N__law_is_passing ["value", "signs"] (defScope s__law_is_passing) := ⟨rfl, rfl, rfl, by decide +kernel, rfl, by decide +kernel, by decide +kernel⟩
abbrev s__law_step : Stmt := top 29
abbrev N__law_step : List Str := ["box", "signs", "way", "a", "b"]
theorem sc__law_step : FnScope N__law_step ["box", "signs"] (defScope s__law_step) := ⟨rfl, rfl, rfl, by decide +kernel, rfl, by decide +kernel, by decide +kernel⟩
abbrev s__law_passing : Stmt := top 30
abbrev N__law_passing : List Str := ["box", "signs", "many", "k"]
theorem sc__law_passing : FnScope N__law_passing ["box", "signs"] (defScope s__law_passing) := ⟨rfl, rfl, rfl, by decide +kernel, rfl, by decide +kernel, by decide +kernel⟩
abbrev s__law_odd : Stmt := top 31
abbrev N__law_odd : List Str := ["box", "step", "signs", "word", "a", "way", "menu"]
theorem sc__law_odd : FnScope N__law_odd ["box", "step", "signs"] (defScope s__law_odd) := ⟨rfl, rfl, rfl, by decide +kernel, rfl, by decide +kernel, by decide +kernel⟩
abbrev s__law_near : Stmt := top 32
abbrev N__law_near : List Str := ["box", "passing", "signs", "step", "way", "at", "menu"]
theorem sc__law_near : FnScope N__law_near ["box", "passing", "signs"] (defScope s__law_near) := ⟨rfl, rfl, rfl, by decide +kernel, rfl, by decide +kernel, by decide +kernel⟩
abbrev s__law_ask : Stmt := top 33
abbrev N__law_ask : List Str := ["door", "value", "e"]
theorem sc__law_ask : FnScope N__law_ask ["door", "value"] (defScope s__law_ask) := ⟨rfl, rfl, rfl, by decide +kernel, rfl, by decide +kernel, by decide +kernel⟩
abbrev s__law_doors_right : Stmt := top 34
abbrev N__law_doors_right : List Str := ["value", "due", "door", "given", "told", "step"]
theorem sc__law_doors_right : FnScope N__law_doors_right ["value"] (defScope s__law_doors_right) := ⟨rfl, rfl, rfl, by decide +kernel, rfl, by decide +kernel, by decide +kernel⟩
abbrev s__law_all_right : Stmt := top 35
abbrev N__law_all_right : List Str := ["signs", "wrong", "due", "a", "told", "e", "b", "kind"]
theorem sc__law_all_right : FnScope N__law_all_right ["signs", "wrong"] (defScope s__law_all_right) := ⟨rfl, rfl, rfl, by decide +kernel, rfl, by decide +kernel, by decide +kernel⟩
abbrev s__law_right : Stmt := top 36
abbrev N__law_right : List Str := ["box", "signs", "passing", "wrong", "value", "steps", "step", "near", "text", "k"]
theorem sc__law_right : FnScope N__law_right ["box"] (defScope s__law_right) := ⟨rfl, rfl, rfl, by decide +kernel, rfl, by decide +kernel, by decide +kernel⟩
abbrev s_law : Stmt := top 37
abbrev N_law : List Str := ["script", "k"]
theorem sc_law : FnScope N_law ["script"] (defScope s_law) := ⟨rfl, rfl, rfl, by decide +kernel, rfl, by decide +kernel, by decide +kernel⟩
structure Txt (K : PySem.W.Frag) (mg : Str → Option Value) : Prop where
  d_is_integer : DefAt K mg "is_integer" s_is_integer ["value"]
  d_is_index : DefAt K mg "is_index" s_is_index ["value", "many"]
  d_is_signs : DefAt K mg "is_signs" s_is_signs ["value"]
  d_is_sign : DefAt K mg "is_sign" s_is_sign ["value", "signs"]
  d_check_signs : DefAt K mg "check_signs" s_check_signs ["signs"]
  d_is_kind : DefAt K mg "is_kind" s_is_kind ["value", "signs"]
  d_all_kinds : DefAt K mg "all_kinds" s_all_kinds ["signs"]
  d_is_same : DefAt K mg "is_same" s_is_same ["value", "signs"]
  d_is_passing : DefAt K mg "is_passing" s_is_passing ["value", "signs"]
  d_check_passing : DefAt K mg "check_passing" s_check_passing ["passing", "signs"]
  d_sent : DefAt K mg "sent" s_sent ["passing"]
  d_came : DefAt K mg "came" s_came ["passing"]
  d_errors_in : DefAt K mg "errors_in" s_errors_in ["passing"]
  d__law_cell : DefAt K mg "_law_cell" s__law_cell ["script", "k"]
  d__law_box : DefAt K mg "_law_box" s__law_box ["great"]
  d__law_take : DefAt K mg "_law_take" s__law_take ["box", "many"]
  d__law_is_signs : DefAt K mg "_law_is_signs" s__law_is_signs ["value"]
  d__law_is_sign : DefAt K mg "_law_is_sign" s__law_is_sign ["value", "signs"]
  d__law_is_kind : DefAt K mg "_law_is_kind" s__law_is_kind ["value", "signs"]
  d__law_is_passing : DefAt K mg "_law_is_passing" s__law_is_passing ["value", "signs"]
  d__law_step : DefAt K mg "_law_step" s__law_step ["box", "signs"]
  d__law_passing : DefAt K mg "_law_passing" s__law_passing ["box", "signs"]
  d__law_odd : DefAt K mg "_law_odd" s__law_odd ["box", "step", "signs"]
  d__law_near : DefAt K mg "_law_near" s__law_near ["box", "passing", "signs"]
  d__law_ask : DefAt K mg "_law_ask" s__law_ask ["door", "value"]
  d__law_doors_right : DefAt K mg "_law_doors_right" s__law_doors_right ["value"]
  d__law_all_right : DefAt K mg "_law_all_right" s__law_all_right ["signs", "wrong"]
  d__law_right : DefAt K mg "_law_right" s__law_right ["box"]
  d_law : DefAt K mg "law" s_law ["script"]
  x_InvalidPassing : ErrAt K mg "InvalidPassing"
  x_InvalidSigns : ErrAt K mg "InvalidSigns"
  o_InvalidPassing_InvalidSigns : NotErr K mg "InvalidPassing" "InvalidSigns"
  o_InvalidSigns_InvalidPassing : NotErr K mg "InvalidSigns" "InvalidPassing"
  b_InvalidPassing : Under K mg "InvalidPassing"
  b_InvalidSigns : Under K mg "InvalidSigns"
  n_abs : mg "abs" = none
  n_all : mg "all" = none
  n_bool : mg "bool" = none
  n_int : mg "int" = none
  n_isinstance : mg "isinstance" = none
  n_len : mg "len" = none
  n_list : mg "list" = none
  n_max : mg "max" = none
  n_min : mg "min" = none
  n_range : mg "range" = none
  n_repr : mg "repr" = none
  n_str : mg "str" = none
  n_sum : mg "sum" = none
  n_tuple : mg "tuple" = none
  g_MOST_SIGNS : ∃ t, mg "MOST_SIGNS" = some (.int 5 t)
end K04
set_option Elab.async false
set_option linter.all false
set_option maxRecDepth 100000
set_option maxHeartbeats 4000000
namespace K04
open PySem PySem.Spec PyProof.Rows L2 SL
local macro_rules | `(tactic| walk_at "sz") => `(tactic| first
  | assumption
  | omega
  | (simp only [List.length_cons, List.length_nil, List.length_append, List.length_map, List.length_take, List.length_drop, List.length_reverse, List.length_replicate, List.length_range, tx_len, sizeLine_eq, CMul, CDiv, Nat.reduceAdd, Nat.reduceLeDiff]; first | done | omega)
  | decide)
local macro_rules | `(tactic| walk_at "ne") => `(tactic| first
  | assumption
  | exact Ne.symm (by assumption)
  | (refine ne_of_none (H := ?H0) (o := ?oo) ?hh ?hn; (case hn => assumption); (case hh => walk_at "hget"))
  | (refine Ne.symm (ne_of_none (H := ?H0) (o := ?oo) ?hh ?hn); (case hn => assumption); (case hh => walk_at "hget")))
local macro_rules | `(tactic| walk_at "hget") => `(tactic| first
  | assumption
  | exact upd_same
  | (refine (upd_ne ?n).trans ?g; (case n => walk_at "ne"); (case g => walk_at "hget"))
  | (refine fr_get (p := ?pp) (H := ?H0) ?f ?g ?n; (case f => assumption); (case g => walk_at "hget"); (case n => walk_at "ne"))
  | (refine same_get (H := ?H0) ?f ?g; (case f => assumption); (case g => walk_at "hget")))
local macro_rules | `(tactic| walk_at "vget") => `(tactic| first
  | assumption
  | (refine SqL.of ?g; (case g => walk_at "hget"))
  | (refine SqT.of ?g; (case g => walk_at "hget"))
  | (refine sql_new ?n ?g; (case n => assumption); (case g => walk_at "vget"))
  | (refine sqt_new ?n ?g; (case n => assumption); (case g => walk_at "vget"))
  | (refine sql_upd ?n ?g; (case n => walk_at "ne"); (case g => walk_at "vget"))
  | (refine sqt_upd ?n ?g; (case n => walk_at "ne"); (case g => walk_at "vget"))
  | (refine Same.seq (H := ?H0) ?f ?g; (case f => assumption); (case g => walk_at "vget"))
  | (refine Same.seqT (H := ?H0) ?f ?g; (case f => assumption); (case g => walk_at "vget"))
  | (refine fr_sql (b := ?pp) (H := ?H0) ?f ?g ?n; (case f => assumption); (case g => walk_at "vget"); (case n => walk_at "ne"))
  | (refine fr_sqt (b := ?pp) (H := ?H0) ?f ?g ?n; (case f => assumption); (case g => walk_at "vget"); (case n => walk_at "ne")))
local macro_rules | `(tactic| walk_at "at") => `(tactic| first
  | assumption
  | rfl
  | (refine atI_n ?h; (case h => first | assumption | rfl))
  | (refine atI_i ?h0 ?h; (case h0 => omega); (case h => first | assumption | rfl)))
local macro_rules | `(tactic| walk_at "v1") => `(tactic| first
  | with_reducible refine w_seq ?_
  | with_reducible refine w_enx ?_
  | with_reducible refine w_ert ?_
  | with_reducible refine w_asg ?_
  | ((with_reducible refine w_var (v := ?vv) ?h ?_); (case h => exact rfl))
  | with_reducible refine w_op ?_
  | with_reducible refine w_c ?_
  | with_reducible refine w_cons ?_
  | with_reducible refine w_nil ?_
  | with_reducible refine w_cb ?_
  | with_reducible refine w_call ?_
  | with_reducible refine w_k ?_
  | with_reducible refine w_i ?_
  | with_reducible refine w_two ?_
  | ((with_reducible refine w_name ?_); (try simp only [List.set_cons_zero, List.set_cons_succ]))
  | with_reducible refine w_ifS ?_
  | with_reducible refine w_ret ?_
  | with_reducible refine w_drop ?_
  | with_reducible refine w_test ?_
  | with_reducible refine w_B ?_
  | with_reducible refine iteT ?_
  | with_reducible refine iteF ?_
  | with_reducible refine w_same ?_
  | ((with_reducible refine w_ifT ?h ?_); (case h => first | rfl | assumption))
  | ((with_reducible refine w_ifF ?h ?_); (case h => first | rfl | assumption))
  | ((with_reducible refine w_diff ?_ ?h); (case h => decide +kernel))
  | ((with_reducible refine w_wp ?h ?_); (case h => rfl); (try simp only [wipe, List.set_cons_zero, List.set_cons_succ, List.foldl_cons, List.foldl_nil]))
  | ((with_reducible refine w_acc (acc := ?aa) ?h ?_ ?z); (case h => walk_at "hget"); (case z => walk_at "sz"))
  | with_reducible refine w_addI ?_
  | with_reducible refine w_subI ?_
  | with_reducible refine w_lt ?_
  | with_reducible refine w_le ?_
  | with_reducible refine w_gt ?_
  | with_reducible refine w_ge ?_
  | with_reducible refine w_eqI ?_
  | with_reducible refine w_neI ?_
  | with_reducible refine w_eqS ?_
  | with_reducible refine w_neS ?_
  | with_reducible refine w_neB ?_
  | ((with_reducible refine w_mulI ?_ ?h); (case h => walk_at "sz"))
  | ((with_reducible refine w_divI ?_ ?h); (case h => walk_at "sz"))
  | ((with_reducible refine w_addS ?_ ?h); (case h => walk_at "sz"))
  | ((with_reducible refine w_mulS ?_ ?h); (case h => walk_at "sz"))
  | ((with_reducible refine w_ixL (xs := ?xx) (v := ?vv) ?h ?i ?_); (case h => walk_at "vget"); (case i => walk_at "at"))
  | ((with_reducible refine w_ixT (xs := ?xx) (v := ?vv) ?h ?i ?_); (case h => walk_at "vget"); (case i => walk_at "at"))
  | ((with_reducible refine w_ixS (c := ?cc) ?i ?_ ?h); (case i => walk_at "at"); (case h => walk_at "sz"))
  | ((with_reducible refine w_lenS' ?_ ?h); (case h => walk_at "sz"))
  | ((with_reducible refine w_lenL' (xs := ?xx) ?h ?_); (case h => walk_at "vget"))
  | ((with_reducible refine w_lenT' (xs := ?xx) ?h ?_); (case h => walk_at "vget"))
  | with_reducible refine w_isnN ?_
  | with_reducible refine w_isnI ?_
  | with_reducible refine w_isnS ?_
  | with_reducible refine w_isnR ?_
  | with_reducible refine w_isnB ?_
  | with_reducible refine w_isoN ?_
  | with_reducible refine w_isoI ?_
  | with_reducible refine w_isoS ?_
  | with_reducible refine w_isoR ?_
  | with_reducible refine w_isoB ?_
  | with_reducible refine w_abs ?_
  | with_reducible refine w_int ?_
  | with_reducible refine w_intB ?_
  | with_reducible refine w_min2 ?_
  | with_reducible refine w_max2 ?_
  | with_reducible refine w_min3 ?_
  | with_reducible refine w_sl ?_
  | with_reducible refine w_np ?_
  | with_reducible refine w_part ?_
  | ((with_reducible refine w_sStN ?_ ?h); (case h => walk_at "sz"))
  | ((with_reducible refine w_sSfN ?_ ?h); (case h => walk_at "sz"))
  | ((with_reducible refine w_sSt ?_ ?h); (case h => walk_at "sz"))
  | ((with_reducible refine w_sSf ?_ ?h); (case h => walk_at "sz"))
  | with_reducible refine w_and ?_
  | with_reducible refine w_or ?_
  | with_reducible refine w_not ?_
  | with_reducible refine w_andV ?_
  | with_reducible refine w_orV ?_
  | with_reducible refine w_notV ?_
  | with_reducible refine w_ifE ?_
  | with_reducible refine w_tup ?_
  | with_reducible refine w_lst ?_
  | with_reducible refine w_chain ?_
  | ((with_reducible refine w_par ?_); (try simp only [List.set_cons_zero, List.set_cons_succ]))
  | ((with_reducible refine w_par3 ?_); (try simp only [List.set_cons_zero, List.set_cons_succ]))
  | with_reducible refine w_three ?_
  | with_reducible refine w_un ?_
  | with_reducible refine w_neg ?_
  | with_reducible refine w_next ?_
  | with_reducible refine w_ebk ?_
  | with_reducible refine w_ect ?_
  | with_reducible refine w_for ?_
  | with_reducible refine w_lc ?_
  | with_reducible refine w_yes ?_
  | with_reducible refine w_il ?_
  | with_reducible refine w_it ?_
  | with_reducible refine w_isx ?_
  | with_reducible refine w_ir1 ?_
  | with_reducible refine w_ir2 ?_
  | with_reducible refine w_ies ?_
  | with_reducible refine w_ir3 ?_
  | with_reducible refine w_s1 ?_
  | with_reducible refine w_s1l ?_
  | ((with_reducible refine w_r1 ?_ ?h); (case h => walk_at "sz"))
  | ((with_reducible refine w_r2 ?_ ?h); (case h => walk_at "sz"))
  | ((with_reducible refine w_l1 (xs := ?xx) ?h ?_); (case h => walk_at "vget"))
  | ((with_reducible refine w_t1 (xs := ?xx) ?h ?_); (case h => walk_at "vget"))
  | ((with_reducible refine w_isL (xs := ?xx) ?h ?_); (case h => walk_at "vget"))
  | with_reducible refine w_isS ?_
  | ((with_reducible refine w_app (xs := ?xx) ?h ?_ ?z); (case h => walk_at "hget"); (case z => walk_at "sz"))
  | with_reducible refine w_inC ?_
  | with_reducible refine w_rev ?_
  | ((with_reducible refine w_rev1S ?_ ?h); (case h => walk_at "sz"))
  | with_reducible refine w_lrg ?_
  | with_reducible refine w_brk ?_
  | with_reducible refine w_cont ?_
  | with_reducible refine w_retN ?_
  | with_reducible refine w_bm ?_
  | with_reducible refine w_bm0 ?_
  | with_reducible refine w_m1 ?_
  | with_reducible refine w_sub ?_
  | ((with_reducible refine w_setL (xs := ?xx) (j := ?jj) ?h ?i ?_); (case h => walk_at "hget"); (case i => first | rfl | assumption); (try simp only [Int.reduceToNat, List.set_cons_zero, List.set_cons_succ]))
  | with_reducible refine w_ip ?_
  | with_reducible refine w_gnil ?_
  | with_reducible refine w_gcons ?_
  | ((with_reducible refine w_gL (xs := ?xx) ?h ?_ ?n); (case h => walk_at "vget"); (case n => rfl))
  | ((with_reducible refine w_gT (xs := ?xx) ?h ?_ ?n); (case h => walk_at "vget"); (case n => rfl))
  | ((with_reducible refine w_aug (v := ?vv) ?h ?_); (case h => exact rfl)))
local macro_rules | `(tactic| walk_at "v") => `(tactic| repeat walk_at "v1")
local macro_rules | `(tactic| walk_at "v0") => `(tactic| (simp only [L2.start, cxK, ends_rt, List.map_cons, List.map_nil, List.length_cons, List.length_nil, Nat.reduceAdd, Nat.reduceSub, List.replicate_succ, List.replicate_zero, List.append_nil, List.cons_append, List.nil_append]; walk_at "v"))
local macro_rules | `(tactic| walk_at "u1") => `(tactic| first
  | with_reducible refine w_seqA ?_
  | with_reducible refine w_seqD ?_
  | with_reducible refine w_seqP ?_
  | with_reducible refine w_seqP3 ?_
  | with_reducible refine w_seqG ?_
  | ((fail_if_success (with_reducible refine w_seq ?_)); walk_at "v1"))
local macro_rules | `(tactic| walk_at "u") => `(tactic| repeat walk_at "u1")
local macro_rules | `(tactic| walk_at "u0") => `(tactic| (simp only [L2.start, cxK, ends_rt, List.map_cons, List.map_nil, List.length_cons, List.length_nil, Nat.reduceAdd, Nat.reduceSub, List.replicate_succ, List.replicate_zero, List.append_nil, List.cons_append, List.nil_append]; walk_at "u"))
local macro_rules | `(tactic| walk_at "t1") => `(tactic| ((fail_if_success (with_reducible refine w_seq ?_)); walk_at "v1"))
local macro_rules | `(tactic| walk_at "t") => `(tactic| repeat walk_at "t1")

section
variable {P : Program} {w : World} {K : PySem.W.Frag} {mg : Str → Option Value} {base : Heap}
def spCellG (K : PySem.W.Frag) : Sp := fun vs H Q _ => ∃ (a : Addr) (ns : List Int) (k : Nat), vs = [.ref a, .int k] ∧ SqL K H a (ns.map V.int) ∧ k ≤ 1000 ∧ ∀ i H', Same H H' → Q (.int i) H'
theorem ok_cell (T : Txt K mg) : Cal P w K mg base 1 "_law_cell" ["script", "k"] (spCellG K) := by
  refine cal0 T.d__law_cell sc__law_cell (by rintro vs H Q E ⟨a, ns, k, rfl, _⟩; rfl) (fun cdv f A outer s H vs Q E hr hgd h => ?_)
  obtain ⟨a, ns, k, rfl, hS, hk, q⟩ := h
  refine ⟨_, (pss_one (ps_ret (pe_ifExp (pt_cmpR uLt (pv 1) (pe_callB (kLen K rfl) (by rfl) T.n_len (by decide +kernel) (pa_cons (pv 0) pa_nil)) (nomark _)) (pe_ix (kIx K rfl) (pv 0) (pv 1) (fun _ _ => rfl)) (pe_op (kAdd K rfl) (pe_op uMul pe_int (pv 1)) (pe_op uMod (pe_callB (kSum K rfl rfl) (by rfl) T.n_sum (by decide +kernel) (pa_cons (pe_slice (kSl K rfl) (pv 0) po_none (po_some pe_int)) pa_nil)) pe_int))))), ?_⟩
  walk_at "v0"
  refine w_if (fun h => ?_) (fun h => ?_)
  · simp only [decide_eq_true_eq, List.length_map] at h
    have hk2 : k < ns.length := by omega
    have g1 := int_at hk2
    walk_at "v"
    exact q _ _ (Same.refl _)
  · walk_at "v"
    refine w_sLt (by walk_at "vget") (by omega) fun p hp => ?_
    rw [cut1]
    walk_at "v"
    refine w_sum (SqL.of upd_same) ?_
    walk_at "v"
    refine w_modN (by omega) fun r _ h1 h2 => ?_
    walk_at "v"
    exact q _ _ (same_new hp)
def spBox : Sp := fun vs H Q _ => ∃ (i : Int), vs = [.int i] ∧ ∀ p H', Same H H' → H p = none → Box H' p 0 → Q (.ref p) H'
theorem ok_box (T : Txt K mg) : Cal P w K mg base 1 "_law_box" ["great"] spBox := by
  refine cal0 T.d__law_box sc__law_box (by rintro vs H Q E ⟨i, rfl, _⟩; rfl) (fun cdv f A outer s H vs Q E hr hgd h => ?_)
  obtain ⟨i, rfl, q⟩ := h
  refine ⟨_, (pss_one (ps_ret (pe_lst (pa_cons (pe_callB uAbs (by rfl) T.n_abs (by decide +kernel) (pa_cons (pv 0) pa_nil)) (pa_cons (pe_cmpR uGe (pe_callB uAbs (by rfl) T.n_abs (by decide +kernel) (pa_cons (pv 0) pa_nil)) (pe_op uPow pe_int pe_int) (nomark _)) (pa_cons (pe_op uMod (pe_callTy uInt (by rfl) T.n_int (by decide +kernel) (pa_cons (pe_callB uAbs (by rfl) T.n_abs (by decide +kernel) (pa_cons (pv 0) pa_nil)) pa_nil)) pe_int) (pa_cons pe_int pa_nil))))))), ?_⟩
  walk_at "v0"
  refine w_powI ?_ (by omega)
  walk_at "v"
  refine w_modN (by omega) fun r _ h1 h2 => ?_
  walk_at "v"
  refine ⟨by walk_at "sz", fun p hp => ?_⟩
  exact q p _ (same_new hp) hp ⟨_, _, r, 0, upd_same, by split <;> omega, h1, by omega, Nat.le_refl _⟩
def spTake : Sp := fun vs H Q _ => ∃ (p : Addr) (n : Int) (c : Nat), vs = [.ref p, .int n] ∧ Box H p c ∧ c ≤ 100000000 ∧ 0 < n ∧ n < 1073741824 ∧
  ∀ r H', 0 ≤ r → r < n → Box H' p (c + 1) → Fr p H H' → Q (.int r) H'
theorem ok_take (T : Txt K mg) : Cal P w K mg base 1 "_law_take" ["box", "many"] spTake := by
  refine cal0 T.d__law_take sc__law_take (by rintro vs H Q E ⟨p, n, c, rfl, _⟩; rfl) (fun cdv f A outer s H vs Q E hr hgd h => ?_)
  obtain ⟨p, n, c, rfl, ⟨g, b, m, d, hb, hg, hm, hm2, hd⟩, hc, hn, hn2, q⟩ := h
  refine ⟨_, (pss_cons (ps_if (PW.pt (pw_and (pt_val (pe_ix (kIx K rfl) (pv 0) pe_int (fun _ _ => rfl))) (pw_and1 (pt_cmpR uGt (pe_ix (kIx K rfl) (pv 0) pe_int (fun _ _ => rfl)) pe_int (nomark _))))) (pss_cons (ps_set (i := 3) sc__law_take.nd rfl (by first | exact Or.inl rfl | exact Or.inr rfl) (pe_op uMod (pe_callTy uInt (by rfl) T.n_int (by decide +kernel) (pa_cons (pe_ix (kIx K rfl) (pv 0) pe_int (fun _ _ => rfl)) pa_nil)) (pv 1)))
  (pss_cons (ps_asg (pe_op uDiv (pe_ix (kIx K rfl) (pv 0) pe_int (fun _ _ => rfl)) (pv 1)) (pg_sub (pv 0) pe_int set_list))
  (pss_one (ps_ret (pv 3))))) pss_nil)
  (pss_cons (ps_asg (pe_op (kAdd K rfl) (pe_ix (kIx K rfl) (pv 0) pe_int (fun _ _ => rfl)) pe_int) (pg_sub (pv 0) pe_int set_list))
  (pss_cons (ps_set (i := 2) sc__law_take.nd rfl (by first | exact Or.inl rfl | exact Or.inr rfl) (pe_op uMod (pe_callTy uInt (by rfl) T.n_int (by decide +kernel) (pa_cons (pe_op uPow (pe_op (kAdd K rfl) (pe_op (kAdd K rfl) (pe_ix (kIx K rfl) (pv 0) pe_int (fun _ _ => rfl)) (pe_op uMul pe_int (pe_ix (kIx K rfl) (pv 0) pe_int (fun _ _ => rfl)))) pe_int) pe_int) pa_nil)) pe_int))
  (pss_one (ps_ret (pe_op uMod (pe_op uDiv (pe_op uMod (pe_callTy uInt (by rfl) T.n_int (by decide +kernel) (pa_cons (pe_op uPow (pe_op (kAdd K rfl) (pe_op uMul (pv 2) pe_int) (pe_op uMul pe_int (pe_ix (kIx K rfl) (pv 0) pe_int (fun _ _ => rfl)))) pe_int) pa_nil)) pe_int) pe_int) (pv 1))))))), ?_⟩
  walk_at "v0"
  have e1 : ((d + 1 : Nat) : Int) = (d : Int) + 1 := by omega
  refine w_if (fun hb1 => ?_) (fun hb1 => ?_)
  · walk_at "v"
    refine w_if (fun hb2 => ?_) (fun hb2 => ?_)
    · walk_at "v"
      refine w_modN (by omega) fun r _ h1 h2 => ?_
      walk_at "v"
      exact q _ _ h1 h2 ⟨g / n, b, m, d, upd_same, Int.ediv_nonneg hg (by omega), hm, hm2, by omega⟩ (Fr.put (Fr.refl _ _))
    walk_at "v"
    refine w_powI ?_ (by omega)
    walk_at "v"
    refine w_modN (by omega) fun r1 _ h1 h2 => ?_
    walk_at "v"
    refine w_powI ?_ (by omega)
    walk_at "v"
    refine w_modN (by omega) fun r2 _ h3 h4 => ?_
    walk_at "v"
    refine w_modN (by omega) fun r3 _ h5 h6 => ?_
    walk_at "v"
    exact q _ _ h5 h6 ⟨g, b, m, d + 1, (by rw [e1]; exact upd_same), hg, hm, hm2, by omega⟩ (Fr.put (Fr.refl _ _))
  · walk_at "v"
    refine w_powI ?_ (by omega)
    walk_at "v"
    refine w_modN (by omega) fun r1 _ h1 h2 => ?_
    walk_at "v"
    refine w_powI ?_ (by omega)
    walk_at "v"
    refine w_modN (by omega) fun r2 _ h3 h4 => ?_
    walk_at "v"
    refine w_modN (by omega) fun r3 _ h5 h6 => ?_
    walk_at "v"
    exact q _ _ h5 h6 ⟨g, b, m, d + 1, (by rw [e1]; exact upd_same), hg, hm, hm2, by omega⟩ (Fr.put (Fr.refl _ _))
theorem take_w {p : Addr} {n : Int} {N c : Nat} {H : Hp} {Q : VK} {E : XK} (e : n = (N : Int)) (hb : Box H p c) (hc : c ≤ 100000000 ∧ 0 < N ∧ N < 1073741824) (q : ∀ (k : Nat) H', k < N → Box H' p (c + 1) → SL.Fr p H H' → Q (.int k) H') : spTake [.ref p, .int n] H Q E := by
  refine ⟨p, n, c, rfl, hb, hc.1, by omega, by omega, fun r H' r0 r1 b f => ?_⟩
  obtain ⟨k, rfl⟩ := Int.eq_ofNat_of_zero_le r0
  exact q k H' (by omega) b f
end
end K04
set_option Elab.async false
set_option linter.all false
set_option maxRecDepth 100000
set_option maxHeartbeats 1000000
namespace K04
open PySem PySem.Spec PyProof.Rows L2 SL Pu
section
variable {P : Program} {w : World} {K : PySem.W.Frag} {mg : Str → Option Value} {base : Heap}
abbrev F__law_take : PFn := FTake
theorem cal__law_take (T : Txt K mg) : Cal P w K mg base 1 "_law_take" ["box", "many"] (spOf K mg F__law_take) :=
  cal_imp (ok_take T) (take_pure fun p n c H Q E b hc h1 h2 q => ⟨p, n, c, rfl, b, hc, h1, h2, q⟩)
def B_is_integer : FS := (fRet (fAndV (fIsi "int" (fB 0)) (fNotV (fIsi "bool" (fB 0)))))
def F_is_integer : PFn := fun ds c Q X => ds.length = 1 ∧ B_is_integer (endsP Q X) (startP 1 ds) c
theorem fn_is_integer (T : Txt K mg) : ∀ f fd, Fun K "is_integer" "is_integer" s_is_integer f fd → FnG P w K mg base 1 f fd ["value"] (spOf K mg F_is_integer) :=
  fn_pure (k := 0) (F := F_is_integer) (fs := B_is_integer) sc_is_integer (n := 1) rfl (fun pb cdv f A outer s H E hr hgd => ⟨_, (pss_one (ps_ret (pe_and (pe_callB (kIsi K rfl) (by rfl) T.n_isinstance (by decide +kernel) (pa_cons (pv 0) (pa_cons (pe_bltn (v := .ty "int") (by rfl) T.n_int (by decide +kernel) rfl) pa_nil))) (pe_one (pe_not (pe_callB (kIsi K rfl) (by rfl) T.n_isinstance (by decide +kernel) (pa_cons (pv 0) (pa_cons (pe_bltn (v := .ty "bool") (by rfl) T.n_bool (by decide +kernel) rfl) pa_nil)))))))),
  (ls_ret (le_andV (le_isi (.inl rfl) (lb_v 0)) (le_notV (le_isi (.inr (.inl rfl)) (lb_v 0)))))⟩) (fun _ _ _ _ h => h.1) (fun _ _ _ _ h => h.2)
theorem cal_is_integer (T : Txt K mg) : Cal P w K mg base 1 "is_integer" ["value"] (spOf K mg F_is_integer) := cal_of T.d_is_integer (fn_is_integer T)
def B_is_index : FS := (fRet (fAndV (fCall F_is_integer (fCons (fV 0) fNil)) (fChain gLe gLt (fC (.int 0)) (fB 0) (fB 1))))
def F_is_index : PFn := fun ds c Q X => ds.length = 2 ∧ B_is_index (endsP Q X) (startP 2 ds) c
theorem fn_is_index (T : Txt K mg) : ∀ f fd, Fun K "is_index" "is_index" s_is_index f fd → FnG P w K mg base 2 f fd ["value", "many"] (spOf K mg F_is_index) :=
  fn_pure (k := 1) (F := F_is_index) (fs := B_is_index) sc_is_index (n := 2) rfl (fun pb cdv f A outer s H E hr hgd => ⟨_, (pss_one (ps_ret (pe_and (pe_g (cal_is_integer T) hr (by decide) hgd (by rfl) (passAt tk_def) (pa_cons (pv 0) pa_nil)) (pe_one (pe_chain uLe uLt pe_int (pv 0) (pv 1)))))),
  (ls_ret (le_andV (le_call (fun _ _ _ _ h => h) (la_cons (le_v 0) la_nil)) (le_chain lo_le lo_lt (LE.lb (le_c (.int _))) (lb_v 0) (lb_v 1))))⟩) (fun _ _ _ _ h => h.1) (fun _ _ _ _ h => h.2)
theorem cal_is_index (T : Txt K mg) : Cal P w K mg base 2 "is_index" ["value", "many"] (spOf K mg F_is_index) := cal_of T.d_is_index (fn_is_index T)
def B_is_signs : FS := (fRet (fAndV (fCall F_is_integer (fCons (fV 0) fNil)) (fChain gLe gLe (fC (.int 1)) (fB 0) (fC (.int 5)))))
def F_is_signs : PFn := fun ds c Q X => ds.length = 1 ∧ B_is_signs (endsP Q X) (startP 1 ds) c
theorem fn_is_signs (T : Txt K mg) : ∀ f fd, Fun K "is_signs" "is_signs" s_is_signs f fd → FnG P w K mg base 2 f fd ["value"] (spOf K mg F_is_signs) :=
  fn_pure (k := 1) (F := F_is_signs) (fs := B_is_signs) sc_is_signs (n := 1) rfl (fun pb cdv f A outer s H E hr hgd => ⟨_, (pss_one (ps_ret (pe_and (pe_g (cal_is_integer T) hr (by decide) hgd (by rfl) (passAt tk_def) (pa_cons (pv 0) pa_nil)) (pe_one (pe_chain uLe uLe pe_int (pv 0) (pe_gi (by rfl) T.g_MOST_SIGNS)))))),
  (ls_ret (le_andV (le_call (fun _ _ _ _ h => h) (la_cons (le_v 0) la_nil)) (le_chain lo_le lo_le (LE.lb (le_c (.int _))) (lb_v 0) (LE.lb (le_c (.int _))))))⟩) (fun _ _ _ _ h => h.1) (fun _ _ _ _ h => h.2)
theorem cal_is_signs (T : Txt K mg) : Cal P w K mg base 2 "is_signs" ["value"] (spOf K mg F_is_signs) := cal_of T.d_is_signs (fn_is_signs T)
def B_is_sign : FS := (fRet (fCall F_is_index (fCons (fV 0) (fCons (fV 1) fNil))))
def F_is_sign : PFn := fun ds c Q X => ds.length = 2 ∧ B_is_sign (endsP Q X) (startP 2 ds) c
theorem fn_is_sign (T : Txt K mg) : ∀ f fd, Fun K "is_sign" "is_sign" s_is_sign f fd → FnG P w K mg base 3 f fd ["value", "signs"] (spOf K mg F_is_sign) :=
  fn_pure (k := 2) (F := F_is_sign) (fs := B_is_sign) sc_is_sign (n := 2) rfl (fun pb cdv f A outer s H E hr hgd => ⟨_, (pss_one (ps_ret (pe_g (cal_is_index T) hr (by decide) hgd (by rfl) (passAt tk_def) (pa_cons (pv 0) (pa_cons (pv 1) pa_nil))))),
  (ls_ret (le_call (fun _ _ _ _ h => h) (la_cons (le_v 0) (la_cons (le_v 1) la_nil))))⟩) (fun _ _ _ _ h => h.1) (fun _ _ _ _ h => h.2)
theorem cal_is_sign (T : Txt K mg) : Cal P w K mg base 3 "is_sign" ["value", "signs"] (spOf K mg F_is_sign) := cal_of T.d_is_sign (fn_is_sign T)
def B_check_signs : FS := (fIfS (fTnot (fTv (fCall F_is_signs (fCons (fV 0) fNil)))) (fRz "InvalidSigns" (fCons (fV 0) fNil)) fNext)
def F_check_signs : PFn := fun ds c Q X => ds.length = 1 ∧ B_check_signs (endsP Q X) (startP 1 ds) c
theorem fn_check_signs (T : Txt K mg) : ∀ f fd, Fun K "check_signs" "check_signs" s_check_signs f fd → FnG P w K mg base 3 f fd ["signs"] (spOf K mg F_check_signs) :=
  fn_pure (k := 2) (F := F_check_signs) (fs := B_check_signs) sc_check_signs (n := 1) rfl (fun pb cdv f A outer s H E hr hgd => ⟨_, (pss_one (ps_if (pt_not (pt_val (pe_g (cal_is_signs T) hr (by decide) hgd (by rfl) (passAt tk_def) (pa_cons (pv 0) pa_nil)))) (pss_one (ps_rzA mg T.x_InvalidSigns rfl (by rfl) tk_def hr (by rfl) (pa_cons (pv 0) pa_nil))) pss_nil)),
  (ls_if (lt_not (lt_B (le_call (fun _ _ _ _ h => h) (la_cons (le_v 0) la_nil)))) (ls_rz (la_cons (le_v 0) la_nil)) ls_next)⟩) (fun _ _ _ _ h => h.1) (fun _ _ _ _ h => h.2)
theorem cal_check_signs (T : Txt K mg) : Cal P w K mg base 3 "check_signs" ["signs"] (spOf K mg F_check_signs) := cal_of T.d_check_signs (fn_check_signs T)
def B_is_kind : FS := (fSeq (fIfS (fTor (fTnot (fTv (fCall F_is_signs (fCons (fV 1) fNil)))) (fTor (fTnot (fTv (fIsi "tuple" (fB 0)))) (fTv (fO2 gNotIn (fCB gLen (fCons (fB 0) fNil)) (fTup (fCons (fC (.int 2)) (fCons (fC (.int 3)) fNil))))))) (fRet (fC (.bl false))) fNext)
  (fSeq (fIfS (fTnot (fTv (fCB gAll (fCons (fLc (fIter tDs (fSl gSl (fB 0) (fPart (fC (.int 1))) fNoPart)) (gN 2) fYes (fCall F_is_sign (fCons (fV 2) (fCons (fV 1) fNil))) [2]) fNil)))) (fRet (fC (.bl false))) fNext)
  (fSeq (fIfS (fTv (fO2 gEqM (fCB gLen (fCons (fB 0) fNil)) (fC (.int 2)))) (fRet (fO2 gIn (fO2 gIx (fB 0) (fC (.int 0))) (fTup (fCons (fC (.str [108, 111, 115, 116])) (fCons (fC (.str [112, 117, 116])) fNil))))) fNext)
  (fRet (fAndV (fO2 gEqM (fO2 gIx (fB 0) (fC (.int 0))) (fC (.str [116, 117, 114, 110, 101, 100]))) (fO2 gNeM (fO2 gIx (fB 0) (fC (.int 1))) (fO2 gIx (fB 0) (fC (.int 2)))))))))
def F_is_kind : PFn := fun ds c Q X => ds.length = 2 ∧ B_is_kind (endsP Q X) (startP 3 ds) c
theorem fn_is_kind (T : Txt K mg) : ∀ f fd, Fun K "is_kind" "is_kind" s_is_kind f fd → FnG P w K mg base 4 f fd ["value", "signs"] (spOf K mg F_is_kind) :=
  fn_pure (k := 3) (F := F_is_kind) (fs := B_is_kind) sc_is_kind (n := 3) rfl (fun pb cdv f A outer s H E hr hgd => ⟨_, (pss_cons (ps_if (PW.pt (pw_or (pt_not (pt_val (pe_g (cal_is_signs T) hr (by decide) hgd (by rfl) (passAt tk_def) (pa_cons (pv 1) pa_nil)))) (pw_or (pt_not (pt_val (pe_callB (kIsi K rfl) (by rfl) T.n_isinstance (by decide +kernel) (pa_cons (pv 0) (pa_cons (pe_bltn (v := .ty "tuple") (by rfl) T.n_tuple (by decide +kernel) rfl) pa_nil))))) (pw_or1 (pt_cmpR (kNotInP K rfl hr) (pe_callB (kLen K rfl) (by rfl) T.n_len (by decide +kernel) (pa_cons (pv 0) pa_nil)) (pe_tup (pa_cons pe_int (pa_cons pe_int pa_nil))) (by rfl)))))) (pss_one (ps_ret pe_bl)) pss_nil)
  (pss_cons (ps_if (pt_not (pt_val (pe_callB (kAll K rfl rfl) (by rfl) T.n_all (by decide +kernel) (pa_cons (pe_lc (own := [("part", 2)]) rfl sc_is_kind.nd (kiTup K rfl (pe_slice (kSl K rfl) (pv 0) (po_some pe_int) po_none)) (blkOk_by (own := [("part", 2)]) (N := N_is_kind) (sc := defScope s_is_kind) (by decide +kernel)) (fun _ _ _ _ _ => (pg_name (i := 2) sc_is_kind.nd rfl (by first | exact Or.inl rfl | exact Or.inr rfl))) (fun _ _ _ _ _ => pts_nil) (fun _ _ _ _ _ => (pe_g (cal_is_sign T) hr (by decide) hgd (by rfl) noX (pa_cons (pv 2) (pa_cons (pv 1) pa_nil))))) pa_nil)))) (pss_one (ps_ret pe_bl)) pss_nil)
  (pss_cons (ps_if (pt_cmpR (kEqM K rfl hr) (pe_callB (kLen K rfl) (by rfl) T.n_len (by decide +kernel) (pa_cons (pv 0) pa_nil)) pe_int (nomark _)) (pss_one (ps_ret (pe_cmpR (kInZ K rfl hr) (pe_ix (kIx K rfl) (pv 0) pe_int (fun _ _ => rfl)) (pe_tup (pa_cons (pe_tx [108, 111, 115, 116] (by decide +kernel)) (pa_cons (pe_tx [112, 117, 116] (by decide +kernel)) pa_nil))) (by rfl)))) pss_nil)
  (pss_one (ps_ret (pe_and (pe_cmpR (kEqM K rfl hr) (pe_ix (kIx K rfl) (pv 0) pe_int (fun _ _ => rfl)) (pe_tx [116, 117, 114, 110, 101, 100] (by decide +kernel)) (nomark _)) (pe_one (pe_cmpR (kNeM K rfl hr) (pe_ix (kIx K rfl) (pv 0) pe_int (fun _ _ => rfl)) (pe_ix (kIx K rfl) (pv 0) pe_int (fun _ _ => rfl)) (nomark _))))))))),
  (ls_seq (ls_if (lt_or (lt_not (lt_B (le_call (fun _ _ _ _ h => h) (la_cons (le_v 1) la_nil)))) (lt_or (lt_not (lt_B (le_isi (.inr (.inr (.inr (.inr rfl)))) (lb_v 0)))) (lt_test (le_o2 lo_notin (LE.lb (le_cb lc_len (lab_cons (lb_v 0) lab_nil))) (LE.lb (le_tup (la_cons (le_c (.int _)) (la_cons (le_c (.int _)) la_nil)))))))) (ls_ret (le_c (.bl _))) ls_next)
  (ls_seq (ls_if (lt_not (lt_B (le_cb lc_all (lab_cons (LE.lb (LF.le (lf_lc (LI.c (li_tup (le_sl lo_sl (lb_v 0) (lo_some (le_c (.int _))) lo_none))) (lg_n 2) lt_yes (le_call (fun _ _ _ _ h => h.elim) (la_cons (le_v 2) (la_cons (le_v 1) la_nil))) (by decide)))) lab_nil)))) (ls_ret (le_c (.bl _))) ls_next)
  (ls_seq (ls_if (lt_test (le_o2 lo_eqM (LE.lb (le_cb lc_len (lab_cons (lb_v 0) lab_nil))) (LE.lb (le_c (.int _))))) (ls_ret (le_o2 lo_in (LE.lb (le_o2 lo_ix (lb_v 0) (LE.lb (le_c (.int _))))) (LE.lb (le_tup (la_cons (le_c (.str _)) (la_cons (le_c (.str _)) la_nil)))))) ls_next)
  (ls_ret (le_andV (le_o2 lo_eqM (LE.lb (le_o2 lo_ix (lb_v 0) (LE.lb (le_c (.int _))))) (LE.lb (le_c (.str _)))) (le_o2 lo_neM (LE.lb (le_o2 lo_ix (lb_v 0) (LE.lb (le_c (.int _))))) (LE.lb (le_o2 lo_ix (lb_v 0) (LE.lb (le_c (.int _)))))))))))⟩) (fun _ _ _ _ h => h.1) (fun _ _ _ _ h => h.2)
theorem cal_is_kind (T : Txt K mg) : Cal P w K mg base 4 "is_kind" ["value", "signs"] (spOf K mg F_is_kind) := cal_of T.d_is_kind (fn_is_kind T)
theorem cal_is_kind_w10 (T : Txt K mg) : CalW P w K mg base 4 "is_kind" ["value", "signs"] ["signs", "value"] (fun {α} (l : List α) => pick [1, 0] l) (spOf K mg F_is_kind) :=
  calW_of T.d_is_kind (fn_is_kind T) (by
    intro f fd F s ws hl
    obtain ⟨oc, od, kV, doc, pm, an, cdv, ct, osl, rfl, lk, hcd⟩ := F.ex
    match ws, hl with
    | [a0, a1], _ => exact .of_eq rfl)
def B_all_kinds : FS := (fSeq (fDrop (fCall F_check_signs (fCons (fV 0) fNil)))
  (fSeq (fAsg (fLc (fRg1 (fCons (fV 0) fNil)) (gN 3) fYes (fTup (fCons (fC (.str [108, 111, 115, 116])) (fCons (fV 3) fNil))) [3]) (gN 1))
  (fSeq (fAsg (fLc (fRg1 (fCons (fV 0) fNil)) (gN 4) fYes (fTup (fCons (fC (.str [112, 117, 116])) (fCons (fV 4) fNil))) [4]) (gN 2))
  (fRetO (fO2 gAddL (fO2 gAdd (fB 1) (fB 2)) (fLc2 (fRg1 (fCons (fV 0) fNil)) (gN 3) (fRg1 (fCons (fV 0) fNil)) (gN 4) (fTv (fO2 gNeM (fB 3) (fB 4))) (fTup (fCons (fC (.str [116, 117, 114, 110, 101, 100])) (fCons (fV 3) (fCons (fV 4) fNil)))) [3, 4] [4]))))))
def F_all_kinds : PFn := fun ds c Q X => ds.length = 1 ∧ B_all_kinds (endsN Q X) (startP 5 ds) c
theorem fn_all_kinds (T : Txt K mg) : ∀ f fd, Fun K "all_kinds" "all_kinds" s_all_kinds f fd → FnG P w K mg base 4 f fd ["signs"] (spOfN K mg F_all_kinds) :=
  fn_pureN (k := 3) (F := F_all_kinds) (fs := B_all_kinds) sc_all_kinds (n := 5) rfl (fun pb cdv f A outer s H E hr hgd => ⟨_, (pss_cons (ps_expr (pe_g (cal_check_signs T) hr (by decide) hgd (by rfl) (passAt tk_def) (pa_cons (pv 0) pa_nil)))
  (pss_cons (ps_setLc (i := 1) (own := [("a", 3)]) rfl sc_all_kinds.nd rfl rfl (sw_true rfl rfl rfl (by decide +kernel)) (pi_range1 (by rfl) T.n_range (pa_cons (pv 0) pa_nil)) (blkOk_by (own := [("a", 3)]) (N := N_all_kinds) (sc := defScope s_all_kinds) (by decide +kernel)) (fun _ _ _ _ _ => (pg_name (i := 3) sc_all_kinds.nd rfl (by first | exact Or.inl rfl | exact Or.inr rfl))) (fun _ _ _ _ _ => pts_nil) (fun _ _ _ _ _ => (pe_tup (pa_cons (pe_tx [108, 111, 115, 116] (by decide +kernel)) (pa_cons (pv 3) pa_nil)))))
  (pss_cons (ps_setLc (i := 2) (own := [("b", 4)]) rfl sc_all_kinds.nd rfl rfl (sw_true rfl rfl rfl (by decide +kernel)) (pi_range1 (by rfl) T.n_range (pa_cons (pv 0) pa_nil)) (blkOk_by (own := [("b", 4)]) (N := N_all_kinds) (sc := defScope s_all_kinds) (by decide +kernel)) (fun _ _ _ _ _ => (pg_name (i := 4) sc_all_kinds.nd rfl (by first | exact Or.inl rfl | exact Or.inr rfl))) (fun _ _ _ _ _ => pts_nil) (fun _ _ _ _ _ => (pe_tup (pa_cons (pe_tx [112, 117, 116] (by decide +kernel)) (pa_cons (pv 4) pa_nil)))))
  (pss_one (ps_ret (pe_op (kAdd K rfl) (pe_op (kAdd K rfl) (pv 1) (pv 2)) (pe_lc2 (own := [("a", 3), ("b", 4)]) (vs1 := [4]) rfl sc_all_kinds.nd (pi_range1 (by rfl) T.n_range (pa_cons (pv 0) pa_nil)) (blkOk_by (own := [("a", 3), ("b", 4)]) (N := N_all_kinds) (sc := defScope s_all_kinds) (by decide +kernel)) (by decide) (fun _ _ _ _ _ => (pg_name (i := 3) sc_all_kinds.nd rfl (by first | exact Or.inl rfl | exact Or.inr rfl))) (fun _ _ _ _ _ => pts_nil) (fun _ _ _ _ _ => (pi_range1 (by rfl) T.n_range (pa_cons (pv 0) pa_nil))) (fun _ _ _ _ _ => (pg_name (i := 4) sc_all_kinds.nd rfl (by first | exact Or.inl rfl | exact Or.inr rfl))) (fun _ _ _ _ _ => (pts_one (pt_cmpR (kNeM K rfl hr) (pv 3) (pv 4) (nomark _)))) (fun _ _ _ _ _ => (pe_tup (pa_cons (pe_tx [116, 117, 114, 110, 101, 100] (by decide +kernel)) (pa_cons (pv 3) (pa_cons (pv 4) pa_nil)))))))))))),
  (ls_seq (ls_drop (le_call (fun _ _ _ _ h => h) (la_cons (le_v 0) la_nil)))
  (ls_seq (ls_asg (LF.le (lf_lc (LI.c (li_rg1 (la_cons (le_v 0) la_nil))) (lg_n 3) lt_yes (le_tup (la_cons (le_c (.str _)) (la_cons (le_v 3) la_nil))) (by decide))) (lg_n 1))
  (ls_seq (ls_asg (LF.le (lf_lc (LI.c (li_rg1 (la_cons (le_v 0) la_nil))) (lg_n 4) lt_yes (le_tup (la_cons (le_c (.str _)) (la_cons (le_v 4) la_nil))) (by decide))) (lg_n 2))
  (ls_retO (lf_o2 lof_add (LE.lb (le_o2 lo_add (lb_v 1) (lb_v 2))) (LE.lb (LF.le (lf_lc2 (LI.c (li_rg1 (la_cons (le_v 0) la_nil))) (lg_n 3) (li_rg1 (la_cons (le_v 0) la_nil)) (lg_n 4) (lt_test (le_o2 lo_neM (lb_v 3) (lb_v 4))) (le_tup (la_cons (le_c (.str _)) (la_cons (le_v 3) (la_cons (le_v 4) la_nil)))) (by decide) (by decide)))))))))⟩) (fun _ _ _ _ h => h.1) (fun _ _ _ _ h => h.2)
theorem cal_all_kinds (T : Txt K mg) : Cal P w K mg base 4 "all_kinds" ["signs"] (spOfN K mg F_all_kinds) := cal_of T.d_all_kinds (fn_all_kinds T)
theorem cal_all_kinds_w0 (T : Txt K mg) : CalW P w K mg base 4 "all_kinds" ["signs"] ["signs"] (fun {α} (l : List α) => pick [0] l) (spOfN K mg F_all_kinds) :=
  calW_of T.d_all_kinds (fn_all_kinds T) (by
    intro f fd F s ws hl
    obtain ⟨oc, od, kV, doc, pm, an, cdv, ct, osl, rfl, lk, hcd⟩ := F.ex
    match ws, hl with
    | [a0], _ => exact .of_eq rfl)
def B_is_same : FS := (fRet (fAndV (fIsi "tuple" (fB 0)) (fAndV (fO2 gEqM (fCB gLen (fCons (fB 0) fNil)) (fC (.int 2))) (fAndV (fO2 gEqM (fO2 gIx (fB 0) (fC (.int 0))) (fC (.str [115, 97, 109, 101]))) (fCall F_is_sign (fCons (fO2 gIx (fB 0) (fC (.int 1))) (fCons (fV 1) fNil)))))))
def F_is_same : PFn := fun ds c Q X => ds.length = 2 ∧ B_is_same (endsP Q X) (startP 2 ds) c
theorem fn_is_same (T : Txt K mg) : ∀ f fd, Fun K "is_same" "is_same" s_is_same f fd → FnG P w K mg base 4 f fd ["value", "signs"] (spOf K mg F_is_same) :=
  fn_pure (k := 3) (F := F_is_same) (fs := B_is_same) sc_is_same (n := 2) rfl (fun pb cdv f A outer s H E hr hgd => ⟨_, (pss_one (ps_ret (pe_and (pe_callB (kIsi K rfl) (by rfl) T.n_isinstance (by decide +kernel) (pa_cons (pv 0) (pa_cons (pe_bltn (v := .ty "tuple") (by rfl) T.n_tuple (by decide +kernel) rfl) pa_nil))) (pe_and (pe_cmpR (kEqM K rfl hr) (pe_callB (kLen K rfl) (by rfl) T.n_len (by decide +kernel) (pa_cons (pv 0) pa_nil)) pe_int (nomark _)) (pe_and (pe_cmpR (kEqM K rfl hr) (pe_ix (kIx K rfl) (pv 0) pe_int (fun _ _ => rfl)) (pe_tx [115, 97, 109, 101] (by decide +kernel)) (nomark _)) (pe_one (pe_g (cal_is_sign T) hr (by decide) hgd (by rfl) (passAt tk_def) (pa_cons (pe_ix (kIx K rfl) (pv 0) pe_int (fun _ _ => rfl)) (pa_cons (pv 1) pa_nil))))))))),
  (ls_ret (le_andV (le_isi (.inr (.inr (.inr (.inr rfl)))) (lb_v 0)) (le_andV (le_o2 lo_eqM (LE.lb (le_cb lc_len (lab_cons (lb_v 0) lab_nil))) (LE.lb (le_c (.int _)))) (le_andV (le_o2 lo_eqM (LE.lb (le_o2 lo_ix (lb_v 0) (LE.lb (le_c (.int _))))) (LE.lb (le_c (.str _)))) (le_call (fun _ _ _ _ h => h) (la_cons (le_o2 lo_ix (lb_v 0) (LE.lb (le_c (.int _)))) (la_cons (le_v 1) la_nil)))))))⟩) (fun _ _ _ _ h => h.1) (fun _ _ _ _ h => h.2)
theorem cal_is_same (T : Txt K mg) : Cal P w K mg base 4 "is_same" ["value", "signs"] (spOf K mg F_is_same) := cal_of T.d_is_same (fn_is_same T)
def B_is_passing : FS := (fSeq (fIfS (fTor (fTnot (fTv (fCall F_is_signs (fCons (fV 1) fNil)))) (fTnot (fTv (fIsi "tuple" (fB 0))))) (fRet (fC (.bl false))) fNext)
  (fRet (fCB gAll (fCons (fLc (fIter tDs (fV 0)) (gN 2) fYes (fOrV (fCall F_is_same (fCons (fV 2) (fCons (fV 1) fNil))) (fCall F_is_kind (fCons (fV 2) (fCons (fV 1) fNil)))) [2]) fNil))))
def F_is_passing : PFn := fun ds c Q X => ds.length = 2 ∧ B_is_passing (endsP Q X) (startP 3 ds) c
theorem fn_is_passing (T : Txt K mg) : ∀ f fd, Fun K "is_passing" "is_passing" s_is_passing f fd → FnG P w K mg base 5 f fd ["value", "signs"] (spOf K mg F_is_passing) :=
  fn_pure (k := 4) (F := F_is_passing) (fs := B_is_passing) sc_is_passing (n := 3) rfl (fun pb cdv f A outer s H E hr hgd => ⟨_, (pss_cons (ps_if (PW.pt (pw_or (pt_not (pt_val (pe_g (cal_is_signs T) hr (by decide) hgd (by rfl) (passAt tk_def) (pa_cons (pv 1) pa_nil)))) (pw_or1 (pt_not (pt_val (pe_callB (kIsi K rfl) (by rfl) T.n_isinstance (by decide +kernel) (pa_cons (pv 0) (pa_cons (pe_bltn (v := .ty "tuple") (by rfl) T.n_tuple (by decide +kernel) rfl) pa_nil)))))))) (pss_one (ps_ret pe_bl)) pss_nil)
  (pss_one (ps_ret (pe_callB (kAll K rfl rfl) (by rfl) T.n_all (by decide +kernel) (pa_cons (pe_lc (own := [("step", 2)]) rfl sc_is_passing.nd (kiTup K rfl (pv 0)) (blkOk_by (own := [("step", 2)]) (N := N_is_passing) (sc := defScope s_is_passing) (by decide +kernel)) (fun _ _ _ _ _ => (pg_name (i := 2) sc_is_passing.nd rfl (by first | exact Or.inl rfl | exact Or.inr rfl))) (fun _ _ _ _ _ => pts_nil) (fun _ _ _ _ _ => (pe_or (pe_g (cal_is_same T) hr (by decide) hgd (by rfl) noX (pa_cons (pv 2) (pa_cons (pv 1) pa_nil))) (pe_one (pe_g (cal_is_kind T) hr (by decide) hgd (by rfl) noX (pa_cons (pv 2) (pa_cons (pv 1) pa_nil))))))) pa_nil))))),
  (ls_seq (ls_if (lt_or (lt_not (lt_B (le_call (fun _ _ _ _ h => h) (la_cons (le_v 1) la_nil)))) (lt_not (lt_B (le_isi (.inr (.inr (.inr (.inr rfl)))) (lb_v 0))))) (ls_ret (le_c (.bl _))) ls_next)
  (ls_ret (le_cb lc_all (lab_cons (LE.lb (LF.le (lf_lc (LI.c (li_tup (le_v 0))) (lg_n 2) lt_yes (le_orV (le_call (fun _ _ _ _ h => h.elim) (la_cons (le_v 2) (la_cons (le_v 1) la_nil))) (le_call (fun _ _ _ _ h => h.elim) (la_cons (le_v 2) (la_cons (le_v 1) la_nil)))) (by decide)))) lab_nil))))⟩) (fun _ _ _ _ h => h.1) (fun _ _ _ _ h => h.2)
theorem cal_is_passing (T : Txt K mg) : Cal P w K mg base 5 "is_passing" ["value", "signs"] (spOf K mg F_is_passing) := cal_of T.d_is_passing (fn_is_passing T)
theorem cal_is_passing_w10 (T : Txt K mg) : CalW P w K mg base 5 "is_passing" ["value", "signs"] ["signs", "value"] (fun {α} (l : List α) => pick [1, 0] l) (spOf K mg F_is_passing) :=
  calW_of T.d_is_passing (fn_is_passing T) (by
    intro f fd F s ws hl
    obtain ⟨oc, od, kV, doc, pm, an, cdv, ct, osl, rfl, lk, hcd⟩ := F.ex
    match ws, hl with
    | [a0, a1], _ => exact .of_eq rfl)
def B_check_passing : FS := (fIfS (fTnot (fTv (fCall F_is_passing (fCons (fV 0) (fCons (fV 1) fNil))))) (fRz "InvalidPassing" (fCons (fV 0) fNil)) fNext)
def F_check_passing : PFn := fun ds c Q X => ds.length = 2 ∧ B_check_passing (endsP Q X) (startP 2 ds) c
theorem fn_check_passing (T : Txt K mg) : ∀ f fd, Fun K "check_passing" "check_passing" s_check_passing f fd → FnG P w K mg base 6 f fd ["passing", "signs"] (spOf K mg F_check_passing) :=
  fn_pure (k := 5) (F := F_check_passing) (fs := B_check_passing) sc_check_passing (n := 2) rfl (fun pb cdv f A outer s H E hr hgd => ⟨_, (pss_one (ps_if (pt_not (pt_val (pe_g (cal_is_passing T) hr (by decide) hgd (by rfl) (passAt tk_def) (pa_cons (pv 0) (pa_cons (pv 1) pa_nil))))) (pss_one (ps_rzA mg T.x_InvalidPassing rfl (by rfl) tk_def hr (by rfl) (pa_cons (pv 0) pa_nil))) pss_nil)),
  (ls_if (lt_not (lt_B (le_call (fun _ _ _ _ h => h) (la_cons (le_v 0) (la_cons (le_v 1) la_nil))))) (ls_rz (la_cons (le_v 0) la_nil)) ls_next)⟩) (fun _ _ _ _ h => h.1) (fun _ _ _ _ h => h.2)
theorem cal_check_passing (T : Txt K mg) : Cal P w K mg base 6 "check_passing" ["passing", "signs"] (spOf K mg F_check_passing) := cal_of T.d_check_passing (fn_check_passing T)
def B_sent : FS := (fSeq (fDrop (fCall F_check_passing (fCons (fV 0) (fCons (fC (.int 5)) fNil))))
  (fRet (fCB gTuple (fCons (fLc (fIter tDs (fV 0)) (gN 1) (fTv (fO2 gNeM (fO2 gIx (fB 1) (fC (.int 0))) (fC (.str [112, 117, 116])))) (fO2 gIx (fB 1) (fC (.int 1))) [1]) fNil))))
def F_sent : PFn := fun ds c Q X => ds.length = 1 ∧ B_sent (endsP Q X) (startP 2 ds) c
theorem fn_sent (T : Txt K mg) : ∀ f fd, Fun K "sent" "sent" s_sent f fd → FnG P w K mg base 7 f fd ["passing"] (spOf K mg F_sent) :=
  fn_pure (k := 6) (F := F_sent) (fs := B_sent) sc_sent (n := 2) rfl (fun pb cdv f A outer s H E hr hgd => ⟨_, (pss_cons (ps_expr (pe_g (cal_check_passing T) hr (by decide) hgd (by rfl) (passAt tk_def) (pa_cons (pv 0) (pa_cons (pe_gi (by rfl) T.g_MOST_SIGNS) pa_nil))))
  (pss_one (ps_ret (pe_callTy (kTupOf K rfl) (by rfl) T.n_tuple (by decide +kernel) (pa_cons (pe_lc (own := [("step", 1)]) rfl sc_sent.nd (kiTup K rfl (pv 0)) (blkOk_by (own := [("step", 1)]) (N := N_sent) (sc := defScope s_sent) (by decide +kernel)) (fun _ _ _ _ _ => (pg_name (i := 1) sc_sent.nd rfl (by first | exact Or.inl rfl | exact Or.inr rfl))) (fun _ _ _ _ _ => (pts_one (pt_cmpR (kNeM K rfl hr) (pe_ix (kIx K rfl) (pv 1) pe_int (fun _ _ => rfl)) (pe_tx [112, 117, 116] (by decide +kernel)) (nomark _)))) (fun _ _ _ _ _ => (pe_ix (kIx K rfl) (pv 1) pe_int (fun _ _ => rfl)))) pa_nil))))),
  (ls_seq (ls_drop (le_call (fun _ _ _ _ h => h) (la_cons (le_v 0) (la_cons (le_c (.int _)) la_nil))))
  (ls_ret (le_cb lc_tuple (lab_cons (LE.lb (LF.le (lf_lc (LI.c (li_tup (le_v 0))) (lg_n 1) (lt_test (le_o2 lo_neM (LE.lb (le_o2 lo_ix (lb_v 1) (LE.lb (le_c (.int _))))) (LE.lb (le_c (.str _))))) (le_o2 lo_ix (lb_v 1) (LE.lb (le_c (.int _)))) (by decide)))) lab_nil))))⟩) (fun _ _ _ _ h => h.1) (fun _ _ _ _ h => h.2)
theorem cal_sent (T : Txt K mg) : Cal P w K mg base 7 "sent" ["passing"] (spOf K mg F_sent) := cal_of T.d_sent (fn_sent T)
theorem cal_sent_w0 (T : Txt K mg) : CalW P w K mg base 7 "sent" ["passing"] ["passing"] (fun {α} (l : List α) => pick [0] l) (spOf K mg F_sent) :=
  calW_of T.d_sent (fn_sent T) (by
    intro f fd F s ws hl
    obtain ⟨oc, od, kV, doc, pm, an, cdv, ct, osl, rfl, lk, hcd⟩ := F.ex
    match ws, hl with
    | [a0], _ => exact .of_eq rfl)
def B_came : FS := (fSeq (fDrop (fCall F_check_passing (fCons (fV 0) (fCons (fC (.int 5)) fNil))))
  (fRet (fCB gTuple (fCons (fLc (fIter tDs (fV 0)) (gN 1) (fTv (fO2 gNeM (fO2 gIx (fB 1) (fC (.int 0))) (fC (.str [108, 111, 115, 116])))) (fO2 gIx (fB 1) (fO1 gNeg (fC (.int 1)))) [1]) fNil))))
def F_came : PFn := fun ds c Q X => ds.length = 1 ∧ B_came (endsP Q X) (startP 2 ds) c
theorem fn_came (T : Txt K mg) : ∀ f fd, Fun K "came" "came" s_came f fd → FnG P w K mg base 7 f fd ["passing"] (spOf K mg F_came) :=
  fn_pure (k := 6) (F := F_came) (fs := B_came) sc_came (n := 2) rfl (fun pb cdv f A outer s H E hr hgd => ⟨_, (pss_cons (ps_expr (pe_g (cal_check_passing T) hr (by decide) hgd (by rfl) (passAt tk_def) (pa_cons (pv 0) (pa_cons (pe_gi (by rfl) T.g_MOST_SIGNS) pa_nil))))
  (pss_one (ps_ret (pe_callTy (kTupOf K rfl) (by rfl) T.n_tuple (by decide +kernel) (pa_cons (pe_lc (own := [("step", 1)]) rfl sc_came.nd (kiTup K rfl (pv 0)) (blkOk_by (own := [("step", 1)]) (N := N_came) (sc := defScope s_came) (by decide +kernel)) (fun _ _ _ _ _ => (pg_name (i := 1) sc_came.nd rfl (by first | exact Or.inl rfl | exact Or.inr rfl))) (fun _ _ _ _ _ => (pts_one (pt_cmpR (kNeM K rfl hr) (pe_ix (kIx K rfl) (pv 1) pe_int (fun _ _ => rfl)) (pe_tx [108, 111, 115, 116] (by decide +kernel)) (nomark _)))) (fun _ _ _ _ _ => (pe_ix (kIx K rfl) (pv 1) (pe_un un_neg pe_int) (fun _ _ => rfl)))) pa_nil))))),
  (ls_seq (ls_drop (le_call (fun _ _ _ _ h => h) (la_cons (le_v 0) (la_cons (le_c (.int _)) la_nil))))
  (ls_ret (le_cb lc_tuple (lab_cons (LE.lb (LF.le (lf_lc (LI.c (li_tup (le_v 0))) (lg_n 1) (lt_test (le_o2 lo_neM (LE.lb (le_o2 lo_ix (lb_v 1) (LE.lb (le_c (.int _))))) (LE.lb (le_c (.str _))))) (le_o2 lo_ix (lb_v 1) (LE.lb (le_o1 lo_neg (LE.lb (le_c (.int _)))))) (by decide)))) lab_nil))))⟩) (fun _ _ _ _ h => h.1) (fun _ _ _ _ h => h.2)
theorem cal_came (T : Txt K mg) : Cal P w K mg base 7 "came" ["passing"] (spOf K mg F_came) := cal_of T.d_came (fn_came T)
theorem cal_came_w0 (T : Txt K mg) : CalW P w K mg base 7 "came" ["passing"] ["passing"] (fun {α} (l : List α) => pick [0] l) (spOf K mg F_came) :=
  calW_of T.d_came (fn_came T) (by
    intro f fd F s ws hl
    obtain ⟨oc, od, kV, doc, pm, an, cdv, ct, osl, rfl, lk, hcd⟩ := F.ex
    match ws, hl with
    | [a0], _ => exact .of_eq rfl)
def B_errors_in : FS := (fSeq (fDrop (fCall F_check_passing (fCons (fV 0) (fCons (fC (.int 5)) fNil))))
  (fRet (fCB gLen (fCons (fLc (fIter tDs (fV 0)) (gN 1) (fTv (fO2 gNeM (fO2 gIx (fB 1) (fC (.int 0))) (fC (.str [115, 97, 109, 101])))) (fV 1) [1]) fNil))))
def F_errors_in : PFn := fun ds c Q X => ds.length = 1 ∧ B_errors_in (endsP Q X) (startP 2 ds) c
theorem fn_errors_in (T : Txt K mg) : ∀ f fd, Fun K "errors_in" "errors_in" s_errors_in f fd → FnG P w K mg base 7 f fd ["passing"] (spOf K mg F_errors_in) :=
  fn_pure (k := 6) (F := F_errors_in) (fs := B_errors_in) sc_errors_in (n := 2) rfl (fun pb cdv f A outer s H E hr hgd => ⟨_, (pss_cons (ps_expr (pe_g (cal_check_passing T) hr (by decide) hgd (by rfl) (passAt tk_def) (pa_cons (pv 0) (pa_cons (pe_gi (by rfl) T.g_MOST_SIGNS) pa_nil))))
  (pss_one (ps_ret (pe_callB (kLen K rfl) (by rfl) T.n_len (by decide +kernel) (pa_cons (pe_lc (own := [("step", 1)]) rfl sc_errors_in.nd (kiTup K rfl (pv 0)) (blkOk_by (own := [("step", 1)]) (N := N_errors_in) (sc := defScope s_errors_in) (by decide +kernel)) (fun _ _ _ _ _ => (pg_name (i := 1) sc_errors_in.nd rfl (by first | exact Or.inl rfl | exact Or.inr rfl))) (fun _ _ _ _ _ => (pts_one (pt_cmpR (kNeM K rfl hr) (pe_ix (kIx K rfl) (pv 1) pe_int (fun _ _ => rfl)) (pe_tx [115, 97, 109, 101] (by decide +kernel)) (nomark _)))) (fun _ _ _ _ _ => (pv 1))) pa_nil))))),
  (ls_seq (ls_drop (le_call (fun _ _ _ _ h => h) (la_cons (le_v 0) (la_cons (le_c (.int _)) la_nil))))
  (ls_ret (le_cb lc_len (lab_cons (LE.lb (LF.le (lf_lc (LI.c (li_tup (le_v 0))) (lg_n 1) (lt_test (le_o2 lo_neM (LE.lb (le_o2 lo_ix (lb_v 1) (LE.lb (le_c (.int _))))) (LE.lb (le_c (.str _))))) (le_v 1) (by decide)))) lab_nil))))⟩) (fun _ _ _ _ h => h.1) (fun _ _ _ _ h => h.2)
theorem cal_errors_in (T : Txt K mg) : Cal P w K mg base 7 "errors_in" ["passing"] (spOf K mg F_errors_in) := cal_of T.d_errors_in (fn_errors_in T)
theorem cal_errors_in_w0 (T : Txt K mg) : CalW P w K mg base 7 "errors_in" ["passing"] ["passing"] (fun {α} (l : List α) => pick [0] l) (spOf K mg F_errors_in) :=
  calW_of T.d_errors_in (fn_errors_in T) (by
    intro f fd F s ws hl
    obtain ⟨oc, od, kV, doc, pm, an, cdv, ct, osl, rfl, lk, hcd⟩ := F.ex
    match ws, hl with
    | [a0], _ => exact .of_eq rfl)
def B__law_is_signs : FS := (fRet (fAndV (fIsi "int" (fB 0)) (fAndV (fNotV (fIsi "bool" (fB 0))) (fChain gLe gLe (fC (.int 1)) (fB 0) (fC (.int 5))))))
def F__law_is_signs : PFn := fun ds c Q X => ds.length = 1 ∧ B__law_is_signs (endsP Q X) (startP 1 ds) c
theorem fn__law_is_signs (T : Txt K mg) : ∀ f fd, Fun K "_law_is_signs" "_law_is_signs" s__law_is_signs f fd → FnG P w K mg base 1 f fd ["value"] (spOf K mg F__law_is_signs) :=
  fn_pure (k := 0) (F := F__law_is_signs) (fs := B__law_is_signs) sc__law_is_signs (n := 1) rfl (fun pb cdv f A outer s H E hr hgd => ⟨_, (pss_one (ps_ret (pe_and (pe_callB (kIsi K rfl) (by rfl) T.n_isinstance (by decide +kernel) (pa_cons (pv 0) (pa_cons (pe_bltn (v := .ty "int") (by rfl) T.n_int (by decide +kernel) rfl) pa_nil))) (pe_and (pe_not (pe_callB (kIsi K rfl) (by rfl) T.n_isinstance (by decide +kernel) (pa_cons (pv 0) (pa_cons (pe_bltn (v := .ty "bool") (by rfl) T.n_bool (by decide +kernel) rfl) pa_nil)))) (pe_one (pe_chain uLe uLe pe_int (pv 0) pe_int)))))),
  (ls_ret (le_andV (le_isi (.inl rfl) (lb_v 0)) (le_andV (le_notV (le_isi (.inr (.inl rfl)) (lb_v 0))) (le_chain lo_le lo_le (LE.lb (le_c (.int _))) (lb_v 0) (LE.lb (le_c (.int _)))))))⟩) (fun _ _ _ _ h => h.1) (fun _ _ _ _ h => h.2)
theorem cal__law_is_signs (T : Txt K mg) : Cal P w K mg base 1 "_law_is_signs" ["value"] (spOf K mg F__law_is_signs) := cal_of T.d__law_is_signs (fn__law_is_signs T)
def B__law_is_sign : FS := (fRet (fAndV (fIsi "int" (fB 0)) (fAndV (fNotV (fIsi "bool" (fB 0))) (fChain gLe gLt (fC (.int 0)) (fB 0) (fB 1)))))
def F__law_is_sign : PFn := fun ds c Q X => ds.length = 2 ∧ B__law_is_sign (endsP Q X) (startP 2 ds) c
theorem fn__law_is_sign (T : Txt K mg) : ∀ f fd, Fun K "_law_is_sign" "_law_is_sign" s__law_is_sign f fd → FnG P w K mg base 1 f fd ["value", "signs"] (spOf K mg F__law_is_sign) :=
  fn_pure (k := 0) (F := F__law_is_sign) (fs := B__law_is_sign) sc__law_is_sign (n := 2) rfl (fun pb cdv f A outer s H E hr hgd => ⟨_, (pss_one (ps_ret (pe_and (pe_callB (kIsi K rfl) (by rfl) T.n_isinstance (by decide +kernel) (pa_cons (pv 0) (pa_cons (pe_bltn (v := .ty "int") (by rfl) T.n_int (by decide +kernel) rfl) pa_nil))) (pe_and (pe_not (pe_callB (kIsi K rfl) (by rfl) T.n_isinstance (by decide +kernel) (pa_cons (pv 0) (pa_cons (pe_bltn (v := .ty "bool") (by rfl) T.n_bool (by decide +kernel) rfl) pa_nil)))) (pe_one (pe_chain uLe uLt pe_int (pv 0) (pv 1))))))),
  (ls_ret (le_andV (le_isi (.inl rfl) (lb_v 0)) (le_andV (le_notV (le_isi (.inr (.inl rfl)) (lb_v 0))) (le_chain lo_le lo_lt (LE.lb (le_c (.int _))) (lb_v 0) (lb_v 1)))))⟩) (fun _ _ _ _ h => h.1) (fun _ _ _ _ h => h.2)
theorem cal__law_is_sign (T : Txt K mg) : Cal P w K mg base 1 "_law_is_sign" ["value", "signs"] (spOf K mg F__law_is_sign) := cal_of T.d__law_is_sign (fn__law_is_sign T)
def B__law_is_kind : FS := (fSeq (fIfS (fTor (fTnot (fTv (fCall F__law_is_signs (fCons (fV 1) fNil)))) (fTnot (fTv (fIsi "tuple" (fB 0))))) (fRet (fC (.bl false))) fNext)
  (fSeq (fIfS (fTv (fO2 gEqM (fCB gLen (fCons (fB 0) fNil)) (fC (.int 2)))) (fRet (fAndV (fOrV (fO2 gEqM (fO2 gIx (fB 0) (fC (.int 0))) (fC (.str [108, 111, 115, 116]))) (fO2 gEqM (fO2 gIx (fB 0) (fC (.int 0))) (fC (.str [112, 117, 116])))) (fCall F__law_is_sign (fCons (fO2 gIx (fB 0) (fC (.int 1))) (fCons (fV 1) fNil))))) fNext)
  (fSeq (fIfS (fTor (fTv (fO2 gNeM (fCB gLen (fCons (fB 0) fNil)) (fC (.int 3)))) (fTv (fO2 gNeM (fO2 gIx (fB 0) (fC (.int 0))) (fC (.str [116, 117, 114, 110, 101, 100]))))) (fRet (fC (.bl false))) fNext)
  (fRet (fAndV (fCall F__law_is_sign (fCons (fO2 gIx (fB 0) (fC (.int 1))) (fCons (fV 1) fNil))) (fAndV (fCall F__law_is_sign (fCons (fO2 gIx (fB 0) (fC (.int 2))) (fCons (fV 1) fNil))) (fO2 gNeM (fO2 gIx (fB 0) (fC (.int 1))) (fO2 gIx (fB 0) (fC (.int 2))))))))))
def F__law_is_kind : PFn := fun ds c Q X => ds.length = 2 ∧ B__law_is_kind (endsP Q X) (startP 2 ds) c
theorem fn__law_is_kind (T : Txt K mg) : ∀ f fd, Fun K "_law_is_kind" "_law_is_kind" s__law_is_kind f fd → FnG P w K mg base 2 f fd ["value", "signs"] (spOf K mg F__law_is_kind) :=
  fn_pure (k := 1) (F := F__law_is_kind) (fs := B__law_is_kind) sc__law_is_kind (n := 2) rfl (fun pb cdv f A outer s H E hr hgd => ⟨_, (pss_cons (ps_if (PW.pt (pw_or (pt_not (pt_val (pe_g (cal__law_is_signs T) hr (by decide) hgd (by rfl) (passAt tk_def) (pa_cons (pv 1) pa_nil)))) (pw_or1 (pt_not (pt_val (pe_callB (kIsi K rfl) (by rfl) T.n_isinstance (by decide +kernel) (pa_cons (pv 0) (pa_cons (pe_bltn (v := .ty "tuple") (by rfl) T.n_tuple (by decide +kernel) rfl) pa_nil)))))))) (pss_one (ps_ret pe_bl)) pss_nil)
  (pss_cons (ps_if (pt_cmpR (kEqM K rfl hr) (pe_callB (kLen K rfl) (by rfl) T.n_len (by decide +kernel) (pa_cons (pv 0) pa_nil)) pe_int (nomark _)) (pss_one (ps_ret (pe_and (pe_or (pe_cmpR (kEqM K rfl hr) (pe_ix (kIx K rfl) (pv 0) pe_int (fun _ _ => rfl)) (pe_tx [108, 111, 115, 116] (by decide +kernel)) (nomark _)) (pe_one (pe_cmpR (kEqM K rfl hr) (pe_ix (kIx K rfl) (pv 0) pe_int (fun _ _ => rfl)) (pe_tx [112, 117, 116] (by decide +kernel)) (nomark _)))) (pe_one (pe_g (cal__law_is_sign T) hr (by decide) hgd (by rfl) (passAt tk_def) (pa_cons (pe_ix (kIx K rfl) (pv 0) pe_int (fun _ _ => rfl)) (pa_cons (pv 1) pa_nil))))))) pss_nil)
  (pss_cons (ps_if (PW.pt (pw_or (pt_cmpR (kNeM K rfl hr) (pe_callB (kLen K rfl) (by rfl) T.n_len (by decide +kernel) (pa_cons (pv 0) pa_nil)) pe_int (nomark _)) (pw_or1 (pt_cmpR (kNeM K rfl hr) (pe_ix (kIx K rfl) (pv 0) pe_int (fun _ _ => rfl)) (pe_tx [116, 117, 114, 110, 101, 100] (by decide +kernel)) (nomark _))))) (pss_one (ps_ret pe_bl)) pss_nil)
  (pss_one (ps_ret (pe_and (pe_g (cal__law_is_sign T) hr (by decide) hgd (by rfl) (passAt tk_def) (pa_cons (pe_ix (kIx K rfl) (pv 0) pe_int (fun _ _ => rfl)) (pa_cons (pv 1) pa_nil))) (pe_and (pe_g (cal__law_is_sign T) hr (by decide) hgd (by rfl) (passAt tk_def) (pa_cons (pe_ix (kIx K rfl) (pv 0) pe_int (fun _ _ => rfl)) (pa_cons (pv 1) pa_nil))) (pe_one (pe_cmpR (kNeM K rfl hr) (pe_ix (kIx K rfl) (pv 0) pe_int (fun _ _ => rfl)) (pe_ix (kIx K rfl) (pv 0) pe_int (fun _ _ => rfl)) (nomark _)))))))))),
  (ls_seq (ls_if (lt_or (lt_not (lt_B (le_call (fun _ _ _ _ h => h) (la_cons (le_v 1) la_nil)))) (lt_not (lt_B (le_isi (.inr (.inr (.inr (.inr rfl)))) (lb_v 0))))) (ls_ret (le_c (.bl _))) ls_next)
  (ls_seq (ls_if (lt_test (le_o2 lo_eqM (LE.lb (le_cb lc_len (lab_cons (lb_v 0) lab_nil))) (LE.lb (le_c (.int _))))) (ls_ret (le_andV (le_orV (le_o2 lo_eqM (LE.lb (le_o2 lo_ix (lb_v 0) (LE.lb (le_c (.int _))))) (LE.lb (le_c (.str _)))) (le_o2 lo_eqM (LE.lb (le_o2 lo_ix (lb_v 0) (LE.lb (le_c (.int _))))) (LE.lb (le_c (.str _))))) (le_call (fun _ _ _ _ h => h) (la_cons (le_o2 lo_ix (lb_v 0) (LE.lb (le_c (.int _)))) (la_cons (le_v 1) la_nil))))) ls_next)
  (ls_seq (ls_if (lt_or (lt_test (le_o2 lo_neM (LE.lb (le_cb lc_len (lab_cons (lb_v 0) lab_nil))) (LE.lb (le_c (.int _))))) (lt_test (le_o2 lo_neM (LE.lb (le_o2 lo_ix (lb_v 0) (LE.lb (le_c (.int _))))) (LE.lb (le_c (.str _)))))) (ls_ret (le_c (.bl _))) ls_next)
  (ls_ret (le_andV (le_call (fun _ _ _ _ h => h) (la_cons (le_o2 lo_ix (lb_v 0) (LE.lb (le_c (.int _)))) (la_cons (le_v 1) la_nil))) (le_andV (le_call (fun _ _ _ _ h => h) (la_cons (le_o2 lo_ix (lb_v 0) (LE.lb (le_c (.int _)))) (la_cons (le_v 1) la_nil))) (le_o2 lo_neM (LE.lb (le_o2 lo_ix (lb_v 0) (LE.lb (le_c (.int _))))) (LE.lb (le_o2 lo_ix (lb_v 0) (LE.lb (le_c (.int _))))))))))))⟩) (fun _ _ _ _ h => h.1) (fun _ _ _ _ h => h.2)
theorem cal__law_is_kind (T : Txt K mg) : Cal P w K mg base 2 "_law_is_kind" ["value", "signs"] (spOf K mg F__law_is_kind) := cal_of T.d__law_is_kind (fn__law_is_kind T)
def B__law_is_passing : FS := (fSeq (fIfS (fTor (fTnot (fTv (fCall F__law_is_signs (fCons (fV 1) fNil)))) (fTnot (fTv (fIsi "tuple" (fB 0))))) (fRet (fC (.bl false))) fNext)
  (fSeq (fFor (fIter tDs (fV 0)) (gN 2)
  (fSeq (fAsg (fAndV (fIsi "tuple" (fB 2)) (fAndV (fO2 gEqM (fCB gLen (fCons (fB 2) fNil)) (fC (.int 2))) (fAndV (fO2 gEqM (fO2 gIx (fB 2) (fC (.int 0))) (fC (.str [115, 97, 109, 101]))) (fCall F__law_is_sign (fCons (fO2 gIx (fB 2) (fC (.int 1))) (fCons (fV 1) fNil)))))) (gN 3))
  (fIfS (fTand (fTnot (fTv (fV 3))) (fTnot (fTv (fCall F__law_is_kind (fCons (fV 2) (fCons (fV 1) fNil)))))) (fRet (fC (.bl false))) fNext)))
  (fRet (fC (.bl true)))))
def F__law_is_passing : PFn := fun ds c Q X => ds.length = 2 ∧ B__law_is_passing (endsP Q X) (startP 4 ds) c
theorem fn__law_is_passing (T : Txt K mg) : ∀ f fd, Fun K "_law_is_passing" "_law_is_passing" s__law_is_passing f fd → FnG P w K mg base 3 f fd ["value", "signs"] (spOf K mg F__law_is_passing) :=
  fn_pure (k := 2) (F := F__law_is_passing) (fs := B__law_is_passing) sc__law_is_passing (n := 4) rfl (fun pb cdv f A outer s H E hr hgd => ⟨_, (pss_cons (ps_if (PW.pt (pw_or (pt_not (pt_val (pe_g (cal__law_is_signs T) hr (by decide) hgd (by rfl) (passAt tk_def) (pa_cons (pv 1) pa_nil)))) (pw_or1 (pt_not (pt_val (pe_callB (kIsi K rfl) (by rfl) T.n_isinstance (by decide +kernel) (pa_cons (pv 0) (pa_cons (pe_bltn (v := .ty "tuple") (by rfl) T.n_tuple (by decide +kernel) rfl) pa_nil)))))))) (pss_one (ps_ret pe_bl)) pss_nil)
  (pss_cons (ps_for po_def rfl (kiTup K rfl (pv 0)) (pg_name (i := 2) sc__law_is_passing.nd rfl (by first | exact Or.inl rfl | exact Or.inr rfl))
  (pss_cons (ps_set (i := 3) sc__law_is_passing.nd rfl (by first | exact Or.inl rfl | exact Or.inr rfl) (pe_and (pe_callB (kIsi K rfl) (by rfl) T.n_isinstance (by decide +kernel) (pa_cons (pv 2) (pa_cons (pe_bltn (v := .ty "tuple") (by rfl) T.n_tuple (by decide +kernel) rfl) pa_nil))) (pe_and (pe_cmpR (kEqM K rfl hr) (pe_callB (kLen K rfl) (by rfl) T.n_len (by decide +kernel) (pa_cons (pv 2) pa_nil)) pe_int (nomark _)) (pe_and (pe_cmpR (kEqM K rfl hr) (pe_ix (kIx K rfl) (pv 2) pe_int (fun _ _ => rfl)) (pe_tx [115, 97, 109, 101] (by decide +kernel)) (nomark _)) (pe_one (pe_g (cal__law_is_sign T) hr (by decide) hgd (by rfl) (passAt tk_def) (pa_cons (pe_ix (kIx K rfl) (pv 2) pe_int (fun _ _ => rfl)) (pa_cons (pv 1) pa_nil))))))))
  (pss_one (ps_if (PW.pt (pw_and (pt_not (pt_val (pv 3))) (pw_and1 (pt_not (pt_val (pe_g (cal__law_is_kind T) hr (by decide) hgd (by rfl) (passAt tk_def) (pa_cons (pv 2) (pa_cons (pv 1) pa_nil)))))))) (pss_one (ps_ret pe_bl)) pss_nil))))
  (pss_one (ps_ret pe_bl)))),
  (ls_seq (ls_if (lt_or (lt_not (lt_B (le_call (fun _ _ _ _ h => h) (la_cons (le_v 1) la_nil)))) (lt_not (lt_B (le_isi (.inr (.inr (.inr (.inr rfl)))) (lb_v 0))))) (ls_ret (le_c (.bl _))) ls_next)
  (ls_seq (ls_for (li_tup (le_v 0)) (lg_n 2)
  (ls_seq (ls_asg (le_andV (le_isi (.inr (.inr (.inr (.inr rfl)))) (lb_v 2)) (le_andV (le_o2 lo_eqM (LE.lb (le_cb lc_len (lab_cons (lb_v 2) lab_nil))) (LE.lb (le_c (.int _)))) (le_andV (le_o2 lo_eqM (LE.lb (le_o2 lo_ix (lb_v 2) (LE.lb (le_c (.int _))))) (LE.lb (le_c (.str _)))) (le_call (fun _ _ _ _ h => h) (la_cons (le_o2 lo_ix (lb_v 2) (LE.lb (le_c (.int _)))) (la_cons (le_v 1) la_nil)))))) (lg_n 3))
  (ls_if (lt_and (lt_not (lt_B (le_v 3))) (lt_not (lt_B (le_call (fun _ _ _ _ h => h) (la_cons (le_v 2) (la_cons (le_v 1) la_nil)))))) (ls_ret (le_c (.bl _))) ls_next)))
  (ls_ret (le_c (.bl _)))))⟩) (fun _ _ _ _ h => h.1) (fun _ _ _ _ h => h.2)
theorem cal__law_is_passing (T : Txt K mg) : Cal P w K mg base 3 "_law_is_passing" ["value", "signs"] (spOf K mg F__law_is_passing) := cal_of T.d__law_is_passing (fn__law_is_passing T)
def B__law_step : FS := (fSeq (fPar3 2 3 4 (fCons (fCall F__law_take (fCons (fV 0) (fCons (fC (.int 8)) fNil))) (fCons (fCall F__law_take (fCons (fV 0) (fCons (fV 1) fNil))) (fCons (fCall F__law_take (fCons (fV 0) (fCons (fV 1) fNil))) fNil))))
  (fSeq (fIfS (fTor (fTv (fO2 gLt (fB 2) (fC (.int 2)))) (fTand (fTv (fO2 gGt (fB 2) (fC (.int 5)))) (fTv (fO2 gEqM (fB 3) (fB 4))))) (fRet (fTup (fCons (fC (.str [115, 97, 109, 101])) (fCons (fV 3) fNil)))) fNext)
  (fSeq (fIfS (fTv (fO2 gLt (fB 2) (fC (.int 4)))) (fRet (fTup (fCons (fC (.str [108, 111, 115, 116])) (fCons (fV 3) fNil)))) fNext)
  (fRet (fIf (fTv (fO2 gLt (fB 2) (fC (.int 6)))) (fTup (fCons (fC (.str [112, 117, 116])) (fCons (fV 4) fNil))) (fTup (fCons (fC (.str [116, 117, 114, 110, 101, 100])) (fCons (fV 3) (fCons (fV 4) fNil)))))))))
def F__law_step : PFn := fun ds c Q X => ds.length = 2 ∧ B__law_step (endsP Q X) (startP 5 ds) c
theorem fn__law_step (T : Txt K mg) : ∀ f fd, Fun K "_law_step" "_law_step" s__law_step f fd → FnG P w K mg base 2 f fd ["box", "signs"] (spOf K mg F__law_step) :=
  fn_pure (k := 1) (F := F__law_step) (fs := B__law_step) sc__law_step (n := 5) rfl (fun pb cdv f A outer s H E hr hgd => ⟨_, (pss_cons (ps_par3 (i := 2) (j := 3) (l := 4) (by rfl) sc__law_step.nd rfl rfl rfl (by decide) (by decide) (by decide) rfl rfl rfl (pa_cons (pe_g (cal__law_take T) hr (by decide) hgd (by rfl) (passAt tk_def) (pa_cons (pv 0) (pa_cons pe_int pa_nil))) (pa_cons (pe_g (cal__law_take T) hr (by decide) hgd (by rfl) (passAt tk_def) (pa_cons (pv 0) (pa_cons (pv 1) pa_nil))) (pa_cons (pe_g (cal__law_take T) hr (by decide) hgd (by rfl) (passAt tk_def) (pa_cons (pv 0) (pa_cons (pv 1) pa_nil))) pa_nil))) (by rfl))
  (pss_cons (ps_if (PW.pt (pw_or (pt_cmpR uLt (pv 2) pe_int (nomark _)) (pw_or1 (PW.pt (pw_and (pt_cmpR uGt (pv 2) pe_int (nomark _)) (pw_and1 (pt_cmpR (kEqM K rfl hr) (pv 3) (pv 4) (nomark _)))))))) (pss_one (ps_ret (pe_tup (pa_cons (pe_tx [115, 97, 109, 101] (by decide +kernel)) (pa_cons (pv 3) pa_nil))))) pss_nil)
  (pss_cons (ps_if (pt_cmpR uLt (pv 2) pe_int (nomark _)) (pss_one (ps_ret (pe_tup (pa_cons (pe_tx [108, 111, 115, 116] (by decide +kernel)) (pa_cons (pv 3) pa_nil))))) pss_nil)
  (pss_one (ps_ret (pe_ifExp (pt_cmpR uLt (pv 2) pe_int (nomark _)) (pe_tup (pa_cons (pe_tx [112, 117, 116] (by decide +kernel)) (pa_cons (pv 4) pa_nil))) (pe_tup (pa_cons (pe_tx [116, 117, 114, 110, 101, 100] (by decide +kernel)) (pa_cons (pv 3) (pa_cons (pv 4) pa_nil)))))))))),
  (ls_seq (ls_par3 (la_cons (le_call (fun _ _ _ _ h => h) (la_cons (le_v 0) (la_cons (le_c (.int _)) la_nil))) (la_cons (le_call (fun _ _ _ _ h => h) (la_cons (le_v 0) (la_cons (le_v 1) la_nil))) (la_cons (le_call (fun _ _ _ _ h => h) (la_cons (le_v 0) (la_cons (le_v 1) la_nil))) la_nil))))
  (ls_seq (ls_if (lt_or (lt_test (le_o2 lo_lt (lb_v 2) (LE.lb (le_c (.int _))))) (lt_and (lt_test (le_o2 lo_gt (lb_v 2) (LE.lb (le_c (.int _))))) (lt_test (le_o2 lo_eqM (lb_v 3) (lb_v 4))))) (ls_ret (le_tup (la_cons (le_c (.str _)) (la_cons (le_v 3) la_nil)))) ls_next)
  (ls_seq (ls_if (lt_test (le_o2 lo_lt (lb_v 2) (LE.lb (le_c (.int _))))) (ls_ret (le_tup (la_cons (le_c (.str _)) (la_cons (le_v 3) la_nil)))) ls_next)
  (ls_ret (le_if (lt_test (le_o2 lo_lt (lb_v 2) (LE.lb (le_c (.int _))))) (le_tup (la_cons (le_c (.str _)) (la_cons (le_v 4) la_nil))) (le_tup (la_cons (le_c (.str _)) (la_cons (le_v 3) (la_cons (le_v 4) la_nil)))))))))⟩) (fun _ _ _ _ h => h.1) (fun _ _ _ _ h => h.2)
theorem cal__law_step (T : Txt K mg) : Cal P w K mg base 2 "_law_step" ["box", "signs"] (spOf K mg F__law_step) := cal_of T.d__law_step (fn__law_step T)
def B__law_passing : FS := (fSeq (fAsg (fO2 gIx (fLst (fCons (fC (.int 0)) (fCons (fC (.int 1)) (fCons (fC (.int 2)) (fCons (fC (.int 3)) (fCons (fC (.int 5)) (fCons (fC (.int 8)) (fCons (fC (.int 12)) (fCons (fC (.int 3)) (fCons (fC (.int 5)) (fCons (fC (.int 399)) fNil))))))))))) (fCall F__law_take (fCons (fV 0) (fCons (fC (.int 10)) fNil)))) (gN 2))
  (fRet (fCB gTuple (fCons (fLc (fRg1 (fCons (fV 2) fNil)) (gN 3) fYes (fCall F__law_step (fCons (fV 0) (fCons (fV 1) fNil))) [3]) fNil))))
def F__law_passing : PFn := fun ds c Q X => ds.length = 2 ∧ B__law_passing (endsP Q X) (startP 4 ds) c
theorem fn__law_passing (T : Txt K mg) : ∀ f fd, Fun K "_law_passing" "_law_passing" s__law_passing f fd → FnG P w K mg base 3 f fd ["box", "signs"] (spOf K mg F__law_passing) :=
  fn_pure (k := 2) (F := F__law_passing) (fs := B__law_passing) sc__law_passing (n := 4) rfl (fun pb cdv f A outer s H E hr hgd => ⟨_, (pss_cons (ps_set (i := 2) sc__law_passing.nd rfl (by first | exact Or.inl rfl | exact Or.inr rfl) (pe_ix (kIx K rfl) (pe_lst (pa_cons pe_int (pa_cons pe_int (pa_cons pe_int (pa_cons pe_int (pa_cons pe_int (pa_cons pe_int (pa_cons pe_int (pa_cons pe_int (pa_cons pe_int (pa_cons pe_int pa_nil))))))))))) (pe_g (cal__law_take T) hr (by decide) hgd (by rfl) (passAt tk_def) (pa_cons (pv 0) (pa_cons pe_int pa_nil))) (fun _ _ => rfl)))
  (pss_one (ps_ret (pe_callTy (kTupOf K rfl) (by rfl) T.n_tuple (by decide +kernel) (pa_cons (pe_lc (own := [("k", 3)]) rfl sc__law_passing.nd (pi_range1 (by rfl) T.n_range (pa_cons (pv 2) pa_nil)) (blkOk_by (own := [("k", 3)]) (N := N__law_passing) (sc := defScope s__law_passing) (by decide +kernel)) (fun _ _ _ _ _ => (pg_name (i := 3) sc__law_passing.nd rfl (by first | exact Or.inl rfl | exact Or.inr rfl))) (fun _ _ _ _ _ => pts_nil) (fun _ _ _ _ _ => (pe_g (cal__law_step T) hr (by decide) hgd (by rfl) noX (pa_cons (pv 0) (pa_cons (pv 1) pa_nil))))) pa_nil))))),
  (ls_seq (ls_asg (le_o2 lo_ix (LE.lb (LF.le (lf_lst (la_cons (le_c (.int _)) (la_cons (le_c (.int _)) (la_cons (le_c (.int _)) (la_cons (le_c (.int _)) (la_cons (le_c (.int _)) (la_cons (le_c (.int _)) (la_cons (le_c (.int _)) (la_cons (le_c (.int _)) (la_cons (le_c (.int _)) (la_cons (le_c (.int _)) la_nil))))))))))))) (LE.lb (le_call (fun _ _ _ _ h => h) (la_cons (le_v 0) (la_cons (le_c (.int _)) la_nil))))) (lg_n 2))
  (ls_ret (le_cb lc_tuple (lab_cons (LE.lb (LF.le (lf_lc (LI.c (li_rg1 (la_cons (le_v 2) la_nil))) (lg_n 3) lt_yes (le_call (fun _ _ _ _ h => h.elim) (la_cons (le_v 0) (la_cons (le_v 1) la_nil))) (by decide)))) lab_nil))))⟩) (fun _ _ _ _ h => h.1) (fun _ _ _ _ h => h.2)
theorem cal__law_passing (T : Txt K mg) : Cal P w K mg base 3 "_law_passing" ["box", "signs"] (spOf K mg F__law_passing) := cal_of T.d__law_passing (fn__law_passing T)
def B__law_odd : FS := (fSeq (fPar3 3 4 5 (fCons (fO2 gIx (fB 1) (fC (.int 0))) (fCons (fO2 gIx (fB 1) (fC (.int 1))) (fCons (fCall F__law_take (fCons (fV 0) (fCons (fC (.int 4)) fNil))) fNil))))
  (fSeq (fIfS (fTv (fO2 gEqM (fB 5) (fC (.int 0)))) (fAsg (fLst (fCons (fCB gList (fCons (fB 1) fNil)) (fCons (fO2 gAdd (fB 1) (fTup (fCons (fC (.int 0)) fNil))) (fCons (fSl gSl (fB 1) fNoPart (fPart (fC (.int 1)))) (fCons (fTup (fCons (fV 1) fNil)) (fCons (fTup (fCons (fV 4) (fCons (fV 3) fNil))) (fCons (fV 3) (fCons (fC .non) (fCons (fV 4) (fCons fDNew (fCons (fTup fNil) (fCons (fLst (fCons (fC (.str [115, 97, 109, 101])) (fCons (fV 4) fNil))) (fCons (fTup (fCons (fV 3) (fCons (fLst (fCons (fV 4) fNil)) fNil))) fNil))))))))))))) (gN 6)) (fIfS (fTv (fO2 gEqM (fB 5) (fC (.int 1)))) (fSeq (fAsg (fLst (fCons (fTup (fCons (fV 3) (fCons (fV 2) fNil))) (fCons (fTup (fCons (fV 3) (fCons (fO2 gSubI (fB 2) (fC (.int 1))) fNil))) (fCons (fTup (fCons (fV 3) (fCons (fC (.int 5)) fNil))) (fCons (fTup (fCons (fV 3) (fCons (fC (.int 4)) fNil))) (fCons (fTup (fCons (fV 3) (fCons (fO2 gSubI (fC (.int 0)) (fC (.int 1))) fNil))) (fCons (fTup (fCons (fV 3) (fCons (fC (.bl true)) fNil))) (fCons (fTup (fCons (fV 3) (fCons (fC (.bl false)) fNil))) fNil)))))))) (gN 6))
  (fAsg (fO2 gAdd (fB 6) (fLst (fCons (fTup (fCons (fV 3) (fCons (fC .non) fNil))) (fCons (fTup (fCons (fV 3) (fCons (fCB gStr (fCons (fB 4) fNil)) fNil))) (fCons (fTup (fCons (fV 3) (fCons (fTup (fCons (fV 4) fNil)) fNil))) (fCons (fTup (fCons (fV 3) (fCons (fO2 gPow (fC (.int 10)) (fC (.int 18))) fNil))) fNil)))))) (gN 6))) (fIfS (fTv (fO2 gEqM (fB 5) (fC (.int 2)))) (fSeq (fAsg (fLst (fCons (fTup (fCons (fC (.str [116, 117, 114, 110, 101, 100])) (fCons (fV 4) (fCons (fV 4) fNil)))) (fCons (fTup (fCons (fC (.str [116, 117, 114, 110, 101, 100])) (fCons (fV 4) fNil))) (fCons (fTup (fCons (fC (.str [116, 117, 114, 110, 101, 100])) (fCons (fV 4) (fCons (fC (.int 5)) fNil)))) (fCons (fTup (fCons (fC (.str [116, 117, 114, 110, 101, 100])) (fCons (fC (.int 5)) (fCons (fV 4) fNil)))) (fCons (fTup (fCons (fC (.str [116, 117, 114, 110, 101, 100])) (fCons (fC (.int 4)) (fCons (fV 4) fNil)))) (fCons (fTup (fCons (fC (.str [116, 117, 114, 110, 101, 100])) (fCons (fV 4) (fCons (fC (.int 4)) fNil)))) fNil))))))) (gN 6))
  (fSeq (fAsg (fO2 gAdd (fB 6) (fLst (fCons (fTup (fCons (fC (.str [116, 117, 114, 110, 101, 100])) (fCons (fV 4) (fCons (fO2 gSubI (fC (.int 0)) (fC (.int 1))) fNil)))) (fCons (fTup (fCons (fC (.str [116, 117, 114, 110, 101, 100])) (fCons (fC (.bl true)) (fCons (fC (.int 0)) fNil)))) (fCons (fTup (fCons (fC (.str [116, 117, 114, 110, 101, 100])) (fCons (fC (.int 0)) (fCons (fC (.bl true)) fNil)))) (fCons (fTup (fCons (fC (.str [116, 117, 114, 110, 101, 100])) (fCons (fV 4) (fCons (fC .non) fNil)))) fNil)))))) (gN 6))
  (fAsg (fO2 gAdd (fB 6) (fLst (fCons (fTup (fCons (fC (.str [116, 117, 114, 110, 101, 100])) (fCons (fV 4) (fCons (fO2 gAdd (fB 4) (fC (.int 1))) fNil)))) (fCons (fTup (fCons (fC (.str [116, 117, 114, 110, 101, 100])) (fCons (fV 4) (fCons (fC (.str [48])) fNil)))) (fCons (fTup (fCons (fC (.str [116, 117, 114, 110, 101, 100])) (fCons (fV 4) (fCons (fO2 gMod (fCB gInt (fCons (fO2 gAdd (fB 4) (fC (.int 1))) fNil)) (fC (.int 5))) (fCons (fV 4) fNil))))) (fCons (fTup (fCons (fC (.str [116, 117, 114, 110, 101, 100])) fNil)) fNil)))))) (gN 6)))) (fSeq (fAsg (fLst (fCons (fTup (fCons (fC (.str [83, 97, 109, 101])) (fCons (fV 4) fNil))) (fCons (fTup (fCons (fC (.str [115, 97, 109, 101])) (fCons (fV 4) (fCons (fV 4) fNil)))) (fCons (fTup (fCons (fC (.str [108, 111, 115, 116])) (fCons (fV 4) (fCons (fV 4) fNil)))) (fCons (fTup (fCons (fC (.str [112, 117, 116])) fNil)) (fCons (fTup (fCons (fC (.str [100, 114, 111, 112])) (fCons (fV 4) fNil))) (fCons (fTup (fCons (fC .non) (fCons (fV 4) fNil))) (fCons (fTup (fCons (fTup (fCons (fC (.str [108, 111, 115, 116])) fNil)) (fCons (fV 4) fNil))) (fCons (fTup (fCons (fC (.str [])) (fCons (fV 4) fNil))) fNil))))))))) (gN 6))
  (fAsg (fO2 gAdd (fB 6) (fLst (fCons (fTup (fCons (fC (.str [115, 97, 109, 101])) fNil)) (fCons (fTup (fCons (fC (.str [108, 111, 115, 116, 32])) (fCons (fV 4) fNil))) (fCons (fTup (fCons (fC (.str [115, 97, 109, 101])) (fCons (fO2 gSubI (fC (.int 0)) (fC (.int 1))) fNil))) (fCons (fTup (fCons (fC (.str [112, 117, 116])) (fCons (fC (.int 5)) fNil))) (fCons (fTup (fCons (fC (.str [115, 97, 109, 101])) (fCons (fC (.int 4)) fNil))) (fCons (fTup (fCons (fC (.str [108, 111, 115, 116])) (fCons (fC (.int 4)) fNil))) (fCons (fTup (fCons (fC (.str [112, 117, 116])) (fCons (fC (.int 4)) fNil))) fNil))))))))) (gN 6))))))
  (fRet (fO2 gIx (fB 6) (fCall F__law_take (fCons (fV 0) (fCons (fCB gLen (fCons (fB 6) fNil)) fNil)))))))
def F__law_odd : PFn := fun ds c Q X => ds.length = 3 ∧ B__law_odd (endsP Q X) (startP 7 ds) c
theorem fn__law_odd (T : Txt K mg) : ∀ f fd, Fun K "_law_odd" "_law_odd" s__law_odd f fd → FnG P w K mg base 2 f fd ["box", "step", "signs"] (spOf K mg F__law_odd) :=
  fn_pure (k := 1) (F := F__law_odd) (fs := B__law_odd) sc__law_odd (n := 7) rfl (fun pb cdv f A outer s H E hr hgd => ⟨_, (pss_cons (ps_par3 (i := 3) (j := 4) (l := 5) (by rfl) sc__law_odd.nd rfl rfl rfl (by decide) (by decide) (by decide) rfl rfl rfl (pa_cons (pe_ix (kIx K rfl) (pv 1) pe_int (fun _ _ => rfl)) (pa_cons (pe_ix (kIx K rfl) (pv 1) pe_int (fun _ _ => rfl)) (pa_cons (pe_g (cal__law_take T) hr (by decide) hgd (by rfl) (passAt tk_def) (pa_cons (pv 0) (pa_cons pe_int pa_nil))) pa_nil))) (by rfl))
  (pss_cons (ps_if (pt_cmpR (kEqM K rfl hr) (pv 5) pe_int (nomark _)) (pss_one (ps_set (i := 6) sc__law_odd.nd rfl (by first | exact Or.inl rfl | exact Or.inr rfl) (pe_lst (pa_cons (pe_callTy (kList K rfl) (by rfl) T.n_list (by decide +kernel) (pa_cons (pv 1) pa_nil)) (pa_cons (pe_op (kAdd K rfl) (pv 1) (pe_tup (pa_cons pe_int pa_nil))) (pa_cons (pe_slice (kSl K rfl) (pv 1) po_none (po_some pe_int)) (pa_cons (pe_tup (pa_cons (pv 1) pa_nil)) (pa_cons (pe_tup (pa_cons (pv 4) (pa_cons (pv 3) pa_nil))) (pa_cons (pv 3) (pa_cons pe_non (pa_cons (pv 4) (pa_cons pe_dnewK (pa_cons (pe_tup pa_nil) (pa_cons (pe_lst (pa_cons (pe_tx [115, 97, 109, 101] (by decide +kernel)) (pa_cons (pv 4) pa_nil))) (pa_cons (pe_tup (pa_cons (pv 3) (pa_cons (pe_lst (pa_cons (pv 4) pa_nil)) pa_nil))) pa_nil))))))))))))))) (pss_one (ps_if (pt_cmpR (kEqM K rfl hr) (pv 5) pe_int (nomark _)) (pss_cons (ps_set (i := 6) sc__law_odd.nd rfl (by first | exact Or.inl rfl | exact Or.inr rfl) (pe_lst (pa_cons (pe_tup (pa_cons (pv 3) (pa_cons (pv 2) pa_nil))) (pa_cons (pe_tup (pa_cons (pv 3) (pa_cons (pe_op uSub (pv 2) pe_int) pa_nil))) (pa_cons (pe_tup (pa_cons (pv 3) (pa_cons pe_int pa_nil))) (pa_cons (pe_tup (pa_cons (pv 3) (pa_cons pe_int pa_nil))) (pa_cons (pe_tup (pa_cons (pv 3) (pa_cons (pe_op uSub pe_int pe_int) pa_nil))) (pa_cons (pe_tup (pa_cons (pv 3) (pa_cons pe_bl pa_nil))) (pa_cons (pe_tup (pa_cons (pv 3) (pa_cons pe_bl pa_nil))) pa_nil)))))))))
  (pss_one (ps_set (i := 6) sc__law_odd.nd rfl (by first | exact Or.inl rfl | exact Or.inr rfl) (pe_op (kAdd K rfl) (pv 6) (pe_lst (pa_cons (pe_tup (pa_cons (pv 3) (pa_cons pe_non pa_nil))) (pa_cons (pe_tup (pa_cons (pv 3) (pa_cons (pe_callTy uStrI (by rfl) T.n_str (by decide +kernel) (pa_cons (pv 4) pa_nil)) pa_nil))) (pa_cons (pe_tup (pa_cons (pv 3) (pa_cons (pe_tup (pa_cons (pv 4) pa_nil)) pa_nil))) (pa_cons (pe_tup (pa_cons (pv 3) (pa_cons (pe_op uPow pe_int pe_int) pa_nil))) pa_nil))))))))) (pss_one (ps_if (pt_cmpR (kEqM K rfl hr) (pv 5) pe_int (nomark _)) (pss_cons (ps_set (i := 6) sc__law_odd.nd rfl (by first | exact Or.inl rfl | exact Or.inr rfl) (pe_lst (pa_cons (pe_tup (pa_cons (pe_tx [116, 117, 114, 110, 101, 100] (by decide +kernel)) (pa_cons (pv 4) (pa_cons (pv 4) pa_nil)))) (pa_cons (pe_tup (pa_cons (pe_tx [116, 117, 114, 110, 101, 100] (by decide +kernel)) (pa_cons (pv 4) pa_nil))) (pa_cons (pe_tup (pa_cons (pe_tx [116, 117, 114, 110, 101, 100] (by decide +kernel)) (pa_cons (pv 4) (pa_cons pe_int pa_nil)))) (pa_cons (pe_tup (pa_cons (pe_tx [116, 117, 114, 110, 101, 100] (by decide +kernel)) (pa_cons pe_int (pa_cons (pv 4) pa_nil)))) (pa_cons (pe_tup (pa_cons (pe_tx [116, 117, 114, 110, 101, 100] (by decide +kernel)) (pa_cons pe_int (pa_cons (pv 4) pa_nil)))) (pa_cons (pe_tup (pa_cons (pe_tx [116, 117, 114, 110, 101, 100] (by decide +kernel)) (pa_cons (pv 4) (pa_cons pe_int pa_nil)))) pa_nil))))))))
  (pss_cons (ps_set (i := 6) sc__law_odd.nd rfl (by first | exact Or.inl rfl | exact Or.inr rfl) (pe_op (kAdd K rfl) (pv 6) (pe_lst (pa_cons (pe_tup (pa_cons (pe_tx [116, 117, 114, 110, 101, 100] (by decide +kernel)) (pa_cons (pv 4) (pa_cons (pe_op uSub pe_int pe_int) pa_nil)))) (pa_cons (pe_tup (pa_cons (pe_tx [116, 117, 114, 110, 101, 100] (by decide +kernel)) (pa_cons pe_bl (pa_cons pe_int pa_nil)))) (pa_cons (pe_tup (pa_cons (pe_tx [116, 117, 114, 110, 101, 100] (by decide +kernel)) (pa_cons pe_int (pa_cons pe_bl pa_nil)))) (pa_cons (pe_tup (pa_cons (pe_tx [116, 117, 114, 110, 101, 100] (by decide +kernel)) (pa_cons (pv 4) (pa_cons pe_non pa_nil)))) pa_nil)))))))
  (pss_one (ps_set (i := 6) sc__law_odd.nd rfl (by first | exact Or.inl rfl | exact Or.inr rfl) (pe_op (kAdd K rfl) (pv 6) (pe_lst (pa_cons (pe_tup (pa_cons (pe_tx [116, 117, 114, 110, 101, 100] (by decide +kernel)) (pa_cons (pv 4) (pa_cons (pe_op (kAdd K rfl) (pv 4) pe_int) pa_nil)))) (pa_cons (pe_tup (pa_cons (pe_tx [116, 117, 114, 110, 101, 100] (by decide +kernel)) (pa_cons (pv 4) (pa_cons (pe_tx [48] (by decide +kernel)) pa_nil)))) (pa_cons (pe_tup (pa_cons (pe_tx [116, 117, 114, 110, 101, 100] (by decide +kernel)) (pa_cons (pv 4) (pa_cons (pe_op uMod (pe_callTy uInt (by rfl) T.n_int (by decide +kernel) (pa_cons (pe_op (kAdd K rfl) (pv 4) pe_int) pa_nil)) pe_int) (pa_cons (pv 4) pa_nil))))) (pa_cons (pe_tup (pa_cons (pe_tx [116, 117, 114, 110, 101, 100] (by decide +kernel)) pa_nil)) pa_nil)))))))))) (pss_cons (ps_set (i := 6) sc__law_odd.nd rfl (by first | exact Or.inl rfl | exact Or.inr rfl) (pe_lst (pa_cons (pe_tup (pa_cons (pe_tx [83, 97, 109, 101] (by decide +kernel)) (pa_cons (pv 4) pa_nil))) (pa_cons (pe_tup (pa_cons (pe_tx [115, 97, 109, 101] (by decide +kernel)) (pa_cons (pv 4) (pa_cons (pv 4) pa_nil)))) (pa_cons (pe_tup (pa_cons (pe_tx [108, 111, 115, 116] (by decide +kernel)) (pa_cons (pv 4) (pa_cons (pv 4) pa_nil)))) (pa_cons (pe_tup (pa_cons (pe_tx [112, 117, 116] (by decide +kernel)) pa_nil)) (pa_cons (pe_tup (pa_cons (pe_tx [100, 114, 111, 112] (by decide +kernel)) (pa_cons (pv 4) pa_nil))) (pa_cons (pe_tup (pa_cons pe_non (pa_cons (pv 4) pa_nil))) (pa_cons (pe_tup (pa_cons (pe_tup (pa_cons (pe_tx [108, 111, 115, 116] (by decide +kernel)) pa_nil)) (pa_cons (pv 4) pa_nil))) (pa_cons (pe_tup (pa_cons (pe_tx [] (by decide +kernel)) (pa_cons (pv 4) pa_nil))) pa_nil))))))))))
  (pss_one (ps_set (i := 6) sc__law_odd.nd rfl (by first | exact Or.inl rfl | exact Or.inr rfl) (pe_op (kAdd K rfl) (pv 6) (pe_lst (pa_cons (pe_tup (pa_cons (pe_tx [115, 97, 109, 101] (by decide +kernel)) pa_nil)) (pa_cons (pe_tup (pa_cons (pe_tx [108, 111, 115, 116, 32] (by decide +kernel)) (pa_cons (pv 4) pa_nil))) (pa_cons (pe_tup (pa_cons (pe_tx [115, 97, 109, 101] (by decide +kernel)) (pa_cons (pe_op uSub pe_int pe_int) pa_nil))) (pa_cons (pe_tup (pa_cons (pe_tx [112, 117, 116] (by decide +kernel)) (pa_cons pe_int pa_nil))) (pa_cons (pe_tup (pa_cons (pe_tx [115, 97, 109, 101] (by decide +kernel)) (pa_cons pe_int pa_nil))) (pa_cons (pe_tup (pa_cons (pe_tx [108, 111, 115, 116] (by decide +kernel)) (pa_cons pe_int pa_nil))) (pa_cons (pe_tup (pa_cons (pe_tx [112, 117, 116] (by decide +kernel)) (pa_cons pe_int pa_nil))) pa_nil)))))))))))))))))
  (pss_one (ps_ret (pe_ix (kIx K rfl) (pv 6) (pe_g (cal__law_take T) hr (by decide) hgd (by rfl) (passAt tk_def) (pa_cons (pv 0) (pa_cons (pe_callB (kLen K rfl) (by rfl) T.n_len (by decide +kernel) (pa_cons (pv 6) pa_nil)) pa_nil))) (fun _ _ => rfl)))))),
  (ls_seq (ls_par3 (la_cons (le_o2 lo_ix (lb_v 1) (LE.lb (le_c (.int _)))) (la_cons (le_o2 lo_ix (lb_v 1) (LE.lb (le_c (.int _)))) (la_cons (le_call (fun _ _ _ _ h => h) (la_cons (le_v 0) (la_cons (le_c (.int _)) la_nil))) la_nil))))
  (ls_seq (ls_if (lt_test (le_o2 lo_eqM (lb_v 5) (LE.lb (le_c (.int _))))) (ls_asg (LF.le (lf_lst (la_cons (LF.le (lf_cb lcf_list (lab_cons (lb_v 1) lab_nil))) (la_cons (le_o2 lo_add (lb_v 1) (LE.lb (le_tup (la_cons (le_c (.int _)) la_nil)))) (la_cons (le_sl lo_sl (lb_v 1) lo_none (lo_some (le_c (.int _)))) (la_cons (le_tup (la_cons (le_v 1) la_nil)) (la_cons (le_tup (la_cons (le_v 4) (la_cons (le_v 3) la_nil))) (la_cons (le_v 3) (la_cons (le_c .non) (la_cons (le_v 4) (la_cons (LF.le lf_dnew) (la_cons (le_tup la_nil) (la_cons (LF.le (lf_lst (la_cons (le_c (.str _)) (la_cons (le_v 4) la_nil)))) (la_cons (le_tup (la_cons (le_v 3) (la_cons (LF.le (lf_lst (la_cons (le_v 4) la_nil))) la_nil))) la_nil)))))))))))))) (lg_n 6)) (ls_if (lt_test (le_o2 lo_eqM (lb_v 5) (LE.lb (le_c (.int _))))) (ls_seq (ls_asg (LF.le (lf_lst (la_cons (le_tup (la_cons (le_v 3) (la_cons (le_v 2) la_nil))) (la_cons (le_tup (la_cons (le_v 3) (la_cons (le_o2 lo_sub (lb_v 2) (LE.lb (le_c (.int _)))) la_nil))) (la_cons (le_tup (la_cons (le_v 3) (la_cons (le_c (.int _)) la_nil))) (la_cons (le_tup (la_cons (le_v 3) (la_cons (le_c (.int _)) la_nil))) (la_cons (le_tup (la_cons (le_v 3) (la_cons (le_o2 lo_sub (LE.lb (le_c (.int _))) (LE.lb (le_c (.int _)))) la_nil))) (la_cons (le_tup (la_cons (le_v 3) (la_cons (le_c (.bl _)) la_nil))) (la_cons (le_tup (la_cons (le_v 3) (la_cons (le_c (.bl _)) la_nil))) la_nil))))))))) (lg_n 6))
  (ls_asg (le_o2 lo_add (lb_v 6) (LE.lb (LF.le (lf_lst (la_cons (le_tup (la_cons (le_v 3) (la_cons (le_c .non) la_nil))) (la_cons (le_tup (la_cons (le_v 3) (la_cons (le_cb lc_str (lab_cons (lb_v 4) lab_nil)) la_nil))) (la_cons (le_tup (la_cons (le_v 3) (la_cons (le_tup (la_cons (le_v 4) la_nil)) la_nil))) (la_cons (le_tup (la_cons (le_v 3) (la_cons (le_o2 lo_pow (LE.lb (le_c (.int _))) (LE.lb (le_c (.int _)))) la_nil))) la_nil)))))))) (lg_n 6))) (ls_if (lt_test (le_o2 lo_eqM (lb_v 5) (LE.lb (le_c (.int _))))) (ls_seq (ls_asg (LF.le (lf_lst (la_cons (le_tup (la_cons (le_c (.str _)) (la_cons (le_v 4) (la_cons (le_v 4) la_nil)))) (la_cons (le_tup (la_cons (le_c (.str _)) (la_cons (le_v 4) la_nil))) (la_cons (le_tup (la_cons (le_c (.str _)) (la_cons (le_v 4) (la_cons (le_c (.int _)) la_nil)))) (la_cons (le_tup (la_cons (le_c (.str _)) (la_cons (le_c (.int _)) (la_cons (le_v 4) la_nil)))) (la_cons (le_tup (la_cons (le_c (.str _)) (la_cons (le_c (.int _)) (la_cons (le_v 4) la_nil)))) (la_cons (le_tup (la_cons (le_c (.str _)) (la_cons (le_v 4) (la_cons (le_c (.int _)) la_nil)))) la_nil)))))))) (lg_n 6))
  (ls_seq (ls_asg (le_o2 lo_add (lb_v 6) (LE.lb (LF.le (lf_lst (la_cons (le_tup (la_cons (le_c (.str _)) (la_cons (le_v 4) (la_cons (le_o2 lo_sub (LE.lb (le_c (.int _))) (LE.lb (le_c (.int _)))) la_nil)))) (la_cons (le_tup (la_cons (le_c (.str _)) (la_cons (le_c (.bl _)) (la_cons (le_c (.int _)) la_nil)))) (la_cons (le_tup (la_cons (le_c (.str _)) (la_cons (le_c (.int _)) (la_cons (le_c (.bl _)) la_nil)))) (la_cons (le_tup (la_cons (le_c (.str _)) (la_cons (le_v 4) (la_cons (le_c .non) la_nil)))) la_nil)))))))) (lg_n 6))
  (ls_asg (le_o2 lo_add (lb_v 6) (LE.lb (LF.le (lf_lst (la_cons (le_tup (la_cons (le_c (.str _)) (la_cons (le_v 4) (la_cons (le_o2 lo_add (lb_v 4) (LE.lb (le_c (.int _)))) la_nil)))) (la_cons (le_tup (la_cons (le_c (.str _)) (la_cons (le_v 4) (la_cons (le_c (.str _)) la_nil)))) (la_cons (le_tup (la_cons (le_c (.str _)) (la_cons (le_v 4) (la_cons (le_o2 lo_mod (LE.lb (le_cb lc_int (lab_cons (LE.lb (le_o2 lo_add (lb_v 4) (LE.lb (le_c (.int _))))) lab_nil))) (LE.lb (le_c (.int _)))) (la_cons (le_v 4) la_nil))))) (la_cons (le_tup (la_cons (le_c (.str _)) la_nil)) la_nil)))))))) (lg_n 6)))) (ls_seq (ls_asg (LF.le (lf_lst (la_cons (le_tup (la_cons (le_c (.str _)) (la_cons (le_v 4) la_nil))) (la_cons (le_tup (la_cons (le_c (.str _)) (la_cons (le_v 4) (la_cons (le_v 4) la_nil)))) (la_cons (le_tup (la_cons (le_c (.str _)) (la_cons (le_v 4) (la_cons (le_v 4) la_nil)))) (la_cons (le_tup (la_cons (le_c (.str _)) la_nil)) (la_cons (le_tup (la_cons (le_c (.str _)) (la_cons (le_v 4) la_nil))) (la_cons (le_tup (la_cons (le_c .non) (la_cons (le_v 4) la_nil))) (la_cons (le_tup (la_cons (le_tup (la_cons (le_c (.str _)) la_nil)) (la_cons (le_v 4) la_nil))) (la_cons (le_tup (la_cons (le_c (.str _)) (la_cons (le_v 4) la_nil))) la_nil)))))))))) (lg_n 6))
  (ls_asg (le_o2 lo_add (lb_v 6) (LE.lb (LF.le (lf_lst (la_cons (le_tup (la_cons (le_c (.str _)) la_nil)) (la_cons (le_tup (la_cons (le_c (.str _)) (la_cons (le_v 4) la_nil))) (la_cons (le_tup (la_cons (le_c (.str _)) (la_cons (le_o2 lo_sub (LE.lb (le_c (.int _))) (LE.lb (le_c (.int _)))) la_nil))) (la_cons (le_tup (la_cons (le_c (.str _)) (la_cons (le_c (.int _)) la_nil))) (la_cons (le_tup (la_cons (le_c (.str _)) (la_cons (le_c (.int _)) la_nil))) (la_cons (le_tup (la_cons (le_c (.str _)) (la_cons (le_c (.int _)) la_nil))) (la_cons (le_tup (la_cons (le_c (.str _)) (la_cons (le_c (.int _)) la_nil))) la_nil))))))))))) (lg_n 6))))))
  (ls_ret (le_o2 lo_ix (lb_v 6) (LE.lb (le_call (fun _ _ _ _ h => h) (la_cons (le_v 0) (la_cons (le_cb lc_len (lab_cons (lb_v 6) lab_nil)) la_nil))))))))⟩) (fun _ _ _ _ h => h.1) (fun _ _ _ _ h => h.2)
theorem cal__law_odd (T : Txt K mg) : Cal P w K mg base 2 "_law_odd" ["box", "step", "signs"] (spOf K mg F__law_odd) := cal_of T.d__law_odd (fn__law_odd T)
def B__law_near : FS := (fSeq (fPar 4 5 (fCons (fCall F__law_take (fCons (fV 0) (fCons (fC (.int 7)) fNil))) (fCons (fCall F__law_take (fCons (fV 0) (fCons (fO2 gAdd (fCB gLen (fCons (fB 1) fNil)) (fC (.int 1))) fNil))) fNil)))
  (fSeq (fIfS (fTv (fO2 gEqM (fB 4) (fC (.int 0)))) (fRet (fCB gList (fCons (fB 1) fNil))) fNext)
  (fSeq (fIfS (fTv (fO2 gEqM (fB 4) (fC (.int 1)))) (fSeq (fAsg (fLst (fCons (fC .non) (fCons (fC (.int 0)) (fCons (fC (.str [])) (fCons (fC (.str [115, 97, 109, 101])) (fCons fDNew (fCons (fLst fNil) (fCons (fTup (fCons (fC (.str [115, 97, 109, 101])) (fCons (fC (.int 0)) fNil))) (fCons (fTup (fCons (fC (.str [108, 111, 115, 116])) (fCons (fC (.int 0)) fNil))) (fCons (fTup (fCons (fC (.int 0)) fNil)) (fCons (fTup (fCons (fTup fNil) fNil)) (fCons (fLst (fCons (fTup (fCons (fC (.str [115, 97, 109, 101])) (fCons (fC (.int 0)) fNil))) fNil)) (fCons (fC (.bl true)) (fCons (fTup (fCons (fC (.str [116, 117, 114, 110, 101, 100])) (fCons (fC (.int 0)) (fCons (fC (.int 1)) fNil)))) fNil)))))))))))))) (gN 6))
  (fRet (fO2 gIx (fB 6) (fCall F__law_take (fCons (fV 0) (fCons (fCB gLen (fCons (fB 6) fNil)) fNil)))))) fNext)
  (fSeq (fAsg (fIf (fTv (fO2 gLt (fB 5) (fCB gLen (fCons (fB 1) fNil)))) (fO2 gIx (fB 1) (fB 5)) (fTup (fCons (fC (.str [115, 97, 109, 101])) (fCons (fC (.int 0)) fNil)))) (gN 3))
  (fRet (fO2 gAdd (fO2 gAdd (fSl gSl (fB 1) fNoPart (fPart (fV 5))) (fTup (fCons (fCall F__law_odd (fCons (fV 0) (fCons (fV 3) (fCons (fV 2) fNil)))) fNil))) (fSl gSl (fB 1) (fPart (fO2 gAdd (fB 5) (fCB gInt (fCons (fO2 gGt (fB 4) (fC (.int 3))) fNil)))) fNoPart)))))))
def F__law_near : PFn := fun ds c Q X => ds.length = 3 ∧ B__law_near (endsP Q X) (startP 7 ds) c
theorem fn__law_near (T : Txt K mg) : ∀ f fd, Fun K "_law_near" "_law_near" s__law_near f fd → FnG P w K mg base 3 f fd ["box", "passing", "signs"] (spOf K mg F__law_near) :=
  fn_pure (k := 2) (F := F__law_near) (fs := B__law_near) sc__law_near (n := 7) rfl (fun pb cdv f A outer s H E hr hgd => ⟨_, (pss_cons (ps_par (i := 4) (j := 5) (by rfl) sc__law_near.nd rfl rfl (by decide) rfl rfl (pa_cons (pe_g (cal__law_take T) hr (by decide) hgd (by rfl) (passAt tk_def) (pa_cons (pv 0) (pa_cons pe_int pa_nil))) (pa_cons (pe_g (cal__law_take T) hr (by decide) hgd (by rfl) (passAt tk_def) (pa_cons (pv 0) (pa_cons (pe_op (kAdd K rfl) (pe_callB (kLen K rfl) (by rfl) T.n_len (by decide +kernel) (pa_cons (pv 1) pa_nil)) pe_int) pa_nil))) pa_nil)) (by rfl))
  (pss_cons (ps_if (pt_cmpR (kEqM K rfl hr) (pv 4) pe_int (nomark _)) (pss_one (ps_ret (pe_callTy (kList K rfl) (by rfl) T.n_list (by decide +kernel) (pa_cons (pv 1) pa_nil)))) pss_nil)
  (pss_cons (ps_if (pt_cmpR (kEqM K rfl hr) (pv 4) pe_int (nomark _)) (pss_cons (ps_set (i := 6) sc__law_near.nd rfl (by first | exact Or.inl rfl | exact Or.inr rfl) (pe_lst (pa_cons pe_non (pa_cons pe_int (pa_cons (pe_tx [] (by decide +kernel)) (pa_cons (pe_tx [115, 97, 109, 101] (by decide +kernel)) (pa_cons pe_dnewK (pa_cons (pe_lst pa_nil) (pa_cons (pe_tup (pa_cons (pe_tx [115, 97, 109, 101] (by decide +kernel)) (pa_cons pe_int pa_nil))) (pa_cons (pe_tup (pa_cons (pe_tx [108, 111, 115, 116] (by decide +kernel)) (pa_cons pe_int pa_nil))) (pa_cons (pe_tup (pa_cons pe_int pa_nil)) (pa_cons (pe_tup (pa_cons (pe_tup pa_nil) pa_nil)) (pa_cons (pe_lst (pa_cons (pe_tup (pa_cons (pe_tx [115, 97, 109, 101] (by decide +kernel)) (pa_cons pe_int pa_nil))) pa_nil)) (pa_cons pe_bl (pa_cons (pe_tup (pa_cons (pe_tx [116, 117, 114, 110, 101, 100] (by decide +kernel)) (pa_cons pe_int (pa_cons pe_int pa_nil)))) pa_nil)))))))))))))))
  (pss_one (ps_ret (pe_ix (kIx K rfl) (pv 6) (pe_g (cal__law_take T) hr (by decide) hgd (by rfl) (passAt tk_def) (pa_cons (pv 0) (pa_cons (pe_callB (kLen K rfl) (by rfl) T.n_len (by decide +kernel) (pa_cons (pv 6) pa_nil)) pa_nil))) (fun _ _ => rfl))))) pss_nil)
  (pss_cons (ps_set (i := 3) sc__law_near.nd rfl (by first | exact Or.inl rfl | exact Or.inr rfl) (pe_ifExp (pt_cmpR uLt (pv 5) (pe_callB (kLen K rfl) (by rfl) T.n_len (by decide +kernel) (pa_cons (pv 1) pa_nil)) (nomark _)) (pe_ix (kIx K rfl) (pv 1) (pv 5) (fun _ _ => rfl)) (pe_tup (pa_cons (pe_tx [115, 97, 109, 101] (by decide +kernel)) (pa_cons pe_int pa_nil)))))
  (pss_one (ps_ret (pe_op (kAdd K rfl) (pe_op (kAdd K rfl) (pe_slice (kSl K rfl) (pv 1) po_none (po_some (pv 5))) (pe_tup (pa_cons (pe_g (cal__law_odd T) hr (by decide) hgd (by rfl) (passAt tk_def) (pa_cons (pv 0) (pa_cons (pv 3) (pa_cons (pv 2) pa_nil)))) pa_nil))) (pe_slice (kSl K rfl) (pv 1) (po_some (pe_op (kAdd K rfl) (pv 5) (pe_callTy uInt (by rfl) T.n_int (by decide +kernel) (pa_cons (pe_cmpR uGt (pv 4) pe_int (nomark _)) pa_nil)))) po_none)))))))),
  (ls_seq (ls_par (la_cons (le_call (fun _ _ _ _ h => h) (la_cons (le_v 0) (la_cons (le_c (.int _)) la_nil))) (la_cons (le_call (fun _ _ _ _ h => h) (la_cons (le_v 0) (la_cons (le_o2 lo_add (LE.lb (le_cb lc_len (lab_cons (lb_v 1) lab_nil))) (LE.lb (le_c (.int _)))) la_nil))) la_nil)))
  (ls_seq (ls_if (lt_test (le_o2 lo_eqM (lb_v 4) (LE.lb (le_c (.int _))))) (ls_ret (LF.le (lf_cb lcf_list (lab_cons (lb_v 1) lab_nil)))) ls_next)
  (ls_seq (ls_if (lt_test (le_o2 lo_eqM (lb_v 4) (LE.lb (le_c (.int _))))) (ls_seq (ls_asg (LF.le (lf_lst (la_cons (le_c .non) (la_cons (le_c (.int _)) (la_cons (le_c (.str _)) (la_cons (le_c (.str _)) (la_cons (LF.le lf_dnew) (la_cons (LF.le (lf_lst la_nil)) (la_cons (le_tup (la_cons (le_c (.str _)) (la_cons (le_c (.int _)) la_nil))) (la_cons (le_tup (la_cons (le_c (.str _)) (la_cons (le_c (.int _)) la_nil))) (la_cons (le_tup (la_cons (le_c (.int _)) la_nil)) (la_cons (le_tup (la_cons (le_tup la_nil) la_nil)) (la_cons (LF.le (lf_lst (la_cons (le_tup (la_cons (le_c (.str _)) (la_cons (le_c (.int _)) la_nil))) la_nil))) (la_cons (le_c (.bl _)) (la_cons (le_tup (la_cons (le_c (.str _)) (la_cons (le_c (.int _)) (la_cons (le_c (.int _)) la_nil)))) la_nil))))))))))))))) (lg_n 6))
  (ls_ret (le_o2 lo_ix (lb_v 6) (LE.lb (le_call (fun _ _ _ _ h => h) (la_cons (le_v 0) (la_cons (le_cb lc_len (lab_cons (lb_v 6) lab_nil)) la_nil))))))) ls_next)
  (ls_seq (ls_asg (le_if (lt_test (le_o2 lo_lt (lb_v 5) (LE.lb (le_cb lc_len (lab_cons (lb_v 1) lab_nil))))) (le_o2 lo_ix (lb_v 1) (lb_v 5)) (le_tup (la_cons (le_c (.str _)) (la_cons (le_c (.int _)) la_nil)))) (lg_n 3))
  (ls_ret (le_o2 lo_add (LE.lb (le_o2 lo_add (LE.lb (le_sl lo_sl (lb_v 1) lo_none (lo_some (le_v 5)))) (LE.lb (le_tup (la_cons (le_call (fun _ _ _ _ h => h) (la_cons (le_v 0) (la_cons (le_v 3) (la_cons (le_v 2) la_nil)))) la_nil))))) (LE.lb (le_sl lo_sl (lb_v 1) (lo_some (le_o2 lo_add (lb_v 5) (LE.lb (le_cb lc_int (lab_cons (LE.lb (le_o2 lo_gt (lb_v 4) (LE.lb (le_c (.int _))))) lab_nil))))) lo_none))))))))⟩) (fun _ _ _ _ h => h.1) (fun _ _ _ _ h => h.2)
theorem cal__law_near (T : Txt K mg) : Cal P w K mg base 3 "_law_near" ["box", "passing", "signs"] (spOf K mg F__law_near) := cal_of T.d__law_near (fn__law_near T)
def B__law_ask : FS := (fTry "InvalidPassing" [] 2 (fSeq (fIfS (fTv (fO2 gLt (fB 0) (fC (.int 3)))) (fRetO (fLst (fCons (fC (.str [116, 111, 108, 100])) (fCons (fIf (fTv (fO2 gEqM (fB 0) (fC (.int 0)))) (fCall F_sent (fCons (fV 1) fNil)) (fIf (fTv (fO2 gEqM (fB 0) (fC (.int 1)))) (fCall F_came (fCons (fV 1) fNil)) (fCall F_errors_in (fCons (fV 1) fNil)))) fNil)))) fNext)
  (fSeq (fIfS (fTv (fO2 gEqM (fB 0) (fC (.int 3)))) (fRetO (fLst (fCons (fC (.str [116, 111, 108, 100])) (fCons (fCall (fun ds c Q X => ds.length = 1 ∧ F_sent (pick [0] ds) c Q X) (fCons (fV 1) fNil)) fNil)))) fNext)
  (fRetO (fLst (fCons (fC (.str [116, 111, 108, 100])) (fCons (fIf (fTv (fO2 gEqM (fB 0) (fC (.int 4)))) (fCall (fun ds c Q X => ds.length = 1 ∧ F_came (pick [0] ds) c Q X) (fCons (fV 1) fNil)) (fCall (fun ds c Q X => ds.length = 1 ∧ F_errors_in (pick [0] ds) c Q X) (fCons (fV 1) fNil))) fNil)))))) (fun a dd => (fRetO (fLst (fCons (fC (.str [110, 111, 110, 101])) (fCons (fGiv a dd 2) (fCons (fIsE a dd 2) fNil)))))))
def F__law_ask : PFn := fun ds c Q X => ds.length = 2 ∧ B__law_ask (endsN Q X) (startP 3 ds) c
theorem fn__law_ask (T : Txt K mg) : ∀ f fd, Fun K "_law_ask" "_law_ask" s__law_ask f fd → FnG P w K mg base 8 f fd ["door", "value"] (spOfN K mg F__law_ask) :=
  fn_pureN (k := 7) (F := F__law_ask) (fs := B__law_ask) sc__law_ask (n := 3) rfl (fun pb cdv f A outer s H E hr hgd => ⟨_, (pss_one (ps_tryA K (i := 2) rfl rfl rfl sc__law_ask.nd rfl rfl (names_errA mg T.x_InvalidPassing rfl (by rfl)) takes0 (fun W pn xe tk po => (pss_cons (ps_if (pt_cmpR uLt (pv 0) pe_int (nomark _)) (pss_one (ps_ret (pe_lst (pa_cons (pe_tx [116, 111, 108, 100] (by decide +kernel)) (pa_cons (pe_ifExp (pt_cmpR (kEqM K rfl hr) (pv 0) pe_int (nomark _)) (pe_g (cal_sent T) hr (by decide) hgd (by rfl) (passAt tk) (pa_cons (pv 1) pa_nil)) (pe_ifExp (pt_cmpR (kEqM K rfl hr) (pv 0) pe_int (nomark _)) (pe_g (cal_came T) hr (by decide) hgd (by rfl) (passAt tk) (pa_cons (pv 1) pa_nil)) (pe_g (cal_errors_in T) hr (by decide) hgd (by rfl) (passAt tk) (pa_cons (pv 1) pa_nil)))) pa_nil))))) pss_nil)
  (pss_cons (ps_if (pt_cmpR (kEqM K rfl hr) (pv 0) pe_int (nomark _)) (pss_one (ps_ret (pe_lst (pa_cons (pe_tx [116, 111, 108, 100] (by decide +kernel)) (pa_cons (pe_gw (cal_sent_w0 T) hr (by decide) hgd (by rfl) (passAt tk) (pk_cons (pv 1) pk_nil) (hl_pick [0])) pa_nil))))) pss_nil)
  (pss_one (ps_ret (pe_lst (pa_cons (pe_tx [116, 111, 108, 100] (by decide +kernel)) (pa_cons (pe_ifExp (pt_cmpR (kEqM K rfl hr) (pv 0) pe_int (nomark _)) (pe_gw (cal_came_w0 T) hr (by decide) hgd (by rfl) (passAt tk) (pk_cons (pv 1) pk_nil) (hl_pick [0])) (pe_gw (cal_errors_in_w0 T) hr (by decide) hgd (by rfl) (passAt tk) (pk_cons (pv 1) pk_nil) (hl_pick [0]))) pa_nil)))))))) (fun a oe cls d pn hz hf => (pss_one (ps_ret (pe_lst (pa_cons (pe_tx [110, 111, 110, 101] (by decide +kernel)) (pa_cons (pe_givA mg T.x_InvalidPassing rfl hz hf (pv 2)) (pa_cons (pe_callB (call_isE hz) (by rfl) T.n_isinstance (by decide +kernel) (pa_cons (pv 2) (pa_cons (pe_glob (v := .ref (errAt mg "CodecError")) (by rfl) T.x_InvalidPassing.base rfl) pa_nil))) pa_nil))))))))),
  (ls_try0 T.x_InvalidPassing (fun _ => (ls_seq (ls_if (lt_test (le_o2 lo_lt (lb_v 0) (LE.lb (le_c (.int _))))) (ls_retO (lf_lst (la_cons (le_c (.str _)) (la_cons (le_if (lt_test (le_o2 lo_eqM (lb_v 0) (LE.lb (le_c (.int _))))) (le_call (fun _ _ _ _ h => h) (la_cons (le_v 1) la_nil)) (le_if (lt_test (le_o2 lo_eqM (lb_v 0) (LE.lb (le_c (.int _))))) (le_call (fun _ _ _ _ h => h) (la_cons (le_v 1) la_nil)) (le_call (fun _ _ _ _ h => h) (la_cons (le_v 1) la_nil)))) la_nil)))) ls_next)
  (ls_seq (ls_if (lt_test (le_o2 lo_eqM (lb_v 0) (LE.lb (le_c (.int _))))) (ls_retO (lf_lst (la_cons (le_c (.str _)) (la_cons (le_callW (hk_pick [0]) (fun _ _ _ _ h => h) (la_cons (le_v 1) la_nil)) la_nil)))) ls_next)
  (ls_retO (lf_lst (la_cons (le_c (.str _)) (la_cons (le_if (lt_test (le_o2 lo_eqM (lb_v 0) (LE.lb (le_c (.int _))))) (le_callW (hk_pick [0]) (fun _ _ _ _ h => h) (la_cons (le_v 1) la_nil)) (le_callW (hk_pick [0]) (fun _ _ _ _ h => h) (la_cons (le_v 1) la_nil))) la_nil))))))) (fun _ _ => (ls_retO (lf_lst (la_cons (le_c (.str _)) (la_cons le_giv (la_cons (le_isE T.b_InvalidPassing) la_nil)))))))⟩) (fun _ _ _ _ h => h.1) (fun _ _ _ _ h => h.2)
theorem cal__law_ask (T : Txt K mg) : Cal P w K mg base 8 "_law_ask" ["door", "value"] (spOfN K mg F__law_ask) := cal_of T.d__law_ask (fn__law_ask T)
def B__law_all_right : FS := (fSeq (fAsg (fO2 gAdd (fLc (fRg1 (fCons (fV 0) fNil)) (gN 3) fYes (fTup (fCons (fC (.str [108, 111, 115, 116])) (fCons (fV 3) fNil))) [3]) (fLc (fRg1 (fCons (fV 0) fNil)) (gN 3) fYes (fTup (fCons (fC (.str [112, 117, 116])) (fCons (fV 3) fNil))) [3])) (gN 2))
  (fSeq (fFor (fRg1 (fCons (fV 0) fNil)) (gN 3)
  (fAsg (fO2 gAdd (fB 2) (fLc (fRg1 (fCons (fV 0) fNil)) (gN 6) (fTv (fO2 gNeM (fB 6) (fB 3))) (fTup (fCons (fC (.str [116, 117, 114, 110, 101, 100])) (fCons (fV 3) (fCons (fV 6) fNil)))) [6])) (gN 2)))
  (fSeq (fOwn 4 (fCall F_all_kinds (fCons (fV 0) fNil)))
  (fSeq (fIfS (fTor (fTv (fO2 gNeM (fCB gRepr (fCons (fB 4) fNil)) (fCB gRepr (fCons (fB 2) fNil)))) (fTv (fO2 gNeM (fLc (fIterO 4) (gN 7) (fTnot (fTv (fCall F__law_is_kind (fCons (fV 7) (fCons (fV 0) fNil))))) (fV 7) [7]) (fLst fNil)))) (fRet (fC (.bl false))) fNext)
  (fSeq (fApp 4 (fC .non))
  (fSeq (fIfS (fTv (fO2 gNeM (fCB gRepr (fCons (fCall (fun ds c Q X => ds.length = 1 ∧ F_all_kinds (pick [0] ds) c Q X) (fCons (fV 0) fNil)) fNil)) (fCB gRepr (fCons (fB 2) fNil)))) (fRet (fC (.bl false))) fNext)
  (fSeq (fTry "InvalidSigns" [] 5 (fDrop (fCall F_all_kinds (fCons (fV 1) fNil))) (fun a dd => (fRet (fO2 gEqM (fCB gRepr (fCons (fGiv a dd 5) fNil)) (fCB gRepr (fCons (fB 1) fNil))))))
  (fRet (fC (.bl false))))))))))
def F__law_all_right : PFn := fun ds c Q X => ds.length = 2 ∧ B__law_all_right (endsP Q X) (startP 8 ds) c
theorem fn__law_all_right (T : Txt K mg) : ∀ f fd, Fun K "_law_all_right" "_law_all_right" s__law_all_right f fd → FnG P w K mg base 5 f fd ["signs", "wrong"] (spOf K mg F__law_all_right) :=
  fn_pure (k := 4) (F := F__law_all_right) (fs := B__law_all_right) sc__law_all_right (n := 8) rfl (fun pb cdv f A outer s H E hr hgd => ⟨_, (pss_cons (ps_set (i := 2) sc__law_all_right.nd rfl (by first | exact Or.inl rfl | exact Or.inr rfl) (pe_op (kAdd K rfl) (pe_lc (own := [("a", 3)]) rfl sc__law_all_right.nd (pi_range1 (by rfl) T.n_range (pa_cons (pv 0) pa_nil)) (blkOk_by (own := [("a", 3)]) (N := N__law_all_right) (sc := defScope s__law_all_right) (by decide +kernel)) (fun _ _ _ _ _ => (pg_name (i := 3) sc__law_all_right.nd rfl (by first | exact Or.inl rfl | exact Or.inr rfl))) (fun _ _ _ _ _ => pts_nil) (fun _ _ _ _ _ => (pe_tup (pa_cons (pe_tx [108, 111, 115, 116] (by decide +kernel)) (pa_cons (pv 3) pa_nil))))) (pe_lc (own := [("a", 3)]) rfl sc__law_all_right.nd (pi_range1 (by rfl) T.n_range (pa_cons (pv 0) pa_nil)) (blkOk_by (own := [("a", 3)]) (N := N__law_all_right) (sc := defScope s__law_all_right) (by decide +kernel)) (fun _ _ _ _ _ => (pg_name (i := 3) sc__law_all_right.nd rfl (by first | exact Or.inl rfl | exact Or.inr rfl))) (fun _ _ _ _ _ => pts_nil) (fun _ _ _ _ _ => (pe_tup (pa_cons (pe_tx [112, 117, 116] (by decide +kernel)) (pa_cons (pv 3) pa_nil)))))))
  (pss_cons (ps_for po_def rfl (pi_range1 (by rfl) T.n_range (pa_cons (pv 0) pa_nil)) (pg_name (i := 3) sc__law_all_right.nd rfl (by first | exact Or.inl rfl | exact Or.inr rfl))
  (pss_one (ps_set (i := 2) sc__law_all_right.nd rfl (by first | exact Or.inl rfl | exact Or.inr rfl) (pe_op (kAdd K rfl) (pv 2) (pe_lc (own := [("b", 6)]) rfl sc__law_all_right.nd (pi_range1 (by rfl) T.n_range (pa_cons (pv 0) pa_nil)) (blkOk_by (own := [("b", 6)]) (N := N__law_all_right) (sc := defScope s__law_all_right) (by decide +kernel)) (fun _ _ _ _ _ => (pg_name (i := 6) sc__law_all_right.nd rfl (by first | exact Or.inl rfl | exact Or.inr rfl))) (fun _ _ _ _ _ => (pts_one (pt_cmpR (kNeM K rfl hr) (pv 6) (pv 3) (nomark _)))) (fun _ _ _ _ _ => (pe_tup (pa_cons (pe_tx [116, 117, 114, 110, 101, 100] (by decide +kernel)) (pa_cons (pv 3) (pa_cons (pv 6) pa_nil))))))))))
  (pss_cons (ps_set (i := 4) sc__law_all_right.nd rfl (by first | exact Or.inl rfl | exact Or.inr rfl) (pe_g (cal_all_kinds T) hr (by decide) hgd (by rfl) (passAt tk_def) (pa_cons (pv 0) pa_nil)))
  (pss_cons (ps_if (PW.pt (pw_or (pt_cmpR (kNeM K rfl hr) (pe_callB (kReprW K rfl hr hgd) (by rfl) T.n_repr (by decide +kernel) (pa_cons (pv 4) pa_nil)) (pe_callB (kReprW K rfl hr hgd) (by rfl) T.n_repr (by decide +kernel) (pa_cons (pv 2) pa_nil)) (nomark _)) (pw_or1 (pt_cmpR (kNeM K rfl hr) (pe_lc (own := [("kind", 7)]) rfl sc__law_all_right.nd (kiList K rfl (pv 4)) (blkOk_by (own := [("kind", 7)]) (N := N__law_all_right) (sc := defScope s__law_all_right) (by decide +kernel)) (fun _ _ _ _ _ => (pg_name (i := 7) sc__law_all_right.nd rfl (by first | exact Or.inl rfl | exact Or.inr rfl))) (fun _ _ _ _ _ => (pts_one (pt_not (pt_val (pe_g (cal__law_is_kind T) hr (by decide) hgd (by rfl) noX (pa_cons (pv 7) (pa_cons (pv 0) pa_nil))))))) (fun _ _ _ _ _ => (pv 7))) (pe_lst pa_nil) (nomark _))))) (pss_one (ps_ret pe_bl)) pss_nil)
  (pss_cons (ps_expr (kBm K rfl PySem.F.plainAttrs_list PySem.F.slot_list_append PySem.F.type_list_append mt_append (pv 4) (pa_cons pe_non pa_nil)))
  (pss_cons (ps_if (pt_cmpR (kNeM K rfl hr) (pe_callB (kReprW K rfl hr hgd) (by rfl) T.n_repr (by decide +kernel) (pa_cons (pe_gw (cal_all_kinds_w0 T) hr (by decide) hgd (by rfl) (passAt tk_def) (pk_cons (pv 0) pk_nil) (hl_pick [0])) pa_nil)) (pe_callB (kReprW K rfl hr hgd) (by rfl) T.n_repr (by decide +kernel) (pa_cons (pv 2) pa_nil)) (nomark _)) (pss_one (ps_ret pe_bl)) pss_nil)
  (pss_cons (ps_tryA K (i := 5) rfl rfl rfl sc__law_all_right.nd rfl rfl (names_errA mg T.x_InvalidSigns rfl (by rfl)) takes0 (fun W pn xe tk po => (pss_one (ps_expr (pe_g (cal_all_kinds T) hr (by decide) hgd (by rfl) (passAt tk) (pa_cons (pv 1) pa_nil))))) (fun a oe cls d pn hz hf => (pss_one (ps_ret (pe_cmpR (kEqMS K rfl hr) (pe_callB (kReprS K rfl hr hgd) (by rfl) T.n_repr (by decide +kernel) (pa_cons (pe_givA mg T.x_InvalidSigns rfl hz hf (pv 5)) pa_nil)) (pe_callB (kReprS K rfl hr hgd) (by rfl) T.n_repr (by decide +kernel) (pa_cons (pv 1) pa_nil)) (nomark _))))))
  (pss_one (ps_ret pe_bl))))))))),
  (ls_seq (ls_asg (le_o2 lo_add (LE.lb (LF.le (lf_lc (LI.c (li_rg1 (la_cons (le_v 0) la_nil))) (lg_n 3) lt_yes (le_tup (la_cons (le_c (.str _)) (la_cons (le_v 3) la_nil))) (by decide)))) (LE.lb (LF.le (lf_lc (LI.c (li_rg1 (la_cons (le_v 0) la_nil))) (lg_n 3) lt_yes (le_tup (la_cons (le_c (.str _)) (la_cons (le_v 3) la_nil))) (by decide))))) (lg_n 2))
  (ls_seq (ls_for (li_rg1 (la_cons (le_v 0) la_nil)) (lg_n 3)
  (ls_asg (le_o2 lo_add (lb_v 2) (LE.lb (LF.le (lf_lc (LI.c (li_rg1 (la_cons (le_v 0) la_nil))) (lg_n 6) (lt_test (le_o2 lo_neM (lb_v 6) (lb_v 3))) (le_tup (la_cons (le_c (.str _)) (la_cons (le_v 3) (la_cons (le_v 6) la_nil)))) (by decide))))) (lg_n 2)))
  (ls_seq (ls_own (lf_call (fun _ _ _ _ h => h) (la_cons (le_v 0) la_nil)))
  (ls_seq (ls_if (lt_or (lt_test (le_o2 lo_neM (LE.lb (le_cb lc_repr (lab_cons (lb_v 4) lab_nil))) (LE.lb (le_cb lc_repr (lab_cons (lb_v 2) lab_nil))))) (lt_test (le_o2 lo_neM (LE.lb (LF.le (lf_lc (lic_own 4) (lg_n 7) (lt_not (lt_B (le_call (fun _ _ _ _ h => h.elim) (la_cons (le_v 7) (la_cons (le_v 0) la_nil))))) (le_v 7) (by decide)))) (LE.lb (LF.le (lf_lst la_nil)))))) (ls_ret (le_c (.bl _))) ls_next)
  (ls_seq (ls_app (le_c .non))
  (ls_seq (ls_if (lt_test (le_o2 lo_neM (LE.lb (le_cb lc_repr (lab_cons (LE.lb (LF.le (lf_callW (hk_pick [0]) (fun _ _ _ _ h => h) (la_cons (le_v 0) la_nil)))) lab_nil))) (LE.lb (le_cb lc_repr (lab_cons (lb_v 2) lab_nil))))) (ls_ret (le_c (.bl _))) ls_next)
  (ls_seq (ls_try0 T.x_InvalidSigns (fun _ => (ls_drop (LF.le (lf_call (fun _ _ _ _ h => h) (la_cons (le_v 1) la_nil))))) (fun _ _ => (ls_ret (le_o2 lo_eqM (LE.lb (le_cb lc_repr (lab_cons (LE.lb le_giv) lab_nil))) (LE.lb (le_cb lc_repr (lab_cons (lb_v 1) lab_nil)))))))
  (ls_ret (le_c (.bl _))))))))))⟩) (fun _ _ _ _ h => h.1) (fun _ _ _ _ h => h.2)
theorem cal__law_all_right (T : Txt K mg) : Cal P w K mg base 5 "_law_all_right" ["signs", "wrong"] (spOf K mg F__law_all_right) := cal_of T.d__law_all_right (fn__law_all_right T)
namespace DR
def B__law_doors_right : FS := (fSeq (fOwn 1 (fLst fNil))
  (fSeq (fIfS (fTv (fCall F__law_is_passing (fCons (fV 0) (fCons (fC (.int 5)) fNil)))) (fSeq (fOwn 1 (fLst (fCons (fCB gTuple (fCons (fLc (fIter tDs (fV 0)) (gN 5) (fTv (fO2 gNeM (fO2 gIx (fB 5) (fC (.int 0))) (fC (.str [112, 117, 116])))) (fO2 gIx (fB 5) (fC (.int 1))) [5]) fNil)) fNil)))
  (fSeq (fApp 1 (fCB gTuple (fCons (fLc (fIter tDs (fV 0)) (gN 5) (fTv (fO2 gNeM (fO2 gIx (fB 5) (fC (.int 0))) (fC (.str [108, 111, 115, 116])))) (fO2 gIx (fB 5) (fO1 gNeg (fC (.int 1)))) [5]) fNil)))
  (fApp 1 (fCB gLen (fCons (fLc (fIter tDs (fV 0)) (gN 5) (fTv (fO2 gNeM (fO2 gIx (fB 5) (fC (.int 0))) (fC (.str [115, 97, 109, 101])))) (fV 5) [5]) fNil))))) fNext)
  (fSeq (fFor (fRg1 (fCons (fC (.int 6)) fNil)) (gN 2)
  (fSeq (fAsg (fIf (fTv (fIsi "list" (fB 0))) (fCB gList (fCons (fB 0) fNil)) (fV 0)) (gN 3))
  (fSeq (fAsg (fCall F__law_ask (fCons (fV 2) (fCons (fV 3) fNil))) (gN 4))
  (fSeq (fIfS (fTand (fTv (fO2 gNeM (fB 1) (fLst fNil))) (fTv (fO2 gNeM (fCB gRepr (fCons (fB 4) fNil)) (fCB gRepr (fCons (fLst (fCons (fC (.str [116, 111, 108, 100])) (fCons (fO2 gIx (fB 1) (fO2 gMod (fCB gInt (fCons (fB 2) fNil)) (fC (.int 3)))) fNil))) fNil))))) (fRet (fC (.bl false))) fNext)
  (fSeq (fIfS (fTv (fIsi "list" (fB 3))) fNever fNext)
  (fIfS (fTand (fTv (fO2 gEqM (fB 1) (fLst fNil))) (fTv (fO2 gNeM (fCB gRepr (fCons (fB 4) fNil)) (fCB gRepr (fCons (fLst (fCons (fC (.str [110, 111, 110, 101])) (fCons (fV 3) (fCons (fC (.bl true)) fNil)))) fNil))))) (fRet (fC (.bl false))) fNext))))))
  (fRet (fC (.bl true))))))
def F__law_doors_right : PFn := fun ds c Q X => ds.length = 1 ∧ B__law_doors_right (endsP Q X) (startP 6 ds) c
theorem fn__law_doors_right (T : Txt K mg) : ∀ f fd, Fun K "_law_doors_right" "_law_doors_right" s__law_doors_right f fd → FnG P w K mg base 9 f fd ["value"] (spOf K mg F__law_doors_right) :=
  fn_pure (k := 8) (F := F__law_doors_right) (fs := B__law_doors_right) sc__law_doors_right (n := 6) rfl (fun pb cdv f A outer s H E hr hgd => ⟨_, (pss_cons (ps_set (i := 1) sc__law_doors_right.nd rfl (by first | exact Or.inl rfl | exact Or.inr rfl) (pe_lst pa_nil))
  (pss_cons (ps_if (pt_val (pe_g (cal__law_is_passing T) hr (by decide) hgd (by rfl) (passAt tk_def) (pa_cons (pv 0) (pa_cons pe_int pa_nil)))) (pss_cons (ps_set (i := 1) sc__law_doors_right.nd rfl (by first | exact Or.inl rfl | exact Or.inr rfl) (pe_lst (pa_cons (pe_callTy (kTupOf K rfl) (by rfl) T.n_tuple (by decide +kernel) (pa_cons (pe_lc (own := [("step", 5)]) rfl sc__law_doors_right.nd (kiTup K rfl (pv 0)) (blkOk_by (own := [("step", 5)]) (N := N__law_doors_right) (sc := defScope s__law_doors_right) (by decide +kernel)) (fun _ _ _ _ _ => (pg_name (i := 5) sc__law_doors_right.nd rfl (by first | exact Or.inl rfl | exact Or.inr rfl))) (fun _ _ _ _ _ => (pts_one (pt_cmpR (kNeM K rfl hr) (pe_ix (kIx K rfl) (pv 5) pe_int (fun _ _ => rfl)) (pe_tx [112, 117, 116] (by decide +kernel)) (nomark _)))) (fun _ _ _ _ _ => (pe_ix (kIx K rfl) (pv 5) pe_int (fun _ _ => rfl)))) pa_nil)) pa_nil)))
  (pss_cons (ps_expr (kBm K rfl PySem.F.plainAttrs_list PySem.F.slot_list_append PySem.F.type_list_append mt_append (pv 1) (pa_cons (pe_callTy (kTupOf K rfl) (by rfl) T.n_tuple (by decide +kernel) (pa_cons (pe_lc (own := [("step", 5)]) rfl sc__law_doors_right.nd (kiTup K rfl (pv 0)) (blkOk_by (own := [("step", 5)]) (N := N__law_doors_right) (sc := defScope s__law_doors_right) (by decide +kernel)) (fun _ _ _ _ _ => (pg_name (i := 5) sc__law_doors_right.nd rfl (by first | exact Or.inl rfl | exact Or.inr rfl))) (fun _ _ _ _ _ => (pts_one (pt_cmpR (kNeM K rfl hr) (pe_ix (kIx K rfl) (pv 5) pe_int (fun _ _ => rfl)) (pe_tx [108, 111, 115, 116] (by decide +kernel)) (nomark _)))) (fun _ _ _ _ _ => (pe_ix (kIx K rfl) (pv 5) (pe_un un_neg pe_int) (fun _ _ => rfl)))) pa_nil)) pa_nil)))
  (pss_one (ps_expr (kBm K rfl PySem.F.plainAttrs_list PySem.F.slot_list_append PySem.F.type_list_append mt_append (pv 1) (pa_cons (pe_callB (kLen K rfl) (by rfl) T.n_len (by decide +kernel) (pa_cons (pe_lc (own := [("step", 5)]) rfl sc__law_doors_right.nd (kiTup K rfl (pv 0)) (blkOk_by (own := [("step", 5)]) (N := N__law_doors_right) (sc := defScope s__law_doors_right) (by decide +kernel)) (fun _ _ _ _ _ => (pg_name (i := 5) sc__law_doors_right.nd rfl (by first | exact Or.inl rfl | exact Or.inr rfl))) (fun _ _ _ _ _ => (pts_one (pt_cmpR (kNeM K rfl hr) (pe_ix (kIx K rfl) (pv 5) pe_int (fun _ _ => rfl)) (pe_tx [115, 97, 109, 101] (by decide +kernel)) (nomark _)))) (fun _ _ _ _ _ => (pv 5))) pa_nil)) pa_nil)))))) pss_nil)
  (pss_cons (ps_for po_def rfl (pi_range1 (by rfl) T.n_range (pa_cons pe_int pa_nil)) (pg_name (i := 2) sc__law_doors_right.nd rfl (by first | exact Or.inl rfl | exact Or.inr rfl))
  (pss_cons (ps_set (i := 3) sc__law_doors_right.nd rfl (by first | exact Or.inl rfl | exact Or.inr rfl) (pe_ifExp (pt_val (pe_callB (kIsi K rfl) (by rfl) T.n_isinstance (by decide +kernel) (pa_cons (pv 0) (pa_cons (pe_bltn (v := .ty "list") (by rfl) T.n_list (by decide +kernel) rfl) pa_nil)))) (pe_callTy (kList K rfl) (by rfl) T.n_list (by decide +kernel) (pa_cons (pv 0) pa_nil)) (pv 0)))
  (pss_cons (ps_set (i := 4) sc__law_doors_right.nd rfl (by first | exact Or.inl rfl | exact Or.inr rfl) (pe_g (cal__law_ask T) hr (by decide) hgd (by rfl) (passAt tk_def) (pa_cons (pv 2) (pa_cons (pv 3) pa_nil))))
  (pss_cons (ps_if (PW.pt (pw_and (pt_cmpR (kNeM K rfl hr) (pv 1) (pe_lst pa_nil) (nomark _)) (pw_and1 (pt_cmpR (kNeM K rfl hr) (pe_callB (kReprW K rfl hr hgd) (by rfl) T.n_repr (by decide +kernel) (pa_cons (pv 4) pa_nil)) (pe_callB (kReprW K rfl hr hgd) (by rfl) T.n_repr (by decide +kernel) (pa_cons (pe_lst (pa_cons (pe_tx [116, 111, 108, 100] (by decide +kernel)) (pa_cons (pe_ix (kIx K rfl) (pv 1) (pe_op uMod (pe_callTy uInt (by rfl) T.n_int (by decide +kernel) (pa_cons (pv 2) pa_nil)) pe_int) (fun _ _ => rfl)) pa_nil))) pa_nil)) (nomark _))))) (pss_one (ps_ret pe_bl)) pss_nil)
  (pss_cons (ps_if (pt_val (pe_callB (kIsi K rfl) (by rfl) T.n_isinstance (by decide +kernel) (pa_cons (pv 3) (pa_cons (pe_bltn (v := .ty "list") (by rfl) T.n_list (by decide +kernel) rfl) pa_nil)))) (pss_one (ps_expr (kBm K rfl PySem.F.plainAttrs_list PySem.F.slot_list_append PySem.F.type_list_append mt_append (pv 3) (pa_cons pe_int pa_nil)))) pss_nil)
  (pss_one (ps_if (PW.pt (pw_and (pt_cmpR (kEqM K rfl hr) (pv 1) (pe_lst pa_nil) (nomark _)) (pw_and1 (pt_cmpR (kNeM K rfl hr) (pe_callB (kReprW K rfl hr hgd) (by rfl) T.n_repr (by decide +kernel) (pa_cons (pv 4) pa_nil)) (pe_callB (kReprW K rfl hr hgd) (by rfl) T.n_repr (by decide +kernel) (pa_cons (pe_lst (pa_cons (pe_tx [110, 111, 110, 101] (by decide +kernel)) (pa_cons (pv 3) (pa_cons pe_bl pa_nil)))) pa_nil)) (nomark _))))) (pss_one (ps_ret pe_bl)) pss_nil)))))))
  (pss_one (ps_ret pe_bl))))),
  (ls_seq (ls_own (lf_lst la_nil))
  (ls_seq (ls_if (lt_B (le_call (fun _ _ _ _ h => h) (la_cons (le_v 0) (la_cons (le_c (.int _)) la_nil)))) (ls_seq (ls_own (lf_lst (la_cons (le_cb lc_tuple (lab_cons (LE.lb (LF.le (lf_lc (LI.c (li_tup (le_v 0))) (lg_n 5) (lt_test (le_o2 lo_neM (LE.lb (le_o2 lo_ix (lb_v 5) (LE.lb (le_c (.int _))))) (LE.lb (le_c (.str _))))) (le_o2 lo_ix (lb_v 5) (LE.lb (le_c (.int _)))) (by decide)))) lab_nil)) la_nil)))
  (ls_seq (ls_app (le_cb lc_tuple (lab_cons (LE.lb (LF.le (lf_lc (LI.c (li_tup (le_v 0))) (lg_n 5) (lt_test (le_o2 lo_neM (LE.lb (le_o2 lo_ix (lb_v 5) (LE.lb (le_c (.int _))))) (LE.lb (le_c (.str _))))) (le_o2 lo_ix (lb_v 5) (LE.lb (le_o1 lo_neg (LE.lb (le_c (.int _)))))) (by decide)))) lab_nil)))
  (ls_app (le_cb lc_len (lab_cons (LE.lb (LF.le (lf_lc (LI.c (li_tup (le_v 0))) (lg_n 5) (lt_test (le_o2 lo_neM (LE.lb (le_o2 lo_ix (lb_v 5) (LE.lb (le_c (.int _))))) (LE.lb (le_c (.str _))))) (le_v 5) (by decide)))) lab_nil))))) ls_next)
  (ls_seq (ls_for (li_rg1 (la_cons (le_c (.int _)) la_nil)) (lg_n 2)
  (ls_seq (ls_asg (le_if (lt_B (le_isi (.inr (.inr (.inr (.inl rfl)))) (lb_v 0))) (LF.le (lf_cb lcf_list (lab_cons (lb_v 0) lab_nil))) (le_v 0)) (lg_n 3))
  (ls_seq (ls_asg (LF.le (lf_call (fun _ _ _ _ h => h) (la_cons (le_v 2) (la_cons (le_v 3) la_nil)))) (lg_n 4))
  (ls_seq (ls_if (lt_and (lt_test (le_o2 lo_neM (lb_v 1) (LE.lb (LF.le (lf_lst la_nil))))) (lt_test (le_o2 lo_neM (LE.lb (le_cb lc_repr (lab_cons (lb_v 4) lab_nil))) (LE.lb (le_cb lc_repr (lab_cons (LE.lb (LF.le (lf_lst (la_cons (le_c (.str _)) (la_cons (le_o2 lo_ix (lb_v 1) (LE.lb (le_o2 lo_mod (LE.lb (le_cb lc_int (lab_cons (lb_v 2) lab_nil))) (LE.lb (le_c (.int _)))))) la_nil))))) lab_nil)))))) (ls_ret (le_c (.bl _))) ls_next)
  (ls_seq (ls_if (lt_B (le_isi (.inr (.inr (.inr (.inl rfl)))) (lb_v 3))) ls_never ls_next)
  (ls_if (lt_and (lt_test (le_o2 lo_eqM (lb_v 1) (LE.lb (LF.le (lf_lst la_nil))))) (lt_test (le_o2 lo_neM (LE.lb (le_cb lc_repr (lab_cons (lb_v 4) lab_nil))) (LE.lb (le_cb lc_repr (lab_cons (LE.lb (LF.le (lf_lst (la_cons (le_c (.str _)) (la_cons (le_v 3) (la_cons (le_c (.bl _)) la_nil)))))) lab_nil)))))) (ls_ret (le_c (.bl _))) ls_next))))))
  (ls_ret (le_c (.bl _))))))⟩) (fun _ _ _ _ h => h.1) (fun _ _ _ _ h => h.2)
theorem cal__law_doors_right (T : Txt K mg) : Cal P w K mg base 9 "_law_doors_right" ["value"] (spOf K mg F__law_doors_right) := cal_of T.d__law_doors_right (fn__law_doors_right T)
end DR
end
end K04
set_option Elab.async false
set_option linter.all false
set_option maxRecDepth 100000
set_option maxHeartbeats 1000000
namespace K04
open PySem PySem.Spec PyProof.Rows L2 SL Pu
local macro_rules | `(tactic| walk_at "ps") => `(tactic| simp -implicitDefEqProofs only [↓cnd_t, ↓cnd_f, ↓fV_eq, ↓fB_eq, ↓fC_eq, ↓fO2_eq, ↓fO1_eq, ↓fNotV_eq, ↓fAndV_eq, ↓fOrV_eq, ↓fChain_eq, ↓fIf_eq, ↓fTv_eq, ↓fTand_eq, ↓fTor_eq, ↓fTnot_eq, ↓fYes_eq, ↓fNil_eq, ↓fCons_eq, ↓fTup_eq, ↓fLst_eq, ↓fDNew_eq, ↓fCB_eq, ↓fM1_eq, ↓fNoPart_eq, ↓fPart_eq, ↓fSl_eq, ↓fCall_eq, ↓fIsi_eq, ↓fLc_eq, ↓fIter_eq, ↓fRg1_eq, ↓fRg2_eq, ↓fGiv_eq, ↓gN_eq, ↓gsNil_eq, ↓gsCons_eq, ↓gT_eq, ↓gL_eq, ↓gTx_eq, ↓gSet_eq, ↓fNext_eq, ↓fBrk_eq, ↓fCont_eq, ↓fAsg_eq, ↓fOwn_eq, ↓fDrop_eq, ↓fApp_eq, ↓fIfS_eq, ↓fRet_eq, ↓fRetN_eq, ↓fPar_eq, ↓fPar3_eq, ↓fParO_eq, ↓fAug_eq, ↓shr_eq, ↓fShare_eq, ↓fRz_eq, ↓fFor_eq, ↓fEnS_eq, ↓fLrg1_eq, ↓fLrg2_eq, ↓gIxt_0, ↓gIxt_1, ↓gIxt_2, ↓gIx_0, ↓gIx_1, ↓gIx_2, ↓gStr_i, ↓gEqM_non, ↓gEqM_bl, ↓gEqM_int, ↓gEqM_str, ↓gEqM_lst, ↓gEqM_tup, ↓gEqM_dic, ↓gNeM_non, ↓gNeM_bl, ↓gNeM_int, ↓gNeM_str, ↓gNeM_lst, ↓gNeM_tup, ↓gNeM_dic, ↓gIsB_bb, ↓gIsNB_bb, ↓fIterO_eq, ↓fIsE_eq, ↓fLc2_eq, ↓fRetO_eq, ↓fRetOv_eq, ↓wpO_some, ↓wpO_ite, ↓gEq2_ii, ↓gEq2_ss, ↓gNe2_ii, ↓gNe2_ss, ↓gI_ii, gSubI, gLt, gLe, gGt, gGe, ↓rg1_eq, ↓rg2_eq, ↓one1_eq, ↓par2_eq, ↓par3_eq, ↓gEq2_ii, ↓gEq2_ss, ↓gNe2_ii, ↓gNe2_ss, ↓gAdd_ii, ↓gAdd_ss, ↓gAdd_tt, ↓gAdd_ll, ↓gAddL_ll, ↓gLen_s, ↓gLen_l, ↓gLen_t, ↓gSl_s, ↓gSl_l, ↓gSl_t, ↓gSlL_l, ↓gMul_ii, ↓gMul_si, ↓gMul_ti, ↓gMul_li, ↓gRep_li, ↓gMod_ii, ↓gDiv_ii, ↓gPow_ii, ↓gRev_s, ↓gRev_t, ↓gRevL_l, ↓gNeg_i, ↓gIs_n, ↓gIsN_n, isN_non, isN_bl, isN_int, isN_str, isN_lst, isN_tup, isN_dic, isN_obj, ↓gAbs_i, ↓gInt_i, ↓gInt_b, ↓gMin2_i, ↓gMax2_i, ↓gMin3_i, ↓gIn_s, ↓gIn_l, ↓gIn_t, ↓gNotIn_l, ↓gNotIn_t, ↓gEq_of, ↓gNe_of, ↓gEq2_non_non, ↓gNe2_non_non, ↓gEq2_non_bl, ↓gNe2_non_bl, ↓gEq2_non_int, ↓gNe2_non_int, ↓gEq2_non_str, ↓gNe2_non_str, ↓gEq2_non_lst, ↓gNe2_non_lst, ↓gEq2_non_tup, ↓gNe2_non_tup, ↓gEq2_bl_non, ↓gNe2_bl_non, ↓gEq2_bl_bl, ↓gNe2_bl_bl, ↓gEq2_bl_int, ↓gNe2_bl_int, ↓gEq2_bl_str, ↓gNe2_bl_str, ↓gEq2_bl_lst, ↓gNe2_bl_lst, ↓gEq2_bl_tup, ↓gNe2_bl_tup, ↓gEq2_int_non, ↓gNe2_int_non, ↓gEq2_int_bl, ↓gNe2_int_bl, ↓gEq2_int_str, ↓gNe2_int_str, ↓gEq2_int_lst, ↓gNe2_int_lst, ↓gEq2_int_tup, ↓gNe2_int_tup, ↓gEq2_str_non, ↓gNe2_str_non, ↓gEq2_str_bl, ↓gNe2_str_bl, ↓gEq2_str_int, ↓gNe2_str_int, ↓gEq2_str_lst, ↓gNe2_str_lst, ↓gEq2_str_tup, ↓gNe2_str_tup, ↓gEq2_lst_non, ↓gNe2_lst_non, ↓gEq2_lst_bl, ↓gNe2_lst_bl, ↓gEq2_lst_int, ↓gNe2_lst_int, ↓gEq2_lst_str, ↓gNe2_lst_str, ↓gEq2_lst_lst, ↓gNe2_lst_lst, ↓gEq2_lst_tup, ↓gNe2_lst_tup, ↓gEq2_tup_non, ↓gNe2_tup_non, ↓gEq2_tup_bl, ↓gNe2_tup_bl, ↓gEq2_tup_int, ↓gNe2_tup_int, ↓gEq2_tup_str, ↓gNe2_tup_str, ↓gEq2_tup_lst, ↓gNe2_tup_lst, ↓gEq2_tup_tup, ↓gNe2_tup_tup, nk_non, nk_lsA, isK_lsA_int, isK_lsA_bool, isK_lsA_str, isK_lsA_list, isK_lsA_tuple, isK_non_int, isK_non_bool, isK_non_str, isK_non_list, isK_non_tuple, nk_bl, isK_bl_int, isK_bl_bool, isK_bl_str, isK_bl_list, isK_bl_tuple, nk_int, isK_int_int, isK_int_bool, isK_int_str, isK_int_list, isK_int_tuple, nk_str, isK_str_int, isK_str_bool, isK_str_str, isK_str_list, isK_str_tuple, nk_lst, isK_lst_int, isK_lst_bool, isK_lst_str, isK_lst_list, isK_lst_tuple, nk_tup, isK_tup_int, isK_tup_bool, isK_tup_str, isK_tup_list, isK_tup_tuple, nk_dic, isK_dic_int, isK_dic_bool, isK_dic_str, isK_dic_list, isK_dic_tuple, cutL_to, cutL_to1, cutL_from1, cutL_f1, cutL_t1, cutL_t2, Int.add_zero, Int.zero_add, Int.cast_ofNat_Int, Int.reduceEq, Int.reduceLT, Int.reduceLE, Int.reduceAdd, Int.reduceSub, decide_true, decide_false, cutL_from, cutL_no, bD_b, iD_i, isSt_s, lD_l, tDs_t, sDs_s, ↓eqD_int_int, ↓eqD_str_str, ↓eqD_tup_tup, ↓eqD_lst_lst, ↓eqD_bl_bl, ↓eqDs_cc, ↓eqDs_nn, ↓eqDs_nc, ↓eqDs_cn, ↓eqD_non_non, ↓eqD_non_bl, ↓eqD_non_int, ↓eqD_non_str, ↓eqD_non_lst, ↓eqD_non_tup, ↓eqD_bl_non, ↓eqD_bl_str, ↓eqD_bl_lst, ↓eqD_bl_tup, ↓eqD_int_non, ↓eqD_int_str, ↓eqD_int_lst, ↓eqD_int_tup, ↓eqD_str_non, ↓eqD_str_bl, ↓eqD_str_int, ↓eqD_str_lst, ↓eqD_str_tup, ↓eqD_lst_non, ↓eqD_lst_bl, ↓eqD_lst_int, ↓eqD_lst_str, ↓eqD_lst_tup, ↓eqD_tup_non, ↓eqD_tup_bl, ↓eqD_tup_int, ↓eqD_tup_str, ↓eqD_tup_lst, ↓inD_nil, ↓inD_cons, Bool.and_true, Bool.true_and, Bool.and_false, Bool.false_and, Bool.or_false, Bool.or_true, Bool.false_or, Bool.true_or, setP, endsP, endsN, startP, pw, List.getElem?_cons_zero, List.getElem?_cons_succ, List.set_cons_zero, List.set_cons_succ, List.map_cons, List.map_nil, List.length_cons, List.length_nil, List.replicate_succ, List.replicate_zero, List.append_nil, List.cons_append, List.nil_append, Nat.reduceAdd, Nat.reduceSub, Nat.zero_add, reduceIte, Bool.false_eq_true, Bool.not_true, Bool.not_false, true_and, and_true, if_true, if_false])
local macro_rules | `(tactic| walk_at "pz") => `(tactic| first
  | omega
  | decide
  | (simp only [List.length_cons, List.length_nil, List.length_append, List.length_map, List.length_take, List.length_drop, List.length_reverse, List.length_replicate, List.length_range, CMul]; first | done | omega)
  | rfl)
local macro_rules | `(tactic| walk_at "p1") => `(tactic| first
  | ((with_reducible refine p_seq ?_); intro N hN)
  | ((with_reducible refine p_back (M := ?mm) ?h ?_); (case h => with_reducible assumption))
  | walk_at "ps"
  | ((with_reducible refine wpO_of (z := ?zz) (gIx_n (v := ?zz) ?h) ?_); (case h => with_reducible assumption))
  | ((with_reducible refine wpO_of (z := ?zz) (gIxt_n (v := ?zz) ?h) ?_); (case h => with_reducible assumption))
  | ((with_reducible refine wpO_of (z := ?zz) (gIx_a (v := ?zz) ?h) ?_); (case h => with_reducible assumption))
  | ((with_reducible refine wpO_of (z := ?zz) (gIxt_a (v := ?zz) ?h) ?_); (case h => with_reducible assumption))
  | ((with_reducible refine (Eq.mpr (gIxs_a (ch := ?cc) ?h) ?q)); (case h => with_reducible assumption))
  | ((with_reducible refine wpO_of (z := ?zz) ?h ?_); (case h => exact rfl))
  | ((with_reducible refine And.intro ?h ?_); (case h => walk_at "pz"))
  | walk_at "pc")
local macro_rules | `(tactic| walk_at "p") => `(tactic| repeat walk_at "p1")
local macro_rules | `(tactic| walk_at "odd") => `(tactic| ((try simp only [List.take_succ_cons, List.take_zero]); refine ⟨by simp [kD'], by simp [tupD], by first | rfl | (simp [tupD, okE_tup, okE_lst, okE_str, okE_int, okE_bl, okE_non, *]; done), by first | rfl | (simp [okS, okE_tup, okE_lst, okE_str, okE_int, okE_bl, okE_non, *]; done), by first | rfl | (simp [okW, *]; done), ?_⟩; (simp only [rl_tup, rl_lst, rl_str, rl_non, rl_bl, rl_dic0, rls_nil, rls_cons, List.length_cons, List.length_nil, *]; omega)))
local macro_rules | `(tactic| walk_at "odds") => `(tactic| ((repeat (refine List.forall_mem_cons.mpr ⟨by walk_at "odd", ?_⟩)); (try exact fun _ h => absurd h (List.not_mem_nil))))

section
variable {P : Program} {w : World} {K : PySem.W.Frag} {mg : Str → Option Value} {base : Heap}
def isI : D → Bool
  | .int _ => true
  | _ => false
def FIsInteger : PFn := fun ds c Q _ => ∃ d, ds = [d] ∧ kD' d ≠ "" ∧ Q (.bl (isI d)) c
theorem f_is_integer {ds : List D} {c : Nat} {Q : PQ} {X : PXc} (h : FIsInteger ds c Q X) : F_is_integer ds c Q X := by
  obtain ⟨d, rfl, hk, q⟩ := h
  refine ⟨rfl, ?_⟩
  unfold B_is_integer
  cases d with
  | obj _ _ => exact absurd rfl hk
  | box => exact absurd rfl hk
  | exc _ _ _ => exact absurd rfl hk
  | _ => walk_at "p"; exact q
local macro_rules | `(tactic| walk_at "pc") => `(tactic| (with_reducible refine f_is_integer ?_))
/-- a number from 0 to below n -/
def ixB (d : D) (n : Int) : Bool := match d with
  | .int i => decide (0 ≤ i) && decide (i < n)
  | _ => false
def FIsIndex : PFn := fun ds c Q _ => ∃ d n, ds = [d, .int n] ∧ kD' d ≠ "" ∧ Q (.bl (ixB d n)) c
theorem f_is_index {ds : List D} {c : Nat} {Q : PQ} {X : PXc} (h : FIsIndex ds c Q X) : F_is_index ds c Q X := by
  obtain ⟨d, n, rfl, hk, q⟩ := h
  refine ⟨rfl, ?_⟩
  unfold B_is_index
  cases d with
  | obj _ _ => exact absurd rfl hk
  | box => exact absurd rfl hk
  | exc _ _ _ => exact absurd rfl hk
  | int i => walk_at "p"; refine ⟨_, rfl, hk, ?_⟩; walk_at "p"; refine cnd_T rfl ?_; walk_at "p"; exact cnd_andD (q := fun d => Q d c) q
  | _ => walk_at "p"; refine ⟨_, rfl, hk, ?_⟩; walk_at "p"; exact q
local macro_rules | `(tactic| walk_at "pc") => `(tactic| (with_reducible refine f_is_index ?_))
def sgB (d : D) : Bool := match d with
  | .int i => decide (1 ≤ i) && decide (i ≤ 5)
  | _ => false
def FIsSigns : PFn := fun ds c Q _ => ∃ d, ds = [d] ∧ kD' d ≠ "" ∧ Q (.bl (sgB d)) c
theorem f_is_signs {ds : List D} {c : Nat} {Q : PQ} {X : PXc} (h : FIsSigns ds c Q X) : F_is_signs ds c Q X := by
  obtain ⟨d, rfl, hk, q⟩ := h
  refine ⟨rfl, ?_⟩
  unfold B_is_signs
  cases d with
  | obj _ _ => exact absurd rfl hk
  | box => exact absurd rfl hk
  | exc _ _ _ => exact absurd rfl hk
  | int i => walk_at "p"; refine ⟨_, rfl, hk, ?_⟩; walk_at "p"; refine cnd_T rfl ?_; walk_at "p"; exact cnd_andD (q := fun d => Q d c) q
  | _ => walk_at "p"; refine ⟨_, rfl, hk, ?_⟩; walk_at "p"; exact q
local macro_rules | `(tactic| walk_at "pc") => `(tactic| (with_reducible refine f_is_signs ?_))
def FIsSign : PFn := fun ds c Q _ => ∃ d n, ds = [d, .int n] ∧ kD' d ≠ "" ∧ Q (.bl (ixB d n)) c
theorem f_is_sign {ds : List D} {c : Nat} {Q : PQ} {X : PXc} (h : FIsSign ds c Q X) : F_is_sign ds c Q X := by
  obtain ⟨d, n, rfl, hk, q⟩ := h
  refine ⟨rfl, ?_⟩
  unfold B_is_sign
  walk_at "p"
  exact ⟨d, n, rfl, hk, q⟩
local macro_rules | `(tactic| walk_at "pc") => `(tactic| (with_reducible refine f_is_sign ?_))
def FCheckSigns : PFn := fun ds c Q X => ∃ d, ds = [d] ∧ kD' d ≠ "" ∧ (sgB d = true → Q .non c) ∧ (sgB d = false → X c "InvalidSigns" d)
theorem f_check_signs {ds : List D} {c : Nat} {Q : PQ} {X : PXc} (h : FCheckSigns ds c Q X) : F_check_signs ds c Q X := by
  obtain ⟨d, rfl, hk, q1, q2⟩ := h
  refine ⟨rfl, ?_⟩
  unfold B_check_signs
  walk_at "p"
  refine ⟨d, rfl, hk, ?_⟩
  walk_at "p"
  refine cnd_of (fun h => ?_) (fun h => ?_)
  · walk_at "p"
    exact q2 (by simpa using h)
  · walk_at "p"
    exact q1 (by simpa using h)
local macro_rules | `(tactic| walk_at "pc") => `(tactic| (with_reducible refine f_check_signs ?_))
theorem gAll_map (f : D → Bool) (xs : List D) : gAll [.lst (xs.map fun a => D.bl (f a))] = some (.bl (xs.all f)) := by
  show (boolsD (xs.map fun a => D.bl (f a))).map _ = _
  rw [boolsD_map, Option.map_some, List.all_map]
  rfl
theorem kd_okE {n : Nat} {d : D} (h : okE n d = true) : kD' d ≠ "" := by
  cases d with
  | obj _ _ => cases n <;> cases h
  | box => cases n <;> cases h
  | exc _ _ _ => cases n <;> cases h
  | non => exact show "NoneType" ≠ "" by decide
  | bl _ => exact show "bool" ≠ "" by decide
  | int _ => exact show "int" ≠ "" by decide
  | str _ => exact show "str" ≠ "" by decide
  | lst _ => exact show "list" ≠ "" by decide
  | tup _ => exact show "tuple" ≠ "" by decide
  | dic _ => exact show "dict" ≠ "" by decide
  | lsA _ _ => exact show "list" ≠ "" by decide
def sgn2 (d : D) (s : D) : Bool := match s with
  | .int n => ixB d n
  | _ => false
def wLost : List Nat := [108, 111, 115, 116]
def wPut : List Nat := [112, 117, 116]
def wTurned : List Nat := [116, 117, 114, 110, 101, 100]
def wSame : List Nat := [115, 97, 109, 101]
def kindB (v s : D) : Bool := match v with
  | .tup [k, x] => sgB s && (sgn2 x s && inD k [.str wLost, .str wPut])
  | .tup [k, x, y] => sgB s && ((sgn2 x s && sgn2 y s) && (eqD k (.str wTurned) && !eqD x y))
  | _ => false
theorem kindB_s {v s : D} (h : sgB s = false) : kindB v s = false := by
  unfold kindB
  split
  · rw [h]; rfl
  · rw [h]; rfl
  · rfl
/-- any value that may be asked for -/
def isNb : D → Bool
  | .int _ => true
  | _ => false
structure stS (v : D) : Prop where
  k : kD' v ≠ ""
  l : (tupD v).length ≤ 100000
  i : ∀ e ∈ tupD v, kD' e ≠ "" ∧ okS e = true
  h : ∀ k r, tupD v = k :: r → r ≠ [] → r.all isNb = true → okE 40 k = true
theorem ix_nb {d : D} {n : Int} (h : ixB d n = true) : isNb d = true := by
  cases d with
  | int i => rfl
  | _ => cases h
theorem nb_ok {n : Nat} {d : D} (h : isNb d = true) : okE n d = true := by
  cases d with
  | int i => exact okE_int
  | _ => cases h
def FIsKind : PFn := fun ds c Q _ => ∃ v s, ds = [v, s] ∧ stS v ∧ kD' s ≠ "" ∧ Q (.bl (kindB v s)) c
theorem f_is_kind {ds : List D} {c : Nat} {Q : PQ} {X : PXc} (h : FIsKind ds c Q X) : F_is_kind ds c Q X := by
  obtain ⟨v, s, rfl, hv, hs, q⟩ := h
  refine ⟨rfl, ?_⟩
  unfold B_is_kind
  walk_at "p"
  refine ⟨s, rfl, hs, ?_⟩
  walk_at "p"
  refine cnd_of (fun h => ?_) (fun h => ?_)
  · rw [kindB_s (by simpa using h)] at q
    exact q
  have hsg : sgB s = true := by simpa using h
  obtain ⟨n, rfl⟩ : ∃ n, s = .int n := by
    cases s with
    | int n => exact ⟨n, rfl⟩
    | _ => cases hsg
  refine ⟨hv.k, ?_⟩
  cases v with
  | obj _ _ => exact absurd rfl hv.k
  | box => exact absurd rfl hv.k
  | exc _ _ _ => exact absurd rfl hv.k
  | tup xs =>
    have hz : xs.length ≤ 100000 := hv.l
    have ho := hv.i
    have hh := hv.h
    walk_at "p"
    refine cnd_of (fun h => ?_) (fun h => ?_)
    · have e : kindB (.tup xs) (.int n) = false := by
        match xs, h with
        | [], _ => rfl
        | [_], _ => rfl
        | [_, _], h => simp at h
        | [_, _, _], h => simp at h
        | _ :: _ :: _ :: _ :: _, _ => rfl
      rw [e] at q
      exact q
    walk_at "p"
    have sh : (∃ k x, xs = [k, x]) ∨ ∃ k x y, xs = [k, x, y] := by
      match xs, h with
      | [], h => simp [eqD_int_int] at h
      | [_], h => simp [eqD_int_int] at h
      | [k, x], _ => exact .inl ⟨k, x, rfl⟩
      | [k, x, y], _ => exact .inr ⟨k, x, y, rfl⟩
      | _ :: _ :: _ :: _ :: t, h =>
        simp [eqD_int_int] at h
        omega
    refine lc_fun (fun d => .bl (ixB d n)) (by rw [List.length_drop]; omega) (fun i d K hd hK => ?_) ?_
    · have hd' := ho d (List.mem_of_mem_drop (List.mem_of_getElem? hd))
      walk_at "p"
      exact ⟨d, n, rfl, hd'.1, hK⟩
    refine wpO_of (gAll_map _ _) ?_
    walk_at "p"
    rcases sh with ⟨k, x, rfl⟩ | ⟨k, x, y, rfl⟩
    · have q : Q (.bl (sgB (.int n) && (ixB x n && inD k [.str wLost, .str wPut]))) c := q
      rw [hsg, Bool.true_and] at q
      refine cnd_of (fun h => ?_) (fun h => ?_)
      · rw [show ixB x n = false by simpa using h] at q
        exact q
      have hx : ixB x n = true := by simpa using h
      rw [hx, Bool.true_and] at q
      have ok := okE_up (hh k [x] rfl (by simp) (by rw [List.all_cons, ix_nb hx]; rfl)) (show 40 ≤ 59 by omega)
      walk_at "p"
      refine ⟨by rw [okE_up ok (show 59 ≤ 60 by omega)]; rfl, ?_⟩
      rw [inD_cons, inD_cons, inD_nil, Bool.or_false] at q
      exact q
    · have q : Q (.bl (sgB (.int n) && ((ixB x n && ixB y n) && (eqD k (.str wTurned) && !eqD x y)))) c := q
      rw [hsg, Bool.true_and] at q
      refine cnd_of (fun h => ?_) (fun h => ?_)
      · rw [show (ixB x n && ixB y n) = false by have h : (!(ixB x n && (ixB y n && true))) = true := h; revert h; cases ixB x n <;> cases ixB y n <;> decide] at q
        exact q
      have hx : (ixB x n && ixB y n) = true := by
        have h : (!(ixB x n && (ixB y n && true))) = false := h
        rw [Bool.and_true] at h
        simpa using h
      rw [hx, Bool.true_and] at q
      have hx1 := (Bool.and_eq_true_iff.mp hx).1
      have hx2 := (Bool.and_eq_true_iff.mp hx).2
      have ok := okE_up (hh k [x, y] rfl (by simp) (by rw [List.all_cons, List.all_cons, ix_nb hx1, ix_nb hx2]; rfl)) (show 40 ≤ 59 by omega)
      have ox : okE 60 x = true := nb_ok (ix_nb hx1)
      have oy : okE 60 y = true := nb_ok (ix_nb hx2)
      walk_at "p"
      refine wpO_of (gEqM_any (okE_up ok (by omega)) (by rfl)) ?_
      walk_at "p"
      refine cnd_of (fun h => ?_) (fun h => ?_)
      · rw [show eqD k (.str wTurned) = true from h, Bool.true_and] at q
        walk_at "p"
        exact wpO_of (gNeM_any ox oy) q
      · rw [show eqD k (.str wTurned) = false from h, Bool.false_and] at q
        walk_at "p"
        exact q
  | _ => walk_at "p"; exact q
local macro_rules | `(tactic| walk_at "pc") => `(tactic| (with_reducible refine f_is_kind ?_))
def sameB (v s : D) : Bool := match v with
  | .tup [k, x] => eqD k (.str wSame) && sgn2 x s
  | _ => false
def FIsSame : PFn := fun ds c Q _ => ∃ v s, ds = [v, s] ∧ stS v ∧ sgB s = true ∧ Q (.bl (sameB v s)) c
theorem f_is_same {ds : List D} {c : Nat} {Q : PQ} {X : PXc} (h : FIsSame ds c Q X) : F_is_same ds c Q X := by
  obtain ⟨v, s, rfl, hv, hsg, q⟩ := h
  refine ⟨rfl, ?_⟩
  unfold B_is_same
  obtain ⟨n, rfl⟩ : ∃ n, s = .int n := by
    cases s with
    | int n => exact ⟨n, rfl⟩
    | _ => cases hsg
  cases v with
  | obj _ _ => exact absurd rfl hv.k
  | box => exact absurd rfl hv.k
  | exc _ _ _ => exact absurd rfl hv.k
  | tup xs =>
    have ho : ∀ e ∈ xs, kD' e ≠ "" ∧ okS e = true := hv.i
    have hk : kD' (.tup xs) ≠ "" := hv.k
    walk_at "p"
    refine cnd_of (fun h => ?_) (fun h => ?_)
    · match xs, ho, q, h with
      | [k, x], ho, q, h =>
        have ok := (ho k (by simp)).2
        have ox := (ho x (by simp)).1
        have q : Q (.bl (eqD k (.str wSame) && ixB x n)) c := q
        walk_at "p"
        refine wpO_of (gEqM_s ok (by rfl)) ?_
        walk_at "p"
        refine cnd_of (fun h => ?_) (fun h => ?_)
        · rw [show eqD k (.str wSame) = true from h, Bool.true_and] at q
          walk_at "p"
          exact ⟨x, n, rfl, ox, q⟩
        · rw [show eqD k (.str wSame) = false from h, Bool.false_and] at q
          exact q
      | [], _, _, h => simp at h
      | [_], _, _, h => simp at h
      | _ :: _ :: _ :: t, _, _, h => simp at h; omega
    · have e : sameB (.tup xs) (.int n) = false := by
        match xs, h with
        | [], _ => rfl
        | [_], _ => rfl
        | [_, _], h => simp at h
        | _ :: _ :: _ :: _, _ => rfl
      rw [e] at q
      exact q
  | _ => walk_at "p"; exact q
local macro_rules | `(tactic| walk_at "pc") => `(tactic| (with_reducible refine f_is_same ?_))
def passB (v s : D) : Bool := match v with
  | .tup ds => sgB s && ds.all fun e => sameB e s || kindB e s
  | _ => false
structure paS (v : D) : Prop where
  k : kD' v ≠ ""
  l : (tupD v).length ≤ 100000
  i : ∀ e ∈ tupD v, stS e
def FIsPassing : PFn := fun ds c Q _ => ∃ v s, ds = [v, s] ∧ paS v ∧ kD' s ≠ "" ∧ Q (.bl (passB v s)) c
theorem cnd_orD {a b : Bool} {q : D → Prop} (h : q (.bl (a || b))) : cnd a (fun _ => q (.bl true)) fun _ => q (.bl b) := by cases a <;> exact h
theorem f_is_passing {ds : List D} {c : Nat} {Q : PQ} {X : PXc} (h : FIsPassing ds c Q X) : F_is_passing ds c Q X := by
  obtain ⟨v, s, rfl, hv, hs, q⟩ := h
  refine ⟨rfl, ?_⟩
  unfold B_is_passing
  walk_at "p"
  refine ⟨s, rfl, hs, ?_⟩
  walk_at "p"
  refine cnd_of (fun h => ?_) (fun h => ?_)
  · have e : passB v s = false := by
      unfold passB
      split
      · rw [show sgB s = false by simpa using h]; rfl
      · rfl
    rw [e] at q
    exact q
  have hsg : sgB s = true := by simpa using h
  refine ⟨hv.k, ?_⟩
  cases v with
  | obj _ _ => exact absurd rfl hv.k
  | box => exact absurd rfl hv.k
  | exc _ _ _ => exact absurd rfl hv.k
  | tup xs =>
    have hz : xs.length ≤ 100000 := hv.l
    have ho : ∀ e ∈ xs, stS e := hv.i
    walk_at "p"
    refine lc_fun (fun e => .bl (sameB e s || kindB e s)) (by omega) (fun i d K hd hK => ?_) ?_
    · have hd' := ho d (List.mem_of_getElem? hd)
      walk_at "p"
      refine ⟨d, s, rfl, hd', hsg, ?_⟩
      walk_at "p"
      refine cnd_of (fun h => ?_) (fun h => ?_)
      · walk_at "p"
        rw [h, Bool.true_or] at hK
        exact hK
      · walk_at "p"
        rw [h, Bool.false_or] at hK
        exact ⟨d, s, rfl, hd', hs, hK⟩
    refine wpO_of (gAll_map _ _) ?_
    have q : Q (.bl (sgB s && xs.all fun e => sameB e s || kindB e s)) c := q
    rw [hsg, Bool.true_and] at q
    exact q
  | _ => walk_at "p"; exact q
local macro_rules | `(tactic| walk_at "pc") => `(tactic| (with_reducible refine f_is_passing ?_))
def FCheckPassing : PFn := fun ds c Q X => ∃ v s, ds = [v, s] ∧ paS v ∧ kD' s ≠ "" ∧ (passB v s = true → Q .non c) ∧ (passB v s = false → X c "InvalidPassing" v)
theorem f_check_passing {ds : List D} {c : Nat} {Q : PQ} {X : PXc} (h : FCheckPassing ds c Q X) : F_check_passing ds c Q X := by
  obtain ⟨v, s, rfl, hv, hs, q1, q2⟩ := h
  refine ⟨rfl, ?_⟩
  unfold B_check_passing
  walk_at "p"
  refine ⟨v, s, rfl, hv, hs, ?_⟩
  walk_at "p"
  refine cnd_of (fun h => ?_) (fun h => ?_)
  · walk_at "p"
    exact q2 (by simpa using h)
  · walk_at "p"
    exact q1 (by simpa using h)
local macro_rules | `(tactic| walk_at "pc") => `(tactic| (with_reducible refine f_check_passing ?_))
/-- a step of a passing -/
inductive Stp where
  | same (a : Nat)
  | lost (a : Nat)
  | put (a : Nat)
  | turn (a b : Nat)
def stpD : Stp → D
  | .same a => .tup [.str wSame, .int a]
  | .lost a => .tup [.str wLost, .int a]
  | .put a => .tup [.str wPut, .int a]
  | .turn a b => .tup [.str wTurned, .int a, .int b]
def StOk (n : Nat) : Stp → Prop
  | .same a => a < n
  | .lost a => a < n
  | .put a => a < n
  | .turn a b => a < n ∧ b < n ∧ a ≠ b
theorem ixB_of {x : D} {n : Nat} (h : ixB x (n : Int) = true) : ∃ a : Nat, x = .int (a : Int) ∧ a < n := by
  unfold ixB at h
  split at h
  · rename_i i
    rw [Bool.and_eq_true, decide_eq_true_eq, decide_eq_true_eq] at h
    exact ⟨i.toNat, by rw [Int.toNat_of_nonneg h.1], by omega⟩
  · cases h
theorem stp_of {e : D} {n : Nat} (h : (sameB e (.int n) || kindB e (.int n)) = true) : ∃ p, e = stpD p ∧ StOk n p := by
  rcases Bool.or_eq_true_iff.mp h with h | h
  · unfold sameB at h
    split at h
    · rw [Bool.and_eq_true] at h
      obtain ⟨a, rfl, ha⟩ := ixB_of (x := _) (n := n) h.2
      have h1 := h.1
      rw [eqD_comm_str] at h1
      obtain rfl := eq_strD h1
      exact ⟨.same a, rfl, ha⟩
    · cases h
  · unfold kindB at h
    split at h
    · rw [Bool.and_eq_true, Bool.and_eq_true, inD_cons, inD_cons, inD_nil, Bool.or_false] at h
      obtain ⟨a, rfl, ha⟩ := ixB_of (x := _) (n := n) h.2.1
      rcases Bool.or_eq_true_iff.mp h.2.2 with h | h
      · obtain rfl := eq_strD h
        exact ⟨.lost a, rfl, ha⟩
      · obtain rfl := eq_strD h
        exact ⟨.put a, rfl, ha⟩
    · simp only [Bool.and_eq_true] at h
      obtain ⟨a, rfl, ha⟩ := ixB_of (x := _) (n := n) h.2.1.1
      obtain ⟨b, rfl, hb⟩ := ixB_of (x := _) (n := n) h.2.1.2
      have h1 := h.2.2.1
      rw [eqD_comm_str] at h1
      obtain rfl := eq_strD h1
      refine ⟨.turn a b, rfl, ha, hb, fun e => ?_⟩
      have h2 := h.2.2.2
      rw [eqD_int_int, e] at h2
      simp at h2
    · cases h
theorem pass_l {n : Nat} : ∀ {ds : List D}, (∀ e ∈ ds, (sameB e (.int n) || kindB e (.int n)) = true) → ∃ ps : List Stp, ds = ps.map stpD ∧ ∀ p ∈ ps, StOk n p
  | [], _ => ⟨[], rfl, fun p hp => by cases hp⟩
  | d :: t, h => by
    obtain ⟨p, rfl, hp⟩ := stp_of (h d List.mem_cons_self)
    obtain ⟨ps, e, hps⟩ := pass_l fun x hx => h x (List.mem_cons_of_mem _ hx)
    refine ⟨p :: ps, by rw [e]; rfl, fun x hx => ?_⟩
    rcases List.mem_cons.mp hx with rfl | hx
    · exact hp
    · exact hps x hx
theorem pass_of {v : D} {n : Nat} (h : passB v (.int n) = true) : ∃ ps : List Stp, v = .tup (ps.map stpD) ∧ ∀ p ∈ ps, StOk n p := by
  unfold passB at h
  split at h
  · rename_i ds
    rw [Bool.and_eq_true] at h
    obtain ⟨ps, rfl, hp⟩ := pass_l (List.all_eq_true.mp h.2)
    exact ⟨ps, rfl, hp⟩
  · cases h
theorem fil_map {p : D → Bool} {f : D → D} {g : Stp → Option Nat} (h1 : ∀ q a, g q = some a → p (stpD q) = true ∧ f (stpD q) = .int (a : Int)) (h2 : ∀ q, g q = none → p (stpD q) = false) : ∀ ps : List Stp, ((ps.map stpD).filter p).map f = (ps.filterMap g).map fun a => D.int (a : Nat)
  | [] => rfl
  | q :: t => by
    rw [List.map_cons, List.filter_cons, List.filterMap_cons]
    cases e : g q with
    | none => rw [h2 q e]; exact fil_map h1 h2 t
    | some a =>
      rw [if_pos (h1 q a e).1, List.map_cons, (h1 q a e).2, fil_map h1 h2 t]
      rfl
def st1 : Stp → Option Nat
  | .same a => some a
  | .lost a => some a
  | .put _ => none
  | .turn a _ => some a
def st2 : Stp → Option Nat
  | .same a => some a
  | .lost _ => none
  | .put a => some a
  | .turn _ b => some b
def lineD (l : List Nat) : D := .tup (l.map fun a => .int (a : Nat))
def FSent (g : Stp → Option Nat) : PFn := fun ds c Q X => ∃ v, ds = [v] ∧ paS v ∧ (passB v (.int 5) = false → X c "InvalidPassing" v) ∧ ∀ ps : List Stp, v = .tup (ps.map stpD) → (∀ p ∈ ps, StOk 5 p) → ps.length ≤ 100000 → Q (lineD (ps.filterMap g)) c
theorem f_sent {ds : List D} {c : Nat} {Q : PQ} {X : PXc} (h : (FSent st1) ds c Q X) : F_sent ds c Q X := by
  obtain ⟨v, rfl, hv, q1, q2⟩ := h
  refine ⟨rfl, ?_⟩
  unfold B_sent
  walk_at "p"
  refine ⟨v, .int 5, rfl, hv, by decide, fun h => ?_, q1⟩
  obtain ⟨ps, rfl, hp⟩ := pass_of (n := 5) h
  have hz : ps.length ≤ 100000 := by have := hv.l; simpa [tupD] using this
  have q := q2 ps rfl hp hz
  walk_at "p"
  refine lc_fil (fun d => match d with | .tup (k :: _) => !eqD k (.str wPut) | _ => false) (fun d => match d with | .tup [_, a] => a | .tup [_, a, b] => a | d => d) (by rw [List.length_map]; omega) (fun i d K1 K2 hd h1 h2 => ?_) ?_
  · obtain ⟨p, hp', rfl⟩ := List.mem_map.mp (List.mem_of_getElem? hd)
    cases p <;>
    · unfold stpD at h1 h2 ⊢
      walk_at "p"
      first
      | exact h2 rfl
      | (refine cnd_T (by decide) ?_; walk_at "p"; exact h1 rfl)
  have e := fil_map (g := st1) (p := fun d => match d with | .tup (k :: _) => !eqD k (.str wPut) | _ => false) (f := fun d => match d with | .tup [_, a] => a | .tup [_, a, b] => a | d => d)
    (fun q a e => by cases q <;> cases e <;> exact ⟨rfl, rfl⟩) (fun q e => by cases q <;> cases e <;> rfl) ps
  rw [e]
  walk_at "p"
  exact q
local macro_rules | `(tactic| walk_at "pc") => `(tactic| (with_reducible refine f_sent ?_))
theorem f_came {ds : List D} {c : Nat} {Q : PQ} {X : PXc} (h : (FSent st2) ds c Q X) : F_came ds c Q X := by
  obtain ⟨v, rfl, hv, q1, q2⟩ := h
  refine ⟨rfl, ?_⟩
  unfold B_came
  walk_at "p"
  refine ⟨v, .int 5, rfl, hv, by decide, fun h => ?_, q1⟩
  obtain ⟨ps, rfl, hp⟩ := pass_of (n := 5) h
  have hz : ps.length ≤ 100000 := by have := hv.l; simpa [tupD] using this
  have q := q2 ps rfl hp hz
  walk_at "p"
  refine lc_fil (fun d => match d with | .tup (k :: _) => !eqD k (.str wLost) | _ => false) (fun d => match d with | .tup [_, a] => a | .tup [_, a, b] => b | d => d) (by rw [List.length_map]; omega) (fun i d K1 K2 hd h1 h2 => ?_) ?_
  · obtain ⟨p, hp', rfl⟩ := List.mem_map.mp (List.mem_of_getElem? hd)
    cases p <;>
    · unfold stpD at h1 h2 ⊢
      walk_at "p"
      first
      | exact h2 rfl
      | (refine cnd_T (by decide) ?_; walk_at "p"; exact h1 rfl)
  have e := fil_map (g := st2) (p := fun d => match d with | .tup (k :: _) => !eqD k (.str wLost) | _ => false) (f := fun d => match d with | .tup [_, a] => a | .tup [_, a, b] => b | d => d)
    (fun q a e => by cases q <;> cases e <;> exact ⟨rfl, rfl⟩) (fun q e => by cases q <;> cases e <;> rfl) ps
  rw [e]
  walk_at "p"
  exact q
local macro_rules | `(tactic| walk_at "pc") => `(tactic| (with_reducible refine f_came ?_))
def stE : Stp → Nat
  | .same _ => 0
  | _ => 1
theorem fil_len : ∀ ps : List Stp, ((ps.map stpD).filter fun d => match d with | .tup (k :: _) => !eqD k (.str wSame) | _ => false).length = (ps.map stE).sum
  | [] => rfl
  | q :: t => by
    rw [List.map_cons, List.filter_cons, List.map_cons, List.sum_cons, ← fil_len t]
    cases q with
    | same a => exact (Nat.zero_add _).symm
    | lost a => exact Nat.add_comm _ _
    | put a => exact Nat.add_comm _ _
    | turn a b => exact Nat.add_comm _ _
def FErrors : PFn := fun ds c Q X => ∃ v, ds = [v] ∧ paS v ∧ (passB v (.int 5) = false → X c "InvalidPassing" v) ∧ ∀ ps : List Stp, v = .tup (ps.map stpD) → (∀ p ∈ ps, StOk 5 p) → ps.length ≤ 100000 → Q (.int ((ps.map stE).sum : Nat)) c
theorem f_errors_in {ds : List D} {c : Nat} {Q : PQ} {X : PXc} (h : FErrors ds c Q X) : F_errors_in ds c Q X := by
  obtain ⟨v, rfl, hv, q1, q2⟩ := h
  refine ⟨rfl, ?_⟩
  unfold B_errors_in
  walk_at "p"
  refine ⟨v, .int 5, rfl, hv, by decide, fun h => ?_, q1⟩
  obtain ⟨ps, rfl, hp⟩ := pass_of (n := 5) h
  have hz : ps.length ≤ 100000 := by have := hv.l; simpa [tupD] using this
  have q := q2 ps rfl hp hz
  walk_at "p"
  refine lc_fil (fun d => match d with | .tup (k :: _) => !eqD k (.str wSame) | _ => false) (fun d => d) (by rw [List.length_map]; omega) (fun i d K1 K2 hd h1 h2 => ?_) ?_
  · obtain ⟨p, hp', rfl⟩ := List.mem_map.mp (List.mem_of_getElem? hd)
    cases p <;>
    · unfold stpD at h1 h2 ⊢
      walk_at "p"
      first
      | exact h2 rfl
      | (refine cnd_T (by decide) ?_; walk_at "p"; exact h1 rfl)
  walk_at "p"
  rw [List.length_map, fil_len]
  exact q
local macro_rules | `(tactic| walk_at "pc") => `(tactic| (with_reducible refine f_errors_in ?_))
theorem bnt {b : Bool} (h : (!b) = true) : b = false := by cases b <;> first | rfl | cases h
theorem bnf {b : Bool} (h : (!b) = false) : b = true := by cases b <;> first | rfl | cases h
theorem f__law_is_signs {ds : List D} {c : Nat} {Q : PQ} {X : PXc} (h : FIsSigns ds c Q X) : F__law_is_signs ds c Q X := by
  obtain ⟨d, rfl, hk, q⟩ := h
  refine ⟨rfl, ?_⟩
  unfold B__law_is_signs
  cases d with
  | obj _ _ => exact absurd rfl hk
  | box => exact absurd rfl hk
  | exc _ _ _ => exact absurd rfl hk
  | int i => walk_at "p"; exact cnd_andD (q := fun d => Q d c) q
  | _ => walk_at "p"; exact q
local macro_rules | `(tactic| walk_at "pc") => `(tactic| (with_reducible refine f__law_is_signs ?_))
theorem f__law_is_sign {ds : List D} {c : Nat} {Q : PQ} {X : PXc} (h : FIsSign ds c Q X) : F__law_is_sign ds c Q X := by
  obtain ⟨d, n, rfl, hk, q⟩ := h
  refine ⟨rfl, ?_⟩
  unfold B__law_is_sign
  cases d with
  | obj _ _ => exact absurd rfl hk
  | box => exact absurd rfl hk
  | exc _ _ _ => exact absurd rfl hk
  | int i => walk_at "p"; exact cnd_andD (q := fun d => Q d c) q
  | _ => walk_at "p"; exact q
local macro_rules | `(tactic| walk_at "pc") => `(tactic| (with_reducible refine f__law_is_sign ?_))
theorem f__law_is_kind {ds : List D} {c : Nat} {Q : PQ} {X : PXc} (h : FIsKind ds c Q X) : F__law_is_kind ds c Q X := by
  obtain ⟨v, s, rfl, hv, hs, q⟩ := h
  refine ⟨rfl, ?_⟩
  unfold B__law_is_kind
  walk_at "p"
  refine ⟨s, rfl, hs, ?_⟩
  walk_at "p"
  refine cnd_of (fun h => ?_) (fun h => ?_)
  · rw [kindB_s (by simpa using h)] at q
    exact q
  have hsg : sgB s = true := by simpa using h
  obtain ⟨n, rfl⟩ : ∃ n, s = .int n := by
    cases s with
    | int n => exact ⟨n, rfl⟩
    | _ => cases hsg
  refine ⟨hv.k, ?_⟩
  cases v with
  | obj _ _ => exact absurd rfl hv.k
  | box => exact absurd rfl hv.k
  | exc _ _ _ => exact absurd rfl hv.k
  | tup xs =>
    have ho : ∀ e ∈ xs, kD' e ≠ "" ∧ okS e = true := hv.i
    walk_at "p"
    by_cases h2 : xs.length = 2
    · match xs, h2 with
      | [k, x], _ =>
        have ok := (ho k (by simp)).2
        have ox := (ho x (by simp)).1
        have q : Q (.bl (sgB (.int n) && (ixB x n && inD k [.str wLost, .str wPut]))) c := q
        rw [hsg, Bool.true_and, inD_cons, inD_cons, inD_nil, Bool.or_false, Bool.and_comm] at q
        refine cnd_T (by simp) ?_
        walk_at "p"
        refine wpO_of (gEqM_s ok (by rfl)) ?_
        walk_at "p"
        rw [eqD_comm_str (l := [108, 111, 115, 116])]
        refine cnd_of (fun h => ?_) (fun h => ?_)
        · rw [show eqD (.str wLost) k = true from h, Bool.true_or, Bool.true_and] at q
          walk_at "p"
          exact ⟨x, n, rfl, ox, q⟩
        · rw [show eqD (.str wLost) k = false from h, Bool.false_or] at q
          walk_at "p"
          refine wpO_of (gEqM_s ok (by rfl)) ?_
          walk_at "p"
          rw [eqD_comm_str (l := [112, 117, 116])]
          refine cnd_of (fun h => ?_) (fun h => ?_)
          · rw [show eqD (.str wPut) k = true from h, Bool.true_and] at q
            walk_at "p"
            exact ⟨x, n, rfl, ox, q⟩
          · rw [show eqD (.str wPut) k = false from h, Bool.false_and] at q
            exact q
    refine cnd_F (decide_eq_false (by omega)) ?_
    by_cases h3 : xs.length = 3
    · match xs, h3 with
      | [k, x, y], _ =>
        have ok := (ho k (by simp)).2
        have ox := (ho x (by simp)).1
        have oy := (ho y (by simp)).1
        have q : Q (.bl (sgB (.int n) && ((ixB x n && ixB y n) && (eqD k (.str wTurned) && !eqD x y)))) c := q
        rw [hsg, Bool.true_and] at q
        walk_at "p"
        refine wpO_of (gNeM_s ok (by rfl)) ?_
        walk_at "p"
        refine cnd_of (fun h => ?_) (fun h => ?_)
        · rw [show eqD k (.str wTurned) = false from bnt h, Bool.false_and, Bool.and_false] at q
          exact q
        · rw [show eqD k (.str wTurned) = true from bnf h, Bool.true_and] at q
          walk_at "p"
          refine ⟨x, n, rfl, ox, ?_⟩
          walk_at "p"
          refine cnd_of (fun h => ?_) (fun h => ?_)
          · have hx1 := h
            rw [h, Bool.true_and] at q
            walk_at "p"
            refine ⟨y, n, rfl, oy, ?_⟩
            walk_at "p"
            refine cnd_of (fun h => ?_) (fun h => ?_)
            · have hx2 := h
              rw [h, Bool.true_and] at q
              walk_at "p"
              exact wpO_of (gNeM_any (nb_ok (ix_nb hx1)) (nb_ok (ix_nb hx2))) q
            · rw [h, Bool.false_and] at q
              exact q
          · rw [h, Bool.false_and, Bool.false_and] at q
            exact q
    have e : kindB (.tup xs) (.int n) = false := by
      match xs, h2, h3 with
      | [], _, _ => rfl
      | [_], _, _ => rfl
      | [_, _], h, _ => simp at h
      | [_, _, _], _, h => simp at h
      | _ :: _ :: _ :: _ :: _, _, _ => rfl
    rw [e] at q
    walk_at "p"
    refine cnd_T (by simp; omega) ?_
    walk_at "p"
    exact q
  | _ => walk_at "p"; exact q
local macro_rules | `(tactic| walk_at "pc") => `(tactic| (with_reducible refine f__law_is_kind ?_))
theorem same_chain {d : D} {n : Int} {c : Nat} {X : PXc} {Kk : PQ} (hv : stS d) (q : Kk (.bl (sameB d (.int n))) c) :
    cnd (isK "tuple" d) (fun _ => wpO (gLen [d]) fun z => wpO (gEqM z (D.int 2)) fun z => wpO (bD z) fun b => cnd b (fun _ => wpO (gIx d (D.int 0)) fun z => wpO (gEqM z (D.str [115, 97, 109, 101])) fun z => wpO (bD z) fun b =>
      cnd b (fun _ => wpO (gIx d (D.int 1)) fun z => F__law_is_sign [z, D.int n] c Kk X) fun _ => Kk (D.bl false) c) fun _ => Kk (D.bl false) c) fun _ => Kk (D.bl false) c := by
  cases d with
  | obj _ _ => exact absurd rfl hv.k
  | box => exact absurd rfl hv.k
  | exc _ _ _ => exact absurd rfl hv.k
  | tup xs =>
    have ho : ∀ e ∈ xs, kD' e ≠ "" ∧ okS e = true := hv.i
    refine cnd_T rfl ?_
    walk_at "p"
    refine cnd_of (fun h => ?_) (fun h => ?_)
    · match xs, ho, q, h with
      | [k, x], ho, q, h =>
        have ok := (ho k (by simp)).2
        have ox := (ho x (by simp)).1
        have q : Kk (.bl (eqD k (.str wSame) && ixB x n)) c := q
        walk_at "p"
        refine wpO_of (gEqM_s ok (by rfl)) ?_
        walk_at "p"
        refine cnd_of (fun h => ?_) (fun h => ?_)
        · rw [show eqD k (.str wSame) = true from h, Bool.true_and] at q
          walk_at "p"
          exact ⟨x, n, rfl, ox, q⟩
        · rw [show eqD k (.str wSame) = false from h, Bool.false_and] at q
          exact q
      | [], _, _, h => simp at h
      | [_], _, _, h => simp at h
      | _ :: _ :: _ :: t, _, _, h => simp at h; omega
    · have e : sameB (.tup xs) (.int n) = false := by
        match xs, h with
        | [], _ => rfl
        | [_], _ => rfl
        | [_, _], h => simp at h
        | _ :: _ :: _ :: _, _ => rfl
      rw [e] at q
      exact q
  | _ => exact cnd_F rfl q
theorem f__law_is_passing {ds : List D} {c : Nat} {Q : PQ} {X : PXc} (h : FIsPassing ds c Q X) : F__law_is_passing ds c Q X := by
  obtain ⟨v, s, rfl, hv, hs, q⟩ := h
  refine ⟨rfl, ?_⟩
  unfold B__law_is_passing
  walk_at "p"
  refine ⟨s, rfl, hs, ?_⟩
  walk_at "p"
  refine cnd_of (fun h => ?_) (fun h => ?_)
  · have e : passB v s = false := by
      unfold passB
      split
      · rw [show sgB s = false by simpa using h]; rfl
      · rfl
    rw [e] at q
    exact q
  have hsg : sgB s = true := by simpa using h
  obtain ⟨n, rfl⟩ : ∃ n, s = .int n := by
    cases s with
    | int n => exact ⟨n, rfl⟩
    | _ => cases hsg
  refine ⟨hv.k, ?_⟩
  cases v with
  | obj _ _ => exact absurd rfl hv.k
  | box => exact absurd rfl hv.k
  | exc _ _ _ => exact absurd rfl hv.k
  | tup xs =>
    have hz : xs.length ≤ 100000 := hv.l
    have ho : ∀ e ∈ xs, stS e := hv.i
    walk_at "p"
    have q : Q (.bl (sgB (.int n) && xs.all fun e => sameB e (.int n) || kindB e (.int n))) c := q
    rw [hsg, Bool.true_and] at q
    refine ⟨fun i ρ c' => ∃ x2 x3, ρ = [Sl.v (.tup xs), Sl.v (.int n), x2, x3] ∧ c' = c ∧ ∀ e ∈ xs.take i, (sameB e (.int n) || kindB e (.int n)) = true, ⟨_, _, rfl, rfl, fun e he => by cases he⟩, ?_, ?_⟩
    · rintro i d ρ c1 hd ⟨x2, x3, rfl, rfl, hall⟩
      have hd' := ho d (List.mem_of_getElem? hd)
      have dk := hd'.k
      have bad : (sameB d (.int n) || kindB d (.int n)) = false → xs.all (fun e => sameB e (.int n) || kindB e (.int n)) = false := fun h => by
        rw [Bool.eq_false_iff]
        intro h2
        have := List.all_eq_true.mp h2 d (List.mem_of_getElem? hd)
        rw [h] at this
        cases this
      have nxt : (sameB d (.int n) || kindB d (.int n)) = true → ∀ e ∈ xs.take (i + 1), (sameB e (.int n) || kindB e (.int n)) = true := fun h e he => by
        rw [List.take_add_one, hd] at he
        rcases List.mem_append.mp he with he | he
        · exact hall e he
        · cases Option.mem_toList.mp he
          exact h
      walk_at "p"
      refine same_chain hd' ?_
      walk_at "p"
      refine cnd_of (fun h => ?_) (fun h => ?_)
      · have h := bnt h
        walk_at "p"
        refine ⟨d, .int n, rfl, hd', show "int" ≠ "" by decide, ?_⟩
        walk_at "p"
        refine cnd_of (fun h2 => ?_) (fun h2 => ?_)
        · have h2 := bnt h2
          rw [bad (by rw [h, h2]; rfl)] at q
          walk_at "p"
          exact q
        · have h2 := bnf h2
          walk_at "p"
          exact ⟨_, _, rfl, nxt (by rw [h2, Bool.or_true])⟩
      · have h := bnf h
        walk_at "p"
        exact ⟨_, _, rfl, nxt (by rw [h, Bool.true_or])⟩
    · rintro ρ c1 ⟨x2, x3, rfl, rfl, hall⟩
      rw [List.take_length] at hall
      walk_at "p"
      rw [List.all_eq_true.mpr hall] at q
      exact q
  | _ => walk_at "p"; exact q
local macro_rules | `(tactic| walk_at "pc") => `(tactic| (with_reducible refine f__law_is_passing ?_))
def FStep : PFn := fun ds c Q _ => ∃ n : Nat, ds = [.box, .int (n : Nat)] ∧ c ≤ 10000000 ∧ 1 ≤ n ∧ n ≤ 5 ∧ ∀ p k, StOk n p → k ≤ c + 3 → Q (stpD p) k
theorem f__law_step {ds : List D} {c : Nat} {Q : PQ} {X : PXc} (h : FStep ds c Q X) : F__law_step ds c Q X := by
  obtain ⟨n, rfl, hc, h1, h5, q⟩ := h
  refine ⟨rfl, ?_⟩
  unfold B__law_step
  walk_at "p"
  refine tk_of (N := 8) rfl (by omega) fun way hw => ?_
  refine tk_of (N := n) rfl (by omega) fun a ha => ?_
  refine tk_of (N := n) rfl (by omega) fun b hb => ?_
  walk_at "p"
  refine cnd_of (fun h => ?_) (fun h => ?_)
  · exact ⟨by omega, q (.same a) _ ha (by omega)⟩
  have w2 := of_decide_eq_false h
  refine cnd_of (fun h => ?_) (fun h => ?_)
  · have w5 := of_decide_eq_true h
    refine cnd_of (fun h => ?_) (fun h => ?_)
    · exact ⟨by omega, q (.same a) _ ha (by omega)⟩
    have ab : a ≠ b := fun e => by have := of_decide_eq_false h; omega
    walk_at "p"
    refine cnd_F (decide_eq_false (by omega)) ?_
    walk_at "p"
    refine cnd_F (decide_eq_false (by omega)) ?_
    walk_at "p"
    exact q (.turn a b) _ ⟨ha, hb, ab⟩ (by omega)
  · have w5 := of_decide_eq_false h
    walk_at "p"
    refine cnd_of (fun h => ?_) (fun h => ?_)
    · walk_at "p"
      exact q (.lost a) _ ha (by omega)
    walk_at "p"
    refine cnd_T (decide_eq_true (by omega)) ?_
    walk_at "p"
    exact q (.put b) _ hb (by omega)
local macro_rules | `(tactic| walk_at "pc") => `(tactic| (with_reducible refine f__law_step ?_))
theorem stps_of {n : Nat} : ∀ {ds : List D}, (∀ e ∈ ds, ∃ p, e = stpD p ∧ StOk n p) → ∃ ps : List Stp, ds = ps.map stpD ∧ ∀ p ∈ ps, StOk n p
  | [], _ => ⟨[], rfl, fun p hp => by cases hp⟩
  | d :: t, h => by
    obtain ⟨p, rfl, hp⟩ := h d List.mem_cons_self
    obtain ⟨ps, e, hps⟩ := stps_of fun x hx => h x (List.mem_cons_of_mem _ hx)
    refine ⟨p :: ps, by rw [e]; rfl, fun x hx => ?_⟩
    rcases List.mem_cons.mp hx with rfl | hx
    · exact hp
    · exact hps x hx
def FPassing : PFn := fun ds c Q _ => ∃ n : Nat, ds = [.box, .int (n : Nat)] ∧ c ≤ 1000000 ∧ 1 ≤ n ∧ n ≤ 5 ∧ ∀ (ps : List Stp) k, (∀ p ∈ ps, StOk n p) → ps.length ≤ 400 → k ≤ c + 1300 → Q (.tup (ps.map stpD)) k
theorem f__law_passing {ds : List D} {c : Nat} {Q : PQ} {X : PXc} (h : FPassing ds c Q X) : F__law_passing ds c Q X := by
  obtain ⟨n, rfl, hc, h1, h5, q⟩ := h
  refine ⟨rfl, ?_⟩
  unfold B__law_passing
  walk_at "p"
  refine tk_of (N := 10) rfl (by omega) fun k hk => ?_
  obtain ⟨m, hm, zm⟩ : ∃ m : Nat, [D.int 0, .int 1, .int 2, .int 3, .int 5, .int 8, .int 12, .int 3, .int 5, .int 399][k]? = some (.int (m : Nat)) ∧ m ≤ 399 := by
    match k, hk with
    | 0, _ => exact ⟨0, rfl, by omega⟩
    | 1, _ => exact ⟨1, rfl, by omega⟩
    | 2, _ => exact ⟨2, rfl, by omega⟩
    | 3, _ => exact ⟨3, rfl, by omega⟩
    | 4, _ => exact ⟨5, rfl, by omega⟩
    | 5, _ => exact ⟨8, rfl, by omega⟩
    | 6, _ => exact ⟨12, rfl, by omega⟩
    | 7, _ => exact ⟨3, rfl, by omega⟩
    | 8, _ => exact ⟨5, rfl, by omega⟩
    | 9, _ => exact ⟨399, rfl, by omega⟩
  walk_at "p"
  refine lc_draw (n := m) (fun _ y => ∃ p, y = stpD p ∧ StOk n p) 3 (by rw [rgD_len]; omega) (by omega) (fun i d c' K hd hc' hK => ?_) fun acc c1 hl hp hc1 => ?_
  · walk_at "p"
    exact ⟨n, rfl, by have := (rg_at hd).1; omega, h1, h5, fun p k2 hp hk2 => hK _ _ ⟨p, rfl, hp⟩ hk2⟩
  · obtain ⟨ps, rfl, hps⟩ := stps_of fun e he => by
      obtain ⟨i, hi, rfl⟩ := List.getElem_of_mem he
      exact hp i _ (List.getElem?_eq_getElem hi)
    rw [List.length_map] at hl
    walk_at "p"
    exact q ps _ hps (by omega) (by omega)
local macro_rules | `(tactic| walk_at "pc") => `(tactic| (with_reducible refine f__law_passing ?_))

end
end K04
set_option Elab.async false
set_option linter.all false
set_option maxRecDepth 100000
set_option maxHeartbeats 2000000
namespace K04
open PySem PySem.Spec PyProof.Rows L2 SL Pu
local macro_rules | `(tactic| walk_at "ps") => `(tactic| simp -implicitDefEqProofs only [↓cnd_t, ↓cnd_f, ↓fV_eq, ↓fB_eq, ↓fC_eq, ↓fO2_eq, ↓fO1_eq, ↓fNotV_eq, ↓fAndV_eq, ↓fOrV_eq, ↓fChain_eq, ↓fIf_eq, ↓fTv_eq, ↓fTand_eq, ↓fTor_eq, ↓fTnot_eq, ↓fYes_eq, ↓fNil_eq, ↓fCons_eq, ↓fTup_eq, ↓fLst_eq, ↓fDNew_eq, ↓fCB_eq, ↓fM1_eq, ↓fNoPart_eq, ↓fPart_eq, ↓fSl_eq, ↓fCall_eq, ↓fIsi_eq, ↓fLc_eq, ↓fIter_eq, ↓fRg1_eq, ↓fRg2_eq, ↓fGiv_eq, ↓gN_eq, ↓gsNil_eq, ↓gsCons_eq, ↓gT_eq, ↓gL_eq, ↓gTx_eq, ↓gSet_eq, ↓fNext_eq, ↓fBrk_eq, ↓fCont_eq, ↓fAsg_eq, ↓fOwn_eq, ↓fDrop_eq, ↓fApp_eq, ↓fIfS_eq, ↓fRet_eq, ↓fRetN_eq, ↓fPar_eq, ↓fPar3_eq, ↓fParO_eq, ↓fAug_eq, ↓shr_eq, ↓fShare_eq, ↓fRz_eq, ↓fFor_eq, ↓fEnS_eq, ↓fLrg1_eq, ↓fLrg2_eq, ↓gIxt_0, ↓gIxt_1, ↓gIxt_2, ↓gIx_0, ↓gIx_1, ↓gIx_2, ↓gStr_i, ↓gEqM_non, ↓gEqM_bl, ↓gEqM_int, ↓gEqM_str, ↓gEqM_lst, ↓gEqM_tup, ↓gEqM_dic, ↓gNeM_non, ↓gNeM_bl, ↓gNeM_int, ↓gNeM_str, ↓gNeM_lst, ↓gNeM_tup, ↓gNeM_dic, ↓gIsB_bb, ↓gIsNB_bb, ↓fIterO_eq, ↓fIsE_eq, ↓fLc2_eq, ↓fRetO_eq, ↓fRetOv_eq, ↓wpO_some, ↓wpO_ite, ↓gEq2_ii, ↓gEq2_ss, ↓gNe2_ii, ↓gNe2_ss, ↓gI_ii, gSubI, gLt, gLe, gGt, gGe, ↓rg1_eq, ↓rg2_eq, ↓one1_eq, ↓par2_eq, ↓par3_eq, ↓gEq2_ii, ↓gEq2_ss, ↓gNe2_ii, ↓gNe2_ss, ↓gAdd_ii, ↓gAdd_ss, ↓gAdd_tt, ↓gAdd_ll, ↓gAddL_ll, ↓gLen_s, ↓gLen_l, ↓gLen_t, ↓gSl_s, ↓gSl_l, ↓gSl_t, ↓gSlL_l, ↓gMul_ii, ↓gMul_si, ↓gMul_ti, ↓gMul_li, ↓gRep_li, ↓gMod_ii, ↓gDiv_ii, ↓gPow_ii, ↓gRev_s, ↓gRev_t, ↓gRevL_l, ↓gNeg_i, ↓gIs_n, ↓gIsN_n, isN_non, isN_bl, isN_int, isN_str, isN_lst, isN_tup, isN_dic, isN_obj, ↓gAbs_i, ↓gInt_i, ↓gInt_b, ↓gMin2_i, ↓gMax2_i, ↓gMin3_i, ↓gIn_s, ↓gIn_l, ↓gIn_t, ↓gNotIn_l, ↓gNotIn_t, ↓gEq_of, ↓gNe_of, ↓gEq2_non_non, ↓gNe2_non_non, ↓gEq2_non_bl, ↓gNe2_non_bl, ↓gEq2_non_int, ↓gNe2_non_int, ↓gEq2_non_str, ↓gNe2_non_str, ↓gEq2_non_lst, ↓gNe2_non_lst, ↓gEq2_non_tup, ↓gNe2_non_tup, ↓gEq2_bl_non, ↓gNe2_bl_non, ↓gEq2_bl_bl, ↓gNe2_bl_bl, ↓gEq2_bl_int, ↓gNe2_bl_int, ↓gEq2_bl_str, ↓gNe2_bl_str, ↓gEq2_bl_lst, ↓gNe2_bl_lst, ↓gEq2_bl_tup, ↓gNe2_bl_tup, ↓gEq2_int_non, ↓gNe2_int_non, ↓gEq2_int_bl, ↓gNe2_int_bl, ↓gEq2_int_str, ↓gNe2_int_str, ↓gEq2_int_lst, ↓gNe2_int_lst, ↓gEq2_int_tup, ↓gNe2_int_tup, ↓gEq2_str_non, ↓gNe2_str_non, ↓gEq2_str_bl, ↓gNe2_str_bl, ↓gEq2_str_int, ↓gNe2_str_int, ↓gEq2_str_lst, ↓gNe2_str_lst, ↓gEq2_str_tup, ↓gNe2_str_tup, ↓gEq2_lst_non, ↓gNe2_lst_non, ↓gEq2_lst_bl, ↓gNe2_lst_bl, ↓gEq2_lst_int, ↓gNe2_lst_int, ↓gEq2_lst_str, ↓gNe2_lst_str, ↓gEq2_lst_lst, ↓gNe2_lst_lst, ↓gEq2_lst_tup, ↓gNe2_lst_tup, ↓gEq2_tup_non, ↓gNe2_tup_non, ↓gEq2_tup_bl, ↓gNe2_tup_bl, ↓gEq2_tup_int, ↓gNe2_tup_int, ↓gEq2_tup_str, ↓gNe2_tup_str, ↓gEq2_tup_lst, ↓gNe2_tup_lst, ↓gEq2_tup_tup, ↓gNe2_tup_tup, nk_non, nk_lsA, isK_lsA_int, isK_lsA_bool, isK_lsA_str, isK_lsA_list, isK_lsA_tuple, isK_non_int, isK_non_bool, isK_non_str, isK_non_list, isK_non_tuple, nk_bl, isK_bl_int, isK_bl_bool, isK_bl_str, isK_bl_list, isK_bl_tuple, nk_int, isK_int_int, isK_int_bool, isK_int_str, isK_int_list, isK_int_tuple, nk_str, isK_str_int, isK_str_bool, isK_str_str, isK_str_list, isK_str_tuple, nk_lst, isK_lst_int, isK_lst_bool, isK_lst_str, isK_lst_list, isK_lst_tuple, nk_tup, isK_tup_int, isK_tup_bool, isK_tup_str, isK_tup_list, isK_tup_tuple, nk_dic, isK_dic_int, isK_dic_bool, isK_dic_str, isK_dic_list, isK_dic_tuple, cutL_to, cutL_to1, cutL_from1, cutL_f1, cutL_t1, cutL_t2, Int.add_zero, Int.zero_add, Int.cast_ofNat_Int, Int.reduceEq, Int.reduceLT, Int.reduceLE, Int.reduceAdd, Int.reduceSub, decide_true, decide_false, cutL_from, cutL_no, bD_b, iD_i, isSt_s, lD_l, tDs_t, sDs_s, ↓eqD_int_int, ↓eqD_str_str, ↓eqD_tup_tup, ↓eqD_lst_lst, ↓eqD_bl_bl, ↓eqDs_cc, ↓eqDs_nn, ↓eqDs_nc, ↓eqDs_cn, ↓eqD_non_non, ↓eqD_non_bl, ↓eqD_non_int, ↓eqD_non_str, ↓eqD_non_lst, ↓eqD_non_tup, ↓eqD_bl_non, ↓eqD_bl_str, ↓eqD_bl_lst, ↓eqD_bl_tup, ↓eqD_int_non, ↓eqD_int_str, ↓eqD_int_lst, ↓eqD_int_tup, ↓eqD_str_non, ↓eqD_str_bl, ↓eqD_str_int, ↓eqD_str_lst, ↓eqD_str_tup, ↓eqD_lst_non, ↓eqD_lst_bl, ↓eqD_lst_int, ↓eqD_lst_str, ↓eqD_lst_tup, ↓eqD_tup_non, ↓eqD_tup_bl, ↓eqD_tup_int, ↓eqD_tup_str, ↓eqD_tup_lst, ↓inD_nil, ↓inD_cons, Bool.and_true, Bool.true_and, Bool.and_false, Bool.false_and, Bool.or_false, Bool.or_true, Bool.false_or, Bool.true_or, setP, endsP, endsN, startP, pw, List.getElem?_cons_zero, List.getElem?_cons_succ, List.set_cons_zero, List.set_cons_succ, List.map_cons, List.map_nil, List.length_cons, List.length_nil, List.replicate_succ, List.replicate_zero, List.append_nil, List.cons_append, List.nil_append, Nat.reduceAdd, Nat.reduceSub, Nat.zero_add, reduceIte, Bool.false_eq_true, Bool.not_true, Bool.not_false, true_and, and_true, if_true, if_false])
local macro_rules | `(tactic| walk_at "pz") => `(tactic| first
  | omega
  | decide
  | (simp only [List.length_cons, List.length_nil, List.length_append, List.length_map, List.length_take, List.length_drop, List.length_reverse, List.length_replicate, List.length_range, CMul]; first | done | omega)
  | rfl)
local macro_rules | `(tactic| walk_at "p1") => `(tactic| first
  | ((with_reducible refine p_seq ?_); intro N hN)
  | ((with_reducible refine p_back (M := ?mm) ?h ?_); (case h => with_reducible assumption))
  | walk_at "ps"
  | ((with_reducible refine wpO_of (z := ?zz) (gIx_n (v := ?zz) ?h) ?_); (case h => with_reducible assumption))
  | ((with_reducible refine wpO_of (z := ?zz) (gIxt_n (v := ?zz) ?h) ?_); (case h => with_reducible assumption))
  | ((with_reducible refine wpO_of (z := ?zz) (gIx_a (v := ?zz) ?h) ?_); (case h => with_reducible assumption))
  | ((with_reducible refine wpO_of (z := ?zz) (gIxt_a (v := ?zz) ?h) ?_); (case h => with_reducible assumption))
  | ((with_reducible refine (Eq.mpr (gIxs_a (ch := ?cc) ?h) ?q)); (case h => with_reducible assumption))
  | ((with_reducible refine wpO_of (z := ?zz) ?h ?_); (case h => exact rfl))
  | ((with_reducible refine And.intro ?h ?_); (case h => walk_at "pz"))
  | walk_at "pc")
local macro_rules | `(tactic| walk_at "p") => `(tactic| repeat walk_at "p1")
local macro_rules | `(tactic| walk_at "odd") => `(tactic| ((try simp only [List.take_succ_cons, List.take_zero]); refine ⟨by simp [kD'], by simp [tupD], by first | rfl | (simp [tupD, okE_tup, okE_lst, okE_str, okE_int, okE_bl, okE_non, *]; done), by first | rfl | (simp [okS, okE_tup, okE_lst, okE_str, okE_int, okE_bl, okE_non, *]; done), by first | rfl | (simp [okW, *]; done), ?_⟩; (simp only [rl_tup, rl_lst, rl_str, rl_non, rl_bl, rl_dic0, rls_nil, rls_cons, List.length_cons, List.length_nil, *]; omega)))
local macro_rules | `(tactic| walk_at "odds") => `(tactic| ((repeat (refine List.forall_mem_cons.mpr ⟨by walk_at "odd", ?_⟩)); (try exact fun _ h => absurd h (List.not_mem_nil))))

section
local macro_rules | `(tactic| walk_at "pc") => `(tactic| first | (with_reducible refine f_is_integer ?_) | (with_reducible refine f_is_index ?_) | (with_reducible refine f_is_signs ?_) | (with_reducible refine f_is_sign ?_) | (with_reducible refine f_check_signs ?_) | (with_reducible refine f_is_kind ?_) | (with_reducible refine f_is_same ?_) | (with_reducible refine f_is_passing ?_) | (with_reducible refine f_check_passing ?_) | (with_reducible refine f_sent ?_) | (with_reducible refine f_came ?_) | (with_reducible refine f_errors_in ?_) | (with_reducible refine f__law_is_kind ?_) | (with_reducible refine f__law_is_passing ?_) | (with_reducible refine f__law_step ?_) | (with_reducible refine f__law_passing ?_))
theorem okS_of {d : D} (h : okE 60 d = true) : okS d = true := by
  cases d with
  | dic _ => rfl
  | _ => exact h
theorem odd_st {d : D} (h : OddD d) : stS d := by
  have ok := fun e he => List.all_eq_true.mp h.e e he
  exact ⟨h.k, h.l, fun e he => ⟨kd_okE (ok e he), okS_of (okE_up (ok e he) (by omega))⟩, fun k r e _ _ => ok k (by rw [e]; simp)⟩
theorem f__law_odd {ds : List D} {c : Nat} {Q : PQ} {X : PXc} (h : ∃ (n : Nat) (p : Stp), ds = [.box, stpD p, .int (n : Nat)] ∧ c ≤ 10000000 ∧ n ≤ 5 ∧ StOk 5 p ∧ ∀ d k, OddD d → k ≤ c + 2 → Q d k) : F__law_odd ds c Q X := by
  obtain ⟨n, p, rfl, hc, hn, hp, q⟩ := h
  refine ⟨rfl, ?_⟩
  unfold B__law_odd
  have e5 : rl (.int 5) = 41 := rl_int (by decide)
  have e4 : rl (.int 4) = 41 := rl_int (by decide)
  have e0 : rl (.int 0) = 41 := rl_int (by decide)
  have em : rl (.int (-1)) = 41 := rl_int (by decide)
  have eT : rl (.int (10 ^ Int.toNat 18)) = 41 := rl_int (by decide)
  have en : rl (.int (n : Int)) = 41 := rl_nat (by omega)
  have en1 : rl (.int ((n : Int) - 1)) = 41 := rl_int (by
    have : ((n : Int) - 1).natAbs < 100 := by omega
    exact Nat.lt_trans this (by decide))
  obtain ⟨k, a, t, es, ha, hk, zk, sh⟩ : ∃ (k : List Nat) (a : Nat) (t : List D), stpD p = .tup (.str k :: .int (a : Int) :: t) ∧ a < 5 ∧ (k.all fun c => decide (c < 1114112)) = true ∧ k.length ≤ 10 ∧ (t = [] ∨ ∃ b : Nat, t = [.int (b : Int)] ∧ b < 5) := by
    cases p with
    | same a => exact ⟨wSame, a, [], rfl, hp, by decide, by decide, .inl rfl⟩
    | lost a => exact ⟨wLost, a, [], rfl, hp, by decide, by decide, .inl rfl⟩
    | put a => exact ⟨wPut, a, [], rfl, hp, by decide, by decide, .inl rfl⟩
    | turn a b => exact ⟨wTurned, a, [.int b], rfl, hp.1, by decide, by decide, .inr ⟨b, rfl, hp.2.1⟩⟩
  rw [es]
  have ea : rl (.int (a : Int)) = 41 := rl_nat (by omega)
  have ea1 : rl (.int ((a : Int) + 1)) = 41 := rl_nat (a := a + 1) (by omega)
  have ea2 : rl (.int (((a : Int) + 1) % 5)) = 41 := rl_int (by
    have : (((a : Int) + 1) % 5).natAbs < 100 := by omega
    exact Nat.lt_trans this (by decide))
  obtain ⟨s1, s2⟩ := strI_ok ha
  walk_at "p"
  refine tk_of (N := 4) rfl (by omega) fun way hw => ?_
  walk_at "p"
  have key : ∀ (xs : List D) (j : Nat), j < xs.length → (∀ e ∈ xs, OddD e) → wpO (gIx (.lst xs) (.int (j : Nat))) fun z => Q z (c + 1 + 1) := fun xs j hj hx =>
    pick_lst OddD hj hx fun d hd => q d _ hd (by omega)
  refine cnd_of (fun h => ?_) (fun h => ?_)
  · rcases sh with rfl | ⟨b, rfl, hb⟩
    · walk_at "p"
      refine tk_of (N := 12) rfl (by omega) fun j hj => key _ _ (by simpa using hj) ?_
      walk_at "odds"
    · have eb : rl (.int (b : Int)) = 41 := rl_nat (by omega)
      walk_at "p"
      refine tk_of (N := 12) rfl (by omega) fun j hj => key _ _ (by simpa using hj) ?_
      walk_at "odds"
  refine cnd_of (fun h => ?_) (fun h => ?_)
  · walk_at "p"
    refine ⟨Pu.log2_small (Nat.lt_trans (show (a : Int).natAbs < 5 by omega) (by decide +kernel)), ?_⟩
    walk_at "p"
    refine tk_of (N := 11) rfl (by omega) fun j hj => key _ _ (by simpa using hj) ?_
    walk_at "odds"
  refine cnd_of (fun h => ?_) (fun h => ?_)
  · walk_at "p"
    refine tk_of (N := 14) rfl (by omega) fun j hj => key _ _ (by simpa using hj) ?_
    walk_at "odds"
  · walk_at "p"
    refine tk_of (N := 15) rfl (by omega) fun j hj => key _ _ (by simpa using hj) ?_
    walk_at "odds"
end
end K04
set_option Elab.async false
set_option linter.all false
set_option maxRecDepth 100000
set_option maxHeartbeats 2000000
namespace K04
open PySem PySem.Spec PyProof.Rows L2 SL Pu
local macro_rules | `(tactic| walk_at "ps") => `(tactic| simp -implicitDefEqProofs only [↓cnd_t, ↓cnd_f, ↓fV_eq, ↓fB_eq, ↓fC_eq, ↓fO2_eq, ↓fO1_eq, ↓fNotV_eq, ↓fAndV_eq, ↓fOrV_eq, ↓fChain_eq, ↓fIf_eq, ↓fTv_eq, ↓fTand_eq, ↓fTor_eq, ↓fTnot_eq, ↓fYes_eq, ↓fNil_eq, ↓fCons_eq, ↓fTup_eq, ↓fLst_eq, ↓fDNew_eq, ↓fCB_eq, ↓fM1_eq, ↓fNoPart_eq, ↓fPart_eq, ↓fSl_eq, ↓fCall_eq, ↓fIsi_eq, ↓fLc_eq, ↓fIter_eq, ↓fRg1_eq, ↓fRg2_eq, ↓fGiv_eq, ↓gN_eq, ↓gsNil_eq, ↓gsCons_eq, ↓gT_eq, ↓gL_eq, ↓gTx_eq, ↓gSet_eq, ↓fNext_eq, ↓fBrk_eq, ↓fCont_eq, ↓fAsg_eq, ↓fOwn_eq, ↓fDrop_eq, ↓fApp_eq, ↓fIfS_eq, ↓fRet_eq, ↓fRetN_eq, ↓fPar_eq, ↓fPar3_eq, ↓fParO_eq, ↓fAug_eq, ↓shr_eq, ↓fShare_eq, ↓fRz_eq, ↓fFor_eq, ↓fEnS_eq, ↓fLrg1_eq, ↓fLrg2_eq, ↓gIxt_0, ↓gIxt_1, ↓gIxt_2, ↓gIx_0, ↓gIx_1, ↓gIx_2, ↓gStr_i, ↓gEqM_non, ↓gEqM_bl, ↓gEqM_int, ↓gEqM_str, ↓gEqM_lst, ↓gEqM_tup, ↓gEqM_dic, ↓gNeM_non, ↓gNeM_bl, ↓gNeM_int, ↓gNeM_str, ↓gNeM_lst, ↓gNeM_tup, ↓gNeM_dic, ↓gIsB_bb, ↓gIsNB_bb, ↓fIterO_eq, ↓fIsE_eq, ↓fLc2_eq, ↓fRetO_eq, ↓fRetOv_eq, ↓wpO_some, ↓wpO_ite, ↓gEq2_ii, ↓gEq2_ss, ↓gNe2_ii, ↓gNe2_ss, ↓gI_ii, gSubI, gLt, gLe, gGt, gGe, ↓rg1_eq, ↓rg2_eq, ↓one1_eq, ↓par2_eq, ↓par3_eq, ↓gEq2_ii, ↓gEq2_ss, ↓gNe2_ii, ↓gNe2_ss, ↓gAdd_ii, ↓gAdd_ss, ↓gAdd_tt, ↓gAdd_ll, ↓gAddL_ll, ↓gLen_s, ↓gLen_l, ↓gLen_t, ↓gSl_s, ↓gSl_l, ↓gSl_t, ↓gSlL_l, ↓gMul_ii, ↓gMul_si, ↓gMul_ti, ↓gMul_li, ↓gRep_li, ↓gMod_ii, ↓gDiv_ii, ↓gPow_ii, ↓gRev_s, ↓gRev_t, ↓gRevL_l, ↓gNeg_i, ↓gIs_n, ↓gIsN_n, isN_non, isN_bl, isN_int, isN_str, isN_lst, isN_tup, isN_dic, isN_obj, ↓gAbs_i, ↓gInt_i, ↓gInt_b, ↓gMin2_i, ↓gMax2_i, ↓gMin3_i, ↓gIn_s, ↓gIn_l, ↓gIn_t, ↓gNotIn_l, ↓gNotIn_t, ↓gEq_of, ↓gNe_of, ↓gEq2_non_non, ↓gNe2_non_non, ↓gEq2_non_bl, ↓gNe2_non_bl, ↓gEq2_non_int, ↓gNe2_non_int, ↓gEq2_non_str, ↓gNe2_non_str, ↓gEq2_non_lst, ↓gNe2_non_lst, ↓gEq2_non_tup, ↓gNe2_non_tup, ↓gEq2_bl_non, ↓gNe2_bl_non, ↓gEq2_bl_bl, ↓gNe2_bl_bl, ↓gEq2_bl_int, ↓gNe2_bl_int, ↓gEq2_bl_str, ↓gNe2_bl_str, ↓gEq2_bl_lst, ↓gNe2_bl_lst, ↓gEq2_bl_tup, ↓gNe2_bl_tup, ↓gEq2_int_non, ↓gNe2_int_non, ↓gEq2_int_bl, ↓gNe2_int_bl, ↓gEq2_int_str, ↓gNe2_int_str, ↓gEq2_int_lst, ↓gNe2_int_lst, ↓gEq2_int_tup, ↓gNe2_int_tup, ↓gEq2_str_non, ↓gNe2_str_non, ↓gEq2_str_bl, ↓gNe2_str_bl, ↓gEq2_str_int, ↓gNe2_str_int, ↓gEq2_str_lst, ↓gNe2_str_lst, ↓gEq2_str_tup, ↓gNe2_str_tup, ↓gEq2_lst_non, ↓gNe2_lst_non, ↓gEq2_lst_bl, ↓gNe2_lst_bl, ↓gEq2_lst_int, ↓gNe2_lst_int, ↓gEq2_lst_str, ↓gNe2_lst_str, ↓gEq2_lst_lst, ↓gNe2_lst_lst, ↓gEq2_lst_tup, ↓gNe2_lst_tup, ↓gEq2_tup_non, ↓gNe2_tup_non, ↓gEq2_tup_bl, ↓gNe2_tup_bl, ↓gEq2_tup_int, ↓gNe2_tup_int, ↓gEq2_tup_str, ↓gNe2_tup_str, ↓gEq2_tup_lst, ↓gNe2_tup_lst, ↓gEq2_tup_tup, ↓gNe2_tup_tup, nk_non, nk_lsA, isK_lsA_int, isK_lsA_bool, isK_lsA_str, isK_lsA_list, isK_lsA_tuple, isK_non_int, isK_non_bool, isK_non_str, isK_non_list, isK_non_tuple, nk_bl, isK_bl_int, isK_bl_bool, isK_bl_str, isK_bl_list, isK_bl_tuple, nk_int, isK_int_int, isK_int_bool, isK_int_str, isK_int_list, isK_int_tuple, nk_str, isK_str_int, isK_str_bool, isK_str_str, isK_str_list, isK_str_tuple, nk_lst, isK_lst_int, isK_lst_bool, isK_lst_str, isK_lst_list, isK_lst_tuple, nk_tup, isK_tup_int, isK_tup_bool, isK_tup_str, isK_tup_list, isK_tup_tuple, nk_dic, isK_dic_int, isK_dic_bool, isK_dic_str, isK_dic_list, isK_dic_tuple, cutL_to, cutL_to1, cutL_from1, cutL_f1, cutL_t1, cutL_t2, Int.add_zero, Int.zero_add, Int.cast_ofNat_Int, Int.reduceEq, Int.reduceLT, Int.reduceLE, Int.reduceAdd, Int.reduceSub, decide_true, decide_false, cutL_from, cutL_no, bD_b, iD_i, isSt_s, lD_l, tDs_t, sDs_s, ↓eqD_int_int, ↓eqD_str_str, ↓eqD_tup_tup, ↓eqD_lst_lst, ↓eqD_bl_bl, ↓eqDs_cc, ↓eqDs_nn, ↓eqDs_nc, ↓eqDs_cn, ↓eqD_non_non, ↓eqD_non_bl, ↓eqD_non_int, ↓eqD_non_str, ↓eqD_non_lst, ↓eqD_non_tup, ↓eqD_bl_non, ↓eqD_bl_str, ↓eqD_bl_lst, ↓eqD_bl_tup, ↓eqD_int_non, ↓eqD_int_str, ↓eqD_int_lst, ↓eqD_int_tup, ↓eqD_str_non, ↓eqD_str_bl, ↓eqD_str_int, ↓eqD_str_lst, ↓eqD_str_tup, ↓eqD_lst_non, ↓eqD_lst_bl, ↓eqD_lst_int, ↓eqD_lst_str, ↓eqD_lst_tup, ↓eqD_tup_non, ↓eqD_tup_bl, ↓eqD_tup_int, ↓eqD_tup_str, ↓eqD_tup_lst, ↓inD_nil, ↓inD_cons, Bool.and_true, Bool.true_and, Bool.and_false, Bool.false_and, Bool.or_false, Bool.or_true, Bool.false_or, Bool.true_or, setP, endsP, endsN, startP, pw, List.getElem?_cons_zero, List.getElem?_cons_succ, List.set_cons_zero, List.set_cons_succ, List.map_cons, List.map_nil, List.length_cons, List.length_nil, List.replicate_succ, List.replicate_zero, List.append_nil, List.cons_append, List.nil_append, Nat.reduceAdd, Nat.reduceSub, Nat.zero_add, reduceIte, Bool.false_eq_true, Bool.not_true, Bool.not_false, true_and, and_true, if_true, if_false])
local macro_rules | `(tactic| walk_at "pz") => `(tactic| first
  | omega
  | decide
  | (simp only [List.length_cons, List.length_nil, List.length_append, List.length_map, List.length_take, List.length_drop, List.length_reverse, List.length_replicate, List.length_range, CMul]; first | done | omega)
  | rfl)
local macro_rules | `(tactic| walk_at "p1") => `(tactic| first
  | ((with_reducible refine p_seq ?_); intro N hN)
  | ((with_reducible refine p_back (M := ?mm) ?h ?_); (case h => with_reducible assumption))
  | walk_at "ps"
  | ((with_reducible refine wpO_of (z := ?zz) (gIx_n (v := ?zz) ?h) ?_); (case h => with_reducible assumption))
  | ((with_reducible refine wpO_of (z := ?zz) (gIxt_n (v := ?zz) ?h) ?_); (case h => with_reducible assumption))
  | ((with_reducible refine wpO_of (z := ?zz) (gIx_a (v := ?zz) ?h) ?_); (case h => with_reducible assumption))
  | ((with_reducible refine wpO_of (z := ?zz) (gIxt_a (v := ?zz) ?h) ?_); (case h => with_reducible assumption))
  | ((with_reducible refine (Eq.mpr (gIxs_a (ch := ?cc) ?h) ?q)); (case h => with_reducible assumption))
  | ((with_reducible refine wpO_of (z := ?zz) ?h ?_); (case h => exact rfl))
  | ((with_reducible refine And.intro ?h ?_); (case h => walk_at "pz"))
  | walk_at "pc")
local macro_rules | `(tactic| walk_at "p") => `(tactic| repeat walk_at "p1")
local macro_rules | `(tactic| walk_at "odd") => `(tactic| ((try simp only [List.take_succ_cons, List.take_zero]); refine ⟨by simp [kD'], by simp [tupD], by first | rfl | (simp [tupD, okE_tup, okE_lst, okE_str, okE_int, okE_bl, okE_non, *]; done), by first | rfl | (simp [okS, okE_tup, okE_lst, okE_str, okE_int, okE_bl, okE_non, *]; done), by first | rfl | (simp [okW, *]; done), ?_⟩; (simp only [rl_tup, rl_lst, rl_str, rl_non, rl_bl, rl_dic0, rls_nil, rls_cons, List.length_cons, List.length_nil, *]; omega)))
local macro_rules | `(tactic| walk_at "odds") => `(tactic| ((repeat (refine List.forall_mem_cons.mpr ⟨by walk_at "odd", ?_⟩)); (try exact fun _ h => absurd h (List.not_mem_nil))))

section
local macro_rules | `(tactic| walk_at "pc") => `(tactic| first | (with_reducible refine f_is_integer ?_) | (with_reducible refine f_is_index ?_) | (with_reducible refine f_is_signs ?_) | (with_reducible refine f_is_sign ?_) | (with_reducible refine f_check_signs ?_) | (with_reducible refine f_is_kind ?_) | (with_reducible refine f_is_same ?_) | (with_reducible refine f_is_passing ?_) | (with_reducible refine f_check_passing ?_) | (with_reducible refine f_sent ?_) | (with_reducible refine f_came ?_) | (with_reducible refine f_errors_in ?_) | (with_reducible refine f__law_is_kind ?_) | (with_reducible refine f__law_is_passing ?_) | (with_reducible refine f__law_step ?_) | (with_reducible refine f__law_passing ?_) | (with_reducible refine f__law_odd ?_))
theorem stp_odd {p : Stp} (h : StOk 5 p) : OddD (stpD p) := by
  cases p with
  | same a =>
    have ea : rl (.int (a : Int)) = 41 := rl_nat (by have : a < 5 := h; omega)
    unfold stpD wSame
    walk_at "odd"
  | lost a =>
    have ea : rl (.int (a : Int)) = 41 := rl_nat (by have : a < 5 := h; omega)
    unfold stpD wLost
    walk_at "odd"
  | put a =>
    have ea : rl (.int (a : Int)) = 41 := rl_nat (by have : a < 5 := h; omega)
    unfold stpD wPut
    walk_at "odd"
  | turn a b =>
    have ea : rl (.int (a : Int)) = 41 := rl_nat (by have : a < 5 := h.1; omega)
    have eb : rl (.int (b : Int)) = 41 := rl_nat (by have : b < 5 := h.2.1; omega)
    unfold stpD wTurned
    walk_at "odd"
theorem StOk.up {n : Nat} {p : Stp} (h : StOk n p) (z : n ≤ 5) : StOk 5 p := by
  cases p with
  | same a => exact Nat.lt_of_lt_of_le h z
  | lost a => exact Nat.lt_of_lt_of_le h z
  | put a => exact Nat.lt_of_lt_of_le h z
  | turn a b => exact ⟨Nat.lt_of_lt_of_le h.1 z, Nat.lt_of_lt_of_le h.2.1 z, h.2.2⟩
/-- a value that may be asked for as a passing, and written out -/
structure NearD (d : D) : Prop where
  s : paS d
  w : okW 45 d = true
  z : rl d ≤ 2000000
  i : ∀ xs, d = .lst xs → xs.length ≤ 900
  na : ∀ a xs, d ≠ .lsA a xs
  l : (tupD d).length ≤ 900
  st : stS d
theorem near_tup {xs : List D} (hl : xs.length ≤ 900) (h : ∀ e ∈ xs, OddD e) (hh : ∀ k r, xs = k :: r → r ≠ [] → r.all isNb = true → okE 40 k = true) : NearD (.tup xs) := by
  refine ⟨⟨by simp [kD'], show xs.length ≤ 100000 by omega, fun e he => odd_st (h e he)⟩, List.all_eq_true.mpr fun e he => okW_up (h e he).w (show 40 ≤ 44 by omega), ?_, fun _ e => (by cases e), fun _ _ e => (by cases e), hl, ⟨by simp [kD'], show xs.length ≤ 100000 by omega, fun e he => ⟨(h e he).k, (h e he).s⟩, hh⟩⟩
  rw [rl_tup]
  have := rls_le (n := 2000) fun e he => (h e he).z
  have : xs.length * 2002 ≤ 900 * 2002 := Nat.mul_le_mul_right _ hl
  omega
theorem near_lst {xs : List D} (hl : xs.length ≤ 900) (h : ∀ e ∈ xs, OddD e) : NearD (.lst xs) := by
  refine ⟨⟨by simp [kD'], by simp [tupD], by simp [tupD]⟩, List.all_eq_true.mpr fun e he => okW_up (h e he).w (show 40 ≤ 44 by omega), ?_, fun ys e => (by cases e; exact hl), fun _ _ e => (by cases e), by simp [tupD], ⟨by simp [kD'], by simp [tupD], by simp [tupD], by simp [tupD]⟩⟩
  rw [rl_lst]
  have := rls_le (n := 2000) fun e he => (h e he).z
  have : xs.length * 2002 ≤ 900 * 2002 := Nat.mul_le_mul_right _ hl
  omega
theorem near_flat {d : D} (h : OddD d) (ht : tupD d = []) (hl : ∀ xs, d ≠ .lst xs) (ha : ∀ a xs, d ≠ .lsA a xs := by intro _ _ e; cases e) : NearD d := ⟨⟨h.k, by rw [ht]; simp, by rw [ht]; simp⟩, okW_up h.w (by omega), by have := h.z; omega, fun xs e => absurd e (hl xs), ha, by rw [ht]; simp, odd_st h⟩
theorem f__law_near {ds : List D} {c : Nat} {Q : PQ} {X : PXc} (h : ∃ (n : Nat) (ps : List Stp), ds = [.box, .tup (ps.map stpD), .int (n : Nat)] ∧ c ≤ 9000000 ∧ n ≤ 5 ∧ ps.length ≤ 400 ∧ (∀ p ∈ ps, StOk 5 p) ∧ ∀ d k, NearD d → k ≤ c + 4 → Q d k) : F__law_near ds c Q X := by
  obtain ⟨n, ps, rfl, hc, hn, hz, hp, q⟩ := h
  refine ⟨rfl, ?_⟩
  unfold B__law_near
  have ho : ∀ e ∈ ps.map stpD, OddD e := fun e he => by
    obtain ⟨p, hp', rfl⟩ := List.mem_map.mp he
    exact stp_odd (hp p hp')
  have hl : (ps.map stpD).length = ps.length := List.length_map _
  have e0 : rl (.int 0) = 41 := rl_int (by decide)
  have e1 : rl (.int 1) = 41 := rl_int (by decide)
  walk_at "p"
  refine tk_of (N := 7) rfl (by omega) fun way hw => ?_
  walk_at "p"
  refine tk_of (N := ps.length + 1) (by rw [hl]; rfl) (by omega) fun k hk => ?_
  walk_at "p"
  refine cnd_of (fun h => ?_) (fun h => ?_)
  · walk_at "p"
    exact q _ _ (near_lst (by omega) ho) (by omega)
  walk_at "p"
  refine cnd_of (fun h => ?_) (fun h => ?_)
  · walk_at "p"
    refine tk_of (N := 13) rfl (by omega) fun j hj => pick_lst NearD (by simpa using hj) ?_ fun d hd => q d _ hd (by omega)
    refine List.forall_mem_cons.mpr ⟨near_flat (by walk_at "odd") rfl (fun _ e => by cases e), ?_⟩
    refine List.forall_mem_cons.mpr ⟨near_flat (by walk_at "odd") rfl (fun _ e => by cases e), ?_⟩
    refine List.forall_mem_cons.mpr ⟨near_flat (by walk_at "odd") rfl (fun _ e => by cases e), ?_⟩
    refine List.forall_mem_cons.mpr ⟨near_flat (by walk_at "odd") rfl (fun _ e => by cases e), ?_⟩
    refine List.forall_mem_cons.mpr ⟨near_flat (by walk_at "odd") rfl (fun _ e => by cases e), ?_⟩
    refine List.forall_mem_cons.mpr ⟨near_lst (by decide) (by walk_at "odds"), ?_⟩
    refine List.forall_mem_cons.mpr ⟨near_tup (by decide) (by walk_at "odds") (fun k r e _ _ => by cases e; rfl), ?_⟩
    refine List.forall_mem_cons.mpr ⟨near_tup (by decide) (by walk_at "odds") (fun k r e _ _ => by cases e; rfl), ?_⟩
    refine List.forall_mem_cons.mpr ⟨near_tup (by decide) (by walk_at "odds") (fun k r e _ _ => by cases e; rfl), ?_⟩
    refine List.forall_mem_cons.mpr ⟨near_tup (by decide) (by walk_at "odds") (fun k r e _ _ => by cases e; rfl), ?_⟩
    refine List.forall_mem_cons.mpr ⟨near_lst (by decide) (by walk_at "odds"), ?_⟩
    refine List.forall_mem_cons.mpr ⟨near_flat (by walk_at "odd") rfl (fun _ e => by cases e), ?_⟩
    refine List.forall_mem_cons.mpr ⟨near_tup (by decide) (by walk_at "odds") (fun k r e _ _ => by cases e; rfl), ?_⟩
    exact fun _ h => absurd h List.not_mem_nil
  walk_at "p"
  have fin : ∀ (d : D) (k1 : Nat) (o : Option Int), OddD d → k1 ≤ c + 1 + 1 + 2 → 1 ≤ 16777216 ∧ (List.take k (List.map stpD ps)).length + 1 ≤ 16777216 ∧
      (List.take k (List.map stpD ps) ++ [d]).length + (cutL (List.map stpD ps) o none).length ≤ 16777216 ∧ Q (.tup (List.take k (List.map stpD ps) ++ [d] ++ cutL (List.map stpD ps) o none)) k1 := fun d k1 o hd hk1 => by
    have l1 : (List.take k (List.map stpD ps)).length ≤ 400 := by rw [List.length_take]; omega
    have l2 : (cutL (List.map stpD ps) o none).length ≤ 400 := by have := cutL_len (l := List.map stpD ps) (lo := o) (hi := none); omega
    have l3 : (List.take k (List.map stpD ps) ++ [d]).length ≤ 401 := by rw [List.length_append]; simp only [List.length_singleton]; omega
    refine ⟨by omega, by omega, by omega, q _ _ (near_tup (by rw [List.length_append]; omega) (fun e he => ?_) (fun kk r ee hr hall => ?_)) (by omega)⟩
    · rcases List.mem_append.mp he with he | he
      · rcases List.mem_append.mp he with he | he
        · exact ho e (List.mem_of_mem_take he)
        · rw [List.mem_singleton.mp he]; exact hd
      · exact ho e (cutL_mem he)
    · have notnb : ∀ e ∈ ps.map stpD, isNb e = true → False := fun e he hn => by
        obtain ⟨p, _, rfl⟩ := List.mem_map.mp he
        cases p <;> cases hn
      have okst : ∀ e ∈ ps.map stpD, okE 40 e = true := fun e he => by
        obtain ⟨p, _, rfl⟩ := List.mem_map.mp he
        cases p <;> rfl
      cases ht : List.take k (List.map stpD ps) with
      | nil =>
        rw [ht] at ee
        obtain ⟨rfl, er⟩ := List.cons.inj ee
        cases r with
        | nil => exact absurd rfl hr
        | cons y r =>
          rw [List.all_cons, Bool.and_eq_true] at hall
          exact (notnb y (cutL_mem (er ▸ List.mem_cons_self)) hall.1).elim
      | cons z t =>
        rw [ht] at ee
        obtain ⟨rfl, _⟩ := List.cons.inj ee
        exact okst z (List.mem_of_mem_take (ht ▸ List.mem_cons_self))
  refine cnd_of (fun h => ?_) (fun h => ?_)
  · have hk2 : k < ps.length := by have := of_decide_eq_true h; omega
    have hg : (ps.map stpD)[k]? = some (stpD ps[k]) := by rw [List.getElem?_map, List.getElem?_eq_getElem hk2]; rfl
    walk_at "p"
    exact ⟨n, ps[k], rfl, by omega, hn, hp _ (List.getElem_mem hk2), fun d k1 hd hk1 => fin d k1 _ hd hk1⟩
  · walk_at "p"
    exact ⟨n, .same 0, rfl, by omega, hn, (by decide : (0 : Nat) < 5), fun d k1 hd hk1 => fin d k1 _ hd hk1⟩
def wNone : List Nat := [110, 111, 110, 101]
def wTold : List Nat := [116, 111, 108, 100]
/-- what a door tells of a passing -/
def toldD (door : Nat) (ps : List Stp) : D := if door % 3 = 0 then lineD (ps.filterMap st1) else if door % 3 = 1 then lineD (ps.filterMap st2) else .int ((ps.map stE).sum : Nat)
theorem f__law_ask {ds : List D} {c : Nat} {Q : PQ} {X : PXc} (h : ∃ (door : Nat) (v : D), ds = [.int (door : Nat), v] ∧ door < 6 ∧ paS v ∧ (passB v (.int 5) = false → Q (.lst [.str wNone, v, .bl true]) c) ∧
    ∀ ps : List Stp, v = .tup (ps.map stpD) → (∀ p ∈ ps, StOk 5 p) → ps.length ≤ 100000 → Q (.lst [.str wTold, toldD door ps]) c) : F__law_ask ds c Q X := by
  obtain ⟨door, v, rfl, hd, hv, q1, q2⟩ := h
  refine ⟨rfl, ?_⟩
  unfold B__law_ask
  refine p_try fun P' en er eb ec eo he _ => ?_
  have bad : passB v (.int 5) = false → P'.ex [Sl.v (.int door), Sl.v v, Sl.no] c "InvalidPassing" v := fun hb => he _ _ _ fun a dd => by
    walk_at "p"
    exact q1 hb
  have ro : ∀ d, Q d c → P'.ro d c := fun d hq => by rw [eo]; exact hq
  walk_at "p"
  refine cnd_of (fun h => ?_) (fun h => ?_)
  · have h3 : door < 3 := by have := of_decide_eq_true h; omega
    walk_at "p"
    refine cnd_of (fun h => ?_) (fun h => ?_)
    · obtain rfl : door = 0 := by have := of_decide_eq_true h; omega
      walk_at "p"
      refine ⟨v, rfl, hv, bad, fun ps e hp hl => ?_⟩
      walk_at "p"
      exact ro _ (q2 ps e hp hl)
    have h0 : door ≠ 0 := by have := of_decide_eq_false h; omega
    walk_at "p"
    refine cnd_of (fun h => ?_) (fun h => ?_)
    · obtain rfl : door = 1 := by have := of_decide_eq_true h; omega
      walk_at "p"
      refine ⟨v, rfl, hv, bad, fun ps e hp hl => ?_⟩
      walk_at "p"
      exact ro _ (q2 ps e hp hl)
    · obtain rfl : door = 2 := by have := of_decide_eq_false h; omega
      walk_at "p"
      refine ⟨v, rfl, hv, bad, fun ps e hp hl => ?_⟩
      walk_at "p"
      exact ro _ (q2 ps e hp hl)
  have h3 : 3 ≤ door := by have := of_decide_eq_false h; omega
  walk_at "p"
  refine cnd_of (fun h => ?_) (fun h => ?_)
  · obtain rfl : door = 3 := by have := of_decide_eq_true h; omega
    walk_at "p"
    refine ⟨v, rfl, hv, bad, fun ps e hp hl => ?_⟩
    walk_at "p"
    exact ro _ (q2 ps e hp hl)
  have h4 : door ≠ 3 := by have := of_decide_eq_false h; omega
  walk_at "p"
  refine cnd_of (fun h => ?_) (fun h => ?_)
  · obtain rfl : door = 4 := by have := of_decide_eq_true h; omega
    walk_at "p"
    refine ⟨v, rfl, hv, bad, fun ps e hp hl => ?_⟩
    walk_at "p"
    exact ro _ (q2 ps e hp hl)
  · obtain rfl : door = 5 := by have := of_decide_eq_false h; omega
    walk_at "p"
    refine ⟨v, rfl, hv, bad, fun ps e hp hl => ?_⟩
    walk_at "p"
    exact ro _ (q2 ps e hp hl)
end
end K04
set_option Elab.async false
set_option linter.all false
set_option maxRecDepth 100000
set_option maxHeartbeats 2000000
namespace K04
open PySem PySem.Spec PyProof.Rows L2 SL Pu
local macro_rules | `(tactic| walk_at "ps") => `(tactic| simp -implicitDefEqProofs only [↓cnd_t, ↓cnd_f, ↓fV_eq, ↓fB_eq, ↓fC_eq, ↓fO2_eq, ↓fO1_eq, ↓fNotV_eq, ↓fAndV_eq, ↓fOrV_eq, ↓fChain_eq, ↓fIf_eq, ↓fTv_eq, ↓fTand_eq, ↓fTor_eq, ↓fTnot_eq, ↓fYes_eq, ↓fNil_eq, ↓fCons_eq, ↓fTup_eq, ↓fLst_eq, ↓fDNew_eq, ↓fCB_eq, ↓fM1_eq, ↓fNoPart_eq, ↓fPart_eq, ↓fSl_eq, ↓fCall_eq, ↓fIsi_eq, ↓fLc_eq, ↓fIter_eq, ↓fRg1_eq, ↓fRg2_eq, ↓fGiv_eq, ↓gN_eq, ↓gsNil_eq, ↓gsCons_eq, ↓gT_eq, ↓gL_eq, ↓gTx_eq, ↓gSet_eq, ↓fNext_eq, ↓fBrk_eq, ↓fCont_eq, ↓fAsg_eq, ↓fOwn_eq, ↓fDrop_eq, ↓fApp_eq, ↓fIfS_eq, ↓fRet_eq, ↓fRetN_eq, ↓fPar_eq, ↓fPar3_eq, ↓fParO_eq, ↓fAug_eq, ↓shr_eq, ↓fShare_eq, ↓fRz_eq, ↓fFor_eq, ↓fEnS_eq, ↓fLrg1_eq, ↓fLrg2_eq, ↓gIxt_0, ↓gIxt_1, ↓gIxt_2, ↓gIx_0, ↓gIx_1, ↓gIx_2, ↓gStr_i, ↓gEqM_non, ↓gEqM_bl, ↓gEqM_int, ↓gEqM_str, ↓gEqM_lst, ↓gEqM_tup, ↓gEqM_dic, ↓gNeM_non, ↓gNeM_bl, ↓gNeM_int, ↓gNeM_str, ↓gNeM_lst, ↓gNeM_tup, ↓gNeM_dic, ↓gIsB_bb, ↓gIsNB_bb, ↓fIterO_eq, ↓fIsE_eq, ↓fLc2_eq, ↓fRetO_eq, ↓fRetOv_eq, ↓wpO_some, ↓wpO_ite, ↓gEq2_ii, ↓gEq2_ss, ↓gNe2_ii, ↓gNe2_ss, ↓gI_ii, gSubI, gLt, gLe, gGt, gGe, ↓rg1_eq, ↓rg2_eq, ↓one1_eq, ↓par2_eq, ↓par3_eq, ↓gEq2_ii, ↓gEq2_ss, ↓gNe2_ii, ↓gNe2_ss, ↓gAdd_ii, ↓gAdd_ss, ↓gAdd_tt, ↓gAdd_ll, ↓gAddL_ll, ↓gLen_s, ↓gLen_l, ↓gLen_t, ↓gSl_s, ↓gSl_l, ↓gSl_t, ↓gSlL_l, ↓gMul_ii, ↓gMul_si, ↓gMul_ti, ↓gMul_li, ↓gRep_li, ↓gMod_ii, ↓gDiv_ii, ↓gPow_ii, ↓gRev_s, ↓gRev_t, ↓gRevL_l, ↓gNeg_i, ↓gIs_n, ↓gIsN_n, isN_non, isN_bl, isN_int, isN_str, isN_lst, isN_tup, isN_dic, isN_obj, ↓gAbs_i, ↓gInt_i, ↓gInt_b, ↓gMin2_i, ↓gMax2_i, ↓gMin3_i, ↓gIn_s, ↓gIn_l, ↓gIn_t, ↓gNotIn_l, ↓gNotIn_t, ↓gEq_of, ↓gNe_of, ↓gEq2_non_non, ↓gNe2_non_non, ↓gEq2_non_bl, ↓gNe2_non_bl, ↓gEq2_non_int, ↓gNe2_non_int, ↓gEq2_non_str, ↓gNe2_non_str, ↓gEq2_non_lst, ↓gNe2_non_lst, ↓gEq2_non_tup, ↓gNe2_non_tup, ↓gEq2_bl_non, ↓gNe2_bl_non, ↓gEq2_bl_bl, ↓gNe2_bl_bl, ↓gEq2_bl_int, ↓gNe2_bl_int, ↓gEq2_bl_str, ↓gNe2_bl_str, ↓gEq2_bl_lst, ↓gNe2_bl_lst, ↓gEq2_bl_tup, ↓gNe2_bl_tup, ↓gEq2_int_non, ↓gNe2_int_non, ↓gEq2_int_bl, ↓gNe2_int_bl, ↓gEq2_int_str, ↓gNe2_int_str, ↓gEq2_int_lst, ↓gNe2_int_lst, ↓gEq2_int_tup, ↓gNe2_int_tup, ↓gEq2_str_non, ↓gNe2_str_non, ↓gEq2_str_bl, ↓gNe2_str_bl, ↓gEq2_str_int, ↓gNe2_str_int, ↓gEq2_str_lst, ↓gNe2_str_lst, ↓gEq2_str_tup, ↓gNe2_str_tup, ↓gEq2_lst_non, ↓gNe2_lst_non, ↓gEq2_lst_bl, ↓gNe2_lst_bl, ↓gEq2_lst_int, ↓gNe2_lst_int, ↓gEq2_lst_str, ↓gNe2_lst_str, ↓gEq2_lst_lst, ↓gNe2_lst_lst, ↓gEq2_lst_tup, ↓gNe2_lst_tup, ↓gEq2_tup_non, ↓gNe2_tup_non, ↓gEq2_tup_bl, ↓gNe2_tup_bl, ↓gEq2_tup_int, ↓gNe2_tup_int, ↓gEq2_tup_str, ↓gNe2_tup_str, ↓gEq2_tup_lst, ↓gNe2_tup_lst, ↓gEq2_tup_tup, ↓gNe2_tup_tup, nk_non, nk_lsA, isK_lsA_int, isK_lsA_bool, isK_lsA_str, isK_lsA_list, isK_lsA_tuple, isK_non_int, isK_non_bool, isK_non_str, isK_non_list, isK_non_tuple, nk_bl, isK_bl_int, isK_bl_bool, isK_bl_str, isK_bl_list, isK_bl_tuple, nk_int, isK_int_int, isK_int_bool, isK_int_str, isK_int_list, isK_int_tuple, nk_str, isK_str_int, isK_str_bool, isK_str_str, isK_str_list, isK_str_tuple, nk_lst, isK_lst_int, isK_lst_bool, isK_lst_str, isK_lst_list, isK_lst_tuple, nk_tup, isK_tup_int, isK_tup_bool, isK_tup_str, isK_tup_list, isK_tup_tuple, nk_dic, isK_dic_int, isK_dic_bool, isK_dic_str, isK_dic_list, isK_dic_tuple, cutL_to, cutL_to1, cutL_from1, cutL_f1, cutL_t1, cutL_t2, Int.add_zero, Int.zero_add, Int.cast_ofNat_Int, Int.reduceEq, Int.reduceLT, Int.reduceLE, Int.reduceAdd, Int.reduceSub, decide_true, decide_false, cutL_from, cutL_no, bD_b, iD_i, isSt_s, lD_l, tDs_t, sDs_s, ↓eqD_int_int, ↓eqD_str_str, ↓eqD_tup_tup, ↓eqD_lst_lst, ↓eqD_bl_bl, ↓eqDs_cc, ↓eqDs_nn, ↓eqDs_nc, ↓eqDs_cn, ↓eqD_non_non, ↓eqD_non_bl, ↓eqD_non_int, ↓eqD_non_str, ↓eqD_non_lst, ↓eqD_non_tup, ↓eqD_bl_non, ↓eqD_bl_str, ↓eqD_bl_lst, ↓eqD_bl_tup, ↓eqD_int_non, ↓eqD_int_str, ↓eqD_int_lst, ↓eqD_int_tup, ↓eqD_str_non, ↓eqD_str_bl, ↓eqD_str_int, ↓eqD_str_lst, ↓eqD_str_tup, ↓eqD_lst_non, ↓eqD_lst_bl, ↓eqD_lst_int, ↓eqD_lst_str, ↓eqD_lst_tup, ↓eqD_tup_non, ↓eqD_tup_bl, ↓eqD_tup_int, ↓eqD_tup_str, ↓eqD_tup_lst, ↓inD_nil, ↓inD_cons, Bool.and_true, Bool.true_and, Bool.and_false, Bool.false_and, Bool.or_false, Bool.or_true, Bool.false_or, Bool.true_or, setP, endsP, endsN, startP, pw, List.getElem?_cons_zero, List.getElem?_cons_succ, List.set_cons_zero, List.set_cons_succ, List.map_cons, List.map_nil, List.length_cons, List.length_nil, List.replicate_succ, List.replicate_zero, List.append_nil, List.cons_append, List.nil_append, Nat.reduceAdd, Nat.reduceSub, Nat.zero_add, reduceIte, Bool.false_eq_true, Bool.not_true, Bool.not_false, true_and, and_true, if_true, if_false])
local macro_rules | `(tactic| walk_at "pz") => `(tactic| first
  | omega
  | decide
  | (simp only [List.length_cons, List.length_nil, List.length_append, List.length_map, List.length_take, List.length_drop, List.length_reverse, List.length_replicate, List.length_range, CMul]; first | done | omega)
  | rfl)
local macro_rules | `(tactic| walk_at "p1") => `(tactic| first
  | ((with_reducible refine p_seq ?_); intro N hN)
  | ((with_reducible refine p_back (M := ?mm) ?h ?_); (case h => with_reducible assumption))
  | walk_at "ps"
  | ((with_reducible refine wpO_of (z := ?zz) (gIx_n (v := ?zz) ?h) ?_); (case h => with_reducible assumption))
  | ((with_reducible refine wpO_of (z := ?zz) (gIxt_n (v := ?zz) ?h) ?_); (case h => with_reducible assumption))
  | ((with_reducible refine wpO_of (z := ?zz) (gIx_a (v := ?zz) ?h) ?_); (case h => with_reducible assumption))
  | ((with_reducible refine wpO_of (z := ?zz) (gIxt_a (v := ?zz) ?h) ?_); (case h => with_reducible assumption))
  | ((with_reducible refine (Eq.mpr (gIxs_a (ch := ?cc) ?h) ?q)); (case h => with_reducible assumption))
  | ((with_reducible refine wpO_of (z := ?zz) ?h ?_); (case h => exact rfl))
  | ((with_reducible refine And.intro ?h ?_); (case h => walk_at "pz"))
  | walk_at "pc")
local macro_rules | `(tactic| walk_at "p") => `(tactic| repeat walk_at "p1")
local macro_rules | `(tactic| walk_at "odd") => `(tactic| ((try simp only [List.take_succ_cons, List.take_zero]); refine ⟨by simp [kD'], by simp [tupD], by first | rfl | (simp [tupD, okE_tup, okE_lst, okE_str, okE_int, okE_bl, okE_non, *]; done), by first | rfl | (simp [okS, okE_tup, okE_lst, okE_str, okE_int, okE_bl, okE_non, *]; done), by first | rfl | (simp [okW, *]; done), ?_⟩; (simp only [rl_tup, rl_lst, rl_str, rl_non, rl_bl, rl_dic0, rls_nil, rls_cons, List.length_cons, List.length_nil, *]; omega)))
local macro_rules | `(tactic| walk_at "odds") => `(tactic| ((repeat (refine List.forall_mem_cons.mpr ⟨by walk_at "odd", ?_⟩)); (try exact fun _ h => absurd h (List.not_mem_nil))))

section
local macro_rules | `(tactic| walk_at "pc") => `(tactic| first | (with_reducible refine f_check_signs ?_) | (with_reducible refine f__law_is_kind ?_))
def neI (a b : D) : Bool := match a, b with
  | .int x, .int y => !decide (x = y)
  | _, _ => false
def kLost (a : D) : D := .tup [.str wLost, a]
def kPut (a : D) : D := .tup [.str wPut, a]
def kTurn (a b : D) : D := .tup [.str wTurned, a, b]
def kindsD (n : Nat) : List D := (rgD 0 n).map kLost ++ (rgD 0 n).map kPut ++ (rgD 0 n).flatMap fun a => ((rgD 0 n).filter (neI a)).map (kTurn a)
theorem rg_nat {n i : Nat} {d : D} (h : (rgD 0 n)[i]? = some d) : i < n ∧ d = .int (i : Nat) := by
  obtain ⟨h1, h2⟩ := rg_at h
  exact ⟨h1, by rw [h2, Int.zero_add]⟩
theorem rg_mem {n : Nat} {d : D} (h : d ∈ rgD 0 n) : ∃ i : Nat, i < n ∧ d = .int (i : Nat) := by
  obtain ⟨i, hi, e⟩ := List.getElem_of_mem h
  exact ⟨i, rg_nat ((List.getElem?_eq_getElem hi).trans (congrArg some e))⟩
theorem turn_len (n : Nat) (h : n ≤ 5) : ((rgD 0 n).flatMap fun a => ((rgD 0 n).filter (neI a)).map (kTurn a)).length ≤ 25 := by
  have : ∀ l : List D, (l.flatMap fun a => ((rgD 0 n).filter (neI a)).map (kTurn a)).length ≤ l.length * 5 := by
    intro l
    induction l with
    | nil => simp
    | cons a l ih =>
      have h1 := List.length_filter_le (neI a) (rgD 0 n)
      rw [rgD_len] at h1
      rw [List.flatMap_cons, List.length_append, List.length_map, List.length_cons]
      omega
  have h2 := this (rgD 0 n)
  rw [rgD_len] at h2
  omega
theorem f_all_kinds {ds : List D} {c : Nat} {Q : PQ} {X : PXc} (h : ∃ v, ds = [v] ∧ kD' v ≠ "" ∧ (sgB v = false → X c "InvalidSigns" v) ∧ ∀ n : Nat, v = .int (n : Nat) → 1 ≤ n → n ≤ 5 → Q (.lst (kindsD n)) c) : F_all_kinds ds c Q X := by
  obtain ⟨v, rfl, hk, q1, q2⟩ := h
  refine ⟨rfl, ?_⟩
  unfold B_all_kinds
  walk_at "p"
  refine ⟨v, rfl, hk, fun hs => ?_, fun hs => ?_⟩
  · obtain ⟨n, rfl, n1, n5⟩ : ∃ n : Nat, v = .int (n : Nat) ∧ 1 ≤ n ∧ n ≤ 5 := by
      cases v with
      | int i =>
        unfold sgB at hs
        rw [Bool.and_eq_true, decide_eq_true_eq, decide_eq_true_eq] at hs
        exact ⟨i.toNat, by rw [Int.toNat_of_nonneg (by omega)], by omega, by omega⟩
      | _ => cases hs
    have q := q2 n rfl n1 n5
    have tl := turn_len n n5
    walk_at "p"
    refine lc_fun kLost (by rw [rgD_len, Int.toNat_natCast]; omega) (fun i d K hd hK => ?_) ?_
    · walk_at "p"
      exact hK
    walk_at "p"
    refine lc_fun kPut (by rw [rgD_len, Int.toNat_natCast]; omega) (fun i d K hd hK => ?_) ?_
    · walk_at "p"
      exact hK
    walk_at "p"
    refine ⟨by simp only [List.length_map, rgD_len, Int.toNat_natCast]; omega, ?_⟩
    rw [Int.toNat_natCast]
    walk_at "p"
    refine lc2_fun (fun _ => rgD 0 n) neI kTurn (fun d ρ' => ρ' = [Sl.v (.int (n : Nat)), Sl.v (.lst ((rgD 0 n).map kLost)), Sl.v (.lst ((rgD 0 n).map kPut)), Sl.v d, Sl.no]) (Nat.le_trans tl (by omega)) (fun i d K hd hK => ?_) (fun i d ρ' hd hG => ?_) ?_
    · walk_at "p"
      rw [Int.toNat_natCast]
      exact hK _ rfl
    · subst hG
      refine ⟨rfl, fun j e K1 K2 he h1 h2 => ?_⟩
      obtain ⟨_, rfl⟩ := rg_nat hd
      obtain ⟨_, rfl⟩ := rg_nat he
      walk_at "p"
      refine cnd_of (fun h => ?_) (fun h => ?_)
      · walk_at "p"
        exact h1 h
      · exact h2 h
    walk_at "p"
    refine ⟨by simp only [List.length_append, List.length_map, rgD_len]; omega, ?_⟩
    exact q
  · walk_at "p"
    exact q1 hs
theorem kinds_mem {n : Nat} {e : D} (h : e ∈ kindsD n) : ∃ p : Stp, e = stpD p ∧ StOk n p ∧ ∀ a, p ≠ .same a := by
  unfold kindsD at h
  rcases List.mem_append.mp h with h | h
  · rcases List.mem_append.mp h with h | h
    · obtain ⟨d, hd, rfl⟩ := List.mem_map.mp h
      obtain ⟨i, hi, rfl⟩ := rg_mem hd
      exact ⟨.lost i, rfl, hi, fun a e => by cases e⟩
    · obtain ⟨d, hd, rfl⟩ := List.mem_map.mp h
      obtain ⟨i, hi, rfl⟩ := rg_mem hd
      exact ⟨.put i, rfl, hi, fun a e => by cases e⟩
  · obtain ⟨d, hd, h⟩ := List.mem_flatMap.mp h
    obtain ⟨e', he, rfl⟩ := List.mem_map.mp h
    have hm := List.mem_filter.mp he
    obtain ⟨i, hi, rfl⟩ := rg_mem hd
    obtain ⟨j, hj, rfl⟩ := rg_mem hm.1
    have hne := hm.2
    refine ⟨.turn i j, rfl, ⟨hi, hj, fun e => ?_⟩, fun a e => by cases e⟩
    unfold neI at hne
    rw [e] at hne
    simp at hne
theorem ix_ok {a n : Nat} (h : a < n) : ixB (.int (a : Int)) (n : Int) = true := by
  show (decide (0 ≤ (a : Int)) && decide ((a : Int) < n)) = true
  rw [decide_eq_true (by omega), decide_eq_true (by omega)]
  rfl
theorem sg_ok {n : Nat} (h1 : 1 ≤ n) (h5 : n ≤ 5) : sgB (.int (n : Int)) = true := by
  show (decide (1 ≤ (n : Int)) && decide ((n : Int) ≤ 5)) = true
  rw [decide_eq_true (by omega), decide_eq_true (by omega)]
  rfl
theorem kindB_stp {n : Nat} {p : Stp} (h1 : 1 ≤ n) (h5 : n ≤ 5) (h : StOk n p) (hs : ∀ a, p ≠ .same a) : kindB (stpD p) (.int (n : Int)) = true := by
  have sg := sg_ok h1 h5
  cases p with
  | same a => exact absurd rfl (hs a)
  | lost a =>
    show (sgB (.int (n : Int)) && (ixB (.int (a : Int)) (n : Int) && inD (.str wLost) [.str wLost, .str wPut])) = true
    rw [sg, ix_ok h, inD_cons, eqD_str_str, decide_eq_true rfl]
    rfl
  | put a =>
    show (sgB (.int (n : Int)) && (ixB (.int (a : Int)) (n : Int) && inD (.str wPut) [.str wLost, .str wPut])) = true
    rw [sg, ix_ok h, inD_cons, inD_cons, eqD_str_str, eqD_str_str, decide_eq_true (show wPut = wPut from rfl), Bool.true_or, Bool.or_true]
    rfl
  | turn a b =>
    show (sgB (.int (n : Int)) && ((ixB (.int (a : Int)) (n : Int) && ixB (.int (b : Int)) (n : Int)) && (eqD (.str wTurned) (.str wTurned) && !eqD (.int (a : Int)) (.int (b : Int))))) = true
    have : (a : Int) ≠ b := fun e => h.2.2 (by omega)
    rw [sg, ix_ok h.1, ix_ok h.2.1, eqD_str_str, eqD_int_int, decide_eq_true rfl, decide_eq_false this]
    rfl
theorem kinds_odd {n : Nat} (h5 : n ≤ 5) {e : D} (h : e ∈ kindsD n) : OddD e := by
  obtain ⟨p, rfl, hp, _⟩ := kinds_mem h
  exact stp_odd (hp.up h5)
theorem kinds_len {n : Nat} (h5 : n ≤ 5) : (kindsD n).length ≤ 35 := by
  unfold kindsD
  have := turn_len n h5
  simp only [List.length_append, List.length_map, rgD_len]
  omega
theorem neI_comm {i j : Nat} : neI (.int (i : Int)) (.int (j : Int)) = neI (.int (j : Int)) (.int (i : Int)) := by
  show (!decide ((i : Int) = j)) = !decide ((j : Int) = i)
  exact congrArg _ (decide_eq_decide.mpr ⟨Eq.symm, Eq.symm⟩)
theorem f__law_all_right {ds : List D} {c : Nat} {Q : PQ} {X : PXc} (h : ∃ (n : Nat) (w : D), ds = [.int (n : Nat), w] ∧ 1 ≤ n ∧ n ≤ 5 ∧ kD' w ≠ "" ∧ sgB w = false ∧ okR w = true ∧ Q (.bl true) c) : F__law_all_right ds c Q X := by
  obtain ⟨n, w, rfl, n1, n5, hk, hw, ow, q⟩ := h
  refine ⟨rfl, ?_⟩
  unfold B__law_all_right
  have okk : ∀ {l : List D}, l = kindsD n → okR (.lst l) = true := fun {l} e => by
    subst e
    exact (near_lst (xs := kindsD n) (by have := kinds_len n5; omega) fun e he => kinds_odd n5 he).w |> fun z => okR_of (okW_up z (by omega)) (by
      have := (near_lst (xs := kindsD n) (by have := kinds_len n5; omega) fun e he => kinds_odd n5 he).z
      omega)
  walk_at "p"
  refine lc_fun kLost (by rw [rgD_len, Int.toNat_natCast]; omega) (fun i d K hd hK => ?_) ?_
  · walk_at "p"
    exact hK
  walk_at "p"
  refine lc_fun kPut (by rw [rgD_len, Int.toNat_natCast]; omega) (fun i d K hd hK => ?_) ?_
  · walk_at "p"
    exact hK
  rw [Int.toNat_natCast]
  walk_at "p"
  refine ⟨by simp only [List.length_map, rgD_len]; omega, ?_⟩
  walk_at "p"
  rw [Int.toNat_natCast]
  refine ⟨fun i ρ c' => ∃ x3, ρ = [Sl.v (.int (n : Nat)), Sl.v w, Sl.v (.lst ((rgD 0 n).map kLost ++ (rgD 0 n).map kPut ++ ((rgD 0 n).take i).flatMap fun a => ((rgD 0 n).filter (neI a)).map (kTurn a))), x3, Sl.no, Sl.no, Sl.no, Sl.no] ∧ c' = c,
    ⟨_, by rw [List.take_zero, List.flatMap_nil, List.append_nil], rfl⟩, ?_, ?_⟩
  · rintro i d ρ c1 hd ⟨x3, rfl, rfl⟩
    obtain ⟨hi, rfl⟩ := rg_nat hd
    walk_at "p"
    rw [Int.toNat_natCast]
    walk_at "p"
    refine lc_fil (neI (.int (i : Int))) (kTurn (.int (i : Int))) (by rw [rgD_len]; omega) (fun k e K1 K2 he h1 h2 => ?_) ?_
    · obtain ⟨hk', rfl⟩ := rg_nat he
      walk_at "p"
      refine cnd_of (fun h => ?_) (fun h => ?_)
      · walk_at "p"
        exact h1 (neI_comm.trans h)
      · exact h2 (neI_comm.trans h)
    walk_at "p"
    have e1 : (rgD 0 n).take (i + 1) = (rgD 0 n).take i ++ [.int (i : Int)] := take_more hd
    refine ⟨?_, Sl.v (.int (i : Int)), by rw [e1, List.flatMap_append, ← List.append_assoc]; simp⟩
    have tl := turn_len n n5
    have h1 : (((rgD 0 n).take i).flatMap fun a => ((rgD 0 n).filter (neI a)).map (kTurn a)).length ≤ 25 := by
      have e2 : (rgD 0 n).flatMap (fun a => ((rgD 0 n).filter (neI a)).map (kTurn a)) = (((rgD 0 n).take i).flatMap fun a => ((rgD 0 n).filter (neI a)).map (kTurn a)) ++ (((rgD 0 n).drop i).flatMap fun a => ((rgD 0 n).filter (neI a)).map (kTurn a)) := by
        rw [← List.flatMap_append, List.take_append_drop]
      rw [e2, List.length_append] at tl
      omega
    have h2 := List.length_filter_le (neI (.int (i : Int))) (rgD 0 n)
    rw [rgD_len] at h2
    simp only [List.length_append, List.length_map, rgD_len]
    omega
  · rintro ρ c1 ⟨x3, rfl, rfl⟩
    rw [List.take_length]
    have ek : (rgD 0 n).map kLost ++ (rgD 0 n).map kPut ++ ((rgD 0 n).flatMap fun a => ((rgD 0 n).filter (neI a)).map (kTurn a)) = kindsD n := rfl
    rw [ek]
    walk_at "p"
    refine f_all_kinds ⟨.int (n : Nat), rfl, by simp [kD'], fun h => ?_, fun m e _ _ => ?_⟩
    · rw [sg_ok n1 n5] at h; cases h
    have e : (n : Int) = m := D.int.inj e
    obtain rfl : n = m := by omega
    walk_at "p"
    refine wpO_of (gRepr_of (okk rfl)) ?_
    walk_at "p"
    refine wpO_of (gRepr_of (okk rfl)) ?_
    walk_at "p"
    refine lc_fil (fun _ => false) id (by have := kinds_len n5; omega) (fun k e K1 K2 he h1 h2 => ?_) ?_
    · obtain ⟨p, rfl, hp, hs⟩ := kinds_mem (List.mem_of_getElem? he)
      have kb := kindB_stp n1 n5 hp hs
      walk_at "p"
      refine ⟨stpD p, .int (n : Nat), rfl, odd_st (stp_odd (hp.up n5)), by simp [kD'], ?_⟩
      rw [kb]
      walk_at "p"
      exact h2 rfl
    have ef : (kindsD n).filter (fun _ => false) = [] := List.filter_eq_nil_iff.mpr (by simp)
    rw [ef]
    walk_at "p"
    refine ⟨by have := kinds_len n5; omega, ?_⟩
    walk_at "p"
    refine f_all_kinds ⟨.int (n : Nat), rfl, by simp [kD'], fun h => ?_, fun m e _ _ => ?_⟩
    · rw [sg_ok n1 n5] at h; cases h
    have e : (n : Int) = m := D.int.inj e
    obtain rfl : n = m := by omega
    walk_at "p"
    refine wpO_of (gRepr_of (okk rfl)) ?_
    walk_at "p"
    refine wpO_of (gRepr_of (okk rfl)) ?_
    walk_at "p"
    refine p_try fun P' en er eb ec eo he _ => ?_
    walk_at "p"
    refine f_all_kinds ⟨w, rfl, hk, fun _ => he _ _ _ fun a dd => ?_, fun m e m1 m5 => ?_⟩
    · walk_at "p"
      refine wpO_of (gRepr_of ow) ?_
      walk_at "p"
      refine wpO_of (gRepr_of ow) ?_
      walk_at "p"
      exact q
    · rw [e, sg_ok m1 m5] at hw
      cases hw
end
end K04
set_option Elab.async false
set_option linter.all false
set_option maxRecDepth 100000
set_option maxHeartbeats 2000000
namespace K04
open PySem PySem.Spec PyProof.Rows L2 SL Pu
local macro_rules | `(tactic| walk_at "ps") => `(tactic| simp -implicitDefEqProofs only [↓cnd_t, ↓cnd_f, ↓fV_eq, ↓fB_eq, ↓fC_eq, ↓fO2_eq, ↓fO1_eq, ↓fNotV_eq, ↓fAndV_eq, ↓fOrV_eq, ↓fChain_eq, ↓fIf_eq, ↓fTv_eq, ↓fTand_eq, ↓fTor_eq, ↓fTnot_eq, ↓fYes_eq, ↓fNil_eq, ↓fCons_eq, ↓fTup_eq, ↓fLst_eq, ↓fDNew_eq, ↓fCB_eq, ↓fM1_eq, ↓fNoPart_eq, ↓fPart_eq, ↓fSl_eq, ↓fCall_eq, ↓fIsi_eq, ↓fLc_eq, ↓fIter_eq, ↓fRg1_eq, ↓fRg2_eq, ↓fGiv_eq, ↓gN_eq, ↓gsNil_eq, ↓gsCons_eq, ↓gT_eq, ↓gL_eq, ↓gTx_eq, ↓gSet_eq, ↓fNext_eq, ↓fBrk_eq, ↓fCont_eq, ↓fAsg_eq, ↓fOwn_eq, ↓fDrop_eq, ↓fApp_eq, ↓fIfS_eq, ↓fRet_eq, ↓fRetN_eq, ↓fPar_eq, ↓fPar3_eq, ↓fParO_eq, ↓fAug_eq, ↓shr_eq, ↓fShare_eq, ↓fRz_eq, ↓fFor_eq, ↓fEnS_eq, ↓fLrg1_eq, ↓fLrg2_eq, ↓gIxt_0, ↓gIxt_1, ↓gIxt_2, ↓gIx_0, ↓gIx_1, ↓gIx_2, ↓gStr_i, ↓gEqM_non, ↓gEqM_bl, ↓gEqM_int, ↓gEqM_str, ↓gEqM_lst, ↓gEqM_tup, ↓gEqM_dic, ↓gNeM_non, ↓gNeM_bl, ↓gNeM_int, ↓gNeM_str, ↓gNeM_lst, ↓gNeM_tup, ↓gNeM_dic, ↓gIsB_bb, ↓gIsNB_bb, ↓fIterO_eq, ↓fIsE_eq, ↓fLc2_eq, ↓fRetO_eq, ↓fRetOv_eq, ↓wpO_some, ↓wpO_ite, ↓gEq2_ii, ↓gEq2_ss, ↓gNe2_ii, ↓gNe2_ss, ↓gI_ii, gSubI, gLt, gLe, gGt, gGe, ↓rg1_eq, ↓rg2_eq, ↓one1_eq, ↓par2_eq, ↓par3_eq, ↓gEq2_ii, ↓gEq2_ss, ↓gNe2_ii, ↓gNe2_ss, ↓gAdd_ii, ↓gAdd_ss, ↓gAdd_tt, ↓gAdd_ll, ↓gAddL_ll, ↓gLen_s, ↓gLen_l, ↓gLen_t, ↓gSl_s, ↓gSl_l, ↓gSl_t, ↓gSlL_l, ↓gMul_ii, ↓gMul_si, ↓gMul_ti, ↓gMul_li, ↓gRep_li, ↓gMod_ii, ↓gDiv_ii, ↓gPow_ii, ↓gRev_s, ↓gRev_t, ↓gRevL_l, ↓gNeg_i, ↓gIs_n, ↓gIsN_n, isN_non, isN_bl, isN_int, isN_str, isN_lst, isN_tup, isN_dic, isN_obj, ↓gAbs_i, ↓gInt_i, ↓gInt_b, ↓gMin2_i, ↓gMax2_i, ↓gMin3_i, ↓gIn_s, ↓gIn_l, ↓gIn_t, ↓gNotIn_l, ↓gNotIn_t, ↓gEq_of, ↓gNe_of, ↓gEq2_non_non, ↓gNe2_non_non, ↓gEq2_non_bl, ↓gNe2_non_bl, ↓gEq2_non_int, ↓gNe2_non_int, ↓gEq2_non_str, ↓gNe2_non_str, ↓gEq2_non_lst, ↓gNe2_non_lst, ↓gEq2_non_tup, ↓gNe2_non_tup, ↓gEq2_bl_non, ↓gNe2_bl_non, ↓gEq2_bl_bl, ↓gNe2_bl_bl, ↓gEq2_bl_int, ↓gNe2_bl_int, ↓gEq2_bl_str, ↓gNe2_bl_str, ↓gEq2_bl_lst, ↓gNe2_bl_lst, ↓gEq2_bl_tup, ↓gNe2_bl_tup, ↓gEq2_int_non, ↓gNe2_int_non, ↓gEq2_int_bl, ↓gNe2_int_bl, ↓gEq2_int_str, ↓gNe2_int_str, ↓gEq2_int_lst, ↓gNe2_int_lst, ↓gEq2_int_tup, ↓gNe2_int_tup, ↓gEq2_str_non, ↓gNe2_str_non, ↓gEq2_str_bl, ↓gNe2_str_bl, ↓gEq2_str_int, ↓gNe2_str_int, ↓gEq2_str_lst, ↓gNe2_str_lst, ↓gEq2_str_tup, ↓gNe2_str_tup, ↓gEq2_lst_non, ↓gNe2_lst_non, ↓gEq2_lst_bl, ↓gNe2_lst_bl, ↓gEq2_lst_int, ↓gNe2_lst_int, ↓gEq2_lst_str, ↓gNe2_lst_str, ↓gEq2_lst_lst, ↓gNe2_lst_lst, ↓gEq2_lst_tup, ↓gNe2_lst_tup, ↓gEq2_tup_non, ↓gNe2_tup_non, ↓gEq2_tup_bl, ↓gNe2_tup_bl, ↓gEq2_tup_int, ↓gNe2_tup_int, ↓gEq2_tup_str, ↓gNe2_tup_str, ↓gEq2_tup_lst, ↓gNe2_tup_lst, ↓gEq2_tup_tup, ↓gNe2_tup_tup, nk_non, nk_lsA, isK_lsA_int, isK_lsA_bool, isK_lsA_str, isK_lsA_list, isK_lsA_tuple, isK_non_int, isK_non_bool, isK_non_str, isK_non_list, isK_non_tuple, nk_bl, isK_bl_int, isK_bl_bool, isK_bl_str, isK_bl_list, isK_bl_tuple, nk_int, isK_int_int, isK_int_bool, isK_int_str, isK_int_list, isK_int_tuple, nk_str, isK_str_int, isK_str_bool, isK_str_str, isK_str_list, isK_str_tuple, nk_lst, isK_lst_int, isK_lst_bool, isK_lst_str, isK_lst_list, isK_lst_tuple, nk_tup, isK_tup_int, isK_tup_bool, isK_tup_str, isK_tup_list, isK_tup_tuple, nk_dic, isK_dic_int, isK_dic_bool, isK_dic_str, isK_dic_list, isK_dic_tuple, cutL_to, cutL_to1, cutL_from1, cutL_f1, cutL_t1, cutL_t2, Int.add_zero, Int.zero_add, Int.cast_ofNat_Int, Int.reduceEq, Int.reduceLT, Int.reduceLE, Int.reduceAdd, Int.reduceSub, decide_true, decide_false, cutL_from, cutL_no, bD_b, iD_i, isSt_s, lD_l, tDs_t, sDs_s, ↓eqD_int_int, ↓eqD_str_str, ↓eqD_tup_tup, ↓eqD_lst_lst, ↓eqD_bl_bl, ↓eqDs_cc, ↓eqDs_nn, ↓eqDs_nc, ↓eqDs_cn, ↓eqD_non_non, ↓eqD_non_bl, ↓eqD_non_int, ↓eqD_non_str, ↓eqD_non_lst, ↓eqD_non_tup, ↓eqD_bl_non, ↓eqD_bl_str, ↓eqD_bl_lst, ↓eqD_bl_tup, ↓eqD_int_non, ↓eqD_int_str, ↓eqD_int_lst, ↓eqD_int_tup, ↓eqD_str_non, ↓eqD_str_bl, ↓eqD_str_int, ↓eqD_str_lst, ↓eqD_str_tup, ↓eqD_lst_non, ↓eqD_lst_bl, ↓eqD_lst_int, ↓eqD_lst_str, ↓eqD_lst_tup, ↓eqD_tup_non, ↓eqD_tup_bl, ↓eqD_tup_int, ↓eqD_tup_str, ↓eqD_tup_lst, ↓inD_nil, ↓inD_cons, Bool.and_true, Bool.true_and, Bool.and_false, Bool.false_and, Bool.or_false, Bool.or_true, Bool.false_or, Bool.true_or, setP, endsP, endsN, startP, pw, List.getElem?_cons_zero, List.getElem?_cons_succ, List.set_cons_zero, List.set_cons_succ, List.map_cons, List.map_nil, List.length_cons, List.length_nil, List.replicate_succ, List.replicate_zero, List.append_nil, List.cons_append, List.nil_append, Nat.reduceAdd, Nat.reduceSub, Nat.zero_add, reduceIte, Bool.false_eq_true, Bool.not_true, Bool.not_false, true_and, and_true, if_true, if_false])
local macro_rules | `(tactic| walk_at "pz") => `(tactic| first
  | omega
  | decide
  | (simp only [List.length_cons, List.length_nil, List.length_append, List.length_map, List.length_take, List.length_drop, List.length_reverse, List.length_replicate, List.length_range, CMul]; first | done | omega)
  | rfl)
local macro_rules | `(tactic| walk_at "p1") => `(tactic| first
  | ((with_reducible refine p_seq ?_); intro N hN)
  | ((with_reducible refine p_back (M := ?mm) ?h ?_); (case h => with_reducible assumption))
  | walk_at "ps"
  | ((with_reducible refine wpO_of (z := ?zz) (gIx_n (v := ?zz) ?h) ?_); (case h => with_reducible assumption))
  | ((with_reducible refine wpO_of (z := ?zz) (gIxt_n (v := ?zz) ?h) ?_); (case h => with_reducible assumption))
  | ((with_reducible refine wpO_of (z := ?zz) (gIx_a (v := ?zz) ?h) ?_); (case h => with_reducible assumption))
  | ((with_reducible refine wpO_of (z := ?zz) (gIxt_a (v := ?zz) ?h) ?_); (case h => with_reducible assumption))
  | ((with_reducible refine (Eq.mpr (gIxs_a (ch := ?cc) ?h) ?q)); (case h => with_reducible assumption))
  | ((with_reducible refine wpO_of (z := ?zz) ?h ?_); (case h => exact rfl))
  | ((with_reducible refine And.intro ?h ?_); (case h => walk_at "pz"))
  | walk_at "pc")
local macro_rules | `(tactic| walk_at "p") => `(tactic| repeat walk_at "p1")
local macro_rules | `(tactic| walk_at "odd") => `(tactic| ((try simp only [List.take_succ_cons, List.take_zero]); refine ⟨by simp [kD'], by simp [tupD], by first | rfl | (simp [tupD, okE_tup, okE_lst, okE_str, okE_int, okE_bl, okE_non, *]; done), by first | rfl | (simp [okS, okE_tup, okE_lst, okE_str, okE_int, okE_bl, okE_non, *]; done), by first | rfl | (simp [okW, *]; done), ?_⟩; (simp only [rl_tup, rl_lst, rl_str, rl_non, rl_bl, rl_dic0, rls_nil, rls_cons, List.length_cons, List.length_nil, *]; omega)))
local macro_rules | `(tactic| walk_at "odds") => `(tactic| ((repeat (refine List.forall_mem_cons.mpr ⟨by walk_at "odd", ?_⟩)); (try exact fun _ h => absurd h (List.not_mem_nil))))

section
local macro_rules | `(tactic| walk_at "pc") => `(tactic| first | (with_reducible refine f__law_is_passing ?_) | (with_reducible refine f__law_ask ?_))
theorem lineD_w (l : List Nat) : okW 50 (lineD l) = true := List.all_eq_true.mpr fun e he => by
  obtain ⟨a, _, rfl⟩ := List.mem_map.mp he
  rfl
theorem line_ok {l : List Nat} (h : l.length ≤ 1000) (hb : ∀ a ∈ l, a < 5) : okW 50 (lineD l) = true ∧ rl (lineD l) ≤ 50000 := by
  refine ⟨lineD_w l, ?_⟩
  unfold lineD
  rw [rl_tup]
  have h1 := rls_le (n := 41) (xs := l.map fun a => D.int (a : Nat)) fun e he => by
    obtain ⟨a, ha, rfl⟩ := List.mem_map.mp he
    rw [rl_nat (by have := hb a ha; omega)]
    exact Nat.le_refl _
  rw [List.length_map] at h1
  omega
theorem st1_lt {p : Stp} {a : Nat} (h : StOk 5 p) (e : st1 p = some a) : a < 5 := by
  cases p <;> cases e
  · exact h
  · exact h
  · exact h.1
theorem st2_lt {p : Stp} {a : Nat} (h : StOk 5 p) (e : st2 p = some a) : a < 5 := by
  cases p <;> cases e
  · exact h
  · exact h
  · exact h.2.1
theorem told_ok {door : Nat} {ps : List Stp} (hp : ∀ p ∈ ps, StOk 5 p) (hz : ps.length ≤ 900) : okR (.lst [.str wTold, toldD door ps]) = true := by
  have h : okW 50 (toldD door ps) = true ∧ rl (toldD door ps) ≤ 50000 := by
    unfold toldD
    split
    · exact line_ok (by have := List.length_filterMap_le st1 ps; omega) fun a ha => by
        obtain ⟨p, hp', e⟩ := List.mem_filterMap.mp ha
        exact st1_lt (hp p hp') e
    · split
      · exact line_ok (by have := List.length_filterMap_le st2 ps; omega) fun a ha => by
          obtain ⟨p, hp', e⟩ := List.mem_filterMap.mp ha
          exact st2_lt (hp p hp') e
      · have : (ps.map stE).sum ≤ ps.length := by
          clear hp hz
          induction ps with
          | nil => simp
          | cons p ps ih =>
            have : stE p ≤ 1 := by cases p <;> simp [stE]
            rw [List.map_cons, List.sum_cons, List.length_cons]
            omega
        exact ⟨rfl, by rw [rl_nat (by omega)]; omega⟩
  refine okR_of ?_ ?_
  · show (okW 59 (.str wTold) && (okW 59 (toldD door ps) && true)) = true
    rw [okW_up h.1 (by omega)]
    rfl
  · rw [rl_lst, rls_cons, rls_cons, rls_nil, rl_str]
    have : wTold.length = 4 := rfl
    omega
theorem none_ok {v : D} (h : okW 45 v = true) (hz : rl v ≤ 2000100) : okR (.lst [.str wNone, v, .bl true]) = true := by
  refine okR_of ?_ ?_
  · show (okW 59 (.str wNone) && (okW 59 v && (okW 59 (.bl true) && true))) = true
    rw [okW_up h (by omega)]
    rfl
  · rw [rl_lst, rls_cons, rls_cons, rls_cons, rls_nil, rl_str, rl_bl]
    have : wNone.length = 4 := rfl
    omega
theorem door_at {door : Nat} {ps : List Stp} : ∃ j : Nat, ((door : Int) % 3) = (j : Int) ∧ j < 3 ∧ ([lineD (ps.filterMap st1), lineD (ps.filterMap st2), .int ((ps.map stE).sum : Nat)] : List D)[j]? = some (toldD door ps) := by
  refine ⟨door % 3, by omega, by omega, ?_⟩
  unfold toldD
  have : door % 3 = 0 ∨ door % 3 = 1 ∨ door % 3 = 2 := by omega
  rcases this with h | h | h <;> rw [h] <;> rfl
theorem stpD_inj : Function.Injective stpD := fun p q e => by
  cases p <;> cases q <;> simp [stpD, wSame, wLost, wPut, wTurned] at e ⊢ <;> omega
theorem map_stp_inj : ∀ {a b : List Stp}, a.map stpD = b.map stpD → a = b
  | [], [], _ => rfl
  | [], _ :: _, h => by cases h
  | _ :: _, [], h => by cases h
  | p :: a, q :: b, h => by
    rw [List.map_cons, List.map_cons] at h
    obtain ⟨h1, h2⟩ := List.cons.inj h
    rw [stpD_inj h1, map_stp_inj h2]
theorem lineD_e (n : Nat) (l : List Nat) : okE (n + 1) (lineD l) = true := List.all_eq_true.mpr fun e he => by
  obtain ⟨a, _, rfl⟩ := List.mem_map.mp he
  exact okE_int
theorem pass_ok {ps : List Stp} (hp : ∀ p ∈ ps, StOk 5 p) : passB (.tup (ps.map stpD)) (.int 5) = true := by
  show (sgB (.int 5) && (ps.map stpD).all fun e => sameB e (.int 5) || kindB e (.int 5)) = true
  rw [show sgB (.int 5) = true from rfl, Bool.true_and, List.all_eq_true]
  intro e he
  obtain ⟨p, hp', rfl⟩ := List.mem_map.mp he
  have h := hp p hp'
  cases p with
  | same a =>
    show ((eqD (.str wSame) (.str wSame) && ixB (.int (a : Int)) 5) || _) = true
    rw [eqD_str_str, decide_eq_true rfl, show ixB (.int (a : Int)) 5 = true from ix_ok (n := 5) h]
    rfl
  | lost a => rw [show kindB (stpD (.lost a)) (.int 5) = true from kindB_stp (n := 5) (by omega) (by omega) h (fun _ e => by cases e), Bool.or_true]
  | put a => rw [show kindB (stpD (.put a)) (.int 5) = true from kindB_stp (n := 5) (by omega) (by omega) h (fun _ e => by cases e), Bool.or_true]
  | turn a b => rw [show kindB (stpD (.turn a b)) (.int 5) = true from kindB_stp (n := 5) (by omega) (by omega) h (fun _ e => by cases e), Bool.or_true]
theorem f_doors {ds : List D} {c : Nat} {Q : PQ} {X : PXc} (h : ∃ v, ds = [v] ∧ NearD v ∧ isK "list" v = false ∧ Q (.bl true) c) : DR.F__law_doors_right ds c Q X := by
  obtain ⟨v, rfl, hv, nl, q⟩ := h
  refine ⟨rfl, ?_⟩
  unfold DR.B__law_doors_right
  walk_at "p"
  refine ⟨v, .int 5, rfl, hv.s, by simp [kD'], ?_⟩
  walk_at "p"
  refine cnd_of (fun h => ?_) (fun h => ?_)
  · obtain ⟨ps, rfl, hp⟩ := pass_of (n := 5) h
    have hl : ps.length ≤ 900 := by have := hv.l; simpa [tupD] using this
    walk_at "p"
    refine lc_fil (fun d => match d with | .tup (k :: _) => !eqD k (.str wPut) | _ => false) (fun d => match d with | .tup [_, a] => a | .tup [_, a, b] => a | d => d) (by rw [List.length_map]; omega) (fun i d K1 K2 hd h1 h2 => ?_) ?_
    · obtain ⟨p, hp', rfl⟩ := List.mem_map.mp (List.mem_of_getElem? hd)
      cases p <;>
      · unfold stpD at h1 h2 ⊢
        walk_at "p"
        first
        | exact h2 rfl
        | (refine cnd_T (by decide) ?_; walk_at "p"; exact h1 rfl)
    rw [fil_map (g := st1) (p := fun d => match d with | .tup (k :: _) => !eqD k (.str wPut) | _ => false) (f := fun d => match d with | .tup [_, a] => a | .tup [_, a, b] => a | d => d)
      (fun q a e => by cases q <;> cases e <;> exact ⟨rfl, rfl⟩) (fun q e => by cases q <;> cases e <;> rfl) ps]
    walk_at "p"
    refine lc_fil (fun d => match d with | .tup (k :: _) => !eqD k (.str wLost) | _ => false) (fun d => match d with | .tup [_, a] => a | .tup [_, a, b] => b | d => d) (by rw [List.length_map]; omega) (fun i d K1 K2 hd h1 h2 => ?_) ?_
    · obtain ⟨p, hp', rfl⟩ := List.mem_map.mp (List.mem_of_getElem? hd)
      cases p <;>
      · unfold stpD at h1 h2 ⊢
        walk_at "p"
        first
        | exact h2 rfl
        | (refine cnd_T (by decide) ?_; walk_at "p"; exact h1 rfl)
    rw [fil_map (g := st2) (p := fun d => match d with | .tup (k :: _) => !eqD k (.str wLost) | _ => false) (f := fun d => match d with | .tup [_, a] => a | .tup [_, a, b] => b | d => d)
      (fun q a e => by cases q <;> cases e <;> exact ⟨rfl, rfl⟩) (fun q e => by cases q <;> cases e <;> rfl) ps]
    walk_at "p"
    refine lc_fil (fun d => match d with | .tup (k :: _) => !eqD k (.str wSame) | _ => false) (fun d => d) (by rw [List.length_map]; omega) (fun i d K1 K2 hd h1 h2 => ?_) ?_
    · obtain ⟨p, hp', rfl⟩ := List.mem_map.mp (List.mem_of_getElem? hd)
      cases p <;>
      · unfold stpD at h1 h2 ⊢
        walk_at "p"
        first
        | exact h2 rfl
        | (refine cnd_T (by decide) ?_; walk_at "p"; exact h1 rfl)
    walk_at "p"
    rw [show (List.map (fun d : D => d) ((ps.map stpD).filter fun d => match d with | .tup (k :: _) => !eqD k (.str wSame) | _ => false)).length = (ps.map stE).sum from (List.length_map _).trans (fil_len ps)]
    refine ⟨fun i ρ c' => ∃ x2 x3 x4 x5, ρ = [Sl.v (.tup (ps.map stpD)), Sl.own (.lst [lineD (ps.filterMap st1), lineD (ps.filterMap st2), .int ((ps.map stE).sum : Nat)]), x2, x3, x4, x5] ∧ c' = c, ⟨_, _, _, _, rfl, rfl⟩, ?_, ?_⟩
    · rintro i d ρ c1 hd ⟨x2, x3, x4, x5, rfl, rfl⟩
      obtain ⟨hi, rfl⟩ := rg_nat (n := 6) hd
      obtain ⟨j, e3, hj, gj⟩ := door_at (door := i) (ps := ps)
      have tok := told_ok (door := i) hp hl
      walk_at "p"
      refine ⟨i, _, rfl, hi, hv.s, fun hb => ?_, fun ps2 e hp2 hl2 => ?_⟩
      · rw [h] at hb; cases hb
      have e2 : ps2 = ps := by
        have : ps.map stpD = ps2.map stpD := D.tup.inj e
        exact (map_stp_inj this).symm
      subst e2
      walk_at "p"
      refine ⟨by rw [okE_lst, List.all_cons, List.all_cons, List.all_cons, lineD_e 58, lineD_e 58, okE_int]; rfl, ?_⟩
      walk_at "p"
      refine wpO_of (gRepr_of tok) ?_
      rw [e3]
      walk_at "p"
      refine wpO_of (gRepr_of tok) ?_
      walk_at "p"
      refine cnd_F (ne_F rfl) ?_
      walk_at "p"
      refine ⟨by rw [okE_lst, List.all_cons, List.all_cons, List.all_cons, lineD_e 58, lineD_e 58, okE_int]; rfl, ?_⟩
      walk_at "p"
      exact ⟨_, _, _, _, rfl⟩
    · rintro ρ c1 ⟨x2, x3, x4, x5, rfl, rfl⟩
      walk_at "p"
      exact q
  · refine (?_ : _)
    walk_at "p"
    refine ⟨fun i ρ c' => ∃ x2 x3 x4 x5, ρ = [Sl.v v, Sl.own (.lst []), x2, x3, x4, x5] ∧ c' = c, ⟨_, _, _, _, rfl, rfl⟩, ?_, ?_⟩
    · rintro i d ρ c1 hd ⟨x2, x3, x4, x5, rfl, rfl⟩
      obtain ⟨hi, rfl⟩ := rg_nat (n := 6) hd
      have nok := none_ok hv.w (by have := hv.z; omega)
      walk_at "p"
      refine ⟨hv.s.k, cnd_F nl ?_⟩
      walk_at "p"
      refine ⟨i, v, rfl, hi, hv.s, fun _ => ?_, fun ps e hp _ => ?_⟩
      · walk_at "p"
        refine ⟨hv.s.k, cnd_F nl ?_⟩
        walk_at "p"
        refine wpO_of (gRepr_of nok) ?_
        walk_at "p"
        refine wpO_of (gRepr_of nok) ?_
        walk_at "p"
        refine cnd_F (ne_F rfl) ?_
        walk_at "p"
        exact ⟨_, _, _, _, rfl⟩
      · rw [e, pass_ok hp] at h
        cases h
    · rintro ρ c1 ⟨x2, x3, x4, x5, rfl, rfl⟩
      walk_at "p"
      exact q
end
end K04
set_option Elab.async false
set_option linter.all false
set_option maxRecDepth 100000
set_option maxHeartbeats 2000000
namespace K04
open PySem PySem.Spec PyProof.Rows L2 SL Pu
local macro_rules | `(tactic| walk_at "sz") => `(tactic| first
  | assumption
  | omega
  | (simp only [List.length_cons, List.length_nil, List.length_append, List.length_map, List.length_take, List.length_drop, List.length_reverse, List.length_replicate, List.length_range, tx_len, sizeLine_eq, CMul, CDiv, Nat.reduceAdd, Nat.reduceLeDiff]; first | done | omega)
  | decide)
local macro_rules | `(tactic| walk_at "ne") => `(tactic| first
  | assumption
  | exact Ne.symm (by assumption)
  | (refine ne_of_none (H := ?H0) (o := ?oo) ?hh ?hn; (case hn => assumption); (case hh => walk_at "hget"))
  | (refine Ne.symm (ne_of_none (H := ?H0) (o := ?oo) ?hh ?hn); (case hn => assumption); (case hh => walk_at "hget")))
local macro_rules | `(tactic| walk_at "hget") => `(tactic| first
  | assumption
  | exact upd_same
  | (refine (upd_ne ?n).trans ?g; (case n => walk_at "ne"); (case g => walk_at "hget"))
  | (refine fr_get (p := ?pp) (H := ?H0) ?f ?g ?n; (case f => assumption); (case g => walk_at "hget"); (case n => walk_at "ne"))
  | (refine same_get (H := ?H0) ?f ?g; (case f => assumption); (case g => walk_at "hget")))
local macro_rules | `(tactic| walk_at "vget") => `(tactic| first
  | assumption
  | (refine SqL.of ?g; (case g => walk_at "hget"))
  | (refine SqT.of ?g; (case g => walk_at "hget"))
  | (refine sql_new ?n ?g; (case n => assumption); (case g => walk_at "vget"))
  | (refine sqt_new ?n ?g; (case n => assumption); (case g => walk_at "vget"))
  | (refine sql_upd ?n ?g; (case n => walk_at "ne"); (case g => walk_at "vget"))
  | (refine sqt_upd ?n ?g; (case n => walk_at "ne"); (case g => walk_at "vget"))
  | (refine Same.seq (H := ?H0) ?f ?g; (case f => assumption); (case g => walk_at "vget"))
  | (refine Same.seqT (H := ?H0) ?f ?g; (case f => assumption); (case g => walk_at "vget"))
  | (refine fr_sql (b := ?pp) (H := ?H0) ?f ?g ?n; (case f => assumption); (case g => walk_at "vget"); (case n => walk_at "ne"))
  | (refine fr_sqt (b := ?pp) (H := ?H0) ?f ?g ?n; (case f => assumption); (case g => walk_at "vget"); (case n => walk_at "ne")))
local macro_rules | `(tactic| walk_at "at") => `(tactic| first
  | assumption
  | rfl
  | (refine atI_n ?h; (case h => first | assumption | rfl))
  | (refine atI_i ?h0 ?h; (case h0 => omega); (case h => first | assumption | rfl)))
local macro_rules | `(tactic| walk_at "v1") => `(tactic| first
  | with_reducible refine w_seq ?_
  | with_reducible refine w_enx ?_
  | with_reducible refine w_ert ?_
  | with_reducible refine w_asg ?_
  | ((with_reducible refine w_var (v := ?vv) ?h ?_); (case h => exact rfl))
  | with_reducible refine w_op ?_
  | with_reducible refine w_c ?_
  | with_reducible refine w_cons ?_
  | with_reducible refine w_nil ?_
  | with_reducible refine w_cb ?_
  | with_reducible refine w_call ?_
  | with_reducible refine w_k ?_
  | with_reducible refine w_i ?_
  | with_reducible refine w_two ?_
  | ((with_reducible refine w_name ?_); (try simp only [List.set_cons_zero, List.set_cons_succ]))
  | with_reducible refine w_ifS ?_
  | with_reducible refine w_ret ?_
  | with_reducible refine w_drop ?_
  | with_reducible refine w_test ?_
  | with_reducible refine w_B ?_
  | with_reducible refine iteT ?_
  | with_reducible refine iteF ?_
  | with_reducible refine w_same ?_
  | ((with_reducible refine w_ifT ?h ?_); (case h => first | rfl | assumption))
  | ((with_reducible refine w_ifF ?h ?_); (case h => first | rfl | assumption))
  | ((with_reducible refine w_diff ?_ ?h); (case h => decide +kernel))
  | ((with_reducible refine w_wp ?h ?_); (case h => rfl); (try simp only [wipe, List.set_cons_zero, List.set_cons_succ, List.foldl_cons, List.foldl_nil]))
  | ((with_reducible refine w_acc (acc := ?aa) ?h ?_ ?z); (case h => walk_at "hget"); (case z => walk_at "sz"))
  | with_reducible refine w_addI ?_
  | with_reducible refine w_subI ?_
  | with_reducible refine w_lt ?_
  | with_reducible refine w_le ?_
  | with_reducible refine w_gt ?_
  | with_reducible refine w_ge ?_
  | with_reducible refine w_eqI ?_
  | with_reducible refine w_neI ?_
  | with_reducible refine w_eqS ?_
  | with_reducible refine w_neS ?_
  | with_reducible refine w_neB ?_
  | ((with_reducible refine w_mulI ?_ ?h); (case h => walk_at "sz"))
  | ((with_reducible refine w_divI ?_ ?h); (case h => walk_at "sz"))
  | ((with_reducible refine w_addS ?_ ?h); (case h => walk_at "sz"))
  | ((with_reducible refine w_mulS ?_ ?h); (case h => walk_at "sz"))
  | ((with_reducible refine w_ixL (xs := ?xx) (v := ?vv) ?h ?i ?_); (case h => walk_at "vget"); (case i => walk_at "at"))
  | ((with_reducible refine w_ixT (xs := ?xx) (v := ?vv) ?h ?i ?_); (case h => walk_at "vget"); (case i => walk_at "at"))
  | ((with_reducible refine w_ixS (c := ?cc) ?i ?_ ?h); (case i => walk_at "at"); (case h => walk_at "sz"))
  | ((with_reducible refine w_lenS' ?_ ?h); (case h => walk_at "sz"))
  | ((with_reducible refine w_lenL' (xs := ?xx) ?h ?_); (case h => walk_at "vget"))
  | ((with_reducible refine w_lenT' (xs := ?xx) ?h ?_); (case h => walk_at "vget"))
  | with_reducible refine w_isnN ?_
  | with_reducible refine w_isnI ?_
  | with_reducible refine w_isnS ?_
  | with_reducible refine w_isnR ?_
  | with_reducible refine w_isnB ?_
  | with_reducible refine w_isoN ?_
  | with_reducible refine w_isoI ?_
  | with_reducible refine w_isoS ?_
  | with_reducible refine w_isoR ?_
  | with_reducible refine w_isoB ?_
  | with_reducible refine w_abs ?_
  | with_reducible refine w_int ?_
  | with_reducible refine w_intB ?_
  | with_reducible refine w_min2 ?_
  | with_reducible refine w_max2 ?_
  | with_reducible refine w_min3 ?_
  | with_reducible refine w_sl ?_
  | with_reducible refine w_np ?_
  | with_reducible refine w_part ?_
  | ((with_reducible refine w_sStN ?_ ?h); (case h => walk_at "sz"))
  | ((with_reducible refine w_sSfN ?_ ?h); (case h => walk_at "sz"))
  | ((with_reducible refine w_sSt ?_ ?h); (case h => walk_at "sz"))
  | ((with_reducible refine w_sSf ?_ ?h); (case h => walk_at "sz"))
  | with_reducible refine w_and ?_
  | with_reducible refine w_or ?_
  | with_reducible refine w_not ?_
  | with_reducible refine w_andV ?_
  | with_reducible refine w_orV ?_
  | with_reducible refine w_notV ?_
  | with_reducible refine w_ifE ?_
  | with_reducible refine w_tup ?_
  | with_reducible refine w_lst ?_
  | with_reducible refine w_chain ?_
  | ((with_reducible refine w_par ?_); (try simp only [List.set_cons_zero, List.set_cons_succ]))
  | ((with_reducible refine w_par3 ?_); (try simp only [List.set_cons_zero, List.set_cons_succ]))
  | with_reducible refine w_three ?_
  | with_reducible refine w_un ?_
  | with_reducible refine w_neg ?_
  | with_reducible refine w_next ?_
  | with_reducible refine w_ebk ?_
  | with_reducible refine w_ect ?_
  | with_reducible refine w_for ?_
  | with_reducible refine w_lc ?_
  | with_reducible refine w_yes ?_
  | with_reducible refine w_il ?_
  | with_reducible refine w_it ?_
  | with_reducible refine w_isx ?_
  | with_reducible refine w_ir1 ?_
  | with_reducible refine w_ir2 ?_
  | with_reducible refine w_ies ?_
  | with_reducible refine w_ir3 ?_
  | with_reducible refine w_s1 ?_
  | with_reducible refine w_s1l ?_
  | ((with_reducible refine w_r1 ?_ ?h); (case h => walk_at "sz"))
  | ((with_reducible refine w_r2 ?_ ?h); (case h => walk_at "sz"))
  | ((with_reducible refine w_l1 (xs := ?xx) ?h ?_); (case h => walk_at "vget"))
  | ((with_reducible refine w_t1 (xs := ?xx) ?h ?_); (case h => walk_at "vget"))
  | ((with_reducible refine w_isL (xs := ?xx) ?h ?_); (case h => walk_at "vget"))
  | with_reducible refine w_isS ?_
  | ((with_reducible refine w_app (xs := ?xx) ?h ?_ ?z); (case h => walk_at "hget"); (case z => walk_at "sz"))
  | with_reducible refine w_inC ?_
  | with_reducible refine w_rev ?_
  | ((with_reducible refine w_rev1S ?_ ?h); (case h => walk_at "sz"))
  | with_reducible refine w_lrg ?_
  | with_reducible refine w_brk ?_
  | with_reducible refine w_cont ?_
  | with_reducible refine w_retN ?_
  | with_reducible refine w_bm ?_
  | with_reducible refine w_bm0 ?_
  | with_reducible refine w_m1 ?_
  | with_reducible refine w_sub ?_
  | ((with_reducible refine w_setL (xs := ?xx) (j := ?jj) ?h ?i ?_); (case h => walk_at "hget"); (case i => first | rfl | assumption); (try simp only [Int.reduceToNat, List.set_cons_zero, List.set_cons_succ]))
  | with_reducible refine w_ip ?_
  | with_reducible refine w_gnil ?_
  | with_reducible refine w_gcons ?_
  | ((with_reducible refine w_gL (xs := ?xx) ?h ?_ ?n); (case h => walk_at "vget"); (case n => rfl))
  | ((with_reducible refine w_gT (xs := ?xx) ?h ?_ ?n); (case h => walk_at "vget"); (case n => rfl))
  | ((with_reducible refine w_aug (v := ?vv) ?h ?_); (case h => exact rfl)))
local macro_rules | `(tactic| walk_at "v") => `(tactic| repeat walk_at "v1")
local macro_rules | `(tactic| walk_at "v0") => `(tactic| (simp only [L2.start, cxK, ends_rt, List.map_cons, List.map_nil, List.length_cons, List.length_nil, Nat.reduceAdd, Nat.reduceSub, List.replicate_succ, List.replicate_zero, List.append_nil, List.cons_append, List.nil_append]; walk_at "v"))
local macro_rules | `(tactic| walk_at "u1") => `(tactic| first
  | with_reducible refine w_seqA ?_
  | with_reducible refine w_seqD ?_
  | with_reducible refine w_seqP ?_
  | with_reducible refine w_seqP3 ?_
  | with_reducible refine w_seqG ?_
  | ((fail_if_success (with_reducible refine w_seq ?_)); walk_at "v1"))
local macro_rules | `(tactic| walk_at "u") => `(tactic| repeat walk_at "u1")
local macro_rules | `(tactic| walk_at "u0") => `(tactic| (simp only [L2.start, cxK, ends_rt, List.map_cons, List.map_nil, List.length_cons, List.length_nil, Nat.reduceAdd, Nat.reduceSub, List.replicate_succ, List.replicate_zero, List.append_nil, List.cons_append, List.nil_append]; walk_at "u"))
local macro_rules | `(tactic| walk_at "t1") => `(tactic| ((fail_if_success (with_reducible refine w_seq ?_)); walk_at "v1"))
local macro_rules | `(tactic| walk_at "t") => `(tactic| repeat walk_at "t1")

section
variable {P : Program} {w : World} {K : PySem.W.Frag} {mg : Str → Option Value} {base : Heap}
theorem w_ne00 {H : Hp} {Q : VK} {a b : Addr} (ha : H a = some (.lst [])) (hb : H b = some (.lst [])) (q : Q (.bl false) H) : rNeU K (.ref a) (.ref b) H Q :=
  .inr ⟨.list [], .list [], .lst (SqL.of ha) .nil, .lst (SqL.of hb) .nil, rfl, rfl, by rw [show PyData.eqv (.list []) (.list []) = true by simp [PyData.eqv, PyData.eqvAll]]; exact q⟩
theorem w_eq00 {H : Hp} {Q : VK} {a b : Addr} (ha : H a = some (.lst [])) (hb : H b = some (.lst [])) (q : Q (.bl true) H) : rEqU K (.ref a) (.ref b) H Q :=
  .inr ⟨.list [], .list [], .lst (SqL.of ha) .nil, .lst (SqL.of hb) .nil, rfl, rfl, by rw [show PyData.eqv (.list []) (.list []) = true by simp [PyData.eqv, PyData.eqvAll]]; exact q⟩
/-- the doors, of a list -/
def spDL (K : PySem.W.Frag) (mg : Str → Option Value) : Sp := fun vs H Q _ => ∃ (a : Addr) (ws : List V) (xs : List D), vs = [.ref a] ∧ H a = some (.lst ws) ∧ DnAll (W1 K mg) H ws xs ∧ xs.length ≤ 900 ∧ xs.all (okW 44) = true ∧ rl (.lst xs) ≤ 2000000 ∧ ∀ H', Same H H' → Q (.bl true) H'
theorem fnh__law_doors_right (T : Txt K mg) : ∀ f fd, Fun K "_law_doors_right" "_law_doors_right" s__law_doors_right f fd → FnG P w K mg base 9 f fd ["value"] (spDL K mg) := by
  intro f fd Fn
  refine fn0 Fn sc__law_doors_right (by rintro vs H Q E ⟨a, ws, xs, rfl, _⟩; rfl) (fun cdv f A outer s H vs Q E hr hgd h => ?_)
  obtain ⟨a, ws, xs, rfl, ha, dn, hl, hw, hz, q⟩ := h
  refine ⟨_, (pss_cons (ps_set (i := 1) sc__law_doors_right.nd rfl (by first | exact Or.inl rfl | exact Or.inr rfl) (pe_lst pa_nil))
  (pss_cons (ps_if (pt_val (pe_g (cal__law_is_passing T) hr (by decide) hgd (by rfl) noX (pa_cons (pv 0) (pa_cons pe_int pa_nil)))) (pss_cons (ps_set (i := 1) sc__law_doors_right.nd rfl (by first | exact Or.inl rfl | exact Or.inr rfl) (pe_lst (pa_cons (pe_callTy (kTupOf K rfl) (by rfl) T.n_tuple (by decide +kernel) (pa_cons (pe_lc (own := [("step", 5)]) rfl sc__law_doors_right.nd (kiTup K rfl (pv 0)) (blkOk_by (own := [("step", 5)]) (N := N__law_doors_right) (sc := defScope s__law_doors_right) (by decide +kernel)) (fun _ _ _ _ _ => (pg_name (i := 5) sc__law_doors_right.nd rfl (by first | exact Or.inl rfl | exact Or.inr rfl))) (fun _ _ _ _ _ => (pts_one (pt_cmpR (kNe K rfl hr) (pe_ix (kIx K rfl) (pv 5) pe_int (fun _ _ => rfl)) (pe_tx [112, 117, 116] (by decide +kernel)) (nomark _)))) (fun _ _ _ _ _ => (pe_ix (kIx K rfl) (pv 5) pe_int (fun _ _ => rfl)))) pa_nil)) pa_nil)))
  (pss_cons (ps_expr (kBm K rfl PySem.F.plainAttrs_list PySem.F.slot_list_append PySem.F.type_list_append mt_append (pv 1) (pa_cons (pe_callTy (kTupOf K rfl) (by rfl) T.n_tuple (by decide +kernel) (pa_cons (pe_lc (own := [("step", 5)]) rfl sc__law_doors_right.nd (kiTup K rfl (pv 0)) (blkOk_by (own := [("step", 5)]) (N := N__law_doors_right) (sc := defScope s__law_doors_right) (by decide +kernel)) (fun _ _ _ _ _ => (pg_name (i := 5) sc__law_doors_right.nd rfl (by first | exact Or.inl rfl | exact Or.inr rfl))) (fun _ _ _ _ _ => (pts_one (pt_cmpR (kNe K rfl hr) (pe_ix (kIx K rfl) (pv 5) pe_int (fun _ _ => rfl)) (pe_tx [108, 111, 115, 116] (by decide +kernel)) (nomark _)))) (fun _ _ _ _ _ => (pe_ix (kIx K rfl) (pv 5) (pe_un un_neg pe_int) (fun _ _ => rfl)))) pa_nil)) pa_nil)))
  (pss_one (ps_expr (kBm K rfl PySem.F.plainAttrs_list PySem.F.slot_list_append PySem.F.type_list_append mt_append (pv 1) (pa_cons (pe_callB (kLen K rfl) (by rfl) T.n_len (by decide +kernel) (pa_cons (pe_lc (own := [("step", 5)]) rfl sc__law_doors_right.nd (kiTup K rfl (pv 0)) (blkOk_by (own := [("step", 5)]) (N := N__law_doors_right) (sc := defScope s__law_doors_right) (by decide +kernel)) (fun _ _ _ _ _ => (pg_name (i := 5) sc__law_doors_right.nd rfl (by first | exact Or.inl rfl | exact Or.inr rfl))) (fun _ _ _ _ _ => (pts_one (pt_cmpR (kNe K rfl hr) (pe_ix (kIx K rfl) (pv 5) pe_int (fun _ _ => rfl)) (pe_tx [115, 97, 109, 101] (by decide +kernel)) (nomark _)))) (fun _ _ _ _ _ => (pv 5))) pa_nil)) pa_nil)))))) pss_nil)
  (pss_cons (ps_for PassesOwn.never rfl (pi_range1 (by rfl) T.n_range (pa_cons pe_int pa_nil)) (pg_name (i := 2) sc__law_doors_right.nd rfl (by first | exact Or.inl rfl | exact Or.inr rfl))
  (pss_cons (ps_set (i := 3) sc__law_doors_right.nd rfl (by first | exact Or.inl rfl | exact Or.inr rfl) (pe_ifExp (pt_val (pe_callB (kIsi K rfl) (by rfl) T.n_isinstance (by decide +kernel) (pa_cons (pv 0) (pa_cons (pe_bltn (v := .ty "list") (by rfl) T.n_list (by decide +kernel) rfl) pa_nil)))) (pe_callTy (kList K rfl) (by rfl) T.n_list (by decide +kernel) (pa_cons (pv 0) pa_nil)) (pv 0)))
  (pss_cons (ps_set (i := 4) sc__law_doors_right.nd rfl (by first | exact Or.inl rfl | exact Or.inr rfl) (pe_g (cal__law_ask T) hr (by decide) hgd (by rfl) noX (pa_cons (pv 2) (pa_cons (pv 3) pa_nil))))
  (pss_cons (ps_if (PW.pt (pw_and (pt_cmpR (kNe K rfl hr) (pv 1) (pe_lst pa_nil) (nomark _)) (pw_and1 (pt_cmpR (kNe K rfl hr) (pe_callB (kReprW K rfl hr hgd) (by rfl) T.n_repr (by decide +kernel) (pa_cons (pv 4) pa_nil)) (pe_callB (kReprW K rfl hr hgd) (by rfl) T.n_repr (by decide +kernel) (pa_cons (pe_lst (pa_cons (pe_tx [116, 111, 108, 100] (by decide +kernel)) (pa_cons (pe_ix (kIx K rfl) (pv 1) (pe_op uMod (pe_callTy uInt (by rfl) T.n_int (by decide +kernel) (pa_cons (pv 2) pa_nil)) pe_int) (fun _ _ => rfl)) pa_nil))) pa_nil)) (nomark _))))) (pss_one (ps_ret pe_bl)) pss_nil)
  (pss_cons (ps_if (pt_val (pe_callB (kIsi K rfl) (by rfl) T.n_isinstance (by decide +kernel) (pa_cons (pv 3) (pa_cons (pe_bltn (v := .ty "list") (by rfl) T.n_list (by decide +kernel) rfl) pa_nil)))) (pss_one (ps_expr (kBm K rfl PySem.F.plainAttrs_list PySem.F.slot_list_append PySem.F.type_list_append mt_append (pv 3) (pa_cons pe_int pa_nil)))) pss_nil)
  (pss_one (ps_if (PW.pt (pw_and (pt_cmpR (kEq K rfl hr) (pv 1) (pe_lst pa_nil) (nomark _)) (pw_and1 (pt_cmpR (kNe K rfl hr) (pe_callB (kReprW K rfl hr hgd) (by rfl) T.n_repr (by decide +kernel) (pa_cons (pv 4) pa_nil)) (pe_callB (kReprW K rfl hr hgd) (by rfl) T.n_repr (by decide +kernel) (pa_cons (pe_lst (pa_cons (pe_tx [110, 111, 110, 101] (by decide +kernel)) (pa_cons (pv 3) (pa_cons pe_bl pa_nil)))) pa_nil)) (nomark _))))) (pss_one (ps_ret pe_bl)) pss_nil)))))))
  (pss_one (ps_ret pe_bl))))), ?_⟩
  walk_at "v0"
  refine ⟨by walk_at "sz", fun p1 n1 => ?_⟩
  have s1 : Same H (upd H p1 (.lst [])) := same_new n1
  have pa : paS (.lst xs) := ⟨by simp [kD'], by simp [tupD], by simp [tupD]⟩
  walk_at "v"
  refine callP (mg := mg) (.cons (.lst (s1 _ _ ha) (dn.mono s1)) (.cons (.int 5) .nil)) (fun d _ => d = .bl false) (f__law_is_passing ⟨_, _, rfl, pa, by simp [kD'], rfl⟩) fun d c' v' H1 e s2 nv => ?_
  subst e
  obtain rfl : v' = .bl false := by cases nv; rfl
  have ga1 := s2 _ _ (s1 _ _ ha)
  have gp1 : H1 p1 = some (.lst []) := s2 _ _ upd_same
  have dn1 := dn.mono (s1.trans s2)
  walk_at "v"
  refine for_rg (n := 6) rfl (fun i σ H' => ∃ x2 x3 x4 x5, σ = [some (.ref a), some (.ref p1), x2, x3, x4, x5] ∧ Same H1 H') ⟨_, _, _, _, rfl, Same.refl _⟩ ?_ ?_
  · rintro i σ H2 hi ⟨x2, x3, x4, x5, rfl, s3⟩
    have ga2 := s3 _ _ ga1
    have gp2 := s3 _ _ gp1
    have dn2 := dn1.mono s3
    walk_at "v"
    refine w_isiL ga2 ?_ (by decide)
    walk_at "v"
    refine w_listL (SqL.of ga2) fun g hg => ?_
    walk_at "v"
    have sg : Same H2 (upd H2 g (.lst ws)) := same_new hg
    refine callN (mg := mg) (.cons (.int (i : Int)) (.cons (.lsA upd_same (dn2.mono sg)) .nil)) (fun d _ => d = .lst [.str wNone, .lsA g xs, .bl true]) (f__law_ask ⟨i, _, rfl, hi, ⟨by simp [kD'], by simp [tupD], by simp [tupD]⟩, fun _ => rfl, fun ps e => by cases e⟩) fun d c2 t H3 e nt s4 oc => ?_
    subst e
    have gt3 : H3 t = some (.lst [.str (tx wNone), .ref g, .bl true]) := by
      generalize H3 t = z at oc
      cases oc with
      | lst h =>
        cases h with
        | cons h1 h => cases h1; cases h with
          | cons h2 h => cases h2; cases h with
            | cons h3 h => cases h3; cases h; rfl
    have gp3 : H3 p1 = some (.lst []) := s4 _ _ (sg _ _ gp2)
    have gg3 : H3 g = some (.lst ws) := s4 _ _ upd_same
    have s23 : Same H2 H3 := sg.trans s4
    have ngp : p1 ≠ g := ne_of_none gp2 hg
    have ngt : t ≠ g := fun e => by
      rw [e, upd_same] at nt
      cases nt
    walk_at "v"
    refine ⟨by walk_at "sz", fun e1 m1 => ?_⟩
    have sa : Same H3 (upd H3 e1 (.lst [])) := same_new m1
    refine w_ne00 (sa _ _ gp3) upd_same ?_
    walk_at "v"
    refine w_isiL (sa _ _ gg3) ?_ (by decide)
    walk_at "v"
    have zw : ws.length ≤ 900 := by rw [dn2.len]; exact hl
    refine w_app (sa _ _ gg3) ?_ (by omega)
    obtain ⟨H5, hH5⟩ : ∃ H5, H5 = upd (upd H3 e1 (.lst [])) g (.lst (ws ++ [.int 0])) := ⟨_, rfl⟩
    have nge : g ≠ e1 := ne_of_none gg3 m1
    have s25 : Same H2 H5 := fun b u h => by
      rw [hH5, upd_ne (ne_of_none h hg)]
      exact sa _ _ (s23 _ _ h)
    have gg5 : H5 g = some (.lst (ws ++ [.int 0])) := by rw [hH5]; exact upd_same
    have gt5 : H5 t = some (.lst [.str (tx wNone), .ref g, .bl true]) := by rw [hH5, upd_ne ngt]; exact sa _ _ gt3
    rw [← hH5]
    walk_at "v"
    refine ⟨by walk_at "sz", fun e2 m2 => ?_⟩
    have s6 : Same H5 (upd H5 e2 (.lst [])) := same_new m2
    refine w_eq00 (s6 _ _ (s25 _ _ gp2)) upd_same ?_
    walk_at "v"
    have okx : okW 45 (.lst (xs ++ [.int 0])) = true := by
      show (xs ++ [D.int 0]).all (okW 44) = true
      rw [List.all_append, hw]
      rfl
    have okz : rl (.lst (xs ++ [.int 0])) ≤ 2000100 := by
      rw [rl_lst] at hz ⊢
      rw [rls_append, rls_cons, rls_nil, rl_int (i := 0) (by decide)]
      omega
    have ok := none_ok okx okz
    have dng : ∀ {M : Hp}, Same H5 M → Dn (W1 K mg) M (.ref g) (.lst (xs ++ [.int 0])) := fun s => .lst (s _ _ gg5) (DnAll.app (ys := [V.int 0]) (es := [D.int 0]) ((dn2.mono s25).mono s) (.cons (.int 0) .nil))
    refine w_reprW (mg := mg) (d := D.lst [D.str wNone, D.lst (xs ++ [D.int 0]), D.bl true]) (.lst (s6 _ _ gt5) (.cons (.str wNone) (.cons (dng s6) (.cons (.bl true) .nil)))) ok ?_
    walk_at "v"
    refine ⟨by walk_at "sz", fun e3 m3 => ?_⟩
    have s7 := same_new (o := HO.lst [V.str (tx [110, 111, 110, 101]), .ref g, .bl true]) m3
    walk_at "v"
    refine w_reprW (mg := mg) (d := D.lst [D.str wNone, D.lst (xs ++ [D.int 0]), D.bl true]) (Dn.lst (vs := [V.str (tx [110, 111, 110, 101]), .ref g, .bl true]) (ds := [D.str [110, 111, 110, 101], D.lst (xs ++ [D.int 0]), D.bl true]) upd_same (.cons (.str [110, 111, 110, 101]) (.cons (dng (s6.trans s7)) (.cons (.bl true) .nil)))) ok ?_
    walk_at "v"
    refine w_ifF (by simp) ?_
    walk_at "v"
    exact ⟨_, _, _, _, rfl, s3.trans (s25.trans (s6.trans s7))⟩
  · rintro σ H2 ⟨x2, x3, x4, x5, rfl, s3⟩
    walk_at "v"
    exact q _ (s1.trans (s2.trans s3))
/-- the doors, of any value -/
def F__law_doors_right : PFn := fun ds c Q _ => ∃ v, ds = [v] ∧ NearD v ∧ Q (.bl true) c
theorem fn__law_doors_right (T : Txt K mg) : ∀ f fd, Fun K "_law_doors_right" "_law_doors_right" s__law_doors_right f fd → FnG P w K mg base 9 f fd ["value"] (spOf K mg F__law_doors_right) := fun f fd Fn =>
  (fn_or (DR.fn__law_doors_right T f fd Fn) (fnh__law_doors_right T f fd Fn)).imp fun vs H Q E h => by
    obtain ⟨pb, o, ds, c, Q', X, ok, dn, b, ⟨v, rfl, hv, q⟩, hq, hx⟩ := h
    by_cases nl : isK "list" v = false
    · exact .inl ⟨pb, o, [v], c, Q', X, ok, dn, b, f_doors ⟨v, rfl, hv, nl, q⟩, hq, hx⟩
    · obtain ⟨xs, rfl⟩ : ∃ xs, v = .lst xs := by
        have w := hv.w
        cases v with
        | lst xs => exact ⟨xs, rfl⟩
        | lsA a xs => exact absurd rfl (hv.na a xs)
        | _ => exact absurd rfl nl
      cases dn with
      | cons d1 d2 =>
        cases d2
        cases d1 with
        | @lst a ws _ h1 h2 =>
          refine .inr ⟨a, ws, xs, rfl, (off_some h1).1, (DnAll.plain rfl xs ws 44 h2 (by have := hv.w; exact this)).mono off_same, hv.i xs rfl, hv.w, hv.z, fun H' s => ?_⟩
          exact hq (.bl true) c (.bl true) H' q (.of s) (b.same s) (.bl true)
theorem cal__law_doors_right (T : Txt K mg) : Cal P w K mg base 9 "_law_doors_right" ["value"] (spOf K mg F__law_doors_right) := cal_of T.d__law_doors_right (fn__law_doors_right T)
end
end K04
set_option Elab.async false
set_option linter.all false
set_option maxRecDepth 100000
set_option maxHeartbeats 2000000
namespace K04
open PySem PySem.Spec PyProof.Rows L2 SL Pu
local macro_rules | `(tactic| walk_at "ps") => `(tactic| simp -implicitDefEqProofs only [↓cnd_t, ↓cnd_f, ↓fV_eq, ↓fB_eq, ↓fC_eq, ↓fO2_eq, ↓fO1_eq, ↓fNotV_eq, ↓fAndV_eq, ↓fOrV_eq, ↓fChain_eq, ↓fIf_eq, ↓fTv_eq, ↓fTand_eq, ↓fTor_eq, ↓fTnot_eq, ↓fYes_eq, ↓fNil_eq, ↓fCons_eq, ↓fTup_eq, ↓fLst_eq, ↓fDNew_eq, ↓fCB_eq, ↓fM1_eq, ↓fNoPart_eq, ↓fPart_eq, ↓fSl_eq, ↓fCall_eq, ↓fIsi_eq, ↓fLc_eq, ↓fIter_eq, ↓fRg1_eq, ↓fRg2_eq, ↓fGiv_eq, ↓gN_eq, ↓gsNil_eq, ↓gsCons_eq, ↓gT_eq, ↓gL_eq, ↓gTx_eq, ↓gSet_eq, ↓fNext_eq, ↓fBrk_eq, ↓fCont_eq, ↓fAsg_eq, ↓fOwn_eq, ↓fDrop_eq, ↓fApp_eq, ↓fIfS_eq, ↓fRet_eq, ↓fRetN_eq, ↓fPar_eq, ↓fPar3_eq, ↓fParO_eq, ↓fAug_eq, ↓shr_eq, ↓fShare_eq, ↓fRz_eq, ↓fFor_eq, ↓fEnS_eq, ↓fLrg1_eq, ↓fLrg2_eq, ↓gIxt_0, ↓gIxt_1, ↓gIxt_2, ↓gIx_0, ↓gIx_1, ↓gIx_2, ↓gStr_i, ↓gEqM_non, ↓gEqM_bl, ↓gEqM_int, ↓gEqM_str, ↓gEqM_lst, ↓gEqM_tup, ↓gEqM_dic, ↓gNeM_non, ↓gNeM_bl, ↓gNeM_int, ↓gNeM_str, ↓gNeM_lst, ↓gNeM_tup, ↓gNeM_dic, ↓gIsB_bb, ↓gIsNB_bb, ↓fIterO_eq, ↓fIsE_eq, ↓fLc2_eq, ↓fRetO_eq, ↓fRetOv_eq, ↓wpO_some, ↓wpO_ite, ↓gEq2_ii, ↓gEq2_ss, ↓gNe2_ii, ↓gNe2_ss, ↓gI_ii, gSubI, gLt, gLe, gGt, gGe, ↓rg1_eq, ↓rg2_eq, ↓one1_eq, ↓par2_eq, ↓par3_eq, ↓gEq2_ii, ↓gEq2_ss, ↓gNe2_ii, ↓gNe2_ss, ↓gAdd_ii, ↓gAdd_ss, ↓gAdd_tt, ↓gAdd_ll, ↓gAddL_ll, ↓gLen_s, ↓gLen_l, ↓gLen_t, ↓gSl_s, ↓gSl_l, ↓gSl_t, ↓gSlL_l, ↓gMul_ii, ↓gMul_si, ↓gMul_ti, ↓gMul_li, ↓gRep_li, ↓gMod_ii, ↓gDiv_ii, ↓gPow_ii, ↓gRev_s, ↓gRev_t, ↓gRevL_l, ↓gNeg_i, ↓gIs_n, ↓gIsN_n, isN_non, isN_bl, isN_int, isN_str, isN_lst, isN_tup, isN_dic, isN_obj, ↓gAbs_i, ↓gInt_i, ↓gInt_b, ↓gMin2_i, ↓gMax2_i, ↓gMin3_i, ↓gIn_s, ↓gIn_l, ↓gIn_t, ↓gNotIn_l, ↓gNotIn_t, ↓gEq_of, ↓gNe_of, ↓gEq2_non_non, ↓gNe2_non_non, ↓gEq2_non_bl, ↓gNe2_non_bl, ↓gEq2_non_int, ↓gNe2_non_int, ↓gEq2_non_str, ↓gNe2_non_str, ↓gEq2_non_lst, ↓gNe2_non_lst, ↓gEq2_non_tup, ↓gNe2_non_tup, ↓gEq2_bl_non, ↓gNe2_bl_non, ↓gEq2_bl_bl, ↓gNe2_bl_bl, ↓gEq2_bl_int, ↓gNe2_bl_int, ↓gEq2_bl_str, ↓gNe2_bl_str, ↓gEq2_bl_lst, ↓gNe2_bl_lst, ↓gEq2_bl_tup, ↓gNe2_bl_tup, ↓gEq2_int_non, ↓gNe2_int_non, ↓gEq2_int_bl, ↓gNe2_int_bl, ↓gEq2_int_str, ↓gNe2_int_str, ↓gEq2_int_lst, ↓gNe2_int_lst, ↓gEq2_int_tup, ↓gNe2_int_tup, ↓gEq2_str_non, ↓gNe2_str_non, ↓gEq2_str_bl, ↓gNe2_str_bl, ↓gEq2_str_int, ↓gNe2_str_int, ↓gEq2_str_lst, ↓gNe2_str_lst, ↓gEq2_str_tup, ↓gNe2_str_tup, ↓gEq2_lst_non, ↓gNe2_lst_non, ↓gEq2_lst_bl, ↓gNe2_lst_bl, ↓gEq2_lst_int, ↓gNe2_lst_int, ↓gEq2_lst_str, ↓gNe2_lst_str, ↓gEq2_lst_lst, ↓gNe2_lst_lst, ↓gEq2_lst_tup, ↓gNe2_lst_tup, ↓gEq2_tup_non, ↓gNe2_tup_non, ↓gEq2_tup_bl, ↓gNe2_tup_bl, ↓gEq2_tup_int, ↓gNe2_tup_int, ↓gEq2_tup_str, ↓gNe2_tup_str, ↓gEq2_tup_lst, ↓gNe2_tup_lst, ↓gEq2_tup_tup, ↓gNe2_tup_tup, nk_non, nk_lsA, isK_lsA_int, isK_lsA_bool, isK_lsA_str, isK_lsA_list, isK_lsA_tuple, isK_non_int, isK_non_bool, isK_non_str, isK_non_list, isK_non_tuple, nk_bl, isK_bl_int, isK_bl_bool, isK_bl_str, isK_bl_list, isK_bl_tuple, nk_int, isK_int_int, isK_int_bool, isK_int_str, isK_int_list, isK_int_tuple, nk_str, isK_str_int, isK_str_bool, isK_str_str, isK_str_list, isK_str_tuple, nk_lst, isK_lst_int, isK_lst_bool, isK_lst_str, isK_lst_list, isK_lst_tuple, nk_tup, isK_tup_int, isK_tup_bool, isK_tup_str, isK_tup_list, isK_tup_tuple, nk_dic, isK_dic_int, isK_dic_bool, isK_dic_str, isK_dic_list, isK_dic_tuple, cutL_to, cutL_to1, cutL_from1, cutL_f1, cutL_t1, cutL_t2, Int.add_zero, Int.zero_add, Int.cast_ofNat_Int, Int.reduceEq, Int.reduceLT, Int.reduceLE, Int.reduceAdd, Int.reduceSub, decide_true, decide_false, cutL_from, cutL_no, bD_b, iD_i, isSt_s, lD_l, tDs_t, sDs_s, ↓eqD_int_int, ↓eqD_str_str, ↓eqD_tup_tup, ↓eqD_lst_lst, ↓eqD_bl_bl, ↓eqDs_cc, ↓eqDs_nn, ↓eqDs_nc, ↓eqDs_cn, ↓eqD_non_non, ↓eqD_non_bl, ↓eqD_non_int, ↓eqD_non_str, ↓eqD_non_lst, ↓eqD_non_tup, ↓eqD_bl_non, ↓eqD_bl_str, ↓eqD_bl_lst, ↓eqD_bl_tup, ↓eqD_int_non, ↓eqD_int_str, ↓eqD_int_lst, ↓eqD_int_tup, ↓eqD_str_non, ↓eqD_str_bl, ↓eqD_str_int, ↓eqD_str_lst, ↓eqD_str_tup, ↓eqD_lst_non, ↓eqD_lst_bl, ↓eqD_lst_int, ↓eqD_lst_str, ↓eqD_lst_tup, ↓eqD_tup_non, ↓eqD_tup_bl, ↓eqD_tup_int, ↓eqD_tup_str, ↓eqD_tup_lst, ↓inD_nil, ↓inD_cons, Bool.and_true, Bool.true_and, Bool.and_false, Bool.false_and, Bool.or_false, Bool.or_true, Bool.false_or, Bool.true_or, setP, endsP, endsN, startP, pw, List.getElem?_cons_zero, List.getElem?_cons_succ, List.set_cons_zero, List.set_cons_succ, List.map_cons, List.map_nil, List.length_cons, List.length_nil, List.replicate_succ, List.replicate_zero, List.append_nil, List.cons_append, List.nil_append, Nat.reduceAdd, Nat.reduceSub, Nat.zero_add, reduceIte, Bool.false_eq_true, Bool.not_true, Bool.not_false, true_and, and_true, if_true, if_false])
local macro_rules | `(tactic| walk_at "pz") => `(tactic| first
  | omega
  | decide
  | (simp only [List.length_cons, List.length_nil, List.length_append, List.length_map, List.length_take, List.length_drop, List.length_reverse, List.length_replicate, List.length_range, CMul]; first | done | omega)
  | rfl)
local macro_rules | `(tactic| walk_at "p1") => `(tactic| first
  | ((with_reducible refine p_seq ?_); intro N hN)
  | ((with_reducible refine p_back (M := ?mm) ?h ?_); (case h => with_reducible assumption))
  | walk_at "ps"
  | ((with_reducible refine wpO_of (z := ?zz) (gIx_n (v := ?zz) ?h) ?_); (case h => with_reducible assumption))
  | ((with_reducible refine wpO_of (z := ?zz) (gIxt_n (v := ?zz) ?h) ?_); (case h => with_reducible assumption))
  | ((with_reducible refine wpO_of (z := ?zz) (gIx_a (v := ?zz) ?h) ?_); (case h => with_reducible assumption))
  | ((with_reducible refine wpO_of (z := ?zz) (gIxt_a (v := ?zz) ?h) ?_); (case h => with_reducible assumption))
  | ((with_reducible refine (Eq.mpr (gIxs_a (ch := ?cc) ?h) ?q)); (case h => with_reducible assumption))
  | ((with_reducible refine wpO_of (z := ?zz) ?h ?_); (case h => exact rfl))
  | ((with_reducible refine And.intro ?h ?_); (case h => walk_at "pz"))
  | walk_at "pc")
local macro_rules | `(tactic| walk_at "p") => `(tactic| repeat walk_at "p1")
local macro_rules | `(tactic| walk_at "odd") => `(tactic| ((try simp only [List.take_succ_cons, List.take_zero]); refine ⟨by simp [kD'], by simp [tupD], by first | rfl | (simp [tupD, okE_tup, okE_lst, okE_str, okE_int, okE_bl, okE_non, *]; done), by first | rfl | (simp [okS, okE_tup, okE_lst, okE_str, okE_int, okE_bl, okE_non, *]; done), by first | rfl | (simp [okW, *]; done), ?_⟩; (simp only [rl_tup, rl_lst, rl_str, rl_non, rl_bl, rl_dic0, rls_nil, rls_cons, List.length_cons, List.length_nil, *]; omega)))
local macro_rules | `(tactic| walk_at "odds") => `(tactic| ((repeat (refine List.forall_mem_cons.mpr ⟨by walk_at "odd", ?_⟩)); (try exact fun _ h => absurd h (List.not_mem_nil))))

section
variable {P : Program} {w : World} {K : PySem.W.Frag} {mg : Str → Option Value} {base : Heap}
def B__law_right : FS := (fSeq (fAsg (fO2 gAdd (fC (.int 1)) (fCall F__law_take (fCons (fV 0) (fCons (fC (.int 5)) fNil)))) (gN 1))
  (fSeq (fAsg (fCall F__law_passing (fCons (fV 0) (fCons (fV 1) fNil))) (gN 2))
  (fSeq (fPar 7 8 (fCons (fCall F__law_near (fCons (fV 0) (fCons (fV 2) (fCons (fV 1) fNil)))) (fCons (fC (.str [])) fNil)))
  (fSeq (fAsg (fO2 gIx (fLst (fCons (fC (.int 0)) (fCons (fC (.int 6)) (fCons (fO2 gSubI (fC (.int 0)) (fC (.int 1))) (fCons (fC .non) (fCons (fC (.bl true)) (fCons (fC (.str [50])) (fCons (fTup (fCons (fC (.int 2)) fNil)) (fCons (fLst (fCons (fC (.int 2)) fNil)) (fCons (fO2 gPow (fC (.int 10)) (fC (.int 18))) (fCons fDNew fNil))))))))))) (fCall F__law_take (fCons (fV 0) (fCons (fC (.int 10)) fNil)))) (gN 3))
  (fSeq (fFor (fIter lD (fLst (fCons (fV 2) (fCons (fV 7) fNil)))) (gN 4)
  (fSeq (fAsg (fCB gRepr (fCons (fB 4) fNil)) (gN 8))
  (fSeq (fFor (fIter lD (fLst (fCons (fC (.int 1)) (fCons (fC (.int 2)) (fCons (fC (.int 3)) (fCons (fC (.int 4)) (fCons (fC (.int 5)) (fCons (fV 1) fNil)))))))) (gN 9)
  (fIfS (fTv (fO2 gNeM (fCB gRepr (fCons (fCall F_is_passing (fCons (fV 4) (fCons (fV 9) fNil))) fNil)) (fCB gRepr (fCons (fCall F__law_is_passing (fCons (fV 4) (fCons (fV 9) fNil))) fNil)))) (fRet (fC (.bl false))) fNext))
  (fIfS (fTor (fTv (fO2 gIsNB (fCall (fun ds c Q X => ds.length = 2 ∧ F_is_passing (pick [1, 0] ds) c Q X) (fCons (fV 3) (fCons (fV 4) fNil))) (fC (.bl false)))) (fTor (fTnot (fTv (fCall F__law_doors_right (fCons (fV 4) fNil)))) (fTv (fO2 gNeM (fCB gRepr (fCons (fB 4) fNil)) (fB 8))))) (fRet (fC (.bl false))) fNext))))
  (fSeq (fAsg (fO2 gAdd (fO2 gAdd (fLc (fRg1 (fCons (fC (.int 4)) fNil)) (gN 9) fYes (fCall F__law_odd (fCons (fV 0) (fCons (fCall F__law_step (fCons (fV 0) (fCons (fV 1) fNil))) (fCons (fV 1) fNil)))) [9]) (fCB gList (fCons (fSl gSl (fB 2) fNoPart (fPart (fC (.int 6)))) fNil))) (fLst (fCons (fV 7) (fCons (fTup (fCons (fC (.str [115, 97, 109, 101])) (fCons (fC (.int 0)) fNil))) fNil)))) (gN 5))
  (fSeq (fFor (fIter lD (fV 5)) (gN 6)
  (fSeq (fFor (fRg2 (fCons (fC (.int 1)) (fCons (fC (.int 6)) fNil))) (gN 9)
  (fIfS (fTv (fO2 gNeM (fCB gRepr (fCons (fCall F_is_kind (fCons (fV 6) (fCons (fV 9) fNil))) fNil)) (fCB gRepr (fCons (fCall F__law_is_kind (fCons (fV 6) (fCons (fV 9) fNil))) fNil)))) (fRet (fC (.bl false))) fNext))
  (fIfS (fTv (fO2 gIsNB (fCall (fun ds c Q X => ds.length = 2 ∧ F_is_kind (pick [1, 0] ds) c Q X) (fCons (fV 3) (fCons (fV 6) fNil))) (fC (.bl false)))) (fRet (fC (.bl false))) fNext)))
  (fRet (fCall F__law_all_right (fCons (fV 1) (fCons (fV 3) fNil)))))))))))
def F__law_right : PFn := fun ds c Q X => ds.length = 1 ∧ B__law_right (endsP Q X) (startP 10 ds) c
theorem fn__law_right (T : Txt K mg) : ∀ f fd, Fun K "_law_right" "_law_right" s__law_right f fd → FnG P w K mg base 10 f fd ["box"] (spOf K mg F__law_right) :=
  fn_pure (k := 9) (F := F__law_right) (fs := B__law_right) sc__law_right (n := 10) rfl (fun pb cdv f A outer s H E hr hgd => ⟨_, (pss_cons (ps_set (i := 1) sc__law_right.nd rfl (by first | exact Or.inl rfl | exact Or.inr rfl) (pe_op (kAdd K rfl) pe_int (pe_g (cal__law_take T) hr (by decide) hgd (by rfl) (passAt tk_def) (pa_cons (pv 0) (pa_cons pe_int pa_nil)))))
  (pss_cons (ps_set (i := 2) sc__law_right.nd rfl (by first | exact Or.inl rfl | exact Or.inr rfl) (pe_g (cal__law_passing T) hr (by decide) hgd (by rfl) (passAt tk_def) (pa_cons (pv 0) (pa_cons (pv 1) pa_nil))))
  (pss_cons (ps_par (i := 7) (j := 8) (by rfl) sc__law_right.nd rfl rfl (by decide) rfl rfl (pa_cons (pe_g (cal__law_near T) hr (by decide) hgd (by rfl) (passAt tk_def) (pa_cons (pv 0) (pa_cons (pv 2) (pa_cons (pv 1) pa_nil)))) (pa_cons (pe_tx [] (by decide +kernel)) pa_nil)) (by rfl))
  (pss_cons (ps_set (i := 3) sc__law_right.nd rfl (by first | exact Or.inl rfl | exact Or.inr rfl) (pe_ix (kIx K rfl) (pe_lst (pa_cons pe_int (pa_cons pe_int (pa_cons (pe_op uSub pe_int pe_int) (pa_cons pe_non (pa_cons pe_bl (pa_cons (pe_tx [50] (by decide +kernel)) (pa_cons (pe_tup (pa_cons pe_int pa_nil)) (pa_cons (pe_lst (pa_cons pe_int pa_nil)) (pa_cons (pe_op uPow pe_int pe_int) (pa_cons pe_dnewK pa_nil))))))))))) (pe_g (cal__law_take T) hr (by decide) hgd (by rfl) (passAt tk_def) (pa_cons (pv 0) (pa_cons pe_int pa_nil))) (fun _ _ => rfl)))
  (pss_cons (ps_for po_def rfl (kiList K rfl (pe_lst (pa_cons (pv 2) (pa_cons (pv 7) pa_nil)))) (pg_name (i := 4) sc__law_right.nd rfl (by first | exact Or.inl rfl | exact Or.inr rfl))
  (pss_cons (ps_set (i := 8) sc__law_right.nd rfl (by first | exact Or.inl rfl | exact Or.inr rfl) (pe_callB (kReprW K rfl hr hgd) (by rfl) T.n_repr (by decide +kernel) (pa_cons (pv 4) pa_nil)))
  (pss_cons (ps_for po_def rfl (kiList K rfl (pe_lst (pa_cons pe_int (pa_cons pe_int (pa_cons pe_int (pa_cons pe_int (pa_cons pe_int (pa_cons (pv 1) pa_nil)))))))) (pg_name (i := 9) sc__law_right.nd rfl (by first | exact Or.inl rfl | exact Or.inr rfl))
  (pss_one (ps_if (pt_cmpR (kNeM K rfl hr) (pe_callB (kReprW K rfl hr hgd) (by rfl) T.n_repr (by decide +kernel) (pa_cons (pe_g (cal_is_passing T) hr (by decide) hgd (by rfl) (passAt tk_def) (pa_cons (pv 4) (pa_cons (pv 9) pa_nil))) pa_nil)) (pe_callB (kReprW K rfl hr hgd) (by rfl) T.n_repr (by decide +kernel) (pa_cons (pe_g (cal__law_is_passing T) hr (by decide) hgd (by rfl) (passAt tk_def) (pa_cons (pv 4) (pa_cons (pv 9) pa_nil))) pa_nil)) (nomark _)) (pss_one (ps_ret pe_bl)) pss_nil)))
  (pss_one (ps_if (PW.pt (pw_or (pt_cmpR op_notBl (pe_gw (cal_is_passing_w10 T) hr (by decide) hgd (by rfl) (passAt tk_def) (pk_cons (pv 3) (pk_cons (pv 4) pk_nil)) (hl_pick [1, 0])) pe_bl (nomark _)) (pw_or (pt_not (pt_val (pe_g (cal__law_doors_right T) hr (by decide) hgd (by rfl) (passAt tk_def) (pa_cons (pv 4) pa_nil)))) (pw_or1 (pt_cmpR (kNeM K rfl hr) (pe_callB (kReprW K rfl hr hgd) (by rfl) T.n_repr (by decide +kernel) (pa_cons (pv 4) pa_nil)) (pv 8) (nomark _)))))) (pss_one (ps_ret pe_bl)) pss_nil)))))
  (pss_cons (ps_set (i := 5) sc__law_right.nd rfl (by first | exact Or.inl rfl | exact Or.inr rfl) (pe_op (kAdd K rfl) (pe_op (kAdd K rfl) (pe_lc (own := [("k", 9)]) rfl sc__law_right.nd (pi_range1 (by rfl) T.n_range (pa_cons pe_int pa_nil)) (blkOk_by (own := [("k", 9)]) (N := N__law_right) (sc := defScope s__law_right) (by decide +kernel)) (fun _ _ _ _ _ => (pg_name (i := 9) sc__law_right.nd rfl (by first | exact Or.inl rfl | exact Or.inr rfl))) (fun _ _ _ _ _ => pts_nil) (fun _ _ _ _ _ => (pe_g (cal__law_odd T) hr (by decide) hgd (by rfl) noX (pa_cons (pv 0) (pa_cons (pe_g (cal__law_step T) hr (by decide) hgd (by rfl) noX (pa_cons (pv 0) (pa_cons (pv 1) pa_nil))) (pa_cons (pv 1) pa_nil)))))) (pe_callTy (kList K rfl) (by rfl) T.n_list (by decide +kernel) (pa_cons (pe_slice (kSl K rfl) (pv 2) po_none (po_some pe_int)) pa_nil))) (pe_lst (pa_cons (pv 7) (pa_cons (pe_tup (pa_cons (pe_tx [115, 97, 109, 101] (by decide +kernel)) (pa_cons pe_int pa_nil))) pa_nil)))))
  (pss_cons (ps_for po_def rfl (kiList K rfl (pv 5)) (pg_name (i := 6) sc__law_right.nd rfl (by first | exact Or.inl rfl | exact Or.inr rfl))
  (pss_cons (ps_for po_def rfl (pi_range2 (by rfl) T.n_range (pa_cons pe_int (pa_cons pe_int pa_nil))) (pg_name (i := 9) sc__law_right.nd rfl (by first | exact Or.inl rfl | exact Or.inr rfl))
  (pss_one (ps_if (pt_cmpR (kNeM K rfl hr) (pe_callB (kReprW K rfl hr hgd) (by rfl) T.n_repr (by decide +kernel) (pa_cons (pe_g (cal_is_kind T) hr (by decide) hgd (by rfl) (passAt tk_def) (pa_cons (pv 6) (pa_cons (pv 9) pa_nil))) pa_nil)) (pe_callB (kReprW K rfl hr hgd) (by rfl) T.n_repr (by decide +kernel) (pa_cons (pe_g (cal__law_is_kind T) hr (by decide) hgd (by rfl) (passAt tk_def) (pa_cons (pv 6) (pa_cons (pv 9) pa_nil))) pa_nil)) (nomark _)) (pss_one (ps_ret pe_bl)) pss_nil)))
  (pss_one (ps_if (pt_cmpR op_notBl (pe_gw (cal_is_kind_w10 T) hr (by decide) hgd (by rfl) (passAt tk_def) (pk_cons (pv 3) (pk_cons (pv 6) pk_nil)) (hl_pick [1, 0])) pe_bl (nomark _)) (pss_one (ps_ret pe_bl)) pss_nil))))
  (pss_one (ps_ret (pe_g (cal__law_all_right T) hr (by decide) hgd (by rfl) (passAt tk_def) (pa_cons (pv 1) (pa_cons (pv 3) pa_nil)))))))))))),
  (ls_seq (ls_asg (le_o2 lo_add (LE.lb (le_c (.int _))) (LE.lb (le_call (fun _ _ _ _ h => h) (la_cons (le_v 0) (la_cons (le_c (.int _)) la_nil))))) (lg_n 1))
  (ls_seq (ls_asg (le_call (fun _ _ _ _ h => h) (la_cons (le_v 0) (la_cons (le_v 1) la_nil))) (lg_n 2))
  (ls_seq (ls_par (la_cons (le_call (fun _ _ _ _ h => h) (la_cons (le_v 0) (la_cons (le_v 2) (la_cons (le_v 1) la_nil)))) (la_cons (le_c (.str _)) la_nil)))
  (ls_seq (ls_asg (le_o2 lo_ix (LE.lb (LF.le (lf_lst (la_cons (le_c (.int _)) (la_cons (le_c (.int _)) (la_cons (le_o2 lo_sub (LE.lb (le_c (.int _))) (LE.lb (le_c (.int _)))) (la_cons (le_c .non) (la_cons (le_c (.bl _)) (la_cons (le_c (.str _)) (la_cons (le_tup (la_cons (le_c (.int _)) la_nil)) (la_cons (LF.le (lf_lst (la_cons (le_c (.int _)) la_nil))) (la_cons (le_o2 lo_pow (LE.lb (le_c (.int _))) (LE.lb (le_c (.int _)))) (la_cons (LF.le lf_dnew) la_nil))))))))))))) (LE.lb (le_call (fun _ _ _ _ h => h) (la_cons (le_v 0) (la_cons (le_c (.int _)) la_nil))))) (lg_n 3))
  (ls_seq (ls_for (li_list (LF.le (lf_lst (la_cons (le_v 2) (la_cons (le_v 7) la_nil))))) (lg_n 4)
  (ls_seq (ls_asg (le_cb lc_repr (lab_cons (lb_v 4) lab_nil)) (lg_n 8))
  (ls_seq (ls_for (li_list (LF.le (lf_lst (la_cons (le_c (.int _)) (la_cons (le_c (.int _)) (la_cons (le_c (.int _)) (la_cons (le_c (.int _)) (la_cons (le_c (.int _)) (la_cons (le_v 1) la_nil))))))))) (lg_n 9)
  (ls_if (lt_test (le_o2 lo_neM (LE.lb (le_cb lc_repr (lab_cons (LE.lb (le_call (fun _ _ _ _ h => h) (la_cons (le_v 4) (la_cons (le_v 9) la_nil)))) lab_nil))) (LE.lb (le_cb lc_repr (lab_cons (LE.lb (le_call (fun _ _ _ _ h => h) (la_cons (le_v 4) (la_cons (le_v 9) la_nil)))) lab_nil))))) (ls_ret (le_c (.bl _))) ls_next))
  (ls_if (lt_or (lt_test (le_o2 lo_isNB (LE.lb (le_callW (hk_pick [1, 0]) (fun _ _ _ _ h => h) (la_cons (le_v 3) (la_cons (le_v 4) la_nil)))) (LE.lb (le_c (.bl _))))) (lt_or (lt_not (lt_B (le_call (fun _ _ _ _ h => h) (la_cons (le_v 4) la_nil)))) (lt_test (le_o2 lo_neM (LE.lb (le_cb lc_repr (lab_cons (lb_v 4) lab_nil))) (lb_v 8))))) (ls_ret (le_c (.bl _))) ls_next))))
  (ls_seq (ls_asg (le_o2 lo_add (LE.lb (le_o2 lo_add (LE.lb (LF.le (lf_lc (LI.c (li_rg1 (la_cons (le_c (.int _)) la_nil))) (lg_n 9) lt_yes (le_call (fun _ _ _ _ h => h.elim) (la_cons (le_v 0) (la_cons (le_call (fun _ _ _ _ h => h.elim) (la_cons (le_v 0) (la_cons (le_v 1) la_nil))) (la_cons (le_v 1) la_nil)))) (by decide)))) (LE.lb (LF.le (lf_cb lcf_list (lab_cons (LE.lb (le_sl lo_sl (lb_v 2) lo_none (lo_some (le_c (.int _))))) lab_nil)))))) (LE.lb (LF.le (lf_lst (la_cons (le_v 7) (la_cons (le_tup (la_cons (le_c (.str _)) (la_cons (le_c (.int _)) la_nil))) la_nil)))))) (lg_n 5))
  (ls_seq (ls_for (li_list (le_v 5)) (lg_n 6)
  (ls_seq (ls_for (li_rg2 (la_cons (le_c (.int _)) (la_cons (le_c (.int _)) la_nil))) (lg_n 9)
  (ls_if (lt_test (le_o2 lo_neM (LE.lb (le_cb lc_repr (lab_cons (LE.lb (le_call (fun _ _ _ _ h => h) (la_cons (le_v 6) (la_cons (le_v 9) la_nil)))) lab_nil))) (LE.lb (le_cb lc_repr (lab_cons (LE.lb (le_call (fun _ _ _ _ h => h) (la_cons (le_v 6) (la_cons (le_v 9) la_nil)))) lab_nil))))) (ls_ret (le_c (.bl _))) ls_next))
  (ls_if (lt_test (le_o2 lo_isNB (LE.lb (le_callW (hk_pick [1, 0]) (fun _ _ _ _ h => h) (la_cons (le_v 3) (la_cons (le_v 6) la_nil)))) (LE.lb (le_c (.bl _))))) (ls_ret (le_c (.bl _))) ls_next)))
  (ls_ret (le_call (fun _ _ _ _ h => h) (la_cons (le_v 1) (la_cons (le_v 3) la_nil)))))))))))⟩) (fun _ _ _ _ h => h.1) (fun _ _ _ _ h => h.2)
theorem cal__law_right (T : Txt K mg) : Cal P w K mg base 10 "_law_right" ["box"] (spOf K mg F__law_right) := cal_of T.d__law_right (fn__law_right T)
end
end K04
set_option Elab.async false
set_option linter.all false
set_option maxRecDepth 100000
set_option maxHeartbeats 2000000
namespace K04
open PySem PySem.Spec PyProof.Rows L2 SL Pu
local macro_rules | `(tactic| walk_at "ps") => `(tactic| simp -implicitDefEqProofs only [↓cnd_t, ↓cnd_f, ↓fV_eq, ↓fB_eq, ↓fC_eq, ↓fO2_eq, ↓fO1_eq, ↓fNotV_eq, ↓fAndV_eq, ↓fOrV_eq, ↓fChain_eq, ↓fIf_eq, ↓fTv_eq, ↓fTand_eq, ↓fTor_eq, ↓fTnot_eq, ↓fYes_eq, ↓fNil_eq, ↓fCons_eq, ↓fTup_eq, ↓fLst_eq, ↓fDNew_eq, ↓fCB_eq, ↓fM1_eq, ↓fNoPart_eq, ↓fPart_eq, ↓fSl_eq, ↓fCall_eq, ↓fIsi_eq, ↓fLc_eq, ↓fIter_eq, ↓fRg1_eq, ↓fRg2_eq, ↓fGiv_eq, ↓gN_eq, ↓gsNil_eq, ↓gsCons_eq, ↓gT_eq, ↓gL_eq, ↓gTx_eq, ↓gSet_eq, ↓fNext_eq, ↓fBrk_eq, ↓fCont_eq, ↓fAsg_eq, ↓fOwn_eq, ↓fDrop_eq, ↓fApp_eq, ↓fIfS_eq, ↓fRet_eq, ↓fRetN_eq, ↓fPar_eq, ↓fPar3_eq, ↓fParO_eq, ↓fAug_eq, ↓shr_eq, ↓fShare_eq, ↓fRz_eq, ↓fFor_eq, ↓fEnS_eq, ↓fLrg1_eq, ↓fLrg2_eq, ↓gIxt_0, ↓gIxt_1, ↓gIxt_2, ↓gIx_0, ↓gIx_1, ↓gIx_2, ↓gStr_i, ↓gEqM_non, ↓gEqM_bl, ↓gEqM_int, ↓gEqM_str, ↓gEqM_lst, ↓gEqM_tup, ↓gEqM_dic, ↓gNeM_non, ↓gNeM_bl, ↓gNeM_int, ↓gNeM_str, ↓gNeM_lst, ↓gNeM_tup, ↓gNeM_dic, ↓gIsB_bb, ↓gIsNB_bb, ↓fIterO_eq, ↓fIsE_eq, ↓fLc2_eq, ↓fRetO_eq, ↓fRetOv_eq, ↓wpO_some, ↓wpO_ite, ↓gEq2_ii, ↓gEq2_ss, ↓gNe2_ii, ↓gNe2_ss, ↓gI_ii, gSubI, gLt, gLe, gGt, gGe, ↓rg1_eq, ↓rg2_eq, ↓one1_eq, ↓par2_eq, ↓par3_eq, ↓gEq2_ii, ↓gEq2_ss, ↓gNe2_ii, ↓gNe2_ss, ↓gAdd_ii, ↓gAdd_ss, ↓gAdd_tt, ↓gAdd_ll, ↓gAddL_ll, ↓gLen_s, ↓gLen_l, ↓gLen_t, ↓gSl_s, ↓gSl_l, ↓gSl_t, ↓gSlL_l, ↓gMul_ii, ↓gMul_si, ↓gMul_ti, ↓gMul_li, ↓gRep_li, ↓gMod_ii, ↓gDiv_ii, ↓gPow_ii, ↓gRev_s, ↓gRev_t, ↓gRevL_l, ↓gNeg_i, ↓gIs_n, ↓gIsN_n, isN_non, isN_bl, isN_int, isN_str, isN_lst, isN_tup, isN_dic, isN_obj, ↓gAbs_i, ↓gInt_i, ↓gInt_b, ↓gMin2_i, ↓gMax2_i, ↓gMin3_i, ↓gIn_s, ↓gIn_l, ↓gIn_t, ↓gNotIn_l, ↓gNotIn_t, ↓gEq_of, ↓gNe_of, ↓gEq2_non_non, ↓gNe2_non_non, ↓gEq2_non_bl, ↓gNe2_non_bl, ↓gEq2_non_int, ↓gNe2_non_int, ↓gEq2_non_str, ↓gNe2_non_str, ↓gEq2_non_lst, ↓gNe2_non_lst, ↓gEq2_non_tup, ↓gNe2_non_tup, ↓gEq2_bl_non, ↓gNe2_bl_non, ↓gEq2_bl_bl, ↓gNe2_bl_bl, ↓gEq2_bl_int, ↓gNe2_bl_int, ↓gEq2_bl_str, ↓gNe2_bl_str, ↓gEq2_bl_lst, ↓gNe2_bl_lst, ↓gEq2_bl_tup, ↓gNe2_bl_tup, ↓gEq2_int_non, ↓gNe2_int_non, ↓gEq2_int_bl, ↓gNe2_int_bl, ↓gEq2_int_str, ↓gNe2_int_str, ↓gEq2_int_lst, ↓gNe2_int_lst, ↓gEq2_int_tup, ↓gNe2_int_tup, ↓gEq2_str_non, ↓gNe2_str_non, ↓gEq2_str_bl, ↓gNe2_str_bl, ↓gEq2_str_int, ↓gNe2_str_int, ↓gEq2_str_lst, ↓gNe2_str_lst, ↓gEq2_str_tup, ↓gNe2_str_tup, ↓gEq2_lst_non, ↓gNe2_lst_non, ↓gEq2_lst_bl, ↓gNe2_lst_bl, ↓gEq2_lst_int, ↓gNe2_lst_int, ↓gEq2_lst_str, ↓gNe2_lst_str, ↓gEq2_lst_lst, ↓gNe2_lst_lst, ↓gEq2_lst_tup, ↓gNe2_lst_tup, ↓gEq2_tup_non, ↓gNe2_tup_non, ↓gEq2_tup_bl, ↓gNe2_tup_bl, ↓gEq2_tup_int, ↓gNe2_tup_int, ↓gEq2_tup_str, ↓gNe2_tup_str, ↓gEq2_tup_lst, ↓gNe2_tup_lst, ↓gEq2_tup_tup, ↓gNe2_tup_tup, nk_non, nk_lsA, isK_lsA_int, isK_lsA_bool, isK_lsA_str, isK_lsA_list, isK_lsA_tuple, isK_non_int, isK_non_bool, isK_non_str, isK_non_list, isK_non_tuple, nk_bl, isK_bl_int, isK_bl_bool, isK_bl_str, isK_bl_list, isK_bl_tuple, nk_int, isK_int_int, isK_int_bool, isK_int_str, isK_int_list, isK_int_tuple, nk_str, isK_str_int, isK_str_bool, isK_str_str, isK_str_list, isK_str_tuple, nk_lst, isK_lst_int, isK_lst_bool, isK_lst_str, isK_lst_list, isK_lst_tuple, nk_tup, isK_tup_int, isK_tup_bool, isK_tup_str, isK_tup_list, isK_tup_tuple, nk_dic, isK_dic_int, isK_dic_bool, isK_dic_str, isK_dic_list, isK_dic_tuple, cutL_to, cutL_to1, cutL_from1, cutL_f1, cutL_t1, cutL_t2, Int.add_zero, Int.zero_add, Int.cast_ofNat_Int, Int.reduceEq, Int.reduceLT, Int.reduceLE, Int.reduceAdd, Int.reduceSub, decide_true, decide_false, cutL_from, cutL_no, bD_b, iD_i, isSt_s, lD_l, tDs_t, sDs_s, ↓eqD_int_int, ↓eqD_str_str, ↓eqD_tup_tup, ↓eqD_lst_lst, ↓eqD_bl_bl, ↓eqDs_cc, ↓eqDs_nn, ↓eqDs_nc, ↓eqDs_cn, ↓eqD_non_non, ↓eqD_non_bl, ↓eqD_non_int, ↓eqD_non_str, ↓eqD_non_lst, ↓eqD_non_tup, ↓eqD_bl_non, ↓eqD_bl_str, ↓eqD_bl_lst, ↓eqD_bl_tup, ↓eqD_int_non, ↓eqD_int_str, ↓eqD_int_lst, ↓eqD_int_tup, ↓eqD_str_non, ↓eqD_str_bl, ↓eqD_str_int, ↓eqD_str_lst, ↓eqD_str_tup, ↓eqD_lst_non, ↓eqD_lst_bl, ↓eqD_lst_int, ↓eqD_lst_str, ↓eqD_lst_tup, ↓eqD_tup_non, ↓eqD_tup_bl, ↓eqD_tup_int, ↓eqD_tup_str, ↓eqD_tup_lst, ↓inD_nil, ↓inD_cons, Bool.and_true, Bool.true_and, Bool.and_false, Bool.false_and, Bool.or_false, Bool.or_true, Bool.false_or, Bool.true_or, setP, endsP, endsN, startP, pw, List.getElem?_cons_zero, List.getElem?_cons_succ, List.set_cons_zero, List.set_cons_succ, List.map_cons, List.map_nil, List.length_cons, List.length_nil, List.replicate_succ, List.replicate_zero, List.append_nil, List.cons_append, List.nil_append, Nat.reduceAdd, Nat.reduceSub, Nat.zero_add, reduceIte, Bool.false_eq_true, Bool.not_true, Bool.not_false, true_and, and_true, if_true, if_false])
local macro_rules | `(tactic| walk_at "pz") => `(tactic| first
  | omega
  | decide
  | (simp only [List.length_cons, List.length_nil, List.length_append, List.length_map, List.length_take, List.length_drop, List.length_reverse, List.length_replicate, List.length_range, CMul]; first | done | omega)
  | rfl)
local macro_rules | `(tactic| walk_at "p1") => `(tactic| first
  | ((with_reducible refine p_seq ?_); intro N hN)
  | ((with_reducible refine p_back (M := ?mm) ?h ?_); (case h => with_reducible assumption))
  | walk_at "ps"
  | ((with_reducible refine wpO_of (z := ?zz) (gIx_n (v := ?zz) ?h) ?_); (case h => with_reducible assumption))
  | ((with_reducible refine wpO_of (z := ?zz) (gIxt_n (v := ?zz) ?h) ?_); (case h => with_reducible assumption))
  | ((with_reducible refine wpO_of (z := ?zz) (gIx_a (v := ?zz) ?h) ?_); (case h => with_reducible assumption))
  | ((with_reducible refine wpO_of (z := ?zz) (gIxt_a (v := ?zz) ?h) ?_); (case h => with_reducible assumption))
  | ((with_reducible refine (Eq.mpr (gIxs_a (ch := ?cc) ?h) ?q)); (case h => with_reducible assumption))
  | ((with_reducible refine wpO_of (z := ?zz) ?h ?_); (case h => exact rfl))
  | ((with_reducible refine And.intro ?h ?_); (case h => walk_at "pz"))
  | walk_at "pc")
local macro_rules | `(tactic| walk_at "p") => `(tactic| repeat walk_at "p1")
local macro_rules | `(tactic| walk_at "odd") => `(tactic| ((try simp only [List.take_succ_cons, List.take_zero]); refine ⟨by simp [kD'], by simp [tupD], by first | rfl | (simp [tupD, okE_tup, okE_lst, okE_str, okE_int, okE_bl, okE_non, *]; done), by first | rfl | (simp [okS, okE_tup, okE_lst, okE_str, okE_int, okE_bl, okE_non, *]; done), by first | rfl | (simp [okW, *]; done), ?_⟩; (simp only [rl_tup, rl_lst, rl_str, rl_non, rl_bl, rl_dic0, rls_nil, rls_cons, List.length_cons, List.length_nil, *]; omega)))
local macro_rules | `(tactic| walk_at "odds") => `(tactic| ((repeat (refine List.forall_mem_cons.mpr ⟨by walk_at "odd", ?_⟩)); (try exact fun _ h => absurd h (List.not_mem_nil))))

section
local macro_rules | `(tactic| walk_at "pc") => `(tactic| first | (with_reducible refine f_is_kind ?_) | (with_reducible refine f_is_passing ?_) | (with_reducible refine f__law_is_kind ?_) | (with_reducible refine f__law_is_passing ?_) | (with_reducible refine f__law_step ?_) | (with_reducible refine f__law_passing ?_) | (with_reducible refine f__law_odd ?_) | (with_reducible refine f__law_near ?_))
theorem bl_ok (b : Bool) : okR (.bl b) = true := okR_of rfl (by rw [rl_bl]; omega)
theorem wrong_ok {d : D} (h : d ∈ [D.int 0, .int 6, .int (-1), .non, .bl true, .str [50], .tup [.int 2], .lst [.int 2], .int (10 ^ 18), .dic []]) : kD' d ≠ "" ∧ sgB d = false ∧ okR d = true := by
  simp only [List.mem_cons, List.not_mem_nil, or_false] at h
  have e2 : rl (.int 2) = 41 := rl_int (by decide)
  rcases h with rfl | rfl | rfl | rfl | rfl | rfl | rfl | rfl | rfl | rfl <;> refine ⟨by simp [kD'], by decide, okR_of (by rfl) ?_⟩
  · rw [rl_int (by decide)]; omega
  · rw [rl_int (by decide)]; omega
  · rw [rl_int (by decide)]; omega
  · rw [rl_non]; omega
  · rw [rl_bl]; omega
  · rw [rl_str]; simp
  · rw [rl_tup, rls_cons, rls_nil, e2]; omega
  · rw [rl_lst, rls_cons, rls_nil, e2]; omega
  · rw [rl_int (by decide)]; omega
  · rw [rl_dic0]; omega
theorem passB_s {v s : D} (h : sgB s = false) : passB v s = false := by
  unfold passB
  split
  · rw [h]; rfl
  · rfl
theorem f__law_right {ds : List D} {c : Nat} {Q : PQ} {X : PXc} (h : ds = [.box] ∧ c ≤ 900000 ∧ ∀ k, k ≤ c + 2000 → Q (.bl true) k) : F__law_right ds c Q X := by
  obtain ⟨rfl, hc, q⟩ := h
  refine ⟨rfl, ?_⟩
  unfold B__law_right
  walk_at "p"
  refine tk_of (N := 5) rfl (by omega) fun s0 hs => ?_
  have e1 : (1 : Int) + (s0 : Int) = ((s0 + 1 : Nat) : Int) := by omega
  obtain ⟨n, hn⟩ : ∃ n : Nat, n = s0 + 1 := ⟨_, rfl⟩
  have n5 : n ≤ 5 := by omega
  walk_at "p"
  rw [e1, ← hn]
  walk_at "p"
  refine ⟨n, rfl, by omega, by omega, by omega, fun ps k hp hl hk => ?_⟩
  have hp5 : ∀ p ∈ ps, StOk 5 p := fun p h => (hp p h).up (by omega)
  walk_at "p"
  refine ⟨n, ps, rfl, by omega, n5, hl, hp5, fun near k2 hnear hk2 => ?_⟩
  walk_at "p"
  refine tk_of (N := 10) rfl (by omega) fun j hj => ?_
  refine pick_lst (fun d => kD' d ≠ "" ∧ sgB d = false ∧ okR d = true) (by simpa using hj) (fun e he => wrong_ok (by simpa using he)) fun w ⟨wk, ws, wr⟩ => ?_
  walk_at "p"
  have hpn : NearD (.tup (ps.map stpD)) := near_tup (by rw [List.length_map]; omega) (fun e he => by
    obtain ⟨p, hp', rfl⟩ := List.mem_map.mp he
    exact stp_odd (hp5 p hp')) fun kk r e _ _ => by
    have : kk ∈ ps.map stpD := by rw [e]; simp
    obtain ⟨p, _, rfl⟩ := List.mem_map.mp this
    cases p <;> rfl
  obtain ⟨c0, hc0⟩ : ∃ c0, c0 = k2 + 1 := ⟨_, rfl⟩
  rw [← hc0]
  refine ⟨fun i ρ c' => ∃ x4 x8 x9, isOwn (some x9) = false ∧ ρ = [Sl.v .box, Sl.v (.int (n : Nat)), Sl.v (.tup (ps.map stpD)), Sl.v w, x4, Sl.no, Sl.no, Sl.v near, x8, x9] ∧ c' = c0, ⟨_, _, _, rfl, rfl, rfl⟩, ?_, ?_⟩
  · rintro i v ρ c1 hd ⟨x4, x8, x9, h9, rfl, rfl⟩
    have hv : NearD v := by
      match i, hd with
      | 0, hd => cases hd; exact hpn
      | 1, hd => cases hd; exact hnear
      | i + 2, hd => simp at hd
    have hr : okR v = true := okR_of (okW_up hv.w (by omega)) (by have := hv.z; omega)
    walk_at "p"
    refine wpO_of (gRepr_of hr) ?_
    walk_at "p"
    refine ⟨fun j ρ c' => ∃ x9, isOwn (some x9) = false ∧ ρ = [Sl.v .box, Sl.v (.int (n : Nat)), Sl.v (.tup (ps.map stpD)), Sl.v w, Sl.v v, Sl.no, Sl.no, Sl.v near, Sl.v (.str (reprD v)), x9] ∧ c' = c1, ⟨_, h9, rfl, rfl⟩, ?_, ?_⟩
    · rintro j d ρ c2 hd ⟨x9, h9, rfl, rfl⟩
      have hk : kD' d ≠ "" := by
        have := List.mem_of_getElem? hd
        simp only [List.mem_cons, List.not_mem_nil, or_false] at this
        rcases this with rfl | rfl | rfl | rfl | rfl | rfl <;> simp [kD']
      walk_at "p"
      refine ⟨v, d, rfl, hv.s, hk, ?_⟩
      walk_at "p"
      refine wpO_of (gRepr_of (bl_ok _)) ?_
      walk_at "p"
      refine ⟨v, d, rfl, hv.s, hk, ?_⟩
      walk_at "p"
      refine wpO_of (gRepr_of (bl_ok _)) ?_
      walk_at "p"
      exact ⟨_, rfl, rfl⟩
    · rintro ρ c2 ⟨x9, h9, rfl, rfl⟩
      walk_at "p"
      refine ⟨v, w, rfl, hv.s, wk, ?_⟩
      rw [passB_s ws]
      walk_at "p"
      refine ⟨v, rfl, hv, ?_⟩
      walk_at "p"
      refine wpO_of (gRepr_of hr) ?_
      walk_at "p"
      exact ⟨_, _, _, h9, rfl⟩
  · rintro ρ c1 ⟨x4, x8, x9, h9, rfl, rfl⟩
    walk_at "p"
    refine ⟨by simp [nown, h9], ?_⟩
    walk_at "p"
    refine lc_draw (n := 4) (fun _ y => OddD y) 5 rfl (by omega) (fun i d c' K hd hc' hK => ?_) fun acc c2 hl2 hacc hc2 => ?_
    · have hi := (rg_at hd).1
      walk_at "p"
      refine ⟨n, rfl, by omega, by omega, n5, fun p k3 hp3 hk3 => ?_⟩
      walk_at "p"
      exact ⟨n, p, rfl, by omega, n5, hp3.up n5, fun d k4 hd4 hk4 => hK _ _ hd4 (by omega)⟩
    have cl := cutL_len (l := ps.map stpD) (lo := none) (hi := some 6)
    rw [List.length_map] at cl
    have hS : ∀ e ∈ acc ++ cutL (ps.map stpD) none (some 6) ++ [near, .tup [.str [115, 97, 109, 101], .int 0]], stS e := fun e he => by
      rcases List.mem_append.mp he with he | he
      · rcases List.mem_append.mp he with he | he
        · obtain ⟨i, hi, rfl⟩ := List.getElem_of_mem he
          exact odd_st (hacc i _ (List.getElem?_eq_getElem hi))
        · obtain ⟨p, hp', rfl⟩ := List.mem_map.mp (cutL_mem he)
          exact odd_st (stp_odd (hp5 p hp'))
      · simp only [List.mem_cons, List.not_mem_nil, or_false] at he
        rcases he with rfl | rfl
        · exact hnear.st
        · exact odd_st (stp_odd (p := .same 0) (by decide : (0 : Nat) < 5))
    walk_at "p"
    obtain ⟨S, eS⟩ : ∃ S, S = acc ++ cutL (ps.map stpD) none (some 6) ++ [near, .tup [.str [115, 97, 109, 101], .int 0]] := ⟨_, rfl⟩
    rw [← eS] at hS ⊢
    refine ⟨fun i ρ c' => ∃ x6 x9, ρ = [Sl.v .box, Sl.v (.int (n : Nat)), Sl.v (.tup (ps.map stpD)), Sl.v w, x4, Sl.v (.lst S), x6, Sl.v near, x8, x9] ∧ c' = c2, ⟨_, _, rfl, rfl⟩, ?_, ?_⟩
    · rintro i e ρ c3 he ⟨x6, x9, rfl, rfl⟩
      have ho := hS e (List.mem_of_getElem? he)
      walk_at "p"
      refine ⟨fun i ρ c' => ∃ x9, ρ = [Sl.v .box, Sl.v (.int (n : Nat)), Sl.v (.tup (ps.map stpD)), Sl.v w, x4, Sl.v (.lst S), Sl.v e, Sl.v near, x8, x9] ∧ c' = c3, ⟨_, rfl, rfl⟩, ?_, ?_⟩
      · rintro j d ρ c4 hd ⟨x9, rfl, rfl⟩
        have hk : kD' d ≠ "" := by
          obtain ⟨_, rfl⟩ := rg_at hd
          simp [kD']
        walk_at "p"
        refine ⟨e, d, rfl, ho, hk, ?_⟩
        walk_at "p"
        refine wpO_of (gRepr_of (bl_ok _)) ?_
        walk_at "p"
        refine ⟨e, d, rfl, ho, hk, ?_⟩
        walk_at "p"
        refine wpO_of (gRepr_of (bl_ok _)) ?_
        walk_at "p"
        exact ⟨_, rfl⟩
      · rintro ρ c4 ⟨x9, rfl, rfl⟩
        walk_at "p"
        refine ⟨e, w, rfl, ho, wk, ?_⟩
        rw [kindB_s ws]
        walk_at "p"
        exact ⟨_, _, rfl⟩
    · rintro ρ c3 ⟨x6, x9, rfl, rfl⟩
      walk_at "p"
      exact f__law_all_right ⟨n, w, rfl, by omega, n5, wk, ws, wr, q _ (by omega)⟩
end
end K04
set_option Elab.async false
set_option linter.all false
set_option maxRecDepth 100000
set_option maxHeartbeats 4000000
namespace K04
open PySem PySem.Spec PyProof.Rows L2 SL Pu
local macro_rules | `(tactic| walk_at "sz") => `(tactic| first
  | assumption
  | omega
  | (simp only [List.length_cons, List.length_nil, List.length_append, List.length_map, List.length_take, List.length_drop, List.length_reverse, List.length_replicate, List.length_range, tx_len, sizeLine_eq, CMul, CDiv, Nat.reduceAdd, Nat.reduceLeDiff]; first | done | omega)
  | decide)
local macro_rules | `(tactic| walk_at "ne") => `(tactic| first
  | assumption
  | exact Ne.symm (by assumption)
  | (refine ne_of_none (H := ?H0) (o := ?oo) ?hh ?hn; (case hn => assumption); (case hh => walk_at "hget"))
  | (refine Ne.symm (ne_of_none (H := ?H0) (o := ?oo) ?hh ?hn); (case hn => assumption); (case hh => walk_at "hget")))
local macro_rules | `(tactic| walk_at "hget") => `(tactic| first
  | assumption
  | exact upd_same
  | (refine (upd_ne ?n).trans ?g; (case n => walk_at "ne"); (case g => walk_at "hget"))
  | (refine fr_get (p := ?pp) (H := ?H0) ?f ?g ?n; (case f => assumption); (case g => walk_at "hget"); (case n => walk_at "ne"))
  | (refine same_get (H := ?H0) ?f ?g; (case f => assumption); (case g => walk_at "hget")))
local macro_rules | `(tactic| walk_at "vget") => `(tactic| first
  | assumption
  | (refine SqL.of ?g; (case g => walk_at "hget"))
  | (refine SqT.of ?g; (case g => walk_at "hget"))
  | (refine sql_new ?n ?g; (case n => assumption); (case g => walk_at "vget"))
  | (refine sqt_new ?n ?g; (case n => assumption); (case g => walk_at "vget"))
  | (refine sql_upd ?n ?g; (case n => walk_at "ne"); (case g => walk_at "vget"))
  | (refine sqt_upd ?n ?g; (case n => walk_at "ne"); (case g => walk_at "vget"))
  | (refine Same.seq (H := ?H0) ?f ?g; (case f => assumption); (case g => walk_at "vget"))
  | (refine Same.seqT (H := ?H0) ?f ?g; (case f => assumption); (case g => walk_at "vget"))
  | (refine fr_sql (b := ?pp) (H := ?H0) ?f ?g ?n; (case f => assumption); (case g => walk_at "vget"); (case n => walk_at "ne"))
  | (refine fr_sqt (b := ?pp) (H := ?H0) ?f ?g ?n; (case f => assumption); (case g => walk_at "vget"); (case n => walk_at "ne")))
local macro_rules | `(tactic| walk_at "at") => `(tactic| first
  | assumption
  | rfl
  | (refine atI_n ?h; (case h => first | assumption | rfl))
  | (refine atI_i ?h0 ?h; (case h0 => omega); (case h => first | assumption | rfl)))
local macro_rules | `(tactic| walk_at "v1") => `(tactic| first
  | with_reducible refine w_seq ?_
  | with_reducible refine w_enx ?_
  | with_reducible refine w_ert ?_
  | with_reducible refine w_asg ?_
  | ((with_reducible refine w_var (v := ?vv) ?h ?_); (case h => exact rfl))
  | with_reducible refine w_op ?_
  | with_reducible refine w_c ?_
  | with_reducible refine w_cons ?_
  | with_reducible refine w_nil ?_
  | with_reducible refine w_cb ?_
  | with_reducible refine w_call ?_
  | with_reducible refine w_k ?_
  | with_reducible refine w_i ?_
  | with_reducible refine w_two ?_
  | ((with_reducible refine w_name ?_); (try simp only [List.set_cons_zero, List.set_cons_succ]))
  | with_reducible refine w_ifS ?_
  | with_reducible refine w_ret ?_
  | with_reducible refine w_drop ?_
  | with_reducible refine w_test ?_
  | with_reducible refine w_B ?_
  | with_reducible refine iteT ?_
  | with_reducible refine iteF ?_
  | with_reducible refine w_same ?_
  | ((with_reducible refine w_ifT ?h ?_); (case h => first | rfl | assumption))
  | ((with_reducible refine w_ifF ?h ?_); (case h => first | rfl | assumption))
  | ((with_reducible refine w_diff ?_ ?h); (case h => decide +kernel))
  | ((with_reducible refine w_wp ?h ?_); (case h => rfl); (try simp only [wipe, List.set_cons_zero, List.set_cons_succ, List.foldl_cons, List.foldl_nil]))
  | ((with_reducible refine w_acc (acc := ?aa) ?h ?_ ?z); (case h => walk_at "hget"); (case z => walk_at "sz"))
  | with_reducible refine w_addI ?_
  | with_reducible refine w_subI ?_
  | with_reducible refine w_lt ?_
  | with_reducible refine w_le ?_
  | with_reducible refine w_gt ?_
  | with_reducible refine w_ge ?_
  | with_reducible refine w_eqI ?_
  | with_reducible refine w_neI ?_
  | with_reducible refine w_eqS ?_
  | with_reducible refine w_neS ?_
  | with_reducible refine w_neB ?_
  | ((with_reducible refine w_mulI ?_ ?h); (case h => walk_at "sz"))
  | ((with_reducible refine w_divI ?_ ?h); (case h => walk_at "sz"))
  | ((with_reducible refine w_addS ?_ ?h); (case h => walk_at "sz"))
  | ((with_reducible refine w_mulS ?_ ?h); (case h => walk_at "sz"))
  | ((with_reducible refine w_ixL (xs := ?xx) (v := ?vv) ?h ?i ?_); (case h => walk_at "vget"); (case i => walk_at "at"))
  | ((with_reducible refine w_ixT (xs := ?xx) (v := ?vv) ?h ?i ?_); (case h => walk_at "vget"); (case i => walk_at "at"))
  | ((with_reducible refine w_ixS (c := ?cc) ?i ?_ ?h); (case i => walk_at "at"); (case h => walk_at "sz"))
  | ((with_reducible refine w_lenS' ?_ ?h); (case h => walk_at "sz"))
  | ((with_reducible refine w_lenL' (xs := ?xx) ?h ?_); (case h => walk_at "vget"))
  | ((with_reducible refine w_lenT' (xs := ?xx) ?h ?_); (case h => walk_at "vget"))
  | with_reducible refine w_isnN ?_
  | with_reducible refine w_isnI ?_
  | with_reducible refine w_isnS ?_
  | with_reducible refine w_isnR ?_
  | with_reducible refine w_isnB ?_
  | with_reducible refine w_isoN ?_
  | with_reducible refine w_isoI ?_
  | with_reducible refine w_isoS ?_
  | with_reducible refine w_isoR ?_
  | with_reducible refine w_isoB ?_
  | with_reducible refine w_abs ?_
  | with_reducible refine w_int ?_
  | with_reducible refine w_intB ?_
  | with_reducible refine w_min2 ?_
  | with_reducible refine w_max2 ?_
  | with_reducible refine w_min3 ?_
  | with_reducible refine w_sl ?_
  | with_reducible refine w_np ?_
  | with_reducible refine w_part ?_
  | ((with_reducible refine w_sStN ?_ ?h); (case h => walk_at "sz"))
  | ((with_reducible refine w_sSfN ?_ ?h); (case h => walk_at "sz"))
  | ((with_reducible refine w_sSt ?_ ?h); (case h => walk_at "sz"))
  | ((with_reducible refine w_sSf ?_ ?h); (case h => walk_at "sz"))
  | with_reducible refine w_and ?_
  | with_reducible refine w_or ?_
  | with_reducible refine w_not ?_
  | with_reducible refine w_andV ?_
  | with_reducible refine w_orV ?_
  | with_reducible refine w_notV ?_
  | with_reducible refine w_ifE ?_
  | with_reducible refine w_tup ?_
  | with_reducible refine w_lst ?_
  | with_reducible refine w_chain ?_
  | ((with_reducible refine w_par ?_); (try simp only [List.set_cons_zero, List.set_cons_succ]))
  | ((with_reducible refine w_par3 ?_); (try simp only [List.set_cons_zero, List.set_cons_succ]))
  | with_reducible refine w_three ?_
  | with_reducible refine w_un ?_
  | with_reducible refine w_neg ?_
  | with_reducible refine w_next ?_
  | with_reducible refine w_ebk ?_
  | with_reducible refine w_ect ?_
  | with_reducible refine w_for ?_
  | with_reducible refine w_lc ?_
  | with_reducible refine w_yes ?_
  | with_reducible refine w_il ?_
  | with_reducible refine w_it ?_
  | with_reducible refine w_isx ?_
  | with_reducible refine w_ir1 ?_
  | with_reducible refine w_ir2 ?_
  | with_reducible refine w_ies ?_
  | with_reducible refine w_ir3 ?_
  | with_reducible refine w_s1 ?_
  | with_reducible refine w_s1l ?_
  | ((with_reducible refine w_r1 ?_ ?h); (case h => walk_at "sz"))
  | ((with_reducible refine w_r2 ?_ ?h); (case h => walk_at "sz"))
  | ((with_reducible refine w_l1 (xs := ?xx) ?h ?_); (case h => walk_at "vget"))
  | ((with_reducible refine w_t1 (xs := ?xx) ?h ?_); (case h => walk_at "vget"))
  | ((with_reducible refine w_isL (xs := ?xx) ?h ?_); (case h => walk_at "vget"))
  | with_reducible refine w_isS ?_
  | ((with_reducible refine w_app (xs := ?xx) ?h ?_ ?z); (case h => walk_at "hget"); (case z => walk_at "sz"))
  | with_reducible refine w_inC ?_
  | with_reducible refine w_rev ?_
  | ((with_reducible refine w_rev1S ?_ ?h); (case h => walk_at "sz"))
  | with_reducible refine w_lrg ?_
  | with_reducible refine w_brk ?_
  | with_reducible refine w_cont ?_
  | with_reducible refine w_retN ?_
  | with_reducible refine w_bm ?_
  | with_reducible refine w_bm0 ?_
  | with_reducible refine w_m1 ?_
  | with_reducible refine w_sub ?_
  | ((with_reducible refine w_setL (xs := ?xx) (j := ?jj) ?h ?i ?_); (case h => walk_at "hget"); (case i => first | rfl | assumption); (try simp only [Int.reduceToNat, List.set_cons_zero, List.set_cons_succ]))
  | with_reducible refine w_ip ?_
  | with_reducible refine w_gnil ?_
  | with_reducible refine w_gcons ?_
  | ((with_reducible refine w_gL (xs := ?xx) ?h ?_ ?n); (case h => walk_at "vget"); (case n => rfl))
  | ((with_reducible refine w_gT (xs := ?xx) ?h ?_ ?n); (case h => walk_at "vget"); (case n => rfl))
  | ((with_reducible refine w_aug (v := ?vv) ?h ?_); (case h => exact rfl)))
local macro_rules | `(tactic| walk_at "v") => `(tactic| repeat walk_at "v1")
local macro_rules | `(tactic| walk_at "v0") => `(tactic| (simp only [L2.start, cxK, ends_rt, List.map_cons, List.map_nil, List.length_cons, List.length_nil, Nat.reduceAdd, Nat.reduceSub, List.replicate_succ, List.replicate_zero, List.append_nil, List.cons_append, List.nil_append]; walk_at "v"))
local macro_rules | `(tactic| walk_at "u1") => `(tactic| first
  | with_reducible refine w_seqA ?_
  | with_reducible refine w_seqD ?_
  | with_reducible refine w_seqP ?_
  | with_reducible refine w_seqP3 ?_
  | with_reducible refine w_seqG ?_
  | ((fail_if_success (with_reducible refine w_seq ?_)); walk_at "v1"))
local macro_rules | `(tactic| walk_at "u") => `(tactic| repeat walk_at "u1")
local macro_rules | `(tactic| walk_at "u0") => `(tactic| (simp only [L2.start, cxK, ends_rt, List.map_cons, List.map_nil, List.length_cons, List.length_nil, Nat.reduceAdd, Nat.reduceSub, List.replicate_succ, List.replicate_zero, List.append_nil, List.cons_append, List.nil_append]; walk_at "u"))
local macro_rules | `(tactic| walk_at "t1") => `(tactic| ((fail_if_success (with_reducible refine w_seq ?_)); walk_at "v1"))
local macro_rules | `(tactic| walk_at "t") => `(tactic| repeat walk_at "t1")

section
variable {P : Program} {w : World} {K : PySem.W.Frag} {mg : Str → Option Value} {base : Heap}
def spLaw (K : PySem.W.Frag) : Sp := fun vs H Q _ => ∃ (a : Addr) (ns : List Int), vs = [.ref a] ∧ SqL K H a (ns.map V.int) ∧ ns.length ≤ 1000000 ∧ ∀ H', Same H H' → Q (.bl true) H'
theorem cal__law_cell (T : Txt K mg) : Cal P w K mg base 1 "_law_cell" ["script", "k"] (spCellG K) := ok_cell T
theorem cal__law_box (T : Txt K mg) : Cal P w K mg base 1 "_law_box" ["great"] spBox := ok_box T
theorem fn_law (T : Txt K mg) (f : Addr) (fd : FuncData) (F : Fun K "law" "law" s_law f fd) : FnG P w K mg base 11 f fd ["script"] (spLaw K) := by
  refine fn0 F sc_law (by rintro vs H Q E ⟨a, ns, rfl, _⟩; rfl) (fun cdv f A outer s' H vs Q E hr hgd h => ?_)
  obtain ⟨a, ns, rfl, hS, hz, q⟩ := h
  refine ⟨_, (pss_cons (ps_for PassesOwn.never rfl (pi_range1 (by rfl) T.n_range (pa_cons (pe_callB (uMax2 rfl) (by rfl) T.n_max (by decide +kernel) (pa_cons pe_int (pa_cons (pe_callB (uMin2 rfl) (by rfl) T.n_min (by decide +kernel) (pa_cons pe_int (pa_cons (pe_callB (kLen K rfl) (by rfl) T.n_len (by decide +kernel) (pa_cons (pv 0) pa_nil)) pa_nil))) pa_nil))) pa_nil)) (pg_name (i := 1) sc_law.nd rfl (by first | exact Or.inl rfl | exact Or.inr rfl))
  (pss_one (ps_if (pt_not (pt_val (pe_g (cal__law_right T) hr (by decide) hgd (by rfl) noX (pa_cons (pe_g (cal__law_box T) hr (by decide) hgd (by rfl) noX (pa_cons (pe_g (cal__law_cell T) hr (by decide) hgd (by rfl) noX (pa_cons (pv 0) (pa_cons (pv 1) pa_nil))) pa_nil)) pa_nil)))) (pss_one (ps_ret pe_bl)) pss_nil)))
  (pss_one (ps_ret pe_bl))), ?_⟩
  walk_at "v0"
  obtain ⟨n, hn, hn2⟩ := min_max 4 (List.map V.int ns).length (by omega)
  rw [hn]
  refine for_rg (n := n) (by omega) (fun i σ H' => ∃ x1, σ = [some (.ref a), x1] ∧ Same H H') ⟨_, rfl, Same.refl _⟩ ?_ ?_
  · rintro i σ H1 hi ⟨x1, rfl, s1⟩
    walk_at "v"
    refine ⟨a, ns, i, rfl, by walk_at "vget", by omega, fun g H2 s2 => ?_⟩
    walk_at "v"
    refine ⟨g, rfl, fun p H3 s3 n3 b3 => ?_⟩
    have S3 := s1.trans (s2.trans s3)
    have N3 := none_same (s1.trans s2) n3
    walk_at "v"
    refine call_box b3 (.cons dn_box .nil) (fun d k => d = .bl true) (f__law_right ⟨rfl, by omega, fun k hk => rfl⟩) fun d c4 v H4 ed f4 b4 n4 => ?_
    subst ed
    obtain rfl : v = .bl true := by cases n4; rfl
    walk_at "v"
    exact ⟨_, rfl, same_box S3 N3 f4⟩
  · rintro σ H1 ⟨x1, rfl, s1⟩
    walk_at "v"
    exact q _ s1
end
theorem law_cal {P : Program} {w : World} {K : PySem.W.Frag} {mg : Str → Option Value} {fa : Addr} (hmg : mg "law" = some (.ref fa)) (T : Txt K mg) :
    ∃ fd : FuncData, (∀ (s : Shared) (u : Value), BindsTo s fd ⟨[u], []⟩ [("script", u)]) ∧ ∀ base : Heap, K.In base → base.Ns mainGlobals mg → FnG P w K mg base 11 fa fd ["script"] (spLaw K) := by
  obtain ⟨f, fd, F, hm, hb⟩ := T.d_law.ex
  rw [hmg] at hm
  cases hm
  exact ⟨fd, fun s u => hb s [u] rfl, fun base _ _ => fn_law T _ fd F⟩
theorem law_sp {K : PySem.W.Frag} {H : Hp} {a : Addr} {ns : List Int} {n : Nat} (hl : ns.length ≤ n) (hO : Only H) (hS : SqL K H a (ns.map V.int)) (hn : n ≤ 1000000 := by decide) : spLaw K [.ref a] H (fun v _ => v = .bl true) fun _ _ _ => False :=
  ⟨a, ns, rfl, hS, Nat.le_trans hl hn, fun _ _ => rfl⟩


theorem all_mk {K : PySem.W.Frag} {h : Heap} {mg : Str → Option Value} (X : K.In h) (G : h.Ns mainGlobals mg)
    {f0 : Addr} {od0 an0 : Option Addr} {sl0 : Array (Option Value)} {oc0 kV0 dc0 pm0 cd0 ct0 : Value}
    {f1 : Addr} {od1 an1 : Option Addr} {sl1 : Array (Option Value)} {oc1 kV1 dc1 pm1 cd1 ct1 : Value}
    {f2 : Addr} {od2 an2 : Option Addr} {sl2 : Array (Option Value)} {oc2 kV2 dc2 pm2 cd2 ct2 : Value}
    {f3 : Addr} {od3 an3 : Option Addr} {sl3 : Array (Option Value)} {oc3 kV3 dc3 pm3 cd3 ct3 : Value}
    {f4 : Addr} {od4 an4 : Option Addr} {sl4 : Array (Option Value)} {oc4 kV4 dc4 pm4 cd4 ct4 : Value}
    {f5 : Addr} {od5 an5 : Option Addr} {sl5 : Array (Option Value)} {oc5 kV5 dc5 pm5 cd5 ct5 : Value}
    {f6 : Addr} {od6 an6 : Option Addr} {sl6 : Array (Option Value)} {oc6 kV6 dc6 pm6 cd6 ct6 : Value}
    {f7 : Addr} {od7 an7 : Option Addr} {sl7 : Array (Option Value)} {oc7 kV7 dc7 pm7 cd7 ct7 : Value}
    {f8 : Addr} {od8 an8 : Option Addr} {sl8 : Array (Option Value)} {oc8 kV8 dc8 pm8 cd8 ct8 : Value}
    {f9 : Addr} {od9 an9 : Option Addr} {sl9 : Array (Option Value)} {oc9 kV9 dc9 pm9 cd9 ct9 : Value}
    {f10 : Addr} {od10 an10 : Option Addr} {sl10 : Array (Option Value)} {oc10 kV10 dc10 pm10 cd10 ct10 : Value}
    {f11 : Addr} {od11 an11 : Option Addr} {sl11 : Array (Option Value)} {oc11 kV11 dc11 pm11 cd11 ct11 : Value}
    {f12 : Addr} {od12 an12 : Option Addr} {sl12 : Array (Option Value)} {oc12 kV12 dc12 pm12 cd12 ct12 : Value}
    {f13 : Addr} {od13 an13 : Option Addr} {sl13 : Array (Option Value)} {oc13 kV13 dc13 pm13 cd13 ct13 : Value}
    {f14 : Addr} {od14 an14 : Option Addr} {sl14 : Array (Option Value)} {oc14 kV14 dc14 pm14 cd14 ct14 : Value}
    {f15 : Addr} {od15 an15 : Option Addr} {sl15 : Array (Option Value)} {oc15 kV15 dc15 pm15 cd15 ct15 : Value}
    {f16 : Addr} {od16 an16 : Option Addr} {sl16 : Array (Option Value)} {oc16 kV16 dc16 pm16 cd16 ct16 : Value}
    {f17 : Addr} {od17 an17 : Option Addr} {sl17 : Array (Option Value)} {oc17 kV17 dc17 pm17 cd17 ct17 : Value}
    {f18 : Addr} {od18 an18 : Option Addr} {sl18 : Array (Option Value)} {oc18 kV18 dc18 pm18 cd18 ct18 : Value}
    {f19 : Addr} {od19 an19 : Option Addr} {sl19 : Array (Option Value)} {oc19 kV19 dc19 pm19 cd19 ct19 : Value}
    {f20 : Addr} {od20 an20 : Option Addr} {sl20 : Array (Option Value)} {oc20 kV20 dc20 pm20 cd20 ct20 : Value}
    {f21 : Addr} {od21 an21 : Option Addr} {sl21 : Array (Option Value)} {oc21 kV21 dc21 pm21 cd21 ct21 : Value}
    {f22 : Addr} {od22 an22 : Option Addr} {sl22 : Array (Option Value)} {oc22 kV22 dc22 pm22 cd22 ct22 : Value}
    {f23 : Addr} {od23 an23 : Option Addr} {sl23 : Array (Option Value)} {oc23 kV23 dc23 pm23 cd23 ct23 : Value}
    {f24 : Addr} {od24 an24 : Option Addr} {sl24 : Array (Option Value)} {oc24 kV24 dc24 pm24 cd24 ct24 : Value}
    {f25 : Addr} {od25 an25 : Option Addr} {sl25 : Array (Option Value)} {oc25 kV25 dc25 pm25 cd25 ct25 : Value}
    {f26 : Addr} {od26 an26 : Option Addr} {sl26 : Array (Option Value)} {oc26 kV26 dc26 pm26 cd26 ct26 : Value}
    {f27 : Addr} {od27 an27 : Option Addr} {sl27 : Array (Option Value)} {oc27 kV27 dc27 pm27 cd27 ct27 : Value}
    {f28 : Addr} {od28 an28 : Option Addr} {sl28 : Array (Option Value)} {oc28 kV28 dc28 pm28 cd28 ct28 : Value}
    {B : Addr}
    {C_InvalidPassing I_InvalidPassing N_InvalidPassing : Addr} {nm_InvalidPassing q_InvalidPassing : Str} {bs_InvalidPassing sub_InvalidPassing : List Value} {sn_InvalidPassing : List Str} {ab_InvalidPassing : Bool} {col_InvalidPassing : Option Bool} {dd_InvalidPassing od_InvalidPassing an_InvalidPassing : Option Addr} {m0_InvalidPassing m1_InvalidPassing m2_InvalidPassing m3_InvalidPassing m5_InvalidPassing : Option Value} {sl_InvalidPassing : Array (Option Value)} {oc_InvalidPassing dc_InvalidPassing pm_InvalidPassing cd_InvalidPassing ct_InvalidPassing : Value}
    {C_InvalidSigns I_InvalidSigns N_InvalidSigns : Addr} {nm_InvalidSigns q_InvalidSigns : Str} {bs_InvalidSigns sub_InvalidSigns : List Value} {sn_InvalidSigns : List Str} {ab_InvalidSigns : Bool} {col_InvalidSigns : Option Bool} {dd_InvalidSigns od_InvalidSigns an_InvalidSigns : Option Addr} {m0_InvalidSigns m1_InvalidSigns m2_InvalidSigns m3_InvalidSigns m5_InvalidSigns : Option Value} {sl_InvalidSigns : Array (Option Value)} {oc_InvalidSigns dc_InvalidSigns pm_InvalidSigns cd_InvalidSigns ct_InvalidSigns : Value}
    {t_MOST_SIGNS : Tok}
    (a0 : PySem.W.nsIn K mainGlobals "is_integer" = some (some (.ref f0))) (l0 : K.lookup f0 = some ⟨oc0, od0, .func (PySem.W.fnOf "is_integer" "is_integer" (defArgs s_is_integer) (defBody s_is_integer) (defScope s_is_integer) .none kV0 dc0 pm0 an0 cd0 ct0), sl0⟩) (c0 : PySem.W.codeIn K cd0 "is_integer" = true) (k0 : PySem.W.keepIn K (.ref f0) = true)
    (a1 : PySem.W.nsIn K mainGlobals "is_index" = some (some (.ref f1))) (l1 : K.lookup f1 = some ⟨oc1, od1, .func (PySem.W.fnOf "is_index" "is_index" (defArgs s_is_index) (defBody s_is_index) (defScope s_is_index) .none kV1 dc1 pm1 an1 cd1 ct1), sl1⟩) (c1 : PySem.W.codeIn K cd1 "is_index" = true) (k1 : PySem.W.keepIn K (.ref f1) = true)
    (a2 : PySem.W.nsIn K mainGlobals "is_signs" = some (some (.ref f2))) (l2 : K.lookup f2 = some ⟨oc2, od2, .func (PySem.W.fnOf "is_signs" "is_signs" (defArgs s_is_signs) (defBody s_is_signs) (defScope s_is_signs) .none kV2 dc2 pm2 an2 cd2 ct2), sl2⟩) (c2 : PySem.W.codeIn K cd2 "is_signs" = true) (k2 : PySem.W.keepIn K (.ref f2) = true)
    (a3 : PySem.W.nsIn K mainGlobals "is_sign" = some (some (.ref f3))) (l3 : K.lookup f3 = some ⟨oc3, od3, .func (PySem.W.fnOf "is_sign" "is_sign" (defArgs s_is_sign) (defBody s_is_sign) (defScope s_is_sign) .none kV3 dc3 pm3 an3 cd3 ct3), sl3⟩) (c3 : PySem.W.codeIn K cd3 "is_sign" = true) (k3 : PySem.W.keepIn K (.ref f3) = true)
    (a4 : PySem.W.nsIn K mainGlobals "check_signs" = some (some (.ref f4))) (l4 : K.lookup f4 = some ⟨oc4, od4, .func (PySem.W.fnOf "check_signs" "check_signs" (defArgs s_check_signs) (defBody s_check_signs) (defScope s_check_signs) .none kV4 dc4 pm4 an4 cd4 ct4), sl4⟩) (c4 : PySem.W.codeIn K cd4 "check_signs" = true) (k4 : PySem.W.keepIn K (.ref f4) = true)
    (a5 : PySem.W.nsIn K mainGlobals "is_kind" = some (some (.ref f5))) (l5 : K.lookup f5 = some ⟨oc5, od5, .func (PySem.W.fnOf "is_kind" "is_kind" (defArgs s_is_kind) (defBody s_is_kind) (defScope s_is_kind) .none kV5 dc5 pm5 an5 cd5 ct5), sl5⟩) (c5 : PySem.W.codeIn K cd5 "is_kind" = true) (k5 : PySem.W.keepIn K (.ref f5) = true)
    (a6 : PySem.W.nsIn K mainGlobals "all_kinds" = some (some (.ref f6))) (l6 : K.lookup f6 = some ⟨oc6, od6, .func (PySem.W.fnOf "all_kinds" "all_kinds" (defArgs s_all_kinds) (defBody s_all_kinds) (defScope s_all_kinds) .none kV6 dc6 pm6 an6 cd6 ct6), sl6⟩) (c6 : PySem.W.codeIn K cd6 "all_kinds" = true) (k6 : PySem.W.keepIn K (.ref f6) = true)
    (a7 : PySem.W.nsIn K mainGlobals "is_same" = some (some (.ref f7))) (l7 : K.lookup f7 = some ⟨oc7, od7, .func (PySem.W.fnOf "is_same" "is_same" (defArgs s_is_same) (defBody s_is_same) (defScope s_is_same) .none kV7 dc7 pm7 an7 cd7 ct7), sl7⟩) (c7 : PySem.W.codeIn K cd7 "is_same" = true) (k7 : PySem.W.keepIn K (.ref f7) = true)
    (a8 : PySem.W.nsIn K mainGlobals "is_passing" = some (some (.ref f8))) (l8 : K.lookup f8 = some ⟨oc8, od8, .func (PySem.W.fnOf "is_passing" "is_passing" (defArgs s_is_passing) (defBody s_is_passing) (defScope s_is_passing) .none kV8 dc8 pm8 an8 cd8 ct8), sl8⟩) (c8 : PySem.W.codeIn K cd8 "is_passing" = true) (k8 : PySem.W.keepIn K (.ref f8) = true)
    (a9 : PySem.W.nsIn K mainGlobals "check_passing" = some (some (.ref f9))) (l9 : K.lookup f9 = some ⟨oc9, od9, .func (PySem.W.fnOf "check_passing" "check_passing" (defArgs s_check_passing) (defBody s_check_passing) (defScope s_check_passing) .none kV9 dc9 pm9 an9 cd9 ct9), sl9⟩) (c9 : PySem.W.codeIn K cd9 "check_passing" = true) (k9 : PySem.W.keepIn K (.ref f9) = true)
    (a10 : PySem.W.nsIn K mainGlobals "sent" = some (some (.ref f10))) (l10 : K.lookup f10 = some ⟨oc10, od10, .func (PySem.W.fnOf "sent" "sent" (defArgs s_sent) (defBody s_sent) (defScope s_sent) .none kV10 dc10 pm10 an10 cd10 ct10), sl10⟩) (c10 : PySem.W.codeIn K cd10 "sent" = true) (k10 : PySem.W.keepIn K (.ref f10) = true)
    (a11 : PySem.W.nsIn K mainGlobals "came" = some (some (.ref f11))) (l11 : K.lookup f11 = some ⟨oc11, od11, .func (PySem.W.fnOf "came" "came" (defArgs s_came) (defBody s_came) (defScope s_came) .none kV11 dc11 pm11 an11 cd11 ct11), sl11⟩) (c11 : PySem.W.codeIn K cd11 "came" = true) (k11 : PySem.W.keepIn K (.ref f11) = true)
    (a12 : PySem.W.nsIn K mainGlobals "errors_in" = some (some (.ref f12))) (l12 : K.lookup f12 = some ⟨oc12, od12, .func (PySem.W.fnOf "errors_in" "errors_in" (defArgs s_errors_in) (defBody s_errors_in) (defScope s_errors_in) .none kV12 dc12 pm12 an12 cd12 ct12), sl12⟩) (c12 : PySem.W.codeIn K cd12 "errors_in" = true) (k12 : PySem.W.keepIn K (.ref f12) = true)
    (a13 : PySem.W.nsIn K mainGlobals "_law_cell" = some (some (.ref f13))) (l13 : K.lookup f13 = some ⟨oc13, od13, .func (PySem.W.fnOf "_law_cell" "_law_cell" (defArgs s__law_cell) (defBody s__law_cell) (defScope s__law_cell) .none kV13 dc13 pm13 an13 cd13 ct13), sl13⟩) (c13 : PySem.W.codeIn K cd13 "_law_cell" = true) (k13 : PySem.W.keepIn K (.ref f13) = true)
    (a14 : PySem.W.nsIn K mainGlobals "_law_box" = some (some (.ref f14))) (l14 : K.lookup f14 = some ⟨oc14, od14, .func (PySem.W.fnOf "_law_box" "_law_box" (defArgs s__law_box) (defBody s__law_box) (defScope s__law_box) .none kV14 dc14 pm14 an14 cd14 ct14), sl14⟩) (c14 : PySem.W.codeIn K cd14 "_law_box" = true) (k14 : PySem.W.keepIn K (.ref f14) = true)
    (a15 : PySem.W.nsIn K mainGlobals "_law_take" = some (some (.ref f15))) (l15 : K.lookup f15 = some ⟨oc15, od15, .func (PySem.W.fnOf "_law_take" "_law_take" (defArgs s__law_take) (defBody s__law_take) (defScope s__law_take) .none kV15 dc15 pm15 an15 cd15 ct15), sl15⟩) (c15 : PySem.W.codeIn K cd15 "_law_take" = true) (k15 : PySem.W.keepIn K (.ref f15) = true)
    (a16 : PySem.W.nsIn K mainGlobals "_law_is_signs" = some (some (.ref f16))) (l16 : K.lookup f16 = some ⟨oc16, od16, .func (PySem.W.fnOf "_law_is_signs" "_law_is_signs" (defArgs s__law_is_signs) (defBody s__law_is_signs) (defScope s__law_is_signs) .none kV16 dc16 pm16 an16 cd16 ct16), sl16⟩) (c16 : PySem.W.codeIn K cd16 "_law_is_signs" = true) (k16 : PySem.W.keepIn K (.ref f16) = true)
    (a17 : PySem.W.nsIn K mainGlobals "_law_is_sign" = some (some (.ref f17))) (l17 : K.lookup f17 = some ⟨oc17, od17, .func (PySem.W.fnOf "_law_is_sign" "_law_is_sign" (defArgs s__law_is_sign) (defBody s__law_is_sign) (defScope s__law_is_sign) .none kV17 dc17 pm17 an17 cd17 ct17), sl17⟩) (c17 : PySem.W.codeIn K cd17 "_law_is_sign" = true) (k17 : PySem.W.keepIn K (.ref f17) = true)
    (a18 : PySem.W.nsIn K mainGlobals "_law_is_kind" = some (some (.ref f18))) (l18 : K.lookup f18 = some ⟨oc18, od18, .func (PySem.W.fnOf "_law_is_kind" "_law_is_kind" (defArgs s__law_is_kind) (defBody s__law_is_kind) (defScope s__law_is_kind) .none kV18 dc18 pm18 an18 cd18 ct18), sl18⟩) (c18 : PySem.W.codeIn K cd18 "_law_is_kind" = true) (k18 : PySem.W.keepIn K (.ref f18) = true)
    (a19 : PySem.W.nsIn K mainGlobals "_law_is_passing" = some (some (.ref f19))) (l19 : K.lookup f19 = some ⟨oc19, od19, .func (PySem.W.fnOf "_law_is_passing" "_law_is_passing" (defArgs s__law_is_passing) (defBody s__law_is_passing) (defScope s__law_is_passing) .none kV19 dc19 pm19 an19 cd19 ct19), sl19⟩) (c19 : PySem.W.codeIn K cd19 "_law_is_passing" = true) (k19 : PySem.W.keepIn K (.ref f19) = true)
    (a20 : PySem.W.nsIn K mainGlobals "_law_step" = some (some (.ref f20))) (l20 : K.lookup f20 = some ⟨oc20, od20, .func (PySem.W.fnOf "_law_step" "_law_step" (defArgs s__law_step) (defBody s__law_step) (defScope s__law_step) .none kV20 dc20 pm20 an20 cd20 ct20), sl20⟩) (c20 : PySem.W.codeIn K cd20 "_law_step" = true) (k20 : PySem.W.keepIn K (.ref f20) = true)
    (a21 : PySem.W.nsIn K mainGlobals "_law_passing" = some (some (.ref f21))) (l21 : K.lookup f21 = some ⟨oc21, od21, .func (PySem.W.fnOf "_law_passing" "_law_passing" (defArgs s__law_passing) (defBody s__law_passing) (defScope s__law_passing) .none kV21 dc21 pm21 an21 cd21 ct21), sl21⟩) (c21 : PySem.W.codeIn K cd21 "_law_passing" = true) (k21 : PySem.W.keepIn K (.ref f21) = true)
    (a22 : PySem.W.nsIn K mainGlobals "_law_odd" = some (some (.ref f22))) (l22 : K.lookup f22 = some ⟨oc22, od22, .func (PySem.W.fnOf "_law_odd" "_law_odd" (defArgs s__law_odd) (defBody s__law_odd) (defScope s__law_odd) .none kV22 dc22 pm22 an22 cd22 ct22), sl22⟩) (c22 : PySem.W.codeIn K cd22 "_law_odd" = true) (k22 : PySem.W.keepIn K (.ref f22) = true)
    (a23 : PySem.W.nsIn K mainGlobals "_law_near" = some (some (.ref f23))) (l23 : K.lookup f23 = some ⟨oc23, od23, .func (PySem.W.fnOf "_law_near" "_law_near" (defArgs s__law_near) (defBody s__law_near) (defScope s__law_near) .none kV23 dc23 pm23 an23 cd23 ct23), sl23⟩) (c23 : PySem.W.codeIn K cd23 "_law_near" = true) (k23 : PySem.W.keepIn K (.ref f23) = true)
    (a24 : PySem.W.nsIn K mainGlobals "_law_ask" = some (some (.ref f24))) (l24 : K.lookup f24 = some ⟨oc24, od24, .func (PySem.W.fnOf "_law_ask" "_law_ask" (defArgs s__law_ask) (defBody s__law_ask) (defScope s__law_ask) .none kV24 dc24 pm24 an24 cd24 ct24), sl24⟩) (c24 : PySem.W.codeIn K cd24 "_law_ask" = true) (k24 : PySem.W.keepIn K (.ref f24) = true)
    (a25 : PySem.W.nsIn K mainGlobals "_law_doors_right" = some (some (.ref f25))) (l25 : K.lookup f25 = some ⟨oc25, od25, .func (PySem.W.fnOf "_law_doors_right" "_law_doors_right" (defArgs s__law_doors_right) (defBody s__law_doors_right) (defScope s__law_doors_right) .none kV25 dc25 pm25 an25 cd25 ct25), sl25⟩) (c25 : PySem.W.codeIn K cd25 "_law_doors_right" = true) (k25 : PySem.W.keepIn K (.ref f25) = true)
    (a26 : PySem.W.nsIn K mainGlobals "_law_all_right" = some (some (.ref f26))) (l26 : K.lookup f26 = some ⟨oc26, od26, .func (PySem.W.fnOf "_law_all_right" "_law_all_right" (defArgs s__law_all_right) (defBody s__law_all_right) (defScope s__law_all_right) .none kV26 dc26 pm26 an26 cd26 ct26), sl26⟩) (c26 : PySem.W.codeIn K cd26 "_law_all_right" = true) (k26 : PySem.W.keepIn K (.ref f26) = true)
    (a27 : PySem.W.nsIn K mainGlobals "_law_right" = some (some (.ref f27))) (l27 : K.lookup f27 = some ⟨oc27, od27, .func (PySem.W.fnOf "_law_right" "_law_right" (defArgs s__law_right) (defBody s__law_right) (defScope s__law_right) .none kV27 dc27 pm27 an27 cd27 ct27), sl27⟩) (c27 : PySem.W.codeIn K cd27 "_law_right" = true) (k27 : PySem.W.keepIn K (.ref f27) = true)
    (a28 : PySem.W.nsIn K mainGlobals "law" = some (some (.ref f28))) (l28 : K.lookup f28 = some ⟨oc28, od28, .func (PySem.W.fnOf "law" "law" (defArgs s_law) (defBody s_law) (defScope s_law) .none kV28 dc28 pm28 an28 cd28 ct28), sl28⟩) (c28 : PySem.W.codeIn K cd28 "law" = true) (k28 : PySem.W.keepIn K (.ref f28) = true)
    (bB : PySem.W.nsIn K mainGlobals "CodecError" = some (some (.ref B))) (bsp : PySem.W.specialIn K (.ref B) "__getattribute__" = some (some (.builtin "type.__getattribute__"))) (brd : PySem.W.readsIn K B (.type "type") = true) (bfc : PySem.W.findCls K (.ref B) (.type "type") "__init__" = some (.val (.builtin "Exception.__init__")))
    (aC_InvalidPassing : PySem.W.nsIn K mainGlobals "InvalidPassing" = some (some (.ref C_InvalidPassing))) (xL_InvalidPassing : K.lookup C_InvalidPassing = some (excClassObj nm_InvalidPassing q_InvalidPassing C_InvalidPassing N_InvalidPassing bs_InvalidPassing [.ref B, .type "Exception", .type "BaseException", .type "object"] true sn_InvalidPassing sub_InvalidPassing ab_InvalidPassing col_InvalidPassing dd_InvalidPassing m0_InvalidPassing m1_InvalidPassing m2_InvalidPassing m3_InvalidPassing m5_InvalidPassing "Exception.__new__")) (sa_InvalidPassing : PySem.W.findIn K (.ref C_InvalidPassing) "__setattr__" = some (some (.builtin "object.__setattr__"))) (ga_InvalidPassing : PySem.W.findIn K (.ref C_InvalidPassing) "__getattribute__" = some (some (.builtin "BaseException.__getattribute__"))) (gg_InvalidPassing : PySem.W.findIn K (.ref C_InvalidPassing) "__getattr__" = some none) (nb_InvalidPassing : PySem.W.findIn K (.ref C_InvalidPassing) "given" = some none) (a1_InvalidPassing : PySem.W.findIn K (.ref C_InvalidPassing) "__init__" = some (some (.ref I_InvalidPassing))) (t1_InvalidPassing : PySem.W.typeIn K (.ref I_InvalidPassing) = some (.type "function")) (l1_InvalidPassing : K.lookup I_InvalidPassing = some ⟨oc_InvalidPassing, od_InvalidPassing, .func (PySem.W.fnOf "__init__" "InvalidPassing.__init__" (defArgs s_InvalidPassing___init__) (defBody s_InvalidPassing___init__) (defScope s_InvalidPassing___init__) .none .none dc_InvalidPassing pm_InvalidPassing an_InvalidPassing cd_InvalidPassing ct_InvalidPassing), sl_InvalidPassing⟩) (c1_InvalidPassing : PySem.W.codeIn K cd_InvalidPassing "InvalidPassing.__init__" = true) (kC_InvalidPassing : PySem.W.keepIn K (.ref C_InvalidPassing) = true) (eC_InvalidPassing : PySem.W.subIn K (.ref C_InvalidPassing) (.type "BaseException") = some true) (tC_InvalidPassing : PySem.W.typeIn K (.ref C_InvalidPassing) = some (.type "type")) (hC_InvalidPassing : PySem.W.hasDictIn K C_InvalidPassing = true) (iC_InvalidPassing : PySem.W.isClsIn K C_InvalidPassing = true) (sC_InvalidPassing : PySem.W.subIn K (.ref C_InvalidPassing) (.ref C_InvalidPassing) = some true)
    (aC_InvalidSigns : PySem.W.nsIn K mainGlobals "InvalidSigns" = some (some (.ref C_InvalidSigns))) (xL_InvalidSigns : K.lookup C_InvalidSigns = some (excClassObj nm_InvalidSigns q_InvalidSigns C_InvalidSigns N_InvalidSigns bs_InvalidSigns [.ref B, .type "Exception", .type "BaseException", .type "object"] true sn_InvalidSigns sub_InvalidSigns ab_InvalidSigns col_InvalidSigns dd_InvalidSigns m0_InvalidSigns m1_InvalidSigns m2_InvalidSigns m3_InvalidSigns m5_InvalidSigns "Exception.__new__")) (sa_InvalidSigns : PySem.W.findIn K (.ref C_InvalidSigns) "__setattr__" = some (some (.builtin "object.__setattr__"))) (ga_InvalidSigns : PySem.W.findIn K (.ref C_InvalidSigns) "__getattribute__" = some (some (.builtin "BaseException.__getattribute__"))) (gg_InvalidSigns : PySem.W.findIn K (.ref C_InvalidSigns) "__getattr__" = some none) (nb_InvalidSigns : PySem.W.findIn K (.ref C_InvalidSigns) "given" = some none) (a1_InvalidSigns : PySem.W.findIn K (.ref C_InvalidSigns) "__init__" = some (some (.ref I_InvalidSigns))) (t1_InvalidSigns : PySem.W.typeIn K (.ref I_InvalidSigns) = some (.type "function")) (l1_InvalidSigns : K.lookup I_InvalidSigns = some ⟨oc_InvalidSigns, od_InvalidSigns, .func (PySem.W.fnOf "__init__" "InvalidSigns.__init__" (defArgs s_InvalidSigns___init__) (defBody s_InvalidSigns___init__) (defScope s_InvalidSigns___init__) .none .none dc_InvalidSigns pm_InvalidSigns an_InvalidSigns cd_InvalidSigns ct_InvalidSigns), sl_InvalidSigns⟩) (c1_InvalidSigns : PySem.W.codeIn K cd_InvalidSigns "InvalidSigns.__init__" = true) (kC_InvalidSigns : PySem.W.keepIn K (.ref C_InvalidSigns) = true) (eC_InvalidSigns : PySem.W.subIn K (.ref C_InvalidSigns) (.type "BaseException") = some true) (tC_InvalidSigns : PySem.W.typeIn K (.ref C_InvalidSigns) = some (.type "type")) (hC_InvalidSigns : PySem.W.hasDictIn K C_InvalidSigns = true) (iC_InvalidSigns : PySem.W.isClsIn K C_InvalidSigns = true) (sC_InvalidSigns : PySem.W.subIn K (.ref C_InvalidSigns) (.ref C_InvalidSigns) = some true)
    (no_InvalidPassing_InvalidSigns : PySem.W.subIn K (.ref C_InvalidPassing) (.ref C_InvalidSigns) = some false)
    (no_InvalidSigns_InvalidPassing : PySem.W.subIn K (.ref C_InvalidSigns) (.ref C_InvalidPassing) = some false)
    (iB : PySem.W.isClsIn K B = true) (tB : PySem.W.typeIn K (.ref B) = some (.type "type"))
    (sB_InvalidPassing : PySem.W.subIn K (.ref C_InvalidPassing) (.ref B) = some true)
    (sB_InvalidSigns : PySem.W.subIn K (.ref C_InvalidSigns) (.ref B) = some true)
    (z_abs : PySem.W.nsIn K mainGlobals "abs" = some none)
    (z_all : PySem.W.nsIn K mainGlobals "all" = some none)
    (z_bool : PySem.W.nsIn K mainGlobals "bool" = some none)
    (z_int : PySem.W.nsIn K mainGlobals "int" = some none)
    (z_isinstance : PySem.W.nsIn K mainGlobals "isinstance" = some none)
    (z_len : PySem.W.nsIn K mainGlobals "len" = some none)
    (z_list : PySem.W.nsIn K mainGlobals "list" = some none)
    (z_max : PySem.W.nsIn K mainGlobals "max" = some none)
    (z_min : PySem.W.nsIn K mainGlobals "min" = some none)
    (z_range : PySem.W.nsIn K mainGlobals "range" = some none)
    (z_repr : PySem.W.nsIn K mainGlobals "repr" = some none)
    (z_str : PySem.W.nsIn K mainGlobals "str" = some none)
    (z_sum : PySem.W.nsIn K mainGlobals "sum" = some none)
    (z_tuple : PySem.W.nsIn K mainGlobals "tuple" = some none)
    (q_MOST_SIGNS : PySem.W.nsIn K mainGlobals "MOST_SIGNS" = some (some (.int 5 t_MOST_SIGNS)))
    : Txt K mg where
  d_is_integer := .of f0 _ (fun_mk (st := s_is_integer) l0 c0 k0) (PySem.W.mg_of X G a0) fun s us hl => match us, hl with | [_], _ => .of_eq rfl
  d_is_index := .of f1 _ (fun_mk (st := s_is_index) l1 c1 k1) (PySem.W.mg_of X G a1) fun s us hl => match us, hl with | [_, _], _ => .of_eq rfl
  d_is_signs := .of f2 _ (fun_mk (st := s_is_signs) l2 c2 k2) (PySem.W.mg_of X G a2) fun s us hl => match us, hl with | [_], _ => .of_eq rfl
  d_is_sign := .of f3 _ (fun_mk (st := s_is_sign) l3 c3 k3) (PySem.W.mg_of X G a3) fun s us hl => match us, hl with | [_, _], _ => .of_eq rfl
  d_check_signs := .of f4 _ (fun_mk (st := s_check_signs) l4 c4 k4) (PySem.W.mg_of X G a4) fun s us hl => match us, hl with | [_], _ => .of_eq rfl
  d_is_kind := .of f5 _ (fun_mk (st := s_is_kind) l5 c5 k5) (PySem.W.mg_of X G a5) fun s us hl => match us, hl with | [_, _], _ => .of_eq rfl
  d_all_kinds := .of f6 _ (fun_mk (st := s_all_kinds) l6 c6 k6) (PySem.W.mg_of X G a6) fun s us hl => match us, hl with | [_], _ => .of_eq rfl
  d_is_same := .of f7 _ (fun_mk (st := s_is_same) l7 c7 k7) (PySem.W.mg_of X G a7) fun s us hl => match us, hl with | [_, _], _ => .of_eq rfl
  d_is_passing := .of f8 _ (fun_mk (st := s_is_passing) l8 c8 k8) (PySem.W.mg_of X G a8) fun s us hl => match us, hl with | [_, _], _ => .of_eq rfl
  d_check_passing := .of f9 _ (fun_mk (st := s_check_passing) l9 c9 k9) (PySem.W.mg_of X G a9) fun s us hl => match us, hl with | [_, _], _ => .of_eq rfl
  d_sent := .of f10 _ (fun_mk (st := s_sent) l10 c10 k10) (PySem.W.mg_of X G a10) fun s us hl => match us, hl with | [_], _ => .of_eq rfl
  d_came := .of f11 _ (fun_mk (st := s_came) l11 c11 k11) (PySem.W.mg_of X G a11) fun s us hl => match us, hl with | [_], _ => .of_eq rfl
  d_errors_in := .of f12 _ (fun_mk (st := s_errors_in) l12 c12 k12) (PySem.W.mg_of X G a12) fun s us hl => match us, hl with | [_], _ => .of_eq rfl
  d__law_cell := .of f13 _ (fun_mk (st := s__law_cell) l13 c13 k13) (PySem.W.mg_of X G a13) fun s us hl => match us, hl with | [_, _], _ => .of_eq rfl
  d__law_box := .of f14 _ (fun_mk (st := s__law_box) l14 c14 k14) (PySem.W.mg_of X G a14) fun s us hl => match us, hl with | [_], _ => .of_eq rfl
  d__law_take := .of f15 _ (fun_mk (st := s__law_take) l15 c15 k15) (PySem.W.mg_of X G a15) fun s us hl => match us, hl with | [_, _], _ => .of_eq rfl
  d__law_is_signs := .of f16 _ (fun_mk (st := s__law_is_signs) l16 c16 k16) (PySem.W.mg_of X G a16) fun s us hl => match us, hl with | [_], _ => .of_eq rfl
  d__law_is_sign := .of f17 _ (fun_mk (st := s__law_is_sign) l17 c17 k17) (PySem.W.mg_of X G a17) fun s us hl => match us, hl with | [_, _], _ => .of_eq rfl
  d__law_is_kind := .of f18 _ (fun_mk (st := s__law_is_kind) l18 c18 k18) (PySem.W.mg_of X G a18) fun s us hl => match us, hl with | [_, _], _ => .of_eq rfl
  d__law_is_passing := .of f19 _ (fun_mk (st := s__law_is_passing) l19 c19 k19) (PySem.W.mg_of X G a19) fun s us hl => match us, hl with | [_, _], _ => .of_eq rfl
  d__law_step := .of f20 _ (fun_mk (st := s__law_step) l20 c20 k20) (PySem.W.mg_of X G a20) fun s us hl => match us, hl with | [_, _], _ => .of_eq rfl
  d__law_passing := .of f21 _ (fun_mk (st := s__law_passing) l21 c21 k21) (PySem.W.mg_of X G a21) fun s us hl => match us, hl with | [_, _], _ => .of_eq rfl
  d__law_odd := .of f22 _ (fun_mk (st := s__law_odd) l22 c22 k22) (PySem.W.mg_of X G a22) fun s us hl => match us, hl with | [_, _, _], _ => .of_eq rfl
  d__law_near := .of f23 _ (fun_mk (st := s__law_near) l23 c23 k23) (PySem.W.mg_of X G a23) fun s us hl => match us, hl with | [_, _, _], _ => .of_eq rfl
  d__law_ask := .of f24 _ (fun_mk (st := s__law_ask) l24 c24 k24) (PySem.W.mg_of X G a24) fun s us hl => match us, hl with | [_, _], _ => .of_eq rfl
  d__law_doors_right := .of f25 _ (fun_mk (st := s__law_doors_right) l25 c25 k25) (PySem.W.mg_of X G a25) fun s us hl => match us, hl with | [_], _ => .of_eq rfl
  d__law_all_right := .of f26 _ (fun_mk (st := s__law_all_right) l26 c26 k26) (PySem.W.mg_of X G a26) fun s us hl => match us, hl with | [_, _], _ => .of_eq rfl
  d__law_right := .of f27 _ (fun_mk (st := s__law_right) l27 c27 k27) (PySem.W.mg_of X G a27) fun s us hl => match us, hl with | [_], _ => .of_eq rfl
  d_law := .of f28 _ (fun_mk (st := s_law) l28 c28 k28) (PySem.W.mg_of X G a28) fun s us hl => match us, hl with | [_], _ => .of_eq rfl
  x_InvalidPassing := ErrAt.of { gC := PySem.W.mg_of X G aC_InvalidPassing, gB := PySem.W.mg_of X G bB, cls := ⟨nm_InvalidPassing, q_InvalidPassing, N_InvalidPassing, bs_InvalidPassing, sn_InvalidPassing, sub_InvalidPassing, ab_InvalidPassing, col_InvalidPassing, dd_InvalidPassing, m0_InvalidPassing, m1_InvalidPassing, m2_InvalidPassing, m3_InvalidPassing, m5_InvalidPassing, xL_InvalidPassing⟩, sa := sa_InvalidPassing, ga := ga_InvalidPassing, gg := gg_InvalidPassing, noN := nb_InvalidPassing, iC := a1_InvalidPassing, tC := t1_InvalidPassing, kC := kC_InvalidPassing, exC := eC_InvalidPassing, tyC := tC_InvalidPassing, hdC := hC_InvalidPassing, te := exm_self eC_InvalidPassing iC_InvalidPassing tC_InvalidPassing sC_InvalidPassing, sp := bsp, rd := brd, fc := bfc, fn := ⟨_, _, _, _, _, _, _, _, _, _, _, _, _, _, _, _, _, _, _, _, _, _, _, l1_InvalidPassing, c1_InvalidPassing, fun env => ⟨_, rfl⟩⟩ }
  x_InvalidSigns := ErrAt.of { gC := PySem.W.mg_of X G aC_InvalidSigns, gB := PySem.W.mg_of X G bB, cls := ⟨nm_InvalidSigns, q_InvalidSigns, N_InvalidSigns, bs_InvalidSigns, sn_InvalidSigns, sub_InvalidSigns, ab_InvalidSigns, col_InvalidSigns, dd_InvalidSigns, m0_InvalidSigns, m1_InvalidSigns, m2_InvalidSigns, m3_InvalidSigns, m5_InvalidSigns, xL_InvalidSigns⟩, sa := sa_InvalidSigns, ga := ga_InvalidSigns, gg := gg_InvalidSigns, noN := nb_InvalidSigns, iC := a1_InvalidSigns, tC := t1_InvalidSigns, kC := kC_InvalidSigns, exC := eC_InvalidSigns, tyC := tC_InvalidSigns, hdC := hC_InvalidSigns, te := exm_self eC_InvalidSigns iC_InvalidSigns tC_InvalidSigns sC_InvalidSigns, sp := bsp, rd := brd, fc := bfc, fn := ⟨_, _, _, _, _, _, _, _, _, _, _, _, _, _, _, _, _, _, _, _, _, _, _, l1_InvalidSigns, c1_InvalidSigns, fun env => ⟨_, rfl⟩⟩ }
  o_InvalidPassing_InvalidSigns := NotErr.of (PySem.W.mg_of X G aC_InvalidPassing) (PySem.W.mg_of X G aC_InvalidSigns) (exm_other eC_InvalidPassing eC_InvalidSigns iC_InvalidSigns tC_InvalidSigns no_InvalidPassing_InvalidSigns)
  o_InvalidSigns_InvalidPassing := NotErr.of (PySem.W.mg_of X G aC_InvalidSigns) (PySem.W.mg_of X G aC_InvalidPassing) (exm_other eC_InvalidSigns eC_InvalidPassing iC_InvalidPassing tC_InvalidPassing no_InvalidSigns_InvalidPassing)
  b_InvalidPassing := Under.of (PySem.W.mg_of X G aC_InvalidPassing) (PySem.W.mg_of X G bB) iB tB sB_InvalidPassing
  b_InvalidSigns := Under.of (PySem.W.mg_of X G aC_InvalidSigns) (PySem.W.mg_of X G bB) iB tB sB_InvalidSigns
  n_abs := PySem.W.mg_none_of X G z_abs
  n_all := PySem.W.mg_none_of X G z_all
  n_bool := PySem.W.mg_none_of X G z_bool
  n_int := PySem.W.mg_none_of X G z_int
  n_isinstance := PySem.W.mg_none_of X G z_isinstance
  n_len := PySem.W.mg_none_of X G z_len
  n_list := PySem.W.mg_none_of X G z_list
  n_max := PySem.W.mg_none_of X G z_max
  n_min := PySem.W.mg_none_of X G z_min
  n_range := PySem.W.mg_none_of X G z_range
  n_repr := PySem.W.mg_none_of X G z_repr
  n_str := PySem.W.mg_none_of X G z_str
  n_sum := PySem.W.mg_none_of X G z_sum
  n_tuple := PySem.W.mg_none_of X G z_tuple
  g_MOST_SIGNS := ⟨_, PySem.W.mg_of X G q_MOST_SIGNS⟩
end K04
open PySem PySem.W PyProof.Rows in
set_option maxRecDepth 100000 in
set_option maxHeartbeats 0 in
theorem PySem.Challenge.cw_spoiltline_k04_kinds_and_passings_holds : PySem.Challenge.rw_spoiltline_k04_kinds_and_passings.Holds := by
  w_on; o_law; k_head; (case hw => w_witness2)
  k_fill
  refine SL.walk_g (l := PySem.Challenge.rw_spoiltline_k04_kinds_and_passings) (k := 11) (x := "script") rfl (by decide) rfl ⟨rfl, by decide, by decide⟩ (fun w h Y => PySem.W.kIn_of Y) ?F (fun K H a ns hl hO hS => K04.law_sp hl hO hS)
  case F =>
    intro w mg fa h KX G hmg
    refine' K04.law_cal hmg (K04.all_mk KX G ?a0 ?l0 ?c0 ?k0 ?a1 ?l1 ?c1 ?k1 ?a2 ?l2 ?c2 ?k2 ?a3 ?l3 ?c3 ?k3 ?a4 ?l4 ?c4 ?k4 ?a5 ?l5 ?c5 ?k5 ?a6 ?l6 ?c6 ?k6 ?a7 ?l7 ?c7 ?k7 ?a8 ?l8 ?c8 ?k8 ?a9 ?l9 ?c9 ?k9 ?a10 ?l10 ?c10 ?k10 ?a11 ?l11 ?c11 ?k11 ?a12 ?l12 ?c12 ?k12 ?a13 ?l13 ?c13 ?k13 ?a14 ?l14 ?c14 ?k14 ?a15 ?l15 ?c15 ?k15 ?a16 ?l16 ?c16 ?k16 ?a17 ?l17 ?c17 ?k17 ?a18 ?l18 ?c18 ?k18 ?a19 ?l19 ?c19 ?k19 ?a20 ?l20 ?c20 ?k20 ?a21 ?l21 ?c21 ?k21 ?a22 ?l22 ?c22 ?k22 ?a23 ?l23 ?c23 ?k23 ?a24 ?l24 ?c24 ?k24 ?a25 ?l25 ?c25 ?k25 ?a26 ?l26 ?c26 ?k26 ?a27 ?l27 ?c27 ?k27 ?a28 ?l28 ?c28 ?k28 ?bB ?bsp ?brd ?bfc ?aC_InvalidPassing ?xL_InvalidPassing ?sa_InvalidPassing ?ga_InvalidPassing ?gg_InvalidPassing ?nb_InvalidPassing ?a1_InvalidPassing ?t1_InvalidPassing ?l1_InvalidPassing ?c1_InvalidPassing ?kC_InvalidPassing ?eC_InvalidPassing ?tC_InvalidPassing ?hC_InvalidPassing ?iC_InvalidPassing ?sC_InvalidPassing ?aC_InvalidSigns ?xL_InvalidSigns ?sa_InvalidSigns ?ga_InvalidSigns ?gg_InvalidSigns ?nb_InvalidSigns ?a1_InvalidSigns ?t1_InvalidSigns ?l1_InvalidSigns ?c1_InvalidSigns ?kC_InvalidSigns ?eC_InvalidSigns ?tC_InvalidSigns ?hC_InvalidSigns ?iC_InvalidSigns ?sC_InvalidSigns ?no_InvalidPassing_InvalidSigns ?no_InvalidSigns_InvalidPassing ?iB ?tB ?sB_InvalidPassing ?sB_InvalidSigns ?z_abs ?z_all ?z_bool ?z_int ?z_isinstance ?z_len ?z_list ?z_max ?z_min ?z_range ?z_repr ?z_str ?z_sum ?z_tuple ?q_MOST_SIGNS)
    (case a0 => k_is)
    (case l0 => k_is)
    (case c0 => k_is)
    (case k0 => k_is)
    (case a1 => k_is)
    (case l1 => k_is)
    (case c1 => k_is)
    (case k1 => k_is)
    (case a2 => k_is)
    (case l2 => k_is)
    (case c2 => k_is)
    (case k2 => k_is)
    (case a3 => k_is)
    (case l3 => k_is)
    (case c3 => k_is)
    (case k3 => k_is)
    (case a4 => k_is)
    (case l4 => k_is)
    (case c4 => k_is)
    (case k4 => k_is)
    (case a5 => k_is)
    (case l5 => k_is)
    (case c5 => k_is)
    (case k5 => k_is)
    (case a6 => k_is)
    (case l6 => k_is)
    (case c6 => k_is)
    (case k6 => k_is)
    (case a7 => k_is)
    (case l7 => k_is)
    (case c7 => k_is)
    (case k7 => k_is)
    (case a8 => k_is)
    (case l8 => k_is)
    (case c8 => k_is)
    (case k8 => k_is)
    (case a9 => k_is)
    (case l9 => k_is)
    (case c9 => k_is)
    (case k9 => k_is)
    (case a10 => k_is)
    (case l10 => k_is)
    (case c10 => k_is)
    (case k10 => k_is)
    (case a11 => k_is)
    (case l11 => k_is)
    (case c11 => k_is)
    (case k11 => k_is)
    (case a12 => k_is)
    (case l12 => k_is)
    (case c12 => k_is)
    (case k12 => k_is)
    (case a13 => k_is)
    (case l13 => k_is)
    (case c13 => k_is)
    (case k13 => k_is)
    (case a14 => k_is)
    (case l14 => k_is)
    (case c14 => k_is)
    (case k14 => k_is)
    (case a15 => k_is)
    (case l15 => k_is)
    (case c15 => k_is)
    (case k15 => k_is)
    (case a16 => k_is)
    (case l16 => k_is)
    (case c16 => k_is)
    (case k16 => k_is)
    (case a17 => k_is)
    (case l17 => k_is)
    (case c17 => k_is)
    (case k17 => k_is)
    (case a18 => k_is)
    (case l18 => k_is)
    (case c18 => k_is)
    (case k18 => k_is)
    (case a19 => k_is)
    (case l19 => k_is)
    (case c19 => k_is)
    (case k19 => k_is)
    (case a20 => k_is)
    (case l20 => k_is)
    (case c20 => k_is)
    (case k20 => k_is)
    (case a21 => k_is)
    (case l21 => k_is)
    (case c21 => k_is)
    (case k21 => k_is)
    (case a22 => k_is)
    (case l22 => k_is)
    (case c22 => k_is)
    (case k22 => k_is)
    (case a23 => k_is)
    (case l23 => k_is)
    (case c23 => k_is)
    (case k23 => k_is)
    (case a24 => k_is)
    (case l24 => k_is)
    (case c24 => k_is)
    (case k24 => k_is)
    (case a25 => k_is)
    (case l25 => k_is)
    (case c25 => k_is)
    (case k25 => k_is)
    (case a26 => k_is)
    (case l26 => k_is)
    (case c26 => k_is)
    (case k26 => k_is)
    (case a27 => k_is)
    (case l27 => k_is)
    (case c27 => k_is)
    (case k27 => k_is)
    (case a28 => k_is)
    (case l28 => k_is)
    (case c28 => k_is)
    (case k28 => k_is)
    (case bB => k_is)
    (case bsp => k_is)
    (case brd => k_is)
    (case bfc => k_is)
    (case aC_InvalidPassing => k_is)
    (case xL_InvalidPassing => k_is)
    (case sa_InvalidPassing => k_is)
    (case ga_InvalidPassing => k_is)
    (case gg_InvalidPassing => k_is)
    (case nb_InvalidPassing => k_is)
    (case a1_InvalidPassing => k_is)
    (case t1_InvalidPassing => k_is)
    (case l1_InvalidPassing => k_is)
    (case c1_InvalidPassing => k_is)
    (case kC_InvalidPassing => k_is)
    (case eC_InvalidPassing => k_is)
    (case tC_InvalidPassing => k_is)
    (case hC_InvalidPassing => k_is)
    (case iC_InvalidPassing => k_is)
    (case sC_InvalidPassing => k_is)
    (case aC_InvalidSigns => k_is)
    (case xL_InvalidSigns => k_is)
    (case sa_InvalidSigns => k_is)
    (case ga_InvalidSigns => k_is)
    (case gg_InvalidSigns => k_is)
    (case nb_InvalidSigns => k_is)
    (case a1_InvalidSigns => k_is)
    (case t1_InvalidSigns => k_is)
    (case l1_InvalidSigns => k_is)
    (case c1_InvalidSigns => k_is)
    (case kC_InvalidSigns => k_is)
    (case eC_InvalidSigns => k_is)
    (case tC_InvalidSigns => k_is)
    (case hC_InvalidSigns => k_is)
    (case iC_InvalidSigns => k_is)
    (case sC_InvalidSigns => k_is)
    (case no_InvalidPassing_InvalidSigns => k_is)
    (case no_InvalidSigns_InvalidPassing => k_is)
    (case iB => k_is)
    (case tB => k_is)
    (case sB_InvalidPassing => k_is)
    (case sB_InvalidSigns => k_is)
    (case z_abs => k_is)
    (case z_all => k_is)
    (case z_bool => k_is)
    (case z_int => k_is)
    (case z_isinstance => k_is)
    (case z_len => k_is)
    (case z_list => k_is)
    (case z_max => k_is)
    (case z_min => k_is)
    (case z_range => k_is)
    (case z_repr => k_is)
    (case z_str => k_is)
    (case z_sum => k_is)
    (case z_tuple => k_is)
    (case q_MOST_SIGNS => k_is)
